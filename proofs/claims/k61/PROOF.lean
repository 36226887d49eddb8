import PyProof.Rows.All
import Wide.All
import OpenK.AllK
import Wide.FinOn
import HandS.ForMost
import HandS.ForExc
import HandS.HeadHook2
import HandS.Wide
import HandS.WideBits
import HandS.IsInst
import PyProof.Rows.RuleB_pow
import HandS.CallSlots
import HandS.NoneIn
import HandS.Style
import HandS.ExcInit
import HandS.RaiseMore
import PyProof.ReprRoads
import PyProof.RulesAs
import PyProof.RulesTry
import HandS.ExcField
import HandS.TryMany
import HandS.Defaults
import HandS.MakeKwOnly
import HandS.HeadEnd
import KE.KStateDown
import HandS.Head0
import HandS.Head1
import HandS.Head2
import PySem.Challenge.RW_tickregisters_k61_loops_without_counters
set_option Elab.async false
set_option linter.all false
set_option maxRecDepth 100000
/-! The data layer over HandS: values as data (D), how data lie in the tracked heap (Rp), the slots' data (Rho), and what stays. -/
namespace DL
open PySem PySem.Spec PyProof.Rows L2

/-- data: what a value is, all the way down -/
inductive D where
  | non | bl (b : Bool) | int (i : Int) | str (s : Str)
  | tup (xs : List D) | lst (xs : List D)
  /-- the script: a list of ints that is read alone -/
  | scr (ns : List Int)

/-- the script's list: locked, or one of the module's own -/
def Scr (K : PySem.W.Frag) (H : Hp) (a : Addr) (xs : List V) : Prop := (∃ o, H a = some (.frz o (.lst xs))) ∨
  ∃ (o : Obj) (its : Array Value) (n : Nat), K.lookup a = some o ∧ o.cls = .type "list" ∧ o.dict = none ∧ o.data = .seq its n ∧ its.size ≤ sizeLine ∧ Vals xs its.toList
theorem Scr.sq {K : PySem.W.Frag} {H : Hp} {a : Addr} {xs : List V} (h : Scr K H a xs) : SqL K H a xs := h.elim (fun h => .inl (.inr h)) .inr
/-- a list that may be read at a; it is not one of those at B -/
def SqB (H : Hp) (B : Addr → Prop) (a : Addr) (xs : List V) : Prop := ¬ B a ∧ H a = some (.lst xs)

mutual
/-- the value v is the datum; its lists are none of those at B -/
def Rp (K : PySem.W.Frag) (H : Hp) (B : Addr → Prop) : D → V → Prop
  | .non, v => v = .non
  | .bl b, v => v = .bl b
  | .int i, v => v = .int i
  | .str s, v => v = .str s
  | .tup ds, v => ∃ a vs, v = V.ref a ∧ SqT K H a vs ∧ Rps K H B ds vs
  | .lst ds, v => ∃ a vs, v = V.ref a ∧ SqB H B a vs ∧ Rps K H B ds vs
  | .scr ns, v => ∃ a, v = V.ref a ∧ Scr K H a (ns.map V.int)
def Rps (K : PySem.W.Frag) (H : Hp) (B : Addr → Prop) : List D → List V → Prop
  | [], vs => vs = []
  | d :: ds, vs => ∃ v r, vs = v :: r ∧ Rp K H B d v ∧ Rps K H B ds r
end

/-- what is written stands at B: lists -/
def BL (H : Hp) (B : Addr → Prop) : Prop := ∀ a, B a → ∃ xs, H a = some (.lst xs)
/-- what stood, but for what may be written, stands -/
structure Stab (H : Hp) (B : Addr → Prop) (H' : Hp) (B' : Addr → Prop) : Prop where
  kp : ∀ a o, H a = some o → ¬ B a → H' a = some o
  sub : ∀ a, B' a → H a ≠ none → B a
  tr : ∀ a, H a ≠ none → H' a ≠ none
theorem Stab.refl (H : Hp) (B : Addr → Prop) : Stab H B H B := ⟨fun _ _ h _ => h, fun _ h _ => h, fun _ h => h⟩
theorem Stab.trans {H H1 H2 : Hp} {B B1 B2 : Addr → Prop} (a : Stab H B H1 B1) (b : Stab H1 B1 H2 B2) : Stab H B H2 B2 := by
  refine ⟨fun x o h n => ?_, fun x h2 n => ?_, fun x h => b.tr x (a.tr x h)⟩
  · exact b.kp x o (a.kp x o h n) fun z => n (a.sub x z (by rw [h]; exact fun q => nomatch q))
  · by_cases hb : B x
    · exact hb
    · cases e : H x with
      | none => exact absurd e n
      | some o =>
        have h1 := a.kp x o e hb
        exact a.sub x (b.sub x h2 (by rw [h1]; exact fun q => nomatch q)) n

theorem SqT.stab {K : PySem.W.Frag} {H H' : Hp} {B B' : Addr → Prop} {a : Addr} {xs : List V} (h : SqT K H a xs) (bl : BL H B) (s : Stab H B H' B') : SqT K H' a xs := by
  rcases h with (h | ⟨o, h⟩) | h
  · refine .inl (.inl (s.kp _ _ h fun z => ?_))
    obtain ⟨ys, e⟩ := bl a z
    rw [h] at e
    cases e
  · refine .inl (.inr ⟨o, s.kp _ _ h fun z => ?_⟩)
    obtain ⟨ys, e⟩ := bl a z
    rw [h] at e
    cases e
  · exact .inr h
theorem SqB.stab {H H' : Hp} {B B' : Addr → Prop} {a : Addr} {xs : List V} (h : SqB H B a xs) (s : Stab H B H' B') : SqB H' B' a xs := by
  obtain ⟨n, h⟩ := h
  exact ⟨fun z => n (s.sub a z (by rw [h]; exact fun q => nomatch q)), s.kp _ _ h n⟩
theorem Scr.stab {K : PySem.W.Frag} {H H' : Hp} {B B' : Addr → Prop} {a : Addr} {xs : List V} (h : Scr K H a xs) (bl : BL H B) (s : Stab H B H' B') : Scr K H' a xs := by
  rcases h with ⟨o, h⟩ | h
  · refine .inl ⟨o, s.kp _ _ h fun z => ?_⟩
    obtain ⟨ys, e⟩ := bl a z
    rw [h] at e
    cases e
  · exact .inr h
theorem SqB.sq {K : PySem.W.Frag} {H : Hp} {B : Addr → Prop} {a : Addr} {xs : List V} (h : SqB H B a xs) : SqL K H a xs := SqL.of h.2
mutual
theorem Rp.stab {K : PySem.W.Frag} {H H' : Hp} {B B' : Addr → Prop} (bl : BL H B) (s : Stab H B H' B') : ∀ {d : D} {v : V}, Rp K H B d v → Rp K H' B' d v
  | .non, _, h => h
  | .bl _, _, h => h
  | .int _, _, h => h
  | .str _, _, h => h
  | .tup ds, _, h => by
    obtain ⟨a, vs, e, h1, h2⟩ := h
    exact ⟨a, vs, e, SqT.stab h1 bl s, Rps.stab bl s h2⟩
  | .lst ds, _, h => by
    obtain ⟨a, vs, e, h1, h2⟩ := h
    exact ⟨a, vs, e, SqB.stab h1 s, Rps.stab bl s h2⟩
  | .scr ns, _, h => by
    obtain ⟨a, e, h1⟩ := h
    exact ⟨a, e, Scr.stab h1 bl s⟩
theorem Rps.stab {K : PySem.W.Frag} {H H' : Hp} {B B' : Addr → Prop} (bl : BL H B) (s : Stab H B H' B') : ∀ {ds : List D} {vs : List V}, Rps K H B ds vs → Rps K H' B' ds vs
  | [], _, h => h
  | d :: ds, _, h => by
    obtain ⟨v, r, e, h1, h2⟩ := h
    exact ⟨v, r, e, Rp.stab bl s h1, Rps.stab bl s h2⟩
end
mutual
/-- fewer places that are barred -/
theorem Rp.stabB {K : PySem.W.Frag} {H : Hp} {B B' : Addr → Prop} (s : ∀ a, B' a → B a) : ∀ {d : D} {v : V}, Rp K H B d v → Rp K H B' d v
  | .non, _, h => h
  | .bl _, _, h => h
  | .int _, _, h => h
  | .str _, _, h => h
  | .tup ds, _, h => by
    obtain ⟨a, vs, e, h1, h2⟩ := h
    exact ⟨a, vs, e, h1, Rps.stabB s h2⟩
  | .lst ds, _, h => by
    obtain ⟨a, vs, e, h1, h2⟩ := h
    exact ⟨a, vs, e, ⟨fun z => h1.1 (s _ z), h1.2⟩, Rps.stabB s h2⟩
  | .scr ns, _, h => h
theorem Rps.stabB {K : PySem.W.Frag} {H : Hp} {B B' : Addr → Prop} (s : ∀ a, B' a → B a) : ∀ {ds : List D} {vs : List V}, Rps K H B ds vs → Rps K H B' ds vs
  | [], _, h => h
  | d :: ds, _, h => by
    obtain ⟨v, r, e, h1, h2⟩ := h
    exact ⟨v, r, e, Rp.stabB s h1, Rps.stabB s h2⟩
end
theorem Rps.cons {K : PySem.W.Frag} {H : Hp} {B : Addr → Prop} {d : D} {ds : List D} {v : V} {vs : List V} (h1 : Rp K H B d v) (h2 : Rps K H B ds vs) : Rps K H B (d :: ds) (v :: vs) := ⟨v, vs, rfl, h1, h2⟩
theorem Rps.length {K : PySem.W.Frag} {H : Hp} {B : Addr → Prop} : ∀ {ds : List D} {vs : List V}, Rps K H B ds vs → ds.length = vs.length
  | [], _, h => by
    have e : _ = [] := h
    rw [e]
    rfl
  | d :: ds, _, h => by
    obtain ⟨v, r, e, h1, h2⟩ := h
    rw [e, List.length_cons, List.length_cons, Rps.length h2]
theorem Rps.get {K : PySem.W.Frag} {H : Hp} {B : Addr → Prop} : ∀ {ds : List D} {vs : List V} {i : Nat} {d : D}, Rps K H B ds vs → ds[i]? = some d → ∃ v, vs[i]? = some v ∧ Rp K H B d v
  | [], _, _, _, _, e => by simp at e
  | d :: ds, _, 0, d', h, e => by
    obtain ⟨v, r, rfl, h1, h2⟩ := h
    simp at e
    subst e
    exact ⟨v, rfl, h1⟩
  | d :: ds, _, i + 1, d', h, e => by
    obtain ⟨v, r, rfl, h1, h2⟩ := h
    simp at e
    obtain ⟨v', e', h'⟩ := Rps.get (i := i) h2 e
    exact ⟨v', by simpa using e', h'⟩
theorem Rps.getv {K : PySem.W.Frag} {H : Hp} {B : Addr → Prop} : ∀ {ds : List D} {vs : List V} {i : Nat} {v : V}, Rps K H B ds vs → vs[i]? = some v → ∃ d, ds[i]? = some d ∧ Rp K H B d v
  | [], _, _, _, h, e => by
    have z : _ = [] := h
    rw [z] at e
    simp at e
  | d :: ds, _, 0, v', h, e => by
    obtain ⟨v, r, rfl, h1, h2⟩ := h
    simp at e
    subst e
    exact ⟨d, rfl, h1⟩
  | d :: ds, _, i + 1, v', h, e => by
    obtain ⟨v, r, rfl, h1, h2⟩ := h
    simp at e
    obtain ⟨d', e', h'⟩ := Rps.getv (i := i) h2 e
    exact ⟨d', by simpa using e', h'⟩
theorem Rps.append {K : PySem.W.Frag} {H : Hp} {B : Addr → Prop} : ∀ {ds es : List D} {vs us : List V}, Rps K H B ds vs → Rps K H B es us → Rps K H B (ds ++ es) (vs ++ us)
  | [], _, _, _, h, g => by
    have e : _ = [] := h
    rw [e]
    exact g
  | d :: ds, _, _, _, h, g => by
    obtain ⟨v, r, rfl, h1, h2⟩ := h
    exact ⟨v, _, rfl, h1, Rps.append h2 g⟩
theorem Rps.set {K : PySem.W.Frag} {H : Hp} {B : Addr → Prop} {d : D} {v : V} (hv : Rp K H B d v) : ∀ {ds : List D} {vs : List V} (i : Nat), Rps K H B ds vs → Rps K H B (ds.set i d) (vs.set i v)
  | [], _, _, h => by
    have e : _ = [] := h
    rw [e]
    exact rfl
  | _ :: ds, _, 0, h => by
    obtain ⟨v, r, rfl, h1, h2⟩ := h
    exact ⟨_, _, rfl, hv, h2⟩
  | _ :: ds, _, i + 1, h => by
    obtain ⟨v, r, rfl, h1, h2⟩ := h
    exact ⟨_, _, rfl, h1, Rps.set hv i h2⟩
theorem Rps.take {K : PySem.W.Frag} {H : Hp} {B : Addr → Prop} : ∀ {ds : List D} {vs : List V} (n : Nat), Rps K H B ds vs → Rps K H B (ds.take n) (vs.take n)
  | _, _, 0, _ => by
    rw [List.take_zero, List.take_zero]
    exact rfl
  | [], _, _ + 1, h => by
    have e : _ = [] := h
    rw [e]
    exact rfl
  | _ :: ds, _, n + 1, h => by
    obtain ⟨v, r, rfl, h1, h2⟩ := h
    exact ⟨_, _, rfl, h1, Rps.take n h2⟩
theorem Rps.drop {K : PySem.W.Frag} {H : Hp} {B : Addr → Prop} : ∀ {ds : List D} {vs : List V} (n : Nat), Rps K H B ds vs → Rps K H B (ds.drop n) (vs.drop n)
  | _, _, 0, h => h
  | [], _, _ + 1, h => by
    have e : _ = [] := h
    rw [e]
    exact rfl
  | _ :: ds, _, n + 1, h => by
    obtain ⟨v, r, rfl, h1, h2⟩ := h
    exact Rps.drop n h2
theorem Rps.ints {K : PySem.W.Frag} {H : Hp} {B : Addr → Prop} : ∀ (ns : List Int), Rps K H B (ns.map D.int) (ns.map V.int)
  | [] => rfl
  | n :: r => ⟨_, _, rfl, rfl, Rps.ints r⟩

/-! ### the slots' data -/
/-- how a slot holds its datum: shared; a list of its own; a list handed in to be written -/
inductive Fl where
  | sh | ow | io
  deriving DecidableEq
abbrev Rho := List (Option (Fl × D))
/-- a def's entry: the heap, what is written by somebody around, what this def may write -/
structure En where
  H0 : Hp
  B0 : Addr → Prop
  N0 : Addr → Prop
  V0 : List V
/-- the lists that the slots write -/
def Own (σ : L2.St) (ρ : Rho) (a : Addr) : Prop := ∃ (i : Nat) (fl : Fl) (d : D), ρ[i]? = some (some (fl, d)) ∧ fl ≠ .sh ∧ σ[i]? = some (some (V.ref a))
def Ban (en : En) (σ : L2.St) (ρ : Rho) (a : Addr) : Prop := en.B0 a ∨ Own σ ρ a
structure Ok (K : PySem.W.Frag) (en : En) (σ : L2.St) (H : Hp) (ρ : Rho) : Prop where
  len : σ.length = ρ.length
  nb : ∀ a, en.N0 a → en.B0 a
  kp : ∀ a o, en.H0 a = some o → ¬ en.N0 a → H a = some o
  bl : BL H (Ban en σ ρ)
  sh : ∀ (i : Nat) (d : D), ρ[i]? = some (some (Fl.sh, d)) → ∃ v, σ[i]? = some (some v) ∧ Rp K H (Ban en σ ρ) d v
  ow : ∀ (i : Nat) (fl : Fl) (d : D), fl ≠ .sh → ρ[i]? = some (some (fl, d)) → ∃ (a : Addr) (xs : List V) (ds : List D), σ[i]? = some (some (V.ref a)) ∧ d = .lst ds ∧ H a = some (.lst xs) ∧ Rps K H (Ban en σ ρ) ds xs ∧ (fl = .ow → en.H0 a = none ∧ ¬ en.B0 a) ∧ (fl = .io → en.N0 a ∧ en.V0[i]? = some (V.ref a))
  inj : ∀ (i j : Nat) (a : Addr) (fl : Fl) (d : D) (fl' : Fl) (d' : D), ρ[i]? = some (some (fl, d)) → fl ≠ .sh → ρ[j]? = some (some (fl', d')) → fl' ≠ .sh → σ[i]? = some (some (V.ref a)) → σ[j]? = some (some (V.ref a)) → i = j
end DL
set_option Elab.async false
set_option linter.all false
set_option maxRecDepth 100000
/-! The data layer, second part: what code does to the slots' data (M), and the judgements: an expression does so (DE), a test (DT), arguments (DA), a statement (DS). -/
namespace DL
open PySem PySem.Spec PyProof.Rows L2

/-! ### code's doings -/
structure Exn where
  cls : Str
  fs : List (Str × D)
inductive Out (α : Type) where
  | ok (a : α) (ρ : Rho)
  | ex (x : Exn) (ρ : Rho)
  | stuck
def M (α : Type) := Rho → Out α
namespace M
def ret {α : Type} (a : α) : M α := fun ρ => .ok a ρ
def bnd {α β : Type} (m : M α) (k : α → M β) : M β := fun ρ => match m ρ with
  | .ok a ρ' => k a ρ'
  | .ex x ρ' => .ex x ρ'
  | .stuck => .stuck
instance : Monad M where
  pure := M.ret
  bind := M.bnd
def stop {α : Type} : M α := fun _ => .stuck
def lift {α : Type} : Option α → M α
  | some a => M.ret a
  | none => M.stop
end M
inductive Fw where
  | nx | rt (d : D) | bk | ct

def RpF (K : PySem.W.Frag) (H : Hp) (B : Addr → Prop) : List (Str × D) → List (Str × V) → Prop
  | [], vs => vs = []
  | (f, d) :: r, vs => ∃ v q, vs = (f, v) :: q ∧ Rp K H B d v ∧ RpF K H B r q
theorem RpF.stab {K : PySem.W.Frag} {H H' : Hp} {B B' : Addr → Prop} (bl : BL H B) (s : Stab H B H' B') : ∀ {ds : List (Str × D)} {vs : List (Str × V)}, RpF K H B ds vs → RpF K H' B' ds vs
  | [], _, h => h
  | (f, d) :: ds, _, h => by
    obtain ⟨v, r, e, h1, h2⟩ := h
    exact ⟨v, r, e, Rp.stab bl s h1, RpF.stab bl s h2⟩
theorem look_cons {β : Type} (f g : Str) (y : β) (l : List (Str × β)) : ((f, y) :: l).lookup g = if g = f then some y else l.lookup g := by
  by_cases h : g = f
  · subst h
    simp [List.lookup]
  · have e : (g == f) = false := by simpa using h
    rw [if_neg h]
    simp [List.lookup, e]
theorem RpF.get {K : PySem.W.Frag} {H : Hp} {B : Addr → Prop} {g : Str} {d : D} : ∀ {ds : List (Str × D)} {vs : List (Str × V)}, RpF K H B ds vs → ds.lookup g = some d → ∃ v, vs.lookup g = some v ∧ Rp K H B d v
  | [], _, h, e => by
    simp at e
  | (f, d') :: ds, _, h, e => by
    obtain ⟨v, r, e1, h1, h2⟩ := h
    subst e1
    rw [look_cons] at e
    rw [look_cons]
    by_cases q : g = f
    · rw [if_pos q] at e ⊢
      cases e
      exact ⟨v, rfl, h1⟩
    · rw [if_neg q] at e ⊢
      exact RpF.get h2 e
/-- an exception x, its class and its own dict -/
def ExAt (K : PySem.W.Frag) (H : Hp) (B : Addr → Prop) (x : Exn) (cls : Value) (d : Option Addr) : Prop :=
  cls = .ref (He.ga K x.cls) ∧ ((x.fs = [] ∧ d = none) ∨ ∃ a vs, d = some a ∧ H a = some (.xd vs) ∧ RpF K H B x.fs vs)

/-- where one stands: the context, the wish about exceptions, what is known besides -/
structure Cn where
  X : Cx
  W : WX
  J : L2.St → Hp → (Addr → Prop) → Prop
  hJ : ∀ {σ H B H' B'}, BL H B → Stab H B H' B' → J σ H B → J σ H' B'
  fr : Bool
/-- what a return hands out: a value of the datum; where fr: a list is a new one that nobody else holds -/
def RtOk (fr : Bool) (K : PySem.W.Frag) (H0 : Hp) (B0 : Addr → Prop) (H : Hp) (B : Addr → Prop) (d : D) (v : V) : Prop := match fr, d with
  | true, .lst ds => ∃ p vs, v = .ref p ∧ H0 p = none ∧ H p = some (.lst vs) ∧ Rps K H (fun a => B0 a ∨ a = p) ds vs
  | _, d => Rp K H B d v
theorem RtOk.stab {fr : Bool} {K : PySem.W.Frag} {H0 : Hp} {B0 : Addr → Prop} {H : Hp} {B B' : Addr → Prop} {d : D} {v : V} (r : RtOk fr K H0 B0 H B d v) (bl : BL H B) (s : Stab H B H B') : RtOk fr K H0 B0 H B' d v := by
  cases fr with
  | false =>
    have r' : Rp K H B d v := r
    exact r'.stab bl s
  | true =>
    cases d with
    | lst ds => exact r
    | _ => exact Rp.stab bl s r
theorem RtOk.of_rp {fr : Bool} {K : PySem.W.Frag} {H0 : Hp} {B0 : Addr → Prop} {H : Hp} {B : Addr → Prop} {d : D} {v : V} (h : fr = false ∨ ∀ ds, d ≠ .lst ds) (r : Rp K H B d v) : RtOk fr K H0 B0 H B d v := by
  cases fr with
  | false => exact r
  | true =>
    cases d with
    | lst ds =>
      rcases h with h | h
      · cases h
      · exact absurd rfl (h ds)
    | _ => exact r
theorem RtOk.rp {fr : Bool} {K : PySem.W.Frag} {H0 : Hp} {H : Hp} {B : Addr → Prop} {d : D} {v : V} (r : RtOk fr K H0 B H B d v) (bl : BL H0 B) : Rp K H B d v := by
  cases fr with
  | false => exact r
  | true =>
    cases d with
    | lst ds =>
      obtain ⟨p, vs, e, h0, h1, h2⟩ := r
      have np : ¬ B p := fun z => by
        obtain ⟨xs, y⟩ := bl p z
        rw [h0] at y
        cases y
      exact ⟨p, vs, e, ⟨np, h1⟩, Rps.stabB (fun a z => .inl z) h2⟩
    | _ => exact r
/-- what is known besides does not hang on the slots -/
def Cn.Any (Γ : Cn) : Prop := ∀ σ σ' H B, Γ.J σ H B → Γ.J σ' H B

def Post (Γ : Cn) (en : En) (σ : L2.St) (H : Hp) (B : Addr → Prop) {α : Type} (o : Out α) (P : α → Hp → Rho → Prop) : Prop := match o with
  | .ok a ρ' => ∀ H', Ok Γ.X.K en σ H' ρ' → Stab H B H' (Ban en σ ρ') → P a H' ρ'
  | .ex x ρ' => ∀ H' cls d, Ok Γ.X.K en σ H' ρ' → Stab H B H' (Ban en σ ρ') → ExAt Γ.X.K H' (Ban en σ ρ') x cls d → Γ.W cls d σ H'
  | .stuck => False
/-- where the slots may have been stored -/
def PostX (Γ : Cn) (en : En) (H : Hp) (B : Addr → Prop) {α : Type} (o : Out α) (P : α → L2.St → Hp → Rho → Prop) : Prop := match o with
  | .ok a ρ' => ∀ σ' H', Ok Γ.X.K en σ' H' ρ' → Stab H B H' (Ban en σ' ρ') → P a σ' H' ρ'
  | .ex x ρ' => ∀ σ' H' cls d, Ok Γ.X.K en σ' H' ρ' → Stab H B H' (Ban en σ' ρ') → ExAt Γ.X.K H' (Ban en σ' ρ') x cls d → Γ.W cls d σ' H'
  | .stuck => False
def FwE (Γ : Cn) (en : En) (E : Ends) : Fw → L2.St → Hp → Rho → Prop
  | .nx, σ', H', _ => E.nx σ' H'
  | .rt d, σ', H', ρ' => ∀ v, RtOk Γ.fr Γ.X.K en.H0 en.B0 H' (Ban en σ' ρ') d v → E.rt v H'
  | .bk, σ', H', _ => E.bk σ' H'
  | .ct, σ', H', _ => E.ct σ' H'
def PostS (Γ : Cn) (en : En) (H : Hp) (B : Addr → Prop) (o : Out Fw) (E : Ends) : Prop := PostX Γ en H B o (FwE Γ en E)

structure DE (Γ : Cn) (e : Expr) (m : M D) : Prop where
  ex : ∃ t, PE Γ.X e t ∧ ∀ en σ H ρ (Q : VK), Ok Γ.X.K en σ H ρ → Γ.J σ H (Ban en σ ρ) → Post Γ en σ H (Ban en σ ρ) (m ρ) (fun d H' ρ' => ∀ v, Rp Γ.X.K H' (Ban en σ ρ') d v → Q v H') → t σ H Q
structure DT (Γ : Cn) (e : Expr) (m : M Bool) : Prop where
  ex : ∃ t, PT Γ.X e t ∧ ∀ en σ H ρ (Q : Bool → Hp → Prop), Ok Γ.X.K en σ H ρ → Γ.J σ H (Ban en σ ρ) → Post Γ en σ H (Ban en σ ρ) (m ρ) (fun b H' _ => Q b H') → t σ H Q
structure DA (Γ : Cn) (es : List Expr) (m : M (List D)) : Prop where
  ex : ∃ t, PA Γ.X es t ∧ ∀ en σ H ρ (Q : List V → Hp → Prop), Ok Γ.X.K en σ H ρ → Γ.J σ H (Ban en σ ρ) → Post Γ en σ H (Ban en σ ρ) (m ρ) (fun ds H' ρ' => ∀ vs, Rps Γ.X.K H' (Ban en σ ρ') ds vs → Q vs H') → t σ H Q
structure DS (Γ : Cn) (st : Stmt) (m : M Fw) : Prop where
  ex : ∃ t, PS Γ.X st t ∧ ∀ en σ H ρ (E : Ends), Ok Γ.X.K en σ H ρ → Γ.J σ H (Ban en σ ρ) → PostS Γ en H (Ban en σ ρ) (m ρ) E → t E σ H
structure DSs (Γ : Cn) (st : List Stmt) (m : M Fw) : Prop where
  ex : ∃ t, PSs Γ.X st t ∧ ∀ en σ H ρ (E : Ends), Ok Γ.X.K en σ H ρ → Γ.J σ H (Ban en σ ρ) → PostS Γ en H (Ban en σ ρ) (m ρ) E → t E σ H

section
variable {Γ : Cn} {en : En} {σ : L2.St} {H H1 : Hp} {B B1 : Addr → Prop} {ρ ρ1 : Rho} {α β : Type}
theorem Post.later {o : Out α} {P : α → Hp → Rho → Prop} (s : Stab H B H1 B1) (h : Post Γ en σ H B o P) : Post Γ en σ H1 B1 o P := by
  cases o with
  | ok a ρ' => exact fun H' k s' => h H' k (s.trans s')
  | ex x ρ' => exact fun H' c d k s' => h H' c d k (s.trans s')
  | stuck => exact h
theorem Post.mono {o : Out α} {P P' : α → Hp → Rho → Prop} (h : Post Γ en σ H B o P) (i : ∀ a H' ρ', Ok Γ.X.K en σ H' ρ' → Stab H B H' (Ban en σ ρ') → P a H' ρ' → P' a H' ρ') : Post Γ en σ H B o P' := by
  cases o with
  | ok a ρ' => exact fun H' k s' => i a H' ρ' k s' (h H' k s')
  | ex x ρ' => exact h
  | stuck => exact h
theorem Post.bind {m : M α} {k : α → M β} {P : β → Hp → Rho → Prop} (h : Post Γ en σ H B ((M.bnd m k) ρ) P) :
    Post Γ en σ H B (m ρ) (fun a H1 ρ1 => Stab H B H1 (Ban en σ ρ1) ∧ Ok Γ.X.K en σ H1 ρ1 ∧ Post Γ en σ H1 (Ban en σ ρ1) (k a ρ1) P) := by
  unfold M.bnd at h
  cases e : m ρ with
  | ok a ρ' =>
    rw [e] at h
    exact fun H' ok s => ⟨s, ok, h.later s⟩
  | ex x ρ' =>
    rw [e] at h
    exact h
  | stuck =>
    rw [e] at h
    exact h
theorem Post.ret {a : α} {P : α → Hp → Rho → Prop} (ok : Ok Γ.X.K en σ H ρ) (s : Stab H (Ban en σ ρ) H (Ban en σ ρ)) (h : Post Γ en σ H (Ban en σ ρ) (M.ret a ρ) P) : P a H ρ := h H ok s
theorem Post.ret' {a : α} {P : α → Hp → Rho → Prop} (ok : Ok Γ.X.K en σ H ρ) (h : Post Γ en σ H (Ban en σ ρ) (.ok a ρ) P) : P a H ρ := h H ok (Stab.refl _ _)
theorem PostX.later {o : Out α} {P : α → L2.St → Hp → Rho → Prop} (s : Stab H B H1 B1) (h : PostX Γ en H B o P) : PostX Γ en H1 B1 o P := by
  cases o with
  | ok a ρ' => exact fun σ' H' k s' => h σ' H' k (s.trans s')
  | ex x ρ' => exact fun σ' H' c d k s' => h σ' H' c d k (s.trans s')
  | stuck => exact h
theorem PostX.mono {o : Out α} {P P' : α → L2.St → Hp → Rho → Prop} (h : PostX Γ en H B o P) (i : ∀ a σ' H' ρ', Ok Γ.X.K en σ' H' ρ' → Stab H B H' (Ban en σ' ρ') → P a σ' H' ρ' → P' a σ' H' ρ') : PostX Γ en H B o P' := by
  cases o with
  | ok a ρ' => exact fun σ' H' k s' => i a σ' H' ρ' k s' (h σ' H' k s')
  | ex x ρ' => exact h
  | stuck => exact h
theorem PostX.bind {m : M α} {k : α → M β} {P : β → L2.St → Hp → Rho → Prop} (h : PostX Γ en H B ((M.bnd m k) ρ) P) :
    PostX Γ en H B (m ρ) (fun a σ1 H1 ρ1 => Stab H B H1 (Ban en σ1 ρ1) ∧ Ok Γ.X.K en σ1 H1 ρ1 ∧ PostX Γ en H1 (Ban en σ1 ρ1) (k a ρ1) P) := by
  unfold M.bnd at h
  cases e : m ρ with
  | ok a ρ' =>
    rw [e] at h
    exact fun σ' H' ok s => ⟨s, ok, h.later s⟩
  | ex x ρ' =>
    rw [e] at h
    exact h
  | stuck =>
    rw [e] at h
    exact h
theorem PostX.ret' {a : α} {P : α → L2.St → Hp → Rho → Prop} (ok : Ok Γ.X.K en σ H ρ) (h : PostX Γ en H (Ban en σ ρ) (.ok a ρ) P) : P a σ H ρ := h σ H ok (Stab.refl _ _)
/-- an expression first -/
theorem PostX.bindE {m : M α} {k : α → M β} {P : β → L2.St → Hp → Rho → Prop} (h : PostX Γ en H B ((M.bnd m k) ρ) P) :
    Post Γ en σ H B (m ρ) (fun a H1 ρ1 => Stab H B H1 (Ban en σ ρ1) ∧ Ok Γ.X.K en σ H1 ρ1 ∧ PostX Γ en H1 (Ban en σ ρ1) (k a ρ1) P) := by
  unfold M.bnd at h
  cases e : m ρ with
  | ok a ρ' =>
    rw [e] at h
    exact fun H' ok s => ⟨s, ok, h.later s⟩
  | ex x ρ' =>
    rw [e] at h
    exact fun H' c d ok s x => h σ H' c d ok s x
  | stuck =>
    rw [e] at h
    exact h
theorem PostS.later {o : Out Fw} {E : Ends} (s : Stab H B H1 B1) (h : PostS Γ en H B o E) : PostS Γ en H1 B1 o E := PostX.later s h
end

/-! ### what the slots hold -/
section
variable {K : PySem.W.Frag} {en : En} {σ : L2.St} {H H1 : Hp} {ρ ρ1 : Rho} {i : Nat} {a : Addr} {d : D} {v : V}
theorem own_sh {x : Option V} (h : Own (σ.set i x) (ρ.set i (some (.sh, d))) a) : Own σ ρ a := by
  obtain ⟨j, fl, e, h1, h2, h3⟩ := h
  by_cases q : i = j
  · subst q
    by_cases hi : i < ρ.length
    · rw [List.getElem?_set_self hi] at h1
      cases h1
      exact absurd rfl h2
    · rw [List.getElem?_eq_none (by rw [List.length_set]; omega)] at h1
      cases h1
  · rw [List.getElem?_set_ne q] at h1 h3
    exact ⟨j, fl, e, h1, h2, h3⟩
theorem ban_sh {x : Option V} (h : Ban en (σ.set i x) (ρ.set i (some (.sh, d))) a) : Ban en σ ρ a := h.imp id own_sh
/-- a slot is stored -/
theorem Ok.set_sh (ok : Ok K en σ H ρ) (r : Rp K H (Ban en σ ρ) d v) : Ok K en (σ.set i (some v)) H (ρ.set i (some (.sh, d))) ∧ Stab H (Ban en σ ρ) H (Ban en (σ.set i (some v)) (ρ.set i (some (.sh, d)))) := by
  have st : Stab H (Ban en σ ρ) H (Ban en (σ.set i (some v)) (ρ.set i (some (.sh, d)))) := ⟨fun _ _ h _ => h, fun a h _ => ban_sh h, fun _ h => h⟩
  refine ⟨⟨by rw [List.length_set, List.length_set]; exact ok.len, ok.nb, ok.kp, fun a h => ok.bl a (ban_sh h), fun j e h => ?_, fun j fl e hf h => ?_, fun j k a fl e fl' e' h1 f1 h2 f2 h3 h4 => ?_⟩, st⟩
  · by_cases q : i = j
    · subst q
      by_cases hi : i < ρ.length
      · rw [List.getElem?_set_self hi] at h
        cases h
        exact ⟨v, List.getElem?_set_self (by rw [ok.len]; exact hi), r.stab ok.bl st⟩
      · rw [List.getElem?_eq_none (by rw [List.length_set]; omega)] at h
        cases h
    · rw [List.getElem?_set_ne q] at h
      obtain ⟨u, h1, h2⟩ := ok.sh j e h
      exact ⟨u, by rw [List.getElem?_set_ne q]; exact h1, h2.stab ok.bl st⟩
  · have q : i ≠ j := fun q => by
      subst q
      by_cases hi : i < ρ.length
      · rw [List.getElem?_set_self hi] at h
        cases h
        exact hf rfl
      · rw [List.getElem?_eq_none (by rw [List.length_set]; omega)] at h
        cases h
    rw [List.getElem?_set_ne q] at h
    obtain ⟨a, xs, ds, h1, h2, h3, h4, h5⟩ := ok.ow j fl e hf h
    exact ⟨a, xs, ds, by rw [List.getElem?_set_ne q]; exact h1, h2, h3, Rps.stab ok.bl st h4, h5⟩
  · have nq : ∀ {l : Nat} {g : Fl} {z : D}, (ρ.set i (some (.sh, d)))[l]? = some (some (g, z)) → g ≠ .sh → i ≠ l := fun {l g z} h hg q => by
      subst q
      by_cases hi : i < ρ.length
      · rw [List.getElem?_set_self hi] at h
        cases h
        exact hg rfl
      · rw [List.getElem?_eq_none (by rw [List.length_set]; omega)] at h
        cases h
    have q1 := nq h1 f1
    have q2 := nq h2 f2
    rw [List.getElem?_set_ne q1] at h1 h3
    rw [List.getElem?_set_ne q2] at h2 h4
    exact ok.inj j k a fl e fl' e' h1 f1 h2 f2 h3 h4
theorem set_self_some {α : Type} : ∀ {l : List α} {i : Nat} {x : α}, l[i]? = some x → l.set i x = l
  | [], _, _, h => by simp at h
  | y :: l, 0, x, h => by
    simp at h
    rw [h]
    rfl
  | y :: l, i + 1, x, h => by
    simp at h
    show y :: l.set i x = y :: l
    rw [set_self_some h]
/-- a list of a slot's own is handed on: shared from here on -/
theorem Ok.demote (ok : Ok K en σ H ρ) (h : ρ[i]? = some (some (.ow, d))) :
    ∃ v, σ[i]? = some (some v) ∧ Ok K en σ H (ρ.set i (some (.sh, d))) ∧ Stab H (Ban en σ ρ) H (Ban en σ (ρ.set i (some (.sh, d)))) ∧ Rp K H (Ban en σ (ρ.set i (some (.sh, d)))) d v := by
  obtain ⟨a, xs, ds, h1, h2, h3, h4, h5, _⟩ := ok.ow i .ow d (by decide) h
  have hi : i < ρ.length := by
    by_cases q : i < ρ.length
    · exact q
    · rw [List.getElem?_eq_none (by omega)] at h
      cases h
  have sub : ∀ b, Own σ (ρ.set i (some (.sh, d))) b → Own σ ρ b := fun b z => by
    have e := set_self_some h1
    rw [← e] at z
    have y := own_sh z
    exact y
  have sb : ∀ b, Ban en σ (ρ.set i (some (.sh, d))) b → Ban en σ ρ b := fun b z => z.imp id (sub b)
  have st : Stab H (Ban en σ ρ) H (Ban en σ (ρ.set i (some (.sh, d)))) := ⟨fun _ _ h _ => h, fun b z _ => sb b z, fun _ h => h⟩
  have na : ¬ Ban en σ (ρ.set i (some (.sh, d))) a := fun z => by
    rcases z with z | z
    · exact (h5 rfl).2 z
    · obtain ⟨j, fl, e, g1, g2, g3⟩ := z
      have q : i ≠ j := fun q => by
        subst q
        rw [List.getElem?_set_self hi] at g1
        cases g1
        exact g2 rfl
      rw [List.getElem?_set_ne q] at g1
      exact q (ok.inj i j a .ow d fl e h (by decide) g1 g2 h1 g3)
  have rp : Rp K H (Ban en σ (ρ.set i (some (.sh, d)))) d (.ref a) := by
    rw [h2]
    refine ⟨a, xs, rfl, ⟨?_, h3⟩, ?_⟩
    · rw [← h2]
      exact na
    · rw [← h2]
      exact Rps.stab ok.bl st h4
  refine ⟨.ref a, h1, ⟨by rw [List.length_set]; exact ok.len, ok.nb, ok.kp, fun b z => ok.bl b (sb b z), fun j e z => ?_, fun j fl e hf z => ?_, fun j k b fl e fl' e' z1 f1 z2 f2 z3 z4 => ?_⟩, st, rp⟩
  · by_cases q : i = j
    · subst q
      rw [List.getElem?_set_self hi] at z
      cases z
      exact ⟨_, h1, rp⟩
    · rw [List.getElem?_set_ne q] at z
      obtain ⟨u, y1, y2⟩ := ok.sh j e z
      exact ⟨u, y1, y2.stab ok.bl st⟩
  · have q : i ≠ j := fun q => by
      subst q
      rw [List.getElem?_set_self hi] at z
      cases z
      exact hf rfl
    rw [List.getElem?_set_ne q] at z
    obtain ⟨b, ys, es, y1, y2, y3, y4, y5⟩ := ok.ow j fl e hf z
    exact ⟨b, ys, es, y1, y2, y3, Rps.stab ok.bl st y4, y5⟩
  · have nq : ∀ {l : Nat} {g : Fl} {z : D}, (ρ.set i (some (.sh, d)))[l]? = some (some (g, z)) → g ≠ .sh → i ≠ l := fun {l g z} h hg q => by
      subst q
      rw [List.getElem?_set_self hi] at h
      cases h
      exact hg rfl
    rw [List.getElem?_set_ne (nq z1 f1)] at z1
    rw [List.getElem?_set_ne (nq z2 f2)] at z2
    exact ok.inj j k b fl e fl' e' z1 f1 z2 f2 z3 z4
end

/-! ### names, constants -/
def mVar (i : Nat) : M D := fun ρ => match ρ[i]? with
  | some (some (.sh, d)) => .ok d ρ
  | some (some (.ow, d)) => .ok d (ρ.set i (some (.sh, d)))
  | _ => .stuck
def mC (d : D) : M D := M.ret d
section
variable {Γ : Cn} {e a b : Expr} {es : List Expr} {pos : Pos} {m ma mb : M D}
theorem dv (i : Nat) {x : Str} (hN : Γ.X.N[i]? = some x := by rfl) (hv : Vis Γ.X.env.scope x := by first | exact Or.inl rfl | exact Or.inr (Or.inl rfl)) (hd : (x == ("__debug__" : Str)) = false := by decide)
    (hcd : (x == ("__classdict__" : Str)) = false := by decide) : DE Γ (.Name x pos) (mVar i) := by
  refine ⟨tVar i, pe_var hN hv hd hcd, fun en σ H ρ Q ok _ h => ?_⟩
  unfold mVar at h
  split at h
  · rename_i d e
    obtain ⟨v, h1, h2⟩ := ok.sh i d e
    exact ⟨v, h1, Post.ret' ok h v h2⟩
  · rename_i d e
    obtain ⟨v, h1, ok', st, h2⟩ := ok.demote e
    exact ⟨v, h1, h H ok' st v h2⟩
  · exact h.elim
theorem de_c {d : D} {v : V} (h : PE Γ.X e (tC v)) (r : ∀ H B, Rp Γ.X.K H B d v) : DE Γ e (mC d) :=
  ⟨_, h, fun en σ H ρ Q ok _ p => Post.ret' ok p v (r _ _)⟩
theorem de_int {i : Int} {j} : DE Γ (.Constant (.int i) j pos) (mC (.int i)) := de_c pe_int fun _ _ => rfl
theorem de_bl {i : Bool} {j} : DE Γ (.Constant (.bool i) j pos) (mC (.bl i)) := de_c pe_bl fun _ _ => rfl
theorem de_non {j} : DE Γ (.Constant .none j pos) (mC .non) := de_c pe_non fun _ _ => rfl
theorem de_str {x : Str} {j} : DE Γ (.Constant (.str x) j pos) (mC (.str x)) := de_c pe_str fun _ _ => rfl

/-! ### arguments -/
theorem da_nil : DA Γ [] (M.ret []) := ⟨tNil, pa_nil, fun en σ H ρ Q ok _ p => Post.ret' ok p [] rfl⟩
def mCons (m : M D) (n : M (List D)) : M (List D) := M.bnd m fun d => M.bnd n fun ds => M.ret (d :: ds)
theorem da_cons {n : M (List D)} (ha : DE Γ e m) (hr : DA Γ es n) (hs : starEach (e :: es) Γ.X.env = (false, eval e Γ.X.env) :: starEach es Γ.X.env := by rfl) : DA Γ (e :: es) (mCons m n) := by
  obtain ⟨t, h, q⟩ := ha.ex
  obtain ⟨u, g, r⟩ := hr.ex
  refine ⟨tCons t u, pa_cons h g hs, fun en σ H ρ Q ok j p => ?_⟩
  refine q en σ H ρ _ ok j (p.bind.mono fun d H1 ρ1 _ _ ⟨s1, ok1, p1⟩ v rv => ?_)
  refine r en σ H1 ρ1 _ ok1 (Γ.hJ ok.bl s1 j) (p1.bind.mono fun ds H2 ρ2 _ _ ⟨s2, ok2, p2⟩ vs rvs => ?_)
  exact Post.ret' ok2 p2 _ (Rps.cons (rv.stab ok1.bl s2) rvs)

/-! ### operators on values -/
/-- a two-place rule on values is the function f on data (none: not served) -/
def R2D (K : PySem.W.Frag) (r : R2) (f : D → D → Option D) : Prop :=
  ∀ (H : Hp) (B : Addr → Prop) (x y : V) (c d z : D) (Q : VK), Rp K H B c x → Rp K H B d y → f c d = some z → (∀ v, Rp K H B z v → Q v H) → r x y H Q
def m2 (f : D → D → Option D) (ma mb : M D) : M D := M.bnd ma fun x => M.bnd mb fun y => M.lift (f x y)
theorem two {r : R2} {f : D → D → Option D} {ta tb : TE} (rf : R2D Γ.X.K r f) (ha : DE Γ a ma) (hb : DE Γ b mb) :
    ∃ ta tb, PE Γ.X a ta ∧ PE Γ.X b tb ∧ ∀ en σ H ρ (Q : VK), Ok Γ.X.K en σ H ρ → Γ.J σ H (Ban en σ ρ) → Post Γ en σ H (Ban en σ ρ) (m2 f ma mb ρ) (fun d H' ρ' => ∀ v, Rp Γ.X.K H' (Ban en σ ρ') d v → Q v H') → tOp r ta tb σ H Q := by
  obtain ⟨t, h, q⟩ := ha.ex
  obtain ⟨u, g, w⟩ := hb.ex
  refine ⟨t, u, h, g, fun en σ H ρ Q ok j p => ?_⟩
  refine q en σ H ρ _ ok j (p.bind.mono fun d H1 ρ1 _ _ ⟨s1, ok1, p1⟩ x rx => ?_)
  refine w en σ H1 ρ1 _ ok1 (Γ.hJ ok.bl s1 j) (p1.bind.mono fun c H2 ρ2 _ _ ⟨s2, ok2, p2⟩ y ry => ?_)
  cases e : f d c with
  | none =>
    rw [e] at p2
    exact p2.elim
  | some z =>
    rw [e] at p2
    exact rf H2 _ x y d c z Q (rx.stab ok1.bl s2) ry e (Post.ret' ok2 p2)
theorem de_op {op : Operator} {r : R2} {f : D → D → Option D} (ho : OpR Γ.X (binaryOp op) r) (rf : R2D Γ.X.K r f) (ha : DE Γ a ma) (hb : DE Γ b mb) : DE Γ (.BinOp a op b pos) (m2 f ma mb) := by
  obtain ⟨ta, tb, h, g, q⟩ := two (ta := tC .non) (tb := tC .non) rf ha hb
  exact ⟨_, pe_op ho h g, q⟩
theorem de_cmp {op : CmpOp} {r : R2} {f : D → D → Option D} (ho : OpR Γ.X (compareOp op) r) (rf : R2D Γ.X.K r f) (ha : DE Γ a ma) (hb : DE Γ b mb) (hm : behindInMarks op b = false) : DE Γ (.Compare a [op] [b] pos) (m2 f ma mb) := by
  obtain ⟨ta, tb, h, g, q⟩ := two (ta := tC .non) (tb := tC .non) rf ha hb
  exact ⟨_, pe_cmpR ho h g hm, q⟩
/-- a value that is a bool, as a test -/
def asB : D → Option Bool
  | .bl b => some b
  | _ => none
def mB (m : M D) : M Bool := M.bnd m fun d => M.lift (asB d)
theorem dt_val (ha : DE Γ e m) (he : ∀ whole, isTrue e Γ.X.env whole = (do let v ← whole; standAt e.pos; holding [v] (truthy v)) := by intro _; rfl) : DT Γ e (mB m) := by
  obtain ⟨t, h, q⟩ := ha.ex
  refine ⟨tB t, pt_val h he, fun en σ H ρ Q ok j p => ?_⟩
  refine q en σ H ρ _ ok j (p.bind.mono fun d H1 ρ1 _ _ ⟨s1, ok1, p1⟩ x rx => ?_)
  cases d with
  | bl b => exact ⟨b, rx, Post.ret' ok1 p1⟩
  | _ => exact p1.elim
theorem dt_cmp {op : CmpOp} {r : R2} {f : D → D → Option D} (ho : OpR Γ.X (compareOp op) r) (rf : R2D Γ.X.K r f) (ha : DE Γ a ma) (hb : DE Γ b mb) (hm : behindInMarks op b = false) : DT Γ (.Compare a [op] [b] pos) (mB (m2 f ma mb)) := by
  obtain ⟨ta, tb, h, g, q⟩ := two (ta := tC .non) (tb := tC .non) rf ha hb
  refine ⟨_, pt_cmpR ho h g hm, fun en σ H ρ Q ok j p => ?_⟩
  refine q en σ H ρ _ ok j (p.bind.mono fun d H1 ρ1 _ _ ⟨s1, ok1, p1⟩ x rx => ?_)
  cases d with
  | bl b => exact ⟨b, rx, Post.ret' ok1 p1⟩
  | _ => exact p1.elim
def m1 (f : D → Option D) (m : M D) : M D := M.bnd m fun x => M.lift (f x)
def R1D (K : PySem.W.Frag) (r : V → Hp → VK → Prop) (f : D → Option D) : Prop :=
  ∀ (H : Hp) (B : Addr → Prop) (x : V) (c z : D) (Q : VK), Rp K H B c x → f c = some z → (∀ v, Rp K H B z v → Q v H) → r x H Q
theorem de_un {op : UnaryOp} {r : V → Hp → VK → Prop} {f : D → Option D} (ho : UnR Γ.X (unaryOp op) r) (rf : R1D Γ.X.K r f) (ha : DE Γ e m) : DE Γ (.UnaryOp op e pos) (m1 f m) := by
  obtain ⟨t, h, q⟩ := ha.ex
  refine ⟨_, pe_un ho h, fun en σ H ρ Q ok j p => ?_⟩
  refine q en σ H ρ _ ok j (p.bind.mono fun d H1 ρ1 _ _ ⟨s1, ok1, p1⟩ x rx => ?_)
  cases e : f d with
  | none =>
    rw [e] at p1
    exact p1.elim
  | some z =>
    rw [e] at p1
    exact rf H1 _ x d z Q rx e (Post.ret' ok1 p1)

/-! ### tests, and, or, not, if -/
def mAnd (m n : M Bool) : M Bool := M.bnd m fun b => if b = true then n else M.ret false
def mOr (m n : M Bool) : M Bool := M.bnd m fun b => if b = true then M.ret true else n
def mNot (m : M Bool) : M Bool := M.bnd m fun b => M.ret (!b)
structure DW (Γ : Cn) (e : Expr) (m : M Bool) : Prop where
  ex : ∃ t, PW Γ.X e t ∧ ∀ en σ H ρ (Q : Bool → Hp → Prop), Ok Γ.X.K en σ H ρ → Γ.J σ H (Ban en σ ρ) → Post Γ en σ H (Ban en σ ρ) (m ρ) (fun b H' _ => Q b H') → t σ H Q
theorem DW.dt {m : M Bool} (h : DW Γ e m) : DT Γ e m := by
  obtain ⟨t, h, q⟩ := h.ex
  exact ⟨t, h.pt, q⟩
variable {mt nt : M Bool} {rest : List Expr}
theorem dw_and1 (h : DT Γ a mt) : DW Γ (.BoolOp .And [a] pos) mt := by
  obtain ⟨t, h, q⟩ := h.ex
  exact ⟨t, pw_and1 h, q⟩
theorem dw_or1 (h : DT Γ a mt) : DW Γ (.BoolOp .Or [a] pos) mt := by
  obtain ⟨t, h, q⟩ := h.ex
  exact ⟨t, pw_or1 h, q⟩
theorem dw_and (h : DT Γ a mt) (k : DW Γ (.BoolOp .And (b :: rest) pos) nt) : DW Γ (.BoolOp .And (a :: b :: rest) pos) (mAnd mt nt) := by
  obtain ⟨t, h, q⟩ := h.ex
  obtain ⟨u, k, r⟩ := k.ex
  refine ⟨_, pw_and h k, fun en σ H ρ Q ok j p => ?_⟩
  refine q en σ H ρ _ ok j (p.bind.mono fun c H1 ρ1 _ _ ⟨s1, ok1, p1⟩ => ?_)
  cases c with
  | true => exact iteT (r en σ H1 ρ1 _ ok1 (Γ.hJ ok.bl s1 j) p1)
  | false => exact iteF (Post.ret' ok1 p1)
theorem dw_or (h : DT Γ a mt) (k : DW Γ (.BoolOp .Or (b :: rest) pos) nt) : DW Γ (.BoolOp .Or (a :: b :: rest) pos) (mOr mt nt) := by
  obtain ⟨t, h, q⟩ := h.ex
  obtain ⟨u, k, r⟩ := k.ex
  refine ⟨_, pw_or h k, fun en σ H ρ Q ok j p => ?_⟩
  refine q en σ H ρ _ ok j (p.bind.mono fun c H1 ρ1 _ _ ⟨s1, ok1, p1⟩ => ?_)
  cases c with
  | true => exact iteT (Post.ret' ok1 p1)
  | false => exact iteF (r en σ H1 ρ1 _ ok1 (Γ.hJ ok.bl s1 j) p1)
theorem dt_not (h : DT Γ a mt) : DT Γ (.UnaryOp .Not a pos) (mNot mt) := by
  obtain ⟨t, h, q⟩ := h.ex
  refine ⟨_, pt_not h, fun en σ H ρ Q ok j p => ?_⟩
  exact q en σ H ρ _ ok j (p.bind.mono fun c H1 ρ1 _ _ ⟨s1, ok1, p1⟩ => Post.ret' ok1 p1)
/-- as values -/
def mAndV (m n : M D) : M D := M.bnd (mB m) fun b => if b = true then n else M.ret (.bl false)
def mOrV (m n : M D) : M D := M.bnd (mB m) fun b => if b = true then M.ret (.bl true) else n
def mNotV (m : M D) : M D := M.bnd (mB m) fun b => M.ret (.bl (!b))
theorem mB_bind {m : M D} {en : En} {σ : L2.St} {H : Hp} {ρ : Rho} {P : Bool → Hp → Rho → Prop} {B : Addr → Prop} (p : Post Γ en σ H B (mB m ρ) P) :
    Post Γ en σ H B (m ρ) (fun d H' ρ' => ∀ v, Rp Γ.X.K H' (Ban en σ ρ') d v → ∃ c, v = .bl c ∧ P c H' ρ') := by
  refine p.bind.mono fun d H1 ρ1 _ _ ⟨s1, ok1, p1⟩ x rx => ?_
  cases d with
  | bl b => exact ⟨b, rx, Post.ret' ok1 p1⟩
  | _ => exact p1.elim
theorem de_and (ha : DE Γ a ma) (hb : DE Γ (.BoolOp .And (b :: rest) pos) mb) : DE Γ (.BoolOp .And (a :: b :: rest) pos) (mAndV ma mb) := by
  obtain ⟨t, h, q⟩ := ha.ex
  obtain ⟨u, k, r⟩ := hb.ex
  refine ⟨_, pe_and h k, fun en σ H ρ Q ok j p => ?_⟩
  refine q en σ H ρ _ ok j ((mB_bind p.bind).mono fun d H1 ρ1 _ _ z v rv => ?_)
  obtain ⟨c, e, s1, ok1, p1⟩ := z v rv
  refine ⟨c, e, ?_⟩
  cases c with
  | true => exact iteT (r en σ H1 ρ1 _ ok1 (Γ.hJ ok.bl s1 j) p1)
  | false => exact iteF (Post.ret' ok1 p1 _ rfl)
theorem de_or (ha : DE Γ a ma) (hb : DE Γ (.BoolOp .Or (b :: rest) pos) mb) : DE Γ (.BoolOp .Or (a :: b :: rest) pos) (mOrV ma mb) := by
  obtain ⟨t, h, q⟩ := ha.ex
  obtain ⟨u, k, r⟩ := hb.ex
  refine ⟨_, pe_or h k, fun en σ H ρ Q ok j p => ?_⟩
  refine q en σ H ρ _ ok j ((mB_bind p.bind).mono fun d H1 ρ1 _ _ z v rv => ?_)
  obtain ⟨c, e, s1, ok1, p1⟩ := z v rv
  refine ⟨c, e, ?_⟩
  cases c with
  | true => exact iteT (Post.ret' ok1 p1 _ rfl)
  | false => exact iteF (r en σ H1 ρ1 _ ok1 (Γ.hJ ok.bl s1 j) p1)
theorem de_one {op} (h : DE Γ a m) : DE Γ (.BoolOp op [a] pos) m := by
  obtain ⟨t, h, q⟩ := h.ex
  exact ⟨t, pe_one h, q⟩
theorem de_not (ha : DE Γ a m) : DE Γ (.UnaryOp .Not a pos) (mNotV m) := by
  obtain ⟨t, h, q⟩ := ha.ex
  refine ⟨_, pe_not h, fun en σ H ρ Q ok j p => ?_⟩
  refine q en σ H ρ _ ok j ((mB_bind p.bind).mono fun d H1 ρ1 _ _ z v rv => ?_)
  obtain ⟨c, e, s1, ok1, p1⟩ := z v rv
  exact ⟨c, e, Post.ret' ok1 p1 _ rfl⟩
def mIf {α : Type} (c : M Bool) (m n : M α) : M α := M.bnd c fun b => if b = true then m else n
theorem de_ifExp {c : Expr} (hc : DT Γ c mt) (ha : DE Γ a ma) (hb : DE Γ b mb) : DE Γ (.IfExp c a b pos) (mIf mt ma mb) := by
  obtain ⟨tc, h0, q0⟩ := hc.ex
  obtain ⟨t, h, q⟩ := ha.ex
  obtain ⟨u, k, r⟩ := hb.ex
  refine ⟨_, pe_ifExp h0 h k, fun en σ H ρ Q ok j p => ?_⟩
  refine q0 en σ H ρ _ ok j (p.bind.mono fun c H1 ρ1 _ _ ⟨s1, ok1, p1⟩ => ?_)
  cases c with
  | true => exact iteT (q en σ H1 ρ1 _ ok1 (Γ.hJ ok.bl s1 j) p1)
  | false => exact iteF (r en σ H1 ρ1 _ ok1 (Γ.hJ ok.bl s1 j) p1)
end
end DL
set_option Elab.async false
set_option linter.all false
set_option maxRecDepth 100000
/-! The data layer, third part: operators on ints, comparisons, tuples and lists made and read, built-in functions. -/
namespace DL
open PySem PySem.Spec PyProof.Rows L2

/-! ### ints -/
/-- the bounds are asked of naturals, the open side first: so the kernel stops at it -/
def bitsOk (i j : Int) : Bool := Nat.ble (Builtin.Int.intBits i + Builtin.Int.intBits j) 134217728
theorem bitsOk_iff {i j : Int} : bitsOk i j = true ↔ Builtin.Int.intBits i + Builtin.Int.intBits j ≤ 134217728 := ⟨fun h => Nat.le_of_ble_eq_true h, fun h => Nat.ble_eq_true_of_le h⟩
def iAdd : D → D → Option D
  | .int i, .int j => some (.int (i + j))
  | _, _ => none
def iSub : D → D → Option D
  | .int i, .int j => some (.int (i - j))
  | _, _ => none
def iMul : D → D → Option D
  | .int i, .int j => if bitsOk i j = true then some (.int (i * j)) else none
  | _, _ => none
def divOk (j : Int) : Bool := decide (j ≠ 0) && Nat.ble j.natAbs.log2 8999
def iDiv : D → D → Option D
  | .int i, .int j => if divOk j = true then some (.int (i.fdiv j)) else none
  | _, _ => none
def iMod : D → D → Option D
  | .int i, .int j => if j ≠ 0 then some (.int (i.fmod j)) else none
  | _, _ => none
def powOk (i : Int) : Int → Bool
  | .ofNat n => Nat.ble (Builtin.Int.intBits i * n) 134217728
  | .negSucc _ => false
def shlOk (i : Int) : Int → Bool
  | .ofNat n => Nat.ble (Builtin.Int.intBits i + n) 134217728
  | .negSucc _ => false
theorem powOk_iff {i j : Int} (h : powOk i j = true) : 0 ≤ j ∧ (Builtin.Int.intBits i : Int) * j ≤ 2 ^ 27 := by
  cases j with
  | ofNat n =>
    have h1 : Builtin.Int.intBits i * n ≤ 134217728 := Nat.le_of_ble_eq_true h
    refine ⟨Int.natCast_nonneg n, ?_⟩
    have e : ((Builtin.Int.intBits i : Int) * Int.ofNat n) = ((Builtin.Int.intBits i * n : Nat) : Int) := by
      rw [Int.natCast_mul]
      rfl
    rw [e]
    omega
  | negSucc n => cases h
theorem shlOk_iff {i j : Int} (h : shlOk i j = true) : 0 ≤ j ∧ (Builtin.Int.intBits i : Int) + j ≤ 2 ^ 27 := by
  cases j with
  | ofNat n =>
    have h1 : Builtin.Int.intBits i + n ≤ 134217728 := Nat.le_of_ble_eq_true h
    refine ⟨Int.natCast_nonneg n, ?_⟩
    show (Builtin.Int.intBits i : Int) + (n : Int) ≤ 2 ^ 27
    omega
  | negSucc n => cases h
def iPow : D → D → Option D
  | .int i, .int j => if powOk i j = true then some (.int (i ^ j.toNat)) else none
  | _, _ => none
def iShl : D → D → Option D
  | .int i, .int j => if shlOk i j = true then some (.int (i * 2 ^ j.toNat)) else none
  | _, _ => none
def iShr : D → D → Option D
  | .int i, .int j => if 0 ≤ j then some (.int (i / 2 ^ j.toNat)) else none
  | _, _ => none
def iNeg : D → Option D
  | .int i => some (.int (-i))
  | _ => none
def iLt : D → D → Option D
  | .int i, .int j => some (.bl (decide (i < j)))
  | _, _ => none
def iLe : D → D → Option D
  | .int i, .int j => some (.bl (decide (i ≤ j)))
  | _, _ => none
def iGt : D → D → Option D
  | .int i, .int j => some (.bl (decide (j < i)))
  | _, _ => none
def iGe : D → D → Option D
  | .int i, .int j => some (.bl (decide (j ≤ i)))
  | _, _ => none
section
variable {K : PySem.W.Frag}
theorem r2i {C : Int → Int → Prop} {g : Int → Int → V} {f : D → D → Option D} (h : ∀ c d z, f c d = some z → ∃ i j, c = .int i ∧ d = .int j ∧ C i j ∧ ∀ H B, Rp K H B z (g i j)) : R2D K (rI C g) f := by
  intro H B x y c d z Q rx ry e q
  obtain ⟨i, j, rfl, rfl, hc, hr⟩ := h c d z e
  exact ⟨i, j, rx, ry, hc, q _ (hr H B)⟩
theorem r2i0 {g : Int → Int → V} {f : D → D → Option D} (h : ∀ c d z, f c d = some z → ∃ i j, c = .int i ∧ d = .int j ∧ ∀ H B, Rp K H B z (g i j)) : R2D K (rI0 g) f := by
  intro H B x y c d z Q rx ry e q
  obtain ⟨i, j, rfl, rfl, hr⟩ := h c d z e
  exact ⟨i, j, rx, ry, q _ (hr H B)⟩
theorem int2 {f : Int → Int → Option D} {c d z : D} (h : (match c, d with | .int i, .int j => f i j | _, _ => none) = some z) : ∃ i j, c = .int i ∧ d = .int j ∧ f i j = some z := by
  split at h
  · exact ⟨_, _, rfl, rfl, h⟩
  · cases h
theorem r_add : R2D K (rI0 fun i j => .int (i + j)) iAdd := r2i0 fun c d z h => by
  obtain ⟨i, j, e1, e2, h⟩ := int2 (f := fun i j => some (.int (i + j))) h
  cases h
  exact ⟨i, j, e1, e2, fun _ _ => rfl⟩
theorem r_sub : R2D K (rI0 fun i j => .int (i - j)) iSub := r2i0 fun c d z h => by
  obtain ⟨i, j, e1, e2, h⟩ := int2 (f := fun i j => some (.int (i - j))) h
  cases h
  exact ⟨i, j, e1, e2, fun _ _ => rfl⟩
theorem r_mul : R2D K (rI CMulX fun i j => .int (i * j)) iMul := r2i fun c d z h => by
  obtain ⟨i, j, e1, e2, h⟩ := int2 (f := fun i j => if bitsOk i j = true then some (.int (i * j)) else none) h
  split at h
  · rename_i hb
    cases h
    exact ⟨i, j, e1, e2, (by
      have := bitsOk_iff.mp hb
      unfold CMulX
      omega), fun _ _ => rfl⟩
  · cases h
def CDivZ (_ j : Int) : Prop := j ≠ 0 ∧ j.natAbs.log2 < 9000
theorem op_divZ {X : Cx} : OpR X (binaryOp .FloorDiv) (rI CDivZ fun i j => .int (i.fdiv j)) := opI fun _ _ _ _ _ _ _ hc q => floordiv_int hc.1 q (.inl (PyProof.noPylong_of_log2 hc.2))
theorem r_div : R2D K (rI CDivZ fun i j => .int (i.fdiv j)) iDiv := r2i fun c d z h => by
  obtain ⟨i, j, e1, e2, h⟩ := int2 (f := fun i j => if divOk j = true then some (.int (i.fdiv j)) else none) h
  split at h
  · rename_i hb
    cases h
    obtain ⟨h1, h2⟩ := Bool.and_eq_true_iff.mp hb
    exact ⟨i, j, e1, e2, ⟨of_decide_eq_true h1, Nat.lt_succ_of_le (Nat.le_of_ble_eq_true h2)⟩, fun _ _ => rfl⟩
  · cases h
theorem r_mod : R2D K (rI (fun _ j => j ≠ 0) fun i j => .int (i.fmod j)) iMod := r2i fun c d z h => by
  obtain ⟨i, j, e1, e2, h⟩ := int2 (f := fun i j => if j ≠ 0 then some (.int (i.fmod j)) else none) h
  split at h
  · rename_i hb
    cases h
    exact ⟨i, j, e1, e2, hb, fun _ _ => rfl⟩
  · cases h
def CPowX (i j : Int) : Prop := 0 ≤ j ∧ (Builtin.Int.intBits i : Int) * j ≤ 2 ^ 27
theorem op_powX {X : Cx} : OpR X (binaryOp .Pow) (rI CPowX fun i j => .int (i ^ j.toNat)) := opI fun _ _ _ _ _ _ _ hc q => PyProof.Rows.pow_int hc.1 hc.2 q
theorem r_pow : R2D K (rI CPowX fun i j => .int (i ^ j.toNat)) iPow := r2i fun c d z h => by
  obtain ⟨i, j, e1, e2, h⟩ := int2 (f := fun i j => if powOk i j = true then some (.int (i ^ j.toNat)) else none) h
  split at h
  · rename_i hb
    cases h
    exact ⟨i, j, e1, e2, powOk_iff hb, fun _ _ => rfl⟩
  · cases h
theorem r_shl : R2D K (rI CShl fun i j => .int (i * 2 ^ j.toNat)) iShl := r2i fun c d z h => by
  obtain ⟨i, j, e1, e2, h⟩ := int2 (f := fun i j => if shlOk i j = true then some (.int (i * 2 ^ j.toNat)) else none) h
  split at h
  · rename_i hb
    cases h
    exact ⟨i, j, e1, e2, shlOk_iff hb, fun _ _ => rfl⟩
  · cases h
theorem r_shr : R2D K (rI (fun _ j => 0 ≤ j) fun i j => .int (i / 2 ^ j.toNat)) iShr := r2i fun c d z h => by
  obtain ⟨i, j, e1, e2, h⟩ := int2 (f := fun i j => if 0 ≤ j then some (.int (i / 2 ^ j.toNat)) else none) h
  split at h
  · rename_i hb
    cases h
    exact ⟨i, j, e1, e2, hb, fun _ _ => rfl⟩
  · cases h
theorem r_neg : R1D K (rU fun i => .int (-i)) iNeg := by
  intro H B x c z Q rx e q
  cases c with
  | int i =>
    cases e
    exact ⟨i, rx, q _ rfl⟩
  | _ => cases e
theorem r_cmpi {p : Int → Int → Bool} : R2D K (rI0 fun i j => .bl (p i j)) (fun c d => match c, d with | .int i, .int j => some (.bl (p i j)) | _, _ => none) := r2i0 fun c d z h => by
  obtain ⟨i, j, e1, e2, h⟩ := int2 (f := fun i j => some (.bl (p i j))) h
  cases h
  exact ⟨i, j, e1, e2, fun _ _ => rfl⟩
theorem r_lt : R2D K (rI0 fun i j => .bl (decide (i < j))) iLt := r_cmpi
theorem r_le : R2D K (rI0 fun i j => .bl (decide (i ≤ j))) iLe := r_cmpi
theorem r_gt : R2D K (rI0 fun i j => .bl (decide (j < i))) iGt := r_cmpi
theorem r_ge : R2D K (rI0 fun i j => .bl (decide (j ≤ i))) iGe := r_cmpi

/-! ### is None -/
def pIsN : D → D → Option D
  | .non, .non => some (.bl true)
  | _, .non => some (.bl false)
  | _, _ => none
def pNotN : D → D → Option D
  | .non, .non => some (.bl false)
  | _, .non => some (.bl true)
  | _, _ => none
theorem Rp.ref_or {H : Hp} {B : Addr → Prop} {d : D} {v : V} (r : Rp K H B d v) : (v = .non ↔ d = .non) := by
  cases d with
  | non => exact ⟨fun _ => rfl, fun _ => r⟩
  | bl b =>
    have e : v = .bl b := r
    rw [e]
    exact ⟨fun z => (by cases z), fun z => (by cases z)⟩
  | int b =>
    have e : v = .int b := r
    rw [e]
    exact ⟨fun z => (by cases z), fun z => (by cases z)⟩
  | str b =>
    have e : v = .str b := r
    rw [e]
    exact ⟨fun z => (by cases z), fun z => (by cases z)⟩
  | tup ds =>
    obtain ⟨a, _, e, _⟩ := r
    rw [e]
    exact ⟨fun z => (by cases z), fun z => (by cases z)⟩
  | lst ds =>
    obtain ⟨a, _, e, _⟩ := r
    rw [e]
    exact ⟨fun z => (by cases z), fun z => (by cases z)⟩
  | scr ns =>
    obtain ⟨a, e, _⟩ := r
    rw [e]
    exact ⟨fun z => (by cases z), fun z => (by cases z)⟩
theorem r_isN : R2D K (fun x y H Q => y = .non ∧ Q (.bl (decide (x = .non))) H) pIsN := by
  intro H B x y c d z Q rx ry e q
  cases d with
  | non =>
    refine ⟨ry, q _ ?_⟩
    have i := rx.ref_or
    cases c with
    | non =>
      cases e
      rw [decide_eq_true (i.mpr rfl)]
      exact rfl
    | _ =>
      cases e
      rw [decide_eq_false fun z => by cases i.mp z]
      exact rfl
  | _ => cases c <;> cases e
theorem r_notN : R2D K (fun x y H Q => y = .non ∧ Q (.bl (!decide (x = .non))) H) pNotN := by
  intro H B x y c d z Q rx ry e q
  cases d with
  | non =>
    refine ⟨ry, q _ ?_⟩
    have i := rx.ref_or
    cases c with
    | non =>
      cases e
      rw [decide_eq_true (i.mpr rfl)]
      exact rfl
    | _ =>
      cases e
      rw [decide_eq_false fun z => by cases i.mp z]
      exact rfl
  | _ => cases c <;> cases e

/-! ### == -/
mutual
def D.py : D → PyData
  | .non => .none
  | .bl b => .bool b
  | .int i => .int i
  | .str s => .str s
  | .tup xs => .tuple (D.pys xs)
  | .lst xs => .list (D.pys xs)
  | .scr ns => .list (ns.map PyData.int)
def D.pys : List D → List PyData
  | [] => []
  | d :: ds => d.py :: D.pys ds
end
theorem ints_dp {H : Hp} : ∀ ns : List Int, DpAll K H (ns.map V.int) (ns.map PyData.int)
  | [] => .nil
  | n :: r => .cons (.int n) (ints_dp r)
mutual
theorem Rp.dp {H : Hp} {B : Addr → Prop} : ∀ {d : D} {v : V}, Rp K H B d v → Dp K H v d.py
  | .non, _, r => by
    have e : _ = V.non := r
    rw [e]
    exact .non
  | .bl _, _, r => by
    have e : _ = V.bl _ := r
    rw [e]
    exact .bl _
  | .int _, _, r => by
    have e : _ = V.int _ := r
    rw [e]
    exact .int _
  | .str _, _, r => by
    have e : _ = V.str _ := r
    rw [e]
    exact .str _
  | .tup ds, _, r => by
    obtain ⟨a, vs, e, h1, h2⟩ := r
    rw [e]
    exact .tup h1 (Rps.dp h2)
  | .lst ds, _, r => by
    obtain ⟨a, vs, e, h1, h2⟩ := r
    rw [e]
    exact .lst h1.sq (Rps.dp h2)
  | .scr ns, _, r => by
    obtain ⟨a, e, h1⟩ := r
    rw [e]
    exact .lst h1.sq (ints_dp ns)
theorem Rps.dp {H : Hp} {B : Addr → Prop} : ∀ {ds : List D} {vs : List V}, Rps K H B ds vs → DpAll K H vs (D.pys ds)
  | [], _, r => by
    have e : _ = [] := r
    rw [e]
    exact .nil
  | d :: ds, _, r => by
    obtain ⟨v, q, e, h1, h2⟩ := r
    rw [e]
    exact .cons (Rp.dp h1) (Rps.dp h2)
end
/-- equality of scalars of one kind, or with None -/
def eq0 : D → D → Option Bool
  | .int i, .int j => some (decide (i = j))
  | .str i, .str j => some (decide (i = j))
  | .bl i, .bl j => some (decide (i = j))
  | .non, .non => some true
  | .non, .int _ => some false
  | .int _, .non => some false
  | .non, .str _ => some false
  | .str _, .non => some false
  | .non, .bl _ => some false
  | .bl _, .non => some false
  | _, _ => none
def eqD (c d : D) : Option Bool := match eq0 c d with
  | some b => some b
  | none => if (SeqAt.shaped c.py && SeqAt.shaped d.py) = true then some (PyData.eqv c.py d.py) else none
def pEq (c d : D) : Option D := (eqD c d).map .bl
def pNe (c d : D) : Option D := (eqD c d).map fun b => .bl (!b)
def rEq2 (K : PySem.W.Frag) : R2 := fun x y H Q => rEq x y H Q ∨ rEqD K x y H Q
def rNe2 (K : PySem.W.Frag) : R2 := fun x y H Q => rNe x y H Q ∨ rNeD K x y H Q
theorem eqD_cases {H : Hp} {B : Addr → Prop} {x y : V} {c d : D} {b : Bool} (rx : Rp K H B c x) (ry : Rp K H B d y) (e : eqD c d = some b) :
    (scal x y = true ∧ decide (x = y) = b) ∨ (SeqAt.shaped c.py = true ∧ SeqAt.shaped d.py = true ∧ PyData.eqv c.py d.py = b) := by
  unfold eqD at e
  split at e
  · rename_i b' e0
    cases e
    left
    cases c <;> cases d <;> (try (cases e0; done)) <;> (have ex := rx; have ey := ry; simp only [Rp] at ex ey; subst ex; subst ey; simp only [eq0, Option.some.injEq] at e0; subst e0; first | exact ⟨rfl, rfl⟩ | (refine ⟨rfl, ?_⟩; simp))
  · right
    split at e
    · rename_i h
      cases e
      obtain ⟨h1, h2⟩ := Bool.and_eq_true_iff.mp h
      exact ⟨h1, h2, rfl⟩
    · cases e
theorem r_eq : R2D K (rEq2 K) pEq := by
  intro H B x y c d z Q rx ry e q
  unfold pEq at e
  cases h : eqD c d with
  | none =>
    rw [h] at e
    cases e
  | some b =>
    rw [h] at e
    cases e
    rcases eqD_cases rx ry h with ⟨h1, h2⟩ | ⟨h1, h2, h3⟩
    · refine .inl ⟨h1, q _ ?_⟩
      rw [h2]
      exact rfl
    · refine .inr ⟨_, _, rx.dp, ry.dp, h1, h2, q _ ?_⟩
      rw [h3]
      exact rfl
theorem r_ne : R2D K (rNe2 K) pNe := by
  intro H B x y c d z Q rx ry e q
  unfold pNe at e
  cases h : eqD c d with
  | none =>
    rw [h] at e
    cases e
  | some b =>
    rw [h] at e
    cases e
    rcases eqD_cases rx ry h with ⟨h1, h2⟩ | ⟨h1, h2, h3⟩
    · refine .inl ⟨h1, q _ ?_⟩
      rw [h2]
      exact rfl
    · refine .inr ⟨_, _, rx.dp, ry.dp, h1, h2, q _ ?_⟩
      rw [h3]
      exact rfl
theorem op_eq2 {X : Cx} (hu : X.A.units + 64 < cLine) : OpR X (compareOp .Eq) (rEq2 X.K) := op_eq.or (op_eqD hu)
theorem op_ne2 {X : Cx} (hu : X.A.units + 64 < cLine) : OpR X (compareOp .NotEq) (rNe2 X.K) := op_ne.or (op_neD hu)

/-! ### in a list or a tuple of scalars -/
def D.flat : D → Bool
  | .non | .bl _ | .int _ | .str _ => true
  | _ => false
def eqFl : D → D → Bool
  | .non, .non => true
  | .bl a, .bl b => a == b
  | .bl a, .int b => (if a then 1 else 0) == b
  | .int a, .bl b => a == (if b then 1 else 0)
  | .int a, .int b => a == b
  | .str a, .str b => a == b
  | _, _ => false
def items : D → Option (List D)
  | .lst xs => some xs
  | .tup xs => some xs
  | _ => none
def pInB (c d : D) : Option Bool := (items d).bind fun xs => if (c.flat && xs.all D.flat) = true then some (xs.any fun y => eqFl y c) else none
def pIn (c d : D) : Option D := (pInB c d).map .bl
def pNotIn (c d : D) : Option D := (pInB c d).map fun b => .bl (!b)
theorem flat_v {H : Hp} {B : Addr → Prop} {c : D} {x : V} (r : Rp K H B c x) (h : c.flat = true) : flatV x = true := by
  cases c <;> (try (cases h; done)) <;> (simp only [Rp] at r; subst r; rfl)
theorem flat_eq {H : Hp} {B : Addr → Prop} {c d : D} {x y : V} (r : Rp K H B c x) (s : Rp K H B d y) (h : c.flat = true) (g : d.flat = true) : eqV x y = eqFl c d := by
  cases c <;> (try (cases h; done)) <;> (simp only [Rp] at r; subst r; cases d <;> (try (cases g; done)) <;> (simp only [Rp] at s; subst s; rfl))
theorem flat_all {H : Hp} {B : Addr → Prop} : ∀ {ds : List D} {vs : List V}, Rps K H B ds vs → ds.all D.flat = true → vs.all flatV = true
  | [], _, r, _ => by
    have e : _ = [] := r
    rw [e]
    rfl
  | d :: ds, _, r, h => by
    obtain ⟨v, q, rfl, h1, h2⟩ := r
    rw [List.all_cons, Bool.and_eq_true_iff] at h
    rw [List.all_cons, Bool.and_eq_true_iff]
    exact ⟨flat_v h1 h.1, flat_all h2 h.2⟩
theorem flat_any {H : Hp} {B : Addr → Prop} {c : D} {x : V} (rc : Rp K H B c x) (hc : c.flat = true) : ∀ {ds : List D} {vs : List V}, Rps K H B ds vs → ds.all D.flat = true → inV x vs = ds.any fun y => eqFl y c
  | [], _, r, _ => by
    have e : _ = [] := r
    rw [e]
    rfl
  | d :: ds, _, r, h => by
    obtain ⟨v, q, rfl, h1, h2⟩ := r
    rw [List.all_cons, Bool.and_eq_true_iff] at h
    have ih := flat_any rc hc h2 h.2
    unfold inV at ih ⊢
    rw [List.any_cons, List.any_cons, ih, flat_eq h1 rc h.1 hc]
theorem inB_cases {H : Hp} {B : Addr → Prop} {x y : V} {c d : D} {b : Bool} (rx : Rp K H B c x) (ry : Rp K H B d y) (e : pInB c d = some b) :
    ∃ p xs, y = .ref p ∧ (SqL K H p xs ∨ SqT K H p xs) ∧ flatV x = true ∧ xs.all flatV = true ∧ inV x xs = b := by
  unfold pInB at e
  cases d with
  | lst ds =>
    obtain ⟨p, vs, h1, h2, h3⟩ := ry
    simp only [items, Option.bind_some] at e
    split at e
    · rename_i h
      cases e
      obtain ⟨g1, g2⟩ := Bool.and_eq_true_iff.mp h
      exact ⟨p, vs, h1, .inl h2.sq, flat_v rx g1, flat_all h3 g2, flat_any rx g1 h3 g2⟩
    · cases e
  | tup ds =>
    obtain ⟨p, vs, h1, h2, h3⟩ := ry
    simp only [items, Option.bind_some] at e
    split at e
    · rename_i h
      cases e
      obtain ⟨g1, g2⟩ := Bool.and_eq_true_iff.mp h
      exact ⟨p, vs, h1, .inr h2, flat_v rx g1, flat_all h3 g2, flat_any rx g1 h3 g2⟩
    · cases e
  | _ => cases e
theorem r_in : R2D K (rIn K false) pIn := by
  intro H B x y c d z Q rx ry e q
  unfold pIn at e
  cases h : pInB c d with
  | none =>
    rw [h] at e
    cases e
  | some b =>
    rw [h] at e
    cases e
    obtain ⟨p, xs, h1, h2, h3, h4, h5⟩ := inB_cases rx ry h
    refine ⟨p, xs, h1, h2, h3, h4, q _ ?_⟩
    rw [h5]
    exact rfl
theorem r_notIn : R2D K (rIn K true) pNotIn := by
  intro H B x y c d z Q rx ry e q
  unfold pNotIn at e
  cases h : pInB c d with
  | none =>
    rw [h] at e
    cases e
  | some b =>
    rw [h] at e
    cases e
    obtain ⟨p, xs, h1, h2, h3, h4, h5⟩ := inB_cases rx ry h
    refine ⟨p, xs, h1, h2, h3, h4, q _ ?_⟩
    rw [h5]
    exact rfl

/-! ### an item -/
def seqOf : D → Option (List D)
  | .lst xs => some xs
  | .tup xs => some xs
  | .scr ns => some (ns.map D.int)
  | _ => none
def pIx (c d : D) : Option D := match d with
  | .int i => (seqOf c).bind fun xs => atI xs i
  | _ => none
def rIx (K : PySem.W.Frag) : R2 := fun x y H Q => rIxL K x y H Q ∨ rIxT K x y H Q
theorem ix_two {X : Cx} : IxR X (rIx X.K) := by
  intro value slice pins s σ H x y v u Q I rx ry h hs
  rcases h with h | h
  · exact ix_list value slice pins s σ H x y v u Q I rx ry h hs
  · exact ix_tup value slice pins s σ H x y v u Q I rx ry h hs
theorem atI_rp {H : Hp} {B : Addr → Prop} {ds : List D} {vs : List V} {i : Int} {d : D} (r : Rps K H B ds vs) (h : atI ds i = some d) : ∃ v, atI vs i = some v ∧ Rp K H B d v := by
  unfold atI at h ⊢
  rw [← r.length]
  cases e : ixN ds.length i with
  | none =>
    rw [e] at h
    cases h
  | some j =>
    rw [e] at h
    exact r.get h
theorem r_ix : R2D K (rIx K) pIx := by
  intro H B x y c d z Q rx ry e q
  unfold pIx at e
  cases d with
  | int i =>
    cases c with
    | lst ds =>
      obtain ⟨p, vs, h1, h2, h3⟩ := rx
      obtain ⟨v, g1, g2⟩ := atI_rp h3 e
      exact .inl ⟨p, vs, i, v, h1, ry, h2.sq, g1, q v g2⟩
    | tup ds =>
      obtain ⟨p, vs, h1, h2, h3⟩ := rx
      obtain ⟨v, g1, g2⟩ := atI_rp h3 e
      exact .inr ⟨p, vs, i, v, h1, ry, h2, g1, q v g2⟩
    | scr ns =>
      obtain ⟨p, h1, h2⟩ := rx
      obtain ⟨v, g1, g2⟩ := atI_rp (K := K) (H := H) (B := B) (Rps.ints ns) e
      exact .inl ⟨p, _, i, v, h1, ry, h2.sq, g1, q v g2⟩
    | _ => cases e
  | _ => cases e
end
section
variable {Γ : Cn} {a b : Expr} {pos : Pos} {ma mb : M D}
theorem de_ix (ha : DE Γ a ma) (hb : DE Γ b mb) (hs : PlainIx b) : DE Γ (.Subscript a b pos) (m2 pIx ma mb) := by
  obtain ⟨ta, tb, h, g, q⟩ := two (ta := tC .non) (tb := tC .non) r_ix ha hb
  exact ⟨_, pe_ix ix_two h g hs, q⟩
end
end DL
set_option Elab.async false
set_option linter.all false
set_option maxRecDepth 100000
/-! The data layer, fourth part: what is made anew: tuples, lists (DF: a list that nobody else holds), slices, sums of lists; built-in functions. -/
namespace DL
open PySem PySem.Spec PyProof.Rows L2

def En.ban (en : En) (p : Addr) : En := { en with B0 := fun a => en.B0 a ∨ a = p }
section
variable {K : PySem.W.Frag} {en : En} {σ : L2.St} {H H1 : Hp} {ρ : Rho} {p : Addr} {o : HO} {vs : List V} {ds : List D}
theorem Ok.not_ban (ok : Ok K en σ H ρ) (h : H p = none) : ¬ Ban en σ ρ p := fun z => by
  obtain ⟨xs, e⟩ := ok.bl p z
  rw [h] at e
  cases e
theorem Ok.fresh0 (ok : Ok K en σ H ρ) (h : H p = none) : en.H0 p = none := by
  cases e : en.H0 p with
  | none => rfl
  | some o =>
    by_cases n : en.N0 p
    · exact absurd (.inl (ok.nb p n)) (ok.not_ban h)
    · rw [ok.kp p o e n] at h
      cases h
theorem stab_new {B : Addr → Prop} (h : H p = none) : Stab H B (upd H p o) B :=
  ⟨fun a u e _ => by rw [upd_ne (ne_of_none e h)]; exact e, fun _ z _ => z, fun a z => by
    by_cases q : a = p
    · rw [q] at z
      exact absurd h z
    · rw [upd_ne q]
      exact z⟩
theorem Ok.stay (ok : Ok K en σ H ρ) (s : Stab H (Ban en σ ρ) H1 (Ban en σ ρ)) (kp : ∀ a o, H a = some o → Ban en σ ρ a → H1 a = some o) : Ok K en σ H1 ρ := by
  have all : ∀ a o, H a = some o → H1 a = some o := fun a o e => by
    by_cases b : Ban en σ ρ a
    · exact kp a o e b
    · exact s.kp a o e b
  exact ⟨ok.len, ok.nb, fun a o e n => all a o (ok.kp a o e n), fun a b => by
      obtain ⟨xs, e⟩ := ok.bl a b
      exact ⟨xs, all _ _ e⟩,
    fun i d e => by
      obtain ⟨v, h1, h2⟩ := ok.sh i d e
      exact ⟨v, h1, h2.stab ok.bl s⟩,
    fun i fl d hf e => by
      obtain ⟨a, xs, ds, h1, h2, h3, h4, h5⟩ := ok.ow i fl d hf e
      exact ⟨a, xs, ds, h1, h2, all _ _ h3, Rps.stab ok.bl s h4, h5⟩, ok.inj⟩
/-- something is laid at a new place -/
theorem Ok.laid (ok : Ok K en σ H ρ) (h : H p = none) : Ok K en σ (upd H p o) ρ ∧ Stab H (Ban en σ ρ) (upd H p o) (Ban en σ ρ) :=
  ⟨ok.stay (stab_new h) fun a u e _ => by rw [upd_ne (ne_of_none e h)]; exact e, stab_new h⟩
theorem ban_ban {a : Addr} : Ban (en.ban p) σ ρ a ↔ Ban en σ ρ a ∨ a = p := by
  unfold Ban En.ban
  constructor
  · rintro ((h | h) | h)
    · exact .inl (.inl h)
    · exact .inr h
    · exact .inl (.inr h)
  · rintro ((h | h) | h)
    · exact .inl (.inl h)
    · exact .inr h
    · exact .inl (.inr h)
/-- a list is laid at a new place, and it is shut off -/
theorem Ok.shut (ok : Ok K en σ H ρ) (h : H p = none) : Ok K (en.ban p) σ (upd H p (.lst vs)) ρ ∧ Stab H (Ban en σ ρ) (upd H p (.lst vs)) (Ban (en.ban p) σ ρ) := by
  have s : Stab H (Ban en σ ρ) (upd H p (.lst vs)) (Ban (en.ban p) σ ρ) := ⟨fun a u e _ => by rw [upd_ne (ne_of_none e h)]; exact e, fun a z n => by
    rcases ban_ban.mp z with z | z
    · exact z
    · rw [z] at n
      exact absurd h n, (stab_new (B := Ban en σ ρ) h).tr⟩
  have nb := ok.not_ban h
  refine ⟨⟨ok.len, fun a n => .inl (ok.nb a n), fun a o e n => ?_, fun a b => ?_, fun i d e => ?_, fun i fl d hf e => ?_, ok.inj⟩, s⟩
  · have e1 := ok.kp a o e n
    rw [upd_ne (ne_of_none e1 h)]
    exact e1
  · rcases ban_ban.mp b with b | b
    · obtain ⟨xs, e⟩ := ok.bl a b
      exact ⟨xs, by rw [upd_ne (ne_of_none e h)]; exact e⟩
    · exact ⟨vs, by rw [b, upd_same]⟩
  · obtain ⟨v, h1, h2⟩ := ok.sh i d e
    exact ⟨v, h1, h2.stab ok.bl s⟩
  · obtain ⟨a, xs, ds, h1, h2, h3, h4, h5, h6⟩ := ok.ow i fl d hf e
    refine ⟨a, xs, ds, h1, h2, by rw [upd_ne (ne_of_none h3 h)]; exact h3, Rps.stab ok.bl s h4, fun z => ⟨(h5 z).1, ?_⟩, h6⟩
    rintro (q | q)
    · exact (h5 z).2 q
    · rw [q, h] at h3
      cases h3
/-- a list stands at a place that was new: it is shut off -/
theorem Ok.shutN (ok : Ok K en σ H ρ) (h : H p = none) (kpA : ∀ a o, H a = some o → H1 a = some o) (h1 : H1 p = some (.lst vs)) : Ok K (en.ban p) σ H1 ρ ∧ Stab H (Ban en σ ρ) H1 (Ban (en.ban p) σ ρ) := by
  have s : Stab H (Ban en σ ρ) H1 (Ban (en.ban p) σ ρ) := ⟨fun a u e _ => kpA a u e, fun a z n => by
    rcases ban_ban.mp z with z | z
    · exact z
    · rw [z] at n
      exact absurd h n, fun a n => by
    cases e : H a with
    | none => exact absurd e n
    | some o =>
      rw [kpA a o e]
      exact fun z => nomatch z⟩
  have nb := ok.not_ban h
  refine ⟨⟨ok.len, fun a n => .inl (ok.nb a n), fun a o e n => kpA a o (ok.kp a o e n), fun a b => ?_, fun i d e => ?_, fun i fl d hf e => ?_, ok.inj⟩, s⟩
  · rcases ban_ban.mp b with b | b
    · obtain ⟨xs, e⟩ := ok.bl a b
      exact ⟨xs, kpA a _ e⟩
    · exact ⟨vs, by rw [b]; exact h1⟩
  · obtain ⟨v, h1, h2⟩ := ok.sh i d e
    exact ⟨v, h1, h2.stab ok.bl s⟩
  · obtain ⟨a, xs, ds, h1, h2, h3, h4, h5, h6⟩ := ok.ow i fl d hf e
    refine ⟨a, xs, ds, h1, h2, kpA a _ h3, Rps.stab ok.bl s h4, fun z => ⟨(h5 z).1, ?_⟩, h6⟩
    rintro (q | q)
    · exact (h5 z).2 q
    · rw [q, h] at h3
      cases h3
/-- a list that was shut off is one of a slot's own -/
theorem Ok.set_ow {i : Nat} (nb : ∀ a, en.N0 a → en.B0 a) (ok : Ok K (en.ban p) σ H ρ) (n : ¬ Ban en σ ρ p) (e : H p = some (.lst vs)) (e0 : en.H0 p = none) (r : Rps K H (Ban (en.ban p) σ ρ) ds vs) :
    Ok K en (σ.set i (some (.ref p))) H (ρ.set i (some (.ow, .lst ds))) ∧ ∀ a, Ban en (σ.set i (some (.ref p))) (ρ.set i (some (.ow, .lst ds))) a → Ban (en.ban p) σ ρ a := by
  have get : ∀ {j : Nat} {fl : Fl} {d : D}, (ρ.set i (some (.ow, .lst ds)))[j]? = some (some (fl, d)) → (i = j ∧ fl = .ow ∧ d = .lst ds ∧ (σ.set i (some (V.ref p)))[j]? = some (some (V.ref p))) ∨ (i ≠ j ∧ ρ[j]? = some (some (fl, d))) := fun {j fl d} z => by
    by_cases q : i = j
    · subst q
      by_cases hi : i < ρ.length
      · rw [List.getElem?_set_self hi] at z
        cases z
        exact .inl ⟨rfl, rfl, rfl, List.getElem?_set_self (by rw [ok.len]; exact hi)⟩
      · rw [List.getElem?_eq_none (by rw [List.length_set]; omega)] at z
        cases z
    · rw [List.getElem?_set_ne q] at z
      exact .inr ⟨q, z⟩
  have sub : ∀ a, Ban en (σ.set i (some (.ref p))) (ρ.set i (some (.ow, .lst ds))) a → Ban (en.ban p) σ ρ a := fun a z => by
    rcases z with z | ⟨j, fl, d, h1, h2, h3⟩
    · exact .inl (.inl z)
    · rcases get h1 with ⟨_, _, _, g⟩ | ⟨q, g⟩
      · rw [h3] at g
        cases g
        exact .inl (.inr rfl)
      · rw [List.getElem?_set_ne q] at h3
        exact .inr ⟨j, fl, d, g, h2, h3⟩
  have s : Stab H (Ban (en.ban p) σ ρ) H (Ban en (σ.set i (some (.ref p))) (ρ.set i (some (.ow, .lst ds)))) := ⟨fun _ _ z _ => z, fun a z _ => sub a z, fun _ z => z⟩
  refine ⟨⟨by rw [List.length_set, List.length_set]; exact ok.len, nb, ok.kp, fun a z => ok.bl a (sub a z), fun j d z => ?_, fun j fl d hf z => ?_, fun j k a fl d fl' d' z1 f1 z2 f2 z3 z4 => ?_⟩, sub⟩
  · rcases get z with ⟨_, q, _⟩ | ⟨q, g⟩
    · cases q
    · obtain ⟨v, h1, h2⟩ := ok.sh j d g
      exact ⟨v, by rw [List.getElem?_set_ne q]; exact h1, h2.stab ok.bl s⟩
  · rcases get z with ⟨_, q1, q2, q3⟩ | ⟨q, g⟩
    · exact ⟨p, vs, ds, q3, q2, e, Rps.stab ok.bl s r, fun _ => ⟨e0, fun y => n (.inl y)⟩, fun y => by rw [q1] at y; cases y⟩
    · obtain ⟨a, xs, es, h1, h2, h3, h4, h5, h6⟩ := ok.ow j fl d hf g
      exact ⟨a, xs, es, by rw [List.getElem?_set_ne q]; exact h1, h2, h3, Rps.stab ok.bl s h4, fun y => ⟨(h5 y).1, fun y2 => (h5 y).2 (.inl y2)⟩, h6⟩
  · have no : ∀ {l : Nat} {g : Fl} {x : D}, ρ[l]? = some (some (g, x)) → g ≠ .sh → σ[l]? = some (some (V.ref p)) → False := fun {l g x} y1 y2 y3 => n (.inr ⟨l, g, x, y1, y2, y3⟩)
    rcases get z1 with ⟨q1, _, _, g1⟩ | ⟨q1, g1⟩
    · rcases get z2 with ⟨q2, _, _, g2⟩ | ⟨q2, g2⟩
      · exact q1.symm.trans q2
      · rw [z3] at g1
        cases g1
        rw [List.getElem?_set_ne q2] at z4
        exact (no g2 f2 z4).elim
    · rw [List.getElem?_set_ne q1] at z3
      rcases get z2 with ⟨q2, _, _, g2⟩ | ⟨q2, g2⟩
      · rw [z4] at g2
        cases g2
        exact (no g1 f1 z3).elim
      · rw [List.getElem?_set_ne q2] at z4
        exact ok.inj j k a fl d fl' d' g1 f1 g2 f2 z3 z4
end

/-! ### tuples -/
def lenOk (n : Nat) : Bool := Nat.ble n sizeLine
theorem lenOk_le {n : Nat} (h : lenOk n = true) : n ≤ sizeLine := Nat.le_of_ble_eq_true h
def mTup (m : M (List D)) : M D := M.bnd m fun ds => if lenOk ds.length = true then M.ret (.tup ds) else M.stop
/-- a list that nobody else holds -/
structure DF (Γ : Cn) (e : Expr) (m : M (List D)) : Prop where
  ex : ∃ t, PE Γ.X e t ∧ ∀ en σ H ρ (Q : VK), Ok Γ.X.K en σ H ρ → Γ.J σ H (Ban en σ ρ) →
    Post Γ en σ H (Ban en σ ρ) (m ρ) (fun ds H' ρ' => ∀ p vs, H p = none → H' p = some (.lst vs) → Ok Γ.X.K (en.ban p) σ H' ρ' → ¬ Ban en σ ρ' p → Rps Γ.X.K H' (Ban (en.ban p) σ ρ') ds vs → Q (.ref p) H') → t σ H Q
def mLst (m : M (List D)) : M (List D) := M.bnd m fun ds => if lenOk ds.length = true then M.ret ds else M.stop
def mSh (m : M (List D)) : M D := M.bnd m fun ds => M.ret (.lst ds)
section
variable {Γ : Cn} {e a b : Expr} {es : List Expr} {pos : Pos} {m ma mb : M D} {mf : M (List D)}
theorem de_tup {k} (h : DA Γ es mf) : DE Γ (.Tuple es k pos) (mTup mf) := by
  obtain ⟨t, h, q⟩ := h.ex
  refine ⟨_, pe_tup h, fun en σ H ρ Q ok j p => ?_⟩
  refine q en σ H ρ _ ok j (p.bind.mono fun ds H1 ρ1 _ _ ⟨s1, ok1, p1⟩ vs rv => ?_)
  split at p1
  · rename_i hl
    refine ⟨by rw [← rv.length]; exact lenOk_le hl, fun a ha => ?_⟩
    obtain ⟨ok2, s2⟩ := ok1.laid (o := .tup vs) ha
    exact p1 _ ok2 s2 _ ⟨a, vs, rfl, SqT.of upd_same, Rps.stab ok1.bl s2 rv⟩
  · exact p1.elim
/-- the same list, told of by its datum -/
theorem DF.de (h : DF Γ e mf) : DE Γ e (mSh mf) := by
  obtain ⟨t, h, q⟩ := h.ex
  refine ⟨t, h, fun en σ H ρ Q ok j p => ?_⟩
  refine q en σ H ρ _ ok j (p.bind.mono fun ds H1 ρ1 _ _ ⟨s1, ok1, p1⟩ a vs ha e1 ok2 nb rv => ?_)
  refine Post.ret' ok1 p1 _ ⟨a, vs, rfl, ⟨nb, e1⟩, Rps.stab ok2.bl ⟨fun _ _ z _ => z, fun x z _ => ban_ban.mpr (.inl z), fun _ z => z⟩ rv⟩
theorem df_new {t : TE} (h : PE Γ.X e t) (q : ∀ en σ H ρ (Q : VK), Ok Γ.X.K en σ H ρ → Γ.J σ H (Ban en σ ρ) →
    Post Γ en σ H (Ban en σ ρ) (mf ρ) (fun ds H1 ρ' => ∀ vs p, H1 p = none → Rps Γ.X.K H1 (Ban en σ ρ') ds vs → Q (.ref p) (upd H1 p (.lst vs))) → t σ H Q) : DF Γ e mf := by
  refine ⟨t, h, fun en σ H ρ Q ok j p => q en σ H ρ Q ok j ?_⟩
  cases e1 : mf ρ with
  | stuck =>
    rw [e1] at p
    exact p
  | ex x ρ' =>
    rw [e1] at p
    exact p
  | ok ds ρ1 =>
    rw [e1] at p
    intro H1 ok1 s1 vs a ha rv
    obtain ⟨ok2, s2⟩ := ok1.laid (o := .lst vs) ha
    obtain ⟨ok3, s3⟩ := ok1.shut (vs := vs) ha
    have hn : H a = none := by
      cases z : H a with
      | none => rfl
      | some o => exact absurd ha (s1.tr a (by rw [z]; exact fun y => nomatch y))
    exact p _ ok2 (s1.trans s2) a vs hn upd_same ok3 (ok1.not_ban ha) (Rps.stab ok1.bl s3 rv)
theorem df_lst (h : DA Γ es mf) : DF Γ (.List es pos) (mLst mf) := by
  obtain ⟨t, h, q⟩ := h.ex
  refine df_new (pe_lst h) fun en σ H ρ Q ok j p => ?_
  refine q en σ H ρ _ ok j (p.bind.mono fun ds H1 ρ1 _ _ ⟨s1, ok1, p1⟩ vs rv => ?_)
  split at p1
  · rename_i hl
    exact ⟨by rw [← rv.length]; exact lenOk_le hl, fun a ha => Post.ret' ok1 p1 vs a ha rv⟩
  · exact p1.elim

/-! ### the sum of two lists, a list times an int -/
def isL : D → Option (List D)
  | .lst xs => some xs
  | _ => none
def rCatR : R2 := fun x y H Q => ∃ l b xs zs, x = .ref l ∧ y = .ref b ∧ Rd H l (.lst xs) ∧ Rd H b (.lst zs) ∧ xs.length + zs.length ≤ sizeLine ∧ ∀ p, H p = none → Q (.ref p) (upd H p (.lst (xs ++ zs)))
theorem op_catR {X : Cx} : OpR X (binaryOp .Add) rCatR := by
  rintro pins s σ H x y v u Q I rx ry ⟨l, b, xs, zs, rfl, rfl, h1, h2, hz, q⟩
  obtain rfl : v = Value.ref l := rx
  obtain rfl : u = Value.ref b := ry
  obtain ⟨z1, i1, n1, r1, e1⟩ := (show ObjOk X.prog X.w H s.heap l (.lst xs) from h1.ok I.hok)
  obtain ⟨z2, i2, n2, r2, e2⟩ := (show ObjOk X.prog X.w H s.heap b (.lst zs) from h2.ok I.hok)
  have l1 := r1.length
  have l2 := r2.length
  refine PySem.P.add_list e1 e2 ?_ (by rw [List.size_toArray, List.size_toArray]; omega)
  rw [show i1.toArray ++ i2.toArray = (i1 ++ i2).toArray by simp]
  exact ⟨.ref _, _, I.lnew (t' := s.toks) (r1.append r2) (by rw [List.length_append]; omega), rfl, q _ I.fresh⟩
def catD (x y : D) : Option (List D) := (isL x).bind fun xs => (isL y).bind fun ys => if lenOk (xs.length + ys.length) = true then some (xs ++ ys) else none
def mCat (ma mb : M D) : M (List D) := M.bnd ma fun x => M.bnd mb fun y => M.lift (catD x y)
theorem isL_some {d : D} {xs : List D} (h : isL d = some xs) : d = .lst xs := by
  cases d <;> (try (cases h; done))
  cases h
  rfl
theorem catD_some {x y : D} {zs : List D} (h : catD x y = some zs) : ∃ xs ys, x = .lst xs ∧ y = .lst ys ∧ xs.length + ys.length ≤ sizeLine ∧ zs = xs ++ ys := by
  unfold catD at h
  cases e1 : isL x with
  | none =>
    rw [e1] at h
    cases h
  | some xs =>
    cases e2 : isL y with
    | none =>
      rw [e1, e2] at h
      cases h
    | some ys =>
      rw [e1, e2, Option.bind_some, Option.bind_some] at h
      split at h
      · rename_i hl
        cases h
        exact ⟨xs, ys, isL_some e1, isL_some e2, lenOk_le hl, rfl⟩
      · cases h
theorem df_cat (ha : DE Γ a ma) (hb : DE Γ b mb) : DF Γ (.BinOp a .Add b pos) (mCat ma mb) := by
  obtain ⟨t, h, q⟩ := ha.ex
  obtain ⟨u, g, w⟩ := hb.ex
  refine df_new (pe_op op_catR h g) fun en σ H ρ Q ok j p => ?_
  refine q en σ H ρ _ ok j (p.bind.mono fun d H1 ρ1 _ _ ⟨s1, ok1, p1⟩ x rx => ?_)
  refine w en σ H1 ρ1 _ ok1 (Γ.hJ ok.bl s1 j) (p1.bind.mono fun c H2 ρ2 _ _ ⟨s2, ok2, p2⟩ y ry => ?_)
  cases e0 : catD d c with
  | none =>
    rw [e0] at p2
    exact p2.elim
  | some zs =>
    rw [e0] at p2
    obtain ⟨xs, ys, rfl, rfl, hz, rfl⟩ := catD_some e0
    obtain ⟨pa, va, g1, g2, g3⟩ := rx.stab ok1.bl s2
    obtain ⟨pb, vb, k1, k2, k3⟩ := ry
    refine ⟨pa, pb, va, vb, g1, k1, .inl g2.2, .inl k2.2, ?_, fun a ha => Post.ret' ok2 p2 _ a ha (Rps.append g3 k3)⟩
    have z1 := g3.length
    have z2 := k3.length
    omega
def repOk (n : Nat) (k : Int) : Bool := lenOk (n * k.toNat) && Nat.ble k.natAbs 4611686018427387904
def repD (xs : List D) : D → Option (List D)
  | .int k => if repOk xs.length k = true then some (List.replicate k.toNat xs).flatten else none
  | _ => none
def mRep (ma : M (List D)) (mb : M D) : M (List D) := M.bnd ma fun xs => M.bnd mb fun y => M.lift (repD xs y)
theorem Rps.rep {K : PySem.W.Frag} {H : Hp} {B : Addr → Prop} {ds : List D} {vs : List V} (r : Rps K H B ds vs) : ∀ n : Nat, Rps K H B (List.replicate n ds).flatten (List.replicate n vs).flatten
  | 0 => rfl
  | n + 1 => by
    rw [List.replicate_succ, List.replicate_succ, List.flatten_cons, List.flatten_cons]
    exact Rps.append r (Rps.rep r n)
theorem df_rep (ha : DF Γ a mf) (hb : DE Γ b mb) : DF Γ (.BinOp a .Mult b pos) (mRep mf mb) := by
  obtain ⟨t, h, q⟩ := ha.ex
  obtain ⟨u, g, w⟩ := hb.ex
  refine df_new (pe_op op_rep h g) fun en σ H ρ Q ok j p => ?_
  refine q en σ H ρ _ ok j (p.bind.mono fun xs H1 ρ1 _ _ ⟨s1, ok1, p1⟩ pa va hn e1 okb nb rv => ?_)
  have rv' : Rps Γ.X.K H1 (Ban en σ ρ1) xs va := Rps.stab okb.bl ⟨fun _ _ z _ => z, fun x z _ => ban_ban.mpr (.inl z), fun _ z => z⟩ rv
  refine w en σ H1 ρ1 _ ok1 (Γ.hJ ok.bl s1 j) (p1.bind.mono fun c H2 ρ2 _ _ ⟨s2, ok2, p2⟩ y ry => ?_)
  cases c with
  | int k =>
    unfold repD at p2
    dsimp only at p2
    split at p2
    · rename_i hl
      obtain ⟨h1, h2⟩ := Bool.and_eq_true_iff.mp hl
      have h3 : k.natAbs ≤ 4611686018427387904 := Nat.le_of_ble_eq_true h2
      have g3 := Rps.stab ok1.bl s2 rv'
      refine ⟨pa, k, va, rfl, ry, s2.kp _ _ e1 nb, by omega, by omega, ?_, fun a ha => Post.ret' ok2 p2 _ a ha (Rps.rep g3 _)⟩
      rw [← g3.length]
      exact lenOk_le h1
    · exact p2.elim
  | _ => exact p2.elim
end
end DL
set_option Elab.async false
set_option linter.all false
set_option maxRecDepth 100000
/-! The data layer, fifth part: a def as a function on data; its calls. The first argument may be a list that the def writes (io). -/
namespace DL
open PySem PySem.Spec PyProof.Rows L2

inductive Res where
  | ok (d o : D)
  | ex (x : Exn)
  | stuck
abbrev Fs := List D → Res

/-- a def that is called where nothing is being shown -/
structure FnG (P : Program) (w : World) (K : PySem.W.Frag) (mg : Str → Option Value) (base : Heap) (k : Nat) (f : Addr) (fd : FuncData) (ps : List Str) (sp : Sp) : Prop where
  len : ∀ vs H Q E, sp vs H Q E → vs.length = ps.length
  run : ∀ (A : Around) (outer : List Env) (s : Shared) (H : Hp) (args : Args) (us : List Value) (vs : List V) (Q : VK) (E : XK), A.guards = some [] → Room k A → Env0 P w K mg base A outer s H → BindsTo s fd args (ps.zip us) → Vals vs us → sp vs H Q E →
    codeAny (model P w) A (.call (.ref f) args) (CR (L2.CX P w) outer P w H s Q E) s
theorem FnG.mono {P : Program} {w : World} {K : PySem.W.Frag} {mg : Str → Option Value} {base : Heap} {j k : Nat} {f : Addr} {fd : FuncData} {ps : List Str} {sp : Sp} (F : FnG P w K mg base j f fd ps sp) (h : j ≤ k) : FnG P w K mg base k f fd ps sp :=
  ⟨F.len, fun A outer s H args us vs Q E hg hr => F.run A outer s H args us vs Q E hg (hr.mono h)⟩
theorem FnG.imp {P : Program} {w : World} {K : PySem.W.Frag} {mg : Str → Option Value} {base : Heap} {k : Nat} {f : Addr} {fd : FuncData} {ps : List Str} {sp sp' : Sp} (F : FnG P w K mg base k f fd ps sp)
    (h : ∀ vs H Q E, sp' vs H Q E → sp vs H Q E) : FnG P w K mg base k f fd ps sp' :=
  ⟨fun vs H Q E q => F.len vs H Q E (h _ _ _ _ q), fun A outer s H args us vs Q E hg hr he hb hv hs => F.run A outer s H args us vs Q E hg hr he hb hv (h _ _ _ _ hs)⟩

section
variable {P : Program} {w : World} {K : PySem.W.Frag} {mg : Str → Option Value} {base : Heap}
/-- a def by its body -/
theorem fng_of {x qual : Str} {params : Arguments} {body : List Stmt} {scope : Scope} {dvs : List V} {kws : List (Str × V)} {f : Addr} {fd : FuncData} {N ps : List Str} {k : Nat} {sp : Sp}
    (F : FunD K x qual params body scope dvs kws f fd) (S : FnScope N ps scope) (len : ∀ vs H Q E, sp vs H Q E → vs.length = ps.length)
    (hbody : ∀ (cdv : Value) (A : Around) (outer : List Env) (s : Shared) (H : Hp) (vs : List V) (Q : VK) (E : XK), A.guards = some [] → Room k (A.deeper (envOfC qual scope s.heap.objs.size f cdv)) → sp vs H Q E →
      ∃ t, PSs (cxOf (L2.CX P w) P w K mg base N qual scope f cdv A outer s H E) body t ∧ t { nx := fun _ H' => Q .non H', rt := Q } (start N vs) H) : FnG P w K mg base (k + 1) f fd ps sp := by
  obtain ⟨oc, od, dV, kV, doc, pm, an, cdv, ct, osl, rfl, lk, hcd, _, _⟩ := F.ex
  refine ⟨len, fun A outer s H args us vs Q E hg hr e0 hb r hsp => ?_⟩
  have KX : K.In s.heap := e0.mod.kin.keeps fun b o e => (e0.bs b o e).1
  have lim : s.heap.NoLimit := e0.mod.nolimit.keeps fun b o e => (e0.bs b o e).1
  have kinds : ∀ y ∈ ps.zip us, scope.names.lookup y.1 = some .local ∨ (scope.names.lookup y.1 = some .cell ∧ ((cellsFrom (s.heap.objs.size + 1) scope.names []).lookup y.1).isSome = true) := by
    rintro ⟨n, v⟩ hy
    rcases S.par n (List.of_mem_zip hy).1 with q | q
    · exact .inl q
    · exact .inr ⟨q, PySem.W.cellsFrom_some _ _ _ (.inl q)⟩
  refine codeAny_call_function hr.depth (KX _ _ lk) rfl S.co S.gen rfl (PySem.W.codeRec_of KX hcd) (hb _ _ _ _ ?_)
  refine wpAny_newFunctionEnv_cells S.kind kinds fun env he s1 x => ?_
  subst he
  refine ⟨lim.keeps x.toInCall.keep, codeAny_func ?_⟩
  obtain ⟨t, ht, hq⟩ := hbody cdv A outer s H vs Q E hg (hr.deeper _) hsp
  have I := inv_start (CX := L2.CX P w) (E := E) S hr.hd e0 (len _ _ _ _ hsp) r x
  refine wpAny_mono (ht.run [] s1 (start N vs) H _ I hq) (fun fl s' hs => ?_) fun e s' hs => hs
  cases fl with
  | ret u =>
    obtain ⟨v, σ', H', J, rv, q⟩ := hs
    exact ⟨v, H', J.os, J.bare, J.base, J.hok, rv, q⟩
  | next =>
    obtain ⟨σ', H', J, q⟩ := hs
    exact ⟨.non, H', J.os, J.bare, J.base, J.hok, rfl, q⟩
  | brk =>
    obtain ⟨_, _, _, q⟩ := hs
    exact q.elim
  | cont =>
    obtain ⟨_, _, _, q⟩ := hs
    exact q.elim

/-! ### the promise of a function on data -/
def ArgsOk (K : PySem.W.Frag) (H : Hp) (B N : Addr → Prop) (io : Bool) (ds : List D) (vs : List V) : Prop := match io with
  | true => ∃ a xs es ds' vs', ds = .lst es :: ds' ∧ vs = .ref a :: vs' ∧ (∀ b, N b ↔ b = a) ∧ H a = some (.lst xs) ∧ Rps K H B es xs ∧ Rps K H B ds' vs'
  | false => (∀ b, ¬ N b) ∧ Rps K H B ds vs
/-- behind the call -/
structure After (H : Hp) (B N : Addr → Prop) (H' : Hp) : Prop where
  kp : ∀ a o, H a = some o → ¬ N a → H' a = some o
  bl : BL H' B
  tr : ∀ a, H a ≠ none → H' a ≠ none
def OutOk (K : PySem.W.Frag) (H' : Hp) (B : Addr → Prop) (io : Bool) (o : D) (vs : List V) : Prop := match io with
  | true => ∃ a vs' es xs, vs = .ref a :: vs' ∧ o = .lst es ∧ H' a = some (.lst xs) ∧ Rps K H' B es xs
  | false => True
def spD (K : PySem.W.Frag) (n : Nat) (io fr : Bool) (F : Fs) : Sp := fun vs H Q E => ∃ ds B N, vs.length = n ∧ (∀ a, N a → B a) ∧ BL H B ∧ ArgsOk K H B N io ds vs ∧ match F ds with
  | .ok d o => ∀ v H', After H B N H' → RtOk fr K H B H' B d v → OutOk K H' B io o vs → Q v H'
  | .ex x => ∀ cls d H', After H B N H' → ExAt K H' B x cls d → E cls d H'
  | .stuck => False
/-- the entry's slots -/
def rho0 (io : Bool) (n : Nat) (ds : List D) : Rho := (match io, ds with
  | true, d :: r => some (Fl.io, d) :: r.map fun d => some (Fl.sh, d)
  | _, ds => ds.map fun d => some (Fl.sh, d)) ++ List.replicate (n - ds.length) none
def outOf (io : Bool) (ρ : Rho) : Option D := match io with
  | false => some .non
  | true => match ρ[0]? with
    | some (some (Fl.io, d)) => some d
    | _ => none
def okR (d : D) : Option D → Res
  | some o => .ok d o
  | none => .stuck
def fin (io : Bool) : Out Fw → Res
  | .ok .nx ρ => okR .non (outOf io ρ)
  | .ok (.rt d) ρ => okR d (outOf io ρ)
  | .ok .bk _ => .stuck
  | .ok .ct _ => .stuck
  | .ex x _ => if io = true then .stuck else .ex x
  | .stuck => .stuck
/-- what a def does by its body -/
def bodyF (n : Nat) (io : Bool) (m : M Fw) : Fs := fun ds => fin io (m (rho0 io n ds))
end
section
variable {K : PySem.W.Frag} {H : Hp} {B N : Addr → Prop}
theorem start_get {NN : List Str} {vs : List V} {i : Nat} {v : V} (h : vs[i]? = some v) : (start NN vs)[i]? = some (some v) := by
  have hi : i < vs.length := (List.getElem?_eq_some_iff.mp h).1
  unfold L2.start
  rw [List.getElem?_append_left (by simpa using hi), List.getElem?_map, h]
  rfl
theorem sh_get {ds : List D} {k i : Nat} {z : Fl × D} (h : ((ds.map fun d => some (Fl.sh, d)) ++ List.replicate k (none : Option (Fl × D)))[i]? = some (some z)) : ∃ d, z = (.sh, d) ∧ ds[i]? = some d := by
  by_cases hi : i < ds.length
  · rw [List.getElem?_append_left (by simpa using hi), List.getElem?_map] at h
    cases e : ds[i]? with
    | none =>
      rw [e] at h
      cases h
    | some d =>
      rw [e] at h
      have h' := Option.some.inj (Option.some.inj h)
      exact ⟨d, h'.symm, rfl⟩
  · rw [List.getElem?_append_right (by simpa using hi), List.getElem?_replicate] at h
    split at h <;> cases h
theorem start_ok {NN : List Str} {io : Bool} {ds : List D} {vs : List V} (nb : ∀ a, N a → B a) (bl : BL H B) (ar : ArgsOk K H B N io ds vs) (hn : vs.length ≤ NN.length) :
    Ok K ⟨H, B, N, vs⟩ (start NN vs) H (rho0 io NN.length ds) ∧ ∀ a, Ban ⟨H, B, N, vs⟩ (start NN vs) (rho0 io NN.length ds) a ↔ B a := by
  cases io with
  | false =>
    obtain ⟨hN, rs⟩ := ar
    have hl := rs.length
    have get : ∀ {i : Nat} {z : Fl × D}, (rho0 false NN.length ds)[i]? = some (some z) → ∃ d, z = (.sh, d) ∧ ds[i]? = some d := fun {i z} h => sh_get h
    have ban : ∀ a, Ban ⟨H, B, N, vs⟩ (start NN vs) (rho0 false NN.length ds) a ↔ B a := fun a => ⟨fun z => by
      rcases z with z | ⟨i, fl, d, h1, h2, _⟩
      · exact z
      · obtain ⟨d', e, _⟩ := get h1
        cases e
        exact absurd rfl h2, .inl⟩
    have st : Stab H B H (Ban ⟨H, B, N, vs⟩ (start NN vs) (rho0 false NN.length ds)) := ⟨fun _ _ z _ => z, fun a z _ => (ban a).mp z, fun _ z => z⟩
    refine ⟨⟨?_, nb, fun a o e _ => e, fun a z => bl a ((ban a).mp z), fun i d h => ?_, fun i fl d hf h => ?_, fun i j a fl d fl' d' h1 f1 _ _ _ _ => ?_⟩, ban⟩
    · show (start NN vs).length = (List.map _ ds ++ List.replicate _ none).length
      unfold L2.start
      rw [List.length_append, List.length_map, List.length_replicate, List.length_append, List.length_map, List.length_replicate, hl]
    · obtain ⟨d', e, g⟩ := get h
      cases e
      obtain ⟨v, g1, g2⟩ := rs.get g
      exact ⟨v, start_get g1, g2.stab bl st⟩
    · obtain ⟨d', e, _⟩ := get h
      cases e
      exact absurd rfl hf
    · obtain ⟨d', e, _⟩ := get h1
      cases e
      exact absurd rfl f1
  | true =>
    obtain ⟨a0, xs, es, ds', vs', rfl, rfl, hN, ha, rx, rs⟩ := ar
    have hl := rs.length
    have get : ∀ {i : Nat} {z : Fl × D}, (rho0 true NN.length (.lst es :: ds'))[i]? = some (some z) → (i = 0 ∧ z = (.io, .lst es)) ∨ ∃ j d, i = j + 1 ∧ z = (.sh, d) ∧ ds'[j]? = some d := fun {i z} h => by
      cases i with
      | zero =>
        have h' := Option.some.inj (Option.some.inj h)
        exact .inl ⟨rfl, h'.symm⟩
      | succ j =>
        have h' : ((ds'.map fun d => some (Fl.sh, d)) ++ List.replicate (NN.length - (ds'.length + 1)) (none : Option (Fl × D)))[j]? = some (some z) := h
        obtain ⟨d, e, g⟩ := sh_get h'
        exact .inr ⟨j, d, rfl, e, g⟩
    have s0 : (start NN (.ref a0 :: vs'))[0]? = some (some (V.ref a0)) := rfl
    have ban : ∀ a, Ban ⟨H, B, N, .ref a0 :: vs'⟩ (start NN (.ref a0 :: vs')) (rho0 true NN.length (.lst es :: ds')) a ↔ B a := fun a => ⟨fun z => by
      rcases z with z | ⟨i, fl, d, h1, h2, h3⟩
      · exact z
      · rcases get h1 with ⟨rfl, e⟩ | ⟨j, d', rfl, e, _⟩
        · rw [s0] at h3
          cases h3
          exact nb _ ((hN _).mpr rfl)
        · cases e
          exact absurd rfl h2, .inl⟩
    have st : Stab H B H (Ban ⟨H, B, N, .ref a0 :: vs'⟩ (start NN (.ref a0 :: vs')) (rho0 true NN.length (.lst es :: ds'))) := ⟨fun _ _ z _ => z, fun a z _ => (ban a).mp z, fun _ z => z⟩
    refine ⟨⟨?_, nb, fun a o e _ => e, fun a z => bl a ((ban a).mp z), fun i d h => ?_, fun i fl d hf h => ?_, fun i j a fl d fl' d' h1 f1 h2 f2 _ _ => ?_⟩, ban⟩
    · show (start NN (.ref a0 :: vs')).length = (some (Fl.io, D.lst es) :: List.map _ ds' ++ List.replicate _ none).length
      unfold L2.start
      rw [List.length_append, List.length_map, List.length_replicate, List.length_append, List.length_cons, List.length_cons, List.length_map, List.length_replicate, List.length_cons, hl]
    · rcases get h with ⟨_, e⟩ | ⟨j, d', rfl, e, g⟩
      · cases e
      · cases e
        obtain ⟨v, g1, g2⟩ := rs.get g
        exact ⟨v, start_get (by simpa using g1), g2.stab bl st⟩
    · rcases get h with ⟨rfl, e⟩ | ⟨j, d', rfl, e, _⟩
      · cases e
        exact ⟨a0, xs, es, s0, rfl, ha, Rps.stab bl st rx, fun z => (by cases z), fun _ => ⟨(hN _).mpr rfl, rfl⟩⟩
      · cases e
        exact absurd rfl hf
    · rcases get h1 with ⟨rfl, _⟩ | ⟨j, d', rfl, e, _⟩
      · rcases get h2 with ⟨rfl, _⟩ | ⟨j, d', rfl, e, _⟩
        · rfl
        · cases e
          exact absurd rfl f2
      · cases e
        exact absurd rfl f1
end

section
variable {P : Program} {w : World} {K : PySem.W.Frag} {mg : Str → Option Value} {base : Heap}
theorem args_len {H : Hp} {B N : Addr → Prop} {io : Bool} {ds : List D} {vs : List V} (h : ArgsOk K H B N io ds vs) : ds.length = vs.length := by
  cases io with
  | true =>
    obtain ⟨a, xs, es, ds', vs', rfl, rfl, _, _, _, rs⟩ := h
    rw [List.length_cons, List.length_cons, rs.length]
  | false => exact h.2.length
/-- the context of a def's body on data -/
def cnOf (fr : Bool) (P : Program) (w : World) (K : PySem.W.Frag) (mg : Str → Option Value) (base : Heap) (N : List Str) (qual : Str) (scope : Scope) (f : Addr) (cdv : Value) (A : Around) (outer : List Env) (s : Shared) (H : Hp) (E : XK) : Cn where
  X := cxOf (L2.CX P w) P w K mg base N qual scope f cdv A outer s H E
  W := fun cls d _ H' => E cls d H'
  J := fun _ _ _ => True
  hJ := fun _ _ _ => True.intro
  fr := fr
theorem fn_mk {x qual : Str} {params : Arguments} {body : List Stmt} {scope : Scope} {dvs : List V} {kws : List (Str × V)} {f : Addr} {fd : FuncData} {NN ps : List Str} {k : Nat} {io fr : Bool} {m : M Fw}
    (F : FunD K x qual params body scope dvs kws f fd) (S : FnScope NN ps scope)
    (hbody : ∀ (cdv : Value) (A : Around) (outer : List Env) (s : Shared) (H : Hp) (E : XK), A.guards = some [] → Room k (A.deeper (envOfC qual scope s.heap.objs.size f cdv)) →
      Takes (cnOf fr P w K mg base NN qual scope f cdv A outer s H E).X (cnOf fr P w K mg base NN qual scope f cdv A outer s H E).W → DSs (cnOf fr P w K mg base NN qual scope f cdv A outer s H E) body m) :
    FnG P w K mg base (k + 1) f fd ps (spD K ps.length io fr (bodyF NN.length io m)) := by
  refine fng_of F S (fun vs H Q E h => ?_) fun cdv A outer s H vs Q E hg hr h => ?_
  · obtain ⟨ds, B, N, hl, _⟩ := h
    exact hl
  · obtain ⟨ds, B, N, hl, nb, bl, ar, h⟩ := h
    have tk : Takes (cnOf fr P w K mg base NN qual scope f cdv A outer s H E).X (cnOf fr P w K mg base NN qual scope f cdv A outer s H E).W := takes_of rfl rfl rfl rfl
    obtain ⟨t, ht, q⟩ := (hbody cdv A outer s H E hg hr tk).ex
    refine ⟨t, ht, ?_⟩
    have hNN : vs.length ≤ NN.length := by
      have e := congrArg List.length S.pre
      rw [List.length_take] at e
      omega
    obtain ⟨ok, ban⟩ := start_ok (NN := NN) nb bl ar hNN
    have sb : ∀ {H' : Hp} {σ' : L2.St} {ρ' : Rho}, Ok K ⟨H, B, N, vs⟩ σ' H' ρ' → Stab H' (Ban ⟨H, B, N, vs⟩ σ' ρ') H' B := fun _ => ⟨fun _ _ z _ => z, fun a z _ => .inl z, fun _ z => z⟩
    have af : ∀ {H' : Hp} {σ' : L2.St} {ρ' : Rho}, Ok K ⟨H, B, N, vs⟩ σ' H' ρ' → Stab H (Ban ⟨H, B, N, vs⟩ (start NN vs) (rho0 io NN.length ds)) H' (Ban ⟨H, B, N, vs⟩ σ' ρ') → After H B N H' := fun o st => ⟨o.kp, fun a z => o.bl a (.inl z), st.tr⟩
    have out : ∀ {H' : Hp} {σ' : L2.St} {ρ' : Rho} {o : D}, Ok K ⟨H, B, N, vs⟩ σ' H' ρ' → outOf io ρ' = some o → OutOk K H' B io o vs := fun {H' σ' ρ' o} ok' e => by
      cases io with
      | false => exact True.intro
      | true =>
        unfold outOf at e
        dsimp only at e
        split at e
        · rename_i d e0
          cases e
          obtain ⟨a, xs, es, h1, h2, h3, h4, _, h5⟩ := ok'.ow 0 Fl.io _ (by decide) e0
          have h6 := (h5 rfl).2
          cases vs with
          | nil => cases h6
          | cons v vs' =>
            cases h6
            exact ⟨a, vs', es, xs, rfl, h2, h3, Rps.stab ok'.bl (sb ok') h4⟩
        · cases e
    refine q ⟨H, B, N, vs⟩ _ H _ _ ok True.intro ?_
    unfold bodyF at h
    cases e : m (rho0 io NN.length ds) with
    | ok fw ρ' =>
      rw [e] at h
      cases fw with
      | nx =>
        unfold fin at h
        dsimp only at h
        cases e2 : outOf io ρ' with
        | none =>
          rw [e2] at h
          exact False.elim h
        | some o =>
          rw [e2] at h
          exact fun σ' H' ok' st => h .non H' (af ok' st) (RtOk.of_rp (.inr fun _ z => nomatch z) rfl) (out ok' e2)
      | rt d =>
        unfold fin at h
        dsimp only at h
        cases e2 : outOf io ρ' with
        | none =>
          rw [e2] at h
          exact False.elim h
        | some o =>
          rw [e2] at h
          exact fun σ' H' ok' st v rv => h v H' (af ok' st) (rv.stab ok'.bl (sb ok')) (out ok' e2)
      | bk => exact False.elim h
      | ct => exact False.elim h
    | ex x ρ' =>
      rw [e] at h
      unfold fin at h
      dsimp only at h
      cases io with
      | true => exact False.elim h
      | false =>
        refine fun σ' H' cls d ok' st hx => h cls d H' (af ok' st) ?_
        obtain ⟨h1, h2⟩ := hx
        exact ⟨h1, h2.imp id fun ⟨a, us, g1, g2, g3⟩ => ⟨a, us, g1, g2, RpF.stab ok'.bl (sb ok') g3⟩⟩
    | stuck =>
      rw [e] at h
      exact False.elim h
end
end DL
set_option Elab.async false
set_option linter.all false
set_option maxRecDepth 100000
/-! The data layer, sixth part: calls of defs on data, of built-in functions and types, isinstance, str. -/
namespace DL
open PySem PySem.Spec PyProof.Rows L2

section
variable {X : Cx} {k : Nat} {f : Addr} {fd : FuncData} {ps : List Str} {sp : Sp} {E : L2.St → XK} {x : Str} {p pos : Pos} {e : Expr} {es : List Expr} {t : TA} {dvs : List V} {ds : List Value}
theorem run_g {pins : List (Addr × Obj)} {σ : L2.St} {H : Hp} {s : Shared} {Q : VK} {us : List Value} {vs : List V} (F : FnG X.prog X.w X.K X.mg X.base k f fd ps sp) (hg : X.A.guards = some []) (hr : Room k X.A) (hb : Binds X.K fd ps ds) (hd : Vals dvs ds)
    (hx : PassesAt (L2.CX X.prog X.w) X σ (E σ)) (I : Inv X pins σ H s) (r : Vals vs us) (h : sp (vs ++ dvs) H Q (E σ)) : wpAny (model X.prog X.w) X.A (call (.ref f) us) (EP X pins σ Q) X.xe s := by
  have r2 : Vals (vs ++ dvs) (us ++ ds) := r.append hd
  have hl : (us ++ ds).length = ps.length := by rw [← r2.length]; exact F.len _ _ _ _ h
  refine wpAny_call (codeAny_mono (F.run X.A X.stack s H ⟨us, []⟩ (us ++ ds) (vs ++ dvs) Q (E σ) hg hr I.env0 (hb s us I.kIn hl) r2 h) ?_)
  rintro (q | fl) s' hq
  · exact hx pins H s q s' I hq
  · cases fl with
    | ret u => exact I.after hq
    | next => exact hq.elim
    | brk => exact hq.elim
    | cont => exact hq.elim
theorem pe_callG (F : FnG X.prog X.w X.K X.mg X.base k f fd ps sp) (hg : X.A.guards = some []) (hr : Room k X.A) (hn : Gl X x) (hm : X.mg x = some (.ref f)) (hk : PySem.W.keepIn X.K (.ref f) = true) (hb : Binds X.K fd ps ds) (hd : Vals dvs ds)
    (hx : ∀ σ, PassesAt (L2.CX X.prog X.w) X σ (E σ)) (ha : PA X (e :: es) t) (hdb : (x == ("__debug__" : Str)) = false := by decide) (he : starEach (e :: es) X.env = (false, eval e X.env) :: starEach es X.env := by rfl)
    (hpl : (backTo pos (starEach es X.env)).any (·.1) = false := by rfl) : PE X (.Call (.Name x p) (e :: es) [] pos) (fun σ H Q => t σ H fun vs H1 => sp (vs ++ dvs) H1 Q (E σ)) := by
  refine ⟨fun pins s σ H Q I h => wpAny_Call_Name_kw (ld_glob I hn hm ?_ hdb)⟩
  refine PySem.W.callWith_K (h₀ := X.base) I.ok.mod.kin hk (thn (ha.run pos pins s σ H _ I h) ?_) he hpl
  rintro us s1 ⟨vs, H1, I1, r, q⟩
  exact ⟨I1.kIn, run_g F hg hr hb hd (hx σ) I1 r q⟩
end

/-- a def of the module on data -/
structure Fn (P : Program) (w : World) (K : PySem.W.Frag) (mg : Str → Option Value) (base : Heap) (k : Nat) (x : Str) (n : Nat) (io fr : Bool) (F : Fs) : Prop where
  ex : ∃ fd ps, ps.length = n ∧ FnG P w K mg base k (He.ga K x) fd ps (spD K n io fr F) ∧ Binds K fd ps []
  gm : mg x = some (.ref (He.ga K x))
  kp : PySem.W.keepIn K (.ref (He.ga K x)) = true
theorem spD_imp {K : PySem.W.Frag} {n : Nat} {io fr : Bool} {F F' : Fs} (h : ∀ ds, F' ds = .stuck ∨ F' ds = F ds) {vs : List V} {H : Hp} {Q : VK} {E : XK} (q : spD K n io fr F' vs H Q E) : spD K n io fr F vs H Q E := by
  obtain ⟨ds, B, N, h1, h2, h3, h4, h5⟩ := q
  refine ⟨ds, B, N, h1, h2, h3, h4, ?_⟩
  rcases h ds with e | e
  · rw [e] at h5
    exact h5.elim
  · rw [← e]
    exact h5
theorem Fn.imp {P : Program} {w : World} {K : PySem.W.Frag} {mg : Str → Option Value} {base : Heap} {k : Nat} {x : Str} {n : Nat} {io fr : Bool} {F F' : Fs} (f : Fn P w K mg base k x n io fr F) (h : ∀ ds, F' ds = .stuck ∨ F' ds = F ds) : Fn P w K mg base k x n io fr F' := by
  obtain ⟨⟨fd, ps, h0, h1, h2⟩, h3, h4⟩ := f
  exact ⟨⟨fd, ps, h0, h1.imp fun vs H Q E q => spD_imp h q, h2⟩, h3, h4⟩
theorem Fn.mono {P : Program} {w : World} {K : PySem.W.Frag} {mg : Str → Option Value} {base : Heap} {j k : Nat} {x : Str} {n : Nat} {io fr : Bool} {F : Fs} (f : Fn P w K mg base j x n io fr F) (h : j ≤ k) : Fn P w K mg base k x n io fr F := by
  obtain ⟨⟨fd, ps, h0, h1, h2⟩, h3, h4⟩ := f
  exact ⟨⟨fd, ps, h0, h1.mono h, h2⟩, h3, h4⟩
/-- a Fn at a context -/
abbrev FnC (Γ : Cn) (k : Nat) (x : Str) (n : Nat) (io fr : Bool) (F : Fs) : Prop := Fn Γ.X.prog Γ.X.w Γ.X.K Γ.X.mg Γ.X.base k x n io fr F

/-! ### a call, no argument written -/
def callF (F : Fs) (ds : List D) : M D := fun ρ => match F ds with
  | .ok d _ => .ok d ρ
  | .ex x => .ex x ρ
  | .stuck => .stuck
def mCall (F : Fs) (n : Nat) (m : M (List D)) : M D := M.bnd m fun ds => if ds.length = n then callF F ds else M.stop
section
variable {Γ : Cn} {en : En} {σ : L2.St} {H H1 : Hp} {ρ : Rho}
theorem After.ok {N : Addr → Prop} (ok : Ok Γ.X.K en σ H ρ) (hN : ∀ b, ¬ N b) (a : After H (Ban en σ ρ) N H1) : Ok Γ.X.K en σ H1 ρ ∧ Stab H (Ban en σ ρ) H1 (Ban en σ ρ) := by
  have s : Stab H (Ban en σ ρ) H1 (Ban en σ ρ) := ⟨fun x o e _ => a.kp x o e (hN x), fun _ z _ => z, a.tr⟩
  exact ⟨ok.stay s fun x o e _ => a.kp x o e (hN x), s⟩
theorem de_call {fr : Bool} {k n : Nat} {x : Str} {p pos : Pos} {e : Expr} {es : List Expr} {F : Fs} {m : M (List D)} (f : FnC Γ k x n false fr F) (hg : Γ.X.A.guards = some []) (hr : Room k Γ.X.A) (tk : Takes Γ.X Γ.W) (hn : Gl Γ.X x) (ha : DA Γ (e :: es) m)
    (hdb : (x == ("__debug__" : Str)) = false := by decide) (he : starEach (e :: es) Γ.X.env = (false, eval e Γ.X.env) :: starEach es Γ.X.env := by rfl)
    (hpl : (backTo pos (starEach es Γ.X.env)).any (·.1) = false := by rfl) : DE Γ (.Call (.Name x p) (e :: es) [] pos) (mCall F n m) := by
  obtain ⟨⟨fd, ps, h0, h1, h2⟩, h3, h4⟩ := f
  obtain ⟨t, ht, q⟩ := ha.ex
  refine ⟨_, pe_callG (E := WE Γ.W) h1 hg hr hn h3 h4 h2 .nil (fun σ => passAt tk σ) ht hdb he hpl, fun en σ H ρ Q ok j p => ?_⟩
  refine q en σ H ρ _ ok j (p.bind.mono fun ds H1 ρ1 _ _ ⟨s1, ok1, p1⟩ vs rv => ?_)
  split at p1
  · rename_i hl
    refine ⟨ds, Ban en σ ρ1, fun _ => False, by rw [List.append_nil, ← rv.length]; exact hl, fun _ z => z.elim, ok1.bl, ⟨fun _ z => z, by rw [List.append_nil]; exact rv⟩, ?_⟩
    unfold callF at p1
    cases e1 : F ds with
    | ok d o =>
      rw [e1] at p1
      intro v H2 a rd _
      obtain ⟨ok2, s2⟩ := a.ok (Γ := Γ) ok1 (fun _ z => z)
      exact p1 H2 ok2 s2 v (rd.rp ok1.bl)
    | ex x =>
      rw [e1] at p1
      intro cls d H2 a hx
      obtain ⟨ok2, s2⟩ := a.ok (Γ := Γ) ok1 (fun _ z => z)
      exact p1 H2 cls d ok2 s2 hx
    | stuck =>
      rw [e1] at p1
      exact p1.elim
  · exact p1.elim
end

/-- the result is a new list that nobody else holds -/
def lstR (F : Fs) (ds : List D) : M (List D) := fun ρ => match F ds with
  | .ok (.lst xs) _ => .ok xs ρ
  | .ok _ _ => .stuck
  | .ex x => .ex x ρ
  | .stuck => .stuck
def mCallF (F : Fs) (n : Nat) (m : M (List D)) : M (List D) := M.bnd m fun ds => if ds.length = n then lstR F ds else M.stop
section
variable {Γ : Cn}
theorem de_callF {k n : Nat} {x : Str} {p pos : Pos} {e : Expr} {es : List Expr} {F : Fs} {m : M (List D)} (f : FnC Γ k x n false true F) (hg : Γ.X.A.guards = some []) (hr : Room k Γ.X.A) (tk : Takes Γ.X Γ.W) (hn : Gl Γ.X x) (ha : DA Γ (e :: es) m)
    (hdb : (x == ("__debug__" : Str)) = false := by decide) (he : starEach (e :: es) Γ.X.env = (false, eval e Γ.X.env) :: starEach es Γ.X.env := by rfl)
    (hpl : (backTo pos (starEach es Γ.X.env)).any (·.1) = false := by rfl) : DF Γ (.Call (.Name x p) (e :: es) [] pos) (mCallF F n m) := by
  obtain ⟨⟨fd, ps, h0, h1, h2⟩, h3, h4⟩ := f
  obtain ⟨t, ht, q⟩ := ha.ex
  refine ⟨_, pe_callG (E := WE Γ.W) h1 hg hr hn h3 h4 h2 .nil (fun σ => passAt tk σ) ht hdb he hpl, fun en σ H ρ Q ok j p => ?_⟩
  cases ee : m ρ with
  | stuck =>
    unfold mCallF M.bnd at p
    rw [ee] at p
    exact p.elim
  | ex x ρ1 =>
    unfold mCallF M.bnd at p
    rw [ee] at p
    refine q en σ H ρ _ ok j ?_
    rw [ee]
    exact p
  | ok ds ρ1 =>
    unfold mCallF M.bnd at p
    rw [ee] at p
    refine q en σ H ρ _ ok j ?_
    rw [ee]
    intro H1 ok1 s1 vs rv
    dsimp only at p
    split at p
    · rename_i hl
      refine ⟨ds, Ban en σ ρ1, fun _ => False, by rw [List.append_nil, ← rv.length]; exact hl, fun _ z => z.elim, ok1.bl, ⟨fun _ z => z, by rw [List.append_nil]; exact rv⟩, ?_⟩
      unfold lstR at p
      cases e1 : F ds with
      | ok d o =>
        rw [e1] at p
        intro v H2 a rd _
        cases d with
        | lst xs =>
          obtain ⟨pa, us, e2, g0, g1, g2⟩ := rd
          subst e2
          obtain ⟨ok2, s2⟩ := a.ok (Γ := Γ) ok1 (fun _ z => z)
          obtain ⟨ok3, s3⟩ := ok1.shutN g0 (fun x o e => a.kp x o e (fun z => z)) g1
          have hn0 : H pa = none := by
            cases z : H pa with
            | none => rfl
            | some o => exact absurd g0 (s1.tr pa (by rw [z]; exact fun y => nomatch y))
          exact p H2 ok2 (s1.trans s2) pa us hn0 g1 ok3 (ok1.not_ban g0) (Rps.stabB (fun a z => ban_ban.mp z) g2)
        | _ => exact p.elim
      | ex x =>
        rw [e1] at p
        intro cls d H2 a hx
        obtain ⟨ok2, s2⟩ := a.ok (Γ := Γ) ok1 (fun _ z => z)
        exact p H2 cls d ok2 (s1.trans s2) hx
      | stuck =>
        rw [e1] at p
        exact p.elim
    · exact p.elim
end

/-! ### a call that writes its first argument, the list in a slot -/
section
variable {Γ : Cn} {en : En} {σ : L2.St} {H H1 : Hp} {ρ : Rho}
theorem set_get {α : Type} {l : List α} {i : Nat} {x y : α} (h : l[i]? = some x) : (l.set i y)[i]? = some y := List.getElem?_set_self (List.getElem?_eq_some_iff.mp h).1
/-- a list of a slot's own has changed -/
theorem Ok.wrote {i : Nat} {fl : Fl} {d : D} {a : Addr} {xs : List V} {es : List D} {K : PySem.W.Frag} (ok : Ok K en σ H ρ) (e : ρ[i]? = some (some (fl, d))) (hf : fl ≠ .sh) (ea : σ[i]? = some (some (V.ref a)))
    (kp : ∀ b o, H b = some o → b ≠ a → H1 b = some o) (tr : ∀ b, H b ≠ none → H1 b ≠ none) (h1 : H1 a = some (.lst xs)) (rs : Rps K H1 (Ban en σ ρ) es xs) :
    Ok K en σ H1 (ρ.set i (some (fl, .lst es))) ∧ Stab H (Ban en σ ρ) H1 (Ban en σ (ρ.set i (some (fl, .lst es)))) := by
  have own : ∀ b, Own σ (ρ.set i (some (fl, .lst es))) b ↔ Own σ ρ b := fun b => by
    constructor
    · rintro ⟨j, fl', d', g1, g2, g3⟩
      by_cases q : i = j
      · subst q
        rw [set_get e] at g1
        cases g1
        exact ⟨i, fl, d, e, hf, g3⟩
      · rw [List.getElem?_set_ne q] at g1
        exact ⟨j, fl', d', g1, g2, g3⟩
    · rintro ⟨j, fl', d', g1, g2, g3⟩
      by_cases q : i = j
      · subst q
        exact ⟨i, fl, _, set_get e, hf, g3⟩
      · exact ⟨j, fl', d', by rw [List.getElem?_set_ne q]; exact g1, g2, g3⟩
  have ban : ∀ b, Ban en σ (ρ.set i (some (fl, .lst es))) b ↔ Ban en σ ρ b := fun b => or_congr Iff.rfl (own b)
  have oa : Own σ ρ a := ⟨i, fl, d, e, hf, ea⟩
  have st : Stab H (Ban en σ ρ) H1 (Ban en σ (ρ.set i (some (fl, .lst es)))) := ⟨fun b o h n => kp b o h fun z => n (z ▸ .inr oa), fun b z _ => (ban b).mp z, tr⟩
  have st2 : Stab H (Ban en σ ρ) H1 (Ban en σ ρ) := ⟨st.kp, fun _ z _ => z, tr⟩
  obtain ⟨a', xs', ds', y1, y2, y3, y4, y5, y6⟩ := ok.ow i fl d hf e
  rw [ea] at y1
  cases y1
  have bl : BL H1 (Ban en σ (ρ.set i (some (fl, .lst es)))) := fun b z => by
    by_cases q : b = a
    · exact ⟨xs, by rw [q]; exact h1⟩
    · obtain ⟨ys, g⟩ := ok.bl b ((ban b).mp z)
      exact ⟨ys, kp b _ g q⟩
  have bb : Stab H1 (Ban en σ ρ) H1 (Ban en σ (ρ.set i (some (fl, .lst es)))) := ⟨fun _ _ z _ => z, fun b z _ => (ban b).mp z, fun _ z => z⟩
  have bl' : BL H1 (Ban en σ ρ) := fun b z => bl b ((ban b).mpr z)
  refine ⟨⟨by rw [List.length_set]; exact ok.len, ok.nb, fun b o g n => kp b o (ok.kp b o g n) fun q => ?_, bl, fun j c g => ?_, fun j fl' c g1 g => ?_, fun j l b fl' c fl'' c' g1 g2 g3 g4 g5 g6 => ?_⟩, st⟩
  · cases fl with
    | sh => exact hf rfl
    | ow =>
      rw [q, (y5 rfl).1] at g
      cases g
    | io => exact n (q ▸ (y6 rfl).1)
  · have q : i ≠ j := fun q => by
      subst q
      rw [set_get e] at g
      cases g
      exact hf rfl
    rw [List.getElem?_set_ne q] at g
    obtain ⟨v, g1, g2⟩ := ok.sh j c g
    exact ⟨v, g1, g2.stab ok.bl st⟩
  · by_cases q : i = j
    · subst q
      rw [set_get e] at g
      cases g
      exact ⟨a, xs, es, ea, rfl, h1, Rps.stab bl' bb rs, y5, y6⟩
    · rw [List.getElem?_set_ne q] at g
      obtain ⟨b, zs, fs, k1, k2, k3, k4, k5⟩ := ok.ow j fl' c g1 g
      have nb : b ≠ a := fun z => q (ok.inj i j a fl d fl' c e hf g g1 ea (z ▸ k1))
      exact ⟨b, zs, fs, k1, k2, kp b _ k3 nb, Rps.stab ok.bl st k4, k5⟩
  · have back : ∀ {l : Nat} {f : Fl} {c : D}, (ρ.set i (some (fl, .lst es)))[l]? = some (some (f, c)) → ∃ c', ρ[l]? = some (some (f, c')) := fun {l f c} g => by
      by_cases q : i = l
      · subst q
        rw [set_get e] at g
        cases g
        exact ⟨d, e⟩
      · rw [List.getElem?_set_ne q] at g
        exact ⟨c, g⟩
    obtain ⟨c1, z1⟩ := back g1
    obtain ⟨c2, z2⟩ := back g3
    exact ok.inj j l b fl' c1 fl'' c2 z1 g2 z2 g4 g5 g6
/-- the list that stands in a slot, to be written -/
def getW (i : Nat) (ρ : Rho) : Option (Fl × D) := match ρ[i]? with
  | some (some (.ow, d)) => some (.ow, d)
  | some (some (.io, d)) => some (.io, d)
  | _ => none
theorem getW_some {i : Nat} {fl : Fl} {d : D} (h : getW i ρ = some (fl, d)) : ρ[i]? = some (some (fl, d)) ∧ fl ≠ .sh := by
  unfold getW at h
  split at h
  · rename_i e
    cases h
    exact ⟨e, by decide⟩
  · rename_i e
    cases h
    exact ⟨e, by decide⟩
  · cases h
def putW (i : Nat) (fl : Fl) (r : Res) : M D := fun ρ => match r with
  | .ok d o => .ok d (ρ.set i (some (fl, o)))
  | .ex _ => .stuck
  | .stuck => .stuck
def callW (F : Fs) (i : Nat) (ds : List D) : M D := fun ρ => match getW i ρ with
  | some (fl, d) => putW i fl (F (d :: ds)) ρ
  | none => .stuck
def mCallW (F : Fs) (n i : Nat) (m : M (List D)) : M D := fun ρ => match getW i ρ with
  | some _ => M.bnd m (fun ds => if ds.length + 1 = n then callW F i ds else M.stop) ρ
  | none => .stuck
theorem pa_at {i : Nat} {x : Str} {pos : Pos} (hN : Γ.X.N[i]? = some x) (hv : Vis Γ.X.env.scope x) (hd : (x == ("__debug__" : Str)) = false := by decide) (hcd : (x == ("__classdict__" : Str)) = false := by decide) : PE Γ.X (.Name x pos) (tVar i) := pe_var hN hv hd hcd
theorem de_callW {fr : Bool} {k n i : Nat} {x y : Str} {p p2 pos : Pos} {es : List Expr} {F : Fs} {m : M (List D)} (f : FnC Γ k x n true fr F) (hg : Γ.X.A.guards = some []) (hr : Room k Γ.X.A) (tk : Takes Γ.X Γ.W) (hn : Gl Γ.X x)
    (hN : Γ.X.N[i]? = some y) (hv : Vis Γ.X.env.scope y) (ha : DA Γ es m) (hd : (y == ("__debug__" : Str)) = false := by decide) (hcd : (y == ("__classdict__" : Str)) = false := by decide)
    (hdb : (x == ("__debug__" : Str)) = false := by decide) (he : starEach (.Name y p2 :: es) Γ.X.env = (false, eval (.Name y p2) Γ.X.env) :: starEach es Γ.X.env := by rfl)
    (hpl : (backTo pos (starEach es Γ.X.env)).any (·.1) = false := by rfl) : DE Γ (.Call (.Name x p) (.Name y p2 :: es) [] pos) (mCallW F n i m) := by
  obtain ⟨⟨fd, ps, h0, h1, h2⟩, h3, h4⟩ := f
  obtain ⟨t, ht, q⟩ := ha.ex
  refine ⟨_, pe_callG (E := WE Γ.W) h1 hg hr hn h3 h4 h2 .nil (fun σ => passAt tk σ) (pa_cons (pe_var hN hv hd hcd) ht he) hdb he hpl, fun en σ H ρ Q ok j p => ?_⟩
  unfold mCallW at p
  cases e00 : getW i ρ with
  | none =>
    rw [e00] at p
    exact p.elim
  | some z0 =>
    obtain ⟨fl0, d0⟩ := z0
    rw [e00] at p
    obtain ⟨q1, q2⟩ := getW_some e00
    obtain ⟨a, _, _, e0, _⟩ := ok.ow i fl0 d0 q2 q1
    refine ⟨.ref a, e0, q en σ H ρ _ ok j ((Post.bind (m := m) p).mono fun ds H1 ρ1 _ _ ⟨s1, ok1, p1⟩ vs rv => ?_)⟩
    split at p1
    · rename_i hl
      unfold callW at p1
      cases eg : getW i ρ1 with
      | none =>
        rw [eg] at p1
        exact p1.elim
      | some z =>
        obtain ⟨fl, d⟩ := z
        rw [eg] at p1
        obtain ⟨e1, hf⟩ := getW_some eg
        obtain ⟨a', xs, es', g1, g2, g3, g4, g5⟩ := ok1.ow i fl d hf e1
        rw [e0] at g1
        cases g1
        have oa : Ban en σ ρ1 a := .inr ⟨i, fl, d, e1, hf, e0⟩
        refine ⟨d :: ds, Ban en σ ρ1, fun b => b = a, ?_, fun b z => (show b = a from z) ▸ oa, ok1.bl, ⟨a, xs, es', ds, vs, by rw [g2], by rw [List.append_nil], fun _ => Iff.rfl, g3, g4, rv⟩, ?_⟩
        · rw [List.append_nil, List.length_cons, ← rv.length]
          exact hl
        · dsimp only at p1
          unfold putW at p1
          cases e2 : F (d :: ds) with
          | ok c o =>
            rw [e2] at p1
            intro v H2 af rd ⟨a2, vs2, es2, xs2, k1, k2, k3, k4⟩
            cases k1
            obtain ⟨ok2, s2⟩ := ok1.wrote e1 hf e0 (fun b u z n => af.kp b u z n) af.tr k3 k4
            rw [← k2] at ok2 s2
            have same : ∀ b, Ban en σ (ρ1.set i (some (fl, o))) b → Ban en σ ρ1 b := fun b z => by
              refine z.imp id fun ⟨j, fl', d', y1, y2, y3⟩ => ?_
              by_cases qq : i = j
              · subst qq
                rw [set_get e1] at y1
                cases y1
                exact ⟨i, fl, d, e1, hf, y3⟩
              · rw [List.getElem?_set_ne qq] at y1
                exact ⟨j, fl', d', y1, y2, y3⟩
            exact p1 H2 ok2 s2 v ((rd.rp ok1.bl).stab af.bl ⟨fun _ _ z _ => z, fun b z _ => same b z, fun _ z => z⟩)
          | ex x =>
            rw [e2] at p1
            exact p1.elim
          | stuck =>
            rw [e2] at p1
            exact p1.elim
    · exact p1.elim
end
end DL
set_option Elab.async false
set_option linter.all false
set_option maxRecDepth 100000
/-! The data layer, seventh part: targets, statements, loops. -/
namespace DL
open PySem PySem.Spec PyProof.Rows L2

structure DG (Γ : Cn) (tg : Expr) (g : D → M Unit) : Prop where
  ex : ∃ t, PG Γ.X tg t ∧ ∀ en σ H ρ v d (Q : L2.St → Hp → Prop), Ok Γ.X.K en σ H ρ → Γ.J σ H (Ban en σ ρ) → Rp Γ.X.K H (Ban en σ ρ) d v →
    PostX Γ en H (Ban en σ ρ) (g d ρ) (fun _ σ' H' _ => Q σ' H') → t v σ H Q
structure DGs (Γ : Cn) (tgs : List Expr) (g : List D → M Unit) : Prop where
  ex : ∃ t, PGs Γ.X tgs t ∧ ∀ en σ H ρ vs ds (Q : L2.St → Hp → Prop), Ok Γ.X.K en σ H ρ → Γ.J σ H (Ban en σ ρ) → Rps Γ.X.K H (Ban en σ ρ) ds vs →
    PostX Γ en H (Ban en σ ρ) (g ds ρ) (fun _ σ' H' _ => Q σ' H') → t vs σ H Q
def setSh (i : Nat) (d : D) : M Unit := fun ρ => .ok () (ρ.set i (some (.sh, d)))
def gDone : List D → M Unit
  | [] => M.ret ()
  | _ => M.stop
def gEach (g : D → M Unit) (r : List D → M Unit) : List D → M Unit
  | d :: ds => M.bnd (g d) fun _ => r ds
  | [] => M.stop
def gSeq (n : Nat) (g : List D → M Unit) (d : D) : M Unit := match items d with
  | some ds => if ds.length = n then g ds else M.stop
  | none => M.stop
section
variable {Γ : Cn} {e a b tg : Expr} {es tgs : List Expr} {pos : Pos} {m ma mb : M D} {g : D → M Unit} {gs : List D → M Unit}
theorem dg_name (i : Nat) {x : Str} (hN : Γ.X.N.Nodup) (hi : Γ.X.N[i]? = some x := by rfl) (hx : Loc Γ.X.env.scope x := by first | exact Or.inl rfl | exact Or.inr rfl) (hf : Γ.X.fn x = true ∨ Γ.X.env.scope.names.lookup x = some .local := by first | exact .inl rfl | exact .inr rfl) : DG Γ (.Name x pos) (setSh i) :=
  ⟨_, pg_name hN hi hx hf, fun en σ H ρ v d Q ok j r p => by
    obtain ⟨ok2, s2⟩ := ok.set_sh (i := i) r
    exact p _ H ok2 s2⟩
theorem dgs_nil : DGs Γ [] gDone := ⟨_, pgs_nil, fun en σ H ρ vs ds Q ok j r p => by
  cases ds with
  | nil => exact ⟨r, PostX.ret' ok p⟩
  | cons _ _ => exact p.elim⟩
theorem dgs_cons (hS : Γ.Any) (h1 : DG Γ tg g) (h2 : DGs Γ tgs gs) (hs : (assignEach (tg :: tgs) Γ.X.env).map (·.2) = assign tg Γ.X.env :: (assignEach tgs Γ.X.env).map (·.2) := by rfl) : DGs Γ (tg :: tgs) (gEach g gs) := by
  obtain ⟨t, h, q⟩ := h1.ex
  obtain ⟨u, k, r⟩ := h2.ex
  refine ⟨_, pgs_cons h k hs, fun en σ H ρ vs ds Q ok j rs p => ?_⟩
  cases ds with
  | nil => exact p.elim
  | cons d ds =>
    obtain ⟨v, vs', rfl, rv, rr⟩ := rs
    refine ⟨v, vs', rfl, q en σ H ρ v d _ ok j rv ((PostX.bind p).mono fun _ σ1 H1 ρ1 _ _ ⟨s1, ok1, p1⟩ => ?_)⟩
    exact r en σ1 H1 ρ1 vs' ds Q ok1 (hS _ _ _ _ (Γ.hJ ok.bl s1 j)) (Rps.stab ok.bl s1 rr) p1
theorem PG_or {X : Cx} {t t' : TG} (h : PG X tg t) (h' : PG X tg t') : PG X tg (fun v σ H Q => t v σ H Q ∨ t' v σ H Q) :=
  ⟨fun pins s σ H v u Q I r q => q.elim (h.run pins s σ H v u Q I r) (h'.run pins s σ H v u Q I r)⟩
theorem dg_seq {k n : Nat} (hc : Γ.X.calm = true) (h : DGs Γ tgs gs) (hn : (assignEach tgs Γ.X.env).length = n := by rfl) (hst : (assignEach tgs Γ.X.env).findIdx? (·.1) = none := by rfl) : DG Γ (.Tuple tgs k pos) (gSeq n gs) := by
  obtain ⟨t, h, q⟩ := h.ex
  refine ⟨_, PG_or (pg_tup hc h hn hst) (pg_unl hc h hn hst), fun en σ H ρ v d Q ok j r p => ?_⟩
  unfold gSeq at p
  cases d with
  | tup ds =>
    obtain ⟨x, vs, e1, h1, h2⟩ := r
    dsimp only [items] at p
    split at p
    · rename_i hl
      exact .inl ⟨x, vs, e1, h1, by rw [← h2.length]; exact hl, q en σ H ρ vs ds Q ok j h2 p⟩
    · exact p.elim
  | lst ds =>
    obtain ⟨x, vs, e1, h1, h2⟩ := r
    dsimp only [items] at p
    split at p
    · rename_i hl
      exact .inr ⟨x, vs, e1, h1.sq, by rw [← h2.length]; exact hl, q en σ H ρ vs ds Q ok j h2 p⟩
    · exact p.elim
  | _ => exact p.elim

/-! ### small statements -/
def nxt : M Fw := M.ret .nx
def mSet (m : M D) (g : D → M Unit) : M Fw := M.bnd m fun d => M.bnd (g d) fun _ => nxt
theorem ds_asg (he : DE Γ e m) (hg : DG Γ tg g) (hs : swapsWithSole [tg] e pos.line Γ.X.env = pure false := by rfl) (hw : swappedStores [tg] e Γ.X.env = pure none := by rfl)
    (h1 : (assignEach [tg] Γ.X.env).map (·.2) = [assign tg Γ.X.env] := by rfl) : DS Γ (.Assign [tg] e pos) (mSet m g) := by
  obtain ⟨t, h, q⟩ := he.ex
  obtain ⟨u, k, r⟩ := hg.ex
  refine ⟨_, ps_asg h k hs hw h1, fun en σ H ρ E ok j p => ?_⟩
  refine q en σ H ρ _ ok j ((PostX.bindE p).mono fun d H1 ρ1 _ _ ⟨s1, ok1, p1⟩ v rv => ?_)
  exact r en σ H1 ρ1 v d _ ok1 (Γ.hJ ok.bl s1 j) rv ((PostX.bind p1).mono fun _ σ2 H2 ρ2 _ _ ⟨s2, ok2, p2⟩ => PostX.ret' ok2 p2)
/-- x = e -/
theorem ds_set (i : Nat) {x : Str} {pos' : Pos} (hN : Γ.X.N.Nodup) (he : DE Γ e m) (hi : Γ.X.N[i]? = some x := by rfl) (hx : Loc Γ.X.env.scope x := by first | exact Or.inl rfl | exact Or.inr rfl) (hs : swapsWith e (some (.Name x pos')) pos.line Γ.X.env = pure false := by rfl)
    (hf : Γ.X.fn x = true ∨ Γ.X.env.scope.names.lookup x = some .local := by first | exact .inl rfl | exact .inr rfl) : DS Γ (.Assign [.Name x pos'] e pos) (mSet m (setSh i)) := by
  obtain ⟨t, h, q⟩ := he.ex
  refine ⟨_, ps_set hN hi hx h hs hf, fun en σ H ρ E ok j p => ?_⟩
  refine q en σ H ρ _ ok j ((PostX.bindE p).mono fun d H1 ρ1 _ _ ⟨s1, ok1, p1⟩ v rv => ?_)
  obtain ⟨ok2, s2⟩ := ok1.set_sh (i := i) rv
  exact p1 _ H1 ok2 s2
/-- x = a list that nobody else holds: x's own -/
def mOwn (m : M (List D)) (i : Nat) : M Fw := M.bnd m fun ds => fun ρ => .ok .nx (ρ.set i (some (.ow, .lst ds)))
theorem ds_own (i : Nat) {x : Str} {pos' : Pos} {mf : M (List D)} (hN : Γ.X.N.Nodup) (he : DF Γ e mf) (hi : Γ.X.N[i]? = some x := by rfl) (hx : Loc Γ.X.env.scope x := by first | exact Or.inl rfl | exact Or.inr rfl) (hs : swapsWith e (some (.Name x pos')) pos.line Γ.X.env = pure false := by rfl)
    (hf : Γ.X.fn x = true ∨ Γ.X.env.scope.names.lookup x = some .local := by first | exact .inl rfl | exact .inr rfl) : DS Γ (.Assign [.Name x pos'] e pos) (mOwn mf i) := by
  obtain ⟨t, h, q⟩ := he.ex
  refine ⟨_, ps_set hN hi hx h hs hf, fun en σ H ρ E ok j p => ?_⟩
  refine q en σ H ρ _ ok j ?_
  unfold PostS mOwn M.bnd at p
  cases e : mf ρ with
  | stuck =>
    rw [e] at p
    exact p
  | ex x ρ1 =>
    rw [e] at p
    exact fun H' c d ok s x => p σ H' c d ok s x
  | ok ds ρ1 =>
    rw [e] at p
    intro H1 ok1 st a vs ha e1 okb nb rv
    obtain ⟨ok2, sub⟩ := Ok.set_ow (i := i) ok.nb okb nb e1 (ok.fresh0 ha) rv
    exact p _ H1 ok2 ⟨st.kp, fun b z n => (by
      rcases ban_ban.mp (sub b z) with y | y
      · exact st.sub b y n
      · rw [y] at n
        exact absurd ha n), st.tr⟩

/-! ### an item of a slot's list is stored; a list grows, shrinks -/
/-- the slot's list, changed -/
def updW (i : Nat) (f : List D → Option (List D)) : M Unit := fun ρ => match getW i ρ with
  | some (fl, .lst ds) => (match f ds with
    | some es => .ok () (ρ.set i (some (fl, .lst es)))
    | none => .stuck)
  | _ => .stuck
theorem updW_ok {i : Nat} {f : List D → Option (List D)} {en : En} {σ : L2.St} {H : Hp} {ρ : Rho} {P : Unit → L2.St → Hp → Rho → Prop} (ok : Ok Γ.X.K en σ H ρ) (p : PostX Γ en H (Ban en σ ρ) (updW i f ρ) P) :
    ∃ a vs ds es, σ[i]? = some (some (V.ref a)) ∧ H a = some (.lst vs) ∧ Rps Γ.X.K H (Ban en σ ρ) ds vs ∧ f ds = some es ∧ ∀ H1 us, H1 a = some (.lst us) → (∀ b o, H b = some o → b ≠ a → H1 b = some o) → Rps Γ.X.K H (Ban en σ ρ) es us → ∃ ρ', P () σ H1 ρ' := by
  unfold updW at p
  split at p
  · rename_i fl ds e0
    obtain ⟨e1, hf⟩ := getW_some e0
    obtain ⟨a, vs, ds', g1, g2, g3, g4, g5⟩ := ok.ow i fl _ hf e1
    cases g2
    split at p
    · rename_i es e2
      refine ⟨a, vs, ds, es, g1, g3, g4, e2, fun H1 us h1 kp rs => ⟨ρ.set i (some (fl, .lst es)), ?_⟩⟩
      have st : Stab H (Ban en σ ρ) H1 (Ban en σ ρ) := ⟨fun b o h n => kp b o h fun z => n (z ▸ .inr ⟨i, fl, _, e1, hf, g1⟩), fun _ z _ => z, fun b n => by
        by_cases q : b = a
        · rw [q, h1]
          exact fun z => nomatch z
        · cases z : H b with
          | none => exact absurd z n
          | some o =>
            rw [kp b o z q]
            exact fun z => nomatch z⟩
      obtain ⟨ok2, s2⟩ := ok.wrote e1 hf g1 kp st.tr h1 (Rps.stab ok.bl st rs)
      exact p σ H1 ok2 s2
    · exact p.elim
  · exact p.elim
def putAt (i : D) (v : D) (ds : List D) : Option (List D) := match i with
  | .int k => (ixN ds.length k).map fun j => ds.set j v
  | _ => none
def gItem (i : Nat) (mi : M D) (d : D) : M Unit := fun ρ => match getW i ρ with
  | some _ => M.bnd mi (fun k => updW i (putAt k d)) ρ
  | none => .stuck
theorem dg_item (i : Nat) {x : Str} {p2 : Pos} (hi : Γ.X.N[i]? = some x) (hv : Vis Γ.X.env.scope x) (hb : DE Γ b mb) (hd : (x == ("__debug__" : Str)) = false := by decide) (hcd : (x == ("__classdict__" : Str)) = false := by decide)
    (ha : ∀ v, assign (.Subscript (.Name x p2) b pos) Γ.X.env v = (do
      let ov ← holding [v] (eval (.Name x p2) Γ.X.env)
      let iv ← holding [v, ov] (eval b Γ.X.env)
      standAt pos
      holding [v, ov, iv] (setItem ov iv v)
      release [v, ov, iv] []) := by intro _; rfl) : DG Γ (.Subscript (.Name x p2) b pos) (gItem i mb) := by
  obtain ⟨t, h, q⟩ := hb.ex
  refine ⟨_, pg_sub (pe_var hi hv hd hcd) h set_list ha, fun en σ H ρ v d Q ok j r p => ?_⟩
  unfold gItem at p
  cases e0 : getW i ρ with
  | none =>
    rw [e0] at p
    exact p.elim
  | some z =>
    obtain ⟨fl0, d0⟩ := z
    rw [e0] at p
    obtain ⟨q1, q2⟩ := getW_some e0
    obtain ⟨a, _, _, e1, _⟩ := ok.ow i fl0 d0 q2 q1
    refine ⟨.ref a, e1, q en σ H ρ _ ok j ((PostX.bindE (show PostX Γ en H (Ban en σ ρ) ((M.bnd mb fun k => updW i (putAt k d)) ρ) _ from p)).mono fun k H1 ρ1 _ _ ⟨s1, ok1, p1⟩ y ry => ?_)⟩
    obtain ⟨a', vs, ds, es, g1, g2, g3, g4, g5⟩ := updW_ok ok1 p1
    rw [e1] at g1
    cases g1
    cases k with
    | int n =>
      unfold putAt at g4
      dsimp only at g4
      cases e2 : ixN ds.length n with
      | none =>
        rw [e2] at g4
        cases g4
      | some jj =>
        rw [e2] at g4
        cases g4
        refine ⟨a, vs, n, jj, rfl, ry, g2, by rw [← g3.length]; exact e2, ?_⟩
        obtain ⟨_, z⟩ := g5 _ _ upd_same (fun b o h n => by rw [upd_ne n]; exact h) (Rps.set (r.stab ok.bl s1) jj g3)
        exact z
    | _ => cases g4

/-! ### more small statements -/
def mDrop (m : M D) : M Fw := M.bnd m fun _ => nxt
theorem ds_expr (he : DE Γ e m) (hs : swapsWith e none pos.line Γ.X.env = pure false := by rfl) : DS Γ (.Expr e pos) (mDrop m) := by
  obtain ⟨t, h, q⟩ := he.ex
  refine ⟨_, ps_expr h hs, fun en σ H ρ E ok j p => ?_⟩
  exact q en σ H ρ _ ok j ((PostX.bindE p).mono fun d H1 ρ1 _ _ ⟨s1, ok1, p1⟩ v rv => PostX.ret' ok1 p1)
def mRet (m : M D) : M Fw := M.bnd m fun d => M.ret (.rt d)
theorem ds_ret (hf : Γ.fr = false) (he : DE Γ e m) : DS Γ (.Return (some e) pos) (mRet m) := by
  obtain ⟨t, h, q⟩ := he.ex
  refine ⟨_, ps_ret h, fun en σ H ρ E ok j p => ?_⟩
  exact q en σ H ρ _ ok j ((PostX.bindE p).mono fun d H1 ρ1 _ _ ⟨s1, ok1, p1⟩ v rv => PostX.ret' ok1 p1 v (RtOk.of_rp (.inl hf) rv))
theorem ds_retN : DS Γ (.Return none pos) (M.ret (.rt .non)) := ⟨_, ps_retN, fun en σ H ρ E ok j p => PostX.ret' ok p .non (RtOk.of_rp (.inr fun _ z => nomatch z) rfl)⟩
/-- what is returned is no list -/
def noLst : D → Option D
  | .lst _ => none
  | d => some d
def mRetQ (m : M D) : M Fw := M.bnd m fun d => M.bnd (M.lift (noLst d)) fun d => M.ret (Fw.rt d)
theorem ds_retQ (he : DE Γ e m) : DS Γ (.Return (some e) pos) (mRetQ m) := by
  obtain ⟨t, h, q⟩ := he.ex
  refine ⟨_, ps_ret h, fun en σ H ρ E ok j p => ?_⟩
  refine q en σ H ρ _ ok j ((PostX.bindE p).mono fun d H1 ρ1 _ _ ⟨s1, ok1, p1⟩ v rv => ?_)
  cases d with
  | lst ds => exact p1.elim
  | _ => exact PostX.ret' ok1 p1 v (RtOk.of_rp (.inr fun _ z => nomatch z) rv)
/-- a new list that nobody else holds is handed out -/
def mRetF (m : M (List D)) : M Fw := M.bnd m fun ds => M.ret (.rt (.lst ds))
theorem ds_retF {mf : M (List D)} (hf : Γ.fr = true) (he : DF Γ e mf) : DS Γ (.Return (some e) pos) (mRetF mf) := by
  obtain ⟨t, h, q⟩ := he.ex
  refine ⟨_, ps_ret h, fun en σ H ρ E ok j p => ?_⟩
  refine q en σ H ρ _ ok j ((PostX.bindE p).mono fun ds H1 ρ1 _ _ ⟨s1, ok1, p1⟩ a vs ha e1 ok2 nb rv => ?_)
  refine PostX.ret' ok1 p1 _ ?_
  rw [hf]
  exact ⟨a, vs, rfl, ok.fresh0 ha, e1, Rps.stabB (fun b z => z.elim (fun z => .inl (.inl z)) fun z => .inl (.inr z)) rv⟩
/-- a list of a slot's own is handed out -/
def mRetO (i : Nat) : M Fw := fun ρ => match ρ[i]? with
  | some (some (.ow, .lst ds)) => .ok (.rt (.lst ds)) ρ
  | _ => .stuck
theorem ds_retO (i : Nat) {x : Str} {pos' : Pos} (hf : Γ.fr = true) (hN : Γ.X.N[i]? = some x := by rfl) (hv : Vis Γ.X.env.scope x := by first | exact Or.inl rfl | exact Or.inr (Or.inl rfl)) (hd : (x == ("__debug__" : Str)) = false := by decide)
    (hcd : (x == ("__classdict__" : Str)) = false := by decide) : DS Γ (.Return (some (.Name x pos')) pos) (mRetO i) := by
  refine ⟨_, ps_ret (pe_var hN hv hd hcd), fun en σ H ρ E ok j p => ?_⟩
  unfold mRetO at p
  split at p
  · rename_i ds e0
    obtain ⟨a, xs, es, h1, h2, h3, h4, h5, _⟩ := ok.ow i .ow _ (by decide) e0
    cases h2
    refine ⟨_, h1, PostX.ret' ok p _ ?_⟩
    rw [hf]
    exact ⟨a, xs, rfl, (h5 rfl).1, h3, Rps.stabB (fun b z => z.elim .inl fun z => .inr ⟨i, .ow, _, e0, by decide, by rw [z]; exact h1⟩) h4⟩
  · exact p.elim
theorem ds_pass : DS Γ (.Pass pos) nxt := ⟨_, ps_pass, fun en σ H ρ E ok j p => PostX.ret' ok p⟩
theorem ds_break : DS Γ (.Break pos) (M.ret .bk) := ⟨_, ps_break, fun en σ H ρ E ok j p => PostX.ret' ok p⟩
theorem ds_continue : DS Γ (.Continue pos) (M.ret .ct) := ⟨_, ps_continue, fun en σ H ρ E ok j p => PostX.ret' ok p⟩
/-- x op= e, ints -/
def mAug (i : Nat) (f : D → D → Option D) (m : M D) : M Fw := fun ρ => match ρ[i]? with
  | some (some (.sh, c)) => M.bnd m (fun d => M.bnd (M.lift (f c d)) fun z => M.bnd (setSh i z) fun _ => nxt) ρ
  | _ => .stuck
def ip1 : D → D → Option D := iAdd
theorem ds_aug (i : Nat) {x : Str} {op : Operator} {ti : TIp} {f : D → D → Option D} {pos' : Pos} (hN : Γ.X.N.Nodup) (he : DE Γ e m) (ho : PIp Γ.X op ti) (rf : R2D Γ.X.K ti f) (hi : Γ.X.N[i]? = some x := by rfl) (hx : Loc Γ.X.env.scope x := by first | exact Or.inl rfl | exact Or.inr rfl)
    (hf : Γ.X.fn x = true ∨ Γ.X.env.scope.names.lookup x = some .local := by first | exact .inl rfl | exact .inr rfl) : DS Γ (.AugAssign (.Name x pos') op e pos) (mAug i f m) := by
  obtain ⟨t, h, q⟩ := he.ex
  refine ⟨_, ps_aug hN hi hx h ho hf, fun en σ H ρ E ok j p => ?_⟩
  unfold mAug at p
  split at p
  · rename_i c e0
    obtain ⟨u, h1, h2⟩ := ok.sh i c e0
    refine ⟨u, h1, q en σ H ρ _ ok j ((PostX.bindE p).mono fun d H1 ρ1 _ _ ⟨s1, ok1, p1⟩ v rv => ?_)⟩
    cases e1 : f c d with
    | none =>
      rw [e1] at p1
      exact p1.elim
    | some z =>
      rw [e1] at p1
      refine rf H1 _ u v c d z _ (h2.stab ok.bl s1) rv e1 fun y ry => ?_
      obtain ⟨ok2, s2⟩ := ok1.set_sh (i := i) ry
      exact p1 _ H1 ok2 s2
  · exact p.elim
theorem ip_addD {K : PySem.W.Frag} : R2D K (ipI fun i j => i + j) iAdd := r_add
theorem ip_subD {K : PySem.W.Frag} : R2D K (ipI fun i j => i - j) iSub := r_sub

/-! ### blocks, if -/
def mSeq (m n : M Fw) : M Fw := M.bnd m fun f => match f with
  | .nx => n
  | f => M.ret f
variable {st : Stmt} {sts : List Stmt} {ms ns : M Fw} {mt : M Bool}
theorem dss_nil : DSs Γ [] nxt := ⟨_, pss_nil, fun en σ H ρ E ok j p => PostX.ret' ok p⟩
theorem dss_one (h : DS Γ st ms) : DSs Γ [st] ms := by
  obtain ⟨t, h, q⟩ := h.ex
  exact ⟨t, pss_one h, q⟩
theorem dss_cons (hS : Γ.Any) (h1 : DS Γ st ms) (h2 : DSs Γ sts ns) : DSs Γ (st :: sts) (mSeq ms ns) := by
  obtain ⟨t, h, q⟩ := h1.ex
  obtain ⟨u, k, r⟩ := h2.ex
  refine ⟨_, pss_cons h k, fun en σ H ρ E ok j p => ?_⟩
  refine q en σ H ρ _ ok j ((PostX.bind p).mono fun f σ1 H1 ρ1 _ _ ⟨s1, ok1, p1⟩ => ?_)
  cases f with
  | nx => exact r en σ1 H1 ρ1 E ok1 (hS _ _ _ _ (Γ.hJ ok.bl s1 j)) p1
  | rt d => exact PostX.ret' ok1 p1
  | bk => exact PostX.ret' ok1 p1
  | ct => exact PostX.ret' ok1 p1
theorem ds_if {c : Expr} {x y : List Stmt} (hc : DT Γ c mt) (ha : DSs Γ x ms) (hb : DSs Γ y ns) : DS Γ (.If c x y pos) (mIf mt ms ns) := by
  obtain ⟨tc, h0, q0⟩ := hc.ex
  obtain ⟨t, h, q⟩ := ha.ex
  obtain ⟨u, k, r⟩ := hb.ex
  refine ⟨_, ps_if h0 h k, fun en σ H ρ E ok j p => ?_⟩
  refine q0 en σ H ρ _ ok j ((PostX.bindE p).mono fun b H1 ρ1 _ _ ⟨s1, ok1, p1⟩ => ?_)
  cases b with
  | true => exact iteT (q en σ H1 ρ1 E ok1 (Γ.hJ ok.bl s1 j) p1)
  | false => exact iteF (r en σ H1 ρ1 E ok1 (Γ.hJ ok.bl s1 j) p1)

/-! ### while -/
def whileM (c : M Bool) (b : M Fw) : Nat → M Fw
  | 0 => M.stop
  | n + 1 => M.bnd c fun k => if k = true then M.bnd b (fun f => match f with
    | .nx => whileM c b n
    | .ct => whileM c b n
    | .bk => nxt
    | .rt d => M.ret (.rt d)) else nxt
theorem ds_while {c : Expr} {x : List Stmt} {pos : Pos} (n : Nat) (hS : Γ.Any) (hp : PassesOwn (model Γ.X.prog Γ.X.w) Γ.X.A Γ.X.env Γ.X.xe) (hc : DT Γ c mt) (hb : DSs Γ x ms) : DS Γ (.While c x [] pos) (whileM mt ms n) := by
  obtain ⟨tc, h0, q0⟩ := hc.ex
  obtain ⟨t, h, q⟩ := hb.ex
  refine ⟨_, ps_while hp h0 h, fun en σ H ρ E ok j p => ?_⟩
  refine ⟨fun k σ1 H1 => ∃ ρ1, Ok Γ.X.K en σ1 H1 ρ1 ∧ Γ.J σ1 H1 (Ban en σ1 ρ1) ∧ PostS Γ en H1 (Ban en σ1 ρ1) (whileM mt ms k ρ1) E, ⟨n, ρ, ok, j, p⟩, ?_⟩
  rintro k σ1 H1 ⟨ρ1, ok1, j1, p1⟩
  cases k with
  | zero => exact p1.elim
  | succ k =>
    refine q0 en σ1 H1 ρ1 _ ok1 j1 ((PostX.bindE p1).mono fun b H2 ρ2 _ _ ⟨s2, ok2, p2⟩ => ?_)
    have j2 := Γ.hJ ok1.bl s2 j1
    cases b with
    | false => exact iteF (PostX.ret' ok2 p2)
    | true =>
      refine iteT ⟨fun σ3 H3 => ∃ ρ3, Ok Γ.X.K en σ3 H3 ρ3 ∧ Γ.J σ3 H3 (Ban en σ3 ρ3) ∧ PostS Γ en H3 (Ban en σ3 ρ3) (whileM mt ms k ρ3) E, fun σ3 H3 z => ⟨k, Nat.lt_succ_self k, z⟩, ?_⟩
      refine q en σ1 H2 ρ2 _ ok2 j2 ((PostX.bind p2).mono fun f σ3 H3 ρ3 _ _ ⟨s3, ok3, p3⟩ => ?_)
      have j3 := hS _ σ3 _ _ (Γ.hJ ok2.bl s3 j2)
      cases f with
      | nx => exact ⟨ρ3, ok3, j3, p3⟩
      | ct => exact ⟨ρ3, ok3, j3, p3⟩
      | bk => exact PostX.ret' ok3 p3
      | rt d => exact PostX.ret' ok3 p3

/-! ### for -/
def forM (g : D → M Unit) (b : M Fw) : List D → M Fw
  | [] => nxt
  | d :: ds => M.bnd (g d) fun _ => M.bnd b fun f => match f with
    | .nx => forM g b ds
    | .ct => forM g b ds
    | .bk => nxt
    | .rt d => M.ret (.rt d)
/-- what a for walks: a list or a tuple, a range -/
theorem PI_or {X : Cx} {tg iter : Expr} {w w' : TI} (h : PI X tg iter w) (h' : PI X tg iter w') : PI X tg iter (fun σ H R => w σ H R ∨ w' σ H R) :=
  ⟨fun pins s σ H R I q => q.elim (h.run pins s σ H R I) (h'.run pins s σ H R I)⟩
def mItems (m : M D) : M (List D) := M.bnd m fun d => M.lift (items d)
theorem range_rps {K : PySem.W.Frag} {H : Hp} {B : Addr → Prop} {i : Nat} {d : D} {ns : List Int} (h : (ns.map D.int)[i]? = some d) : ∃ n, ns[i]? = some n ∧ d = .int n := by
  rw [List.getElem?_map] at h
  cases e : ns[i]? with
  | none =>
    rw [e] at h
    cases h
  | some n =>
    rw [e] at h
    exact ⟨n, rfl, (Option.some.inj h).symm⟩
end
end DL
set_option Elab.async false
set_option linter.all false
set_option maxRecDepth 100000
/-! The data layer, eighth part: for, built-in functions, isinstance, str, raise. -/
namespace DL
open PySem PySem.Spec PyProof.Rows L2

section
variable {Γ : Cn} {e a b tg : Expr} {es tgs : List Expr} {pos : Pos} {m ma mb : M D} {g : D → M Unit} {gs : List D → M Unit} {mf : M (List D)} {ms : M Fw}
/-- what a for walks -/
structure DI (Γ : Cn) (tg iter : Expr) (m : M (List D)) : Prop where
  ex : ∃ wi, PI Γ.X tg iter wi ∧ ∀ en σ H ρ (R : It → Hp → Prop), Ok Γ.X.K en σ H ρ → Γ.J σ H (Ban en σ ρ) →
    Post Γ en σ H (Ban en σ ρ) (m ρ) (fun ds H1 ρ1 => ∀ (J : It) (Pv : Nat → Hp → (Addr → Prop) → Prop),
      (Pv 0 H1 (Ban en σ ρ1)) → (∀ i H B H' B', BL H B → Stab H B H' B' → Pv i H B → Pv i H' B') →
      (∀ i H B, Pv i H B → i < ds.length → J.go i H ∧ ∀ x H', J.yld i H x H' → H' = H ∧ Pv (i + 1) H B ∧ ∃ d, ds[i]? = some d ∧ Rp Γ.X.K H B d x) →
      (∀ H B, Pv ds.length H B → J.stop ds.length H) → R J H1) → wi σ H R
theorem di_seq (he : DE Γ e m) : DI Γ tg e (mItems m) := by
  obtain ⟨t, h, q⟩ := he.ex
  refine ⟨_, PI_or (pi_list h) (pi_tup h), fun en σ H ρ R ok j p => ?_⟩
  have p' := p
  unfold mItems M.bnd at p'
  cases e0 : m ρ with
  | stuck =>
    rw [e0] at p'
    exact p'.elim
  | ex x ρ1 =>
    rw [e0] at p'
    refine .inl (q en σ H ρ _ ok j ?_)
    rw [e0]
    exact p'
  | ok d ρ1 =>
    rw [e0] at p'
    cases d with
    | lst ds =>
      refine .inl (q en σ H ρ _ ok j ?_)
      rw [e0]
      rintro H1 ok1 s1 v ⟨x, vs, rfl, h1, h2⟩
      refine ⟨x, rfl, ⟨vs, h1.sq⟩, p' H1 ok1 s1 (Itl Γ.X.K x) (fun _ H B => SqB H B x vs ∧ Rps Γ.X.K H B ds vs) ⟨h1, h2⟩ (fun i H B H' B' bl s z => ⟨z.1.stab s, Rps.stab bl s z.2⟩) (fun i H B z hi => ?_) fun H B z => ⟨vs, z.1.sq, by rw [z.2.length]; exact Nat.le_refl _⟩⟩
      obtain ⟨z1, z2⟩ := z
      have hv : i < vs.length := by rw [← z2.length]; exact hi
      refine ⟨⟨vs, vs[i], z1.sq, by simp [hv]⟩, fun y H' ⟨e1, e2⟩ => ⟨e1, ⟨z1, z2⟩, ?_⟩⟩
      exact z2.getv (e2 vs z1.sq)
    | tup ds =>
      refine .inr (q en σ H ρ _ ok j ?_)
      rw [e0]
      rintro H1 ok1 s1 v ⟨x, vs, rfl, h1, h2⟩
      refine ⟨x, rfl, ⟨vs, h1⟩, p' H1 ok1 s1 (Itt Γ.X.K x) (fun _ H B => SqT Γ.X.K H x vs ∧ Rps Γ.X.K H B ds vs) ⟨h1, h2⟩ (fun i H B H' B' bl s z => ⟨SqT.stab z.1 bl s, Rps.stab bl s z.2⟩) (fun i H B z hi => ?_) fun H B z => ⟨vs, z.1, by rw [z.2.length]; exact Nat.le_refl _⟩⟩
      obtain ⟨z1, z2⟩ := z
      have hv : i < vs.length := by rw [← z2.length]; exact hi
      refine ⟨⟨vs, vs[i], z1, by simp [hv]⟩, fun y H' ⟨e1, e2⟩ => ⟨e1, ⟨z1, z2⟩, ?_⟩⟩
      exact z2.getv (e2 vs z1)
    | _ => exact p'.elim
/-- the ints from lo on, n of them -/
def intsFrom (lo : Int) : Nat → List D
  | 0 => []
  | n + 1 => .int lo :: intsFrom (lo + 1) n
theorem intsFrom_len : ∀ (n : Nat) (lo : Int), (intsFrom lo n).length = n
  | 0, _ => rfl
  | n + 1, lo => by
    show (intsFrom (lo + 1) n).length + 1 = n + 1
    rw [intsFrom_len n]
theorem intsFrom_get : ∀ (n : Nat) (lo : Int) (i : Nat), i < n → (intsFrom lo n)[i]? = some (.int (lo + i))
  | 0, _, _, h => absurd h (Nat.not_lt_zero _)
  | n + 1, lo, 0, _ => by
    show some (D.int lo) = _
    simp
  | n + 1, lo, i + 1, h => by
    show (intsFrom (lo + 1) n)[i]? = _
    rw [intsFrom_get n (lo + 1) i (by omega)]
    have e : lo + 1 + (i : Int) = lo + ((i + 1 : Nat) : Int) := by omega
    rw [e]
def rngOk (j : Int) : Bool := Nat.ble j.natAbs 4611686018427387903
def rng1 : List D → Option (List D)
  | [.int j] => if rngOk j = true then some (intsFrom 0 j.toNat) else none
  | _ => none
def rng2 : List D → Option (List D)
  | [.int i, .int j] => if (rngOk i && rngOk j) = true then some (intsFrom i (j - i).toNat) else none
  | _ => none
theorem rng1_some {ds xs : List D} (h : rng1 ds = some xs) : ∃ j, ds = [.int j] ∧ rngOk j = true ∧ xs = intsFrom 0 j.toNat := by
  unfold rng1 at h
  split at h
  · split at h
    · rename_i z
      cases h
      exact ⟨_, rfl, z, rfl⟩
    · cases h
  · cases h
theorem rng2_some {ds xs : List D} (h : rng2 ds = some xs) : ∃ i j, ds = [.int i, .int j] ∧ rngOk i = true ∧ rngOk j = true ∧ xs = intsFrom i (j - i).toNat := by
  unfold rng2 at h
  split at h
  · split at h
    · rename_i z
      cases h
      obtain ⟨z1, z2⟩ := Bool.and_eq_true_iff.mp z
      exact ⟨_, _, rfl, z1, z2, rfl⟩
    · cases h
  · cases h
def mMap {α β : Type} (f : α → Option β) (m : M α) : M β := M.bnd m fun a => M.lift (f a)
theorem rngOk_iff {j : Int} (h : rngOk j = true) : -(2 ^ 62) ≤ j ∧ j < 2 ^ 62 := by
  have h1 : j.natAbs ≤ 4611686018427387903 := Nat.le_of_ble_eq_true h
  omega
theorem di_range1 {p pos : Pos} (hg : Gl Γ.X "range") (hm : Γ.X.mg "range" = none) (ha : DA Γ [a] mf) (hs : starEach [a] Γ.X.env = [(false, eval a Γ.X.env)] := by rfl) : DI Γ tg (.Call (.Name "range" p) [a] [] pos) (mMap rng1 mf) := by
  obtain ⟨t, h, q⟩ := ha.ex
  refine ⟨_, pi_range1 hg hm h hs, fun en σ H ρ R ok j p => ?_⟩
  refine q en σ H ρ _ ok j (p.bind.mono fun ds H1 ρ1 _ _ ⟨s1, ok1, p1⟩ vs rv => ?_)
  cases e0 : rng1 ds with
  | none =>
    rw [e0] at p1
    exact p1.elim
  | some xs =>
    rw [e0] at p1
    obtain ⟨j0, rfl, hj, rfl⟩ := rng1_some e0
    obtain ⟨v, r, rfl, rj, rr⟩ := rv
    have er : r = [] := rr
    subst er
    obtain ⟨l1, l2⟩ := rngOk_iff hj
    refine ⟨j0, by rw [show v = .int j0 from rj], l1, l2, Post.ret' ok1 p1 (Itr 0 j0.toNat) (fun _ _ _ => True) True.intro (fun _ _ _ _ _ _ _ _ => True.intro) (fun i H B _ hi => ?_) fun H B _ => ?_⟩
    · rw [intsFrom_len] at hi
      refine ⟨hi, fun x H' ⟨e1, e2⟩ => ⟨e1, True.intro, _, intsFrom_get _ _ i hi, ?_⟩⟩
      rw [e2]
      exact rfl
    · rw [intsFrom_len]
      exact Nat.le_refl _
theorem di_range2 {p pos : Pos} (hg : Gl Γ.X "range") (hm : Γ.X.mg "range" = none) (ha : DA Γ [a, b] mf) (hs : starEach [a, b] Γ.X.env = [(false, eval a Γ.X.env), (false, eval b Γ.X.env)] := by rfl) (hs2 : starEach [b] Γ.X.env = [(false, eval b Γ.X.env)] := by rfl) :
    DI Γ tg (.Call (.Name "range" p) [a, b] [] pos) (mMap rng2 mf) := by
  obtain ⟨t, h, q⟩ := ha.ex
  refine ⟨_, pi_range2 hg hm h hs hs2, fun en σ H ρ R ok j p => ?_⟩
  refine q en σ H ρ _ ok j (p.bind.mono fun ds H1 ρ1 _ _ ⟨s1, ok1, p1⟩ vs rv => ?_)
  cases e0 : rng2 ds with
  | none =>
    rw [e0] at p1
    exact p1.elim
  | some xs =>
    rw [e0] at p1
    obtain ⟨i0, j0, rfl, hi, hj, rfl⟩ := rng2_some e0
    obtain ⟨v, r, rfl, rj, v2, r2, rfl, rj2, rr⟩ := rv
    have er : r2 = [] := rr
    subst er
    obtain ⟨l1, l2⟩ := rngOk_iff hi
    obtain ⟨l3, l4⟩ := rngOk_iff hj
    refine ⟨i0, j0, by rw [show v = .int i0 from rj, show v2 = .int j0 from rj2], ⟨l1, l2, l3, l4⟩, Post.ret' ok1 p1 (Itr i0 (j0 - i0).toNat) (fun _ _ _ => True) True.intro (fun _ _ _ _ _ _ _ _ => True.intro) (fun i H B _ hi => ?_) fun H B _ => ?_⟩
    · rw [intsFrom_len] at hi
      refine ⟨hi, fun x H' ⟨e1, e2⟩ => ⟨e1, True.intro, _, intsFrom_get _ _ i hi, ?_⟩⟩
      rw [e2]
      exact rfl
    · rw [intsFrom_len]
      exact Nat.le_refl _
def mFor (m : M (List D)) (g : D → M Unit) (b : M Fw) : M Fw := M.bnd m fun ds => forM g b ds
theorem ds_for {iter : Expr} {x : List Stmt} (hS : Γ.Any) (hp : PassesOwn (model Γ.X.prog Γ.X.w) Γ.X.A Γ.X.env Γ.X.xe) (hc : Γ.X.calm = true) (hi : DI Γ tg iter mf) (hg : DG Γ tg g) (hb : DSs Γ x ms)
    (hs : ∀ x, foldedSetIterable iter Γ.X.env x = pure x := by intro _; rfl) : DS Γ (.For tg iter x [] pos) (mFor mf g ms) := by
  obtain ⟨wi, h0, q0⟩ := hi.ex
  obtain ⟨tg', h1, q1⟩ := hg.ex
  obtain ⟨t, h, q⟩ := hb.ex
  refine ⟨_, ps_for hp hc h0 h1 h hs, fun en σ H ρ E ok j p => ?_⟩
  refine q0 en σ H ρ _ ok j ((PostX.bindE p).mono fun ds H1 ρ1 _ _ ⟨s1, ok1, p1⟩ J Pv z0 zst zgo zstop => ?_)
  have j1 := Γ.hJ ok.bl s1 j
  refine ⟨fun i k σ2 H2 => k = ds.length - i ∧ i ≤ ds.length ∧ ∃ ρ2, Ok Γ.X.K en σ2 H2 ρ2 ∧ Γ.J σ2 H2 (Ban en σ2 ρ2) ∧ Pv i H2 (Ban en σ2 ρ2) ∧ PostS Γ en H2 (Ban en σ2 ρ2) (forM g ms (ds.drop i) ρ2) E,
    ⟨ds.length, by simp, Nat.zero_le _, ρ1, ok1, j1, z0, p1⟩, ?_⟩
  rintro i k σ2 H2 ⟨rfl, hi, ρ2, ok2, j2, z2, p2⟩
  by_cases hlt : i < ds.length
  · obtain ⟨g1, g2⟩ := zgo i H2 _ z2 hlt
    refine .inr ⟨g1, fun σ3 H3 => ∃ ρ3, Ok Γ.X.K en σ3 H3 ρ3 ∧ Γ.J σ3 H3 (Ban en σ3 ρ3) ∧ Pv (i + 1) H3 (Ban en σ3 ρ3) ∧ PostS Γ en H3 (Ban en σ3 ρ3) (forM g ms (ds.drop (i + 1)) ρ3) E, fun σ3 H3 z => ⟨ds.length - (i + 1), by omega, rfl, hlt, z⟩, fun y H3 hy => ?_⟩
    obtain ⟨rfl, z3, d, hd, rd⟩ := g2 y H3 hy
    rw [List.drop_eq_getElem_cons hlt] at p2
    have ed : ds[i] = d := by
      rw [List.getElem?_eq_getElem hlt] at hd
      exact Option.some.inj hd
    rw [ed] at p2
    refine q1 en σ2 _ ρ2 y d _ ok2 j2 rd ((PostX.bind p2).mono fun _ σ4 H4 ρ4 _ _ ⟨s4, ok4, p4⟩ => ?_)
    have j4 := hS _ σ4 _ _ (Γ.hJ ok2.bl s4 j2)
    have z4 := zst _ _ _ _ _ ok2.bl s4 z3
    refine q en σ4 H4 ρ4 _ ok4 j4 ((PostX.bind p4).mono fun f σ5 H5 ρ5 _ _ ⟨s5, ok5, p5⟩ => ?_)
    have j5 := hS _ σ5 _ _ (Γ.hJ ok4.bl s5 j4)
    have z5 := zst _ _ _ _ _ ok4.bl s5 z4
    cases f with
    | nx => exact ⟨ρ5, ok5, j5, z5, p5⟩
    | ct => exact ⟨ρ5, ok5, j5, z5, p5⟩
    | bk => exact PostX.ret' ok5 p5
    | rt d => exact PostX.ret' ok5 p5
  · have hi' : i = ds.length := by omega
    subst hi'
    rw [List.drop_length] at p2
    exact .inl ⟨zstop _ _ z2, PostX.ret' ok2 p2⟩

/-! ### built-in functions -/
def RLD (K : PySem.W.Frag) (r : List V → Hp → VK → Prop) (f : List D → Option D) : Prop :=
  ∀ (H : Hp) (B : Addr → Prop) (xs : List V) (ds : List D) (z : D) (Q : VK), Rps K H B ds xs → f ds = some z → (∀ v, Rp K H B z v → Q v H) → r xs H Q
theorem de_bltn {t : TA → TE} {r : List V → Hp → VK → Prop} {f : List D → Option D} {ee : Expr} (hp : ∀ u, PA Γ.X es u → PE Γ.X ee (tCB r u)) (rf : RLD Γ.X.K r f) (ha : DA Γ es mf) : DE Γ ee (mMap f mf) := by
  obtain ⟨u, h, q⟩ := ha.ex
  refine ⟨_, hp u h, fun en σ H ρ Q ok j p => ?_⟩
  refine q en σ H ρ _ ok j (p.bind.mono fun ds H1 ρ1 _ _ ⟨s1, ok1, p1⟩ vs rv => ?_)
  cases e0 : f ds with
  | none =>
    rw [e0] at p1
    exact p1.elim
  | some z =>
    rw [e0] at p1
    exact rf H1 _ vs ds z Q rv e0 (Post.ret' ok1 p1)
theorem de_callB {x : Str} {p pos : Pos} {id : String} {r : List V → Hp → VK → Prop} {f : List D → Option D} (hc : CallR Γ.X (.builtin id) r) (rf : RLD Γ.X.K r f) (hg : Gl Γ.X x) (hm : Γ.X.mg x = none) (hv : bootBuiltins x = some (.builtin id)) (ha : DA Γ (e :: es) mf)
    (hn : x ≠ "__name__" := by decide) (hdb : (x == ("__debug__" : Str)) = false := by decide) (he : starEach (e :: es) Γ.X.env = (false, eval e Γ.X.env) :: starEach es Γ.X.env := by rfl) (hpl : (backTo pos (starEach es Γ.X.env)).any (·.1) = false := by rfl) :
    DE Γ (.Call (.Name x p) (e :: es) [] pos) (mMap f mf) := de_bltn (t := fun _ => tC .non) (fun u h => pe_callB hc hg hm hv h hn hdb he hpl) rf ha
theorem de_callTy {x : Str} {p pos : Pos} {T : String} {r : List V → Hp → VK → Prop} {f : List D → Option D} (hc : CallR Γ.X (.type T) r) (rf : RLD Γ.X.K r f) (hg : Gl Γ.X x) (hm : Γ.X.mg x = none) (hv : bootBuiltins x = some (.type T)) (ha : DA Γ (e :: es) mf)
    (hn : x ≠ "__name__" := by decide) (hdb : (x == ("__debug__" : Str)) = false := by decide) (he : starEach (e :: es) Γ.X.env = (false, eval e Γ.X.env) :: starEach es Γ.X.env := by rfl) (hpl : (backTo pos (starEach es Γ.X.env)).any (·.1) = false := by rfl) :
    DE Γ (.Call (.Name x p) (e :: es) [] pos) (mMap f mf) := de_bltn (t := fun _ => tC .non) (fun u h => pe_callTy hc hg hm hv h hn hdb he hpl) rf ha
end
section
variable {K : PySem.W.Frag}
def fInt : List D → Option D
  | [.int i] => some (.int i)
  | [.bl b] => some (.int (if b then 1 else 0))
  | _ => none
theorem rl_int : RLD K (fun xs H Q => (∃ i, xs = [.int i] ∧ Q (.int i) H) ∨ ∃ k, xs = [.bl k] ∧ Q (.int (if k then 1 else 0)) H) fInt := by
  intro H B xs ds z Q rs e q
  unfold fInt at e
  split at e
  · cases e
    obtain ⟨v, r, rfl, h1, h2⟩ := rs
    have e2 : r = [] := h2
    subst e2
    rw [show v = .int _ from h1]
    exact .inl ⟨_, rfl, q _ rfl⟩
  · cases e
    obtain ⟨v, r, rfl, h1, h2⟩ := rs
    have e2 : r = [] := h2
    subst e2
    rw [show v = .bl _ from h1]
    exact .inr ⟨_, rfl, q _ rfl⟩
  · cases e
theorem ints2 {H : Hp} {B : Addr → Prop} {xs : List V} {i j : Int} (rs : Rps K H B [.int i, .int j] xs) : xs = [.int i, .int j] := by
  obtain ⟨v, r, rfl, h1, v2, r2, rfl, h2, h3⟩ := rs
  rw [show v = .int i from h1, show v2 = .int j from h2, show r2 = [] from h3]
theorem ints1 {H : Hp} {B : Addr → Prop} {xs : List V} {i : Int} (rs : Rps K H B [.int i] xs) : xs = [.int i] := by
  obtain ⟨v, r, rfl, h1, h2⟩ := rs
  rw [show v = .int i from h1, show r = [] from h2]
def fMax : List D → Option D
  | [.int i, .int j] => some (.int (if j > i then j else i))
  | _ => none
def fMin : List D → Option D
  | [.int i, .int j] => some (.int (if j < i then j else i))
  | _ => none
def fAbs : List D → Option D
  | [.int i] => some (.int (if i < 0 then -i else i))
  | _ => none
theorem rl_max : RLD K (fun xs H Q => ∃ i j, xs = [.int i, .int j] ∧ Q (.int (if j > i then j else i)) H) fMax := by
  intro H B xs ds z Q rs e q
  unfold fMax at e
  split at e
  · cases e
    exact ⟨_, _, ints2 rs, q _ rfl⟩
  · cases e
theorem rl_min : RLD K (fun xs H Q => ∃ i j, xs = [.int i, .int j] ∧ Q (.int (if j < i then j else i)) H) fMin := by
  intro H B xs ds z Q rs e q
  unfold fMin at e
  split at e
  · cases e
    exact ⟨_, _, ints2 rs, q _ rfl⟩
  · cases e
theorem rl_abs : RLD K (fun xs H Q => ∃ i, xs = [.int i] ∧ Q (.int (if i < 0 then -i else i)) H) fAbs := by
  intro H B xs ds z Q rs e q
  unfold fAbs at e
  split at e
  · cases e
    exact ⟨_, ints1 rs, q _ rfl⟩
  · cases e
def fLen : List D → Option D
  | [.lst xs] => some (.int xs.length)
  | [.scr ns] => some (.int ns.length)
  | [.tup xs] => some (.int xs.length)
  | [.str s] => if s.length ≤ sizeLine then some (.int s.length) else none
  | _ => none
theorem rl_len : RLD K (fun xs H Q => ∃ x n, xs = [x] ∧ LenV K x H n ∧ Q (.int n) H) fLen := by
  intro H B xs ds z Q rs e q
  unfold fLen at e
  split at e
  · cases e
    obtain ⟨v, r, rfl, ⟨a, vs, rfl, h1, h2⟩, h3⟩ := rs
    rw [show r = [] from h3]
    refine ⟨_, vs.length, rfl, .inl ⟨vs, h1.sq, rfl⟩, q _ ?_⟩
    rw [← h2.length]
    exact rfl
  · cases e
    obtain ⟨v, r, rfl, ⟨a, rfl, h1⟩, h3⟩ := rs
    rw [show r = [] from h3]
    refine ⟨_, _, rfl, .inl ⟨_, h1.sq, rfl⟩, q _ ?_⟩
    rw [List.length_map]
    exact rfl
  · cases e
    obtain ⟨v, r, rfl, ⟨a, vs, rfl, h1, h2⟩, h3⟩ := rs
    rw [show r = [] from h3]
    refine ⟨_, vs.length, rfl, .inr ⟨vs, h1, rfl⟩, q _ ?_⟩
    rw [← h2.length]
    exact rfl
  · split at e
    · rename_i hs
      cases e
      obtain ⟨v, r, rfl, h1, h3⟩ := rs
      rw [show r = [] from h3, show v = .str _ from h1]
      exact ⟨_, _, rfl, ⟨hs, rfl⟩, q _ rfl⟩
    · cases e
  · cases e
end

/-! ### str of data -/
section
variable {X : Cx}
def strOk (d : PyData) : Bool := d.showable && !d.hasDict && decide (d.shown.length ≤ sizeLine) && decide (d.depth ≤ 40)
def fStr : List D → Option D
  | [.str s] => some (.str s)
  | [d] => if strOk d.py = true then some (.str d.py.shown) else none
  | _ => none
def rStr (K : PySem.W.Frag) : List V → Hp → VK → Prop := fun xs H Q => (∃ y, xs = [.str y] ∧ Q (.str y) H) ∨ ∃ x d, xs = [x] ∧ Dp K H x d ∧ (∀ y, d ≠ .str y) ∧ strOk d = true ∧ Q (.str d.shown) H
theorem call_strD (hg : X.A.guards = some []) (hu : X.A.units + 64 < cLine) : CallR X (.type "str") (rStr X.K) := by
  rintro pins s σ H xs us Q I r (⟨y, rfl, q⟩ | ⟨x, d, rfl, hd, hy, ho, q⟩)
  · obtain ⟨u, rfl, t, rfl⟩ := vals1 r
    exact PySem.P.str_of_str ⟨.str y, H, I, ⟨t, rfl⟩, q⟩
  obtain ⟨u, rfl, ru⟩ := vals1 r
  obtain ⟨h3, h4⟩ := Bool.and_eq_true_iff.mp ho
  obtain ⟨h1, h2⟩ := Bool.and_eq_true_iff.mp h3
  obtain ⟨h0, h5⟩ := Bool.and_eq_true_iff.mp h1
  have hz : d.shown.length ≤ sizeLine := of_decide_eq_true h2
  have hdep : d.depth ≤ 40 := of_decide_eq_true h4
  have seq : ∀ {a : Addr}, x = .ref a → wpAny (model X.prog X.w) X.A (call (.type "str") [u]) (EP X pins σ Q) X.xe s := fun {a} ea => by
    obtain ⟨as, rd⟩ := Dp.reads I d x u hd ru
    rw [ea] at ru
    obtain rfl : u = Value.ref a := ru
    exact PySem.str_of_reads rd h0 (fun z => by rw [z] at h5; cases h5) hg (by omega) (fun _ _ e => e) (fun h' t tk hk => ⟨.str d.shown, H, I.kept hk, ⟨_, rfl⟩, q⟩) hz
  cases hd with
  | non =>
    cases ru
    exact PySem.P.str_of_none ⟨.str _, H, I.tok _, ⟨_, rfl⟩, q⟩
  | bl b =>
    cases ru
    exact PySem.P.str_of_bool ⟨.str _, H, I.tok _, ⟨_, rfl⟩, q⟩
  | int i =>
    obtain ⟨t, rfl⟩ := ru
    exact PySem.P.str_of_int (of_decide_eq_true h0) ⟨.str _, H, I.tok _, ⟨_, rfl⟩, q⟩
  | str y => exact absurd rfl (hy y)
  | lst h1 h2 => exact seq rfl
  | tup h1 h2 => exact seq rfl
theorem rl_str {K : PySem.W.Frag} : RLD K (rStr K) fStr := by
  intro H B xs ds z Q rs e q
  unfold fStr at e
  split at e
  · cases e
    obtain ⟨v, r, rfl, h1, h3⟩ := rs
    rw [show r = [] from h3, show v = .str _ from h1]
    exact .inl ⟨_, rfl, q _ rfl⟩
  · rename_i d hn
    split at e
    · rename_i h
      cases e
      obtain ⟨v, r, rfl, h1, h3⟩ := rs
      rw [show r = [] from h3]
      refine .inr ⟨v, _, rfl, h1.dp, fun y => ?_, h, q _ rfl⟩
      cases d <;> (first | exact fun z => (hn _ rfl).elim | exact fun z => nomatch z)
    · cases e
  · cases e
end
end DL
set_option Elab.async false
set_option linter.all false
set_option maxRecDepth 100000
/-! The data layer, ninth part: several except clauses with a name (over the model's rules), raise, try. -/
namespace L2
open PySem PySem.Spec PyProof.Rows
/-- what named clauses wish of an exception, one behind another; i: the name's slot -/
def wAsMany (K : PySem.W.Frag) (Wout : WX) (D : Ends) : List (Value × Nat × (Addr → Value → Option Addr → TS)) → WX
  | [] => Wout
  | (c, i, ts) :: r => fun cls d σ H => ∃ b, PySem.W.exmOne K cls c = some b ∧
      (b = true → ∀ a, H a = none → ts a cls d { nx := fun s h => D.nx (s.set i none) h, rt := D.rt, bk := fun s h => D.bk (s.set i none) h, ct := fun s h => D.ct (s.set i none) h } (σ.set i (some (.ref a))) H) ∧
      (b = false → wAsMany K Wout D r cls d σ H)
inductive HdsAs (X : Cx) : List ExceptHandler → List (Value × Nat × (Addr → Value → Option Addr → TS)) → Prop
  | nil : HdsAs X [] []
  | cons {x n : Str} {c : Value} {i : Nat} {ts : Addr → Value → Option Addr → TS} {b₀ : Stmt} {suite : List Stmt} {np pos' : Pos} {hds : List ExceptHandler} {l : List (Value × Nat × (Addr → Value → Option Addr → TS))}
      (hc : Names X x c) (hi : X.N[i]? = some n) (hln : X.env.kindOf n = some .local)
      (hsu : ∀ (a : Addr) (oe : Obj) (cls : Value) (d : Option Addr) (pn : List (Addr × Obj)), Zc cls d oe → (∃ vs, oe.data = .fields vs) → PSs (X.suite a ((a, oe) :: pn)) (b₀ :: suite) (ts a cls d)) (r : HdsAs X hds l) :
      HdsAs X (.ExceptHandler (some (.Name x np)) (some n) (b₀ :: suite) pos' :: hds) ((c, i, ts) :: l)
section
variable {X : Cx} {body : List Stmt} {h₀ : ExceptHandler} {hds : List ExceptHandler} {l : List (Value × Nat × (Addr → Value → Option Addr → TS))} {pos : Pos} {tb : WX → TS} {Wout : WX}
/-- the exception at a is on the ground; the clauses are gone through -/
theorem clauses_as {pins : List (Addr × Obj)} {s3 : Shared} {D : Ends} {a : Addr} {B : Heap} {sI s' : Shared} {σ' : St} {H' : Hp} {cls : Value} {d : Option Addr} (hs : X.stack = X.env :: X.outer) (hf : X.env.frame = some X.env.locals) (hN : X.N.Nodup) (tk : Takes X Wout)
    (J : Inv X pins σ' H' sI) (nb : ∀ b o, sI.heap.get? b = some o → b ∉ frs X.stack → B.get? b = some o) (up : sI.heap.UpToSlots s'.heap) (na : H' a = none) (os : s'.os = sI.os) (ag : AllBare s'.gens)
    {h3 : Heap} (fl3 : HandSPX.FlyingZ B (X.env :: X.outer) a (Zc cls d) h3) (up3 : s'.heap.UpToSlots h3) :
    ∀ {hds : List ExceptHandler} {l : List (Value × Nat × (Addr → Value → Option Addr → TS))}, HdsAs X hds l → wAsMany X.K Wout D l cls d σ' H' →
      wpAny (model X.prog X.w) X.A (handleBy (.ref a) X.env hds) (SP X pins D) X.xe { s' with heap := h3 } := by
  have ok := J.ok
  have J3 : Inv X pins σ' H' { s' with heap := h3 } := J.landed nb fl3.1 (up.trans up3) os ag
  obtain ⟨oe3, vs3, he3, hz3, hd3⟩ := fl3.there
  have nfr : a ∉ frs (X.env :: X.outer) := fun hm => by
    obtain ⟨_, o', e', hnf⟩ := fl3.2.2.1.mem hm
    rw [he3] at e'
    cases e'
    exact hnf _ hd3
  have nL : a ≠ X.env.locals := fun z => nfr (List.mem_filterMap.mpr ⟨X.env, List.mem_cons_self, by rw [hf, z]⟩)
  have nF : a ∉ X.fs := fun hm => by
    obtain ⟨e, he, q⟩ := List.mem_filterMap.mp hm
    exact nfr (List.mem_filterMap.mpr ⟨e, List.mem_cons_of_mem _ he, q⟩)
  have S3 := J3.suite he3 hd3 na nL nF
  intro hds l hk
  induction hk with
  | nil =>
    intro w
    refine wpAny_handleBy_nil ?_
    obtain ⟨k1, k2, k3, oe, vs, T, oT, ts', he, hz, hd, h1, hr⟩ := id fl3
    unfold PySem.passOn
    refine wpAny_bind (wpAny_field he hd h1 ?_)
    rw [if_neg (show ¬ ((Value.ref T == Value.none) = true) from by simp)]
    have fin : wpAny (model X.prog X.w) X.A (setFlight (.ref a) X.env.frame) (fun _ s4 => wpAny (model X.prog X.w) X.A (throw (.ref a) : Sem Flow) (SP X pins D) X.xe s4) X.xe { s' with heap := h3 } := by
      rw [hf]
      refine HandSPX.setFlight_upZ fl3 fun h4 hh4 up4 => wpAny_throw (tk _ _ ?_)
      exact ⟨a, B, sI, pins, σ', H', cls, d, rfl, J, nb, (up.trans up3).trans up4, .inr (.inr (by rw [hs]; exact hh4)), na, os, ag, w⟩
    first
      | exact wpAny_bind (wpAny_pure (wpAny_bind fin))
      | exact wpAny_bind fin
  | @cons x n c i ts b₀ suite np pos' hds2 l2 hc hi hln hsu r ih =>
    rintro ⟨b, hb1, hyes, hno⟩
    refine wpAny_handleBy_cons (codeAny_handlers_test ?_) (by intro q; cases q)
    have LT : PySem.W.Looks (model X.prog X.w) h3 (typeOf (.ref a)) cls := fun A Q E s k q => wpAny_typeOf_ref (k _ _ he3) (by rw [hz3.1]; exact q)
    have LM := PySem.W.exm_one (M := model X.prog X.w) (J3.kIn) LT hb1
    have test : ∀ {Q : Value → Shared → Prop} {E : Value → Shared → Prop}, Q c { s' with heap := h3 } → wpAny (model X.prog X.w) (X.A.mark (some (.ref a))) (eval (.Name x np) X.env) Q E { s' with heap := h3 } := fun {Q E} q => by
      obtain ⟨hg, hdbg, hm | ⟨hm, hv, hnn⟩⟩ := hc
      · exact ld_glob (X := X.suite a ((a, oe3) :: (X.pn ++ pins))) S3 hg hm q hdbg
      · exact ld_blt (X := X.suite a ((a, oe3) :: (X.pn ++ pins))) S3 hg hm hv q hnn hdbg
    refine test (LM.here ?_)
    cases b with
    | true =>
      refine codeAny_handlers_suite_as ?_
      refine HandSPX.lands_againZ fl3 fun h4 fl4 up4 => ?_
      have J4 : Inv X pins σ' H' { s' with heap := h4 } := J.landed nb fl4.1 ((up.trans up3).trans up4) os ag
      obtain ⟨oe4, vs4, he4, hz4, hd4⟩ := fl4.there
      have S4 := J4.suite he4 hd4 na nL nF
      refine store_ok (X := X.suite a ((a, oe4) :: (X.pn ++ pins))) (v := .ref a) S4 hN hi (.inl hln) rfl (fun s5 S5 => ?_) (.inr hln)
      refine wpAny_mono ((hsu a oe4 cls d (X.pn ++ pins) hz4 ⟨_, hd4⟩).run [] s5 _ H' _ S5 (hyes rfl a na)) (fun f s6 hsp => ?_) (fun _ _ z => False.elim z)
      have end_ : ∀ {σ6 : St} {H6 : Hp} {Q : Shared → Prop}, Inv (X.suite a ((a, oe4) :: (X.pn ++ pins))) [] σ6 H6 s6 → (∀ s7, Inv X pins (σ6.set i none) H6 s7 → Q s7) →
          wpAny (model X.prog X.w) X.A (do bindName X.env n .none; unbindBehindTheSuite X.env n pos') (fun _ s7 => Q s7) X.xe s6 := fun {σ6 H6 Q} S6 hq => gone_ok (S6.unsuite ok) hN hi hln hq
      cases f with
      | next =>
        obtain ⟨σ6, H6, S6, q6⟩ := hsp
        exact end_ S6 fun s7 J7 => ⟨_, _, J7, q6⟩
      | brk =>
        obtain ⟨σ6, H6, S6, q6⟩ := hsp
        exact end_ S6 fun s7 J7 => ⟨_, _, J7, q6⟩
      | cont =>
        obtain ⟨σ6, H6, S6, q6⟩ := hsp
        exact end_ S6 fun s7 J7 => ⟨_, _, J7, q6⟩
      | ret u =>
        obtain ⟨v6, σ6, H6, S6, r6, q6⟩ := hsp
        exact end_ S6 fun s7 J7 => ⟨_, _, _, J7, r6, q6⟩
    | false =>
      show wpAny _ X.A (handleBy (.ref a) X.env hds2) _ _ _
      exact ih (hno rfl)
theorem ps_try_asMany (hs : X.stack = X.env :: X.outer) (hf : X.env.frame = some X.env.locals) (hN : X.N.Nodup) (tk : Takes X Wout)
    (hb : ∀ (W : WX) (pn : List (Addr × Obj)) (xe : Value → Shared → Prop), Takes (X.tr pn xe) W → PassesOwn (model X.prog X.w) X.A X.env xe → PSs (X.tr pn xe) body (tb W))
    (hh : HdsAs X (h₀ :: hds) l) : PS X (.Try body (h₀ :: hds) [] [] pos) (fun D σ H => tb (wAsMany X.K Wout D l) D σ H) := by
  refine ⟨fun pins s σ H D I h => ?_⟩
  have ok := I.ok
  have hfr : X.A.frames = some (X.env :: X.outer) := by rw [ok.frames, hs]
  refine wpAny_Try_except ?_
  refine wpAny_mono ((hb (wAsMany X.K Wout D l) (X.pn ++ pins) (fun e s₁ => wpAny (model X.prog X.w) X.A (noteFrame e X.env) (fun _ s₂ => wpAny (model X.prog X.w) X.A (setFlight e none) (fun _ s₃ =>
    wpAny (model X.prog X.w) X.A (handleBy e X.env (h₀ :: hds)) (SP X pins D) X.xe s₃) X.xe s₂) X.xe s₁) (fun u s' xx => ?_) PassesOwn.looking).run [] s σ H D (I.toTry _) h) (fun f s1 hsp => ?_) (fun e s1 he => he)
  · obtain ⟨a, B, sI, pins', σ', H', cls, d, rfl, J', nb, up, sky, na, os, ag, w⟩ := xx
    have sky' : Sky B (X.env :: X.outer) a (Zc cls d) X.env.locals s'.heap := by rw [← hs]; exact sky
    show wpAny (model X.prog X.w) X.A (noteFrame (.ref a) X.env) _ _ _
    refine Sky.land Zc.steady hfr hf sky' fun h3 fl3 up3 => ?_
    exact clauses_as (s3 := s') hs hf hN tk (J'.ofTry ok) nb up na os ag fl3 up3 hh w
  · cases f with
    | next =>
      obtain ⟨σ', H', J', q⟩ := hsp
      exact wpAny_execs_nil ⟨σ', H', J'.ofTry ok, q⟩
    | brk =>
      obtain ⟨σ', H', J', q⟩ := hsp
      exact ⟨σ', H', J'.ofTry ok, q⟩
    | cont =>
      obtain ⟨σ', H', J', q⟩ := hsp
      exact ⟨σ', H', J'.ofTry ok, q⟩
    | ret u =>
      obtain ⟨v, σ', H', J', r, q⟩ := hsp
      exact ⟨v, σ', H', J'.ofTry ok, r, q⟩
end
end L2
set_option Elab.async false
set_option linter.all false
set_option maxRecDepth 100000
/-! The data layer, tenth part: exception classes with one field, raise, try with named clauses; isinstance, chains, names of the module, an item of a slot's own list. -/
namespace DL
open PySem PySem.Spec PyProof.Rows L2

/-! ### raise -/
def spIni (C : Addr) (f : Str) : Sp := fun vs H Q _ => ∃ a v, vs = [.ref a, v] ∧ H a = some (exo a C none) ∧ ∀ dx, H dx = none → dx ≠ a → Q .non (upd (upd H dx (exd dx [(f, v)])) a (exo a C (some dx)))
/-- an own exception class with one field -/
structure ExC (P : Program) (w : World) (K : PySem.W.Frag) (mg : Str → Option Value) (base : Heap) (x f : Str) : Prop where
  oex : OexC K (He.ga K x)
  gm : mg x = some (.ref (He.ga K x))
  iC : PySem.W.findIn K (.ref (He.ga K x)) "__init__" = some (some (.ref (He.ma K (He.ga K x) "__init__")))
  tI : PySem.W.typeIn K (.ref (He.ma K (He.ga K x) "__init__")) = some (.type "function")
  ini : ∃ fd ps, FnOk P w K mg base CX0 1 (He.ma K (He.ga K x) "__init__") fd ps (spIni (He.ga K x) f) ∧ Binds K fd ps []
  xf : XfC K (He.ga K x)
  nof : PySem.W.findIn K (.ref (He.ga K x)) f = some none
theorem ini_ok {P : Program} {w : World} {K : PySem.W.Frag} {mg : Str → Option Value} {base : Heap} {x qual f : Str} {C fI : Addr} {params : Arguments} {body : List Stmt} {scope : Scope} {fd : FuncData} {N ps : List Str} (oex : OexC K C) (nof : PySem.W.findIn K (.ref C) f = some none)
    (F : FunD K x qual params body scope [] [] fI fd) (S : FnScope N ps scope) (h2 : ps.length = 2) (hN : N.length = 2)
    (hb : ∀ cdv A outer s H E, PSs (cxOf CX0 P w K mg base N qual scope fI cdv A outer s H E) body (tOst K f (tVar 0) (tVar 1))) : FnOk P w K mg base CX0 1 fI fd ps (spIni C f) := by
  refine F.ok S (fun vs H Q E h => ?_) fun cdv A outer s H vs Q E hr h => ⟨_, hb cdv A outer s H E, ?_⟩
  · obtain ⟨a, v, rfl, _⟩ := h
    rw [h2]
    rfl
  · obtain ⟨a, v, rfl, ha, q⟩ := h
    have e : L2.start N [.ref a, v] = [some (.ref a), some v] := by
      unfold L2.start
      rw [hN]
      rfl
    rw [e]
    exact ⟨v, rfl, .ref a, rfl, a, C, rfl, oex, nof, .inl ⟨ha, fun dx h1 h2 => q dx h1 h2⟩⟩
abbrev ExCC (Γ : Cn) (x f : Str) : Prop := ExC Γ.X.prog Γ.X.w Γ.X.K Γ.X.mg Γ.X.base x f
def mRaise (x f : Str) (m : M D) : M Fw := M.bnd m fun d => fun ρ => .ex ⟨x, [(f, d)]⟩ ρ
section
variable {Γ : Cn} {e a b : Expr} {es : List Expr} {pos pos2 p : Pos} {m : M D} {x f : Str}
theorem ds_raise (T : ExCC Γ x f) (hc : Γ.X.calm = true) (tk : Takes Γ.X Γ.W) (hr : Room 2 Γ.X.A) (hg : Gl Γ.X x) (ha : DE Γ e m) (hdb : (x == ("__debug__" : Str)) = false := by decide) (he : starEach [e] Γ.X.env = (false, eval e Γ.X.env) :: starEach [] Γ.X.env := by rfl)
    (hpl : (backTo pos (starEach [] Γ.X.env)).any (·.1) = false := by rfl) : DS Γ (.Raise (some (.Call (.Name x p) [e] [] pos)) none pos2) (mRaise x f m) := by
  obtain ⟨t, h, q⟩ := ha.ex
  obtain ⟨fd, ps, F1, hb⟩ := T.ini
  refine ⟨_, ps_raise hc tk (pmk_oex T.oex T.iC T.tI F1 hr hb .nil pass0 hg T.gm (pa_cons h pa_nil he) hdb he hpl), fun en σ H ρ E ok j p => ?_⟩
  refine q en σ H ρ _ ok j ((PostX.bindE p).mono fun d H1 ρ1 _ _ ⟨s1, ok1, p1⟩ v rv => ?_)
  refine ⟨by show 1 ≤ 1000; omega, fun a ha => ⟨a, v, rfl, upd_same, fun dx h1 h2 => ?_⟩⟩
  have hd : H1 dx = none := by
    rw [upd_ne h2] at h1
    exact h1
  refine ⟨rfl, dx, [(f, v)], upd_same, by rw [upd_ne h2, upd_same], hd, ?_⟩
  have e0 : upd (del (upd (upd (upd H1 a (exo a (He.ga Γ.X.K x) none)) dx (exd dx [(f, v)])) a (exo a (He.ga Γ.X.K x) (some dx))) a) dx (.xd [(f, v)]) = upd H1 dx (.xd [(f, v)]) := by
    funext b
    by_cases q1 : b = dx
    · rw [q1, upd_same, upd_same]
    · rw [upd_ne q1, upd_ne q1]
      by_cases q2 : b = a
      · rw [q2, del_same, ha]
      · rw [del_ne q2, upd_ne q2, upd_ne q1, upd_ne q2]
  rw [e0]
  obtain ⟨ok2, s2⟩ := ok1.laid (o := .xd [(f, v)]) hd
  exact p1 σ _ _ _ ok2 s2 ⟨rfl, .inr ⟨dx, _, rfl, upd_same, v, [], rfl, rv.stab ok1.bl s2, rfl⟩⟩

/-! ### try -/
/-- a block's reading in one form -/
def canon (fr : Bool) (K : PySem.W.Frag) (W : WX) (J : L2.St → Hp → (Addr → Prop) → Prop) (m : M Fw) : TS := fun E σ H => ∃ en ρ, Ok K en σ H ρ ∧ J σ H (Ban en σ ρ) ∧ ∃ X : Cx, X.K = K ∧ ∃ hJ, PostS ⟨X, W, J, hJ, fr⟩ en H (Ban en σ ρ) (m ρ) E
theorem postS_any {fr : Bool} {X X' : Cx} {W : WX} {J J' : L2.St → Hp → (Addr → Prop) → Prop} {hJ hJ'} {en : En} {H : Hp} {B : Addr → Prop} {o : Out Fw} {E : Ends} (e : X.K = X'.K) (h : PostS ⟨X, W, J, hJ, fr⟩ en H B o E) : PostS ⟨X', W, J', hJ', fr⟩ en H B o E := by
  cases o with
  | ok f ρ' =>
    intro σ' H' ok st
    have z := h σ' H' (by show Ok X.K en σ' H' ρ'; rw [e]; exact ok) st
    cases f with
    | nx => exact z
    | bk => exact z
    | ct => exact z
    | rt d => exact fun v rv => z v (by show RtOk fr X.K _ _ H' _ d v; rw [e]; exact rv)
  | ex x ρ' =>
    intro σ' H' c d ok st hx
    exact h σ' H' c d (by show Ok X.K en σ' H' ρ'; rw [e]; exact ok) st (by show ExAt X.K H' _ x c d; rw [e]; exact hx)
  | stuck => exact h
theorem DSs.canon {sts : List Stmt} {m : M Fw} (h : DSs Γ sts m) : PSs Γ.X sts (canon Γ.fr Γ.X.K Γ.W Γ.J m) := by
  obtain ⟨t, h, q⟩ := h.ex
  refine ⟨fun pins s σ H E I z => h.run pins s σ H E I ?_⟩
  obtain ⟨en, ρ, ok, j, X, eX, hJ, p⟩ := z
  obtain ⟨GX, GW, GJ, GhJ, Gfr⟩ := Γ
  exact q en σ H ρ E ok j (postS_any eX p)
theorem pss_all {X : Cx} {st : List Stmt} {ι : Sort _} {t : ι → TS} (h : ∀ i, PSs X st (t i)) : PSs X st (fun D σ H => ∃ i, t i D σ H) :=
  ⟨fun pins s σ H D I ⟨i, z⟩ => (h i).run pins s σ H D I z⟩

theorem Ok.set_none {K : PySem.W.Frag} {en : En} {σ : L2.St} {H : Hp} {ρ : Rho} {i : Nat} {x : Option V} (ok : Ok K en σ H ρ) : Ok K en (σ.set i x) H (ρ.set i none) ∧ Stab H (Ban en σ ρ) H (Ban en (σ.set i x) (ρ.set i none)) := by
  have get : ∀ {j : Nat} {z : Fl × D}, (ρ.set i none)[j]? = some (some z) → i ≠ j ∧ ρ[j]? = some (some z) := fun {j z} h => by
    by_cases q : i = j
    · subst q
      by_cases hi : i < ρ.length
      · rw [List.getElem?_set_self hi] at h
        cases h
      · rw [List.getElem?_eq_none (by rw [List.length_set]; omega)] at h
        cases h
    · rw [List.getElem?_set_ne q] at h
      exact ⟨q, h⟩
  have sub : ∀ a, Ban en (σ.set i x) (ρ.set i none) a → Ban en σ ρ a := fun a z => z.imp id fun ⟨j, fl, d, h1, h2, h3⟩ => by
    obtain ⟨q, g⟩ := get h1
    rw [List.getElem?_set_ne q] at h3
    exact ⟨j, fl, d, g, h2, h3⟩
  have st : Stab H (Ban en σ ρ) H (Ban en (σ.set i x) (ρ.set i none)) := ⟨fun _ _ h _ => h, fun a z _ => sub a z, fun _ h => h⟩
  refine ⟨⟨by rw [List.length_set, List.length_set]; exact ok.len, ok.nb, ok.kp, fun a z => ok.bl a (sub a z), fun j d h => ?_, fun j fl d hf h => ?_, fun j k a fl d fl' d' h1 f1 h2 f2 h3 h4 => ?_⟩, st⟩
  · obtain ⟨q, g⟩ := get h
    obtain ⟨v, g1, g2⟩ := ok.sh j d g
    exact ⟨v, by rw [List.getElem?_set_ne q]; exact g1, g2.stab ok.bl st⟩
  · obtain ⟨q, g⟩ := get h
    obtain ⟨a, xs, ds, g1, g2, g3, g4, g5⟩ := ok.ow j fl d hf g
    exact ⟨a, xs, ds, by rw [List.getElem?_set_ne q]; exact g1, g2, g3, Rps.stab ok.bl st g4, g5⟩
  · obtain ⟨q1, g1⟩ := get h1
    obtain ⟨q2, g2⟩ := get h2
    rw [List.getElem?_set_ne q1] at h3
    rw [List.getElem?_set_ne q2] at h4
    exact ok.inj j k a fl d fl' d' g1 f1 g2 f2 h3 h4
/-- the context of a clause's suite: the exception at a, its class x, its own dict at dd with the fields vs, which are the data fs; its name's slot is i -/
def cnSuite (X : Cx) (K : PySem.W.Frag) (a : Addr) (pn : List (Addr × Obj)) (i : Nat) (dd : Addr) (vs : List (Str × V)) (fs : List (Str × D)) (fr : Bool) : Cn where
  X := X.suite a pn
  W := fun _ _ _ _ => False
  J := fun σ H B => σ[i]? = some (some (V.ref a)) ∧ H dd = some (.xd vs) ∧ RpF K H B fs vs
  hJ := fun {σ H B H' B'} bl s ⟨h1, h2, h3⟩ => ⟨h1, s.kp _ _ h2 (fun z => by
    obtain ⟨xs, e⟩ := bl _ z
    rw [h2] at e
    cases e), RpF.stab bl s h3⟩
  fr := fr
/-- the caught error's field -/
def mField (f : Str) (fs : List (Str × D)) : M D := M.lift (fs.lookup f)
theorem de_field {fr : Bool} {X : Cx} {K : PySem.W.Frag} {a dd : Addr} {oe : Obj} {pn : List (Addr × Obj)} {i : Nat} {vs : List (Str × V)} {fs : List (Str × D)} {x f n : Str} {p pos : Pos} (hK : X.K = K) (T : XfC K (He.ga K x)) (hno : PySem.W.findIn K (.ref (He.ga K x)) f = some none)
    (hz : Zc (.ref (He.ga K x)) (some dd) oe) (hf : ∃ vs, oe.data = .fields vs) (hN : X.N[i]? = some n) (hv : Vis X.env.scope n) (hd : (n == ("__debug__" : Str)) = false := by decide) (hcd : (n == ("__classdict__" : Str)) = false := by decide)
    (hb : attributeBase (.Name n p) f X.env (eval (.Name n p) X.env) = eval (.Name n p) X.env := by rfl) : DE (cnSuite X K a ((a, oe) :: pn) i dd vs fs fr) (.Attribute (.Name n p) f pos) (mField f fs) := by
  subst hK
  have he : PE (X.suite a ((a, oe) :: pn)) (.Name n p) (tVar i) := pe_var hN hv hd hcd
  refine ⟨_, pe_xf T hno hz hf he hb, fun en σ H ρ Q ok j pp => ?_⟩
  obtain ⟨h1, h2, h3⟩ := j
  unfold mField at pp
  cases e0 : fs.lookup f with
  | none =>
    rw [e0] at pp
    exact pp.elim
  | some d =>
    rw [e0] at pp
    obtain ⟨v, g1, g2⟩ := h3.get e0
    exact ⟨_, h1, rfl, rfl, dd, vs, v, rfl, h2, g1, Post.ret' ok pp v g2⟩
/-- one clause: what it names, its slot, what its suite does with the fields -/
structure Cl where
  x : Str
  i : Nat
  h : List (Str × D) → M Fw
/-- which class a clause takes -/
abbrev Tak := Str → Str → Option Bool
def suiteM (i : Nat) (m : M Fw) : M Fw := fun ρ => if i < ρ.length then (match m (ρ.set i none) with
  | .ok f ρ' => .ok f (ρ'.set i none)
  | .ex _ _ => .stuck
  | .stuck => .stuck) else .stuck
def tryM (tak : Tak) : List Cl → Exn → M Fw
  | [], x => fun ρ => .ex x ρ
  | c :: r, x => match tak x.cls c.x with
    | some true => if x.fs.isEmpty = true then M.stop else suiteM c.i (c.h x.fs)
    | some false => tryM tak r x
    | none => M.stop
def mTry (tak : Tak) (m : M Fw) (cs : List Cl) : M Fw := fun ρ => match m ρ with
  | .ex x ρ' => tryM tak cs x ρ'
  | .ok f ρ' => .ok f ρ'
  | .stuck => .stuck
/-- a clause's reading -/
def tsOf (fr : Bool) (X : Cx) (c : Cl) : Addr → Value → Option Addr → TS := fun a cls d E σ H => ∃ (z : List (Str × D) × Addr × List (Str × V)), ∃ (_ : cls = .ref (He.ga X.K c.x) ∧ d = some z.2.1),
  canon fr X.K (fun _ _ _ _ => False) (fun σ H B => σ[c.i]? = some (some (V.ref a)) ∧ H z.2.1 = some (.xd z.2.2) ∧ RpF X.K H B z.1 z.2.2) (c.h z.1) E σ H
inductive HdD (Γ : Cn) : List ExceptHandler → List Cl → Prop
  | nil : HdD Γ [] []
  | cons {n x : Str} {i : Nat} {h : List (Str × D) → M Fw} {b₀ : Stmt} {suite : List Stmt} {np pos' : Pos} {hds : List ExceptHandler} {l : List Cl} (hg : Gl Γ.X x) (hdb : (x == ("__debug__" : Str)) = false) (hm : Γ.X.mg x = some (.ref (He.ga Γ.X.K x)))
      (hi : Γ.X.N[i]? = some n) (hln : Γ.X.env.kindOf n = some .local)
      (hsu : ∀ (a : Addr) (oe : Obj) (pn : List (Addr × Obj)) (dd : Addr) (vs : List (Str × V)) (fs : List (Str × D)), Zc (.ref (He.ga Γ.X.K x)) (some dd) oe → (∃ vs, oe.data = .fields vs) → DSs (cnSuite Γ.X Γ.X.K a ((a, oe) :: pn) i dd vs fs Γ.fr) (b₀ :: suite) (h fs))
      (r : HdD Γ hds l) : HdD Γ (.ExceptHandler (some (.Name x np)) (some n) (b₀ :: suite) pos' :: hds) (⟨x, i, h⟩ :: l)
theorem HdD.as {hds : List ExceptHandler} {l : List Cl} (h : HdD Γ hds l) : HdsAs Γ.X hds (l.map fun c => (Value.ref (He.ga Γ.X.K c.x), c.i, tsOf Γ.fr Γ.X c)) := by
  induction h with
  | nil => exact .nil
  | cons hg hdb hm hi hln hsu _ ih =>
    refine .cons ⟨hg, hdb, .inl hm⟩ hi hln (fun a oe cls d pn hz hf => ?_) ih
    refine pss_all fun ⟨fs, dd, vs⟩ => pss_all fun ⟨e1, e2⟩ => ?_
    dsimp only at e2
    subst e1
    subst e2
    exact (hsu a oe pn dd vs fs hz hf).canon
theorem try_post {tak : Tak} {en : En} {H : Hp} {B : Addr → Prop} {E : Ends} {x : Exn} {ρ' : Rho} (htak : ∀ y z b, tak y z = some b → PySem.W.exmOne Γ.X.K (.ref (He.ga Γ.X.K y)) (.ref (He.ga Γ.X.K z)) = some b ∧ (b = true → y = z)) {σ' : L2.St} {H' : Hp} {cls : Value} {d : Option Addr}
    (ok : Ok Γ.X.K en σ' H' ρ') (st : Stab H B H' (Ban en σ' ρ')) (hx : ExAt Γ.X.K H' (Ban en σ' ρ') x cls d) : ∀ (l : List Cl), PostS Γ en H B (tryM tak l x ρ') E → wAsMany Γ.X.K Γ.W E (l.map fun c => (Value.ref (He.ga Γ.X.K c.x), c.i, tsOf Γ.fr Γ.X c)) cls d σ' H'
  | [], p => p σ' H' cls d ok st hx
  | c :: r, p => by
    unfold tryM at p
    obtain ⟨ec, hd⟩ := hx
    cases e0 : tak x.cls c.x with
    | none =>
      rw [e0] at p
      exact p.elim
    | some b =>
      rw [e0] at p
      obtain ⟨t1, t2⟩ := htak _ _ _ e0
      refine ⟨b, by rw [ec]; exact t1, fun hb a ha => ?_, fun hb => ?_⟩
      · subst hb
        dsimp only at p
        split at p
        · exact p.elim
        · rename_i hne
          rcases hd with ⟨e1, _⟩ | ⟨dd, vs, e1, e2, e3⟩
          · rw [e1] at hne
            exact absurd rfl hne
          · refine ⟨(x.fs, dd, vs), ⟨by rw [ec, t2 rfl], e1⟩, en, ρ'.set c.i none, ?_⟩
            unfold suiteM at p
            split at p
            · rename_i hlen
              obtain ⟨ok2, s2⟩ := ok.set_none (i := c.i) (x := some (V.ref a))
              refine ⟨ok2, ⟨List.getElem?_set_self (by rw [ok.len]; exact hlen), e2, RpF.stab ok.bl s2 e3⟩, Γ.X, rfl, fun {σ H B H' B'} bl s ⟨h1, h2, h3⟩ => ⟨h1, s.kp _ _ h2 (fun z => by
                obtain ⟨xs, e⟩ := bl _ z
                rw [h2] at e
                cases e), RpF.stab bl s h3⟩, ?_⟩
              have p2 := PostS.later (Γ := Γ) (st.trans s2) p
              cases e4 : c.h x.fs (ρ'.set c.i none) with
              | stuck =>
                rw [e4] at p2
                exact p2.elim
              | ex y ρ3 =>
                rw [e4] at p2
                exact p2.elim
              | ok f ρ3 =>
                rw [e4] at p2
                intro σ3 H3 ok3 st3
                obtain ⟨ok4, s4⟩ := Ok.set_none (i := c.i) (x := none) ok3
                have z := p2 (σ3.set c.i none) H3 ok4 (st3.trans s4)
                cases f with
                | nx => exact z
                | bk => exact z
                | ct => exact z
                | rt dt => exact fun v rv => z v (rv.stab ok3.bl s4)
            · exact p.elim
      · subst hb
        exact try_post htak ok st ⟨ec, hd⟩ r p
theorem ds_try {tak : Tak} {body : List Stmt} {h₀ : ExceptHandler} {hds : List ExceptHandler} {l : List Cl} {mb : M Fw} (hs : Γ.X.stack = Γ.X.env :: Γ.X.outer) (hf : Γ.X.env.frame = some Γ.X.env.locals) (hN : Γ.X.N.Nodup) (tk : Takes Γ.X Γ.W)
    (htak : ∀ y z b, tak y z = some b → PySem.W.exmOne Γ.X.K (.ref (He.ga Γ.X.K y)) (.ref (He.ga Γ.X.K z)) = some b ∧ (b = true → y = z))
    (hb : ∀ (W : WX) (pn : List (Addr × Obj)) (xe : Value → Shared → Prop), Takes (Γ.X.tr pn xe) W → PassesOwn (model Γ.X.prog Γ.X.w) Γ.X.A Γ.X.env xe → DSs ⟨Γ.X.tr pn xe, W, Γ.J, Γ.hJ, Γ.fr⟩ body mb)
    (hh : HdD Γ (h₀ :: hds) l) : DS Γ (.Try body (h₀ :: hds) [] [] pos) (mTry tak mb l) := by
  refine ⟨_, ps_try_asMany (tb := fun W => canon Γ.fr Γ.X.K W Γ.J mb) hs hf hN tk (fun W pn xe t1 t2 => (hb W pn xe t1 t2).canon) hh.as, fun en σ H ρ E ok j p => ?_⟩
  refine ⟨en, ρ, ok, j, Γ.X, rfl, Γ.hJ, ?_⟩
  unfold mTry at p
  cases e0 : mb ρ with
  | stuck =>
    rw [e0] at p
    exact p
  | ok f ρ' =>
    rw [e0] at p
    exact p
  | ex x ρ' =>
    rw [e0] at p
    exact fun σ' H' cls d ok' st hx => try_post htak ok' st hx l p
end
end DL
set_option Elab.async false
set_option linter.all false
set_option maxRecDepth 100000
/-! The data layer, eleventh part: isinstance, chains, names of the module, items and length of a slot's own list, pairs stored at once, calls with keywords, divmod. -/
namespace DL
open PySem PySem.Spec PyProof.Rows L2

section
variable {Γ : Cn} {e a b c : Expr} {es : List Expr} {pos pos2 p p2 : Pos} {m ma mb mc : M D} {mf mk : M (List D)} {x f : Str}
/-! ### isinstance -/
def D.ty : D → String
  | .non => "NoneType"
  | .bl _ => "bool"
  | .int _ => "int"
  | .str _ => "str"
  | .tup _ => "tuple"
  | .lst _ => "list"
  | .scr _ => "list"
theorem Rp.ty {K : PySem.W.Frag} {H : Hp} {B : Addr → Prop} {d : D} {v : V} (r : Rp K H B d v) : TyX K H v (.type d.ty) := by
  cases d with
  | non =>
    rw [show v = .non from r]
    exact .base .non
  | bl b =>
    rw [show v = .bl b from r]
    exact .base (.bl b)
  | int b =>
    rw [show v = .int b from r]
    exact .base (.int b)
  | str b =>
    rw [show v = .str b from r]
    exact .base (.str b)
  | tup ds =>
    obtain ⟨a, vs, rfl, h, _⟩ := r
    rcases h with (h | ⟨o, h⟩) | ⟨o, _, _, h1, h2, _⟩
    · exact .base (.tup h)
    · exact .fTuple h
    · exact .kTuple h1 h2
  | lst ds =>
    obtain ⟨a, vs, rfl, h, _⟩ := r
    exact .base (.lst h.2)
  | scr ns =>
    obtain ⟨a, rfl, h⟩ := r
    rcases h with ⟨o, h⟩ | ⟨o, _, _, h1, h2, _⟩
    · exact .base (.frz h)
    · exact .kList h1 h2
def isiD (T : String) (d : D) : Option D := (kitB d.ty T).map .bl
theorem de_isi {T : String} {y : Str} (hg : Gl Γ.X "isinstance") (hm : Γ.X.mg "isinstance" = none) (hy : Gl Γ.X y) (my : Γ.X.mg y = none) (by_ : bootBuiltins y = some (.type T)) (he : DE Γ e m)
    (hy1 : y ≠ "__name__" := by decide) (hy2 : (y == ("__debug__" : Str)) = false := by decide)
    (h1 : starEach [e, .Name y p2] Γ.X.env = (false, eval e Γ.X.env) :: starEach [.Name y p2] Γ.X.env := by rfl) (h2 : starEach [.Name y p2] Γ.X.env = (false, eval (.Name y p2) Γ.X.env) :: starEach [] Γ.X.env := by rfl)
    (h3 : (backTo pos (starEach [.Name y p2] Γ.X.env)).any (·.1) = false := by rfl) : DE Γ (.Call (.Name "isinstance" p) [e, .Name y p2] [] pos) (m1 (isiD T) m) := by
  obtain ⟨t, h, q⟩ := he.ex
  refine ⟨_, pe_callB call_isi hg hm (by decide +kernel) (pa_cons h (pa_cons (pe_bltn hy my by_ (v := .ty T) rfl hy1 hy2) pa_nil h2) h1) (by decide) (by decide) h1 h3, fun en σ H ρ Q ok j pp => ?_⟩
  refine q en σ H ρ _ ok j (pp.bind.mono fun d H1 ρ1 _ _ ⟨s1, ok1, p1⟩ v rv => ?_)
  unfold isiD at p1
  cases e0 : kitB d.ty T with
  | none =>
    rw [e0] at p1
    exact p1.elim
  | some k =>
    rw [e0] at p1
    exact ⟨v, .ty T, .type d.ty, .type T, k, rfl, .ty T, rv.ty, kit_ty e0, Post.ret' ok1 p1 _ rfl⟩

/-! ### a < b < c -/
def mChain (f g : D → D → Option D) (ma mb mc : M D) : M D := M.bnd ma fun x => M.bnd mb fun y => M.bnd (M.lift ((f x y).bind asB)) fun k => if k = true then M.bnd mc fun z => M.lift (g y z) else M.ret (.bl false)
theorem chain_post {r r' : R2} {f g : D → D → Option D} {ta tb tc : TE} (rf : R2D Γ.X.K r f) (rg : R2D Γ.X.K r' g)
    (qa : ∀ en σ H ρ (Q : VK), Ok Γ.X.K en σ H ρ → Γ.J σ H (Ban en σ ρ) → Post Γ en σ H (Ban en σ ρ) (ma ρ) (fun d H' ρ' => ∀ v, Rp Γ.X.K H' (Ban en σ ρ') d v → Q v H') → ta σ H Q)
    (qb : ∀ en σ H ρ (Q : VK), Ok Γ.X.K en σ H ρ → Γ.J σ H (Ban en σ ρ) → Post Γ en σ H (Ban en σ ρ) (mb ρ) (fun d H' ρ' => ∀ v, Rp Γ.X.K H' (Ban en σ ρ') d v → Q v H') → tb σ H Q)
    (qc : ∀ en σ H ρ (Q : VK), Ok Γ.X.K en σ H ρ → Γ.J σ H (Ban en σ ρ) → Post Γ en σ H (Ban en σ ρ) (mc ρ) (fun d H' ρ' => ∀ v, Rp Γ.X.K H' (Ban en σ ρ') d v → Q v H') → tc σ H Q)
    (en : En) (σ : L2.St) (H : Hp) (ρ : Rho) (Q : VK) (ok : Ok Γ.X.K en σ H ρ) (j : Γ.J σ H (Ban en σ ρ))
    (pp : Post Γ en σ H (Ban en σ ρ) (mChain f g ma mb mc ρ) (fun d H' ρ' => ∀ v, Rp Γ.X.K H' (Ban en σ ρ') d v → Q v H')) : tChain r r' ta tb tc σ H Q := by
  refine qa en σ H ρ _ ok j (pp.bind.mono fun d H1 ρ1 _ _ ⟨s1, ok1, p1⟩ v rv => ?_)
  have j1 := Γ.hJ ok.bl s1 j
  refine qb en σ H1 ρ1 _ ok1 j1 (p1.bind.mono fun d2 H2 ρ2 _ _ ⟨s2, ok2, p2⟩ v2 rv2 => ?_)
  have j2 := Γ.hJ ok1.bl s2 j1
  cases e0 : f d d2 with
  | none =>
    rw [e0] at p2
    exact p2.elim
  | some z =>
    rw [e0] at p2
    cases z with
    | bl k =>
      refine rf H2 _ v v2 d d2 _ _ (rv.stab ok1.bl s2) rv2 e0 fun w rw' => ⟨k, rw', ?_⟩
      obtain ⟨s3, _, p3⟩ := Post.ret' ok2 (Post.bind (m := M.ret k) p2)
      cases k with
      | true =>
        refine iteT (qc en σ H2 ρ2 _ ok2 j2 ((Post.bind (Post.later s3 p3)).mono fun d3 H3 ρ3 _ _ ⟨s4, ok4, p4⟩ v3 rv3 => ?_))
        cases e1 : g d2 d3 with
        | none =>
          rw [e1] at p4
          exact p4.elim
        | some y =>
          rw [e1] at p4
          exact rg H3 _ v2 v3 d2 d3 y Q (rv2.stab ok2.bl s4) rv3 e1 (Post.ret' ok4 p4)
      | false => exact iteF (Post.ret' ok2 p3 _ rfl)
    | _ => exact p2.elim
theorem de_chain {op op' : CmpOp} {r r' : R2} {f g : D → D → Option D} (ho : OpR Γ.X (compareOp op) r) (ho' : OpR Γ.X (compareOp op') r') (rf : R2D Γ.X.K r f) (rg : R2D Γ.X.K r' g) (ha : DE Γ a ma) (hb : DE Γ b mb) (hc : DE Γ c mc)
    (hm : lastMarks [op, op'] [b, c] = false := by with_unfolding_all rfl) : DE Γ (.Compare a [op, op'] [b, c] pos) (mChain f g ma mb mc) := by
  obtain ⟨ta, h, q⟩ := ha.ex
  obtain ⟨tb, h2, q2⟩ := hb.ex
  obtain ⟨tc, h3, q3⟩ := hc.ex
  exact ⟨_, pe_chain ho ho' h h2 h3 hm, chain_post rf rg q q2 q3⟩
theorem dt_chain {op op' : CmpOp} {r r' : R2} {f g : D → D → Option D} (ho : OpR Γ.X (compareOp op) r) (ho' : OpR Γ.X (compareOp op') r') (rf : R2D Γ.X.K r f) (rg : R2D Γ.X.K r' g) (ha : DE Γ a ma) (hb : DE Γ b mb) (hc : DE Γ c mc)
    (hm : lastMarks [op, op'] [b, c] = false := by with_unfolding_all rfl) : DT Γ (.Compare a [op, op'] [b, c] pos) (mB (mChain f g ma mb mc)) := by
  obtain ⟨ta, h, q⟩ := ha.ex
  obtain ⟨tb, h2, q2⟩ := hb.ex
  obtain ⟨tc, h3, q3⟩ := hc.ex
  refine ⟨_, pt_chain ho ho' h h2 h3 hm, fun en σ H ρ Q ok j pp => ?_⟩
  refine chain_post rf rg q q2 q3 en σ H ρ _ ok j (pp.bind.mono fun d H1 ρ1 _ _ ⟨s1, ok1, p1⟩ v rv => ?_)
  cases d with
  | bl k => exact ⟨k, rv, Post.ret' ok1 p1⟩
  | _ => exact p1.elim

/-! ### names of the module -/
theorem de_glob {u : Value} {v : V} {d : D} (hg : Gl Γ.X x) (hm : Γ.X.mg x = some u) (r : RelV v u) (rd : ∀ H B, Rp Γ.X.K H B d v) (hd : (x == ("__debug__" : Str)) = false := by decide) : DE Γ (.Name x pos) (mC d) :=
  de_c (pe_glob hg hm r hd) rd

/-! ### an item of a slot's list, its length: the list stays the slot's own -/
def getS (i : Nat) (ρ : Rho) : Option D := match ρ[i]? with
  | some (some (_, d)) => some d
  | _ => none
theorem getS_rp {K : PySem.W.Frag} {en : En} {σ : L2.St} {H : Hp} {ρ : Rho} {i : Nat} {d : D} (ok : Ok K en σ H ρ) (h : getS i ρ = some d) : ∃ v, σ[i]? = some (some v) ∧ Rp K H (fun _ => False) d v ∧ ∀ ds, seqOf d = some ds → ∃ a vs, v = .ref a ∧ (SqL K H a vs ∨ SqT K H a vs) ∧ Rps K H (Ban en σ ρ) ds vs ∧ ((∃ xs, d = .tup xs) ↔ (∃ xs, d = .tup xs ∧ SqT K H a vs)) ∧ ((∀ xs, d ≠ .tup xs) → SqL K H a vs) := by
  have no : Stab H (Ban en σ ρ) H (fun _ => False) := ⟨fun _ _ z _ => z, fun _ z _ => z.elim, fun _ z => z⟩
  have key : ∃ v, σ[i]? = some (some v) ∧ Rp K H (fun _ => False) d v ∧ ∀ ds, seqOf d = some ds → ∃ a vs, v = .ref a ∧ Rps K H (Ban en σ ρ) ds vs ∧ (((∃ xs, d = .tup xs) ∧ SqT K H a vs) ∨ ((∀ xs, d ≠ .tup xs) ∧ SqL K H a vs)) := by
    unfold getS at h
    split at h
    · rename_i fl d' e
      cases h
      cases fl with
      | sh =>
        obtain ⟨v, h1, h2⟩ := ok.sh i _ e
        refine ⟨v, h1, h2.stab ok.bl no, fun ds hs => ?_⟩
        cases d with
        | lst xs =>
          cases hs
          obtain ⟨a, vs, e1, e2, e3⟩ := h2
          exact ⟨a, vs, e1, e3, .inr ⟨fun _ z => (by cases z), e2.sq⟩⟩
        | tup xs =>
          cases hs
          obtain ⟨a, vs, e1, e2, e3⟩ := h2
          exact ⟨a, vs, e1, e3, .inl ⟨⟨_, rfl⟩, e2⟩⟩
        | scr ns =>
          cases hs
          obtain ⟨a, e1, e2⟩ := h2
          exact ⟨a, _, e1, Rps.ints ns, .inr ⟨fun _ z => (by cases z), e2.sq⟩⟩
        | _ => cases hs
      | ow =>
        obtain ⟨a, xs, es, h1, rfl, h3, h4, _⟩ := ok.ow i .ow _ (by decide) e
        exact ⟨_, h1, ⟨a, xs, rfl, ⟨fun z => z, h3⟩, Rps.stab ok.bl no h4⟩, fun ds hs => by
          cases hs
          exact ⟨a, xs, rfl, h4, .inr ⟨fun _ z => (by cases z), SqL.of h3⟩⟩⟩
      | io =>
        obtain ⟨a, xs, es, h1, rfl, h3, h4, _⟩ := ok.ow i .io _ (by decide) e
        exact ⟨_, h1, ⟨a, xs, rfl, ⟨fun z => z, h3⟩, Rps.stab ok.bl no h4⟩, fun ds hs => by
          cases hs
          exact ⟨a, xs, rfl, h4, .inr ⟨fun _ z => (by cases z), SqL.of h3⟩⟩⟩
    · cases h
  obtain ⟨v, h1, h2, h3⟩ := key
  refine ⟨v, h1, h2, fun ds hs => ?_⟩
  obtain ⟨a, vs, e1, e2, e3⟩ := h3 ds hs
  rcases e3 with ⟨⟨xs, ex⟩, e3⟩ | ⟨e4, e3⟩
  · exact ⟨a, vs, e1, .inr e3, e2, ⟨fun ⟨ys, z⟩ => ⟨ys, z, e3⟩, fun ⟨ys, z, _⟩ => ⟨ys, z⟩⟩, fun z => absurd ex (z xs)⟩
  · exact ⟨a, vs, e1, .inl e3, e2, ⟨fun ⟨ys, z⟩ => absurd z (e4 ys), fun ⟨ys, z, _⟩ => ⟨ys, z⟩⟩, fun _ => e3⟩
def ixS (i : Nat) (k : D) : M D := fun ρ => match getS i ρ with
  | some d => M.lift (pIx d k) ρ
  | none => .stuck
def mIxV (i : Nat) (mb : M D) : M D := fun ρ => match getS i ρ with
  | some _ => M.bnd mb (ixS i) ρ
  | none => .stuck
theorem de_ixv (i : Nat) {y : Str} (hb : DE Γ b mb) (hs : PlainIx b) (hN : Γ.X.N[i]? = some y := by rfl) (hv : Vis Γ.X.env.scope y := by first | exact Or.inl rfl | exact Or.inr (Or.inl rfl)) (hd : (y == ("__debug__" : Str)) = false := by decide) (hcd : (y == ("__classdict__" : Str)) = false := by decide) :
    DE Γ (.Subscript (.Name y p2) b pos) (mIxV i mb) := by
  obtain ⟨t, h, q⟩ := hb.ex
  refine ⟨_, pe_ix ix_two (pe_var hN hv hd hcd) h hs, fun en σ H ρ Q ok j pp => ?_⟩
  unfold mIxV at pp
  cases e0 : getS i ρ with
  | none =>
    rw [e0] at pp
    exact pp.elim
  | some d0 =>
    rw [e0] at pp
    obtain ⟨v0, e1, _⟩ := getS_rp ok e0
    refine ⟨v0, e1, q en σ H ρ _ ok j ((Post.bind (m := mb) pp).mono fun k H1 ρ1 _ _ ⟨s1, ok1, p1⟩ w rw' => ?_)⟩
    unfold ixS at p1
    cases e2 : getS i ρ1 with
    | none =>
      rw [e2] at p1
      exact p1.elim
    | some d =>
      rw [e2] at p1
      dsimp only at p1
      cases e3 : pIx d k with
      | none =>
        rw [e3] at p1
        exact p1.elim
      | some z =>
        rw [e3] at p1
        obtain ⟨v1, g1, _, g2⟩ := getS_rp ok1 e2
        rw [e1] at g1
        cases g1
        unfold pIx at e3
        cases k with
        | int n =>
          cases e4 : seqOf d with
          | none =>
            dsimp only at e3
            rw [e4] at e3
            cases e3
          | some ds =>
            dsimp only at e3
            rw [e4] at e3
            obtain ⟨a, vs, rfl, g3, g4, _, _⟩ := g2 ds e4
            obtain ⟨u, k1, k2⟩ := atI_rp g4 e3
            rcases g3 with g3 | g3
            · exact .inl ⟨a, vs, n, u, rfl, rw', g3, k1, Post.ret' ok1 p1 u k2⟩
            · exact .inr ⟨a, vs, n, u, rfl, rw', g3, k1, Post.ret' ok1 p1 u k2⟩
        | _ => cases e3
def mLenV (i : Nat) : M D := fun ρ => match (getS i ρ).bind seqOf with
  | some ds => .ok (.int ds.length) ρ
  | none => .stuck
theorem de_lenv (i : Nat) {y : Str} (hg : Gl Γ.X "len") (hm : Γ.X.mg "len" = none) (hN : Γ.X.N[i]? = some y := by rfl) (hv : Vis Γ.X.env.scope y := by first | exact Or.inl rfl | exact Or.inr (Or.inl rfl)) (hd : (y == ("__debug__" : Str)) = false := by decide) (hcd : (y == ("__classdict__" : Str)) = false := by decide)
    (h1 : starEach [.Name y p2] Γ.X.env = (false, eval (.Name y p2) Γ.X.env) :: starEach [] Γ.X.env := by rfl) (h3 : (backTo pos (starEach [] Γ.X.env)).any (·.1) = false := by rfl) : DE Γ (.Call (.Name "len" p) [.Name y p2] [] pos) (mLenV i) := by
  refine ⟨_, pe_callB call_len_seq hg hm (by decide +kernel) (pa_cons (pe_var hN hv hd hcd) pa_nil h1) (by decide) (by decide) h1 h3, fun en σ H ρ Q ok j pp => ?_⟩
  unfold mLenV at pp
  cases e0 : getS i ρ with
  | none =>
    rw [e0] at pp
    exact pp.elim
  | some d =>
    rw [e0] at pp
    obtain ⟨v, e1, _, g⟩ := getS_rp ok e0
    cases e2 : seqOf d with
    | none =>
      rw [Option.bind_some, e2] at pp
      exact pp.elim
    | some ds =>
      rw [Option.bind_some, e2] at pp
      obtain ⟨a, vs, rfl, g3, g4, _, _⟩ := g ds e2
      refine ⟨_, e1, a, vs, rfl, g3, Post.ret' ok pp _ ?_⟩
      rw [g4.length]
      exact rfl

/-! ### x, y = a, b -/
def mPar2 (i j : Nat) (m : M (List D)) : M Fw := M.bnd m fun ds => match ds with
  | [u, v] => M.bnd (setSh i u) fun _ => M.bnd (setSh j v) fun _ => nxt
  | _ => M.stop
def mPar3 (i j l : Nat) (m : M (List D)) : M Fw := M.bnd m fun ds => match ds with
  | [u, v, w] => M.bnd (setSh i u) fun _ => M.bnd (setSh j v) fun _ => M.bnd (setSh l w) fun _ => nxt
  | _ => M.stop
theorem rps2 {K : PySem.W.Frag} {H : Hp} {B : Addr → Prop} {u v : D} {vs : List V} (r : Rps K H B [u, v] vs) : ∃ x y, vs = [x, y] ∧ Rp K H B u x ∧ Rp K H B v y := by
  obtain ⟨x, q, rfl, h1, y, q2, rfl, h2, h3⟩ := r
  exact ⟨x, y, by rw [show q2 = [] from h3], h1, h2⟩
theorem rps3 {K : PySem.W.Frag} {H : Hp} {B : Addr → Prop} {u v w : D} {vs : List V} (r : Rps K H B [u, v, w] vs) : ∃ x y z, vs = [x, y, z] ∧ Rp K H B u x ∧ Rp K H B v y ∧ Rp K H B w z := by
  obtain ⟨x, q, rfl, h1, r2⟩ := r
  obtain ⟨y, z, rfl, h2, h3⟩ := rps2 r2
  exact ⟨x, y, z, rfl, h1, h2, h3⟩
theorem ds_par {i j : Nat} {x y : Str} {px py pt : Pos} {kt k2 pt2} (hc : Γ.X.calm = true) (hN : Γ.X.N.Nodup) (hi : Γ.X.N[i]? = some x) (hj : Γ.X.N[j]? = some y) (hij : i ≠ j)
    (hx : Γ.X.env.scope.names.lookup x = some .local) (hy : Γ.X.env.scope.names.lookup y = some .local) (ha : DA Γ [a, b] mf)
    (hw : swappedStores [.Tuple [.Name x px, .Name y py] kt pt] (.Tuple [a, b] k2 pt2) Γ.X.env = pure (some [x, y]))
    (hs : swapsWithSole [.Tuple [.Name x px, .Name y py] kt pt] (.Tuple [a, b] k2 pt2) pos.line Γ.X.env = pure false := by rfl) :
    DS Γ (.Assign [.Tuple [.Name x px, .Name y py] kt pt] (.Tuple [a, b] k2 pt2) pos) (mPar2 i j mf) := by
  obtain ⟨t, h, q⟩ := ha.ex
  refine ⟨_, ps_par hc hN hi hj hij hx hy h hw hs, fun en σ H ρ E ok jj pp => ?_⟩
  refine q en σ H ρ _ ok jj ((PostX.bindE pp).mono fun ds H1 ρ1 _ _ ⟨s1, ok1, p1⟩ vs rv => ?_)
  match ds, rv, p1 with
  | [u, v], rv, p1 =>
    obtain ⟨x1, y1, rfl, r1, r2⟩ := rps2 rv
    obtain ⟨ok2, s2⟩ := ok1.set_sh (i := i) r1
    obtain ⟨ok3, s3⟩ := ok2.set_sh (i := j) (r2.stab ok1.bl s2)
    exact ⟨x1, y1, rfl, p1 _ H1 ok3 (s2.trans s3)⟩
  | [], _, p1 => exact p1.elim
  | [_], _, p1 => exact p1.elim
  | _ :: _ :: _ :: _, _, p1 => exact p1.elim
theorem ds_par3 {i j l : Nat} {x y z : Str} {px py pz pt : Pos} {kt k2 pt2} (hc : Γ.X.calm = true) (hN : Γ.X.N.Nodup) (hi : Γ.X.N[i]? = some x) (hj : Γ.X.N[j]? = some y) (hl : Γ.X.N[l]? = some z) (hij : i ≠ j) (hil : i ≠ l) (hjl : j ≠ l)
    (hx : Γ.X.env.scope.names.lookup x = some .local) (hy : Γ.X.env.scope.names.lookup y = some .local) (hz : Γ.X.env.scope.names.lookup z = some .local) (ha : DA Γ [a, b, c] mf)
    (hw : swappedStores [.Tuple [.Name x px, .Name y py, .Name z pz] kt pt] (.Tuple [a, b, c] k2 pt2) Γ.X.env = pure (some [x, y, z]))
    (hs : swapsWithSole [.Tuple [.Name x px, .Name y py, .Name z pz] kt pt] (.Tuple [a, b, c] k2 pt2) pos.line Γ.X.env = pure false := by rfl) :
    DS Γ (.Assign [.Tuple [.Name x px, .Name y py, .Name z pz] kt pt] (.Tuple [a, b, c] k2 pt2) pos) (mPar3 i j l mf) := by
  obtain ⟨t, h, q⟩ := ha.ex
  refine ⟨_, ps_par3 hc hN hi hj hl hij hil hjl hx hy hz h hw hs, fun en σ H ρ E ok jj pp => ?_⟩
  refine q en σ H ρ _ ok jj ((PostX.bindE pp).mono fun ds H1 ρ1 _ _ ⟨s1, ok1, p1⟩ vs rv => ?_)
  match ds, rv, p1 with
  | [u, v, w], rv, p1 =>
    obtain ⟨x1, y1, z1, rfl, r1, r2, r3⟩ := rps3 rv
    obtain ⟨ok2, s2⟩ := ok1.set_sh (i := i) r1
    obtain ⟨ok3, s3⟩ := ok2.set_sh (i := j) (r2.stab ok1.bl s2)
    obtain ⟨ok4, s4⟩ := ok3.set_sh (i := l) ((r3.stab ok1.bl s2).stab ok2.bl s3)
    exact ⟨x1, y1, z1, rfl, p1 _ H1 ok4 ((s2.trans s3).trans s4)⟩
  | [], _, p1 => exact p1.elim
  | [_], _, p1 => exact p1.elim
  | [_, _], _, p1 => exact p1.elim
  | _ :: _ :: _ :: _ :: _, _, p1 => exact p1.elim

/-! ### divmod -/
def dmD : List D → Option D
  | [.int i, .int j] => if (decide (0 < j) && divOk j) = true then some (.tup [.int (i / j), .int (i % j)]) else none
  | _ => none
theorem dmD_some {ds : List D} {z : D} (h : dmD ds = some z) : ∃ i j, ds = [.int i, .int j] ∧ 0 < j ∧ j.natAbs.log2 < 9000 ∧ z = .tup [.int (i / j), .int (i % j)] := by
  unfold dmD at h
  split at h
  · split at h
    · rename_i hh
      cases h
      obtain ⟨h1, h2⟩ := Bool.and_eq_true_iff.mp hh
      obtain ⟨_, h3⟩ := Bool.and_eq_true_iff.mp h2
      exact ⟨_, _, rfl, of_decide_eq_true h1, Nat.lt_succ_of_le (Nat.le_of_ble_eq_true h3), rfl⟩
    · cases h
  · cases h
theorem de_divmod (hg : Gl Γ.X "divmod") (hm : Γ.X.mg "divmod" = none) (ha : DA Γ [a, b] mf) (h1 : starEach [a, b] Γ.X.env = (false, eval a Γ.X.env) :: starEach [b] Γ.X.env := by rfl) (h3 : (backTo pos (starEach [b] Γ.X.env)).any (·.1) = false := by rfl) :
    DE Γ (.Call (.Name "divmod" p) [a, b] [] pos) (mMap dmD mf) := by
  obtain ⟨t, h, q⟩ := ha.ex
  refine ⟨_, pe_callB call_divmodW hg hm (by decide +kernel) h (by decide) (by decide) h1 h3, fun en σ H ρ Q ok j pp => ?_⟩
  refine q en σ H ρ _ ok j (pp.bind.mono fun ds H1 ρ1 _ _ ⟨s1, ok1, p1⟩ vs rv => ?_)
  cases e0 : dmD ds with
  | none =>
    rw [e0] at p1
    exact p1.elim
  | some z =>
    rw [e0] at p1
    obtain ⟨i, k, rfl, h4, h5, rfl⟩ := dmD_some e0
    refine ⟨i, k, ints2 rv, ⟨h4, PyProof.noPylong_of_log2 h5⟩, fun ad hd => ?_⟩
    obtain ⟨ok2, s2⟩ := ok1.laid (o := .tup [V.int (i / k), V.int (i % k)]) hd
    exact p1 _ ok2 s2 _ ⟨ad, _, rfl, SqT.of upd_same, _, _, rfl, rfl, _, _, rfl, rfl, rfl⟩
end
end DL
set_option Elab.async false
set_option linter.all false
set_option maxRecDepth 100000
/-! The data layer, twelfth part: calls with keywords, slices, the head's facts about classes of errors, the end of a law. -/
namespace DL
open PySem PySem.Spec PyProof.Rows L2

/-! ### keywords -/
structure DK (Γ : Cn) (kws : List Keyword) (m : M (List D)) : Prop where
  ex : ∃ t, PK Γ.X kws t ∧ ∀ en σ H ρ (Q : List V → Hp → Prop), Ok Γ.X.K en σ H ρ → Γ.J σ H (Ban en σ ρ) → Post Γ en σ H (Ban en σ ρ) (m ρ) (fun ds H' ρ' => ∀ vs, Rps Γ.X.K H' (Ban en σ ρ') ds vs → Q vs H') → t σ H Q
section
variable {Γ : Cn} {e a b c : Expr} {es : List Expr} {pos kpos : Pos} {m : M D} {mf mk : M (List D)} {x f : Str} {nm : Option Str} {kws : List Keyword}
theorem dk_nil : DK Γ [] (M.ret []) := ⟨tNil, pk_nil, fun en σ H ρ Q ok _ p => Post.ret' ok p [] rfl⟩
theorem dk_cons (ha : DE Γ e m) (hr : DK Γ kws mk) : DK Γ (⟨nm, e, kpos⟩ :: kws) (mCons m mk) := by
  obtain ⟨t, h, q⟩ := ha.ex
  obtain ⟨u, g, r⟩ := hr.ex
  refine ⟨tCons t u, pk_cons h g, fun en σ H ρ Q ok j p => ?_⟩
  refine q en σ H ρ _ ok j (p.bind.mono fun d H1 ρ1 _ _ ⟨s1, ok1, p1⟩ v rv => ?_)
  refine r en σ H1 ρ1 _ ok1 (Γ.hJ ok.bl s1 j) (p1.bind.mono fun ds H2 ρ2 _ _ ⟨s2, ok2, p2⟩ vs rvs => ?_)
  exact Post.ret' ok2 p2 _ (Rps.cons (rv.stab ok1.bl s2) rvs)
end
abbrev Fk := List D → List D → Res
/-- a def of the module, called with n values by place and the keywords ks -/
structure FnK (P : Program) (w : World) (K : PySem.W.Frag) (mg : Str → Option Value) (base : Heap) (k : Nat) (x : Str) (n : Nat) (ks : List Str) (G : Fk) : Prop where
  ex : ∃ (fr : Bool) (fd : FuncData) (ps : List Str) (F : Fs) (gD : List D → List D → List D) (g : List Value → List Value → List Value) (gV : List V → List V → List V),
    FnG P w K mg base k (He.ga K x) fd ps (spD K ps.length false fr F) ∧ KBn K fd ps n ks g gV ∧
    ∀ ds es, ds.length = n → es.length = ks.length → G ds es = F (gD ds es) ∧ (gD ds es).length = ps.length ∧ ∀ H B vs zs, Rps K H B ds vs → Rps K H B es zs → Rps K H B (gD ds es) (gV vs zs)
  gm : mg x = some (.ref (He.ga K x))
  kp : PySem.W.keepIn K (.ref (He.ga K x)) = true
abbrev FnKC (Γ : Cn) (k : Nat) (x : Str) (n : Nat) (ks : List Str) (G : Fk) : Prop := FnK Γ.X.prog Γ.X.w Γ.X.K Γ.X.mg Γ.X.base k x n ks G
theorem FnK.mono {P : Program} {w : World} {K : PySem.W.Frag} {mg : Str → Option Value} {base : Heap} {j k : Nat} {x : Str} {n : Nat} {ks : List Str} {G : Fk} (f : FnK P w K mg base j x n ks G) (h : j ≤ k) : FnK P w K mg base k x n ks G := by
  obtain ⟨⟨fr, fd, ps, F, gD, g, gV, h1, h2, h3⟩, h4, h5⟩ := f
  exact ⟨⟨fr, fd, ps, F, gD, g, gV, h1.mono h, h2, h3⟩, h4, h5⟩
def callK (G : Fk) (ds es : List D) : M D := fun ρ => match G ds es with
  | .ok d _ => .ok d ρ
  | .ex x => .ex x ρ
  | .stuck => .stuck
def mCallK (G : Fk) (n nk : Nat) (m mk : M (List D)) : M D := M.bnd m fun ds => M.bnd mk fun es => if ds.length = n ∧ es.length = nk then callK G ds es else M.stop
section
variable {X : Cx} {k n : Nat} {f : Addr} {fd : FuncData} {ps ks : List Str} {sp : Sp} {E : L2.St → XK} {x : Str} {p pos : Pos} {e : Expr} {es : List Expr} {kws : List Keyword} {t tk : TA} {g : List Value → List Value → List Value} {gV : List V → List V → List V}
theorem run_gN {pins : List (Addr × Obj)} {σ : L2.St} {H : Hp} {s : Shared} {Q : VK} {us ws : List Value} {vs zs : List V} (F : FnG X.prog X.w X.K X.mg X.base k f fd ps sp) (hg : X.A.guards = some []) (hr : Room k X.A) (hb : KBn X.K fd ps n ks g gV)
    (hx : PassesAt (L2.CX X.prog X.w) X σ (E σ)) (I : Inv X pins σ H s) (r : Vals vs us) (rz : Vals zs ws) (l1 : vs.length = n) (l2 : zs.length = ks.length) (h : sp (gV vs zs) H Q (E σ)) :
    wpAny (model X.prog X.w) X.A (call (.ref f) us (ks.zip ws)) (EP X pins σ Q) X.xe s := by
  have b := hb.to s us ws I.kIn (r.length.symm.trans l1) (rz.length.symm.trans l2)
  refine wpAny_call (codeAny_mono (F.run X.A X.stack s H _ _ _ Q (E σ) hg hr I.env0 b (hb.rel r rz) h) ?_)
  rintro (q | fl) s' hq
  · exact hx pins H s q s' I hq
  · cases fl with
    | ret u => exact I.after hq
    | next => exact hq.elim
    | brk => exact hq.elim
    | cont => exact hq.elim
theorem pe_callGN (F : FnG X.prog X.w X.K X.mg X.base k f fd ps sp) (hg : X.A.guards = some []) (hr : Room k X.A) (hn : Gl X x) (hm : X.mg x = some (.ref f)) (hk : PySem.W.keepIn X.K (.ref f) = true) (hb : KBn X.K fd ps n ks g gV)
    (hx : ∀ σ, PassesAt (L2.CX X.prog X.w) X σ (E σ)) (ha : PA X (e :: es) t) (hkw : PK X kws tk) (hall : (backToKw pos (keywordEach kws X.env)).all (·.1.isSome) = true := by rfl) (hks : (backToKw pos (keywordEach kws X.env)).filterMap (·.1) = ks := by rfl)
    (hdb : (x == ("__debug__" : Str)) = false := by decide) (he : starEach (e :: es) X.env = (false, eval e X.env) :: starEach es X.env := by rfl)
    (hpl : ((backTo pos (starEach (e :: es) X.env)).any (·.1) || (backToKw pos (keywordEach kws X.env)).any (·.1.isNone)) = false := by rfl) :
    PE X (.Call (.Name x p) (e :: es) kws pos) (fun σ H Q => t σ H fun vs H1 => tk σ H1 fun zs H2 => vs.length = n ∧ zs.length = ks.length ∧ sp (gV vs zs) H2 Q (E σ)) := by
  refine ⟨fun pins s σ H Q I h => wpAny_Call_Name_kw (ld_glob I hn hm ?_ hdb)⟩
  refine PySem.W.callWith_KW (h₀ := X.base) I.ok.mod.kin hk hall (thn (ha.run pos pins s σ H _ I h) ?_) hpl he
  rintro us s1 ⟨vs, H1, I1, r, q⟩
  refine thn (hkw.run pos pins s1 σ H1 _ I1 q) ?_
  rintro ws s2 ⟨zs, H2, I2, rz, l1, l2, q2⟩
  refine ⟨I2.kIn, ?_⟩
  rw [hks]
  exact run_gN F hg hr hb (hx σ) I2 r rz l1 l2 q2
end
section
variable {Γ : Cn}
theorem de_callK {k n nk : Nat} {ks : List Str} {x : Str} {p pos : Pos} {e : Expr} {es : List Expr} {kws : List Keyword} {G : Fk} {m mk : M (List D)} (f : FnKC Γ k x n ks G) (hnk : ks.length = nk) (hg : Γ.X.A.guards = some []) (hr : Room k Γ.X.A) (tk : Takes Γ.X Γ.W) (hn : Gl Γ.X x) (ha : DA Γ (e :: es) m) (hkw : DK Γ kws mk)
    (hall : (backToKw pos (keywordEach kws Γ.X.env)).all (·.1.isSome) = true := by rfl) (hks : (backToKw pos (keywordEach kws Γ.X.env)).filterMap (·.1) = ks := by rfl)
    (hdb : (x == ("__debug__" : Str)) = false := by decide) (he : starEach (e :: es) Γ.X.env = (false, eval e Γ.X.env) :: starEach es Γ.X.env := by rfl)
    (hpl : ((backTo pos (starEach (e :: es) Γ.X.env)).any (·.1) || (backToKw pos (keywordEach kws Γ.X.env)).any (·.1.isNone)) = false := by rfl) : DE Γ (.Call (.Name x p) (e :: es) kws pos) (mCallK G n nk m mk) := by
  obtain ⟨⟨fr, fd, ps, F, gD, g, gV, h1, h2, h6⟩, h3, h4⟩ := f
  obtain ⟨t, ht, q⟩ := ha.ex
  obtain ⟨u, hu, r⟩ := hkw.ex
  refine ⟨_, pe_callGN (E := WE Γ.W) h1 hg hr hn h3 h4 h2 (fun σ => passAt tk σ) ht hu hall hks hdb he hpl, fun en σ H ρ Q ok j p => ?_⟩
  refine q en σ H ρ _ ok j (p.bind.mono fun ds H1 ρ1 _ _ ⟨s1, ok1, p1⟩ vs rv => ?_)
  refine r en σ H1 ρ1 _ ok1 (Γ.hJ ok.bl s1 j) (p1.bind.mono fun es' H2 ρ2 _ _ ⟨s2, ok2, p2⟩ zs rz => ?_)
  split at p2
  · rename_i hl
    obtain ⟨hl1, hl2⟩ := hl
    obtain ⟨g1, g2, g3⟩ := h6 ds es' hl1 (hl2.trans hnk.symm)
    have rr := g3 H2 _ vs zs (Rps.stab ok1.bl s2 rv) rz
    refine ⟨rv.length.symm.trans hl1, (rz.length.symm.trans hl2).trans hnk.symm, gD ds es', Ban en σ ρ2, fun _ => False, by rw [← rr.length]; exact g2, fun _ z => z.elim, ok2.bl, ⟨fun _ z => z, rr⟩, ?_⟩
    unfold callK at p2
    rw [g1] at p2
    cases e1 : F (gD ds es') with
    | ok d o =>
      rw [e1] at p2
      intro v H3 a rd _
      obtain ⟨ok3, s3⟩ := a.ok (Γ := Γ) ok2 (fun _ z => z)
      exact p2 H3 ok3 s3 v (rd.rp ok2.bl)
    | ex x =>
      rw [e1] at p2
      intro cls d H3 a hx
      obtain ⟨ok3, s3⟩ := a.ok (Γ := Γ) ok2 (fun _ z => z)
      exact p2 H3 cls d ok3 s3 hx
    | stuck =>
      rw [e1] at p2
      exact p2.elim
  · exact p2.elim
end

/-- where nothing is promised -/
theorem fng_stuck {P : Program} {w : World} {K : PySem.W.Frag} {mg : Str → Option Value} {base : Heap} {k n : Nat} {f : Addr} {fd : FuncData} {ps : List Str} {io fr : Bool} : FnG P w K mg base k f fd ps (spD K n io fr fun _ => .stuck) :=
  ⟨fun _ _ _ _ h => by
    obtain ⟨_, _, _, _, _, _, _, z⟩ := h
    exact z.elim, fun _ _ _ _ _ _ _ _ _ _ _ _ _ _ h => by
    obtain ⟨_, _, _, _, _, _, _, z⟩ := h
    exact z.elim⟩

/-! ### slices of lists -/
def cutD (ds : List D) (lo hi : Option Int) : List D := (ds.drop (HT.sIx ds.length 0 lo)).take (HT.sIx ds.length ds.length hi - HT.sIx ds.length 0 lo)
structure DP (Γ : Cn) (e : Option Expr) (m : M (Option Int)) : Prop where
  ex : ∃ t, PO Γ.X e t ∧ ∀ en σ H ρ (Q : Option Int → Hp → Prop), Ok Γ.X.K en σ H ρ → Γ.J σ H (Ban en σ ρ) → Post Γ en σ H (Ban en σ ρ) (m ρ) (fun o H' _ => Q o H') → t σ H Q
def asI : D → Option (Option Int)
  | .int i => some (some i)
  | _ => none
section
variable {Γ : Cn} {e : Expr} {lo hi : Option Expr} {pos p2 : Pos} {m : M D} {ml mh : M (Option Int)}
theorem dp_none : DP Γ none (M.ret none) := ⟨_, po_none, fun en σ H ρ Q ok _ p => Post.ret' ok p⟩
theorem dp_some (h : DE Γ e m) : DP Γ (some e) (mMap asI m) := by
  obtain ⟨t, h, q⟩ := h.ex
  refine ⟨_, po_some h, fun en σ H ρ Q ok j p => ?_⟩
  refine q en σ H ρ _ ok j (p.bind.mono fun d H1 ρ1 _ _ ⟨s1, ok1, p1⟩ v rv => ?_)
  cases d with
  | int i => exact ⟨i, rv, Post.ret' ok1 p1⟩
  | _ => exact p1.elim
def mSlice (m : M D) (ml mh : M (Option Int)) : M (List D) := M.bnd m fun d => M.bnd ml fun l => M.bnd mh fun h => M.lift ((seqLst d).map fun ds => cutD ds l h)
where seqLst : D → Option (List D)
  | .lst xs => some xs
  | .scr ns => some (ns.map D.int)
  | _ => none
theorem Rps.cut {K : PySem.W.Frag} {H : Hp} {B : Addr → Prop} {ds : List D} {vs : List V} {l h : Option Int} (r : Rps K H B ds vs) : Rps K H B (cutD ds l h) (cutV vs l h) := by
  unfold cutD cutV
  rw [← r.length]
  exact Rps.take _ (Rps.drop _ r)
theorem df_slice (he : DE Γ e m) (hl : DP Γ lo ml) (hh : DP Γ hi mh) : DF Γ (.Subscript e (.Slice lo hi none p2) pos) (mSlice m ml mh) := by
  obtain ⟨t, h, q⟩ := he.ex
  obtain ⟨tl, h2, q2⟩ := hl.ex
  obtain ⟨th, h3, q3⟩ := hh.ex
  refine df_new (pe_slice sl_list h h2 h3) fun en σ H ρ Q ok j p => ?_
  refine q en σ H ρ _ ok j (p.bind.mono fun d H1 ρ1 _ _ ⟨s1, ok1, p1⟩ v rv => ?_)
  have j1 := Γ.hJ ok.bl s1 j
  refine q2 en σ H1 ρ1 _ ok1 j1 (p1.bind.mono fun l H2 ρ2 _ _ ⟨s2, ok2, p2⟩ => ?_)
  refine q3 en σ H2 ρ2 _ ok2 (Γ.hJ ok1.bl s2 j1) (p2.bind.mono fun u H3 ρ3 _ _ ⟨s3, ok3, p3⟩ => ?_)
  have rv3 := (rv.stab ok1.bl s2).stab ok2.bl s3
  cases d with
  | lst xs =>
    obtain ⟨a, vs, rfl, g1, g2⟩ := rv3
    exact ⟨a, vs, rfl, g1.sq, fun p hp => Post.ret' ok3 p3 _ p hp (Rps.cut g2)⟩
  | scr ns =>
    obtain ⟨a, rfl, g1⟩ := rv3
    exact ⟨a, _, rfl, g1.sq, fun p hp => Post.ret' ok3 p3 _ p hp (Rps.cut (Rps.ints ns))⟩
  | _ => exact p3.elim
end

/-! ### the head: what is seen of the module's end -/
def oexB (K : PySem.W.Frag) (C : Addr) : Bool := (match K.lookup C with
  | some ⟨.type t, _, .cls ⟨_, _, .ref c :: bm, _, _, hd, _, _, _, _, dl⟩, sl⟩ => decide (t = "type") && (decide (c = C) && (PySem.HandSPX.refsVE bm && (hd && (!dl && (match sl with
    | ⟨[_, _, _, _, some (.builtin nid), _]⟩ => decide (nid = "ValueError.__new__")
    | _ => false)))))
  | _ => false) && (decide (PySem.W.findIn K (.ref C) "__setattr__" = some (some (.builtin "object.__setattr__"))) && (decide (PySem.W.subIn K (.ref C) (.type "BaseException") = some true) && (decide (PySem.W.typeIn K (.ref C) = some (.type "type")) && PySem.W.keepIn K (.ref C))))
theorem ban2 {a b : Bool} (h : (a && b) = true) : a = true ∧ b = true := Bool.and_eq_true_iff.mp h
theorem oexB_ok {K : PySem.W.Frag} {C : Addr} (h : oexB K C = true) : OexC K C := by
  obtain ⟨h1, h⟩ := ban2 h
  obtain ⟨h2, h⟩ := ban2 h
  obtain ⟨h3, h⟩ := ban2 h
  obtain ⟨h4, h5⟩ := ban2 h
  refine ⟨?_, of_decide_eq_true h2, of_decide_eq_true h3, of_decide_eq_true h4, h5⟩
  split at h1
  · rename_i t dd nm bs c bm ns qn hd sn sb ab col dl sl e
    obtain ⟨k1, h1⟩ := ban2 h1
    obtain ⟨k2, h1⟩ := ban2 h1
    obtain ⟨k3, h1⟩ := ban2 h1
    obtain ⟨k4, h1⟩ := ban2 h1
    obtain ⟨k5, k6⟩ := ban2 h1
    have e1 := of_decide_eq_true k1
    have e2 := of_decide_eq_true k2
    subst e1
    subst e2
    subst k4
    have e5 : dl = false := by
      cases dl
      · rfl
      · cases k5
    subst e5
    split at k6
    · rename_i a1 a2 a3 a4 nid a5
      have e6 := of_decide_eq_true k6
      subst e6
      exact ⟨_, _, _, _, _, _, _, _, _, _, _, _, _, _, _, e, k3⟩
    · cases k6
  · cases h1
/-- an error class with one field -/
def excB (x f : Str) (K : PySem.W.Frag) : Bool := oexB K (He.ga K x) && (He.eqO (PySem.W.nsIn K mainGlobals x) (some (some (.ref (He.ga K x)))) && (decide (PySem.W.findIn K (.ref (He.ga K x)) "__init__" = some (some (.ref (He.ma K (He.ga K x) "__init__")))) &&
  (decide (PySem.W.typeIn K (.ref (He.ma K (He.ga K x) "__init__")) = some (.type "function")) && (xfB K (He.ga K x) && decide (PySem.W.findIn K (.ref (He.ga K x)) f = some none)))))
theorem excB_ok {P : Program} {w : World} {K : PySem.W.Frag} {mg : Str → Option Value} {base h : Heap} {x f qual : Str} {params : Arguments} {body : List Stmt} {scope : Scope} {fd : FuncData} {N ps : List Str} (X : K.In h) (G : h.Ns mainGlobals mg) (c : excB x f K = true)
    (F : FunD K "__init__" qual params body scope [] [] (He.fAd K (x, some "__init__")) fd) (S : FnScope N ps scope) (h2 : ps.length = 2) (hN : N.length = 2)
    (hb : ∀ cdv A outer s H E, PSs (cxOf CX0 P w K mg base N qual scope (He.fAd K (x, some "__init__")) cdv A outer s H E) body (tOst K f (tVar 0) (tVar 1))) (hB : Binds K fd ps []) : ExC P w K mg base x f := by
  obtain ⟨c1, c⟩ := ban2 c
  obtain ⟨c2, c⟩ := ban2 c
  obtain ⟨c3, c⟩ := ban2 c
  obtain ⟨c4, c⟩ := ban2 c
  obtain ⟨c5, c6⟩ := ban2 c
  have nof := of_decide_eq_true c6
  exact ⟨oexB_ok c1, He.glo_ok X G c2, of_decide_eq_true c3, of_decide_eq_true c4, ⟨fd, ps, ini_ok (oexB_ok c1) nof F S h2 hN hb, hB⟩, xfB_ok c5, nof⟩
/-- the clauses' classes: one takes the other -/
def exmB (l : List (Str × Str × Bool)) (K : PySem.W.Frag) : Bool := l.all fun t => decide (PySem.W.exmOne K (.ref (He.ga K t.1)) (.ref (He.ga K t.2.1)) = some t.2.2)
def takOf (l : List (Str × Str × Bool)) : Tak := fun y z => (l.find? fun t => decide (t.1 = y) && decide (t.2.1 = z)).map fun t => t.2.2
theorem takOf_ok {K : PySem.W.Frag} {l : List (Str × Str × Bool)} (c : exmB l K = true) (hs : (l.all fun t => !t.2.2 || decide (t.1 = t.2.1)) = true) :
    ∀ y z b, takOf l y z = some b → PySem.W.exmOne K (.ref (He.ga K y)) (.ref (He.ga K z)) = some b ∧ (b = true → y = z) := by
  intro y z b h
  unfold takOf at h
  cases e : l.find? fun t => decide (t.1 = y) && decide (t.2.1 = z) with
  | none =>
    rw [e] at h
    cases h
  | some t =>
    rw [e] at h
    cases h
    have q0 : (decide (t.1 = y) && decide (t.2.1 = z)) = true := List.find?_some (p := fun t : Str × Str × Bool => decide (t.1 = y) && decide (t.2.1 = z)) e
    obtain ⟨q1, q2⟩ := ban2 q0
    have m := List.mem_of_find?_eq_some e
    have e1 := of_decide_eq_true q1
    have e2 := of_decide_eq_true q2
    subst e1
    subst e2
    refine ⟨of_decide_eq_true (List.all_eq_true.mp c t m), fun hb => ?_⟩
    have z := List.all_eq_true.mp hs t m
    have hb' : t.2.2 = true := hb
    rw [hb'] at z
    exact of_decide_eq_true z
/-- a tuple of the module of strings -/
theorem strs_rps {K : PySem.W.Frag} {H : Hp} {B : Addr → Prop} : ∀ ss : List Str, Rps K H B (ss.map D.str) ((ss.map He.Dv.str).map (He.Dv.v K))
  | [] => rfl
  | s :: r => ⟨_, _, rfl, rfl, strs_rps r⟩
theorem tup_glob {K : PySem.W.Frag} {x : Str} {ss : List Str} (c : He.tupB K x (ss.map He.Dv.str) = true) (H : Hp) (B : Addr → Prop) : Rp K H B (.tup (ss.map D.str)) (.ref (He.ga K x)) :=
  ⟨_, _, rfl, He.tupB_ok c H, strs_rps ss⟩
abbrev AlX : Type := He.AlD × Bool
def obsX (n : Nat) (fa : List He.Fa) (fn : List He.DefD) (ck : List (PySem.W.Frag → Bool)) (g : Addr → Option Obj) : AlX := (He.obsD fa fn (He.frG g (He.asD g n)), ck.all fun c => c (He.frG g (He.asD g n)))
def SaysX (fa : List He.Fa) (fn : List He.DefD) (ck : List (PySem.W.Frag → Bool)) (K : PySem.W.Frag) : Prop := He.SaysD fa fn K ∧ (ck.all fun c => c K) = true
def hookX (n : Nat) (fa : List He.Fa) (fn : List He.DefD) (ck : List (PySem.W.Frag → Bool)) : PySem.W.Hook where
  α := AlX
  obs := fun s => obsX n fa fn ck s.heap.get?
  val := fun _ => (He.valD fn, true)
  says := fun _ h => ∃ K : PySem.W.Frag, K.In h ∧ SaysX fa fn ck K
  of := fun _ _ e => ⟨_, He.frG_in, congrArg (fun z : AlX => z.1) e, congrArg (fun z : AlX => z.2) e⟩
  keeps := fun _ _ _ ⟨K, hK, c⟩ k => ⟨K, PySem.W.Frag.In.keeps hK k, c⟩
theorem obsX_eq {n : Nat} {fa : List He.Fa} {fn : List He.DefD} {ck : List (PySem.W.Frag → Bool)} {g : Addr → Option Obj} {s : Shared} (h : ∀ a, g a = s.heap.get? a) : obsX n fa fn ck g = (hookX n fa fn ck).obs s := by
  have e : g = s.heap.get? := funext h
  rw [e] <;> rfl
theorem SaysX.ck {fa : List He.Fa} {fn : List He.DefD} {ck : List (PySem.W.Frag → Bool)} {K : PySem.W.Frag} (c : SaysX fa fn ck K) (i : Nat) {f : PySem.W.Frag → Bool} (h : ck[i]? = some f := by rfl) : f K = true :=
  List.all_eq_true.mp c.2 f (List.mem_of_getElem? h)

/-! ### the end -/
/-- of the script alone is anything known; or of nothing -/
def hScript (K : PySem.W.Frag) (a : Addr) (vs : List Value) (ns : List Int) : Hp := fun b => if b = a then (match K.lookup a with
  | none => some (.frz { cls := .type "list", data := .seq vs.toArray } (.lst (ns.map V.int)))
  | some _ => none) else none
theorem hScript_ne {K : PySem.W.Frag} {a b : Addr} {vs : List Value} {ns : List Int} (h : b ≠ a) : hScript K a vs ns b = none := if_neg h
theorem hScript_in {K : PySem.W.Frag} {a : Addr} {o : Obj} {vs : List Value} {ns : List Int} (h : K.lookup a = some o) (b : Addr) : hScript K a vs ns b = none := by
  unfold hScript
  split
  · rw [h]
  · rfl
theorem hScript_at {K : PySem.W.Frag} {a : Addr} {vs : List Value} {ns : List Int} (h : K.lookup a = none) : hScript K a vs ns a = some (.frz { cls := .type "list", data := .seq vs.toArray } (.lst (ns.map V.int))) := by
  unfold hScript
  rw [if_pos rfl, h]
/-- what stays of the heap that an answer leaves -/
theorem law_end {P : Program} {w : World} {K : PySem.W.Frag} {mg mb : Str → Option Value} {k : Nat} {fa a : Addr} {fd : FuncData} {x : Str} {F : Fs} {o : D} {s₁ : Shared} {vs : List Value} {ns : List Int}
    (KX : K.In s₁.heap) (hns : s₁.heap.Ns mainGlobals mg) (hb : s₁.heap.Ns builtinsNs mb) (hbb : ∀ x : Str, x ≠ "__name__" → mb x = bootBuiltins x) (hlim : s₁.heap.NoLimit) (hg : s₁.gens = #[])
    (ha : s₁.heap.get? a = some { cls := .type "list", data := .seq vs.toArray }) (hi : IntsAre vs ns) (hl : ns.length ≤ sizeLine) (hr : Room k callerA)
    (Fn : ∀ base : Heap, K.In base → base.Ns mainGlobals mg → FnG P w K mg base k fa fd [x] (spD K 1 false false F)) (hbind : ∀ (s : Shared) (u : Value), BindsTo s fd ⟨[u], []⟩ [(x, u)]) (hF : F [.scr ns] = .ok (.bl true) o) :
    codeAny (model P w) callerA (.call (.ref fa) ⟨[.ref a], []⟩) (fun r s' => r = .ok (.ret (.bool true)) ∧ OldK s₁.heap s'.heap ∧ s'.os = s₁.os ∧ AllBare s'.gens) s₁ := by
  have rv := vals_ints hi
  have lenV := hi.length
  let H : Hp := hScript K a vs ns
  have hH : ∀ b, H b = none ∨ (b = a ∧ K.lookup a = none ∧ H b = some (.frz { cls := .type "list", data := .seq vs.toArray } (.lst (ns.map V.int)))) := by
    intro b
    by_cases q : b = a
    · by_cases e : K.lookup a = none
      · exact .inr ⟨q, e, by rw [q]; exact hScript_at e⟩
      · obtain ⟨o, e⟩ := Option.ne_none_iff_exists'.mp e
        exact .inl (hScript_in e b)
    · exact .inl (hScript_ne q)
  have hok : HOk P w H s₁.heap := by
    intro b u z
    rcases hH b with e | ⟨rfl, _, e⟩
    · rw [e] at z
      cases z
    · rw [e] at z
      cases z
      exact ⟨ha, by rw [List.length_map]; exact hl, vs, _, rv, ha⟩
  have stay : ∀ {b : Addr} {o : Obj}, s₁.heap.get? b = some o → H b = none → (hidT s₁.heap H).get? b = some o := fun e n => hidT_get e n
  have dict : ∀ {b : Addr} {m : Str → Option Value}, s₁.heap.Ns b m → (hidT s₁.heap H).Ns b m := by
    rintro b m ⟨o, es, ep, e, d, r⟩
    refine ⟨o, es, ep, stay e ?_, d, r⟩
    rcases hH b with z | ⟨rfl, _, _⟩
    · exact z
    · rw [ha] at e
      cases e
      cases d
  have hKb : K.In (hidT s₁.heap H) := by
    intro b o e
    refine stay (KX b o e) ?_
    rcases hH b with z | ⟨rfl, z, _⟩
    · exact z
    · rw [e] at z
      cases z
  have hM : Mod K mg (hidT s₁.heap H) := ⟨hKb, dict hns, ⟨mb, dict hb, hbb⟩, by
    obtain ⟨mc, h1, h2⟩ := hlim
    exact ⟨mc, dict h1, h2⟩⟩
  have e0 : Env0 P w K mg (hidT s₁.heap H) callerA [] s₁ H := ⟨rfl, hM, fun b o e => of_hidT e, Nat.le_of_eq (hidT_size _ _), trivial, fun b hb => absurd (show b ∈ ([] : List Addr) from hb) (by simp), hok, .of_eq hg⟩
  have rs : Rps K H (fun _ => False) [.scr ns] [V.ref a] := by
    refine ⟨_, [], rfl, ⟨a, rfl, ?_⟩, rfl⟩
    cases e : K.lookup a with
    | none => exact .inl ⟨_, hScript_at e⟩
    | some o =>
      have eo := KX a o e
      rw [ha] at eo
      cases eo
      exact .inr ⟨_, vs.toArray, _, e, rfl, rfl, rfl, by rw [List.size_toArray, lenV]; exact hl, by simpa using rv⟩
  have hsp : spD K 1 false false F [.ref a] H (fun v _ => v = .bl true) (fun _ _ _ => False) := by
    refine ⟨[.scr ns], fun _ => False, fun _ => False, rfl, fun _ z => z, fun _ z => z.elim, ⟨fun _ z => z, rs⟩, ?_⟩
    rw [hF]
    exact fun v H' _ rd _ => rd
  refine codeAny_mono ((Fn _ hKb (dict hns)).run callerA [] s₁ H ⟨[.ref a], []⟩ [.ref a] [.ref a] _ _ rfl hr e0 (hbind s₁ (.ref a)) (.cons rfl .nil) hsp) fun r s' h => ?_
  cases r with
  | error e =>
    obtain ⟨_, _, _, _, _, _, _, _, _, _, _, _, z⟩ := h
    exact z.elim
  | ok fl =>
    cases fl with
    | ret u =>
      obtain ⟨v, H', os, bare, un, hok', r', q⟩ := h
      cases q
      cases r'
      refine ⟨rfl, OldK.of_keep fun b o e => ?_, os, bare⟩
      rcases hH b with z | ⟨rfl, _, z⟩
      · exact un.keep b o e z (fun y => nomatch y) (fun y => nomatch y)
      · obtain ⟨e2, _⟩ := hok' b _ (un.frzs b _ _ z)
        rw [ha] at e
        cases e
        exact e2
    | next => exact h.elim
    | brk => exact h.elim
    | cont => exact h.elim
/-- a law, by its def's doing on data -/
theorem walk_data {l : PySem.W.OpenLaw} {n k : Nat} {q : Program} {loose : List Str} {XP : (Str → Option Value) → Heap → Prop} {YP : World → Heap → Prop} {d : DefRec} {x : Str} {F : Fs}
    (hn : l.most = some n) (hn2 : n ≤ sizeLine) (hdf : d.params.defaults = []) (hr : Room k callerA) (hF : ∀ ns : List Int, ns.length ≤ n → ∃ o, F [.scr ns] = .ok (.bl true) o)
    (hd : ∀ (w : World) (mg : Str → Option Value) (fa : Addr) (h : Heap), YP w h → h.Ns mainGlobals mg → mg d.name = some (.ref fa) →
      ∃ (K : PySem.W.Frag) (fd : FuncData), K.In h ∧ (∀ (s : Shared) (u : Value), BindsTo s fd ⟨[u], []⟩ [(x, u)]) ∧ ∀ base : Heap, K.In base → base.Ns mainGlobals mg → FnG l.prog w K mg base k fa fd [x] (spD K 1 false false F)) :
    PySem.W.WalkO q loose XP YP l.row.toRowW d [] (fun f vs => PySem.call f vs) := by
  refine Att.attach_call hn hdf fun w s₀ s₁ mg mb fa o pm cd doc a vs ns G Y ho hdd hcd hmg hobj hints hlen hg => ?_
  obtain ⟨K, fd, KX, hb, hf⟩ := hd w mg fa _ Y G.T.g hmg
  obtain ⟨z, hz⟩ := hF ns hlen
  exact law_end KX G.T.g G.T.b G.T.builtins G.T.nolimit hg hobj hints (Nat.le_trans hlen hn2) hr hf hb hz
end DL
set_option Elab.async false
set_option linter.all false
set_option maxRecDepth 100000
/-! printed by wip/gen.py: each def of the program on data -/
namespace DL
open PySem PySem.Spec PyProof.Rows L2
abbrev top (i : Nat) : Stmt := PySem.Challenge.pw_tickregisters_k61_loops_without_counters.main.body.getD i (.Pass ⟨0, 0, 0, 0⟩)
def inCls (j : Nat) : Stmt → Stmt
  | .ClassDef _ _ _ b _ _ _ _ _ _ _ => b.getD j (.Pass ⟨0, 0, 0, 0⟩)
  | s => s
def exm : List (Str × Str × Bool) := [("InvalidBits", "InvalidBits", true), ("InvalidNumber", "InvalidBits", false), ("InvalidRelation", "InvalidBits", false), ("InvalidBits", "InvalidNumber", false), ("InvalidNumber", "InvalidNumber", true), ("InvalidRelation", "InvalidNumber", false), ("InvalidBits", "InvalidRelation", false), ("InvalidNumber", "InvalidRelation", false), ("InvalidRelation", "InvalidRelation", true)]
def L_RELATIONS : List Str := ["<", "<=", ">", ">=", "!=", "=="]
def T_RELATIONS : D := .tup (L_RELATIONS.map D.str)
def m__law_purse : M Fw := (mSeq (mSet (mC (.int 0)) (setSh 2)) (mSeq (mIf (mB (m2 iLt (mVar 1) (mMap fLen (mCons (mVar 0) (M.ret []))))) (mSet (m2 pIx (mVar 0) (mVar 1)) (setSh 2)) nxt) (mRetF (mLst (mCons (m2 iMod (mMap fInt (mCons (mMap fMax (mCons (m2 iSub (mVar 2) (m2 iPow (mC (.int 10)) (mC (.int 18)))) (mCons (mC (.int 0)) (M.ret [])))) (M.ret []))) (m2 iPow (m2 iPow (mC (.int 10)) (mC (.int 60))) (mC (.int 8)))) (mCons (m2 iMod (mMap fInt (mCons (mVar 2) (M.ret []))) (mC (.int 2147483647))) (mCons (m2 iMul (mC (.int 1000)) (mVar 1)) (M.ret []))))))))
def F__law_purse : Fs := bodyF 3 false m__law_purse
def m_word : M Fw := (mSeq (mIf (mB (m2 pIsN (mVar 1) (mC .non))) (mRet (mVar 0)) nxt) (mRet (m2 iMod (mMap fInt (mCons (mVar 0) (M.ret []))) (m2 iShl (mC (.int 1)) (mVar 1)))))
def F_word : Fs := bodyF 2 false m_word
def m_first_fall : M Fw := (mSeq (mIf (mB (m2 pIsN (mVar 2) (mC .non))) (mRet (mIf (mB (m2 iGt (mVar 1) (mC (.int 0)))) (mC .non) (mC (.int 1)))) nxt) (mSeq (mSet (mCall F_word 2 (mCons (mVar 1) (mCons (mVar 2) (M.ret [])))) (setSh 4)) (mSeq (mIf (mB (m2 pEq (mVar 4) (mC (.int 0)))) (mRet (mC (.int 1))) nxt) (mSeq (mSet (mIf (mB (mVar 3)) (m2 iShl (mC (.int 1)) (m2 iSub (mVar 2) (mC (.int 1)))) (mC (.int 0))) (setSh 5)) (mRet (m1 iNeg (m2 iDiv (m2 iSub (mCall F_word 2 (mCons (m2 iAdd (mVar 0) (mVar 5)) (mCons (mVar 2) (M.ret [])))) (m2 iShl (mC (.int 1)) (mVar 2))) (mVar 4))))))))
def F_first_fall : Fs := bodyF 6 false m_first_fall
def m_twos : M Fw := (mSeq (mSet (mC (.int 0)) (setSh 2)) (mSeq (whileM (mAnd (mB (m2 iLt (mVar 2) (mVar 1))) (mB (m2 pEq (m2 iMod (mMap fInt (mCons (mVar 0) (M.ret []))) (m2 iShl (mC (.int 1)) (m2 iAdd (mVar 2) (mC (.int 1))))) (mC (.int 0))))) (mSet (m2 iAdd (mVar 2) (mC (.int 1))) (setSh 2)) 1000) (mRet (mVar 2))))
def F_twos : Fs := bodyF 3 false m_twos
def m_first_wrong : M Fw := (mSeq (mIf (mB (m2 pEq (mVar 2) (mC (.str "<")))) (mRet (mCall F_first_fall 4 (mCons (mVar 0) (mCons (mVar 1) (mCons (mVar 3) (mCons (mVar 4) (M.ret []))))))) nxt) (mSeq (mIf (mB (m2 pEq (mVar 2) (mC (.str ">")))) (mSeq (mIf (mB (m2 pIsN (mVar 3) (mC .non))) (mRet (mCall F_first_fall 4 (mCons (m1 iNeg (mVar 0)) (mCons (m1 iNeg (mVar 1)) (mCons (mVar 3) (mCons (mVar 4) (M.ret []))))))) nxt) (mRet (mCall F_first_fall 4 (mCons (m2 iSub (m1 iNeg (mC (.int 1))) (mVar 0)) (mCons (m1 iNeg (mVar 1)) (mCons (mVar 3) (mCons (mVar 4) (M.ret [])))))))) nxt) (mSeq (mIf (mB (m2 pEq (mVar 2) (mC (.str "!=")))) (mSeq (mIf (mB (m2 pIsN (mVar 3) (mC .non))) (mRet (mIf (mB (m2 pEq (mVar 1) (mC (.int 0)))) (mC (.int 1)) (mC .non))) nxt) (mRet (m2 iShl (mC (.int 1)) (m2 iSub (mVar 3) (mCall F_twos 2 (mCons (mCall F_word 2 (mCons (mVar 1) (mCons (mVar 3) (M.ret [])))) (mCons (mVar 3) (M.ret [])))))))) nxt) (mRet (mC (.int 0))))))
def F_first_wrong : Fs := bodyF 5 false m_first_wrong
def m_is_integer : M Fw := (mRet (mAndV (m1 (isiD "int") (mVar 0)) (mNotV (m1 (isiD "bool") (mVar 0)))))
def F_is_integer : Fs := bodyF 1 false m_is_integer
def m_look_integers : M Fw := (mFor (mItems (mVar 0)) (setSh 1) (mIf (mNot (mB (mCall F_is_integer 1 (mCons (mVar 1) (M.ret []))))) (mRaise "InvalidNumber" "value" (mVar 1)) nxt))
def F_look_integers : Fs := bodyF 2 false m_look_integers
def m_look_relation : M Fw := (mIf (mOr (mNot (mB (m1 (isiD "str") (mVar 0)))) (mB (m2 pNotIn (mVar 0) (mC T_RELATIONS)))) (mRaise "InvalidRelation" "relation" (mVar 0)) nxt)
def F_look_relation : Fs := bodyF 1 false m_look_relation
def m_equal_passes : M Fw := (mSeq (mIf (mB (m2 pNe (mCall F_word 2 (mCons (m2 iSub (mVar 0) (mVar 1)) (mCons (mVar 3) (M.ret [])))) (mC (.int 0)))) (mRet (mC (.int 0))) nxt) (mRet (mIf (mB (m2 pEq (mCall F_word 2 (mCons (mVar 2) (mCons (mVar 3) (M.ret [])))) (mC (.int 0)))) (mC .non) (mC (.int 1)))))
def F_equal_passes : Fs := bodyF 4 false m_equal_passes
def m_inverse : M Fw := (mSeq (mSet (mC (.int 1)) (setSh 2)) (mSeq (mFor (mMap rng1 (mCons (mVar 1) (M.ret []))) (setSh 3) (mSet (mCall F_word 2 (mCons (m2 iMul (mVar 2) (m2 iSub (mC (.int 2)) (m2 iMul (mVar 0) (mVar 2)))) (mCons (mVar 1) (M.ret [])))) (setSh 2))) (mRet (mVar 2))))
def F_inverse : Fs := bodyF 4 false m_inverse
def m_meeting : M Fw := (mSeq (mIf (mB (m2 pIsN (mVar 2) (mC .non))) (mSeq (mIf (mB (m2 pEq (mVar 0) (mC (.int 0)))) (mRet (mC (.int 0))) nxt) (mSeq (mIf (mOr (mB (m2 pEq (mVar 1) (mC (.int 0)))) (mOr (mB (m2 pNe (m2 iMod (mVar 0) (mVar 1)) (mC (.int 0)))) (mB (m2 iLt (m2 iDiv (mVar 0) (mVar 1)) (mC (.int 0)))))) (mRet (mC .non)) nxt) (mRet (m2 iDiv (mVar 0) (mVar 1))))) nxt) (mSeq (mPar2 3 4 (mCons (mCall F_word 2 (mCons (mVar 0) (mCons (mVar 2) (M.ret [])))) (mCons (mCall F_word 2 (mCons (mVar 1) (mCons (mVar 2) (M.ret [])))) (M.ret [])))) (mSeq (mSet (mCall F_twos 2 (mCons (mVar 4) (mCons (mVar 2) (M.ret [])))) (setSh 5)) (mSeq (mIf (mB (m2 iLt (mCall F_twos 2 (mCons (mVar 3) (mCons (mVar 2) (M.ret [])))) (mVar 5))) (mRet (mC .non)) nxt) (mSeq (mIf (mB (m2 pEq (mVar 5) (mVar 2))) (mRet (mC (.int 0))) nxt) (mRet (mCall F_word 2 (mCons (m2 iMul (m2 iShr (mVar 3) (mVar 5)) (mCall F_inverse 2 (mCons (m2 iShr (mVar 4) (mVar 5)) (mCons (mVar 2) (M.ret []))))) (mCons (m2 iSub (mVar 2) (mVar 5)) (M.ret []))))))))))
def F_meeting : Fs := bodyF 6 false m_meeting
def m_mirrored : M Fw := (mRet (mIf (mB (m2 pIsN (mVar 1) (mC .non))) (m1 iNeg (mVar 0)) (m2 iSub (m2 iSub (m2 iShl (mC (.int 1)) (mVar 1)) (mC (.int 1))) (mVar 0))))
def F_mirrored : Fs := bodyF 2 false m_mirrored
def m_first_within (self : Fs) : M Fw := (mSeq (mIf (mB (m2 pEq (mVar 2) (mC (.int 0)))) (mRet (mC (.int 0))) nxt) (mSeq (mIf (mB (m2 pEq (mVar 0) (mC (.int 0)))) (mRet (mC .non)) nxt) (mSeq (mSet (m1 iNeg (m2 iDiv (m1 iNeg (mVar 2)) (mVar 0))) (setSh 4)) (mSeq (mIf (mB (m2 iLe (m2 iMul (mVar 4) (mVar 0)) (mVar 3))) (mRet (mVar 4)) nxt) (mSeq (mSet (mCall self 4 (mCons (m2 iMod (mVar 1) (mVar 0)) (mCons (mVar 0) (mCons (m2 iMod (m1 iNeg (mVar 3)) (mVar 0)) (mCons (m2 iMod (m1 iNeg (mVar 2)) (mVar 0)) (M.ret [])))))) (setSh 5)) (mSeq (mIf (mB (m2 pIsN (mVar 5) (mC .non))) (mRet (mC .non)) nxt) (mRet (m1 iNeg (m2 iDiv (m1 iNeg (m2 iAdd (mVar 2) (m2 iMul (mVar 1) (mVar 5)))) (mVar 0))))))))))
def R_first_within : Nat → Fs
  | 0 => fun _ => .stuck
  | j + 1 => bodyF 6 false (m_first_within (R_first_within j))
def F_first_within : Fs := R_first_within 150
def m_rising : M Fw := (mSeq (mIf (mB (m2 iGe (mVar 0) (mVar 1))) (mRet (mC (.int 0))) nxt) (mSeq (mIf (mB (m2 pIsN (mVar 3) (mC .non))) (mRet (mIf (mB (m2 iLe (mVar 2) (mC (.int 0)))) (mC .non) (m1 iNeg (m2 iDiv (m2 iSub (mVar 0) (mVar 1)) (mVar 2))))) nxt) (mSeq (mSet (m2 iShl (mC (.int 1)) (mVar 3)) (setSh 4)) (mRet (mCall F_first_within 4 (mCons (m2 iMod (mVar 2) (mVar 4)) (mCons (mVar 4) (mCons (m2 iSub (mVar 1) (mVar 0)) (mCons (m2 iSub (m2 iSub (mVar 4) (mC (.int 1))) (mVar 0)) (M.ret []))))))))))
def F_rising : Fs := bodyF 5 false m_rising
def m_made_passes : M Fw := (mSeq (mIf (mB (m2 pEq (mVar 3) (mC (.str "!=")))) (mRet (mCall F_meeting 3 (mCons (m2 iSub (mVar 1) (mVar 0)) (mCons (mVar 2) (mCons (mVar 4) (M.ret [])))))) nxt) (mSeq (mIf (mB (m2 pEq (mVar 3) (mC (.str "==")))) (mRet (mCall F_equal_passes 4 (mCons (mVar 0) (mCons (mVar 1) (mCons (mVar 2) (mCons (mVar 4) (M.ret []))))))) nxt) (mSeq (mSet (mIf (mAnd (mB (m2 pNotN (mVar 4) (mC .non))) (mB (mVar 5))) (m2 iShl (mC (.int 1)) (m2 iSub (mVar 4) (mC (.int 1)))) (mC (.int 0))) (setSh 6)) (mSeq (mPar2 7 8 (mCons (mCall F_word 2 (mCons (m2 iAdd (mVar 0) (mVar 6)) (mCons (mVar 4) (M.ret [])))) (mCons (mCall F_word 2 (mCons (m2 iAdd (mVar 1) (mVar 6)) (mCons (mVar 4) (M.ret [])))) (M.ret [])))) (mSeq (mIf (mB (m2 pIn (mVar 3) (mTup (mCons (mC (.str ">")) (mCons (mC (.str ">=")) (M.ret [])))))) (mPar3 7 8 2 (mCons (mCall F_mirrored 2 (mCons (mVar 7) (mCons (mVar 4) (M.ret [])))) (mCons (mCall F_mirrored 2 (mCons (mVar 8) (mCons (mVar 4) (M.ret [])))) (mCons (m1 iNeg (mVar 2)) (M.ret []))))) nxt) (mSeq (mIf (mB (m2 pIn (mVar 3) (mTup (mCons (mC (.str "<=")) (mCons (mC (.str ">=")) (M.ret [])))))) (mSeq (mIf (mAnd (mB (m2 pNotN (mVar 4) (mC .non))) (mB (m2 pEq (mVar 8) (m2 iSub (m2 iShl (mC (.int 1)) (mVar 4)) (mC (.int 1)))))) (mRet (mC .non)) nxt) (mAug 8 iAdd (mC (.int 1)))) nxt) (mRet (mCall F_rising 4 (mCons (mVar 7) (mCons (mVar 8) (mCons (mVar 2) (mCons (mVar 4) (M.ret [])))))))))))))
def F_made_passes : Fs := bodyF 9 false m_made_passes
def m_require_bits : M Fw := (mIf (mAnd (mB (m2 pNotN (mVar 0) (mC .non))) (mNot (mAnd (mB (mCall F_is_integer 1 (mCons (mVar 0) (M.ret [])))) (mB (mChain iLe iLe (mC (.int 1)) (mVar 0) (mC (.int 64))))))) (mRaise "InvalidBits" "value" (mVar 0)) nxt)
def F_require_bits : Fs := bodyF 1 false m_require_bits
def m_counter_left_out : M Fw := (mSeq (mDrop (mCall F_require_bits 1 (mCons (mVar 3) (M.ret [])))) (mSeq (mDrop (mCall F_look_integers 1 (mCons (mSh (mLst (mCons (mVar 0) (mCons (mVar 1) (M.ret []))))) (M.ret [])))) (mSeq (mDrop (mCall F_look_relation 1 (mCons (mVar 2) (M.ret [])))) (mSeq (mSet (mCall F_first_wrong 5 (mCons (mVar 0) (mCons (mVar 1) (mCons (mVar 2) (mCons (mVar 3) (mCons (mVar 4) (M.ret []))))))) (setSh 5)) (mSeq (mIf (mB (m2 pIsN (mVar 5) (mC .non))) (mRet (mC .non)) nxt) (mRet (mTup (mCons (mVar 5) (mCons (mCall F_made_passes 6 (mCons (mVar 0) (mCons (m2 iAdd (mVar 0) (m2 iMul (mVar 1) (mVar 5))) (mCons (mVar 1) (mCons (mVar 2) (mCons (mVar 3) (mCons (mVar 4) (M.ret [])))))))) (M.ret []))))))))))
def F_counter_left_out : Fs := bodyF 6 false m_counter_left_out
def G_counter_left_out_bits : Fk := fun ds es => match ds, es with
  | [a0, a1, a2], [e_bits] => F_counter_left_out [a0, a1, a2, e_bits, (.bl false)]
  | _, _ => .stuck
def G_counter_left_out : Fk := fun ds es => match ds, es with
  | [a0, a1, a2], [] => F_counter_left_out [a0, a1, a2, .non, (.bl false)]
  | _, _ => .stuck
def G_counter_left_out_bits_signed : Fk := fun ds es => match ds, es with
  | [a0, a1, a2], [e_bits, e_signed] => F_counter_left_out [a0, a1, a2, e_bits, e_signed]
  | _, _ => .stuck
def m__law_caught : M Fw := (mSeq (mSet (mC .non) (setSh 4)) (mSeq (mTry (takOf exm) (mDrop (mCallK G_counter_left_out_bits 3 1 (mCons (mVar 0) (mCons (mVar 1) (mCons (mVar 2) (M.ret [])))) (mCons (mVar 3) (M.ret [])))) [⟨"InvalidBits", 5, fun fs => (mSet (mSh (mLst (mCons (mC (.str "bits")) (mCons (mField "value" fs) (M.ret []))))) (setSh 4))⟩, ⟨"InvalidNumber", 5, fun fs => (mSet (mSh (mLst (mCons (mC (.str "number")) (mCons (mField "value" fs) (M.ret []))))) (setSh 4))⟩, ⟨"InvalidRelation", 5, fun fs => (mSet (mSh (mLst (mCons (mC (.str "relation")) (mCons (mField "relation" fs) (M.ret []))))) (setSh 4))⟩]) (mRet (mVar 4))))
def F__law_caught : Fs := bodyF 6 false m__law_caught
def m__law_mixed : M Fw := (mSeq (mSet (m2 iMod (mMap fInt (mCons (m2 iAdd (m2 iAdd (m2 iAdd (m2 iMul (mVar 0) (mC (.int 2654435761))) (m2 iMul (m2 iMul (mC (.int 40503)) (mVar 1)) (mVar 1))) (m2 iMul (mC (.int 97)) (mVar 1))) (mC (.int 13))) (M.ret []))) (mC (.int 2147483647))) (setSh 2)) (mRet (m2 iDiv (m2 iMod (mMap fInt (mCons (m2 iAdd (m2 iAdd (m2 iMul (mVar 2) (mVar 2)) (m2 iMul (mC (.int 7)) (mVar 2))) (mC (.int 11))) (M.ret []))) (mC (.int 2147483629))) (mC (.int 3)))))
def F__law_mixed : Fs := bodyF 3 false m__law_mixed
def m__law_draw : M Fw := (mSeq (mIf (mB (m2 iGt (mIxV 0 (mC (.int 0))) (mC (.int 0)))) (mSeq (mSet (m2 iMod (mMap fInt (mCons (mIxV 0 (mC (.int 0))) (M.ret []))) (mVar 1)) (setSh 2)) (mSeq (mSet (m2 iDiv (mIxV 0 (mC (.int 0))) (mVar 1)) (gItem 0 (mC (.int 0)))) (mRet (mVar 2)))) nxt) (mSeq (mSet (m2 iAdd (mIxV 0 (mC (.int 2))) (mC (.int 1))) (gItem 0 (mC (.int 2)))) (mRet (m2 iMod (mMap fInt (mCons (mCall F__law_mixed 2 (mCons (mIxV 0 (mC (.int 1))) (mCons (mIxV 0 (mC (.int 2))) (M.ret [])))) (M.ret []))) (mVar 1)))))
def F__law_draw : Fs := bodyF 3 true m__law_draw
def m__law_refused_right : M Fw := (mSeq (mSet (m2 pIx (mSh (mLst (mCons (mC .non) (mCons (mC (.int 1)) (mCons (mC (.int 64)) (M.ret [])))))) (mCallW F__law_draw 2 0 (mCons (mC (.int 3)) (M.ret [])))) (setSh 1)) (mSeq (mSet (m2 pIx (mSh (mLst (mCons (mC .non) (mCons (mC (.bl true)) (mCons (mC (.str "1")) (mCons (mSh (mLst (mCons (mC (.int 1)) (M.ret [])))) (mCons (mTup (mCons (mC (.int 0)) (M.ret []))) (mCons (mC (.bl false)) (M.ret []))))))))) (mCallW F__law_draw 2 0 (mCons (mC (.int 6)) (M.ret [])))) (setSh 2)) (mSeq (mSet (m2 pIx (mSh (mLst (mCons (mC (.str "=<")) (mCons (mC (.str "")) (mCons (mC (.str "<>")) (mCons (mC .non) (mCons (mC (.int 5)) (mCons (mC (.str "< ")) (mCons (mSh (mLst (mCons (mC (.str "<")) (M.ret [])))) (mCons (mC (.bl true)) (M.ret []))))))))))) (mCallW F__law_draw 2 0 (mCons (mC (.int 8)) (M.ret [])))) (setSh 3)) (mSeq (mSet (m2 pIx (mSh (mLst (mCons (mSh (mLst (mCons (mVar 2) (mCons (mC (.str "x")) (M.ret []))))) (mCons (mSh (mLst (mCons (mC (.int 3)) (mCons (mVar 2) (M.ret []))))) (M.ret []))))) (mCallW F__law_draw 2 0 (mCons (mC (.int 2)) (M.ret [])))) (setSh 4)) (mSeq (mIf (mB (m2 pNe (mMap fStr (mCons (mCall F__law_caught 4 (mCons (m2 pIx (mVar 4) (mC (.int 0))) (mCons (m2 pIx (mVar 4) (mC (.int 1))) (mCons (mVar 3) (mCons (mVar 1) (M.ret [])))))) (M.ret []))) (mMap fStr (mCons (mSh (mLst (mCons (mC (.str "number")) (mCons (mVar 2) (M.ret []))))) (M.ret []))))) (mRet (mC (.bl false))) nxt) (mSeq (mIf (mB (m2 pNe (mMap fStr (mCons (mCall F__law_caught 4 (mCons (mC (.int 3)) (mCons (m1 iNeg (mC (.int 2))) (mCons (mVar 3) (mCons (mVar 1) (M.ret [])))))) (M.ret []))) (mMap fStr (mCons (mSh (mLst (mCons (mC (.str "relation")) (mCons (mVar 3) (M.ret []))))) (M.ret []))))) (mRet (mC (.bl false))) nxt) (mSeq (mSet (m2 pIx (mSh (mLst (mCons (mC (.int 0)) (mCons (mC (.int 65)) (mCons (mC (.bl true)) (mCons (mC (.str "8")) (mCons (m1 iNeg (mC (.int 1))) (mCons (mSh (mLst (mCons (mC (.int 3)) (M.ret [])))) (mCons (m2 iPow (mC (.int 10)) (mC (.int 30))) (M.ret [])))))))))) (mCallW F__law_draw 2 0 (mCons (mC (.int 7)) (M.ret [])))) (setSh 5)) (mRet (m2 pEq (mMap fStr (mCons (mCall F__law_caught 4 (mCons (m2 pIx (mVar 4) (mC (.int 0))) (mCons (m2 pIx (mVar 4) (mC (.int 1))) (mCons (mVar 3) (mCons (mVar 5) (M.ret [])))))) (M.ret []))) (mMap fStr (mCons (mSh (mLst (mCons (mC (.str "bits")) (mCons (mVar 5) (M.ret []))))) (M.ret []))))))))))))
def F__law_refused_right : Fs := bodyF 6 true m__law_refused_right
def m__law_asked : M Fw := (mSeq (mIf (mAnd (mB (m2 pIsN (mVar 3) (mC .non))) (mNot (mB (mVar 4)))) (mRet (mCallK G_counter_left_out 3 0 (mCons (mVar 0) (mCons (mVar 1) (mCons (mVar 2) (M.ret [])))) (M.ret []))) nxt) (mRet (mCallK G_counter_left_out_bits_signed 3 2 (mCons (mVar 0) (mCons (mVar 1) (mCons (mVar 2) (M.ret [])))) (mCons (mVar 3) (mCons (mVar 4) (M.ret []))))))
def F__law_asked : Fs := bodyF 5 false m__law_asked
def m__law_goes_on : M Fw := (mRet (m2 pIx (mSh (mLst (mCons (m2 iLt (mVar 0) (mVar 1)) (mCons (m2 iLe (mVar 0) (mVar 1)) (mCons (m2 iGt (mVar 0) (mVar 1)) (mCons (m2 iGe (mVar 0) (mVar 1)) (mCons (m2 pNe (mVar 0) (mVar 1)) (mCons (m2 pEq (mVar 0) (mVar 1)) (M.ret []))))))))) (mVar 2)))
def F__law_goes_on : Fs := bodyF 3 false m__law_goes_on
def m__law_word : M Fw := (mSeq (mIf (mB (m2 pIsN (mVar 1) (mC .non))) (mRet (mVar 0)) nxt) (mRet (m2 iMod (mMap fInt (mCons (mVar 0) (M.ret []))) (m2 iShl (mC (.int 1)) (mVar 1)))))
def F__law_word : Fs := bodyF 2 false m__law_word
def m__law_seen : M Fw := (mSeq (mSet (mCall F__law_word 2 (mCons (mVar 0) (mCons (mVar 1) (M.ret [])))) (setSh 0)) (mSeq (mIf (mAnd (mB (m2 pNotN (mVar 1) (mC .non))) (mAnd (mB (mVar 2)) (mB (m2 iGe (mVar 0) (m2 iShl (mC (.int 1)) (m2 iSub (mVar 1) (mC (.int 1)))))))) (mRet (m2 iSub (mVar 0) (m2 iShl (mC (.int 1)) (mVar 1)))) nxt) (mRet (mVar 0))))
def F__law_seen : Fs := bodyF 3 false m__law_seen
def m__law_counted : M Fw := (mSeq (mSet (mCall F__law_seen 3 (mCons (mVar 0) (mCons (mVar 4) (mCons (mVar 5) (M.ret []))))) (setSh 6)) (mSeq (mSet (mCall F__law_seen 3 (mCons (m2 iAdd (mVar 0) (m2 iMul (mVar 1) (mVar 2))) (mCons (mVar 4) (mCons (mVar 5) (M.ret []))))) (setSh 7)) (mSeq (mSet (m2 iAdd (m2 iMul (mC (.int 3)) (mVar 1)) (mC (.int 3))) (setSh 8)) (mSeq (mIf (mB (m2 pNotN (mVar 4) (mC .non))) (mSet (m2 iShl (mC (.int 1)) (mVar 4)) (setSh 8)) nxt) (mSeq (mSet (mC (.int 0)) (setSh 9)) (mSeq (whileM (mB (mCall F__law_goes_on 3 (mCons (mVar 6) (mCons (mVar 7) (mCons (mVar 3) (M.ret [])))))) (mSeq (mIf (mB (m2 iGt (mVar 9) (mVar 8))) (mRet (mC .non)) nxt) (mSeq (mSet (mCall F__law_seen 3 (mCons (m2 iAdd (mVar 6) (mVar 2)) (mCons (mVar 4) (mCons (mVar 5) (M.ret []))))) (setSh 6)) (mSet (m2 iAdd (mVar 9) (mC (.int 1))) (setSh 9)))) 1000) (mRet (mVar 9))))))))
def F__law_counted : Fs := bodyF 10 false m__law_counted
def m__law_due : M Fw := (mSeq (mSet (mC (.int 30)) (setSh 5)) (mSeq (mIf (mB (m2 pNotN (mVar 3) (mC .non))) (mSet (m2 iShl (mC (.int 1)) (mVar 3)) (setSh 5)) nxt) (mSeq (mFor (mMap rng1 (mCons (m2 iAdd (mVar 5) (mC (.int 1))) (M.ret []))) (setSh 6) (mSeq (mSet (mCall F__law_counted 6 (mCons (mVar 0) (mCons (mVar 6) (mCons (mVar 1) (mCons (mVar 2) (mCons (mVar 3) (mCons (mVar 4) (M.ret [])))))))) (setSh 7)) (mIf (mB (m2 pNe (mVar 7) (mVar 6))) (mRet (mTup (mCons (mVar 6) (mCons (mVar 7) (M.ret []))))) nxt))) (mRet (mC .non)))))
def F__law_due : Fs := bodyF 8 false m__law_due
def m_passes : M Fw := (mSeq (mDrop (mCall F_require_bits 1 (mCons (mVar 4) (M.ret [])))) (mSeq (mDrop (mCall F_look_integers 1 (mCons (mSh (mLst (mCons (mVar 0) (mCons (mVar 1) (mCons (mVar 2) (M.ret [])))))) (M.ret [])))) (mSeq (mDrop (mCall F_look_relation 1 (mCons (mVar 3) (M.ret [])))) (mRet (mCall F_made_passes 6 (mCons (mVar 0) (mCons (mVar 1) (mCons (mVar 2) (mCons (mVar 3) (mCons (mVar 4) (mCons (mVar 5) (M.ret []))))))))))))
def F_passes : Fs := bodyF 6 false m_passes
def G_passes_bits_signed : Fk := fun ds es => match ds, es with
  | [a0, a1, a2, a3], [e_bits, e_signed] => F_passes [a0, a1, a2, a3, e_bits, e_signed]
  | _, _ => .stuck
def m__law_great_right : M Fw := (mSeq (mSet (m2 iAdd (mC (.int 7)) (mCallW F__law_draw 2 0 (mCons (mC (.int 58)) (M.ret [])))) (setSh 4)) (mSeq (mSet (m2 iShl (mC (.int 1)) (mVar 4)) (setSh 5)) (mSeq (mSet (m2 iSub (m2 iAdd (m2 iMul (mCallW F__law_draw 2 0 (mCons (m2 iPow (mC (.int 10)) (mC (.int 9))) (M.ret []))) (m2 iAdd (m2 iDiv (mVar 5) (m2 iPow (mC (.int 10)) (mC (.int 9)))) (mC (.int 1)))) (mCallW F__law_draw 2 0 (mCons (mC (.int 5)) (M.ret [])))) (mC (.int 2))) (setSh 6)) (mSeq (mSet (m2 iShl (mC (.int 1)) (mCallW F__law_draw 2 0 (mCons (mVar 4) (M.ret [])))) (setSh 7)) (mSeq (mIf (mB (m2 pEq (mCallW F__law_draw 2 0 (mCons (mC (.int 2)) (M.ret []))) (mC (.int 0)))) (mSet (m2 iAdd (m2 pIx (mSh (mLst (mCons (mC (.int 0)) (mCons (mVar 5) (M.ret []))))) (mCallW F__law_draw 2 0 (mCons (mC (.int 2)) (M.ret [])))) (m2 iMul (mCallW F__law_draw 2 0 (mCons (m2 iPow (mC (.int 10)) (mC (.int 9))) (M.ret []))) (m2 pIx (mSh (mLst (mCons (mC (.int 1)) (mCons (m1 iNeg (mC (.int 1))) (M.ret []))))) (mCallW F__law_draw 2 0 (mCons (mC (.int 2)) (M.ret [])))))) (setSh 7)) nxt) (mSeq (mSet (mCall F__law_asked 5 (mCons (mVar 6) (mCons (mVar 7) (mCons (mVar 2) (mCons (mVar 4) (mCons (mVar 3) (M.ret []))))))) (gSeq 2 (gEach (setSh 8) (gEach (setSh 9) gDone)))) (mSeq (mSet (m2 iAdd (mVar 6) (m2 iMul (mVar 8) (mVar 7))) (setSh 10)) (mSeq (mSet (mCallK G_passes_bits_signed 4 2 (mCons (mVar 6) (mCons (mVar 10) (mCons (mVar 7) (mCons (mVar 2) (M.ret []))))) (mCons (mVar 4) (mCons (mVar 3) (M.ret [])))) (setSh 11)) (mSeq (mIf (mOr (mB (m2 pNe (mVar 9) (mVar 11))) (mB (m2 pEq (mVar 9) (mVar 8)))) (mRet (mC (.bl false))) nxt) (mSeq (mSet (mCall F__law_seen 3 (mCons (mVar 6) (mCons (mVar 4) (mCons (mVar 3) (M.ret []))))) (setSh 12)) (mSeq (mSet (mCall F__law_word 2 (mCons (mVar 7) (mCons (mVar 4) (M.ret [])))) (setSh 13)) (mSeq (mSet (m2 iSub (mVar 5) (m2 iMul (m2 iDiv (mVar 5) (mC (.int 2))) (mMap fInt (mCons (mVar 3) (M.ret []))))) (setSh 14)) (mSeq (mIf (mB (m2 pIn (mVar 1) (mTup (mCons (mC (.int 1)) (mCons (mC (.int 3)) (mCons (mC (.int 5)) (M.ret []))))))) (mRet (m2 pEq (mVar 8) (mC (.int 0)))) nxt) (mSeq (mIf (mB (m2 pEq (mVar 1) (mC (.int 4)))) (mSeq (mSet (mCall F__law_word 2 (mCons (m2 iMul (m2 iDiv (mVar 8) (mC (.int 2))) (mVar 7)) (mCons (mVar 4) (M.ret [])))) (setSh 15)) (mRet (mAndV (m2 pEq (mCall F__law_word 2 (mCons (m2 iMul (mVar 8) (mVar 7)) (mCons (mVar 4) (M.ret [])))) (mC (.int 0))) (mOrV (m2 pEq (mVar 8) (mC (.int 1))) (m2 pNe (mVar 15) (mC (.int 0))))))) nxt) (mSeq (mIf (mB (m2 pEq (mVar 1) (mC (.int 2)))) (mSeq (mSet (mCall F__law_word 2 (mCons (m2 iSub (mC (.int 0)) (mVar 7)) (mCons (mVar 4) (M.ret [])))) (setSh 13)) (mSet (m2 iSub (m2 iSub (m2 iMul (mVar 5) (mMap fInt (mCons (mNotV (mVar 3)) (M.ret [])))) (mC (.int 1))) (mVar 12)) (setSh 12))) nxt) (mSeq (mIf (mB (m2 pEq (mVar 13) (mC (.int 0)))) (mRet (m2 pEq (mVar 8) (mC (.int 1)))) nxt) (mRet (mAndV (m2 iLt (m2 iAdd (mVar 12) (m2 iMul (mVar 13) (m2 iSub (mVar 8) (mC (.int 1))))) (mVar 14)) (m2 iGe (m2 iAdd (mVar 12) (m2 iMul (mVar 13) (mVar 8))) (mVar 14))))))))))))))))))))
def F__law_great_right : Fs := bodyF 16 true m__law_great_right
def m__law_right : M Fw := (mSeq (mSet (mCallW F__law_draw 2 0 (mCons (mC (.int 6)) (M.ret []))) (setSh 1)) (mSeq (mSet (m2 pIx (mSh (mLst (mCons (mC (.str "<")) (mCons (mC (.str "<=")) (mCons (mC (.str ">")) (mCons (mC (.str ">=")) (mCons (mC (.str "!=")) (mCons (mC (.str "==")) (M.ret []))))))))) (mVar 1)) (setSh 2)) (mSeq (mSet (m2 pEq (mCallW F__law_draw 2 0 (mCons (mC (.int 2)) (M.ret []))) (mC (.int 1))) (setSh 3)) (mSeq (mSet (m2 pIx (mSh (mLst (mCons (mC .non) (mCons (m2 iAdd (mC (.int 1)) (mCallW F__law_draw 2 0 (mCons (mC (.int 6)) (M.ret [])))) (mCons (m2 iAdd (mC (.int 1)) (mCallW F__law_draw 2 0 (mCons (mC (.int 4)) (M.ret [])))) (M.ret [])))))) (mCallW F__law_draw 2 0 (mCons (mC (.int 3)) (M.ret [])))) (setSh 4)) (mSeq (mPar2 5 6 (mCons (m2 iSub (mCallW F__law_draw 2 0 (mCons (mC (.int 99)) (M.ret []))) (mC (.int 49))) (mCons (m2 iSub (mCallW F__law_draw 2 0 (mCons (mC (.int 25)) (M.ret []))) (mC (.int 12))) (M.ret [])))) (mSeq (mSet (mCall F__law_asked 5 (mCons (mVar 5) (mCons (mVar 6) (mCons (mVar 2) (mCons (mVar 4) (mCons (mVar 3) (M.ret []))))))) (setSh 7)) (mSeq (mIf (mB (m2 pNe (mMap fStr (mCons (mVar 7) (M.ret []))) (mMap fStr (mCons (mCall F__law_due 5 (mCons (mVar 5) (mCons (mVar 6) (mCons (mVar 1) (mCons (mVar 4) (mCons (mVar 3) (M.ret []))))))) (M.ret []))))) (mRet (mC (.bl false))) nxt) (mRet (mCallW F__law_great_right 4 0 (mCons (mVar 1) (mCons (mVar 2) (mCons (mVar 3) (M.ret [])))))))))))))
def F__law_right : Fs := bodyF 8 true m__law_right
def m_law : M Fw := (mSeq (mFor (mMap rng1 (mCons (m2 iAdd (mC (.int 1)) (mMap fMin (mCons (mC (.int 6)) (mCons (mMap fLen (mCons (mVar 0) (M.ret []))) (M.ret []))))) (M.ret []))) (setSh 1) (mSeq (mOwn (mCallF F__law_purse 2 (mCons (mVar 0) (mCons (mVar 1) (M.ret [])))) 2) (mSeq (mFor (mMap rng1 (mCons (mC (.int 4)) (M.ret []))) (setSh 3) (mIf (mNot (mB (mCallW F__law_right 1 2 (M.ret [])))) (mRet (mC (.bl false))) nxt)) (mIf (mNot (mB (mCallW F__law_refused_right 1 2 (M.ret [])))) (mRet (mC (.bl false))) nxt)))) (mSeq (mSet (mSh (mLst (mCons (mCallK G_counter_left_out 3 0 (mCons (mC (.int 0)) (mCons (mC (.int 3)) (mCons (mC (.str "<")) (M.ret [])))) (M.ret [])) (mCons (mCallK G_counter_left_out 3 0 (mCons (mC (.int 0)) (mCons (mC (.int 0)) (mCons (mC (.str "!=")) (M.ret [])))) (M.ret [])) (mCons (mCallK G_counter_left_out_bits 3 1 (mCons (mC (.int 0)) (mCons (mC (.int 4)) (mCons (mC (.str "!=")) (M.ret [])))) (mCons (mC (.int 4)) (M.ret []))) (M.ret [])))))) (setSh 4)) (mRet (mAndV (m2 pEq (mVar 4) (mSh (mLst (mCons (mC .non) (mCons (mTup (mCons (mC (.int 1)) (mCons (mC (.int 0)) (M.ret [])))) (mCons (mTup (mCons (mC (.int 4)) (mCons (mC (.int 0)) (M.ret [])))) (M.ret []))))))) (m2 pEq (mCallK G_counter_left_out_bits 3 1 (mCons (mC (.int 250)) (mCons (mC (.int 3)) (mCons (mC (.str "<")) (M.ret [])))) (mCons (mC (.int 8)) (M.ret []))) (mTup (mCons (mC (.int 2)) (mCons (mC (.int 0)) (M.ret [])))))))))
def F_law : Fs := bodyF 5 false m_law
end DL
set_option Elab.async false
set_option linter.all false
set_option maxRecDepth 100000
/-! printed by wip/gen.py: each def does so -/
namespace DL
open PySem PySem.Spec PyProof.Rows L2
structure Gd (K : PySem.W.Frag) (mg : Str → Option Value) : Prop where
  f_bool : mg "bool" = none
  f_int : mg "int" = none
  f_isinstance : mg "isinstance" = none
  f_len : mg "len" = none
  f_max : mg "max" = none
  f_min : mg "min" = none
  f_range : mg "range" = none
  f_str : mg "str" = none
  i_MOST_BITS : ∃ t, mg "MOST_BITS" = some (.int 64 t)
  t_RELATIONS : mg "RELATIONS" = some (.ref (He.ga K "RELATIONS")) ∧ He.tupB K "RELATIONS" (L_RELATIONS.map He.Dv.str) = true
  kx : exmB exm K = true
theorem hp_of {P : Program} {w : World} {K : PySem.W.Frag} {mg : Str → Option Value} {base : Heap} {N : List Str} {qual : Str} {scope : Scope} {f : Addr} {fr : Bool} (cdv : Value) (A : Around) (outer : List Env) (s : Shared) (H : Hp) (E : XK) :
    PassesOwn (model P w) (cnOf fr P w K mg base N qual scope f cdv A outer s H E).X.A (cnOf fr P w K mg base N qual scope f cdv A outer s H E).X.env (cnOf fr P w K mg base N qual scope f cdv A outer s H E).X.xe := passes_of rfl
section
variable {P : Program} {w : World} {K : PySem.W.Frag} {mg : Str → Option Value} {base : Heap}
abbrev s__law_purse : Stmt := top 28
theorem S__law_purse : FnScope ["_law_cells", "_law_at", "_law_cell"] ["_law_cells", "_law_at"] (defScope s__law_purse) := ⟨rfl, rfl, rfl, by decide +kernel, rfl, by decide +kernel, by decide +kernel⟩
theorem b__law_purse (gd : Gd K mg)   {f : Addr} (cdv : Value) (A : Around) (outer : List Env) (s : Shared) (H : Hp) (E : XK) (hg : A.guards = some []) (hr : Room 0 (A.deeper (envOfC "_law_purse" (defScope s__law_purse) s.heap.objs.size f cdv)))
    (tk : Takes (cnOf true P w K mg base ["_law_cells", "_law_at", "_law_cell"] "_law_purse" (defScope s__law_purse) f cdv A outer s H E).X (cnOf true P w K mg base ["_law_cells", "_law_at", "_law_cell"] "_law_purse" (defScope s__law_purse) f cdv A outer s H E).W) : DSs (cnOf true P w K mg base ["_law_cells", "_law_at", "_law_cell"] "_law_purse" (defScope s__law_purse) f cdv A outer s H E) (defBody s__law_purse) m__law_purse := by
  have S := S__law_purse
  have hS : (cnOf true P w K mg base ["_law_cells", "_law_at", "_law_cell"] "_law_purse" (defScope s__law_purse) f cdv A outer s H E).Any := fun _ _ _ _ h => h
  have hu := hr.units
  exact (dss_cons hS (ds_set 2 S.nd de_int)
    (dss_cons hS (ds_if (dt_cmp op_lt r_lt (dv 1) (de_callB (id := "len") call_len rl_len (by rfl) gd.f_len (by decide +kernel) (da_cons (dv 0) da_nil)) (nomark _)) (dss_one (ds_set 2 S.nd (de_ix (dv 0) (dv 1) (fun _ _ => rfl)))) dss_nil)
    (dss_one (ds_retF (by rfl) (df_lst (da_cons (de_op op_modN r_mod (de_callTy call_int1 rl_int (by rfl) gd.f_int (by decide +kernel) (da_cons (de_callB (id := "max") (call_max2 rfl) rl_max (by rfl) gd.f_max (by decide +kernel) (da_cons (de_op op_sub r_sub (dv 2) (de_op op_powX r_pow de_int de_int)) (da_cons de_int da_nil))) da_nil)) (de_op op_powX r_pow (de_op op_powX r_pow de_int de_int) de_int)) (da_cons (de_op op_modN r_mod (de_callTy call_int1 rl_int (by rfl) gd.f_int (by decide +kernel) (da_cons (dv 2) da_nil)) de_int) (da_cons (de_op op_mulX r_mul de_int (dv 1)) da_nil))))))))
theorem fn__law_purse (gd : Gd K mg)  {fd : FuncData} (F : FunD K "_law_purse" "_law_purse" (defArgs s__law_purse) (defBody s__law_purse) (defScope s__law_purse) [] [] (He.ga K "_law_purse") fd) (gm : mg "_law_purse" = some (.ref (He.ga K "_law_purse"))) : Fn P w K mg base 1 "_law_purse" 2 false true F__law_purse :=
  ⟨⟨fd, ["_law_cells", "_law_at"], rfl, fn_mk (NN := ["_law_cells", "_law_at", "_law_cell"]) F S__law_purse fun cdv A outer s H E hg hr tk => b__law_purse gd  cdv A outer s H E hg hr tk, F.bindsN fun _ _ _ _ _ _ us hl => match us, hl with | [_, _], _ => rfl⟩, gm, F.kp⟩
abbrev s_word : Stmt := top 9
theorem S_word : FnScope ["number", "bits"] ["number", "bits"] (defScope s_word) := ⟨rfl, rfl, rfl, by decide +kernel, rfl, by decide +kernel, by decide +kernel⟩
theorem b_word (gd : Gd K mg)   {f : Addr} (cdv : Value) (A : Around) (outer : List Env) (s : Shared) (H : Hp) (E : XK) (hg : A.guards = some []) (hr : Room 0 (A.deeper (envOfC "word" (defScope s_word) s.heap.objs.size f cdv)))
    (tk : Takes (cnOf false P w K mg base ["number", "bits"] "word" (defScope s_word) f cdv A outer s H E).X (cnOf false P w K mg base ["number", "bits"] "word" (defScope s_word) f cdv A outer s H E).W) : DSs (cnOf false P w K mg base ["number", "bits"] "word" (defScope s_word) f cdv A outer s H E) (defBody s_word) m_word := by
  have S := S_word
  have hS : (cnOf false P w K mg base ["number", "bits"] "word" (defScope s_word) f cdv A outer s H E).Any := fun _ _ _ _ h => h
  have hu := hr.units
  exact (dss_cons hS (ds_if (dt_cmp op_isN r_isN (dv 1) de_non (nomark _)) (dss_one (ds_ret (by rfl) (dv 0))) dss_nil)
    (dss_one (ds_ret (by rfl) (de_op op_modN r_mod (de_callTy call_int1 rl_int (by rfl) gd.f_int (by decide +kernel) (da_cons (dv 0) da_nil)) (de_op op_shlW r_shl de_int (dv 1))))))
theorem fn_word (gd : Gd K mg)  {fd : FuncData} (F : FunD K "word" "word" (defArgs s_word) (defBody s_word) (defScope s_word) [] [] (He.ga K "word") fd) (gm : mg "word" = some (.ref (He.ga K "word"))) : Fn P w K mg base 1 "word" 2 false false F_word :=
  ⟨⟨fd, ["number", "bits"], rfl, fn_mk (NN := ["number", "bits"]) F S_word fun cdv A outer s H E hg hr tk => b_word gd  cdv A outer s H E hg hr tk, F.bindsN fun _ _ _ _ _ _ us hl => match us, hl with | [_, _], _ => rfl⟩, gm, F.kp⟩
abbrev s_first_fall : Stmt := top 23
theorem S_first_fall : FnScope ["begin", "step", "bits", "signed", "pace", "more"] ["begin", "step", "bits", "signed"] (defScope s_first_fall) := ⟨rfl, rfl, rfl, by decide +kernel, rfl, by decide +kernel, by decide +kernel⟩
theorem b_first_fall (gd : Gd K mg)  (c_word : Fn P w K mg base 1 "word" 2 false false F_word) {f : Addr} (cdv : Value) (A : Around) (outer : List Env) (s : Shared) (H : Hp) (E : XK) (hg : A.guards = some []) (hr : Room 1 (A.deeper (envOfC "first_fall" (defScope s_first_fall) s.heap.objs.size f cdv)))
    (tk : Takes (cnOf false P w K mg base ["begin", "step", "bits", "signed", "pace", "more"] "first_fall" (defScope s_first_fall) f cdv A outer s H E).X (cnOf false P w K mg base ["begin", "step", "bits", "signed", "pace", "more"] "first_fall" (defScope s_first_fall) f cdv A outer s H E).W) : DSs (cnOf false P w K mg base ["begin", "step", "bits", "signed", "pace", "more"] "first_fall" (defScope s_first_fall) f cdv A outer s H E) (defBody s_first_fall) m_first_fall := by
  have S := S_first_fall
  have hS : (cnOf false P w K mg base ["begin", "step", "bits", "signed", "pace", "more"] "first_fall" (defScope s_first_fall) f cdv A outer s H E).Any := fun _ _ _ _ h => h
  have hu := hr.units
  exact (dss_cons hS (ds_if (dt_cmp op_isN r_isN (dv 2) de_non (nomark _)) (dss_one (ds_ret (by rfl) (de_ifExp (dt_cmp op_gt r_gt (dv 1) de_int (nomark _)) de_non de_int))) dss_nil)
    (dss_cons hS (ds_set 4 S.nd (de_call c_word hg (hr.mono (by decide)) tk (by rfl) (da_cons (dv 1) (da_cons (dv 2) da_nil))))
    (dss_cons hS (ds_if (dt_cmp (op_eq2 hu) r_eq (dv 4) de_int (nomark _)) (dss_one (ds_ret (by rfl) de_int)) dss_nil)
    (dss_cons hS (ds_set 5 S.nd (de_ifExp (dt_val (dv 3)) (de_op op_shlW r_shl de_int (de_op op_sub r_sub (dv 2) de_int)) de_int))
    (dss_one (ds_ret (by rfl) (de_un un_neg r_neg (de_op op_divZ r_div (de_op op_sub r_sub (de_call c_word hg (hr.mono (by decide)) tk (by rfl) (da_cons (de_op op_add r_add (dv 0) (dv 5)) (da_cons (dv 2) da_nil))) (de_op op_shlW r_shl de_int (dv 2))) (dv 4)))))))))
theorem fn_first_fall (gd : Gd K mg) (c_word : Fn P w K mg base 1 "word" 2 false false F_word) {fd : FuncData} (F : FunD K "first_fall" "first_fall" (defArgs s_first_fall) (defBody s_first_fall) (defScope s_first_fall) [] [] (He.ga K "first_fall") fd) (gm : mg "first_fall" = some (.ref (He.ga K "first_fall"))) : Fn P w K mg base 2 "first_fall" 4 false false F_first_fall :=
  ⟨⟨fd, ["begin", "step", "bits", "signed"], rfl, fn_mk (NN := ["begin", "step", "bits", "signed", "pace", "more"]) F S_first_fall fun cdv A outer s H E hg hr tk => b_first_fall gd c_word cdv A outer s H E hg hr tk, F.bindsN fun _ _ _ _ _ _ us hl => match us, hl with | [_, _, _, _], _ => rfl⟩, gm, F.kp⟩
abbrev s_twos : Stmt := top 10
theorem S_twos : FnScope ["number", "bits", "count"] ["number", "bits"] (defScope s_twos) := ⟨rfl, rfl, rfl, by decide +kernel, rfl, by decide +kernel, by decide +kernel⟩
theorem b_twos (gd : Gd K mg)   {f : Addr} (cdv : Value) (A : Around) (outer : List Env) (s : Shared) (H : Hp) (E : XK) (hg : A.guards = some []) (hr : Room 0 (A.deeper (envOfC "twos" (defScope s_twos) s.heap.objs.size f cdv)))
    (tk : Takes (cnOf false P w K mg base ["number", "bits", "count"] "twos" (defScope s_twos) f cdv A outer s H E).X (cnOf false P w K mg base ["number", "bits", "count"] "twos" (defScope s_twos) f cdv A outer s H E).W) : DSs (cnOf false P w K mg base ["number", "bits", "count"] "twos" (defScope s_twos) f cdv A outer s H E) (defBody s_twos) m_twos := by
  have S := S_twos
  have hS : (cnOf false P w K mg base ["number", "bits", "count"] "twos" (defScope s_twos) f cdv A outer s H E).Any := fun _ _ _ _ h => h
  have hu := hr.units
  exact (dss_cons hS (ds_set 2 S.nd de_int)
    (dss_cons hS (ds_while 1000 hS (hp_of cdv A outer s H E) (dw_and (dt_cmp op_lt r_lt (dv 2) (dv 1) (nomark _)) (dw_and1 (dt_cmp (op_eq2 hu) r_eq (de_op op_modN r_mod (de_callTy call_int1 rl_int (by rfl) gd.f_int (by decide +kernel) (da_cons (dv 0) da_nil)) (de_op op_shlW r_shl de_int (de_op op_add r_add (dv 2) de_int))) de_int (nomark _)))).dt (dss_one (ds_set 2 S.nd (de_op op_add r_add (dv 2) de_int))))
    (dss_one (ds_ret (by rfl) (dv 2)))))
theorem fn_twos (gd : Gd K mg)  {fd : FuncData} (F : FunD K "twos" "twos" (defArgs s_twos) (defBody s_twos) (defScope s_twos) [] [] (He.ga K "twos") fd) (gm : mg "twos" = some (.ref (He.ga K "twos"))) : Fn P w K mg base 1 "twos" 2 false false F_twos :=
  ⟨⟨fd, ["number", "bits"], rfl, fn_mk (NN := ["number", "bits", "count"]) F S_twos fun cdv A outer s H E hg hr tk => b_twos gd  cdv A outer s H E hg hr tk, F.bindsN fun _ _ _ _ _ _ us hl => match us, hl with | [_, _], _ => rfl⟩, gm, F.kp⟩
abbrev s_first_wrong : Stmt := top 24
theorem S_first_wrong : FnScope ["begin", "step", "relation", "bits", "signed"] ["begin", "step", "relation", "bits", "signed"] (defScope s_first_wrong) := ⟨rfl, rfl, rfl, by decide +kernel, rfl, by decide +kernel, by decide +kernel⟩
theorem b_first_wrong (gd : Gd K mg)  (c_first_fall : Fn P w K mg base 2 "first_fall" 4 false false F_first_fall) (c_twos : Fn P w K mg base 1 "twos" 2 false false F_twos) (c_word : Fn P w K mg base 1 "word" 2 false false F_word) {f : Addr} (cdv : Value) (A : Around) (outer : List Env) (s : Shared) (H : Hp) (E : XK) (hg : A.guards = some []) (hr : Room 2 (A.deeper (envOfC "first_wrong" (defScope s_first_wrong) s.heap.objs.size f cdv)))
    (tk : Takes (cnOf false P w K mg base ["begin", "step", "relation", "bits", "signed"] "first_wrong" (defScope s_first_wrong) f cdv A outer s H E).X (cnOf false P w K mg base ["begin", "step", "relation", "bits", "signed"] "first_wrong" (defScope s_first_wrong) f cdv A outer s H E).W) : DSs (cnOf false P w K mg base ["begin", "step", "relation", "bits", "signed"] "first_wrong" (defScope s_first_wrong) f cdv A outer s H E) (defBody s_first_wrong) m_first_wrong := by
  have S := S_first_wrong
  have hS : (cnOf false P w K mg base ["begin", "step", "relation", "bits", "signed"] "first_wrong" (defScope s_first_wrong) f cdv A outer s H E).Any := fun _ _ _ _ h => h
  have hu := hr.units
  exact (dss_cons hS (ds_if (dt_cmp (op_eq2 hu) r_eq (dv 2) de_str (nomark _)) (dss_one (ds_ret (by rfl) (de_call c_first_fall hg (hr.mono (by decide)) tk (by rfl) (da_cons (dv 0) (da_cons (dv 1) (da_cons (dv 3) (da_cons (dv 4) da_nil))))))) dss_nil)
    (dss_cons hS (ds_if (dt_cmp (op_eq2 hu) r_eq (dv 2) de_str (nomark _)) (dss_cons hS (ds_if (dt_cmp op_isN r_isN (dv 3) de_non (nomark _)) (dss_one (ds_ret (by rfl) (de_call c_first_fall hg (hr.mono (by decide)) tk (by rfl) (da_cons (de_un un_neg r_neg (dv 0)) (da_cons (de_un un_neg r_neg (dv 1)) (da_cons (dv 3) (da_cons (dv 4) da_nil))))))) dss_nil)
    (dss_one (ds_ret (by rfl) (de_call c_first_fall hg (hr.mono (by decide)) tk (by rfl) (da_cons (de_op op_sub r_sub (de_un un_neg r_neg de_int) (dv 0)) (da_cons (de_un un_neg r_neg (dv 1)) (da_cons (dv 3) (da_cons (dv 4) da_nil)))))))) dss_nil)
    (dss_cons hS (ds_if (dt_cmp (op_eq2 hu) r_eq (dv 2) de_str (nomark _)) (dss_cons hS (ds_if (dt_cmp op_isN r_isN (dv 3) de_non (nomark _)) (dss_one (ds_ret (by rfl) (de_ifExp (dt_cmp (op_eq2 hu) r_eq (dv 1) de_int (nomark _)) de_int de_non))) dss_nil)
    (dss_one (ds_ret (by rfl) (de_op op_shlW r_shl de_int (de_op op_sub r_sub (dv 3) (de_call c_twos hg (hr.mono (by decide)) tk (by rfl) (da_cons (de_call c_word hg (hr.mono (by decide)) tk (by rfl) (da_cons (dv 1) (da_cons (dv 3) da_nil))) (da_cons (dv 3) da_nil)))))))) dss_nil)
    (dss_one (ds_ret (by rfl) de_int)))))
theorem fn_first_wrong (gd : Gd K mg) (c_first_fall : Fn P w K mg base 2 "first_fall" 4 false false F_first_fall) (c_twos : Fn P w K mg base 1 "twos" 2 false false F_twos) (c_word : Fn P w K mg base 1 "word" 2 false false F_word) {fd : FuncData} (F : FunD K "first_wrong" "first_wrong" (defArgs s_first_wrong) (defBody s_first_wrong) (defScope s_first_wrong) [] [] (He.ga K "first_wrong") fd) (gm : mg "first_wrong" = some (.ref (He.ga K "first_wrong"))) : Fn P w K mg base 3 "first_wrong" 5 false false F_first_wrong :=
  ⟨⟨fd, ["begin", "step", "relation", "bits", "signed"], rfl, fn_mk (NN := ["begin", "step", "relation", "bits", "signed"]) F S_first_wrong fun cdv A outer s H E hg hr tk => b_first_wrong gd c_first_fall c_twos c_word cdv A outer s H E hg hr tk, F.bindsN fun _ _ _ _ _ _ us hl => match us, hl with | [_, _, _, _, _], _ => rfl⟩, gm, F.kp⟩
abbrev s_is_integer : Stmt := top 7
theorem S_is_integer : FnScope ["thing"] ["thing"] (defScope s_is_integer) := ⟨rfl, rfl, rfl, by decide +kernel, rfl, by decide +kernel, by decide +kernel⟩
theorem b_is_integer (gd : Gd K mg)   {f : Addr} (cdv : Value) (A : Around) (outer : List Env) (s : Shared) (H : Hp) (E : XK) (hg : A.guards = some []) (hr : Room 0 (A.deeper (envOfC "is_integer" (defScope s_is_integer) s.heap.objs.size f cdv)))
    (tk : Takes (cnOf false P w K mg base ["thing"] "is_integer" (defScope s_is_integer) f cdv A outer s H E).X (cnOf false P w K mg base ["thing"] "is_integer" (defScope s_is_integer) f cdv A outer s H E).W) : DSs (cnOf false P w K mg base ["thing"] "is_integer" (defScope s_is_integer) f cdv A outer s H E) (defBody s_is_integer) m_is_integer := by
  have S := S_is_integer
  have hS : (cnOf false P w K mg base ["thing"] "is_integer" (defScope s_is_integer) f cdv A outer s H E).Any := fun _ _ _ _ h => h
  have hu := hr.units
  exact (dss_one (ds_ret (by rfl) (de_and (de_isi (by rfl) gd.f_isinstance (by rfl) gd.f_int (by decide +kernel) (dv 0)) (de_one (de_not (de_isi (by rfl) gd.f_isinstance (by rfl) gd.f_bool (by decide +kernel) (dv 0)))))))
theorem fn_is_integer (gd : Gd K mg)  {fd : FuncData} (F : FunD K "is_integer" "is_integer" (defArgs s_is_integer) (defBody s_is_integer) (defScope s_is_integer) [] [] (He.ga K "is_integer") fd) (gm : mg "is_integer" = some (.ref (He.ga K "is_integer"))) : Fn P w K mg base 1 "is_integer" 1 false false F_is_integer :=
  ⟨⟨fd, ["thing"], rfl, fn_mk (NN := ["thing"]) F S_is_integer fun cdv A outer s H E hg hr tk => b_is_integer gd  cdv A outer s H E hg hr tk, F.bindsN fun _ _ _ _ _ _ us hl => match us, hl with | [_], _ => rfl⟩, gm, F.kp⟩
abbrev s_look_integers : Stmt := top 14
theorem S_look_integers : FnScope ["things", "thing"] ["things"] (defScope s_look_integers) := ⟨rfl, rfl, rfl, by decide +kernel, rfl, by decide +kernel, by decide +kernel⟩
theorem b_look_integers (gd : Gd K mg)  (c_is_integer : Fn P w K mg base 1 "is_integer" 1 false false F_is_integer) (e_InvalidNumber : ExC P w K mg base "InvalidNumber" "value") {f : Addr} (cdv : Value) (A : Around) (outer : List Env) (s : Shared) (H : Hp) (E : XK) (hg : A.guards = some []) (hr : Room 2 (A.deeper (envOfC "look_integers" (defScope s_look_integers) s.heap.objs.size f cdv)))
    (tk : Takes (cnOf false P w K mg base ["things", "thing"] "look_integers" (defScope s_look_integers) f cdv A outer s H E).X (cnOf false P w K mg base ["things", "thing"] "look_integers" (defScope s_look_integers) f cdv A outer s H E).W) : DSs (cnOf false P w K mg base ["things", "thing"] "look_integers" (defScope s_look_integers) f cdv A outer s H E) (defBody s_look_integers) m_look_integers := by
  have S := S_look_integers
  have hS : (cnOf false P w K mg base ["things", "thing"] "look_integers" (defScope s_look_integers) f cdv A outer s H E).Any := fun _ _ _ _ h => h
  have hu := hr.units
  exact (dss_one (ds_for hS (hp_of cdv A outer s H E) (by rfl) (di_seq (dv 0)) (dg_name 1 S.nd) (dss_one (ds_if (dt_not (dt_val (de_call c_is_integer hg (hr.mono (by decide)) tk (by rfl) (da_cons (dv 1) da_nil)))) (dss_one (ds_raise e_InvalidNumber (by rfl) tk (hr.mono (by decide)) (by rfl) (dv 1))) dss_nil))))
theorem fn_look_integers (gd : Gd K mg) (c_is_integer : Fn P w K mg base 1 "is_integer" 1 false false F_is_integer) (e_InvalidNumber : ExC P w K mg base "InvalidNumber" "value") {fd : FuncData} (F : FunD K "look_integers" "look_integers" (defArgs s_look_integers) (defBody s_look_integers) (defScope s_look_integers) [] [] (He.ga K "look_integers") fd) (gm : mg "look_integers" = some (.ref (He.ga K "look_integers"))) : Fn P w K mg base 3 "look_integers" 1 false false F_look_integers :=
  ⟨⟨fd, ["things"], rfl, fn_mk (NN := ["things", "thing"]) F S_look_integers fun cdv A outer s H E hg hr tk => b_look_integers gd c_is_integer e_InvalidNumber cdv A outer s H E hg hr tk, F.bindsN fun _ _ _ _ _ _ us hl => match us, hl with | [_], _ => rfl⟩, gm, F.kp⟩
abbrev s_look_relation : Stmt := top 15
theorem S_look_relation : FnScope ["relation"] ["relation"] (defScope s_look_relation) := ⟨rfl, rfl, rfl, by decide +kernel, rfl, by decide +kernel, by decide +kernel⟩
theorem b_look_relation (gd : Gd K mg)  (e_InvalidRelation : ExC P w K mg base "InvalidRelation" "relation") {f : Addr} (cdv : Value) (A : Around) (outer : List Env) (s : Shared) (H : Hp) (E : XK) (hg : A.guards = some []) (hr : Room 2 (A.deeper (envOfC "look_relation" (defScope s_look_relation) s.heap.objs.size f cdv)))
    (tk : Takes (cnOf false P w K mg base ["relation"] "look_relation" (defScope s_look_relation) f cdv A outer s H E).X (cnOf false P w K mg base ["relation"] "look_relation" (defScope s_look_relation) f cdv A outer s H E).W) : DSs (cnOf false P w K mg base ["relation"] "look_relation" (defScope s_look_relation) f cdv A outer s H E) (defBody s_look_relation) m_look_relation := by
  have S := S_look_relation
  have hS : (cnOf false P w K mg base ["relation"] "look_relation" (defScope s_look_relation) f cdv A outer s H E).Any := fun _ _ _ _ h => h
  have hu := hr.units
  obtain ⟨g_RELATIONS, k_RELATIONS⟩ := gd.t_RELATIONS
  exact (dss_one (ds_if (dw_or (dt_not (dt_val (de_isi (by rfl) gd.f_isinstance (by rfl) gd.f_str (by decide +kernel) (dv 0)))) (dw_or1 (dt_cmp op_notIn_seq r_notIn (dv 0) (de_glob (by rfl) g_RELATIONS (v := .ref (He.ga K "RELATIONS")) (d := T_RELATIONS) (by rfl) (fun H B => tup_glob k_RELATIONS H B)) (by rfl)))).dt (dss_one (ds_raise e_InvalidRelation (by rfl) tk (hr.mono (by decide)) (by rfl) (dv 0))) dss_nil))
theorem fn_look_relation (gd : Gd K mg) (e_InvalidRelation : ExC P w K mg base "InvalidRelation" "relation") {fd : FuncData} (F : FunD K "look_relation" "look_relation" (defArgs s_look_relation) (defBody s_look_relation) (defScope s_look_relation) [] [] (He.ga K "look_relation") fd) (gm : mg "look_relation" = some (.ref (He.ga K "look_relation"))) : Fn P w K mg base 3 "look_relation" 1 false false F_look_relation :=
  ⟨⟨fd, ["relation"], rfl, fn_mk (NN := ["relation"]) F S_look_relation fun cdv A outer s H E hg hr tk => b_look_relation gd e_InvalidRelation cdv A outer s H E hg hr tk, F.bindsN fun _ _ _ _ _ _ us hl => match us, hl with | [_], _ => rfl⟩, gm, F.kp⟩
abbrev s_equal_passes : Stmt := top 19
theorem S_equal_passes : FnScope ["begin", "bound", "step", "bits"] ["begin", "bound", "step", "bits"] (defScope s_equal_passes) := ⟨rfl, rfl, rfl, by decide +kernel, rfl, by decide +kernel, by decide +kernel⟩
theorem b_equal_passes (gd : Gd K mg)  (c_word : Fn P w K mg base 1 "word" 2 false false F_word) {f : Addr} (cdv : Value) (A : Around) (outer : List Env) (s : Shared) (H : Hp) (E : XK) (hg : A.guards = some []) (hr : Room 1 (A.deeper (envOfC "equal_passes" (defScope s_equal_passes) s.heap.objs.size f cdv)))
    (tk : Takes (cnOf false P w K mg base ["begin", "bound", "step", "bits"] "equal_passes" (defScope s_equal_passes) f cdv A outer s H E).X (cnOf false P w K mg base ["begin", "bound", "step", "bits"] "equal_passes" (defScope s_equal_passes) f cdv A outer s H E).W) : DSs (cnOf false P w K mg base ["begin", "bound", "step", "bits"] "equal_passes" (defScope s_equal_passes) f cdv A outer s H E) (defBody s_equal_passes) m_equal_passes := by
  have S := S_equal_passes
  have hS : (cnOf false P w K mg base ["begin", "bound", "step", "bits"] "equal_passes" (defScope s_equal_passes) f cdv A outer s H E).Any := fun _ _ _ _ h => h
  have hu := hr.units
  exact (dss_cons hS (ds_if (dt_cmp (op_ne2 hu) r_ne (de_call c_word hg (hr.mono (by decide)) tk (by rfl) (da_cons (de_op op_sub r_sub (dv 0) (dv 1)) (da_cons (dv 3) da_nil))) de_int (nomark _)) (dss_one (ds_ret (by rfl) de_int)) dss_nil)
    (dss_one (ds_ret (by rfl) (de_ifExp (dt_cmp (op_eq2 hu) r_eq (de_call c_word hg (hr.mono (by decide)) tk (by rfl) (da_cons (dv 2) (da_cons (dv 3) da_nil))) de_int (nomark _)) de_non de_int))))
theorem fn_equal_passes (gd : Gd K mg) (c_word : Fn P w K mg base 1 "word" 2 false false F_word) {fd : FuncData} (F : FunD K "equal_passes" "equal_passes" (defArgs s_equal_passes) (defBody s_equal_passes) (defScope s_equal_passes) [] [] (He.ga K "equal_passes") fd) (gm : mg "equal_passes" = some (.ref (He.ga K "equal_passes"))) : Fn P w K mg base 2 "equal_passes" 4 false false F_equal_passes :=
  ⟨⟨fd, ["begin", "bound", "step", "bits"], rfl, fn_mk (NN := ["begin", "bound", "step", "bits"]) F S_equal_passes fun cdv A outer s H E hg hr tk => b_equal_passes gd c_word cdv A outer s H E hg hr tk, F.bindsN fun _ _ _ _ _ _ us hl => match us, hl with | [_, _, _, _], _ => rfl⟩, gm, F.kp⟩
abbrev s_inverse : Stmt := top 11
theorem S_inverse : FnScope ["number", "bits", "found", "turn"] ["number", "bits"] (defScope s_inverse) := ⟨rfl, rfl, rfl, by decide +kernel, rfl, by decide +kernel, by decide +kernel⟩
theorem b_inverse (gd : Gd K mg)  (c_word : Fn P w K mg base 1 "word" 2 false false F_word) {f : Addr} (cdv : Value) (A : Around) (outer : List Env) (s : Shared) (H : Hp) (E : XK) (hg : A.guards = some []) (hr : Room 1 (A.deeper (envOfC "inverse" (defScope s_inverse) s.heap.objs.size f cdv)))
    (tk : Takes (cnOf false P w K mg base ["number", "bits", "found", "turn"] "inverse" (defScope s_inverse) f cdv A outer s H E).X (cnOf false P w K mg base ["number", "bits", "found", "turn"] "inverse" (defScope s_inverse) f cdv A outer s H E).W) : DSs (cnOf false P w K mg base ["number", "bits", "found", "turn"] "inverse" (defScope s_inverse) f cdv A outer s H E) (defBody s_inverse) m_inverse := by
  have S := S_inverse
  have hS : (cnOf false P w K mg base ["number", "bits", "found", "turn"] "inverse" (defScope s_inverse) f cdv A outer s H E).Any := fun _ _ _ _ h => h
  have hu := hr.units
  exact (dss_cons hS (ds_set 2 S.nd de_int)
    (dss_cons hS (ds_for hS (hp_of cdv A outer s H E) (by rfl) (di_range1 (by rfl) gd.f_range (da_cons (dv 1) da_nil)) (dg_name 3 S.nd) (dss_one (ds_set 2 S.nd (de_call c_word hg (hr.mono (by decide)) tk (by rfl) (da_cons (de_op op_mulX r_mul (dv 2) (de_op op_sub r_sub de_int (de_op op_mulX r_mul (dv 0) (dv 2)))) (da_cons (dv 1) da_nil))))))
    (dss_one (ds_ret (by rfl) (dv 2)))))
theorem fn_inverse (gd : Gd K mg) (c_word : Fn P w K mg base 1 "word" 2 false false F_word) {fd : FuncData} (F : FunD K "inverse" "inverse" (defArgs s_inverse) (defBody s_inverse) (defScope s_inverse) [] [] (He.ga K "inverse") fd) (gm : mg "inverse" = some (.ref (He.ga K "inverse"))) : Fn P w K mg base 2 "inverse" 2 false false F_inverse :=
  ⟨⟨fd, ["number", "bits"], rfl, fn_mk (NN := ["number", "bits", "found", "turn"]) F S_inverse fun cdv A outer s H E hg hr tk => b_inverse gd c_word cdv A outer s H E hg hr tk, F.bindsN fun _ _ _ _ _ _ us hl => match us, hl with | [_, _], _ => rfl⟩, gm, F.kp⟩
abbrev s_meeting : Stmt := top 17
theorem S_meeting : FnScope ["distance", "step", "bits", "far", "pace", "many"] ["distance", "step", "bits"] (defScope s_meeting) := ⟨rfl, rfl, rfl, by decide +kernel, rfl, by decide +kernel, by decide +kernel⟩
theorem b_meeting (gd : Gd K mg)  (c_inverse : Fn P w K mg base 2 "inverse" 2 false false F_inverse) (c_twos : Fn P w K mg base 1 "twos" 2 false false F_twos) (c_word : Fn P w K mg base 1 "word" 2 false false F_word) {f : Addr} (cdv : Value) (A : Around) (outer : List Env) (s : Shared) (H : Hp) (E : XK) (hg : A.guards = some []) (hr : Room 2 (A.deeper (envOfC "meeting" (defScope s_meeting) s.heap.objs.size f cdv)))
    (tk : Takes (cnOf false P w K mg base ["distance", "step", "bits", "far", "pace", "many"] "meeting" (defScope s_meeting) f cdv A outer s H E).X (cnOf false P w K mg base ["distance", "step", "bits", "far", "pace", "many"] "meeting" (defScope s_meeting) f cdv A outer s H E).W) : DSs (cnOf false P w K mg base ["distance", "step", "bits", "far", "pace", "many"] "meeting" (defScope s_meeting) f cdv A outer s H E) (defBody s_meeting) m_meeting := by
  have S := S_meeting
  have hS : (cnOf false P w K mg base ["distance", "step", "bits", "far", "pace", "many"] "meeting" (defScope s_meeting) f cdv A outer s H E).Any := fun _ _ _ _ h => h
  have hu := hr.units
  exact (dss_cons hS (ds_if (dt_cmp op_isN r_isN (dv 2) de_non (nomark _)) (dss_cons hS (ds_if (dt_cmp (op_eq2 hu) r_eq (dv 0) de_int (nomark _)) (dss_one (ds_ret (by rfl) de_int)) dss_nil)
    (dss_cons hS (ds_if (dw_or (dt_cmp (op_eq2 hu) r_eq (dv 1) de_int (nomark _)) (dw_or (dt_cmp (op_ne2 hu) r_ne (de_op op_modN r_mod (dv 0) (dv 1)) de_int (nomark _)) (dw_or1 (dt_cmp op_lt r_lt (de_op op_divZ r_div (dv 0) (dv 1)) de_int (nomark _))))).dt (dss_one (ds_ret (by rfl) de_non)) dss_nil)
    (dss_one (ds_ret (by rfl) (de_op op_divZ r_div (dv 0) (dv 1)))))) dss_nil)
    (dss_cons hS (ds_par (by rfl) S.nd (by rfl) (by rfl) (by decide) (by rfl) (by rfl) (da_cons (de_call c_word hg (hr.mono (by decide)) tk (by rfl) (da_cons (dv 0) (da_cons (dv 2) da_nil))) (da_cons (de_call c_word hg (hr.mono (by decide)) tk (by rfl) (da_cons (dv 1) (da_cons (dv 2) da_nil))) da_nil)) (by rfl))
    (dss_cons hS (ds_set 5 S.nd (de_call c_twos hg (hr.mono (by decide)) tk (by rfl) (da_cons (dv 4) (da_cons (dv 2) da_nil))))
    (dss_cons hS (ds_if (dt_cmp op_lt r_lt (de_call c_twos hg (hr.mono (by decide)) tk (by rfl) (da_cons (dv 3) (da_cons (dv 2) da_nil))) (dv 5) (nomark _)) (dss_one (ds_ret (by rfl) de_non)) dss_nil)
    (dss_cons hS (ds_if (dt_cmp (op_eq2 hu) r_eq (dv 5) (dv 2) (nomark _)) (dss_one (ds_ret (by rfl) de_int)) dss_nil)
    (dss_one (ds_ret (by rfl) (de_call c_word hg (hr.mono (by decide)) tk (by rfl) (da_cons (de_op op_mulX r_mul (de_op op_shr r_shr (dv 3) (dv 5)) (de_call c_inverse hg (hr.mono (by decide)) tk (by rfl) (da_cons (de_op op_shr r_shr (dv 4) (dv 5)) (da_cons (dv 2) da_nil)))) (da_cons (de_op op_sub r_sub (dv 2) (dv 5)) da_nil))))))))))
theorem fn_meeting (gd : Gd K mg) (c_inverse : Fn P w K mg base 2 "inverse" 2 false false F_inverse) (c_twos : Fn P w K mg base 1 "twos" 2 false false F_twos) (c_word : Fn P w K mg base 1 "word" 2 false false F_word) {fd : FuncData} (F : FunD K "meeting" "meeting" (defArgs s_meeting) (defBody s_meeting) (defScope s_meeting) [] [] (He.ga K "meeting") fd) (gm : mg "meeting" = some (.ref (He.ga K "meeting"))) : Fn P w K mg base 3 "meeting" 3 false false F_meeting :=
  ⟨⟨fd, ["distance", "step", "bits"], rfl, fn_mk (NN := ["distance", "step", "bits", "far", "pace", "many"]) F S_meeting fun cdv A outer s H E hg hr tk => b_meeting gd c_inverse c_twos c_word cdv A outer s H E hg hr tk, F.bindsN fun _ _ _ _ _ _ us hl => match us, hl with | [_, _, _], _ => rfl⟩, gm, F.kp⟩
abbrev s_mirrored : Stmt := top 21
theorem S_mirrored : FnScope ["number", "bits"] ["number", "bits"] (defScope s_mirrored) := ⟨rfl, rfl, rfl, by decide +kernel, rfl, by decide +kernel, by decide +kernel⟩
theorem b_mirrored (gd : Gd K mg)   {f : Addr} (cdv : Value) (A : Around) (outer : List Env) (s : Shared) (H : Hp) (E : XK) (hg : A.guards = some []) (hr : Room 0 (A.deeper (envOfC "mirrored" (defScope s_mirrored) s.heap.objs.size f cdv)))
    (tk : Takes (cnOf false P w K mg base ["number", "bits"] "mirrored" (defScope s_mirrored) f cdv A outer s H E).X (cnOf false P w K mg base ["number", "bits"] "mirrored" (defScope s_mirrored) f cdv A outer s H E).W) : DSs (cnOf false P w K mg base ["number", "bits"] "mirrored" (defScope s_mirrored) f cdv A outer s H E) (defBody s_mirrored) m_mirrored := by
  have S := S_mirrored
  have hS : (cnOf false P w K mg base ["number", "bits"] "mirrored" (defScope s_mirrored) f cdv A outer s H E).Any := fun _ _ _ _ h => h
  have hu := hr.units
  exact (dss_one (ds_ret (by rfl) (de_ifExp (dt_cmp op_isN r_isN (dv 1) de_non (nomark _)) (de_un un_neg r_neg (dv 0)) (de_op op_sub r_sub (de_op op_sub r_sub (de_op op_shlW r_shl de_int (dv 1)) de_int) (dv 0)))))
theorem fn_mirrored (gd : Gd K mg)  {fd : FuncData} (F : FunD K "mirrored" "mirrored" (defArgs s_mirrored) (defBody s_mirrored) (defScope s_mirrored) [] [] (He.ga K "mirrored") fd) (gm : mg "mirrored" = some (.ref (He.ga K "mirrored"))) : Fn P w K mg base 1 "mirrored" 2 false false F_mirrored :=
  ⟨⟨fd, ["number", "bits"], rfl, fn_mk (NN := ["number", "bits"]) F S_mirrored fun cdv A outer s H E hg hr tk => b_mirrored gd  cdv A outer s H E hg hr tk, F.bindsN fun _ _ _ _ _ _ us hl => match us, hl with | [_, _], _ => rfl⟩, gm, F.kp⟩
abbrev s_first_within : Stmt := top 16
theorem S_first_within : FnScope ["step", "modulus", "low", "high", "near", "turns"] ["step", "modulus", "low", "high"] (defScope s_first_within) := ⟨rfl, rfl, rfl, by decide +kernel, rfl, by decide +kernel, by decide +kernel⟩
theorem b_first_within (gd : Gd K mg) {j : Nat} (hj : 0 ≤ j) {self : Fs} (c_first_within : Fn P w K mg base j "first_within" 4 false false self)  {f : Addr} (cdv : Value) (A : Around) (outer : List Env) (s : Shared) (H : Hp) (E : XK) (hg : A.guards = some []) (hr : Room j (A.deeper (envOfC "first_within" (defScope s_first_within) s.heap.objs.size f cdv)))
    (tk : Takes (cnOf false P w K mg base ["step", "modulus", "low", "high", "near", "turns"] "first_within" (defScope s_first_within) f cdv A outer s H E).X (cnOf false P w K mg base ["step", "modulus", "low", "high", "near", "turns"] "first_within" (defScope s_first_within) f cdv A outer s H E).W) : DSs (cnOf false P w K mg base ["step", "modulus", "low", "high", "near", "turns"] "first_within" (defScope s_first_within) f cdv A outer s H E) (defBody s_first_within) (m_first_within self) := by
  have S := S_first_within
  have hS : (cnOf false P w K mg base ["step", "modulus", "low", "high", "near", "turns"] "first_within" (defScope s_first_within) f cdv A outer s H E).Any := fun _ _ _ _ h => h
  have hu := hr.units
  exact (dss_cons hS (ds_if (dt_cmp (op_eq2 hu) r_eq (dv 2) de_int (nomark _)) (dss_one (ds_ret (by rfl) de_int)) dss_nil)
    (dss_cons hS (ds_if (dt_cmp (op_eq2 hu) r_eq (dv 0) de_int (nomark _)) (dss_one (ds_ret (by rfl) de_non)) dss_nil)
    (dss_cons hS (ds_set 4 S.nd (de_un un_neg r_neg (de_op op_divZ r_div (de_un un_neg r_neg (dv 2)) (dv 0))))
    (dss_cons hS (ds_if (dt_cmp op_le r_le (de_op op_mulX r_mul (dv 4) (dv 0)) (dv 3) (nomark _)) (dss_one (ds_ret (by rfl) (dv 4))) dss_nil)
    (dss_cons hS (ds_set 5 S.nd (de_call c_first_within hg hr tk (by rfl) (da_cons (de_op op_modN r_mod (dv 1) (dv 0)) (da_cons (dv 0) (da_cons (de_op op_modN r_mod (de_un un_neg r_neg (dv 3)) (dv 0)) (da_cons (de_op op_modN r_mod (de_un un_neg r_neg (dv 2)) (dv 0)) da_nil))))))
    (dss_cons hS (ds_if (dt_cmp op_isN r_isN (dv 5) de_non (nomark _)) (dss_one (ds_ret (by rfl) de_non)) dss_nil)
    (dss_one (ds_ret (by rfl) (de_un un_neg r_neg (de_op op_divZ r_div (de_un un_neg r_neg (de_op op_add r_add (dv 2) (de_op op_mulX r_mul (dv 1) (dv 5)))) (dv 0)))))))))))
theorem fn_first_within (gd : Gd K mg)  {fd : FuncData} (F : FunD K "first_within" "first_within" (defArgs s_first_within) (defBody s_first_within) (defScope s_first_within) [] [] (He.ga K "first_within") fd) (gm : mg "first_within" = some (.ref (He.ga K "first_within"))) : ∀ j : Nat, Fn P w K mg base (1 + j) "first_within" 4 false false (R_first_within j)
  | 0 => ⟨⟨fd, ["step", "modulus", "low", "high"], rfl, fng_stuck, F.bindsN fun _ _ _ _ _ _ us hl => match us, hl with | [_, _, _, _], _ => rfl⟩, gm, F.kp⟩
  | j + 1 => ⟨⟨fd, ["step", "modulus", "low", "high"], rfl, fn_mk (NN := ["step", "modulus", "low", "high", "near", "turns"]) F S_first_within fun cdv A outer s H E hg hr tk => b_first_within gd (Nat.le_trans (by decide) (Nat.le_add_right 1 j)) (fn_first_within gd  F gm j)  cdv A outer s H E hg hr tk, F.bindsN fun _ _ _ _ _ _ us hl => match us, hl with | [_, _, _, _], _ => rfl⟩, gm, F.kp⟩
abbrev s_rising : Stmt := top 18
theorem S_rising : FnScope ["begin", "bound", "step", "bits", "modulus"] ["begin", "bound", "step", "bits"] (defScope s_rising) := ⟨rfl, rfl, rfl, by decide +kernel, rfl, by decide +kernel, by decide +kernel⟩
theorem b_rising (gd : Gd K mg)  (c_first_within : Fn P w K mg base 151 "first_within" 4 false false F_first_within) {f : Addr} (cdv : Value) (A : Around) (outer : List Env) (s : Shared) (H : Hp) (E : XK) (hg : A.guards = some []) (hr : Room 151 (A.deeper (envOfC "rising" (defScope s_rising) s.heap.objs.size f cdv)))
    (tk : Takes (cnOf false P w K mg base ["begin", "bound", "step", "bits", "modulus"] "rising" (defScope s_rising) f cdv A outer s H E).X (cnOf false P w K mg base ["begin", "bound", "step", "bits", "modulus"] "rising" (defScope s_rising) f cdv A outer s H E).W) : DSs (cnOf false P w K mg base ["begin", "bound", "step", "bits", "modulus"] "rising" (defScope s_rising) f cdv A outer s H E) (defBody s_rising) m_rising := by
  have S := S_rising
  have hS : (cnOf false P w K mg base ["begin", "bound", "step", "bits", "modulus"] "rising" (defScope s_rising) f cdv A outer s H E).Any := fun _ _ _ _ h => h
  have hu := hr.units
  exact (dss_cons hS (ds_if (dt_cmp op_ge r_ge (dv 0) (dv 1) (nomark _)) (dss_one (ds_ret (by rfl) de_int)) dss_nil)
    (dss_cons hS (ds_if (dt_cmp op_isN r_isN (dv 3) de_non (nomark _)) (dss_one (ds_ret (by rfl) (de_ifExp (dt_cmp op_le r_le (dv 2) de_int (nomark _)) de_non (de_un un_neg r_neg (de_op op_divZ r_div (de_op op_sub r_sub (dv 0) (dv 1)) (dv 2)))))) dss_nil)
    (dss_cons hS (ds_set 4 S.nd (de_op op_shlW r_shl de_int (dv 3)))
    (dss_one (ds_ret (by rfl) (de_call c_first_within hg (hr.mono (by decide)) tk (by rfl) (da_cons (de_op op_modN r_mod (dv 2) (dv 4)) (da_cons (dv 4) (da_cons (de_op op_sub r_sub (dv 1) (dv 0)) (da_cons (de_op op_sub r_sub (de_op op_sub r_sub (dv 4) de_int) (dv 0)) da_nil))))))))))
theorem fn_rising (gd : Gd K mg) (c_first_within : Fn P w K mg base 151 "first_within" 4 false false F_first_within) {fd : FuncData} (F : FunD K "rising" "rising" (defArgs s_rising) (defBody s_rising) (defScope s_rising) [] [] (He.ga K "rising") fd) (gm : mg "rising" = some (.ref (He.ga K "rising"))) : Fn P w K mg base 152 "rising" 4 false false F_rising :=
  ⟨⟨fd, ["begin", "bound", "step", "bits"], rfl, fn_mk (NN := ["begin", "bound", "step", "bits", "modulus"]) F S_rising fun cdv A outer s H E hg hr tk => b_rising gd c_first_within cdv A outer s H E hg hr tk, F.bindsN fun _ _ _ _ _ _ us hl => match us, hl with | [_, _, _, _], _ => rfl⟩, gm, F.kp⟩
abbrev s_made_passes : Stmt := top 20
theorem S_made_passes : FnScope ["begin", "bound", "step", "relation", "bits", "signed", "more", "first", "last"] ["begin", "bound", "step", "relation", "bits", "signed"] (defScope s_made_passes) := ⟨rfl, rfl, rfl, by decide +kernel, rfl, by decide +kernel, by decide +kernel⟩
theorem b_made_passes (gd : Gd K mg)  (c_equal_passes : Fn P w K mg base 2 "equal_passes" 4 false false F_equal_passes) (c_meeting : Fn P w K mg base 3 "meeting" 3 false false F_meeting) (c_mirrored : Fn P w K mg base 1 "mirrored" 2 false false F_mirrored) (c_rising : Fn P w K mg base 152 "rising" 4 false false F_rising) (c_word : Fn P w K mg base 1 "word" 2 false false F_word) {f : Addr} (cdv : Value) (A : Around) (outer : List Env) (s : Shared) (H : Hp) (E : XK) (hg : A.guards = some []) (hr : Room 152 (A.deeper (envOfC "made_passes" (defScope s_made_passes) s.heap.objs.size f cdv)))
    (tk : Takes (cnOf false P w K mg base ["begin", "bound", "step", "relation", "bits", "signed", "more", "first", "last"] "made_passes" (defScope s_made_passes) f cdv A outer s H E).X (cnOf false P w K mg base ["begin", "bound", "step", "relation", "bits", "signed", "more", "first", "last"] "made_passes" (defScope s_made_passes) f cdv A outer s H E).W) : DSs (cnOf false P w K mg base ["begin", "bound", "step", "relation", "bits", "signed", "more", "first", "last"] "made_passes" (defScope s_made_passes) f cdv A outer s H E) (defBody s_made_passes) m_made_passes := by
  have S := S_made_passes
  have hS : (cnOf false P w K mg base ["begin", "bound", "step", "relation", "bits", "signed", "more", "first", "last"] "made_passes" (defScope s_made_passes) f cdv A outer s H E).Any := fun _ _ _ _ h => h
  have hu := hr.units
  exact (dss_cons hS (ds_if (dt_cmp (op_eq2 hu) r_eq (dv 3) de_str (nomark _)) (dss_one (ds_ret (by rfl) (de_call c_meeting hg (hr.mono (by decide)) tk (by rfl) (da_cons (de_op op_sub r_sub (dv 1) (dv 0)) (da_cons (dv 2) (da_cons (dv 4) da_nil)))))) dss_nil)
    (dss_cons hS (ds_if (dt_cmp (op_eq2 hu) r_eq (dv 3) de_str (nomark _)) (dss_one (ds_ret (by rfl) (de_call c_equal_passes hg (hr.mono (by decide)) tk (by rfl) (da_cons (dv 0) (da_cons (dv 1) (da_cons (dv 2) (da_cons (dv 4) da_nil))))))) dss_nil)
    (dss_cons hS (ds_set 6 S.nd (de_ifExp (dw_and (dt_cmp op_notN r_notN (dv 4) de_non (nomark _)) (dw_and1 (dt_val (dv 5)))).dt (de_op op_shlW r_shl de_int (de_op op_sub r_sub (dv 4) de_int)) de_int))
    (dss_cons hS (ds_par (by rfl) S.nd (by rfl) (by rfl) (by decide) (by rfl) (by rfl) (da_cons (de_call c_word hg (hr.mono (by decide)) tk (by rfl) (da_cons (de_op op_add r_add (dv 0) (dv 6)) (da_cons (dv 4) da_nil))) (da_cons (de_call c_word hg (hr.mono (by decide)) tk (by rfl) (da_cons (de_op op_add r_add (dv 1) (dv 6)) (da_cons (dv 4) da_nil))) da_nil)) (by rfl))
    (dss_cons hS (ds_if (dt_cmp op_in_seq r_in (dv 3) (de_tup (da_cons de_str (da_cons de_str da_nil))) (by rfl)) (dss_one (ds_par3 (by rfl) S.nd (by rfl) (by rfl) (by rfl) (by decide) (by decide) (by decide) (by rfl) (by rfl) (by rfl) (da_cons (de_call c_mirrored hg (hr.mono (by decide)) tk (by rfl) (da_cons (dv 7) (da_cons (dv 4) da_nil))) (da_cons (de_call c_mirrored hg (hr.mono (by decide)) tk (by rfl) (da_cons (dv 8) (da_cons (dv 4) da_nil))) (da_cons (de_un un_neg r_neg (dv 2)) da_nil))) (by rfl))) dss_nil)
    (dss_cons hS (ds_if (dt_cmp op_in_seq r_in (dv 3) (de_tup (da_cons de_str (da_cons de_str da_nil))) (by rfl)) (dss_cons hS (ds_if (dw_and (dt_cmp op_notN r_notN (dv 4) de_non (nomark _)) (dw_and1 (dt_cmp (op_eq2 hu) r_eq (dv 8) (de_op op_sub r_sub (de_op op_shlW r_shl de_int (dv 4)) de_int) (nomark _)))).dt (dss_one (ds_ret (by rfl) de_non)) dss_nil)
    (dss_one (ds_aug 8 S.nd de_int ip_add ip_addD))) dss_nil)
    (dss_one (ds_ret (by rfl) (de_call c_rising hg (hr.mono (by decide)) tk (by rfl) (da_cons (dv 7) (da_cons (dv 8) (da_cons (dv 2) (da_cons (dv 4) da_nil)))))))))))))
theorem fn_made_passes (gd : Gd K mg) (c_equal_passes : Fn P w K mg base 2 "equal_passes" 4 false false F_equal_passes) (c_meeting : Fn P w K mg base 3 "meeting" 3 false false F_meeting) (c_mirrored : Fn P w K mg base 1 "mirrored" 2 false false F_mirrored) (c_rising : Fn P w K mg base 152 "rising" 4 false false F_rising) (c_word : Fn P w K mg base 1 "word" 2 false false F_word) {fd : FuncData} (F : FunD K "made_passes" "made_passes" (defArgs s_made_passes) (defBody s_made_passes) (defScope s_made_passes) [] [] (He.ga K "made_passes") fd) (gm : mg "made_passes" = some (.ref (He.ga K "made_passes"))) : Fn P w K mg base 153 "made_passes" 6 false false F_made_passes :=
  ⟨⟨fd, ["begin", "bound", "step", "relation", "bits", "signed"], rfl, fn_mk (NN := ["begin", "bound", "step", "relation", "bits", "signed", "more", "first", "last"]) F S_made_passes fun cdv A outer s H E hg hr tk => b_made_passes gd c_equal_passes c_meeting c_mirrored c_rising c_word cdv A outer s H E hg hr tk, F.bindsN fun _ _ _ _ _ _ us hl => match us, hl with | [_, _, _, _, _, _], _ => rfl⟩, gm, F.kp⟩
abbrev s_require_bits : Stmt := top 8
theorem S_require_bits : FnScope ["bits"] ["bits"] (defScope s_require_bits) := ⟨rfl, rfl, rfl, by decide +kernel, rfl, by decide +kernel, by decide +kernel⟩
theorem b_require_bits (gd : Gd K mg)  (c_is_integer : Fn P w K mg base 1 "is_integer" 1 false false F_is_integer) (e_InvalidBits : ExC P w K mg base "InvalidBits" "value") {f : Addr} (cdv : Value) (A : Around) (outer : List Env) (s : Shared) (H : Hp) (E : XK) (hg : A.guards = some []) (hr : Room 2 (A.deeper (envOfC "require_bits" (defScope s_require_bits) s.heap.objs.size f cdv)))
    (tk : Takes (cnOf false P w K mg base ["bits"] "require_bits" (defScope s_require_bits) f cdv A outer s H E).X (cnOf false P w K mg base ["bits"] "require_bits" (defScope s_require_bits) f cdv A outer s H E).W) : DSs (cnOf false P w K mg base ["bits"] "require_bits" (defScope s_require_bits) f cdv A outer s H E) (defBody s_require_bits) m_require_bits := by
  have S := S_require_bits
  have hS : (cnOf false P w K mg base ["bits"] "require_bits" (defScope s_require_bits) f cdv A outer s H E).Any := fun _ _ _ _ h => h
  have hu := hr.units
  obtain ⟨t_MOST_BITS, g_MOST_BITS⟩ := gd.i_MOST_BITS
  exact (dss_one (ds_if (dw_and (dt_cmp op_notN r_notN (dv 0) de_non (nomark _)) (dw_and1 (dt_not (dw_and (dt_val (de_call c_is_integer hg (hr.mono (by decide)) tk (by rfl) (da_cons (dv 0) da_nil))) (dw_and1 (dt_chain op_le op_le r_le r_le de_int (dv 0) (de_glob (by rfl) g_MOST_BITS (v := .int 64) (d := .int 64) ⟨_, rfl⟩ (fun _ _ => rfl))))).dt))).dt (dss_one (ds_raise e_InvalidBits (by rfl) tk (hr.mono (by decide)) (by rfl) (dv 0))) dss_nil))
theorem fn_require_bits (gd : Gd K mg) (c_is_integer : Fn P w K mg base 1 "is_integer" 1 false false F_is_integer) (e_InvalidBits : ExC P w K mg base "InvalidBits" "value") {fd : FuncData} (F : FunD K "require_bits" "require_bits" (defArgs s_require_bits) (defBody s_require_bits) (defScope s_require_bits) [] [] (He.ga K "require_bits") fd) (gm : mg "require_bits" = some (.ref (He.ga K "require_bits"))) : Fn P w K mg base 3 "require_bits" 1 false false F_require_bits :=
  ⟨⟨fd, ["bits"], rfl, fn_mk (NN := ["bits"]) F S_require_bits fun cdv A outer s H E hg hr tk => b_require_bits gd c_is_integer e_InvalidBits cdv A outer s H E hg hr tk, F.bindsN fun _ _ _ _ _ _ us hl => match us, hl with | [_], _ => rfl⟩, gm, F.kp⟩
abbrev s_counter_left_out : Stmt := top 25
theorem S_counter_left_out : FnScope ["begin", "step", "relation", "bits", "signed", "n"] ["begin", "step", "relation", "bits", "signed"] (defScope s_counter_left_out) := ⟨rfl, rfl, rfl, by decide +kernel, rfl, by decide +kernel, by decide +kernel⟩
theorem b_counter_left_out (gd : Gd K mg)  (c_first_wrong : Fn P w K mg base 3 "first_wrong" 5 false false F_first_wrong) (c_look_integers : Fn P w K mg base 3 "look_integers" 1 false false F_look_integers) (c_look_relation : Fn P w K mg base 3 "look_relation" 1 false false F_look_relation) (c_made_passes : Fn P w K mg base 153 "made_passes" 6 false false F_made_passes) (c_require_bits : Fn P w K mg base 3 "require_bits" 1 false false F_require_bits) {f : Addr} (cdv : Value) (A : Around) (outer : List Env) (s : Shared) (H : Hp) (E : XK) (hg : A.guards = some []) (hr : Room 153 (A.deeper (envOfC "counter_left_out" (defScope s_counter_left_out) s.heap.objs.size f cdv)))
    (tk : Takes (cnOf false P w K mg base ["begin", "step", "relation", "bits", "signed", "n"] "counter_left_out" (defScope s_counter_left_out) f cdv A outer s H E).X (cnOf false P w K mg base ["begin", "step", "relation", "bits", "signed", "n"] "counter_left_out" (defScope s_counter_left_out) f cdv A outer s H E).W) : DSs (cnOf false P w K mg base ["begin", "step", "relation", "bits", "signed", "n"] "counter_left_out" (defScope s_counter_left_out) f cdv A outer s H E) (defBody s_counter_left_out) m_counter_left_out := by
  have S := S_counter_left_out
  have hS : (cnOf false P w K mg base ["begin", "step", "relation", "bits", "signed", "n"] "counter_left_out" (defScope s_counter_left_out) f cdv A outer s H E).Any := fun _ _ _ _ h => h
  have hu := hr.units
  exact (dss_cons hS (ds_expr (de_call c_require_bits hg (hr.mono (by decide)) tk (by rfl) (da_cons (dv 3) da_nil)))
    (dss_cons hS (ds_expr (de_call c_look_integers hg (hr.mono (by decide)) tk (by rfl) (da_cons (df_lst (da_cons (dv 0) (da_cons (dv 1) da_nil))).de da_nil)))
    (dss_cons hS (ds_expr (de_call c_look_relation hg (hr.mono (by decide)) tk (by rfl) (da_cons (dv 2) da_nil)))
    (dss_cons hS (ds_set 5 S.nd (de_call c_first_wrong hg (hr.mono (by decide)) tk (by rfl) (da_cons (dv 0) (da_cons (dv 1) (da_cons (dv 2) (da_cons (dv 3) (da_cons (dv 4) da_nil)))))))
    (dss_cons hS (ds_if (dt_cmp op_isN r_isN (dv 5) de_non (nomark _)) (dss_one (ds_ret (by rfl) de_non)) dss_nil)
    (dss_one (ds_ret (by rfl) (de_tup (da_cons (dv 5) (da_cons (de_call c_made_passes hg (hr.mono (by decide)) tk (by rfl) (da_cons (dv 0) (da_cons (de_op op_add r_add (dv 0) (de_op op_mulX r_mul (dv 1) (dv 5))) (da_cons (dv 1) (da_cons (dv 2) (da_cons (dv 3) (da_cons (dv 4) da_nil))))))) da_nil))))))))))
def g_counter_left_out_bits {α : Type} (us mv ws : List α) : List α := us ++ ((ws.drop 0).take 1 ++ ((mv.drop 0).take 1))
theorem kb_counter_left_out_bits {vs mz zs : List V} {us mv ws : List Value} (r1 : Vals vs us) (r2 : Vals mz mv) (r3 : Vals zs ws) : Vals (g_counter_left_out_bits vs mz zs) (g_counter_left_out_bits us mv ws) :=
  r1.append (((r3.drop 0).take 1).append (((r2.drop 0).take 1)))
theorem kr_counter_left_out_bits {K : PySem.W.Frag} {H : Hp} {B : Addr → Prop} {ds es : List D} {vs zs : List V} (r1 : Rps K H B ds vs) (r3 : Rps K H B es zs) : Rps K H B (g_counter_left_out_bits ds [(.bl false)] es) (g_counter_left_out_bits vs [(V.bl false)] zs) := by
  have r2 : Rps K H B [(.bl false)] [(V.bl false)] := ⟨_, _, rfl, rfl, rfl⟩
  exact (Rps.append r1 (Rps.append (Rps.take 1 (Rps.drop 0 r3)) (Rps.take 1 (Rps.drop 0 r2))))
theorem fn_counter_left_out_bits (gd : Gd K mg) (c_first_wrong : Fn P w K mg base 3 "first_wrong" 5 false false F_first_wrong) (c_look_integers : Fn P w K mg base 3 "look_integers" 1 false false F_look_integers) (c_look_relation : Fn P w K mg base 3 "look_relation" 1 false false F_look_relation) (c_made_passes : Fn P w K mg base 153 "made_passes" 6 false false F_made_passes) (c_require_bits : Fn P w K mg base 3 "require_bits" 1 false false F_require_bits) {fd : FuncData} (F : FunD K "counter_left_out" "counter_left_out" (defArgs s_counter_left_out) (defBody s_counter_left_out) (defScope s_counter_left_out) [] [("bits", V.non), ("signed", (V.bl false))] (He.ga K "counter_left_out") fd) (gm : mg "counter_left_out" = some (.ref (He.ga K "counter_left_out"))) : FnK P w K mg base 154 "counter_left_out" 3 ["bits"] G_counter_left_out_bits := by
  have hN : FnG P w K mg base 154 (He.ga K "counter_left_out") fd ["begin", "step", "relation", "bits", "signed"] (spD K 5 false false F_counter_left_out) := fn_mk (NN := ["begin", "step", "relation", "bits", "signed", "n"]) F S_counter_left_out fun cdv A outer s H E hg hr tk => b_counter_left_out gd c_first_wrong c_look_integers c_look_relation c_made_passes c_require_bits cdv A outer s H E hg hr tk
  obtain ⟨mv, hb⟩ := FunD.kbinds0 (ps := ["begin", "step", "relation", "bits", "signed"]) F 3 ["bits"] [("signed", (V.bl false))] g_counter_left_out_bits (by simp) (by simp) (fun r1 r2 r3 => kb_counter_left_out_bits r1 r2 r3) fun D doc pm an cdv ct us mv ws l1 l2 l3 => (match us, mv, ws, l1, l2, l3 with
    | [_, _, _], [_], [_], _, _, _ => ⟨_, _, _, _, _, _, rfl, rfl, rfl⟩)
  exact ⟨⟨_, fd, ["begin", "step", "relation", "bits", "signed"], F_counter_left_out, fun ds es => g_counter_left_out_bits ds [(.bl false)] es, _, _, hN, hb, fun ds es l1 l2 => (match ds, es, l1, l2 with
    | [_, _, _], [_], _, _ => ⟨rfl, rfl, fun H B vs zs r1 r2 => kr_counter_left_out_bits r1 r2⟩)⟩, gm, F.kp⟩
def g_counter_left_out {α : Type} (us mv ws : List α) : List α := us ++ ((mv.drop 0).take 1 ++ ((mv.drop 1).take 1))
theorem kb_counter_left_out {vs mz zs : List V} {us mv ws : List Value} (r1 : Vals vs us) (r2 : Vals mz mv) (r3 : Vals zs ws) : Vals (g_counter_left_out vs mz zs) (g_counter_left_out us mv ws) :=
  r1.append (((r2.drop 0).take 1).append (((r2.drop 1).take 1)))
theorem kr_counter_left_out {K : PySem.W.Frag} {H : Hp} {B : Addr → Prop} {ds es : List D} {vs zs : List V} (r1 : Rps K H B ds vs) (r3 : Rps K H B es zs) : Rps K H B (g_counter_left_out ds [.non, (.bl false)] es) (g_counter_left_out vs [V.non, (V.bl false)] zs) := by
  have r2 : Rps K H B [.non, (.bl false)] [V.non, (V.bl false)] := ⟨_, _, rfl, rfl, ⟨_, _, rfl, rfl, rfl⟩⟩
  exact (Rps.append r1 (Rps.append (Rps.take 1 (Rps.drop 0 r2)) (Rps.take 1 (Rps.drop 1 r2))))
theorem fn_counter_left_out (gd : Gd K mg) (c_first_wrong : Fn P w K mg base 3 "first_wrong" 5 false false F_first_wrong) (c_look_integers : Fn P w K mg base 3 "look_integers" 1 false false F_look_integers) (c_look_relation : Fn P w K mg base 3 "look_relation" 1 false false F_look_relation) (c_made_passes : Fn P w K mg base 153 "made_passes" 6 false false F_made_passes) (c_require_bits : Fn P w K mg base 3 "require_bits" 1 false false F_require_bits) {fd : FuncData} (F : FunD K "counter_left_out" "counter_left_out" (defArgs s_counter_left_out) (defBody s_counter_left_out) (defScope s_counter_left_out) [] [("bits", V.non), ("signed", (V.bl false))] (He.ga K "counter_left_out") fd) (gm : mg "counter_left_out" = some (.ref (He.ga K "counter_left_out"))) : FnK P w K mg base 154 "counter_left_out" 3 [] G_counter_left_out := by
  have hN : FnG P w K mg base 154 (He.ga K "counter_left_out") fd ["begin", "step", "relation", "bits", "signed"] (spD K 5 false false F_counter_left_out) := fn_mk (NN := ["begin", "step", "relation", "bits", "signed", "n"]) F S_counter_left_out fun cdv A outer s H E hg hr tk => b_counter_left_out gd c_first_wrong c_look_integers c_look_relation c_made_passes c_require_bits cdv A outer s H E hg hr tk
  obtain ⟨mv, hb⟩ := FunD.kbinds0 (ps := ["begin", "step", "relation", "bits", "signed"]) F 3 [] [("bits", V.non), ("signed", (V.bl false))] g_counter_left_out (by simp) (by simp) (fun r1 r2 r3 => kb_counter_left_out r1 r2 r3) fun D doc pm an cdv ct us mv ws l1 l2 l3 => (match us, mv, ws, l1, l2, l3 with
    | [_, _, _], [_, _], [], _, _, _ => ⟨_, _, _, _, _, _, rfl, rfl, ⟨_, _, _, _, _, _, rfl, rfl, rfl⟩⟩)
  exact ⟨⟨_, fd, ["begin", "step", "relation", "bits", "signed"], F_counter_left_out, fun ds es => g_counter_left_out ds [.non, (.bl false)] es, _, _, hN, hb, fun ds es l1 l2 => (match ds, es, l1, l2 with
    | [_, _, _], [], _, _ => ⟨rfl, rfl, fun H B vs zs r1 r2 => kr_counter_left_out r1 r2⟩)⟩, gm, F.kp⟩
def g_counter_left_out_bits_signed {α : Type} (us mv ws : List α) : List α := us ++ ((ws.drop 0).take 1 ++ ((ws.drop 1).take 1))
theorem kb_counter_left_out_bits_signed {vs mz zs : List V} {us mv ws : List Value} (r1 : Vals vs us) (r2 : Vals mz mv) (r3 : Vals zs ws) : Vals (g_counter_left_out_bits_signed vs mz zs) (g_counter_left_out_bits_signed us mv ws) :=
  r1.append (((r3.drop 0).take 1).append (((r3.drop 1).take 1)))
theorem kr_counter_left_out_bits_signed {K : PySem.W.Frag} {H : Hp} {B : Addr → Prop} {ds es : List D} {vs zs : List V} (r1 : Rps K H B ds vs) (r3 : Rps K H B es zs) : Rps K H B (g_counter_left_out_bits_signed ds [] es) (g_counter_left_out_bits_signed vs [] zs) := by
  have r2 : Rps K H B [] [] := rfl
  exact (Rps.append r1 (Rps.append (Rps.take 1 (Rps.drop 0 r3)) (Rps.take 1 (Rps.drop 1 r3))))
theorem fn_counter_left_out_bits_signed (gd : Gd K mg) (c_first_wrong : Fn P w K mg base 3 "first_wrong" 5 false false F_first_wrong) (c_look_integers : Fn P w K mg base 3 "look_integers" 1 false false F_look_integers) (c_look_relation : Fn P w K mg base 3 "look_relation" 1 false false F_look_relation) (c_made_passes : Fn P w K mg base 153 "made_passes" 6 false false F_made_passes) (c_require_bits : Fn P w K mg base 3 "require_bits" 1 false false F_require_bits) {fd : FuncData} (F : FunD K "counter_left_out" "counter_left_out" (defArgs s_counter_left_out) (defBody s_counter_left_out) (defScope s_counter_left_out) [] [("bits", V.non), ("signed", (V.bl false))] (He.ga K "counter_left_out") fd) (gm : mg "counter_left_out" = some (.ref (He.ga K "counter_left_out"))) : FnK P w K mg base 154 "counter_left_out" 3 ["bits", "signed"] G_counter_left_out_bits_signed := by
  have hN : FnG P w K mg base 154 (He.ga K "counter_left_out") fd ["begin", "step", "relation", "bits", "signed"] (spD K 5 false false F_counter_left_out) := fn_mk (NN := ["begin", "step", "relation", "bits", "signed", "n"]) F S_counter_left_out fun cdv A outer s H E hg hr tk => b_counter_left_out gd c_first_wrong c_look_integers c_look_relation c_made_passes c_require_bits cdv A outer s H E hg hr tk
  obtain ⟨mv, hb⟩ := FunD.kbinds0 (ps := ["begin", "step", "relation", "bits", "signed"]) F 3 ["bits", "signed"] [] g_counter_left_out_bits_signed (by simp) (by simp) (fun r1 r2 r3 => kb_counter_left_out_bits_signed r1 r2 r3) fun D doc pm an cdv ct us mv ws l1 l2 l3 => (match us, mv, ws, l1, l2, l3 with
    | [_, _, _], [], [_, _], _, _, _ => rfl)
  exact ⟨⟨_, fd, ["begin", "step", "relation", "bits", "signed"], F_counter_left_out, fun ds es => g_counter_left_out_bits_signed ds [] es, _, _, hN, hb, fun ds es l1 l2 => (match ds, es, l1, l2 with
    | [_, _, _], [_, _], _, _ => ⟨rfl, rfl, fun H B vs zs r1 r2 => kr_counter_left_out_bits_signed r1 r2⟩)⟩, gm, F.kp⟩
abbrev s__law_caught : Stmt := top 37
theorem S__law_caught : FnScope ["_law_begin", "_law_step", "_law_relation", "_law_wide", "_law_caught_here", "error"] ["_law_begin", "_law_step", "_law_relation", "_law_wide"] (defScope s__law_caught) := ⟨rfl, rfl, rfl, by decide +kernel, rfl, by decide +kernel, by decide +kernel⟩
theorem b__law_caught (gd : Gd K mg)  (c_counter_left_out_bits : FnK P w K mg base 154 "counter_left_out" 3 ["bits"] G_counter_left_out_bits) (e_InvalidBits : ExC P w K mg base "InvalidBits" "value") (e_InvalidNumber : ExC P w K mg base "InvalidNumber" "value") (e_InvalidRelation : ExC P w K mg base "InvalidRelation" "relation") {f : Addr} (cdv : Value) (A : Around) (outer : List Env) (s : Shared) (H : Hp) (E : XK) (hg : A.guards = some []) (hr : Room 154 (A.deeper (envOfC "_law_caught" (defScope s__law_caught) s.heap.objs.size f cdv)))
    (tk : Takes (cnOf false P w K mg base ["_law_begin", "_law_step", "_law_relation", "_law_wide", "_law_caught_here", "error"] "_law_caught" (defScope s__law_caught) f cdv A outer s H E).X (cnOf false P w K mg base ["_law_begin", "_law_step", "_law_relation", "_law_wide", "_law_caught_here", "error"] "_law_caught" (defScope s__law_caught) f cdv A outer s H E).W) : DSs (cnOf false P w K mg base ["_law_begin", "_law_step", "_law_relation", "_law_wide", "_law_caught_here", "error"] "_law_caught" (defScope s__law_caught) f cdv A outer s H E) (defBody s__law_caught) m__law_caught := by
  have S := S__law_caught
  have hS : (cnOf false P w K mg base ["_law_begin", "_law_step", "_law_relation", "_law_wide", "_law_caught_here", "error"] "_law_caught" (defScope s__law_caught) f cdv A outer s H E).Any := fun _ _ _ _ h => h
  have hu := hr.units
  have kx := gd.kx
  exact (dss_cons hS (ds_set 4 S.nd de_non)
    (dss_cons hS (ds_try (by rfl) (by rfl) S.nd tk (takOf_ok kx (by decide)) (fun W pn xe tk2 hp2 => by exact (dss_one (ds_expr (de_callK c_counter_left_out_bits (by rfl) hg (hr.mono (by decide)) tk2 (by rfl) (da_cons (dv 0) (da_cons (dv 1) (da_cons (dv 2) da_nil))) (dk_cons (dv 3) dk_nil))))) (by exact (HdD.cons (by rfl) (by decide) e_InvalidBits.gm (by rfl) (by rfl) (fun a oe pn dd vs fs hz hf => by exact (dss_one (ds_set 4 S.nd (df_lst (da_cons de_str (da_cons (de_field rfl e_InvalidBits.xf e_InvalidBits.nof hz hf (by rfl) (by exact Or.inl rfl)) da_nil))).de))) (HdD.cons (by rfl) (by decide) e_InvalidNumber.gm (by rfl) (by rfl) (fun a oe pn dd vs fs hz hf => by exact (dss_one (ds_set 4 S.nd (df_lst (da_cons de_str (da_cons (de_field rfl e_InvalidNumber.xf e_InvalidNumber.nof hz hf (by rfl) (by exact Or.inl rfl)) da_nil))).de))) (HdD.cons (by rfl) (by decide) e_InvalidRelation.gm (by rfl) (by rfl) (fun a oe pn dd vs fs hz hf => by exact (dss_one (ds_set 4 S.nd (df_lst (da_cons de_str (da_cons (de_field rfl e_InvalidRelation.xf e_InvalidRelation.nof hz hf (by rfl) (by exact Or.inl rfl)) da_nil))).de))) HdD.nil)))))
    (dss_one (ds_ret (by rfl) (dv 4)))))
theorem fn__law_caught (gd : Gd K mg) (c_counter_left_out_bits : FnK P w K mg base 154 "counter_left_out" 3 ["bits"] G_counter_left_out_bits) (e_InvalidBits : ExC P w K mg base "InvalidBits" "value") (e_InvalidNumber : ExC P w K mg base "InvalidNumber" "value") (e_InvalidRelation : ExC P w K mg base "InvalidRelation" "relation") {fd : FuncData} (F : FunD K "_law_caught" "_law_caught" (defArgs s__law_caught) (defBody s__law_caught) (defScope s__law_caught) [] [] (He.ga K "_law_caught") fd) (gm : mg "_law_caught" = some (.ref (He.ga K "_law_caught"))) : Fn P w K mg base 155 "_law_caught" 4 false false F__law_caught :=
  ⟨⟨fd, ["_law_begin", "_law_step", "_law_relation", "_law_wide"], rfl, fn_mk (NN := ["_law_begin", "_law_step", "_law_relation", "_law_wide", "_law_caught_here", "error"]) F S__law_caught fun cdv A outer s H E hg hr tk => b__law_caught gd c_counter_left_out_bits e_InvalidBits e_InvalidNumber e_InvalidRelation cdv A outer s H E hg hr tk, F.bindsN fun _ _ _ _ _ _ us hl => match us, hl with | [_, _, _, _], _ => rfl⟩, gm, F.kp⟩
abbrev s__law_mixed : Stmt := top 27
theorem S__law_mixed : FnScope ["_law_cell", "_law_k", "_law_number"] ["_law_cell", "_law_k"] (defScope s__law_mixed) := ⟨rfl, rfl, rfl, by decide +kernel, rfl, by decide +kernel, by decide +kernel⟩
theorem b__law_mixed (gd : Gd K mg)   {f : Addr} (cdv : Value) (A : Around) (outer : List Env) (s : Shared) (H : Hp) (E : XK) (hg : A.guards = some []) (hr : Room 0 (A.deeper (envOfC "_law_mixed" (defScope s__law_mixed) s.heap.objs.size f cdv)))
    (tk : Takes (cnOf false P w K mg base ["_law_cell", "_law_k", "_law_number"] "_law_mixed" (defScope s__law_mixed) f cdv A outer s H E).X (cnOf false P w K mg base ["_law_cell", "_law_k", "_law_number"] "_law_mixed" (defScope s__law_mixed) f cdv A outer s H E).W) : DSs (cnOf false P w K mg base ["_law_cell", "_law_k", "_law_number"] "_law_mixed" (defScope s__law_mixed) f cdv A outer s H E) (defBody s__law_mixed) m__law_mixed := by
  have S := S__law_mixed
  have hS : (cnOf false P w K mg base ["_law_cell", "_law_k", "_law_number"] "_law_mixed" (defScope s__law_mixed) f cdv A outer s H E).Any := fun _ _ _ _ h => h
  have hu := hr.units
  exact (dss_cons hS (ds_set 2 S.nd (de_op op_modN r_mod (de_callTy call_int1 rl_int (by rfl) gd.f_int (by decide +kernel) (da_cons (de_op op_add r_add (de_op op_add r_add (de_op op_add r_add (de_op op_mulX r_mul (dv 0) de_int) (de_op op_mulX r_mul (de_op op_mulX r_mul de_int (dv 1)) (dv 1))) (de_op op_mulX r_mul de_int (dv 1))) de_int) da_nil)) de_int))
    (dss_one (ds_ret (by rfl) (de_op op_divZ r_div (de_op op_modN r_mod (de_callTy call_int1 rl_int (by rfl) gd.f_int (by decide +kernel) (da_cons (de_op op_add r_add (de_op op_add r_add (de_op op_mulX r_mul (dv 2) (dv 2)) (de_op op_mulX r_mul de_int (dv 2))) de_int) da_nil)) de_int) de_int))))
theorem fn__law_mixed (gd : Gd K mg)  {fd : FuncData} (F : FunD K "_law_mixed" "_law_mixed" (defArgs s__law_mixed) (defBody s__law_mixed) (defScope s__law_mixed) [] [] (He.ga K "_law_mixed") fd) (gm : mg "_law_mixed" = some (.ref (He.ga K "_law_mixed"))) : Fn P w K mg base 1 "_law_mixed" 2 false false F__law_mixed :=
  ⟨⟨fd, ["_law_cell", "_law_k"], rfl, fn_mk (NN := ["_law_cell", "_law_k", "_law_number"]) F S__law_mixed fun cdv A outer s H E hg hr tk => b__law_mixed gd  cdv A outer s H E hg hr tk, F.bindsN fun _ _ _ _ _ _ us hl => match us, hl with | [_, _], _ => rfl⟩, gm, F.kp⟩
abbrev s__law_draw : Stmt := top 29
theorem S__law_draw : FnScope ["_law_purse_here", "_law_out_of", "_law_drawn"] ["_law_purse_here", "_law_out_of"] (defScope s__law_draw) := ⟨rfl, rfl, rfl, by decide +kernel, rfl, by decide +kernel, by decide +kernel⟩
theorem b__law_draw (gd : Gd K mg)  (c__law_mixed : Fn P w K mg base 1 "_law_mixed" 2 false false F__law_mixed) {f : Addr} (cdv : Value) (A : Around) (outer : List Env) (s : Shared) (H : Hp) (E : XK) (hg : A.guards = some []) (hr : Room 1 (A.deeper (envOfC "_law_draw" (defScope s__law_draw) s.heap.objs.size f cdv)))
    (tk : Takes (cnOf false P w K mg base ["_law_purse_here", "_law_out_of", "_law_drawn"] "_law_draw" (defScope s__law_draw) f cdv A outer s H E).X (cnOf false P w K mg base ["_law_purse_here", "_law_out_of", "_law_drawn"] "_law_draw" (defScope s__law_draw) f cdv A outer s H E).W) : DSs (cnOf false P w K mg base ["_law_purse_here", "_law_out_of", "_law_drawn"] "_law_draw" (defScope s__law_draw) f cdv A outer s H E) (defBody s__law_draw) m__law_draw := by
  have S := S__law_draw
  have hS : (cnOf false P w K mg base ["_law_purse_here", "_law_out_of", "_law_drawn"] "_law_draw" (defScope s__law_draw) f cdv A outer s H E).Any := fun _ _ _ _ h => h
  have hu := hr.units
  exact (dss_cons hS (ds_if (dt_cmp op_gt r_gt (de_ixv 0 de_int (fun _ _ => rfl)) de_int (nomark _)) (dss_cons hS (ds_set 2 S.nd (de_op op_modN r_mod (de_callTy call_int1 rl_int (by rfl) gd.f_int (by decide +kernel) (da_cons (de_ixv 0 de_int (fun _ _ => rfl)) da_nil)) (dv 1)))
    (dss_cons hS (ds_asg (de_op op_divZ r_div (de_ixv 0 de_int (fun _ _ => rfl)) (dv 1)) (dg_item 0 (by rfl) (by exact Or.inl rfl) de_int))
    (dss_one (ds_ret (by rfl) (dv 2))))) dss_nil)
    (dss_cons hS (ds_asg (de_op op_add r_add (de_ixv 0 de_int (fun _ _ => rfl)) de_int) (dg_item 0 (by rfl) (by exact Or.inl rfl) de_int))
    (dss_one (ds_ret (by rfl) (de_op op_modN r_mod (de_callTy call_int1 rl_int (by rfl) gd.f_int (by decide +kernel) (da_cons (de_call c__law_mixed hg (hr.mono (by decide)) tk (by rfl) (da_cons (de_ixv 0 de_int (fun _ _ => rfl)) (da_cons (de_ixv 0 de_int (fun _ _ => rfl)) da_nil))) da_nil)) (dv 1))))))
theorem fn__law_draw (gd : Gd K mg) (c__law_mixed : Fn P w K mg base 1 "_law_mixed" 2 false false F__law_mixed) {fd : FuncData} (F : FunD K "_law_draw" "_law_draw" (defArgs s__law_draw) (defBody s__law_draw) (defScope s__law_draw) [] [] (He.ga K "_law_draw") fd) (gm : mg "_law_draw" = some (.ref (He.ga K "_law_draw"))) : Fn P w K mg base 2 "_law_draw" 2 true false F__law_draw :=
  ⟨⟨fd, ["_law_purse_here", "_law_out_of"], rfl, fn_mk (NN := ["_law_purse_here", "_law_out_of", "_law_drawn"]) F S__law_draw fun cdv A outer s H E hg hr tk => b__law_draw gd c__law_mixed cdv A outer s H E hg hr tk, F.bindsN fun _ _ _ _ _ _ us hl => match us, hl with | [_, _], _ => rfl⟩, gm, F.kp⟩
abbrev s__law_refused_right : Stmt := top 38
theorem S__law_refused_right : FnScope ["_law_purse_here", "_law_wide", "_law_odd", "_law_strange", "_law_bent", "_law_shut"] ["_law_purse_here"] (defScope s__law_refused_right) := ⟨rfl, rfl, rfl, by decide +kernel, rfl, by decide +kernel, by decide +kernel⟩
theorem b__law_refused_right (gd : Gd K mg)  (c__law_caught : Fn P w K mg base 155 "_law_caught" 4 false false F__law_caught) (c__law_draw : Fn P w K mg base 2 "_law_draw" 2 true false F__law_draw) {f : Addr} (cdv : Value) (A : Around) (outer : List Env) (s : Shared) (H : Hp) (E : XK) (hg : A.guards = some []) (hr : Room 155 (A.deeper (envOfC "_law_refused_right" (defScope s__law_refused_right) s.heap.objs.size f cdv)))
    (tk : Takes (cnOf false P w K mg base ["_law_purse_here", "_law_wide", "_law_odd", "_law_strange", "_law_bent", "_law_shut"] "_law_refused_right" (defScope s__law_refused_right) f cdv A outer s H E).X (cnOf false P w K mg base ["_law_purse_here", "_law_wide", "_law_odd", "_law_strange", "_law_bent", "_law_shut"] "_law_refused_right" (defScope s__law_refused_right) f cdv A outer s H E).W) : DSs (cnOf false P w K mg base ["_law_purse_here", "_law_wide", "_law_odd", "_law_strange", "_law_bent", "_law_shut"] "_law_refused_right" (defScope s__law_refused_right) f cdv A outer s H E) (defBody s__law_refused_right) m__law_refused_right := by
  have S := S__law_refused_right
  have hS : (cnOf false P w K mg base ["_law_purse_here", "_law_wide", "_law_odd", "_law_strange", "_law_bent", "_law_shut"] "_law_refused_right" (defScope s__law_refused_right) f cdv A outer s H E).Any := fun _ _ _ _ h => h
  have hu := hr.units
  exact (dss_cons hS (ds_set 1 S.nd (de_ix (df_lst (da_cons de_non (da_cons de_int (da_cons de_int da_nil)))).de (de_callW (i := 0) c__law_draw hg (hr.mono (by decide)) tk (by rfl) (by rfl) (by exact Or.inl rfl) (da_cons de_int da_nil)) (fun _ _ => rfl)))
    (dss_cons hS (ds_set 2 S.nd (de_ix (df_lst (da_cons de_non (da_cons de_bl (da_cons de_str (da_cons (df_lst (da_cons de_int da_nil)).de (da_cons (de_tup (da_cons de_int da_nil)) (da_cons de_bl da_nil))))))).de (de_callW (i := 0) c__law_draw hg (hr.mono (by decide)) tk (by rfl) (by rfl) (by exact Or.inl rfl) (da_cons de_int da_nil)) (fun _ _ => rfl)))
    (dss_cons hS (ds_set 3 S.nd (de_ix (df_lst (da_cons de_str (da_cons de_str (da_cons de_str (da_cons de_non (da_cons de_int (da_cons de_str (da_cons (df_lst (da_cons de_str da_nil)).de (da_cons de_bl da_nil))))))))).de (de_callW (i := 0) c__law_draw hg (hr.mono (by decide)) tk (by rfl) (by rfl) (by exact Or.inl rfl) (da_cons de_int da_nil)) (fun _ _ => rfl)))
    (dss_cons hS (ds_set 4 S.nd (de_ix (df_lst (da_cons (df_lst (da_cons (dv 2) (da_cons de_str da_nil))).de (da_cons (df_lst (da_cons de_int (da_cons (dv 2) da_nil))).de da_nil))).de (de_callW (i := 0) c__law_draw hg (hr.mono (by decide)) tk (by rfl) (by rfl) (by exact Or.inl rfl) (da_cons de_int da_nil)) (fun _ _ => rfl)))
    (dss_cons hS (ds_if (dt_cmp (op_ne2 hu) r_ne (de_callTy (call_strD hg hu) rl_str (by rfl) gd.f_str (by decide +kernel) (da_cons (de_call c__law_caught hg (hr.mono (by decide)) tk (by rfl) (da_cons (de_ix (dv 4) de_int (fun _ _ => rfl)) (da_cons (de_ix (dv 4) de_int (fun _ _ => rfl)) (da_cons (dv 3) (da_cons (dv 1) da_nil))))) da_nil)) (de_callTy (call_strD hg hu) rl_str (by rfl) gd.f_str (by decide +kernel) (da_cons (df_lst (da_cons de_str (da_cons (dv 2) da_nil))).de da_nil)) (nomark _)) (dss_one (ds_ret (by rfl) de_bl)) dss_nil)
    (dss_cons hS (ds_if (dt_cmp (op_ne2 hu) r_ne (de_callTy (call_strD hg hu) rl_str (by rfl) gd.f_str (by decide +kernel) (da_cons (de_call c__law_caught hg (hr.mono (by decide)) tk (by rfl) (da_cons de_int (da_cons (de_un un_neg r_neg de_int) (da_cons (dv 3) (da_cons (dv 1) da_nil))))) da_nil)) (de_callTy (call_strD hg hu) rl_str (by rfl) gd.f_str (by decide +kernel) (da_cons (df_lst (da_cons de_str (da_cons (dv 3) da_nil))).de da_nil)) (nomark _)) (dss_one (ds_ret (by rfl) de_bl)) dss_nil)
    (dss_cons hS (ds_set 5 S.nd (de_ix (df_lst (da_cons de_int (da_cons de_int (da_cons de_bl (da_cons de_str (da_cons (de_un un_neg r_neg de_int) (da_cons (df_lst (da_cons de_int da_nil)).de (da_cons (de_op op_powX r_pow de_int de_int) da_nil)))))))).de (de_callW (i := 0) c__law_draw hg (hr.mono (by decide)) tk (by rfl) (by rfl) (by exact Or.inl rfl) (da_cons de_int da_nil)) (fun _ _ => rfl)))
    (dss_one (ds_ret (by rfl) (de_cmp (op_eq2 hu) r_eq (de_callTy (call_strD hg hu) rl_str (by rfl) gd.f_str (by decide +kernel) (da_cons (de_call c__law_caught hg (hr.mono (by decide)) tk (by rfl) (da_cons (de_ix (dv 4) de_int (fun _ _ => rfl)) (da_cons (de_ix (dv 4) de_int (fun _ _ => rfl)) (da_cons (dv 3) (da_cons (dv 5) da_nil))))) da_nil)) (de_callTy (call_strD hg hu) rl_str (by rfl) gd.f_str (by decide +kernel) (da_cons (df_lst (da_cons de_str (da_cons (dv 5) da_nil))).de da_nil)) (nomark _)))))))))))
theorem fn__law_refused_right (gd : Gd K mg) (c__law_caught : Fn P w K mg base 155 "_law_caught" 4 false false F__law_caught) (c__law_draw : Fn P w K mg base 2 "_law_draw" 2 true false F__law_draw) {fd : FuncData} (F : FunD K "_law_refused_right" "_law_refused_right" (defArgs s__law_refused_right) (defBody s__law_refused_right) (defScope s__law_refused_right) [] [] (He.ga K "_law_refused_right") fd) (gm : mg "_law_refused_right" = some (.ref (He.ga K "_law_refused_right"))) : Fn P w K mg base 156 "_law_refused_right" 1 true false F__law_refused_right :=
  ⟨⟨fd, ["_law_purse_here"], rfl, fn_mk (NN := ["_law_purse_here", "_law_wide", "_law_odd", "_law_strange", "_law_bent", "_law_shut"]) F S__law_refused_right fun cdv A outer s H E hg hr tk => b__law_refused_right gd c__law_caught c__law_draw cdv A outer s H E hg hr tk, F.bindsN fun _ _ _ _ _ _ us hl => match us, hl with | [_], _ => rfl⟩, gm, F.kp⟩
abbrev s__law_asked : Stmt := top 35
theorem S__law_asked : FnScope ["_law_begin", "_law_step", "_law_relation", "_law_wide", "_law_both"] ["_law_begin", "_law_step", "_law_relation", "_law_wide", "_law_both"] (defScope s__law_asked) := ⟨rfl, rfl, rfl, by decide +kernel, rfl, by decide +kernel, by decide +kernel⟩
theorem b__law_asked (gd : Gd K mg)  (c_counter_left_out : FnK P w K mg base 154 "counter_left_out" 3 [] G_counter_left_out) (c_counter_left_out_bits_signed : FnK P w K mg base 154 "counter_left_out" 3 ["bits", "signed"] G_counter_left_out_bits_signed) {f : Addr} (cdv : Value) (A : Around) (outer : List Env) (s : Shared) (H : Hp) (E : XK) (hg : A.guards = some []) (hr : Room 154 (A.deeper (envOfC "_law_asked" (defScope s__law_asked) s.heap.objs.size f cdv)))
    (tk : Takes (cnOf false P w K mg base ["_law_begin", "_law_step", "_law_relation", "_law_wide", "_law_both"] "_law_asked" (defScope s__law_asked) f cdv A outer s H E).X (cnOf false P w K mg base ["_law_begin", "_law_step", "_law_relation", "_law_wide", "_law_both"] "_law_asked" (defScope s__law_asked) f cdv A outer s H E).W) : DSs (cnOf false P w K mg base ["_law_begin", "_law_step", "_law_relation", "_law_wide", "_law_both"] "_law_asked" (defScope s__law_asked) f cdv A outer s H E) (defBody s__law_asked) m__law_asked := by
  have S := S__law_asked
  have hS : (cnOf false P w K mg base ["_law_begin", "_law_step", "_law_relation", "_law_wide", "_law_both"] "_law_asked" (defScope s__law_asked) f cdv A outer s H E).Any := fun _ _ _ _ h => h
  have hu := hr.units
  exact (dss_cons hS (ds_if (dw_and (dt_cmp op_isN r_isN (dv 3) de_non (nomark _)) (dw_and1 (dt_not (dt_val (dv 4))))).dt (dss_one (ds_ret (by rfl) (de_callK c_counter_left_out (by rfl) hg (hr.mono (by decide)) tk (by rfl) (da_cons (dv 0) (da_cons (dv 1) (da_cons (dv 2) da_nil))) dk_nil))) dss_nil)
    (dss_one (ds_ret (by rfl) (de_callK c_counter_left_out_bits_signed (by rfl) hg (hr.mono (by decide)) tk (by rfl) (da_cons (dv 0) (da_cons (dv 1) (da_cons (dv 2) da_nil))) (dk_cons (dv 3) (dk_cons (dv 4) dk_nil))))))
theorem fn__law_asked (gd : Gd K mg) (c_counter_left_out : FnK P w K mg base 154 "counter_left_out" 3 [] G_counter_left_out) (c_counter_left_out_bits_signed : FnK P w K mg base 154 "counter_left_out" 3 ["bits", "signed"] G_counter_left_out_bits_signed) {fd : FuncData} (F : FunD K "_law_asked" "_law_asked" (defArgs s__law_asked) (defBody s__law_asked) (defScope s__law_asked) [] [] (He.ga K "_law_asked") fd) (gm : mg "_law_asked" = some (.ref (He.ga K "_law_asked"))) : Fn P w K mg base 155 "_law_asked" 5 false false F__law_asked :=
  ⟨⟨fd, ["_law_begin", "_law_step", "_law_relation", "_law_wide", "_law_both"], rfl, fn_mk (NN := ["_law_begin", "_law_step", "_law_relation", "_law_wide", "_law_both"]) F S__law_asked fun cdv A outer s H E hg hr tk => b__law_asked gd c_counter_left_out c_counter_left_out_bits_signed cdv A outer s H E hg hr tk, F.bindsN fun _ _ _ _ _ _ us hl => match us, hl with | [_, _, _, _, _], _ => rfl⟩, gm, F.kp⟩
abbrev s__law_goes_on : Stmt := top 32
theorem S__law_goes_on : FnScope ["_law_x", "_law_end", "_law_way"] ["_law_x", "_law_end", "_law_way"] (defScope s__law_goes_on) := ⟨rfl, rfl, rfl, by decide +kernel, rfl, by decide +kernel, by decide +kernel⟩
theorem b__law_goes_on (gd : Gd K mg)   {f : Addr} (cdv : Value) (A : Around) (outer : List Env) (s : Shared) (H : Hp) (E : XK) (hg : A.guards = some []) (hr : Room 0 (A.deeper (envOfC "_law_goes_on" (defScope s__law_goes_on) s.heap.objs.size f cdv)))
    (tk : Takes (cnOf false P w K mg base ["_law_x", "_law_end", "_law_way"] "_law_goes_on" (defScope s__law_goes_on) f cdv A outer s H E).X (cnOf false P w K mg base ["_law_x", "_law_end", "_law_way"] "_law_goes_on" (defScope s__law_goes_on) f cdv A outer s H E).W) : DSs (cnOf false P w K mg base ["_law_x", "_law_end", "_law_way"] "_law_goes_on" (defScope s__law_goes_on) f cdv A outer s H E) (defBody s__law_goes_on) m__law_goes_on := by
  have S := S__law_goes_on
  have hS : (cnOf false P w K mg base ["_law_x", "_law_end", "_law_way"] "_law_goes_on" (defScope s__law_goes_on) f cdv A outer s H E).Any := fun _ _ _ _ h => h
  have hu := hr.units
  exact (dss_one (ds_ret (by rfl) (de_ix (df_lst (da_cons (de_cmp op_lt r_lt (dv 0) (dv 1) (nomark _)) (da_cons (de_cmp op_le r_le (dv 0) (dv 1) (nomark _)) (da_cons (de_cmp op_gt r_gt (dv 0) (dv 1) (nomark _)) (da_cons (de_cmp op_ge r_ge (dv 0) (dv 1) (nomark _)) (da_cons (de_cmp (op_ne2 hu) r_ne (dv 0) (dv 1) (nomark _)) (da_cons (de_cmp (op_eq2 hu) r_eq (dv 0) (dv 1) (nomark _)) da_nil))))))).de (dv 2) (fun _ _ => rfl))))
theorem fn__law_goes_on (gd : Gd K mg)  {fd : FuncData} (F : FunD K "_law_goes_on" "_law_goes_on" (defArgs s__law_goes_on) (defBody s__law_goes_on) (defScope s__law_goes_on) [] [] (He.ga K "_law_goes_on") fd) (gm : mg "_law_goes_on" = some (.ref (He.ga K "_law_goes_on"))) : Fn P w K mg base 1 "_law_goes_on" 3 false false F__law_goes_on :=
  ⟨⟨fd, ["_law_x", "_law_end", "_law_way"], rfl, fn_mk (NN := ["_law_x", "_law_end", "_law_way"]) F S__law_goes_on fun cdv A outer s H E hg hr tk => b__law_goes_on gd  cdv A outer s H E hg hr tk, F.bindsN fun _ _ _ _ _ _ us hl => match us, hl with | [_, _, _], _ => rfl⟩, gm, F.kp⟩
abbrev s__law_word : Stmt := top 30
theorem S__law_word : FnScope ["_law_number", "_law_wide"] ["_law_number", "_law_wide"] (defScope s__law_word) := ⟨rfl, rfl, rfl, by decide +kernel, rfl, by decide +kernel, by decide +kernel⟩
theorem b__law_word (gd : Gd K mg)   {f : Addr} (cdv : Value) (A : Around) (outer : List Env) (s : Shared) (H : Hp) (E : XK) (hg : A.guards = some []) (hr : Room 0 (A.deeper (envOfC "_law_word" (defScope s__law_word) s.heap.objs.size f cdv)))
    (tk : Takes (cnOf false P w K mg base ["_law_number", "_law_wide"] "_law_word" (defScope s__law_word) f cdv A outer s H E).X (cnOf false P w K mg base ["_law_number", "_law_wide"] "_law_word" (defScope s__law_word) f cdv A outer s H E).W) : DSs (cnOf false P w K mg base ["_law_number", "_law_wide"] "_law_word" (defScope s__law_word) f cdv A outer s H E) (defBody s__law_word) m__law_word := by
  have S := S__law_word
  have hS : (cnOf false P w K mg base ["_law_number", "_law_wide"] "_law_word" (defScope s__law_word) f cdv A outer s H E).Any := fun _ _ _ _ h => h
  have hu := hr.units
  exact (dss_cons hS (ds_if (dt_cmp op_isN r_isN (dv 1) de_non (nomark _)) (dss_one (ds_ret (by rfl) (dv 0))) dss_nil)
    (dss_one (ds_ret (by rfl) (de_op op_modN r_mod (de_callTy call_int1 rl_int (by rfl) gd.f_int (by decide +kernel) (da_cons (dv 0) da_nil)) (de_op op_shlW r_shl de_int (dv 1))))))
theorem fn__law_word (gd : Gd K mg)  {fd : FuncData} (F : FunD K "_law_word" "_law_word" (defArgs s__law_word) (defBody s__law_word) (defScope s__law_word) [] [] (He.ga K "_law_word") fd) (gm : mg "_law_word" = some (.ref (He.ga K "_law_word"))) : Fn P w K mg base 1 "_law_word" 2 false false F__law_word :=
  ⟨⟨fd, ["_law_number", "_law_wide"], rfl, fn_mk (NN := ["_law_number", "_law_wide"]) F S__law_word fun cdv A outer s H E hg hr tk => b__law_word gd  cdv A outer s H E hg hr tk, F.bindsN fun _ _ _ _ _ _ us hl => match us, hl with | [_, _], _ => rfl⟩, gm, F.kp⟩
abbrev s__law_seen : Stmt := top 31
theorem S__law_seen : FnScope ["_law_number", "_law_wide", "_law_both"] ["_law_number", "_law_wide", "_law_both"] (defScope s__law_seen) := ⟨rfl, rfl, rfl, by decide +kernel, rfl, by decide +kernel, by decide +kernel⟩
theorem b__law_seen (gd : Gd K mg)  (c__law_word : Fn P w K mg base 1 "_law_word" 2 false false F__law_word) {f : Addr} (cdv : Value) (A : Around) (outer : List Env) (s : Shared) (H : Hp) (E : XK) (hg : A.guards = some []) (hr : Room 1 (A.deeper (envOfC "_law_seen" (defScope s__law_seen) s.heap.objs.size f cdv)))
    (tk : Takes (cnOf false P w K mg base ["_law_number", "_law_wide", "_law_both"] "_law_seen" (defScope s__law_seen) f cdv A outer s H E).X (cnOf false P w K mg base ["_law_number", "_law_wide", "_law_both"] "_law_seen" (defScope s__law_seen) f cdv A outer s H E).W) : DSs (cnOf false P w K mg base ["_law_number", "_law_wide", "_law_both"] "_law_seen" (defScope s__law_seen) f cdv A outer s H E) (defBody s__law_seen) m__law_seen := by
  have S := S__law_seen
  have hS : (cnOf false P w K mg base ["_law_number", "_law_wide", "_law_both"] "_law_seen" (defScope s__law_seen) f cdv A outer s H E).Any := fun _ _ _ _ h => h
  have hu := hr.units
  exact (dss_cons hS (ds_set 0 S.nd (de_call c__law_word hg (hr.mono (by decide)) tk (by rfl) (da_cons (dv 0) (da_cons (dv 1) da_nil))))
    (dss_cons hS (ds_if (dw_and (dt_cmp op_notN r_notN (dv 1) de_non (nomark _)) (dw_and (dt_val (dv 2)) (dw_and1 (dt_cmp op_ge r_ge (dv 0) (de_op op_shlW r_shl de_int (de_op op_sub r_sub (dv 1) de_int)) (nomark _))))).dt (dss_one (ds_ret (by rfl) (de_op op_sub r_sub (dv 0) (de_op op_shlW r_shl de_int (dv 1))))) dss_nil)
    (dss_one (ds_ret (by rfl) (dv 0)))))
theorem fn__law_seen (gd : Gd K mg) (c__law_word : Fn P w K mg base 1 "_law_word" 2 false false F__law_word) {fd : FuncData} (F : FunD K "_law_seen" "_law_seen" (defArgs s__law_seen) (defBody s__law_seen) (defScope s__law_seen) [] [] (He.ga K "_law_seen") fd) (gm : mg "_law_seen" = some (.ref (He.ga K "_law_seen"))) : Fn P w K mg base 2 "_law_seen" 3 false false F__law_seen :=
  ⟨⟨fd, ["_law_number", "_law_wide", "_law_both"], rfl, fn_mk (NN := ["_law_number", "_law_wide", "_law_both"]) F S__law_seen fun cdv A outer s H E hg hr tk => b__law_seen gd c__law_word cdv A outer s H E hg hr tk, F.bindsN fun _ _ _ _ _ _ us hl => match us, hl with | [_, _, _], _ => rfl⟩, gm, F.kp⟩
abbrev s__law_counted : Stmt := top 33
theorem S__law_counted : FnScope ["_law_begin", "_law_n", "_law_step", "_law_way", "_law_wide", "_law_both", "_law_x", "_law_end", "_law_most", "_law_count"] ["_law_begin", "_law_n", "_law_step", "_law_way", "_law_wide", "_law_both"] (defScope s__law_counted) := ⟨rfl, rfl, rfl, by decide +kernel, rfl, by decide +kernel, by decide +kernel⟩
theorem b__law_counted (gd : Gd K mg)  (c__law_goes_on : Fn P w K mg base 1 "_law_goes_on" 3 false false F__law_goes_on) (c__law_seen : Fn P w K mg base 2 "_law_seen" 3 false false F__law_seen) {f : Addr} (cdv : Value) (A : Around) (outer : List Env) (s : Shared) (H : Hp) (E : XK) (hg : A.guards = some []) (hr : Room 2 (A.deeper (envOfC "_law_counted" (defScope s__law_counted) s.heap.objs.size f cdv)))
    (tk : Takes (cnOf false P w K mg base ["_law_begin", "_law_n", "_law_step", "_law_way", "_law_wide", "_law_both", "_law_x", "_law_end", "_law_most", "_law_count"] "_law_counted" (defScope s__law_counted) f cdv A outer s H E).X (cnOf false P w K mg base ["_law_begin", "_law_n", "_law_step", "_law_way", "_law_wide", "_law_both", "_law_x", "_law_end", "_law_most", "_law_count"] "_law_counted" (defScope s__law_counted) f cdv A outer s H E).W) : DSs (cnOf false P w K mg base ["_law_begin", "_law_n", "_law_step", "_law_way", "_law_wide", "_law_both", "_law_x", "_law_end", "_law_most", "_law_count"] "_law_counted" (defScope s__law_counted) f cdv A outer s H E) (defBody s__law_counted) m__law_counted := by
  have S := S__law_counted
  have hS : (cnOf false P w K mg base ["_law_begin", "_law_n", "_law_step", "_law_way", "_law_wide", "_law_both", "_law_x", "_law_end", "_law_most", "_law_count"] "_law_counted" (defScope s__law_counted) f cdv A outer s H E).Any := fun _ _ _ _ h => h
  have hu := hr.units
  exact (dss_cons hS (ds_set 6 S.nd (de_call c__law_seen hg (hr.mono (by decide)) tk (by rfl) (da_cons (dv 0) (da_cons (dv 4) (da_cons (dv 5) da_nil)))))
    (dss_cons hS (ds_set 7 S.nd (de_call c__law_seen hg (hr.mono (by decide)) tk (by rfl) (da_cons (de_op op_add r_add (dv 0) (de_op op_mulX r_mul (dv 1) (dv 2))) (da_cons (dv 4) (da_cons (dv 5) da_nil)))))
    (dss_cons hS (ds_set 8 S.nd (de_op op_add r_add (de_op op_mulX r_mul de_int (dv 1)) de_int))
    (dss_cons hS (ds_if (dt_cmp op_notN r_notN (dv 4) de_non (nomark _)) (dss_one (ds_set 8 S.nd (de_op op_shlW r_shl de_int (dv 4)))) dss_nil)
    (dss_cons hS (ds_set 9 S.nd de_int)
    (dss_cons hS (ds_while 1000 hS (hp_of cdv A outer s H E) (dt_val (de_call c__law_goes_on hg (hr.mono (by decide)) tk (by rfl) (da_cons (dv 6) (da_cons (dv 7) (da_cons (dv 3) da_nil))))) (dss_cons hS (ds_if (dt_cmp op_gt r_gt (dv 9) (dv 8) (nomark _)) (dss_one (ds_ret (by rfl) de_non)) dss_nil)
    (dss_cons hS (ds_set 6 S.nd (de_call c__law_seen hg (hr.mono (by decide)) tk (by rfl) (da_cons (de_op op_add r_add (dv 6) (dv 2)) (da_cons (dv 4) (da_cons (dv 5) da_nil)))))
    (dss_one (ds_set 9 S.nd (de_op op_add r_add (dv 9) de_int))))))
    (dss_one (ds_ret (by rfl) (dv 9)))))))))
theorem fn__law_counted (gd : Gd K mg) (c__law_goes_on : Fn P w K mg base 1 "_law_goes_on" 3 false false F__law_goes_on) (c__law_seen : Fn P w K mg base 2 "_law_seen" 3 false false F__law_seen) {fd : FuncData} (F : FunD K "_law_counted" "_law_counted" (defArgs s__law_counted) (defBody s__law_counted) (defScope s__law_counted) [] [] (He.ga K "_law_counted") fd) (gm : mg "_law_counted" = some (.ref (He.ga K "_law_counted"))) : Fn P w K mg base 3 "_law_counted" 6 false false F__law_counted :=
  ⟨⟨fd, ["_law_begin", "_law_n", "_law_step", "_law_way", "_law_wide", "_law_both"], rfl, fn_mk (NN := ["_law_begin", "_law_n", "_law_step", "_law_way", "_law_wide", "_law_both", "_law_x", "_law_end", "_law_most", "_law_count"]) F S__law_counted fun cdv A outer s H E hg hr tk => b__law_counted gd c__law_goes_on c__law_seen cdv A outer s H E hg hr tk, F.bindsN fun _ _ _ _ _ _ us hl => match us, hl with | [_, _, _, _, _, _], _ => rfl⟩, gm, F.kp⟩
abbrev s__law_due : Stmt := top 34
theorem S__law_due : FnScope ["_law_begin", "_law_step", "_law_way", "_law_wide", "_law_both", "_law_most", "_law_n", "_law_made"] ["_law_begin", "_law_step", "_law_way", "_law_wide", "_law_both"] (defScope s__law_due) := ⟨rfl, rfl, rfl, by decide +kernel, rfl, by decide +kernel, by decide +kernel⟩
theorem b__law_due (gd : Gd K mg)  (c__law_counted : Fn P w K mg base 3 "_law_counted" 6 false false F__law_counted) {f : Addr} (cdv : Value) (A : Around) (outer : List Env) (s : Shared) (H : Hp) (E : XK) (hg : A.guards = some []) (hr : Room 3 (A.deeper (envOfC "_law_due" (defScope s__law_due) s.heap.objs.size f cdv)))
    (tk : Takes (cnOf false P w K mg base ["_law_begin", "_law_step", "_law_way", "_law_wide", "_law_both", "_law_most", "_law_n", "_law_made"] "_law_due" (defScope s__law_due) f cdv A outer s H E).X (cnOf false P w K mg base ["_law_begin", "_law_step", "_law_way", "_law_wide", "_law_both", "_law_most", "_law_n", "_law_made"] "_law_due" (defScope s__law_due) f cdv A outer s H E).W) : DSs (cnOf false P w K mg base ["_law_begin", "_law_step", "_law_way", "_law_wide", "_law_both", "_law_most", "_law_n", "_law_made"] "_law_due" (defScope s__law_due) f cdv A outer s H E) (defBody s__law_due) m__law_due := by
  have S := S__law_due
  have hS : (cnOf false P w K mg base ["_law_begin", "_law_step", "_law_way", "_law_wide", "_law_both", "_law_most", "_law_n", "_law_made"] "_law_due" (defScope s__law_due) f cdv A outer s H E).Any := fun _ _ _ _ h => h
  have hu := hr.units
  exact (dss_cons hS (ds_set 5 S.nd de_int)
    (dss_cons hS (ds_if (dt_cmp op_notN r_notN (dv 3) de_non (nomark _)) (dss_one (ds_set 5 S.nd (de_op op_shlW r_shl de_int (dv 3)))) dss_nil)
    (dss_cons hS (ds_for hS (hp_of cdv A outer s H E) (by rfl) (di_range1 (by rfl) gd.f_range (da_cons (de_op op_add r_add (dv 5) de_int) da_nil)) (dg_name 6 S.nd) (dss_cons hS (ds_set 7 S.nd (de_call c__law_counted hg (hr.mono (by decide)) tk (by rfl) (da_cons (dv 0) (da_cons (dv 6) (da_cons (dv 1) (da_cons (dv 2) (da_cons (dv 3) (da_cons (dv 4) da_nil))))))))
    (dss_one (ds_if (dt_cmp (op_ne2 hu) r_ne (dv 7) (dv 6) (nomark _)) (dss_one (ds_ret (by rfl) (de_tup (da_cons (dv 6) (da_cons (dv 7) da_nil))))) dss_nil))))
    (dss_one (ds_ret (by rfl) de_non)))))
theorem fn__law_due (gd : Gd K mg) (c__law_counted : Fn P w K mg base 3 "_law_counted" 6 false false F__law_counted) {fd : FuncData} (F : FunD K "_law_due" "_law_due" (defArgs s__law_due) (defBody s__law_due) (defScope s__law_due) [] [] (He.ga K "_law_due") fd) (gm : mg "_law_due" = some (.ref (He.ga K "_law_due"))) : Fn P w K mg base 4 "_law_due" 5 false false F__law_due :=
  ⟨⟨fd, ["_law_begin", "_law_step", "_law_way", "_law_wide", "_law_both"], rfl, fn_mk (NN := ["_law_begin", "_law_step", "_law_way", "_law_wide", "_law_both", "_law_most", "_law_n", "_law_made"]) F S__law_due fun cdv A outer s H E hg hr tk => b__law_due gd c__law_counted cdv A outer s H E hg hr tk, F.bindsN fun _ _ _ _ _ _ us hl => match us, hl with | [_, _, _, _, _], _ => rfl⟩, gm, F.kp⟩
abbrev s_passes : Stmt := top 22
theorem S_passes : FnScope ["begin", "bound", "step", "relation", "bits", "signed"] ["begin", "bound", "step", "relation", "bits", "signed"] (defScope s_passes) := ⟨rfl, rfl, rfl, by decide +kernel, rfl, by decide +kernel, by decide +kernel⟩
theorem b_passes (gd : Gd K mg)  (c_look_integers : Fn P w K mg base 3 "look_integers" 1 false false F_look_integers) (c_look_relation : Fn P w K mg base 3 "look_relation" 1 false false F_look_relation) (c_made_passes : Fn P w K mg base 153 "made_passes" 6 false false F_made_passes) (c_require_bits : Fn P w K mg base 3 "require_bits" 1 false false F_require_bits) {f : Addr} (cdv : Value) (A : Around) (outer : List Env) (s : Shared) (H : Hp) (E : XK) (hg : A.guards = some []) (hr : Room 153 (A.deeper (envOfC "passes" (defScope s_passes) s.heap.objs.size f cdv)))
    (tk : Takes (cnOf false P w K mg base ["begin", "bound", "step", "relation", "bits", "signed"] "passes" (defScope s_passes) f cdv A outer s H E).X (cnOf false P w K mg base ["begin", "bound", "step", "relation", "bits", "signed"] "passes" (defScope s_passes) f cdv A outer s H E).W) : DSs (cnOf false P w K mg base ["begin", "bound", "step", "relation", "bits", "signed"] "passes" (defScope s_passes) f cdv A outer s H E) (defBody s_passes) m_passes := by
  have S := S_passes
  have hS : (cnOf false P w K mg base ["begin", "bound", "step", "relation", "bits", "signed"] "passes" (defScope s_passes) f cdv A outer s H E).Any := fun _ _ _ _ h => h
  have hu := hr.units
  exact (dss_cons hS (ds_expr (de_call c_require_bits hg (hr.mono (by decide)) tk (by rfl) (da_cons (dv 4) da_nil)))
    (dss_cons hS (ds_expr (de_call c_look_integers hg (hr.mono (by decide)) tk (by rfl) (da_cons (df_lst (da_cons (dv 0) (da_cons (dv 1) (da_cons (dv 2) da_nil)))).de da_nil)))
    (dss_cons hS (ds_expr (de_call c_look_relation hg (hr.mono (by decide)) tk (by rfl) (da_cons (dv 3) da_nil)))
    (dss_one (ds_ret (by rfl) (de_call c_made_passes hg (hr.mono (by decide)) tk (by rfl) (da_cons (dv 0) (da_cons (dv 1) (da_cons (dv 2) (da_cons (dv 3) (da_cons (dv 4) (da_cons (dv 5) da_nil))))))))))))
def g_passes_bits_signed {α : Type} (us mv ws : List α) : List α := us ++ ((ws.drop 0).take 1 ++ ((ws.drop 1).take 1))
theorem kb_passes_bits_signed {vs mz zs : List V} {us mv ws : List Value} (r1 : Vals vs us) (r2 : Vals mz mv) (r3 : Vals zs ws) : Vals (g_passes_bits_signed vs mz zs) (g_passes_bits_signed us mv ws) :=
  r1.append (((r3.drop 0).take 1).append (((r3.drop 1).take 1)))
theorem kr_passes_bits_signed {K : PySem.W.Frag} {H : Hp} {B : Addr → Prop} {ds es : List D} {vs zs : List V} (r1 : Rps K H B ds vs) (r3 : Rps K H B es zs) : Rps K H B (g_passes_bits_signed ds [] es) (g_passes_bits_signed vs [] zs) := by
  have r2 : Rps K H B [] [] := rfl
  exact (Rps.append r1 (Rps.append (Rps.take 1 (Rps.drop 0 r3)) (Rps.take 1 (Rps.drop 1 r3))))
theorem fn_passes_bits_signed (gd : Gd K mg) (c_look_integers : Fn P w K mg base 3 "look_integers" 1 false false F_look_integers) (c_look_relation : Fn P w K mg base 3 "look_relation" 1 false false F_look_relation) (c_made_passes : Fn P w K mg base 153 "made_passes" 6 false false F_made_passes) (c_require_bits : Fn P w K mg base 3 "require_bits" 1 false false F_require_bits) {fd : FuncData} (F : FunD K "passes" "passes" (defArgs s_passes) (defBody s_passes) (defScope s_passes) [] [("bits", V.non), ("signed", (V.bl false))] (He.ga K "passes") fd) (gm : mg "passes" = some (.ref (He.ga K "passes"))) : FnK P w K mg base 154 "passes" 4 ["bits", "signed"] G_passes_bits_signed := by
  have hN : FnG P w K mg base 154 (He.ga K "passes") fd ["begin", "bound", "step", "relation", "bits", "signed"] (spD K 6 false false F_passes) := fn_mk (NN := ["begin", "bound", "step", "relation", "bits", "signed"]) F S_passes fun cdv A outer s H E hg hr tk => b_passes gd c_look_integers c_look_relation c_made_passes c_require_bits cdv A outer s H E hg hr tk
  obtain ⟨mv, hb⟩ := FunD.kbinds0 (ps := ["begin", "bound", "step", "relation", "bits", "signed"]) F 4 ["bits", "signed"] [] g_passes_bits_signed (by simp) (by simp) (fun r1 r2 r3 => kb_passes_bits_signed r1 r2 r3) fun D doc pm an cdv ct us mv ws l1 l2 l3 => (match us, mv, ws, l1, l2, l3 with
    | [_, _, _, _], [], [_, _], _, _, _ => rfl)
  exact ⟨⟨_, fd, ["begin", "bound", "step", "relation", "bits", "signed"], F_passes, fun ds es => g_passes_bits_signed ds [] es, _, _, hN, hb, fun ds es l1 l2 => (match ds, es, l1, l2 with
    | [_, _, _, _], [_, _], _, _ => ⟨rfl, rfl, fun H B vs zs r1 r2 => kr_passes_bits_signed r1 r2⟩)⟩, gm, F.kp⟩
abbrev s__law_great_right : Stmt := top 36
theorem S__law_great_right : FnScope ["_law_purse_here", "_law_way", "_law_relation", "_law_both", "_law_wide", "_law_modulus", "_law_begin", "_law_step", "_law_n", "_law_made", "_law_bound", "_law_due_here", "_law_here", "_law_pace", "_law_top", "_law_half"] ["_law_purse_here", "_law_way", "_law_relation", "_law_both"] (defScope s__law_great_right) := ⟨rfl, rfl, rfl, by decide +kernel, rfl, by decide +kernel, by decide +kernel⟩
theorem b__law_great_right (gd : Gd K mg)  (c__law_asked : Fn P w K mg base 155 "_law_asked" 5 false false F__law_asked) (c__law_draw : Fn P w K mg base 2 "_law_draw" 2 true false F__law_draw) (c__law_seen : Fn P w K mg base 2 "_law_seen" 3 false false F__law_seen) (c__law_word : Fn P w K mg base 1 "_law_word" 2 false false F__law_word) (c_passes_bits_signed : FnK P w K mg base 154 "passes" 4 ["bits", "signed"] G_passes_bits_signed) {f : Addr} (cdv : Value) (A : Around) (outer : List Env) (s : Shared) (H : Hp) (E : XK) (hg : A.guards = some []) (hr : Room 155 (A.deeper (envOfC "_law_great_right" (defScope s__law_great_right) s.heap.objs.size f cdv)))
    (tk : Takes (cnOf false P w K mg base ["_law_purse_here", "_law_way", "_law_relation", "_law_both", "_law_wide", "_law_modulus", "_law_begin", "_law_step", "_law_n", "_law_made", "_law_bound", "_law_due_here", "_law_here", "_law_pace", "_law_top", "_law_half"] "_law_great_right" (defScope s__law_great_right) f cdv A outer s H E).X (cnOf false P w K mg base ["_law_purse_here", "_law_way", "_law_relation", "_law_both", "_law_wide", "_law_modulus", "_law_begin", "_law_step", "_law_n", "_law_made", "_law_bound", "_law_due_here", "_law_here", "_law_pace", "_law_top", "_law_half"] "_law_great_right" (defScope s__law_great_right) f cdv A outer s H E).W) : DSs (cnOf false P w K mg base ["_law_purse_here", "_law_way", "_law_relation", "_law_both", "_law_wide", "_law_modulus", "_law_begin", "_law_step", "_law_n", "_law_made", "_law_bound", "_law_due_here", "_law_here", "_law_pace", "_law_top", "_law_half"] "_law_great_right" (defScope s__law_great_right) f cdv A outer s H E) (defBody s__law_great_right) m__law_great_right := by
  have S := S__law_great_right
  have hS : (cnOf false P w K mg base ["_law_purse_here", "_law_way", "_law_relation", "_law_both", "_law_wide", "_law_modulus", "_law_begin", "_law_step", "_law_n", "_law_made", "_law_bound", "_law_due_here", "_law_here", "_law_pace", "_law_top", "_law_half"] "_law_great_right" (defScope s__law_great_right) f cdv A outer s H E).Any := fun _ _ _ _ h => h
  have hu := hr.units
  exact (dss_cons hS (ds_set 4 S.nd (de_op op_add r_add de_int (de_callW (i := 0) c__law_draw hg (hr.mono (by decide)) tk (by rfl) (by rfl) (by exact Or.inl rfl) (da_cons de_int da_nil))))
    (dss_cons hS (ds_set 5 S.nd (de_op op_shlW r_shl de_int (dv 4)))
    (dss_cons hS (ds_set 6 S.nd (de_op op_sub r_sub (de_op op_add r_add (de_op op_mulX r_mul (de_callW (i := 0) c__law_draw hg (hr.mono (by decide)) tk (by rfl) (by rfl) (by exact Or.inl rfl) (da_cons (de_op op_powX r_pow de_int de_int) da_nil)) (de_op op_add r_add (de_op op_divZ r_div (dv 5) (de_op op_powX r_pow de_int de_int)) de_int)) (de_callW (i := 0) c__law_draw hg (hr.mono (by decide)) tk (by rfl) (by rfl) (by exact Or.inl rfl) (da_cons de_int da_nil))) de_int))
    (dss_cons hS (ds_set 7 S.nd (de_op op_shlW r_shl de_int (de_callW (i := 0) c__law_draw hg (hr.mono (by decide)) tk (by rfl) (by rfl) (by exact Or.inl rfl) (da_cons (dv 4) da_nil))))
    (dss_cons hS (ds_if (dt_cmp (op_eq2 hu) r_eq (de_callW (i := 0) c__law_draw hg (hr.mono (by decide)) tk (by rfl) (by rfl) (by exact Or.inl rfl) (da_cons de_int da_nil)) de_int (nomark _)) (dss_one (ds_set 7 S.nd (de_op op_add r_add (de_ix (df_lst (da_cons de_int (da_cons (dv 5) da_nil))).de (de_callW (i := 0) c__law_draw hg (hr.mono (by decide)) tk (by rfl) (by rfl) (by exact Or.inl rfl) (da_cons de_int da_nil)) (fun _ _ => rfl)) (de_op op_mulX r_mul (de_callW (i := 0) c__law_draw hg (hr.mono (by decide)) tk (by rfl) (by rfl) (by exact Or.inl rfl) (da_cons (de_op op_powX r_pow de_int de_int) da_nil)) (de_ix (df_lst (da_cons de_int (da_cons (de_un un_neg r_neg de_int) da_nil))).de (de_callW (i := 0) c__law_draw hg (hr.mono (by decide)) tk (by rfl) (by rfl) (by exact Or.inl rfl) (da_cons de_int da_nil)) (fun _ _ => rfl)))))) dss_nil)
    (dss_cons hS (ds_asg (de_call c__law_asked hg (hr.mono (by decide)) tk (by rfl) (da_cons (dv 6) (da_cons (dv 7) (da_cons (dv 2) (da_cons (dv 4) (da_cons (dv 3) da_nil)))))) (dg_seq (n := 2) (by rfl) (dgs_cons hS (dg_name 8 S.nd) (dgs_cons hS (dg_name 9 S.nd) dgs_nil))))
    (dss_cons hS (ds_set 10 S.nd (de_op op_add r_add (dv 6) (de_op op_mulX r_mul (dv 8) (dv 7))))
    (dss_cons hS (ds_set 11 S.nd (de_callK c_passes_bits_signed (by rfl) hg (hr.mono (by decide)) tk (by rfl) (da_cons (dv 6) (da_cons (dv 10) (da_cons (dv 7) (da_cons (dv 2) da_nil)))) (dk_cons (dv 4) (dk_cons (dv 3) dk_nil))))
    (dss_cons hS (ds_if (dw_or (dt_cmp (op_ne2 hu) r_ne (dv 9) (dv 11) (nomark _)) (dw_or1 (dt_cmp (op_eq2 hu) r_eq (dv 9) (dv 8) (nomark _)))).dt (dss_one (ds_ret (by rfl) de_bl)) dss_nil)
    (dss_cons hS (ds_set 12 S.nd (de_call c__law_seen hg (hr.mono (by decide)) tk (by rfl) (da_cons (dv 6) (da_cons (dv 4) (da_cons (dv 3) da_nil)))))
    (dss_cons hS (ds_set 13 S.nd (de_call c__law_word hg (hr.mono (by decide)) tk (by rfl) (da_cons (dv 7) (da_cons (dv 4) da_nil))))
    (dss_cons hS (ds_set 14 S.nd (de_op op_sub r_sub (dv 5) (de_op op_mulX r_mul (de_op op_divZ r_div (dv 5) de_int) (de_callTy call_int1 rl_int (by rfl) gd.f_int (by decide +kernel) (da_cons (dv 3) da_nil)))))
    (dss_cons hS (ds_if (dt_cmp op_in_seq r_in (dv 1) (de_tup (da_cons de_int (da_cons de_int (da_cons de_int da_nil)))) (by rfl)) (dss_one (ds_ret (by rfl) (de_cmp (op_eq2 hu) r_eq (dv 8) de_int (nomark _)))) dss_nil)
    (dss_cons hS (ds_if (dt_cmp (op_eq2 hu) r_eq (dv 1) de_int (nomark _)) (dss_cons hS (ds_set 15 S.nd (de_call c__law_word hg (hr.mono (by decide)) tk (by rfl) (da_cons (de_op op_mulX r_mul (de_op op_divZ r_div (dv 8) de_int) (dv 7)) (da_cons (dv 4) da_nil))))
    (dss_one (ds_ret (by rfl) (de_and (de_cmp (op_eq2 hu) r_eq (de_call c__law_word hg (hr.mono (by decide)) tk (by rfl) (da_cons (de_op op_mulX r_mul (dv 8) (dv 7)) (da_cons (dv 4) da_nil))) de_int (nomark _)) (de_one (de_or (de_cmp (op_eq2 hu) r_eq (dv 8) de_int (nomark _)) (de_one (de_cmp (op_ne2 hu) r_ne (dv 15) de_int (nomark _))))))))) dss_nil)
    (dss_cons hS (ds_if (dt_cmp (op_eq2 hu) r_eq (dv 1) de_int (nomark _)) (dss_cons hS (ds_set 13 S.nd (de_call c__law_word hg (hr.mono (by decide)) tk (by rfl) (da_cons (de_op op_sub r_sub de_int (dv 7)) (da_cons (dv 4) da_nil))))
    (dss_one (ds_set 12 S.nd (de_op op_sub r_sub (de_op op_sub r_sub (de_op op_mulX r_mul (dv 5) (de_callTy call_int1 rl_int (by rfl) gd.f_int (by decide +kernel) (da_cons (de_not (dv 3)) da_nil))) de_int) (dv 12))))) dss_nil)
    (dss_cons hS (ds_if (dt_cmp (op_eq2 hu) r_eq (dv 13) de_int (nomark _)) (dss_one (ds_ret (by rfl) (de_cmp (op_eq2 hu) r_eq (dv 8) de_int (nomark _)))) dss_nil)
    (dss_one (ds_ret (by rfl) (de_and (de_cmp op_lt r_lt (de_op op_add r_add (dv 12) (de_op op_mulX r_mul (dv 13) (de_op op_sub r_sub (dv 8) de_int))) (dv 14) (nomark _)) (de_one (de_cmp op_ge r_ge (de_op op_add r_add (dv 12) (de_op op_mulX r_mul (dv 13) (dv 8))) (dv 14) (nomark _))))))))))))))))))))))
theorem fn__law_great_right (gd : Gd K mg) (c__law_asked : Fn P w K mg base 155 "_law_asked" 5 false false F__law_asked) (c__law_draw : Fn P w K mg base 2 "_law_draw" 2 true false F__law_draw) (c__law_seen : Fn P w K mg base 2 "_law_seen" 3 false false F__law_seen) (c__law_word : Fn P w K mg base 1 "_law_word" 2 false false F__law_word) (c_passes_bits_signed : FnK P w K mg base 154 "passes" 4 ["bits", "signed"] G_passes_bits_signed) {fd : FuncData} (F : FunD K "_law_great_right" "_law_great_right" (defArgs s__law_great_right) (defBody s__law_great_right) (defScope s__law_great_right) [] [] (He.ga K "_law_great_right") fd) (gm : mg "_law_great_right" = some (.ref (He.ga K "_law_great_right"))) : Fn P w K mg base 156 "_law_great_right" 4 true false F__law_great_right :=
  ⟨⟨fd, ["_law_purse_here", "_law_way", "_law_relation", "_law_both"], rfl, fn_mk (NN := ["_law_purse_here", "_law_way", "_law_relation", "_law_both", "_law_wide", "_law_modulus", "_law_begin", "_law_step", "_law_n", "_law_made", "_law_bound", "_law_due_here", "_law_here", "_law_pace", "_law_top", "_law_half"]) F S__law_great_right fun cdv A outer s H E hg hr tk => b__law_great_right gd c__law_asked c__law_draw c__law_seen c__law_word c_passes_bits_signed cdv A outer s H E hg hr tk, F.bindsN fun _ _ _ _ _ _ us hl => match us, hl with | [_, _, _, _], _ => rfl⟩, gm, F.kp⟩
abbrev s__law_right : Stmt := top 39
theorem S__law_right : FnScope ["_law_purse_here", "_law_way", "_law_relation", "_law_both", "_law_wide", "_law_begin", "_law_step", "_law_told"] ["_law_purse_here"] (defScope s__law_right) := ⟨rfl, rfl, rfl, by decide +kernel, rfl, by decide +kernel, by decide +kernel⟩
theorem b__law_right (gd : Gd K mg)  (c__law_asked : Fn P w K mg base 155 "_law_asked" 5 false false F__law_asked) (c__law_draw : Fn P w K mg base 2 "_law_draw" 2 true false F__law_draw) (c__law_due : Fn P w K mg base 4 "_law_due" 5 false false F__law_due) (c__law_great_right : Fn P w K mg base 156 "_law_great_right" 4 true false F__law_great_right) {f : Addr} (cdv : Value) (A : Around) (outer : List Env) (s : Shared) (H : Hp) (E : XK) (hg : A.guards = some []) (hr : Room 156 (A.deeper (envOfC "_law_right" (defScope s__law_right) s.heap.objs.size f cdv)))
    (tk : Takes (cnOf false P w K mg base ["_law_purse_here", "_law_way", "_law_relation", "_law_both", "_law_wide", "_law_begin", "_law_step", "_law_told"] "_law_right" (defScope s__law_right) f cdv A outer s H E).X (cnOf false P w K mg base ["_law_purse_here", "_law_way", "_law_relation", "_law_both", "_law_wide", "_law_begin", "_law_step", "_law_told"] "_law_right" (defScope s__law_right) f cdv A outer s H E).W) : DSs (cnOf false P w K mg base ["_law_purse_here", "_law_way", "_law_relation", "_law_both", "_law_wide", "_law_begin", "_law_step", "_law_told"] "_law_right" (defScope s__law_right) f cdv A outer s H E) (defBody s__law_right) m__law_right := by
  have S := S__law_right
  have hS : (cnOf false P w K mg base ["_law_purse_here", "_law_way", "_law_relation", "_law_both", "_law_wide", "_law_begin", "_law_step", "_law_told"] "_law_right" (defScope s__law_right) f cdv A outer s H E).Any := fun _ _ _ _ h => h
  have hu := hr.units
  exact (dss_cons hS (ds_set 1 S.nd (de_callW (i := 0) c__law_draw hg (hr.mono (by decide)) tk (by rfl) (by rfl) (by exact Or.inl rfl) (da_cons de_int da_nil)))
    (dss_cons hS (ds_set 2 S.nd (de_ix (df_lst (da_cons de_str (da_cons de_str (da_cons de_str (da_cons de_str (da_cons de_str (da_cons de_str da_nil))))))).de (dv 1) (fun _ _ => rfl)))
    (dss_cons hS (ds_set 3 S.nd (de_cmp (op_eq2 hu) r_eq (de_callW (i := 0) c__law_draw hg (hr.mono (by decide)) tk (by rfl) (by rfl) (by exact Or.inl rfl) (da_cons de_int da_nil)) de_int (nomark _)))
    (dss_cons hS (ds_set 4 S.nd (de_ix (df_lst (da_cons de_non (da_cons (de_op op_add r_add de_int (de_callW (i := 0) c__law_draw hg (hr.mono (by decide)) tk (by rfl) (by rfl) (by exact Or.inl rfl) (da_cons de_int da_nil))) (da_cons (de_op op_add r_add de_int (de_callW (i := 0) c__law_draw hg (hr.mono (by decide)) tk (by rfl) (by rfl) (by exact Or.inl rfl) (da_cons de_int da_nil))) da_nil)))).de (de_callW (i := 0) c__law_draw hg (hr.mono (by decide)) tk (by rfl) (by rfl) (by exact Or.inl rfl) (da_cons de_int da_nil)) (fun _ _ => rfl)))
    (dss_cons hS (ds_par (by rfl) S.nd (by rfl) (by rfl) (by decide) (by rfl) (by rfl) (da_cons (de_op op_sub r_sub (de_callW (i := 0) c__law_draw hg (hr.mono (by decide)) tk (by rfl) (by rfl) (by exact Or.inl rfl) (da_cons de_int da_nil)) de_int) (da_cons (de_op op_sub r_sub (de_callW (i := 0) c__law_draw hg (hr.mono (by decide)) tk (by rfl) (by rfl) (by exact Or.inl rfl) (da_cons de_int da_nil)) de_int) da_nil)) (by rfl))
    (dss_cons hS (ds_set 7 S.nd (de_call c__law_asked hg (hr.mono (by decide)) tk (by rfl) (da_cons (dv 5) (da_cons (dv 6) (da_cons (dv 2) (da_cons (dv 4) (da_cons (dv 3) da_nil)))))))
    (dss_cons hS (ds_if (dt_cmp (op_ne2 hu) r_ne (de_callTy (call_strD hg hu) rl_str (by rfl) gd.f_str (by decide +kernel) (da_cons (dv 7) da_nil)) (de_callTy (call_strD hg hu) rl_str (by rfl) gd.f_str (by decide +kernel) (da_cons (de_call c__law_due hg (hr.mono (by decide)) tk (by rfl) (da_cons (dv 5) (da_cons (dv 6) (da_cons (dv 1) (da_cons (dv 4) (da_cons (dv 3) da_nil)))))) da_nil)) (nomark _)) (dss_one (ds_ret (by rfl) de_bl)) dss_nil)
    (dss_one (ds_ret (by rfl) (de_callW (i := 0) c__law_great_right hg (hr.mono (by decide)) tk (by rfl) (by rfl) (by exact Or.inl rfl) (da_cons (dv 1) (da_cons (dv 2) (da_cons (dv 3) da_nil)))))))))))))
theorem fn__law_right (gd : Gd K mg) (c__law_asked : Fn P w K mg base 155 "_law_asked" 5 false false F__law_asked) (c__law_draw : Fn P w K mg base 2 "_law_draw" 2 true false F__law_draw) (c__law_due : Fn P w K mg base 4 "_law_due" 5 false false F__law_due) (c__law_great_right : Fn P w K mg base 156 "_law_great_right" 4 true false F__law_great_right) {fd : FuncData} (F : FunD K "_law_right" "_law_right" (defArgs s__law_right) (defBody s__law_right) (defScope s__law_right) [] [] (He.ga K "_law_right") fd) (gm : mg "_law_right" = some (.ref (He.ga K "_law_right"))) : Fn P w K mg base 157 "_law_right" 1 true false F__law_right :=
  ⟨⟨fd, ["_law_purse_here"], rfl, fn_mk (NN := ["_law_purse_here", "_law_way", "_law_relation", "_law_both", "_law_wide", "_law_begin", "_law_step", "_law_told"]) F S__law_right fun cdv A outer s H E hg hr tk => b__law_right gd c__law_asked c__law_draw c__law_due c__law_great_right cdv A outer s H E hg hr tk, F.bindsN fun _ _ _ _ _ _ us hl => match us, hl with | [_], _ => rfl⟩, gm, F.kp⟩
abbrev s_law : Stmt := top 40
theorem S_law : FnScope ["_law_script", "_law_at", "_law_purse_here", "_law_turn", "_law_told"] ["_law_script"] (defScope s_law) := ⟨rfl, rfl, rfl, by decide +kernel, rfl, by decide +kernel, by decide +kernel⟩
theorem b_law (gd : Gd K mg)  (c__law_purse : Fn P w K mg base 1 "_law_purse" 2 false true F__law_purse) (c__law_refused_right : Fn P w K mg base 156 "_law_refused_right" 1 true false F__law_refused_right) (c__law_right : Fn P w K mg base 157 "_law_right" 1 true false F__law_right) (c_counter_left_out_bits : FnK P w K mg base 154 "counter_left_out" 3 ["bits"] G_counter_left_out_bits) (c_counter_left_out : FnK P w K mg base 154 "counter_left_out" 3 [] G_counter_left_out) {f : Addr} (cdv : Value) (A : Around) (outer : List Env) (s : Shared) (H : Hp) (E : XK) (hg : A.guards = some []) (hr : Room 157 (A.deeper (envOfC "law" (defScope s_law) s.heap.objs.size f cdv)))
    (tk : Takes (cnOf false P w K mg base ["_law_script", "_law_at", "_law_purse_here", "_law_turn", "_law_told"] "law" (defScope s_law) f cdv A outer s H E).X (cnOf false P w K mg base ["_law_script", "_law_at", "_law_purse_here", "_law_turn", "_law_told"] "law" (defScope s_law) f cdv A outer s H E).W) : DSs (cnOf false P w K mg base ["_law_script", "_law_at", "_law_purse_here", "_law_turn", "_law_told"] "law" (defScope s_law) f cdv A outer s H E) (defBody s_law) m_law := by
  have S := S_law
  have hS : (cnOf false P w K mg base ["_law_script", "_law_at", "_law_purse_here", "_law_turn", "_law_told"] "law" (defScope s_law) f cdv A outer s H E).Any := fun _ _ _ _ h => h
  have hu := hr.units
  exact (dss_cons hS (ds_for hS (hp_of cdv A outer s H E) (by rfl) (di_range1 (by rfl) gd.f_range (da_cons (de_op op_add r_add de_int (de_callB (id := "min") (call_min2 rfl) rl_min (by rfl) gd.f_min (by decide +kernel) (da_cons de_int (da_cons (de_callB (id := "len") call_len rl_len (by rfl) gd.f_len (by decide +kernel) (da_cons (dv 0) da_nil)) da_nil)))) da_nil)) (dg_name 1 S.nd) (dss_cons hS (ds_own 2 S.nd (de_callF c__law_purse hg (hr.mono (by decide)) tk (by rfl) (da_cons (dv 0) (da_cons (dv 1) da_nil))))
    (dss_cons hS (ds_for hS (hp_of cdv A outer s H E) (by rfl) (di_range1 (by rfl) gd.f_range (da_cons de_int da_nil)) (dg_name 3 S.nd) (dss_one (ds_if (dt_not (dt_val (de_callW (i := 2) c__law_right hg (hr.mono (by decide)) tk (by rfl) (by rfl) (by exact Or.inl rfl) da_nil))) (dss_one (ds_ret (by rfl) de_bl)) dss_nil)))
    (dss_one (ds_if (dt_not (dt_val (de_callW (i := 2) c__law_refused_right hg (hr.mono (by decide)) tk (by rfl) (by rfl) (by exact Or.inl rfl) da_nil))) (dss_one (ds_ret (by rfl) de_bl)) dss_nil)))))
    (dss_cons hS (ds_set 4 S.nd (df_lst (da_cons (de_callK c_counter_left_out (by rfl) hg (hr.mono (by decide)) tk (by rfl) (da_cons de_int (da_cons de_int (da_cons de_str da_nil))) dk_nil) (da_cons (de_callK c_counter_left_out (by rfl) hg (hr.mono (by decide)) tk (by rfl) (da_cons de_int (da_cons de_int (da_cons de_str da_nil))) dk_nil) (da_cons (de_callK c_counter_left_out_bits (by rfl) hg (hr.mono (by decide)) tk (by rfl) (da_cons de_int (da_cons de_int (da_cons de_str da_nil))) (dk_cons de_int dk_nil)) da_nil)))).de)
    (dss_one (ds_ret (by rfl) (de_and (de_cmp (op_eq2 hu) r_eq (dv 4) (df_lst (da_cons de_non (da_cons (de_tup (da_cons de_int (da_cons de_int da_nil))) (da_cons (de_tup (da_cons de_int (da_cons de_int da_nil))) da_nil)))).de (nomark _)) (de_one (de_cmp (op_eq2 hu) r_eq (de_callK c_counter_left_out_bits (by rfl) hg (hr.mono (by decide)) tk (by rfl) (da_cons de_int (da_cons de_int (da_cons de_str da_nil))) (dk_cons de_int dk_nil)) (de_tup (da_cons de_int (da_cons de_int da_nil))) (nomark _))))))))
theorem fn_law (gd : Gd K mg) (c__law_purse : Fn P w K mg base 1 "_law_purse" 2 false true F__law_purse) (c__law_refused_right : Fn P w K mg base 156 "_law_refused_right" 1 true false F__law_refused_right) (c__law_right : Fn P w K mg base 157 "_law_right" 1 true false F__law_right) (c_counter_left_out_bits : FnK P w K mg base 154 "counter_left_out" 3 ["bits"] G_counter_left_out_bits) (c_counter_left_out : FnK P w K mg base 154 "counter_left_out" 3 [] G_counter_left_out) {fd : FuncData} (F : FunD K "law" "law" (defArgs s_law) (defBody s_law) (defScope s_law) [] [] (He.ga K "law") fd) (gm : mg "law" = some (.ref (He.ga K "law"))) : Fn P w K mg base 158 "law" 1 false false F_law :=
  ⟨⟨fd, ["_law_script"], rfl, fn_mk (NN := ["_law_script", "_law_at", "_law_purse_here", "_law_turn", "_law_told"]) F S_law fun cdv A outer s H E hg hr tk => b_law gd c__law_purse c__law_refused_right c__law_right c_counter_left_out_bits c_counter_left_out cdv A outer s H E hg hr tk, F.bindsN fun _ _ _ _ _ _ us hl => match us, hl with | [_], _ => rfl⟩, gm, F.kp⟩
end
end DL
set_option Elab.async false
set_option linter.all false
set_option maxRecDepth 100000
set_option maxHeartbeats 0
/-! printed by wip/gen.py: the head -/
namespace DL
open PySem PySem.Spec PyProof.Rows L2
section
def d__law_purse : He.DefD := ⟨("_law_purse", none), "_law_purse", "_law_purse", defArgs s__law_purse, defBody s__law_purse, defScope s__law_purse, [], []⟩
def d_word : He.DefD := ⟨("word", none), "word", "word", defArgs s_word, defBody s_word, defScope s_word, [], []⟩
def d_first_fall : He.DefD := ⟨("first_fall", none), "first_fall", "first_fall", defArgs s_first_fall, defBody s_first_fall, defScope s_first_fall, [], []⟩
def d_twos : He.DefD := ⟨("twos", none), "twos", "twos", defArgs s_twos, defBody s_twos, defScope s_twos, [], []⟩
def d_first_wrong : He.DefD := ⟨("first_wrong", none), "first_wrong", "first_wrong", defArgs s_first_wrong, defBody s_first_wrong, defScope s_first_wrong, [], []⟩
def d_is_integer : He.DefD := ⟨("is_integer", none), "is_integer", "is_integer", defArgs s_is_integer, defBody s_is_integer, defScope s_is_integer, [], []⟩
def d_look_integers : He.DefD := ⟨("look_integers", none), "look_integers", "look_integers", defArgs s_look_integers, defBody s_look_integers, defScope s_look_integers, [], []⟩
def d_look_relation : He.DefD := ⟨("look_relation", none), "look_relation", "look_relation", defArgs s_look_relation, defBody s_look_relation, defScope s_look_relation, [], []⟩
def d_equal_passes : He.DefD := ⟨("equal_passes", none), "equal_passes", "equal_passes", defArgs s_equal_passes, defBody s_equal_passes, defScope s_equal_passes, [], []⟩
def d_inverse : He.DefD := ⟨("inverse", none), "inverse", "inverse", defArgs s_inverse, defBody s_inverse, defScope s_inverse, [], []⟩
def d_meeting : He.DefD := ⟨("meeting", none), "meeting", "meeting", defArgs s_meeting, defBody s_meeting, defScope s_meeting, [], []⟩
def d_mirrored : He.DefD := ⟨("mirrored", none), "mirrored", "mirrored", defArgs s_mirrored, defBody s_mirrored, defScope s_mirrored, [], []⟩
def d_first_within : He.DefD := ⟨("first_within", none), "first_within", "first_within", defArgs s_first_within, defBody s_first_within, defScope s_first_within, [], []⟩
def d_rising : He.DefD := ⟨("rising", none), "rising", "rising", defArgs s_rising, defBody s_rising, defScope s_rising, [], []⟩
def d_made_passes : He.DefD := ⟨("made_passes", none), "made_passes", "made_passes", defArgs s_made_passes, defBody s_made_passes, defScope s_made_passes, [], []⟩
def d_require_bits : He.DefD := ⟨("require_bits", none), "require_bits", "require_bits", defArgs s_require_bits, defBody s_require_bits, defScope s_require_bits, [], []⟩
def d_counter_left_out : He.DefD := ⟨("counter_left_out", none), "counter_left_out", "counter_left_out", defArgs s_counter_left_out, defBody s_counter_left_out, defScope s_counter_left_out, [], [("bits", .non), ("signed", (.bl false))]⟩
def d__law_caught : He.DefD := ⟨("_law_caught", none), "_law_caught", "_law_caught", defArgs s__law_caught, defBody s__law_caught, defScope s__law_caught, [], []⟩
def d__law_mixed : He.DefD := ⟨("_law_mixed", none), "_law_mixed", "_law_mixed", defArgs s__law_mixed, defBody s__law_mixed, defScope s__law_mixed, [], []⟩
def d__law_draw : He.DefD := ⟨("_law_draw", none), "_law_draw", "_law_draw", defArgs s__law_draw, defBody s__law_draw, defScope s__law_draw, [], []⟩
def d__law_refused_right : He.DefD := ⟨("_law_refused_right", none), "_law_refused_right", "_law_refused_right", defArgs s__law_refused_right, defBody s__law_refused_right, defScope s__law_refused_right, [], []⟩
def d__law_asked : He.DefD := ⟨("_law_asked", none), "_law_asked", "_law_asked", defArgs s__law_asked, defBody s__law_asked, defScope s__law_asked, [], []⟩
def d__law_goes_on : He.DefD := ⟨("_law_goes_on", none), "_law_goes_on", "_law_goes_on", defArgs s__law_goes_on, defBody s__law_goes_on, defScope s__law_goes_on, [], []⟩
def d__law_word : He.DefD := ⟨("_law_word", none), "_law_word", "_law_word", defArgs s__law_word, defBody s__law_word, defScope s__law_word, [], []⟩
def d__law_seen : He.DefD := ⟨("_law_seen", none), "_law_seen", "_law_seen", defArgs s__law_seen, defBody s__law_seen, defScope s__law_seen, [], []⟩
def d__law_counted : He.DefD := ⟨("_law_counted", none), "_law_counted", "_law_counted", defArgs s__law_counted, defBody s__law_counted, defScope s__law_counted, [], []⟩
def d__law_due : He.DefD := ⟨("_law_due", none), "_law_due", "_law_due", defArgs s__law_due, defBody s__law_due, defScope s__law_due, [], []⟩
def d_passes : He.DefD := ⟨("passes", none), "passes", "passes", defArgs s_passes, defBody s_passes, defScope s_passes, [], [("bits", .non), ("signed", (.bl false))]⟩
def d__law_great_right : He.DefD := ⟨("_law_great_right", none), "_law_great_right", "_law_great_right", defArgs s__law_great_right, defBody s__law_great_right, defScope s__law_great_right, [], []⟩
def d__law_right : He.DefD := ⟨("_law_right", none), "_law_right", "_law_right", defArgs s__law_right, defBody s__law_right, defScope s__law_right, [], []⟩
def d_law : He.DefD := ⟨("law", none), "law", "law", defArgs s_law, defBody s_law, defScope s_law, [], []⟩
abbrev si_InvalidBits : Stmt := inCls 0 (top 2)
def di_InvalidBits : He.DefD := ⟨("InvalidBits", some "__init__"), "__init__", "InvalidBits.__init__", defArgs si_InvalidBits, defBody si_InvalidBits, defScope si_InvalidBits, [], []⟩
theorem Si_InvalidBits : FnScope ["self", "value"] ["self", "value"] (defScope si_InvalidBits) := ⟨rfl, rfl, rfl, by decide +kernel, rfl, by decide +kernel, by decide +kernel⟩
abbrev si_InvalidNumber : Stmt := inCls 0 (top 3)
def di_InvalidNumber : He.DefD := ⟨("InvalidNumber", some "__init__"), "__init__", "InvalidNumber.__init__", defArgs si_InvalidNumber, defBody si_InvalidNumber, defScope si_InvalidNumber, [], []⟩
theorem Si_InvalidNumber : FnScope ["self", "value"] ["self", "value"] (defScope si_InvalidNumber) := ⟨rfl, rfl, rfl, by decide +kernel, rfl, by decide +kernel, by decide +kernel⟩
abbrev si_InvalidRelation : Stmt := inCls 0 (top 4)
def di_InvalidRelation : He.DefD := ⟨("InvalidRelation", some "__init__"), "__init__", "InvalidRelation.__init__", defArgs si_InvalidRelation, defBody si_InvalidRelation, defScope si_InvalidRelation, [], []⟩
theorem Si_InvalidRelation : FnScope ["self", "relation"] ["self", "relation"] (defScope si_InvalidRelation) := ⟨rfl, rfl, rfl, by decide +kernel, rfl, by decide +kernel, by decide +kernel⟩
def fn : List He.DefD := [d__law_purse, d_word, d_first_fall, d_twos, d_first_wrong, d_is_integer, d_look_integers, d_look_relation, d_equal_passes, d_inverse, d_meeting, d_mirrored, d_first_within, d_rising, d_made_passes, d_require_bits, d_counter_left_out, d__law_caught, d__law_mixed, d__law_draw, d__law_refused_right, d__law_asked, d__law_goes_on, d__law_word, d__law_seen, d__law_counted, d__law_due, d_passes, d__law_great_right, d__law_right, d_law, di_InvalidBits, di_InvalidNumber, di_InvalidRelation]
def fa : List He.Fa := [.glo "_law_purse", .glo "word", .glo "first_fall", .glo "twos", .glo "first_wrong", .glo "is_integer", .glo "look_integers", .glo "look_relation", .glo "equal_passes", .glo "inverse", .glo "meeting", .glo "mirrored", .glo "first_within", .glo "rising", .glo "made_passes", .glo "require_bits", .glo "counter_left_out", .glo "_law_caught", .glo "_law_mixed", .glo "_law_draw", .glo "_law_refused_right", .glo "_law_asked", .glo "_law_goes_on", .glo "_law_word", .glo "_law_seen", .glo "_law_counted", .glo "_law_due", .glo "passes", .glo "_law_great_right", .glo "_law_right", .glo "law", .free "bool", .free "int", .free "isinstance", .free "len", .free "max", .free "min", .free "range", .free "str", .int "MOST_BITS" 64, .glo "RELATIONS"]
def ck : List (PySem.W.Frag → Bool) := [excB "InvalidBits" "value", excB "InvalidNumber" "value", excB "InvalidRelation" "relation", fun K => He.tupB K "RELATIONS" (L_RELATIONS.map He.Dv.str), exmB exm]
abbrev R : PySem.W.OpenRow := PySem.W.OpenLaw.row PySem.Challenge.rw_tickregisters_k61_loops_without_counters
abbrev hk : PySem.W.Hook := hookX 5 fa fn ck
def ob (s : PySem.W.SharedT) : AlX := obsX 5 fa fn ck (HandSHeadRun.getT s)
theorem ob_eq (s : PySem.W.SharedT) : ob s = hk.obs s.abs := obsX_eq (HandSHeadRun.getT_eq s)
def loose : List Str := ((["TickError", "InvalidBits", "InvalidNumber", "InvalidRelation", "MOST_BITS", "is_integer", "require_bits", "word", "twos", "inverse", "RELATIONS", "look_integers", "look_relation", "first_within", "meeting", "rising", "equal_passes", "made_passes", "mirrored", "passes", "first_fall", "first_wrong", "counter_left_out", "_law_mixed", "_law_purse", "_law_draw", "_law_word", "_law_seen", "_law_goes_on", "_law_counted"] : List Str) ++ (["_law_due", "_law_asked", "_law_great_right", "_law_caught", "_law_refused_right", "_law_right"] : List Str))
theorem run (w : World) : HandSHeadRun.RunEq R (PySem.W.view R.prog [40]) hk ob 4000 loose w := by
  intro os
  kernel_rfl
end
theorem facts {P : Program} {w : World} {K : PySem.W.Frag} {h : Heap} {mg : Str → Option Value} {f : Addr} (X : K.In h) (G : h.Ns mainGlobals mg) (hfa : mg ("law" : Str) = some (.ref f)) (c : SaysX fa fn ck K) :
    ∃ fd : FuncData, (∀ (s : Shared) (v : Value), BindsTo s fd ⟨[v], []⟩ [("_law_script", v)]) ∧ ∀ base : Heap, K.In base → base.Ns mainGlobals mg → FnG P w K mg base 158 f fd ["_law_script"] (spD K 1 false false F_law) := by
  have gd : Gd K mg := ⟨He.free_ok X G (c.1.fact 31 (f := .free "bool") rfl),
    He.free_ok X G (c.1.fact 32 (f := .free "int") rfl),
    He.free_ok X G (c.1.fact 33 (f := .free "isinstance") rfl),
    He.free_ok X G (c.1.fact 34 (f := .free "len") rfl),
    He.free_ok X G (c.1.fact 35 (f := .free "max") rfl),
    He.free_ok X G (c.1.fact 36 (f := .free "min") rfl),
    He.free_ok X G (c.1.fact 37 (f := .free "range") rfl),
    He.free_ok X G (c.1.fact 38 (f := .free "str") rfl),
    He.int_ok X G (c.1.fact 39 (f := .int "MOST_BITS" 64) rfl),
    ⟨He.glo_ok X G (c.1.fact 40 (f := .glo "RELATIONS") rfl), c.ck 3 rfl⟩,
    c.ck 4 rfl⟩
  obtain ⟨fd__law_purse, D__law_purse⟩ := c.1.def_ 0 (d := d__law_purse) rfl
  have g__law_purse := He.glo_ok X G (c.1.fact 0 (f := .glo "_law_purse") rfl)
  obtain ⟨fd_word, D_word⟩ := c.1.def_ 1 (d := d_word) rfl
  have g_word := He.glo_ok X G (c.1.fact 1 (f := .glo "word") rfl)
  obtain ⟨fd_first_fall, D_first_fall⟩ := c.1.def_ 2 (d := d_first_fall) rfl
  have g_first_fall := He.glo_ok X G (c.1.fact 2 (f := .glo "first_fall") rfl)
  obtain ⟨fd_twos, D_twos⟩ := c.1.def_ 3 (d := d_twos) rfl
  have g_twos := He.glo_ok X G (c.1.fact 3 (f := .glo "twos") rfl)
  obtain ⟨fd_first_wrong, D_first_wrong⟩ := c.1.def_ 4 (d := d_first_wrong) rfl
  have g_first_wrong := He.glo_ok X G (c.1.fact 4 (f := .glo "first_wrong") rfl)
  obtain ⟨fd_is_integer, D_is_integer⟩ := c.1.def_ 5 (d := d_is_integer) rfl
  have g_is_integer := He.glo_ok X G (c.1.fact 5 (f := .glo "is_integer") rfl)
  obtain ⟨fd_look_integers, D_look_integers⟩ := c.1.def_ 6 (d := d_look_integers) rfl
  have g_look_integers := He.glo_ok X G (c.1.fact 6 (f := .glo "look_integers") rfl)
  obtain ⟨fd_look_relation, D_look_relation⟩ := c.1.def_ 7 (d := d_look_relation) rfl
  have g_look_relation := He.glo_ok X G (c.1.fact 7 (f := .glo "look_relation") rfl)
  obtain ⟨fd_equal_passes, D_equal_passes⟩ := c.1.def_ 8 (d := d_equal_passes) rfl
  have g_equal_passes := He.glo_ok X G (c.1.fact 8 (f := .glo "equal_passes") rfl)
  obtain ⟨fd_inverse, D_inverse⟩ := c.1.def_ 9 (d := d_inverse) rfl
  have g_inverse := He.glo_ok X G (c.1.fact 9 (f := .glo "inverse") rfl)
  obtain ⟨fd_meeting, D_meeting⟩ := c.1.def_ 10 (d := d_meeting) rfl
  have g_meeting := He.glo_ok X G (c.1.fact 10 (f := .glo "meeting") rfl)
  obtain ⟨fd_mirrored, D_mirrored⟩ := c.1.def_ 11 (d := d_mirrored) rfl
  have g_mirrored := He.glo_ok X G (c.1.fact 11 (f := .glo "mirrored") rfl)
  obtain ⟨fd_first_within, D_first_within⟩ := c.1.def_ 12 (d := d_first_within) rfl
  have g_first_within := He.glo_ok X G (c.1.fact 12 (f := .glo "first_within") rfl)
  obtain ⟨fd_rising, D_rising⟩ := c.1.def_ 13 (d := d_rising) rfl
  have g_rising := He.glo_ok X G (c.1.fact 13 (f := .glo "rising") rfl)
  obtain ⟨fd_made_passes, D_made_passes⟩ := c.1.def_ 14 (d := d_made_passes) rfl
  have g_made_passes := He.glo_ok X G (c.1.fact 14 (f := .glo "made_passes") rfl)
  obtain ⟨fd_require_bits, D_require_bits⟩ := c.1.def_ 15 (d := d_require_bits) rfl
  have g_require_bits := He.glo_ok X G (c.1.fact 15 (f := .glo "require_bits") rfl)
  obtain ⟨fd_counter_left_out, D_counter_left_out⟩ := c.1.def_ 16 (d := d_counter_left_out) rfl
  have g_counter_left_out := He.glo_ok X G (c.1.fact 16 (f := .glo "counter_left_out") rfl)
  obtain ⟨fd__law_caught, D__law_caught⟩ := c.1.def_ 17 (d := d__law_caught) rfl
  have g__law_caught := He.glo_ok X G (c.1.fact 17 (f := .glo "_law_caught") rfl)
  obtain ⟨fd__law_mixed, D__law_mixed⟩ := c.1.def_ 18 (d := d__law_mixed) rfl
  have g__law_mixed := He.glo_ok X G (c.1.fact 18 (f := .glo "_law_mixed") rfl)
  obtain ⟨fd__law_draw, D__law_draw⟩ := c.1.def_ 19 (d := d__law_draw) rfl
  have g__law_draw := He.glo_ok X G (c.1.fact 19 (f := .glo "_law_draw") rfl)
  obtain ⟨fd__law_refused_right, D__law_refused_right⟩ := c.1.def_ 20 (d := d__law_refused_right) rfl
  have g__law_refused_right := He.glo_ok X G (c.1.fact 20 (f := .glo "_law_refused_right") rfl)
  obtain ⟨fd__law_asked, D__law_asked⟩ := c.1.def_ 21 (d := d__law_asked) rfl
  have g__law_asked := He.glo_ok X G (c.1.fact 21 (f := .glo "_law_asked") rfl)
  obtain ⟨fd__law_goes_on, D__law_goes_on⟩ := c.1.def_ 22 (d := d__law_goes_on) rfl
  have g__law_goes_on := He.glo_ok X G (c.1.fact 22 (f := .glo "_law_goes_on") rfl)
  obtain ⟨fd__law_word, D__law_word⟩ := c.1.def_ 23 (d := d__law_word) rfl
  have g__law_word := He.glo_ok X G (c.1.fact 23 (f := .glo "_law_word") rfl)
  obtain ⟨fd__law_seen, D__law_seen⟩ := c.1.def_ 24 (d := d__law_seen) rfl
  have g__law_seen := He.glo_ok X G (c.1.fact 24 (f := .glo "_law_seen") rfl)
  obtain ⟨fd__law_counted, D__law_counted⟩ := c.1.def_ 25 (d := d__law_counted) rfl
  have g__law_counted := He.glo_ok X G (c.1.fact 25 (f := .glo "_law_counted") rfl)
  obtain ⟨fd__law_due, D__law_due⟩ := c.1.def_ 26 (d := d__law_due) rfl
  have g__law_due := He.glo_ok X G (c.1.fact 26 (f := .glo "_law_due") rfl)
  obtain ⟨fd_passes, D_passes⟩ := c.1.def_ 27 (d := d_passes) rfl
  have g_passes := He.glo_ok X G (c.1.fact 27 (f := .glo "passes") rfl)
  obtain ⟨fd__law_great_right, D__law_great_right⟩ := c.1.def_ 28 (d := d__law_great_right) rfl
  have g__law_great_right := He.glo_ok X G (c.1.fact 28 (f := .glo "_law_great_right") rfl)
  obtain ⟨fd__law_right, D__law_right⟩ := c.1.def_ 29 (d := d__law_right) rfl
  have g__law_right := He.glo_ok X G (c.1.fact 29 (f := .glo "_law_right") rfl)
  obtain ⟨fd_law, D_law⟩ := c.1.def_ 30 (d := d_law) rfl
  have g_law := He.glo_ok X G (c.1.fact 30 (f := .glo "law") rfl)
  obtain ⟨fi_InvalidBits, I_InvalidBits⟩ := c.1.def_ 31 (d := di_InvalidBits) rfl
  obtain ⟨fi_InvalidNumber, I_InvalidNumber⟩ := c.1.def_ 32 (d := di_InvalidNumber) rfl
  obtain ⟨fi_InvalidRelation, I_InvalidRelation⟩ := c.1.def_ 33 (d := di_InvalidRelation) rfl
  have e := hfa.symm.trans g_law
  cases e
  have b := FunD.bindsA (ps := ["_law_script"]) D_law fun _ _ _ _ _ _ us hl => match us, hl with | [_], _ => rfl
  refine ⟨fd_law, fun s v => b s [v] rfl, fun base hK hG => ?_⟩
  have e_InvalidBits : ExC P w K mg base "InvalidBits" "value" := excB_ok X G (c.ck 0 rfl) I_InvalidBits Si_InvalidBits rfl rfl (fun cdv A outer s H E => pss_one (ps_ost (pv 0) (pv 1))) (I_InvalidBits.bindsN fun _ _ _ _ _ _ us hl => match us, hl with | [_, _], _ => rfl)
  have e_InvalidNumber : ExC P w K mg base "InvalidNumber" "value" := excB_ok X G (c.ck 1 rfl) I_InvalidNumber Si_InvalidNumber rfl rfl (fun cdv A outer s H E => pss_one (ps_ost (pv 0) (pv 1))) (I_InvalidNumber.bindsN fun _ _ _ _ _ _ us hl => match us, hl with | [_, _], _ => rfl)
  have e_InvalidRelation : ExC P w K mg base "InvalidRelation" "relation" := excB_ok X G (c.ck 2 rfl) I_InvalidRelation Si_InvalidRelation rfl rfl (fun cdv A outer s H E => pss_one (ps_ost (pv 0) (pv 1))) (I_InvalidRelation.bindsN fun _ _ _ _ _ _ us hl => match us, hl with | [_, _], _ => rfl)
  have c__law_purse := fn__law_purse (base := base) (P := P) (w := w) gd  D__law_purse g__law_purse
  have c_word := fn_word (base := base) (P := P) (w := w) gd  D_word g_word
  have c_first_fall := fn_first_fall (base := base) (P := P) (w := w) gd c_word D_first_fall g_first_fall
  have c_twos := fn_twos (base := base) (P := P) (w := w) gd  D_twos g_twos
  have c_first_wrong := fn_first_wrong (base := base) (P := P) (w := w) gd c_first_fall c_twos c_word D_first_wrong g_first_wrong
  have c_is_integer := fn_is_integer (base := base) (P := P) (w := w) gd  D_is_integer g_is_integer
  have c_look_integers := fn_look_integers (base := base) (P := P) (w := w) gd c_is_integer e_InvalidNumber D_look_integers g_look_integers
  have c_look_relation := fn_look_relation (base := base) (P := P) (w := w) gd e_InvalidRelation D_look_relation g_look_relation
  have c_equal_passes := fn_equal_passes (base := base) (P := P) (w := w) gd c_word D_equal_passes g_equal_passes
  have c_inverse := fn_inverse (base := base) (P := P) (w := w) gd c_word D_inverse g_inverse
  have c_meeting := fn_meeting (base := base) (P := P) (w := w) gd c_inverse c_twos c_word D_meeting g_meeting
  have c_mirrored := fn_mirrored (base := base) (P := P) (w := w) gd  D_mirrored g_mirrored
  have c_first_within : Fn P w K mg base 151 "first_within" 4 false false F_first_within := fn_first_within gd  D_first_within g_first_within 150
  have c_rising := fn_rising (base := base) (P := P) (w := w) gd c_first_within D_rising g_rising
  have c_made_passes := fn_made_passes (base := base) (P := P) (w := w) gd c_equal_passes c_meeting c_mirrored c_rising c_word D_made_passes g_made_passes
  have c_require_bits := fn_require_bits (base := base) (P := P) (w := w) gd c_is_integer e_InvalidBits D_require_bits g_require_bits
  have c_counter_left_out_bits := fn_counter_left_out_bits (base := base) (P := P) (w := w) gd c_first_wrong c_look_integers c_look_relation c_made_passes c_require_bits D_counter_left_out g_counter_left_out
  have c_counter_left_out := fn_counter_left_out (base := base) (P := P) (w := w) gd c_first_wrong c_look_integers c_look_relation c_made_passes c_require_bits D_counter_left_out g_counter_left_out
  have c_counter_left_out_bits_signed := fn_counter_left_out_bits_signed (base := base) (P := P) (w := w) gd c_first_wrong c_look_integers c_look_relation c_made_passes c_require_bits D_counter_left_out g_counter_left_out
  have c__law_caught := fn__law_caught (base := base) (P := P) (w := w) gd c_counter_left_out_bits e_InvalidBits e_InvalidNumber e_InvalidRelation D__law_caught g__law_caught
  have c__law_mixed := fn__law_mixed (base := base) (P := P) (w := w) gd  D__law_mixed g__law_mixed
  have c__law_draw := fn__law_draw (base := base) (P := P) (w := w) gd c__law_mixed D__law_draw g__law_draw
  have c__law_refused_right := fn__law_refused_right (base := base) (P := P) (w := w) gd c__law_caught c__law_draw D__law_refused_right g__law_refused_right
  have c__law_asked := fn__law_asked (base := base) (P := P) (w := w) gd c_counter_left_out c_counter_left_out_bits_signed D__law_asked g__law_asked
  have c__law_goes_on := fn__law_goes_on (base := base) (P := P) (w := w) gd  D__law_goes_on g__law_goes_on
  have c__law_word := fn__law_word (base := base) (P := P) (w := w) gd  D__law_word g__law_word
  have c__law_seen := fn__law_seen (base := base) (P := P) (w := w) gd c__law_word D__law_seen g__law_seen
  have c__law_counted := fn__law_counted (base := base) (P := P) (w := w) gd c__law_goes_on c__law_seen D__law_counted g__law_counted
  have c__law_due := fn__law_due (base := base) (P := P) (w := w) gd c__law_counted D__law_due g__law_due
  have c_passes_bits_signed := fn_passes_bits_signed (base := base) (P := P) (w := w) gd c_look_integers c_look_relation c_made_passes c_require_bits D_passes g_passes
  have c__law_great_right := fn__law_great_right (base := base) (P := P) (w := w) gd c__law_asked c__law_draw c__law_seen c__law_word c_passes_bits_signed D__law_great_right g__law_great_right
  have c__law_right := fn__law_right (base := base) (P := P) (w := w) gd c__law_asked c__law_draw c__law_due c__law_great_right D__law_right g__law_right
  exact fn_mk (NN := ["_law_script", "_law_at", "_law_purse_here", "_law_turn", "_law_told"]) D_law S_law fun cdv A outer s H E hg hr tk => b_law gd c__law_purse c__law_refused_right c__law_right c_counter_left_out_bits c_counter_left_out cdv A outer s H E hg hr tk
end DL
set_option Elab.async false
set_option linter.all false
set_option maxRecDepth 100000
/-! Evaluation: the combinators at slots. -/
namespace DL
open PySem PySem.Spec PyProof.Rows L2
section
variable {α β : Type} {ρ : Rho}
@[simp] theorem ev_ret (a : α) : M.ret a ρ = .ok a ρ := id rfl
@[simp] theorem ev_bnd (m : M α) (k : α → M β) : M.bnd m k ρ = (match m ρ with | .ok a ρ' => k a ρ' | .ex x ρ' => .ex x ρ' | .stuck => .stuck) := by
  unfold M.bnd
  cases m ρ <;> rfl
@[simp] theorem ev_stop : (M.stop : M α) ρ = .stuck := id rfl
@[simp] theorem ev_liftS (a : α) : M.lift (some a) ρ = .ok a ρ := id rfl
@[simp] theorem ev_liftN : M.lift (none : Option α) ρ = .stuck := id rfl
@[simp] theorem ev_mC (d : D) : mC d ρ = .ok d ρ := id rfl
@[simp] theorem ev_nxt : nxt ρ = .ok .nx ρ := id rfl
@[simp] theorem ev_setSh (i : Nat) (d : D) : setSh i d ρ = .ok () (ρ.set i (some (.sh, d))) := id rfl
@[simp] theorem ev_ite (c : Prop) [Decidable c] (m n : M α) : (if c then m else n) ρ = if c then m ρ else n ρ := by split <;> rfl
@[simp] theorem u_mCons (m : M D) (n : M (List D)) : mCons m n = M.bnd m fun d => M.bnd n fun ds => M.ret (d :: ds) := id rfl
@[simp] theorem u_m2 (f : D → D → Option D) (a b : M D) : m2 f a b = M.bnd a fun x => M.bnd b fun y => M.lift (f x y) := id rfl
@[simp] theorem u_m1 (f : D → Option D) (a : M D) : m1 f a = M.bnd a fun x => M.lift (f x) := id rfl
@[simp] theorem u_mB (a : M D) : mB a = M.bnd a fun x => M.lift (asB x) := id rfl
@[simp] theorem ev_asB (b : Bool) : asB (.bl b) = some b := id rfl
@[simp] theorem u_mMap {γ : Type} (f : α → Option γ) (a : M α) : mMap f a = M.bnd a fun x => M.lift (f x) := id rfl
@[simp] theorem u_mSeq (m n : M Fw) : mSeq m n = M.bnd m fun f => match f with
  | .nx => n
  | f => M.ret f := id rfl
@[simp] theorem u_mIf (c : M Bool) (m n : M α) : mIf c m n = M.bnd c fun b => if b = true then m else n := id rfl
@[simp] theorem u_mRet (m : M D) : mRet m = M.bnd m fun d => M.ret (.rt d) := id rfl
@[simp] theorem u_mSet (m : M D) (g : D → M Unit) : mSet m g = M.bnd m fun d => M.bnd (g d) fun _ => nxt := id rfl
@[simp] theorem u_mAnd (m n : M Bool) : mAnd m n = M.bnd m fun b => if b = true then n else M.ret false := id rfl
@[simp] theorem u_mOr (m n : M Bool) : mOr m n = M.bnd m fun b => if b = true then M.ret true else n := id rfl
@[simp] theorem u_mNot (m : M Bool) : mNot m = M.bnd m fun b => M.ret (!b) := id rfl
@[simp] theorem u_mAndV (m n : M D) : mAndV m n = M.bnd (mB m) fun b => if b = true then n else M.ret (.bl false) := id rfl
@[simp] theorem u_mOrV (m n : M D) : mOrV m n = M.bnd (mB m) fun b => if b = true then M.ret (.bl true) else n := id rfl
@[simp] theorem u_mNotV (m : M D) : mNotV m = M.bnd (mB m) fun b => M.ret (.bl (!b)) := id rfl
@[simp] theorem u_mCall (F : Fs) (n : Nat) (m : M (List D)) : mCall F n m = M.bnd m fun ds => if ds.length = n then callF F ds else M.stop := id rfl
@[simp] theorem ev_callF (F : Fs) (ds : List D) : callF F ds ρ = (match F ds with | .ok d _ => .ok d ρ | .ex x => .ex x ρ | .stuck => .stuck) := by
  unfold callF
  cases F ds <;> rfl
@[simp] theorem u_mSh (m : M (List D)) : mSh m = M.bnd m fun ds => M.ret (.lst ds) := id rfl
@[simp] theorem u_mLst (m : M (List D)) : mLst m = M.bnd m fun ds => if lenOk ds.length = true then M.ret ds else M.stop := id rfl
@[simp] theorem u_mTup (m : M (List D)) : mTup m = M.bnd m fun ds => if lenOk ds.length = true then M.ret (.tup ds) else M.stop := id rfl
@[simp] theorem u_mRetF (m : M (List D)) : mRetF m = M.bnd m fun ds => M.ret (.rt (.lst ds)) := id rfl
@[simp] theorem u_mDrop (m : M D) : mDrop m = M.bnd m fun _ => nxt := id rfl
@[simp] theorem u_mPar2 (i j : Nat) (m : M (List D)) : mPar2 i j m = M.bnd m fun ds => match ds with
  | [u, v] => M.bnd (setSh i u) fun _ => M.bnd (setSh j v) fun _ => nxt
  | _ => M.stop := id rfl
@[simp] theorem u_mPar3 (i j l : Nat) (m : M (List D)) : mPar3 i j l m = M.bnd m fun ds => match ds with
  | [u, v, w] => M.bnd (setSh i u) fun _ => M.bnd (setSh j v) fun _ => M.bnd (setSh l w) fun _ => nxt
  | _ => M.stop := id rfl
def M.exc {γ : Type} (x : Exn) : M γ := fun ρ => .ex x ρ
@[simp] theorem ev_exc {γ : Type} (x : Exn) : (M.exc x : M γ) ρ = .ex x ρ := id rfl
@[simp] theorem u_mRaise (x f : Str) (m : M D) : mRaise x f m = M.bnd m fun d => M.exc ⟨x, [(f, d)]⟩ := id rfl
@[simp] theorem u_mChain (f g : D → D → Option D) (a b c : M D) : mChain f g a b c = M.bnd a fun x => M.bnd b fun y => M.bnd (M.lift ((f x y).bind asB)) fun k => if k = true then M.bnd c fun z => M.lift (g y z) else M.ret (.bl false) := id rfl
@[simp] theorem u_mFor (m : M (List D)) (g : D → M Unit) (b : M Fw) : mFor m g b = M.bnd m fun ds => forM g b ds := id rfl
@[simp] theorem u_mItems (m : M D) : mItems m = M.bnd m fun d => M.lift (items d) := id rfl
def M.own (i : Nat) (ds : List D) : M Fw := fun ρ => .ok .nx (ρ.set i (some (.ow, .lst ds)))
@[simp] theorem ev_own (i : Nat) (ds : List D) : M.own i ds ρ = .ok .nx (ρ.set i (some (.ow, .lst ds))) := id rfl
@[simp] theorem u_mOwn (m : M (List D)) (i : Nat) : mOwn m i = M.bnd m fun ds => M.own i ds := id rfl
@[simp] theorem u_mCallF (F : Fs) (n : Nat) (m : M (List D)) : mCallF F n m = M.bnd m fun ds => if ds.length = n then lstR F ds else M.stop := id rfl
@[simp] theorem u_mCallK (G : Fk) (n nk : Nat) (m mk : M (List D)) : mCallK G n nk m mk = M.bnd m fun ds => M.bnd mk fun es => if ds.length = n ∧ es.length = nk then callK G ds es else M.stop := id rfl
@[simp] theorem ev_callK (G : Fk) (ds es : List D) : callK G ds es ρ = (match G ds es with | .ok d _ => .ok d ρ | .ex x => .ex x ρ | .stuck => .stuck) := by
  unfold callK
  cases G ds es <;> rfl
@[simp] theorem u_mCat (a b : M D) : mCat a b = M.bnd a fun x => M.bnd b fun y => M.lift (catD x y) := id rfl
@[simp] theorem u_mRep (a : M (List D)) (b : M D) : mRep a b = M.bnd a fun xs => M.bnd b fun y => M.lift (repD xs y) := id rfl
@[simp] theorem u_mSlice (a : M D) (l h : M (Option Int)) : mSlice a l h = M.bnd a fun d => M.bnd l fun l => M.bnd h fun h => M.lift ((mSlice.seqLst d).map fun ds => cutD ds l h) := id rfl
@[simp] theorem ev_gDone : gDone [] ρ = .ok () ρ := id rfl
@[simp] theorem u_gEach (g : D → M Unit) (r : List D → M Unit) (d : D) (ds : List D) : gEach g r (d :: ds) = M.bnd (g d) fun _ => r ds := id rfl
@[simp] theorem u_gSeqT (n : Nat) (g : List D → M Unit) (ds : List D) : gSeq n g (.tup ds) = if ds.length = n then g ds else M.stop := id rfl
@[simp] theorem u_gSeqL (n : Nat) (g : List D → M Unit) (ds : List D) : gSeq n g (.lst ds) = if ds.length = n then g ds else M.stop := id rfl
/-- a slot that is read -/
theorem ev_var {i : Nat} {d : D} (h : ρ[i]? = some (some (.sh, d))) : mVar i ρ = .ok d ρ := by
  unfold mVar
  rw [h]
end
@[simp] theorem ev_mAug (i : Nat) (f : D → D → Option D) (m : M D) (ρ : Rho) : mAug i f m ρ = (match ρ[i]? with
  | some (some (.sh, c)) => M.bnd m (fun d => M.bnd (M.lift (f c d)) fun z => M.bnd (setSh i z) fun _ => nxt) ρ
  | _ => .stuck) := id rfl
@[simp] theorem ev_mIxV (i : Nat) (mb : M D) (ρ : Rho) : mIxV i mb ρ = (match getS i ρ with
  | some _ => M.bnd mb (ixS i) ρ
  | none => .stuck) := id rfl
@[simp] theorem ev_ixS (i : Nat) (k : D) (ρ : Rho) : ixS i k ρ = (match getS i ρ with
  | some d => M.lift (pIx d k) ρ
  | none => .stuck) := id rfl
@[simp] theorem getS_0 (fl : Fl) (d : D) (r : Rho) : getS 0 (some (fl, d) :: r) = some d := id rfl
@[simp] theorem getS_1 (a) (fl : Fl) (d : D) (r : Rho) : getS 1 (a :: some (fl, d) :: r) = some d := id rfl
@[simp] theorem getS_2 (a b) (fl : Fl) (d : D) (r : Rho) : getS 2 (a :: b :: some (fl, d) :: r) = some d := id rfl
@[simp] theorem getW_1 (a) (d : D) (r : Rho) : getW 1 (a :: some (.ow, d) :: r) = some (.ow, d) := id rfl
@[simp] theorem getW_2 (a b) (d : D) (r : Rho) : getW 2 (a :: b :: some (.ow, d) :: r) = some (.ow, d) := id rfl
@[simp] theorem getW_0 (d : D) (r : Rho) : getW 0 (some (.ow, d) :: r) = some (.ow, d) := id rfl
@[simp] theorem ev_gItem (i : Nat) (mi : M D) (d : D) (ρ : Rho) : gItem i mi d ρ = (match getW i ρ with
  | some _ => M.bnd mi (fun k => updW i (putAt k d)) ρ
  | none => .stuck) := id rfl
@[simp] theorem ev_updW (i : Nat) (f : List D → Option (List D)) (ρ : Rho) : updW i f ρ = (match getW i ρ with
  | some (fl, .lst ds) => (match f ds with
    | some es => .ok () (ρ.set i (some (fl, .lst es)))
    | none => .stuck)
  | _ => .stuck) := id rfl
@[simp] theorem ev_mCallW (F : Fs) (n i : Nat) (m : M (List D)) (ρ : Rho) : mCallW F n i m ρ = (match getW i ρ with
  | some _ => M.bnd m (fun ds => if ds.length + 1 = n then callW F i ds else M.stop) ρ
  | none => .stuck) := id rfl
@[simp] theorem ev_callW (F : Fs) (i : Nat) (ds : List D) (ρ : Rho) : callW F i ds ρ = (match getW i ρ with
  | some (fl, d) => putW i fl (F (d :: ds)) ρ
  | none => .stuck) := id rfl
@[simp] theorem ev_putW (i : Nat) (fl : Fl) (d o : D) (ρ : Rho) : putW i fl (.ok d o) ρ = .ok d (ρ.set i (some (fl, o))) := id rfl
@[simp] theorem ev_lstR (F : Fs) (ds : List D) (ρ : Rho) : lstR F ds ρ = (match F ds with
  | .ok (.lst xs) _ => .ok xs ρ
  | .ok _ _ => .stuck
  | .ex x => .ex x ρ
  | .stuck => .stuck) := id rfl
@[simp] theorem ev_mTry (tak : Tak) (m : M Fw) (cs : List Cl) (ρ : Rho) : mTry tak m cs ρ = (match m ρ with
  | .ex x ρ' => tryM tak cs x ρ'
  | .ok f ρ' => .ok f ρ'
  | .stuck => .stuck) := id rfl
@[simp] theorem v_0 (d : D) (r : Rho) : mVar 0 (some (.sh, d) :: r) = .ok d (some (.sh, d) :: r) := id rfl
@[simp] theorem v_1 (a) (d : D) (r : Rho) : mVar 1 (a :: some (.sh, d) :: r) = .ok d (a :: some (.sh, d) :: r) := id rfl
@[simp] theorem v_2 (a b) (d : D) (r : Rho) : mVar 2 (a :: b :: some (.sh, d) :: r) = .ok d (a :: b :: some (.sh, d) :: r) := id rfl
@[simp] theorem v_3 (a b c) (d : D) (r : Rho) : mVar 3 (a :: b :: c :: some (.sh, d) :: r) = .ok d (a :: b :: c :: some (.sh, d) :: r) := id rfl
@[simp] theorem v_4 (a b c e) (d : D) (r : Rho) : mVar 4 (a :: b :: c :: e :: some (.sh, d) :: r) = .ok d (a :: b :: c :: e :: some (.sh, d) :: r) := id rfl
@[simp] theorem v_5 (a b c e f) (d : D) (r : Rho) : mVar 5 (a :: b :: c :: e :: f :: some (.sh, d) :: r) = .ok d (a :: b :: c :: e :: f :: some (.sh, d) :: r) := id rfl
@[simp] theorem v_6 (a b c e f g) (d : D) (r : Rho) : mVar 6 (a :: b :: c :: e :: f :: g :: some (.sh, d) :: r) = .ok d (a :: b :: c :: e :: f :: g :: some (.sh, d) :: r) := id rfl
@[simp] theorem v_7 (a b c e f g h) (d : D) (r : Rho) : mVar 7 (a :: b :: c :: e :: f :: g :: h :: some (.sh, d) :: r) = .ok d (a :: b :: c :: e :: f :: g :: h :: some (.sh, d) :: r) := id rfl
@[simp] theorem v_8 (a b c e f g h i) (d : D) (r : Rho) : mVar 8 (a :: b :: c :: e :: f :: g :: h :: i :: some (.sh, d) :: r) = .ok d (a :: b :: c :: e :: f :: g :: h :: i :: some (.sh, d) :: r) := id rfl
@[simp] theorem v_9 (a b c e f g h i j) (d : D) (r : Rho) : mVar 9 (a :: b :: c :: e :: f :: g :: h :: i :: j :: some (.sh, d) :: r) = .ok d (a :: b :: c :: e :: f :: g :: h :: i :: j :: some (.sh, d) :: r) := id rfl
@[simp] theorem v_10 (x0 x1 x2 x3 x4 x5 x6 x7 x8 x9) (d : D) (r : Rho) : mVar 10 (x0 :: x1 :: x2 :: x3 :: x4 :: x5 :: x6 :: x7 :: x8 :: x9 :: some (.sh, d) :: r) = .ok d (x0 :: x1 :: x2 :: x3 :: x4 :: x5 :: x6 :: x7 :: x8 :: x9 :: some (.sh, d) :: r) := rfl
@[simp] theorem v_11 (x0 x1 x2 x3 x4 x5 x6 x7 x8 x9 x10) (d : D) (r : Rho) : mVar 11 (x0 :: x1 :: x2 :: x3 :: x4 :: x5 :: x6 :: x7 :: x8 :: x9 :: x10 :: some (.sh, d) :: r) = .ok d (x0 :: x1 :: x2 :: x3 :: x4 :: x5 :: x6 :: x7 :: x8 :: x9 :: x10 :: some (.sh, d) :: r) := rfl
@[simp] theorem v_12 (x0 x1 x2 x3 x4 x5 x6 x7 x8 x9 x10 x11) (d : D) (r : Rho) : mVar 12 (x0 :: x1 :: x2 :: x3 :: x4 :: x5 :: x6 :: x7 :: x8 :: x9 :: x10 :: x11 :: some (.sh, d) :: r) = .ok d (x0 :: x1 :: x2 :: x3 :: x4 :: x5 :: x6 :: x7 :: x8 :: x9 :: x10 :: x11 :: some (.sh, d) :: r) := rfl
@[simp] theorem v_13 (x0 x1 x2 x3 x4 x5 x6 x7 x8 x9 x10 x11 x12) (d : D) (r : Rho) : mVar 13 (x0 :: x1 :: x2 :: x3 :: x4 :: x5 :: x6 :: x7 :: x8 :: x9 :: x10 :: x11 :: x12 :: some (.sh, d) :: r) = .ok d (x0 :: x1 :: x2 :: x3 :: x4 :: x5 :: x6 :: x7 :: x8 :: x9 :: x10 :: x11 :: x12 :: some (.sh, d) :: r) := rfl
@[simp] theorem v_14 (x0 x1 x2 x3 x4 x5 x6 x7 x8 x9 x10 x11 x12 x13) (d : D) (r : Rho) : mVar 14 (x0 :: x1 :: x2 :: x3 :: x4 :: x5 :: x6 :: x7 :: x8 :: x9 :: x10 :: x11 :: x12 :: x13 :: some (.sh, d) :: r) = .ok d (x0 :: x1 :: x2 :: x3 :: x4 :: x5 :: x6 :: x7 :: x8 :: x9 :: x10 :: x11 :: x12 :: x13 :: some (.sh, d) :: r) := rfl
@[simp] theorem w_0i (d : D) (r : Rho) : getW 0 (some (.io, d) :: r) = some (.io, d) := id rfl
@[simp] theorem bod (n : Nat) (io : Bool) (m : M Fw) (ds : List D) : bodyF n io m ds = fin io (m (rho0 io n ds)) := id rfl
@[simp] theorem rho_f (n : Nat) (ds : List D) : rho0 false n ds = (ds.map fun d => some (Fl.sh, d)) ++ List.replicate (n - ds.length) none := by
  cases ds <;> rfl
@[simp] theorem rho_t (n : Nat) (d : D) (ds : List D) : rho0 true n (d :: ds) = some (Fl.io, d) :: ((ds.map fun d => some (Fl.sh, d)) ++ List.replicate (n - (ds.length + 1)) none) := id rfl
@[simp] theorem fin_r (d : D) (ρ : Rho) : fin false (.ok (.rt d) ρ) = .ok d .non := id rfl
@[simp] theorem fin_n (ρ : Rho) : fin false (.ok .nx ρ) = .ok .non .non := id rfl
@[simp] theorem fin_e (x : Exn) (ρ : Rho) : fin false (.ex x ρ) = .ex x := id rfl
@[simp] theorem fin_rt (d o : D) (ρ : Rho) : fin true (.ok (.rt d) (some (.io, o) :: ρ)) = .ok d o := id rfl
@[simp] theorem fin_nt (o : D) (ρ : Rho) : fin true (.ok .nx (some (.io, o) :: ρ)) = .ok .non o := id rfl
@[simp] theorem lenOk_n (n : Nat) (h : n ≤ 100) : lenOk n = true := by
  refine Nat.ble_eq_true_of_le ?_
  show n ≤ 16777216
  omega
/-! ints -/
@[simp] theorem e_add (i j : Int) : iAdd (.int i) (.int j) = some (.int (i + j)) := id rfl
@[simp] theorem e_sub (i j : Int) : iSub (.int i) (.int j) = some (.int (i - j)) := id rfl
@[simp] theorem e_mul (i j : Int) : iMul (.int i) (.int j) = if bitsOk i j = true then some (.int (i * j)) else none := id rfl
@[simp] theorem e_div (i j : Int) : iDiv (.int i) (.int j) = if divOk j = true then some (.int (i.fdiv j)) else none := id rfl
@[simp] theorem e_mod (i j : Int) : iMod (.int i) (.int j) = if j ≠ 0 then some (.int (i.fmod j)) else none := id rfl
@[simp] theorem e_neg (i : Int) : iNeg (.int i) = some (.int (-i)) := id rfl
@[simp] theorem e_lt (i j : Int) : iLt (.int i) (.int j) = some (.bl (decide (i < j))) := id rfl
@[simp] theorem e_le (i j : Int) : iLe (.int i) (.int j) = some (.bl (decide (i ≤ j))) := id rfl
@[simp] theorem e_gt (i j : Int) : iGt (.int i) (.int j) = some (.bl (decide (j < i))) := id rfl
@[simp] theorem e_ge (i j : Int) : iGe (.int i) (.int j) = some (.bl (decide (j ≤ i))) := id rfl
@[simp] theorem e_isN : pIsN .non .non = some (.bl true) := id rfl
@[simp] theorem e_isNi (i : Int) : pIsN (.int i) .non = some (.bl false) := id rfl
@[simp] theorem e_notN : pNotN .non .non = some (.bl false) := id rfl
@[simp] theorem e_notNi (i : Int) : pNotN (.int i) .non = some (.bl true) := id rfl
@[simp] theorem e_eq (i j : Int) : pEq (.int i) (.int j) = some (.bl (decide (i = j))) := id rfl
@[simp] theorem e_ne (i j : Int) : pNe (.int i) (.int j) = some (.bl (!decide (i = j))) := id rfl
@[simp] theorem e_eqS (i j : Str) : pEq (.str i) (.str j) = some (.bl (decide (i = j))) := id rfl
@[simp] theorem e_neS (i j : Str) : pNe (.str i) (.str j) = some (.bl (!decide (i = j))) := id rfl
@[simp] theorem e_int (i : Int) : fInt [.int i] = some (.int i) := id rfl
@[simp] theorem e_intb (b : Bool) : fInt [.bl b] = some (.int (if b then 1 else 0)) := id rfl
theorem shl_ok {i j : Int} (h0 : 0 ≤ j) (h : (Builtin.Int.intBits i : Int) + j ≤ 2 ^ 27) : iShl (.int i) (.int j) = some (.int (i * 2 ^ j.toNat)) := by
  obtain ⟨n, rfl⟩ := Int.eq_ofNat_of_zero_le h0
  refine if_pos ?_
  show Nat.ble (Builtin.Int.intBits i + n) 134217728 = true
  refine Nat.ble_eq_true_of_le ?_
  omega
theorem pow_ok {i : Int} {n : Nat} (h : Builtin.Int.intBits i * n ≤ 134217728) : iPow (.int i) (.int n) = some (.int (i ^ n)) := by
  have e : ((n : Int)).toNat = n := by simp
  have p : powOk i n = true := Nat.ble_eq_true_of_le h
  show (if powOk i n = true then some (D.int (i ^ (n : Int).toNat)) else none) = _
  rw [if_pos p, e]
theorem shr_ok {i j : Int} (h0 : 0 ≤ j) : iShr (.int i) (.int j) = some (.int (i / 2 ^ j.toNat)) := if_pos h0
end DL
namespace DL
open PySem PySem.Spec PyProof.Rows L2
theorem while_t {c : M Bool} {b : M Fw} {f : Nat} {ρ ρ1 ρ2 : Rho} (hc : c ρ = .ok true ρ1) (hb : b ρ1 = .ok .nx ρ2) : whileM c b (f + 1) ρ = whileM c b f ρ2 := by
  rw [whileM, ev_bnd, hc]
  simp [hb]
theorem while_f {c : M Bool} {b : M Fw} {f : Nat} {ρ ρ1 : Rho} (hc : c ρ = .ok false ρ1) : whileM c b (f + 1) ρ = .ok .nx ρ1 := by
  rw [whileM, ev_bnd, hc]
  simp
theorem while_r {c : M Bool} {b : M Fw} {f : Nat} {ρ ρ1 ρ2 : Rho} {d : D} (hc : c ρ = .ok true ρ1) (hb : b ρ1 = .ok (.rt d) ρ2) : whileM c b (f + 1) ρ = .ok (.rt d) ρ2 := by
  rw [whileM, ev_bnd, hc]
  simp [hb]
theorem for_nil {g : D → M Unit} {b : M Fw} {ρ : Rho} : forM g b [] ρ = .ok .nx ρ := rfl
theorem for_cons {g : D → M Unit} {b : M Fw} {d : D} {ds : List D} {ρ ρ1 ρ2 : Rho} (hg : g d ρ = .ok () ρ1) (hb : b ρ1 = .ok .nx ρ2) : forM g b (d :: ds) ρ = forM g b ds ρ2 := by
  rw [forM, ev_bnd, hg]
  simp [hb]
theorem for_ret {g : D → M Unit} {b : M Fw} {d x : D} {ds : List D} {ρ ρ1 ρ2 : Rho} (hg : g d ρ = .ok () ρ1) (hb : b ρ1 = .ok (.rt x) ρ2) : forM g b (d :: ds) ρ = .ok (.rt x) ρ2 := by
  rw [forM, ev_bnd, hg]
  simp [hb]
theorem for_ex {g : D → M Unit} {b : M Fw} {d : D} {x : Exn} {ds : List D} {ρ ρ1 ρ2 : Rho} (hg : g d ρ = .ok () ρ1) (hb : b ρ1 = .ex x ρ2) : forM g b (d :: ds) ρ = .ex x ρ2 := by
  rw [forM, ev_bnd, hg]
  simp [hb]
end DL
set_option Elab.async false
set_option linter.all false
/-! Plain laws of numbers: the first t at which something holds; Euclid's way to it. -/
namespace PM
def First (P : Nat → Prop) : Option Nat → Prop
  | none => ∀ t, ¬ P t
  | some t => P t ∧ ∀ s, s < t → ¬ P s
theorem First.congr {P Q : Nat → Prop} (h : ∀ t, P t ↔ Q t) {r : Option Nat} (f : First P r) : First Q r := by
  cases r with
  | none => exact fun t q => f t ((h t).mpr q)
  | some t => exact ⟨(h t).mp f.1, fun s l q => f.2 s l ((h s).mpr q)⟩
theorem First.uniq {P : Nat → Prop} {r q : Option Nat} (f : First P r) (g : First P q) : r = q := by
  cases r with
  | none => cases q with
    | none => rfl
    | some t => exact absurd g.1 (f t)
  | some t => cases q with
    | none => exact absurd f.1 (g t)
    | some u =>
      have h1 : ¬ u < t := fun l => f.2 u l g.1
      have h2 : ¬ t < u := fun l => g.2 t l f.1
      have : t = u := by omega
      rw [this]
theorem pow_pos2 (b : Nat) : (0 : Int) < 2 ^ b := Int.pow_pos (by decide)
theorem pow_le {a b : Nat} (h : a ≤ b) : (2 : Int) ^ a ≤ 2 ^ b := by
  have e : ∀ n : Nat, ((2 ^ n : Nat) : Int) = 2 ^ n := fun n => by simp
  rw [← e, ← e]
  exact Int.ofNat_le.mpr (Nat.pow_le_pow_right (by decide) h)
theorem mul_le {a b c : Int} (h : 0 ≤ c) (l : a ≤ b) : c * a ≤ c * b := Int.mul_le_mul_of_nonneg_left l h
theorem mul_succ_le {a b c : Int} (h : 0 ≤ c) (l : a < b) : c * a + c ≤ c * b := by
  have := mul_le h (show a + 1 ≤ b by omega)
  rw [Int.mul_add, Int.mul_one] at this
  exact this
/-- the least quotient that reaches a -/
def cdv (a m : Int) : Int := -((-a) / m)
theorem cdv_spec {a m : Int} (hm : 0 < m) : a ≤ m * cdv a m ∧ ∀ q, a ≤ m * q → cdv a m ≤ q := by
  have e : m * ((-a) / m) + (-a) % m = -a := Int.mul_ediv_add_emod _ _
  have h0 := Int.emod_nonneg (-a) (show m ≠ 0 by omega)
  have h1 := Int.emod_lt_of_pos (-a) hm
  unfold cdv
  rw [Int.mul_neg]
  refine ⟨by omega, fun q hq => ?_⟩
  by_cases c : -((-a) / m) ≤ q
  · exact c
  · exfalso
    have l : q < -((-a) / m) := by omega
    have := mul_succ_le (Int.le_of_lt hm) l
    rw [Int.mul_neg] at this
    omega
/-- a multiple of m lies from a to b -/
def Hit (m a b : Int) : Prop := ∃ q : Int, a ≤ m * q ∧ m * q ≤ b
theorem hit_iff {m a b : Int} (hm : 0 < m) : Hit m a b ↔ b % m ≤ b - a := by
  have e : m * (b / m) + b % m = b := Int.mul_ediv_add_emod _ _
  have h0 := Int.emod_nonneg b (show m ≠ 0 by omega)
  have h1 := Int.emod_lt_of_pos b hm
  constructor
  · rintro ⟨q, q1, q2⟩
    by_cases c : q ≤ b / m
    · have := mul_le (Int.le_of_lt hm) c
      omega
    · have := mul_succ_le (Int.le_of_lt hm) (show b / m < q by omega)
      omega
  · intro h
    exact ⟨b / m, by omega, by omega⟩
/-- the residue of step * t lies from low to high -/
def In (step M low high : Int) (t : Nat) : Prop := low ≤ step * t % M ∧ step * t % M ≤ high
theorem in_iff {step M low high : Int} (hM : 0 < M) (h0 : 0 ≤ low) (h1 : high < M) {t : Nat} : In step M low high t ↔ ∃ y : Int, low + M * y ≤ step * t ∧ step * t ≤ high + M * y := by
  have e : M * (step * t / M) + step * t % M = step * t := Int.mul_ediv_add_emod _ _
  constructor
  · rintro ⟨a, b⟩
    exact ⟨step * t / M, by omega, by omega⟩
  · rintro ⟨y, a, b⟩
    have r0 := Int.emod_nonneg (step * t) (show M ≠ 0 by omega)
    have r1 := Int.emod_lt_of_pos (step * t) hM
    have ey : y = step * t / M := by
      by_cases c : y < step * t / M
      · have := mul_succ_le (Int.le_of_lt hM) c
        omega
      · by_cases c2 : step * t / M < y
        · have := mul_succ_le (Int.le_of_lt hM) c2
          omega
        · omega
    subst ey
    exact ⟨by omega, by omega⟩
theorem in_small {step M low high : Int} {t : Nat} (h0 : 0 ≤ step * t) (h : step * t < M) : In step M low high t ↔ low ≤ step * t ∧ step * t ≤ high := by
  unfold In
  rw [Int.emod_eq_of_lt h0 h]
/-- the residues of the lesser problem tell where a multiple lies -/
theorem in_sub {step M low high : Int} (hs : 0 < step) (hlo : low ≤ high) (nh : ¬ Hit step low high) (y : Nat) :
    (In (M % step) step ((-high) % step) ((-low) % step) y ↔ Hit step (low + M * y) (high + M * y)) ∧ (-high) % step ≤ (-low) % step := by
  have e0 : M % step * y % step = M * y % step := by rw [Int.mul_emod, Int.emod_emod, ← Int.mul_emod]
  unfold In
  rw [e0]
  have ne : step ≠ 0 := by omega
  have a1 : step * (M * y / step) + M * y % step = M * y := Int.mul_ediv_add_emod _ _
  have a2 := Int.emod_nonneg (M * y) ne
  have a3 := Int.emod_lt_of_pos (M * y) hs
  have b1 : step * (-high / step) + -high % step = -high := Int.mul_ediv_add_emod _ _
  have b2 := Int.emod_nonneg (-high) ne
  have b3 := Int.emod_lt_of_pos (-high) hs
  have c1 : step * (-low / step) + -low % step = -low := Int.mul_ediv_add_emod _ _
  have c2 := Int.emod_nonneg (-low) ne
  have c3 := Int.emod_lt_of_pos (-low) hs
  generalize M * (y : Int) % step = u at *
  generalize M * (y : Int) / step = k at *
  generalize -high % step = v at *
  generalize -high / step = q1 at *
  generalize -low % step = w at *
  generalize -low / step = q2 at *
  have hs' := Int.le_of_lt hs
  have eq : q1 = q2 := by
    by_cases l : q2 < q1
    · have := mul_succ_le hs' l
      omega
    · by_cases l : q1 < q2
      · exfalso
        have := mul_succ_le hs' l
        exact nh ⟨-q2, by rw [Int.mul_neg]; omega, by rw [Int.mul_neg]; omega⟩
      · omega
  subst eq
  refine ⟨⟨fun ⟨h1, h2⟩ => ⟨k - q1, by rw [Int.mul_sub]; omega, by rw [Int.mul_sub]; omega⟩, fun ⟨q, h1, h2⟩ => ?_⟩, by omega⟩
  have ep : step * (k - q) = step * k - step * q := Int.mul_sub _ _ _
  by_cases l : k - q < q1
  · have := mul_succ_le hs' l
    omega
  · by_cases l2 : q1 < k - q
    · have := mul_succ_le hs' l2
      omega
    · have e : k - q = q1 := by omega
      rw [e] at ep
      omega
/-- Euclid's way: the first t of the greater problem, by the first y of the lesser -/
theorem first_in {step M low high : Int} (hs : 0 < step) (hsM : step < M) (h0 : 0 < low) (hlh : low ≤ high) (hM : high < M) (nh : ¬ Hit step low high) {r : Option Nat}
    (f : First (In (M % step) step ((-high) % step) ((-low) % step)) r) : First (In step M low high) (r.map fun y => (cdv (low + M * y) step).toNat) := by
  have hM0 : 0 < M := by omega
  have key : ∀ t : Nat, In step M low high t → ∃ y : Nat, In (M % step) step ((-high) % step) ((-low) % step) y ∧ low + M * y ≤ step * t := by
    intro t h
    obtain ⟨y, y1, y2⟩ := (in_iff hM0 (Int.le_of_lt h0) hM).mp h
    have hy : 0 ≤ y := by
      by_cases c : 0 ≤ y
      · exact c
      · have := mul_succ_le (Int.le_of_lt hM0) (show y < 0 by omega)
        have st : 0 ≤ step * t := Int.mul_nonneg (Int.le_of_lt hs) (by omega)
        omega
    obtain ⟨n, rfl⟩ := Int.eq_ofNat_of_zero_le hy
    exact ⟨n, (in_sub hs hlh nh n).1.mpr ⟨t, y1, y2⟩, y1⟩
  cases r with
  | none =>
    intro t h
    obtain ⟨y, h1, _⟩ := key t h
    exact f y h1
  | some y =>
    obtain ⟨f1, f2⟩ := f
    obtain ⟨q, q1, q2⟩ := (in_sub hs hlh nh y).1.mp f1
    obtain ⟨c1, c2⟩ := cdv_spec (a := low + M * y) hs
    have my : 0 ≤ M * y := Int.mul_nonneg (Int.le_of_lt hM0) (by omega)
    have cpos : 0 ≤ cdv (low + M * y) step := by
      by_cases c : 0 ≤ cdv (low + M * y) step
      · exact c
      · have := mul_le (Int.le_of_lt hs) (show cdv (low + M * y) step ≤ 0 by omega)
        omega
    have ec : ((cdv (low + M * y) step).toNat : Int) = cdv (low + M * y) step := Int.toNat_of_nonneg cpos
    refine ⟨(in_iff hM0 (Int.le_of_lt h0) hM).mpr ⟨y, ?_, ?_⟩, fun s hs' h => ?_⟩
    · rw [ec]
      exact c1
    · rw [ec]
      exact Int.le_trans (mul_le (Int.le_of_lt hs) (c2 q q1)) q2
    · obtain ⟨z, z1, z2⟩ := key s h
      have hz : y ≤ z := by
        by_cases c : y ≤ z
        · exact c
        · exact absurd z1 (f2 z (by omega))
      have := mul_le (Int.le_of_lt hM0) (show (y : Int) ≤ z by omega)
      have := c2 s (by omega)
      have hl : s < (cdv (low + M * y) step).toNat := hs'
      omega
/-- a first t is less than the modulus -/
theorem first_lt {step M low high : Int} (hM : 0 < M) {t : Nat} (f : First (In step M low high) (some t)) : (t : Int) < M := by
  by_cases c : (t : Int) < M
  · exact c
  · exfalso
    obtain ⟨f1, f2⟩ := f
    refine f2 (t - M.toNat) (by omega) ?_
    have e : ((t - M.toNat : Nat) : Int) = t - M := by omega
    unfold In at *
    rw [e]
    have e2 : step * (t - M) % M = step * t % M := by
      rw [Int.mul_sub, Int.mul_comm step M]
      exact Int.sub_mul_emod_self_left _ _ _
    rw [e2]
    exact f1
theorem first_zero {step M high : Int} (h : 0 ≤ high) : First (In step M 0 high) (some 0) := by
  refine ⟨?_, fun s l => absurd l (Nat.not_lt_zero s)⟩
  unfold In
  simp [h]
theorem first_none {M low high : Int} (h : 0 < low) : First (In 0 M low high) none := by
  intro t q
  unfold In at q
  simp at q
  omega
theorem first_near {step M low high : Int} (hs : 0 < step) (h0 : 0 < low) (hM : high < M) (h : step * cdv low step ≤ high) : First (In step M low high) (some (cdv low step).toNat) := by
  obtain ⟨c1, c2⟩ := cdv_spec (a := low) hs
  have cpos : 0 ≤ cdv low step := by
    by_cases c : 0 ≤ cdv low step
    · exact c
    · have := mul_le (Int.le_of_lt hs) (show cdv low step ≤ 0 by omega)
      omega
  have ec : ((cdv low step).toNat : Int) = cdv low step := Int.toNat_of_nonneg cpos
  refine ⟨(in_small ?_ ?_).mpr ⟨?_, ?_⟩, fun s l q => ?_⟩
  · exact Int.mul_nonneg (Int.le_of_lt hs) (by omega)
  · rw [ec]; omega
  · rw [ec]; exact c1
  · rw [ec]; exact h
  · have l2 : (s : Int) < cdv low step := by omega
    have : step * s < low := by
      by_cases c : step * s < low
      · exact c
      · exact absurd (c2 s (by omega)) (by omega)
    have := (in_small (Int.mul_nonneg (Int.le_of_lt hs) (by omega)) (by have := mul_le (Int.le_of_lt hs) (Int.le_of_lt l2); omega)).mp q
    omega
theorem not_hit {step low high : Int} (hs : 0 < step) (h : ¬ step * cdv low step ≤ high) : ¬ Hit step low high := by
  rintro ⟨q, q1, q2⟩
  have := mul_le (Int.le_of_lt hs) ((cdv_spec (a := low) hs).2 q q1)
  omega
/-- each step halves the product -/
theorem halve {step M : Int} (hs : 0 < step) (hsM : step < M) {k : Nat} (h : step * M < 2 ^ (k + 1)) : M % step * step < 2 ^ k := by
  have e : step * (M / step) + M % step = M := Int.mul_ediv_add_emod _ _
  have a := Int.emod_nonneg M (show step ≠ 0 by omega)
  have b := Int.emod_lt_of_pos M hs
  have q : 1 ≤ M / step := by
    by_cases c : 1 ≤ M / step
    · exact c
    · have := mul_le (Int.le_of_lt hs) (show M / step ≤ 0 by omega)
      omega
  have q2 := mul_le (Int.le_of_lt hs) q
  have l : M % step + M % step < M := by omega
  have l2 := mul_le (Int.le_of_lt hs) (show M % step + M % step + 1 ≤ M by omega)
  rw [Int.mul_add, Int.mul_add, Int.mul_one] at l2
  rw [Int.pow_succ] at h
  rw [Int.mul_comm]
  omega
end PM
set_option Elab.async false
set_option linter.all false
/-! Plain laws of loops: what a counter reads as, when a loop stops. -/
namespace PM
/-- what a word holds -/
def sees (w : Option Nat) (both : Bool) (x : Int) : Int := match w with
  | none => x
  | some b => if both = true ∧ 2 ^ (b - 1) ≤ x % 2 ^ b then x % 2 ^ b - 2 ^ b else x % 2 ^ b
def off (b : Nat) (both : Bool) : Int := if both = true then 2 ^ (b - 1) else 0
theorem pow_half {b : Nat} (h : 1 ≤ b) : (2 : Int) ^ b = 2 * 2 ^ (b - 1) := by
  obtain ⟨n, rfl⟩ : ∃ n, b = n + 1 := ⟨b - 1, by omega⟩
  rw [Nat.add_sub_cancel, Int.pow_succ, Int.mul_comm]
/-- a residue, by its place -/
theorem mod_is {a m r q : Int} (h0 : 0 ≤ r) (h1 : r < m) (e : a = r + m * q) : a % m = r := by
  rw [e, Int.add_mul_emod_self_left, Int.emod_eq_of_lt h0 h1]
theorem mod_ex (a : Int) {m : Int} (h : 0 < m) : ∃ q, a = a % m + m * q ∧ 0 ≤ a % m ∧ a % m < m :=
  ⟨a / m, (Int.emod_add_mul_ediv a m).symm, Int.emod_nonneg a (by omega), Int.emod_lt_of_pos a h⟩
theorem seen_off {b : Nat} {both : Bool} {x : Int} (h : 1 ≤ b) : sees (some b) both x = (x + off b both) % 2 ^ b - off b both := by
  unfold sees off
  dsimp only
  cases both with
  | false => simp
  | true =>
    have p := pow_pos2 (b - 1)
    have e := pow_half h
    obtain ⟨q, q1, q2, q3⟩ := mod_ex x (pow_pos2 b)
    simp only [true_and, if_true]
    by_cases c : 2 ^ (b - 1) ≤ x % 2 ^ b
    · rw [if_pos c]
      have := mod_is (a := x + 2 ^ (b - 1)) (m := 2 ^ b) (r := x % 2 ^ b - 2 ^ (b - 1)) (q := q + 1) (by omega) (by omega) (by rw [Int.mul_add, Int.mul_one]; omega)
      rw [this]
      omega
    · rw [if_neg c]
      have := mod_is (a := x + 2 ^ (b - 1)) (m := 2 ^ b) (r := x % 2 ^ b + 2 ^ (b - 1)) (q := q) (by omega) (by omega) (by omega)
      rw [this]
      omega
def goes (way : Nat) (x e : Int) : Prop := match way with
  | 0 => x < e
  | 1 => x ≤ e
  | 2 => e < x
  | 3 => e ≤ x
  | 4 => x ≠ e
  | _ => x = e
def Stop (way : Nat) (w : Option Nat) (both : Bool) (b e s : Int) (t : Nat) : Prop := ¬ goes way (sees w both (b + s * t)) (sees w both e)
/-- rising words: the place in the turn -/
theorem rise_iff {M first last step : Int} (h0 : 0 ≤ first) (h1 : first < last) (h2 : last < M) (t : Nat) : In (step % M) M (last - first) (M - 1 - first) t ↔ last ≤ (first + step * t) % M := by
  have hM : 0 < M := by omega
  unfold In
  have e : step % M * t % M = step * t % M := by rw [Int.mul_emod, Int.emod_emod, ← Int.mul_emod]
  rw [e]
  obtain ⟨q, q1, q2, q3⟩ := mod_ex (step * t) hM
  by_cases c : step * t % M ≤ M - 1 - first
  · rw [mod_is (a := first + step * t) (r := first + step * t % M) (q := q) (by omega) (by omega) (by omega)]
    omega
  · rw [mod_is (a := first + step * t) (r := first + step * t % M - M) (q := q + 1) (by omega) (by omega) (by rw [Int.mul_add, Int.mul_one]; omega)]
    omega
/-- first: none is reached yet -/
theorem rise_zero {M first last step : Int} (h0 : 0 ≤ first) (h2 : first < M) (h1 : last ≤ first) : First (fun t => last ≤ (first + step * t) % M) (some 0) := by
  refine ⟨?_, fun s l => absurd l (Nat.not_lt_zero s)⟩
  show last ≤ (first + step * (0 : Nat)) % M
  simp
  rw [Int.emod_eq_of_lt h0 h2]
  exact h1
theorem rise_none {M first last step : Int} (hM : 0 < M) (h1 : M ≤ last) : First (fun t => last ≤ (first + step * t) % M) none := by
  intro t h
  have h' : last ≤ (first + step * t) % M := h
  have := Int.emod_lt_of_pos (first + step * t) hM
  omega
/-- a sum in a word, by its words -/
theorem add_mod (a s M : Int) (t : Nat) : (a % M + s * t) % M = (a + s * t) % M := Int.emod_add_emod _ _ _
theorem mirror_mod {M a s : Int} (hM : 0 < M) (t : Nat) : (M - 1 - a % M + -s * t) % M = M - 1 - (a + s * t) % M := by
  obtain ⟨q, q1, q2, q3⟩ := mod_ex a hM
  obtain ⟨p, p1, p2, p3⟩ := mod_ex (a + s * t) hM
  refine mod_is (q := q - p) (by omega) (by omega) ?_
  rw [Int.mul_sub, Int.neg_mul]
  omega
section
variable {b : Nat} {both : Bool} {x e s : Int}
theorem stop_lt (h : 1 ≤ b) (t : Nat) : Stop 0 (some b) both x e s t ↔ (e + off b both) % 2 ^ b ≤ ((x + off b both) % 2 ^ b + s * t) % 2 ^ b := by
  simp only [Stop, goes]
  rw [seen_off h, seen_off h, add_mod]
  have e1 : x + off b both + s * t = x + s * t + off b both := by omega
  rw [e1]
  omega
theorem stop_le (h : 1 ≤ b) (t : Nat) : Stop 1 (some b) both x e s t ↔ (e + off b both) % 2 ^ b + 1 ≤ ((x + off b both) % 2 ^ b + s * t) % 2 ^ b := by
  simp only [Stop, goes]
  rw [seen_off h, seen_off h, add_mod]
  have e1 : x + off b both + s * t = x + s * t + off b both := by omega
  rw [e1]
  omega
theorem stop_gt (h : 1 ≤ b) (t : Nat) : Stop 2 (some b) both x e s t ↔ 2 ^ b - 1 - (e + off b both) % 2 ^ b ≤ (2 ^ b - 1 - (x + off b both) % 2 ^ b + -s * t) % 2 ^ b := by
  simp only [Stop, goes]
  rw [seen_off h, seen_off h, mirror_mod (pow_pos2 b)]
  have e1 : x + off b both + s * t = x + s * t + off b both := by omega
  rw [e1]
  omega
theorem stop_ge (h : 1 ≤ b) (t : Nat) : Stop 3 (some b) both x e s t ↔ 2 ^ b - 1 - (e + off b both) % 2 ^ b + 1 ≤ (2 ^ b - 1 - (x + off b both) % 2 ^ b + -s * t) % 2 ^ b := by
  simp only [Stop, goes]
  rw [seen_off h, seen_off h, mirror_mod (pow_pos2 b)]
  have e1 : x + off b both + s * t = x + s * t + off b both := by omega
  rw [e1]
  omega
theorem seen_eq (h : 1 ≤ b) {y : Int} : sees (some b) both x = sees (some b) both y ↔ (x - y) % 2 ^ b = 0 := by
  rw [seen_off h, seen_off h]
  have e1 : x - y = (x + off b both) - (y + off b both) := by omega
  rw [e1]
  constructor
  · intro q
    exact Int.emod_eq_emod_iff_emod_sub_eq_zero.mp (by omega)
  · intro q
    have := Int.emod_eq_emod_iff_emod_sub_eq_zero.mpr q
    omega
end
/-- integers -/
theorem stop_int_le {x e s : Int} (h : e ≤ x) : First (fun t => e ≤ x + s * t) (some 0) := by
  refine ⟨?_, fun s l => absurd l (Nat.not_lt_zero s)⟩
  show e ≤ x + s * (0 : Nat)
  simp
  exact h
theorem stop_int_none {x e s : Int} (h : x < e) (hs : s ≤ 0) : First (fun t => e ≤ x + s * t) none := by
  intro t q
  have q' : e ≤ x + s * t := q
  have : s * (t : Int) ≤ 0 := Int.mul_nonpos_of_nonpos_of_nonneg hs (by omega)
  omega
theorem stop_int_some {x e s : Int} (h : x < e) (hs : 0 < s) : First (fun t => e ≤ x + s * t) (some (cdv (e - x) s).toNat) := by
  obtain ⟨c1, c2⟩ := cdv_spec (a := e - x) hs
  have cpos : 0 ≤ cdv (e - x) s := by
    by_cases c : 0 ≤ cdv (e - x) s
    · exact c
    · have := mul_le (Int.le_of_lt hs) (show cdv (e - x) s ≤ 0 by omega)
      omega
  have ec : ((cdv (e - x) s).toNat : Int) = cdv (e - x) s := Int.toNat_of_nonneg cpos
  refine ⟨?_, fun t l q => ?_⟩
  · show e ≤ x + s * ((cdv (e - x) s).toNat : Int)
    rw [ec]
    omega
  · have q' : e ≤ x + s * t := q
    have := c2 t (by omega)
    omega
end PM
set_option Elab.async false
set_option linter.all false
/-! Plain laws: inverses modulo powers of 2; where a line meets a residue. -/
namespace PM
theorem pow_dvd {a b : Nat} (h : a ≤ b) : (2 : Int) ^ a ∣ 2 ^ b := by
  obtain ⟨c, rfl⟩ : ∃ c, b = a + c := ⟨b - a, by omega⟩
  rw [Int.pow_add]
  exact Int.dvd_mul_right _ _
/-- one turn doubles what is right -/
theorem newton {n f : Int} {b s : Nat} (hs : 1 ≤ s) (h : (2 : Int) ^ (min b s) ∣ n * f - 1) : (2 : Int) ^ (min b (s + 1)) ∣ n * (f * (2 - n * f) % 2 ^ b) - 1 := by
  obtain ⟨q, q1, _, _⟩ := mod_ex (f * (2 - n * f)) (pow_pos2 b)
  generalize f * (2 - n * f) % 2 ^ b = r at *
  have e : n * r - 1 = -((n * f - 1) * (n * f - 1)) - 2 ^ b * (n * q) := by
    generalize (2 : Int) ^ b = P at *
    grind
  rw [e]
  refine Int.dvd_sub (Int.dvd_neg.mpr ?_) (Int.dvd_trans (pow_dvd (Nat.min_le_left _ _)) (Int.dvd_mul_right _ _))
  have h2 : (2 : Int) ^ (min b s + min b s) ∣ (n * f - 1) * (n * f - 1) := by
    rw [Int.pow_add]
    exact Int.mul_dvd_mul h h
  exact Int.dvd_trans (pow_dvd (by omega)) h2
/-- how often 2 divides, at most b times -/
def Twos (n : Int) (b t : Nat) : Prop := t ≤ b ∧ (2 ^ t : Int) ∣ n ∧ (t = b ∨ ¬ (2 ^ (t + 1) : Int) ∣ n)
theorem dvd_mod {d s : Int} {m b : Nat} (h : m ≤ b) : (2 : Int) ^ m ∣ s % 2 ^ b ↔ (2 : Int) ^ m ∣ s := by
  obtain ⟨q, q1, _, _⟩ := mod_ex s (pow_pos2 b)
  have p : (2 : Int) ^ m ∣ 2 ^ b * q := Int.dvd_trans (pow_dvd h) (Int.dvd_mul_right _ _)
  generalize s % 2 ^ b = r at *
  rw [q1]
  exact ⟨fun h => Int.dvd_add h p, fun h => by
    have := Int.dvd_sub h p
    rwa [Int.add_sub_cancel] at this⟩
theorem Twos.le {n : Int} {b t : Nat} (h : Twos n b t) {k : Nat} (hk : k ≤ b) (d : (2 : Int) ^ k ∣ n) : k ≤ t := by
  obtain ⟨h1, h2, h3⟩ := h
  by_cases c : k ≤ t
  · exact c
  · exfalso
    rcases h3 with h3 | h3
    · omega
    · exact h3 (Int.dvd_trans (pow_dvd (by omega)) d)
/-- s t = d modulo 2^b has no solution -/
theorem meet_none {d s : Int} {b m m2 : Nat} (hp : Twos (s % 2 ^ b) b m) (hf : Twos (d % 2 ^ b) b m2) (h : m2 < m) : First (fun t => (s * t - d) % 2 ^ b = 0) none := by
  intro t q
  have q' : (s * t - d) % 2 ^ b = 0 := q
  have d1 : (2 : Int) ^ m ∣ s * t - d := Int.dvd_trans (pow_dvd hp.1) (Int.dvd_of_emod_eq_zero q')
  have d2 : (2 : Int) ^ m ∣ s * t := Int.dvd_trans ((dvd_mod (d := 0) hp.1).mp hp.2.1) (Int.dvd_mul_right _ _)
  have d3 : (2 : Int) ^ m ∣ d := by
    have := Int.dvd_sub d2 d1
    have e : s * t - (s * t - d) = d := by omega
    rwa [e] at this
  have := hf.le hp.1 ((dvd_mod (d := 0) hp.1).mpr d3)
  omega
theorem meet_zero {d s : Int} {b : Nat} (hf : (2 : Int) ^ b ∣ d) : First (fun t => (s * t - d) % 2 ^ b = 0) (some 0) := by
  refine ⟨?_, fun s l => absurd l (Nat.not_lt_zero s)⟩
  show (s * (0 : Nat) - d) % 2 ^ b = 0
  refine Int.emod_eq_zero_of_dvd ?_
  simp
  exact hf
theorem meet_some {d s v : Int} {b m m2 : Nat} (hp : Twos (s % 2 ^ b) b m) (hf : Twos (d % 2 ^ b) b m2) (h : m ≤ m2) (hm : m < b) (hv : (2 : Int) ^ b ∣ s % 2 ^ b / 2 ^ m * v - 1) :
    First (fun t => (s * t - d) % 2 ^ b = 0) (some (d % 2 ^ b / 2 ^ m * v % 2 ^ (b - m)).toNat) := by
  have hP := pow_pos2 m
  obtain ⟨p, hp2⟩ := hp.2.1
  obtain ⟨f, hf2⟩ : (2 : Int) ^ m ∣ d % 2 ^ b := Int.dvd_trans (pow_dvd h) hf.2.1
  have dp : s % 2 ^ b / 2 ^ m = p := by
    rw [hp2]
    exact Int.mul_ediv_cancel_left _ (by omega)
  have df : d % 2 ^ b / 2 ^ m = f := by
    rw [hf2]
    exact Int.mul_ediv_cancel_left _ (by omega)
  rw [dp] at hv
  rw [df]
  obtain ⟨qs, qs1, _, _⟩ := mod_ex s (pow_pos2 b)
  obtain ⟨qd, qd1, _, _⟩ := mod_ex d (pow_pos2 b)
  have eb : (2 : Int) ^ b = 2 ^ m * 2 ^ (b - m) := by
    rw [← Int.pow_add]
    congr 1
    omega
  obtain ⟨k, k1, k2, k3⟩ := mod_ex (f * v) (pow_pos2 (b - m))
  have et : ((f * v % 2 ^ (b - m)).toNat : Int) = f * v % 2 ^ (b - m) := Int.toNat_of_nonneg k2
  obtain ⟨j, hj⟩ := hv
  have sol : ∀ t : Int, (s * t - d) % 2 ^ b = 0 ↔ (2 : Int) ^ (b - m) ∣ p * t - f := by
    intro t
    have e : s * t - d = 2 ^ m * (p * t - f) + 2 ^ b * (qs * t - qd) := by
      rw [hp2] at qs1
      rw [hf2] at qd1
      rw [qs1, qd1]
      generalize (2 : Int) ^ m = A
      generalize (2 : Int) ^ b = B
      grind
    rw [e, Int.add_mul_emod_self_left, eb]
    constructor
    · intro q
      exact Int.dvd_of_mul_dvd_mul_left (by omega) (Int.dvd_of_emod_eq_zero q)
    · intro q
      exact Int.emod_eq_zero_of_dvd (Int.mul_dvd_mul_left _ q)
  refine ⟨?_, fun t l q => ?_⟩
  · show (s * ((f * v % 2 ^ (b - m)).toNat : Int) - d) % 2 ^ b = 0
    rw [et, sol]
    generalize f * v % 2 ^ (b - m) = r at *
    refine ⟨2 ^ m * (f * j) - p * k, ?_⟩
    rw [eb] at hj
    generalize (2 : Int) ^ m = A at *
    generalize (2 : Int) ^ (b - m) = B at *
    grind
  · have q' := (sol t).mp q
    obtain ⟨i, hi⟩ := q'
    have l' : (t : Int) < f * v % 2 ^ (b - m) := by omega
    have : f * v % 2 ^ (b - m) = t := by
      refine mod_is (q := 2 ^ m * (t * j) - v * i) (by omega) (by omega) ?_
      rw [eb] at hj
      generalize (2 : Int) ^ m = A at *
      generalize (2 : Int) ^ (b - m) = B at *
      grind
    omega
end PM
set_option Elab.async false
set_option linter.all false
/-! Plain laws: loops counted one by one. -/
namespace PM
theorem sees_add {w : Option Nat} {both : Bool} (h : ∀ b, w = some b → 1 ≤ b) (x s : Int) : sees w both (sees w both x + s) = sees w both (x + s) := by
  cases w with
  | none => rfl
  | some b =>
    have hb := h b rfl
    rw [seen_eq hb, seen_off hb]
    have e : (x + off b both) % 2 ^ b - off b both + s - (x + s) = (x + off b both) % 2 ^ b - (x + off b both) := by omega
    rw [e]
    obtain ⟨q, q1, _, _⟩ := mod_ex (x + off b both) (pow_pos2 b)
    have e2 : (x + off b both) % 2 ^ b - (x + off b both) = 2 ^ b * (-q) := by
      rw [Int.mul_neg]
      omega
    rw [e2]
    exact Int.mul_emod_right _ _
/-- a first stop comes within a turn -/
theorem first_word {way b : Nat} {both : Bool} {x e s : Int} (h : 1 ≤ b) {t : Nat} (f : First (Stop way (some b) both x e s) (some t)) : t < 2 ^ b := by
  by_cases c : t < 2 ^ b
  · exact c
  · exfalso
    obtain ⟨f1, f2⟩ := f
    refine f2 (t - 2 ^ b) (by have := Nat.two_pow_pos b; omega) ?_
    unfold Stop at *
    have e1 : sees (some b) both (x + s * ((t - 2 ^ b : Nat) : Int)) = sees (some b) both (x + s * t) := by
      rw [seen_eq h]
      have e2 : ((t - 2 ^ b : Nat) : Int) = t - 2 ^ b := by
        have e3 : ((2 ^ b : Nat) : Int) = 2 ^ b := by simp
        omega
      rw [e2]
      have e4 : x + s * ((t : Int) - 2 ^ b) - (x + s * t) = 2 ^ b * (-s) := by
        generalize (2 : Int) ^ b = B
        grind
      rw [e4]
      exact Int.mul_emod_right _ _
    rw [e1]
    exact f1
theorem first_int {way : Nat} (hw : way ≤ 5) {both : Bool} {x e s : Int} {m : Nat} (h1 : x - e ≤ m) (h2 : e - x ≤ m) {t : Nat} (f : First (Stop way none both x e s) (some t)) : t ≤ m + 1 := by
  obtain ⟨f1, f2⟩ := f
  have f1' : ¬ goes way (x + s * t) e := f1
  cases t with
  | zero => omega
  | succ n =>
    have f2' : goes way (x + s * n) e := Classical.not_not.mp (f2 n (by omega))
    have f0' : goes way (x + s * (0 : Nat)) e := Classical.not_not.mp (f2 0 (by omega))
    have en : s * ((n + 1 : Nat) : Int) = s * n + s := by
      have : ((n + 1 : Nat) : Int) = (n : Int) + 1 := by omega
      rw [this, Int.mul_add, Int.mul_one]
    rw [en] at f1'
    have pos : 1 ≤ s → (n : Int) ≤ s * n := fun h => by
      have := Int.mul_le_mul_of_nonneg_right h (show (0 : Int) ≤ n by omega)
      rwa [Int.one_mul] at this
    have neg : s ≤ -1 → s * n ≤ -(n : Int) := fun h => by
      have := Int.mul_le_mul_of_nonneg_right h (show (0 : Int) ≤ n by omega)
      rw [Int.neg_mul, Int.one_mul] at this
      exact this
    match way, hw with
    | 0, _ =>
      simp only [goes] at *
      have := pos (by omega)
      omega
    | 1, _ =>
      simp only [goes] at *
      have := pos (by omega)
      omega
    | 2, _ =>
      simp only [goes] at *
      have := neg (by omega)
      omega
    | 3, _ =>
      simp only [goes] at *
      have := neg (by omega)
      omega
    | 4, _ =>
      simp only [goes] at *
      by_cases c : 1 ≤ s
      · have := pos c
        omega
      · by_cases c2 : s ≤ -1
        · have := neg c2
          omega
        · have c3 : s = 0 := by omega
          subst c3
          omega
    | 5, _ =>
      simp only [goes] at *
      by_cases c : n = 0
      · omega
      · have f3' : goes 5 (x + s * (1 : Nat)) e := Classical.not_not.mp (f2 1 (by omega))
        simp only [goes] at f3'
        have c3 : s = 0 := by omega
        subst c3
        omega
end PM
set_option Elab.async false
set_option linter.all false
/-! Plain laws: sums of quotients. -/
namespace PM
/-- the sum of (a t + b) / m over t < n -/
def S (a m b : Int) : Nat → Int
  | 0 => 0
  | n + 1 => S a m b n + (a * n + b) / m
def T (y m a : Int) : Nat → Int
  | 0 => 0
  | k + 1 => T y m a k + (y - m * ((k : Int) + 1)) / a
theorem cast1 (n : Nat) : ((n + 1 : Nat) : Int) = (n : Int) + 1 := by omega
theorem T_add {y m a : Int} (ha : 0 < a) : ∀ k : Nat, T (y + a) m a k = T y m a k + k
  | 0 => by simp [T]
  | k + 1 => by
    have e : y + a - m * ((k : Int) + 1) = y - m * ((k : Int) + 1) + 1 * a := by omega
    rw [T, T, T_add ha k, e, Int.add_mul_ediv_right _ _ (by omega), cast1]
    omega
theorem T_ext {y m a : Int} (hm : 0 < m) (ha : 0 < a) (k : Nat) (hk : y < m * ((k : Int) + 1)) : ∀ d : Nat, m * ((k : Int) + d) ≤ y + a → T (y + a) m a (k + d) = T (y + a) m a k
  | 0, _ => rfl
  | d + 1, h => by
    have e1 : ((k + d : Nat) : Int) = (k : Int) + d := by omega
    have l1 : m * ((k : Int) + d) ≤ m * ((k : Int) + ((d + 1 : Nat) : Int)) := mul_le (Int.le_of_lt hm) (by omega)
    have l2 : m * ((k : Int) + 1) ≤ m * ((k : Int) + d + 1) := mul_le (Int.le_of_lt hm) (by omega)
    have l3 : m * ((k : Int) + ((d + 1 : Nat) : Int)) = m * ((k : Int) + d + 1) := congrArg (m * ·) (by omega)
    rw [show k + (d + 1) = (k + d) + 1 by omega, T, T_ext hm ha k hk d (by omega), e1, Int.ediv_eq_zero_of_lt (by omega) (by omega)]
    omega
theorem S_T {a m b : Int} (hm : 0 < m) (ha : 0 < a) (hb : 0 ≤ b) (hbm : b < m) : ∀ n : Nat, S a m b n = T (a * n + b) m a ((a * n + b) / m).toNat
  | 0 => by
    have e : (a * ((0 : Nat) : Int) + b) / m = 0 := by
      simp
      exact Int.ediv_eq_zero_of_lt hb hbm
    rw [e]
    rfl
  | n + 1 => by
    have e : a * ((n + 1 : Nat) : Int) + b = a * n + b + a := by
      rw [cast1, Int.mul_add]
      omega
    rw [e, S, S_T hm ha hb hbm n]
    have y0 : 0 ≤ a * (n : Int) := Int.mul_nonneg (Int.le_of_lt ha) (by omega)
    have hy : 0 ≤ a * (n : Int) + b := by omega
    generalize a * (n : Int) + b = y at *
    have a1 : m * (y / m) + y % m = y := Int.mul_ediv_add_emod _ _
    have a2 := Int.emod_nonneg y (show m ≠ 0 by omega)
    have a3 := Int.emod_lt_of_pos y hm
    have b1 : m * ((y + a) / m) + (y + a) % m = y + a := Int.mul_ediv_add_emod _ _
    have b2 := Int.emod_nonneg (y + a) (show m ≠ 0 by omega)
    have q0 : 0 ≤ y / m := Int.ediv_nonneg hy (Int.le_of_lt hm)
    have q1 : y / m ≤ (y + a) / m := Int.ediv_le_ediv hm (by omega)
    have t0 : ((y / m).toNat : Int) = y / m := Int.toNat_of_nonneg q0
    have t1 : (((y + a) / m).toNat : Int) = (y + a) / m := Int.toNat_of_nonneg (by omega)
    obtain ⟨d, hd⟩ : ∃ d : Nat, ((y + a) / m).toNat = (y / m).toNat + d := ⟨((y + a) / m).toNat - (y / m).toNat, by omega⟩
    have ed : (y / m) + (d : Int) = (y + a) / m := by omega
    rw [hd, T_ext hm ha (y / m).toNat (by rw [t0, Int.mul_add]; omega) d (by rw [t0, ed]; omega), T_add ha, t0]
theorem S_shift (a m c : Int) : ∀ k : Nat, S m a c (k + 1) = c / a + S m a (c + m) k
  | 0 => by simp [S]
  | k + 1 => by
    have e : m * ((k + 1 : Nat) : Int) + c = m * k + (c + m) := by
      rw [cast1, Int.mul_add]
      omega
    rw [S, S_shift a m c k, S, e]
    omega
theorem T_S (y m a : Int) : ∀ k : Nat, T y m a k = S m a (y - m * k) k
  | 0 => rfl
  | k + 1 => by
    have e : y - m * ((k + 1 : Nat) : Int) + m = y - m * k := by
      rw [cast1, Int.mul_add]
      omega
    rw [T, T_S y m a k, S_shift, e, cast1]
    omega
/-- the sum, turned about -/
theorem S_swap {a m b : Int} (hm : 0 < m) (ha : 0 < a) (hb : 0 ≤ b) (hbm : b < m) (n : Nat) : S a m b n = S m a ((a * n + b) % m) ((a * n + b) / m).toNat := by
  rw [S_T hm ha hb hbm, T_S]
  have y0 : 0 ≤ a * (n : Int) := Int.mul_nonneg (Int.le_of_lt ha) (by omega)
  have q0 : 0 ≤ (a * (n : Int) + b) / m := Int.ediv_nonneg (by omega) (Int.le_of_lt hm)
  have a1 : m * ((a * (n : Int) + b) / m) + (a * (n : Int) + b) % m = a * (n : Int) + b := Int.mul_ediv_add_emod _ _
  rw [Int.toNat_of_nonneg q0]
  have e : a * (n : Int) + b - m * ((a * (n : Int) + b) / m) = (a * (n : Int) + b) % m := by omega
  rw [e]
def tri (n : Int) : Int := n * (n - 1) / 2
theorem tri_succ (n : Nat) : tri ((n + 1 : Nat) : Int) = tri n + n := by
  unfold tri
  have e : ((n + 1 : Nat) : Int) * (((n + 1 : Nat) : Int) - 1) = (n : Int) * ((n : Int) - 1) + n * 2 := by
    rw [cast1]
    generalize (n : Int) = x
    grind
  rw [e, Int.add_mul_ediv_right _ _ (by decide)]
/-- the whole parts taken out -/
theorem S_red {a m b : Int} (hm : 0 < m) : ∀ n : Nat, S a m b n = tri n * (a / m) + n * (b / m) + S (a % m) m (b % m) n
  | 0 => by simp [S, tri]
  | n + 1 => by
    have e1 : a * (n : Int) + b = a % m * n + b % m + m * (a / m * n + b / m) := by
      have h1 : m * (a / m) + a % m = a := Int.mul_ediv_add_emod _ _
      have h2 : m * (b / m) + b % m = b := Int.mul_ediv_add_emod _ _
      generalize a / m = q at *
      generalize b / m = p at *
      generalize a % m = r at *
      generalize b % m = s at *
      grind
    rw [S, S_red hm n, S, e1, Int.add_mul_ediv_left _ _ (by omega), tri_succ, cast1]
    generalize a / m = q
    generalize b / m = p
    generalize tri n = t
    generalize S (a % m) m (b % m) n = u
    generalize (a % m * (n : Int) + b % m) / m = v
    generalize (n : Int) = x
    grind
/-- below the modulus all quotients are 0 -/
theorem S_zero {a m b : Int} (ha : 0 ≤ a) (hb : 0 ≤ b) (hm : 0 < m) : ∀ n : Nat, a * n + b < m → S a m b n = 0
  | 0, _ => rfl
  | n + 1, h => by
    rw [cast1, Int.mul_add] at h
    have y0 : 0 ≤ a * (n : Int) := Int.mul_nonneg ha (by omega)
    rw [S, S_zero ha hb hm n (by omega), Int.ediv_eq_zero_of_lt (by omega) (by omega)]
    rfl
/-- how many of the first n sums lie from e on -/
def C (M here step e : Int) (n : Nat) : Int := S step M (here + M - e) n - S step M here n
theorem C_succ {M here step e : Int} (hM : 0 < M) (h0 : 0 ≤ e) (h1 : e ≤ M) (n : Nat) : C M here step e (n + 1) = C M here step e n + if e ≤ (here + step * n) % M then 1 else 0 := by
  unfold C
  rw [S, S]
  obtain ⟨q, q1, q2, q3⟩ := mod_ex (here + step * n) hM
  have d1 : (step * n + here) / M = q := by
    have e1 : step * n + here = (here + step * n) % M + M * q := by omega
    rw [e1, Int.add_mul_ediv_left _ _ (by omega), Int.ediv_eq_zero_of_lt q2 q3]
    omega
  rw [d1]
  split
  · have d2 : (step * n + (here + M - e)) / M = q + 1 := by
      have e1 : step * n + (here + M - e) = (here + step * n) % M - e + M * (q + 1) := by
        rw [Int.mul_add]
        omega
      rw [e1, Int.add_mul_ediv_left _ _ (by omega), Int.ediv_eq_zero_of_lt (by omega) (by omega)]
      omega
    rw [d2]
    omega
  · have d2 : (step * n + (here + M - e)) / M = q := by
      have e1 : step * n + (here + M - e) = (here + step * n) % M + M - e + M * q := by omega
      rw [e1, Int.add_mul_ediv_left _ _ (by omega), Int.ediv_eq_zero_of_lt (by omega) (by omega)]
      omega
    rw [d2]
    omega
theorem C_zero {M here step e : Int} (hM : 0 < M) (h0 : 0 ≤ e) (h1 : e ≤ M) : ∀ n : Nat, (∀ t : Nat, t < n → ¬ e ≤ (here + step * t) % M) → C M here step e n = 0
  | 0, _ => by simp [C, S]
  | n + 1, h => by
    rw [C_succ hM h0 h1, C_zero hM h0 h1 n fun t ht => h t (by omega), if_neg (h n (by omega))]
    rfl
theorem C_first {M here step e : Int} (hM : 0 < M) (h0 : 0 ≤ e) (h1 : e ≤ M) {t : Nat} (f : First (fun t => e ≤ (here + step * t) % M) (some t)) : C M here step e t = 0 ∧ C M here step e (t + 1) = 1 := by
  have z := C_zero hM h0 h1 t f.2
  refine ⟨z, ?_⟩
  rw [C_succ hM h0 h1, z, if_pos f.1]
  rfl
end PM
set_option Elab.async false
set_option linter.all false
/-! Plain laws: what a first stop of integers tells. -/
namespace PM
theorem rise_int_none {B E S : Int} (f : First (fun t => E ≤ B + S * (t : Int)) none) : B < E ∧ S ≤ 0 := by
  have h0 : ¬ E ≤ B + S * ((0 : Nat) : Int) := f 0
  simp at h0
  refine ⟨by omega, ?_⟩
  by_cases c : S ≤ 0
  · exact c
  · exfalso
    refine f (E - B).toNat ?_
    show E ≤ B + S * ((E - B).toNat : Int)
    have e : ((E - B).toNat : Int) = E - B := Int.toNat_of_nonneg (by omega)
    rw [e]
    have := Int.mul_le_mul_of_nonneg_right (show 1 ≤ S by omega) (show 0 ≤ E - B by omega)
    omega
theorem rise_int_some {B E S : Int} {t : Nat} (f : First (fun t => E ≤ B + S * (t : Int)) (some (t + 1))) : B < E ∧ E ≤ B + S * ((t + 1 : Nat) : Int) ∧ B + S * ((t + 1 : Nat) : Int) - S < E ∧ (t : Int) < E - B := by
  obtain ⟨f1, f2⟩ := f
  have h0 : ¬ E ≤ B + S * ((0 : Nat) : Int) := f2 0 (by omega)
  have h1 : ¬ E ≤ B + S * (t : Int) := f2 t (by omega)
  simp at h0
  have f1' : E ≤ B + S * ((t + 1 : Nat) : Int) := f1
  have e : S * ((t + 1 : Nat) : Int) = S * t + S := by
    have : ((t + 1 : Nat) : Int) = (t : Int) + 1 := by omega
    rw [this, Int.mul_add, Int.mul_one]
  have sp : 1 ≤ S := by omega
  have := Int.mul_le_mul_of_nonneg_right sp (show (0 : Int) ≤ t by omega)
  exact ⟨h0, f1', by omega, by omega⟩
/-- integers that meet -/
theorem meet_int {d s : Int} {r : Option Nat} (f : First (fun t => s * (t : Int) = d) r) :
    (d = 0 → r = some 0) ∧ (d ≠ 0 → s = 0 → r = none) ∧ (s ≠ 0 → (d.fdiv s * s = d ∧ 0 ≤ d.fdiv s → ∃ t : Nat, r = some t ∧ (t : Int) = d.fdiv s) ∧ (¬ (d.fdiv s * s = d ∧ 0 ≤ d.fdiv s) → r = none)) := by
  refine ⟨fun h => ?_, fun h g => ?_, fun hs => ⟨fun ⟨h, g⟩ => ?_, fun h => ?_⟩⟩
  · subst h
    exact f.uniq ⟨by simp, fun s l => absurd l (Nat.not_lt_zero s)⟩
  · subst g
    exact f.uniq fun t q => h (by have q' : (0 : Int) * t = d := q; omega)
  · have et : ((d.fdiv s).toNat : Int) = d.fdiv s := Int.toNat_of_nonneg g
    refine ⟨(d.fdiv s).toNat, f.uniq ⟨?_, fun t l q => ?_⟩, et⟩
    · show s * ((d.fdiv s).toNat : Int) = d
      rw [et, Int.mul_comm]
      exact h
    · have q' : s * (t : Int) = d := q
      rw [Int.mul_comm] at h
      have : (t : Int) = d.fdiv s := Int.eq_of_mul_eq_mul_left hs (q'.trans h.symm)
      omega
  · refine f.uniq fun t q => h ?_
    have q' : s * (t : Int) = d := q
    rw [← q', Int.mul_fdiv_cancel_left _ hs]
    exact ⟨Int.mul_comm _ _, by omega⟩
theorem fdiv_abs (d : Int) {s : Int} (hs : s ≠ 0) : (d.fdiv s).natAbs ≤ d.natAbs := by
  by_cases c : 0 < s
  · rw [Int.fdiv_eq_ediv_of_nonneg _ (Int.le_of_lt c)]
    exact Int.natAbs_ediv_le_natAbs _ _
  · rw [← Int.neg_fdiv_neg d s, Int.fdiv_eq_ediv_of_nonneg _ (by omega)]
    have := Int.natAbs_ediv_le_natAbs (-d) (-s)
    rwa [Int.natAbs_neg] at this
end PM
set_option Elab.async false
set_option linter.all false
/-! Plain laws: the first number of passes that a loop without its counter does not make. -/
namespace PM
/-- n passes are not made -/
def Wr (St : Nat → Nat → Prop) (n : Nat) : Prop := ¬ First (St n) (some n)
theorem first_self {P : Nat → Prop} (h : P 0) : First P (some 0) := ⟨h, fun s l => absurd l (Nat.not_lt_zero s)⟩
theorem fall_zero {X0 s M : Int} (hz : s % M = 0) : First (Wr fun n t => (X0 + s * (n : Int)) % M ≤ (X0 + s * (t : Int)) % M) (some 1) := by
  have e : ∀ n : Nat, (X0 + s * (n : Int)) % M = X0 % M := fun n => by
    rw [Int.add_emod, Int.mul_emod, hz]
    simp
  refine ⟨fun f => ?_, fun n l h => ?_⟩
  · refine f.2 0 (by omega) ?_
    show (X0 + s * ((1 : Nat) : Int)) % M ≤ (X0 + s * ((0 : Nat) : Int)) % M
    rw [e, e]
    exact Int.le_refl _
  · have : n = 0 := by omega
    subst this
    exact h (first_self (Int.le_refl _))
theorem fall_some {X0 s M : Int} (h0 : 0 ≤ X0) (h1 : X0 < M) (hp : 0 < s % M) : First (Wr fun n t => (X0 + s * (n : Int)) % M ≤ (X0 + s * (t : Int)) % M) (some (cdv (M - X0) (s % M)).toNat) := by
  have hM : 0 < M := by omega
  have pl := Int.emod_lt_of_pos s hM
  have e : ∀ n : Nat, (X0 + s * (n : Int)) % M = (X0 + s % M * n) % M := fun n => by
    rw [Int.add_emod, Int.mul_emod, ← Int.emod_emod s, ← Int.mul_emod, ← Int.add_emod, Int.emod_emod]
  obtain ⟨c1, c2⟩ := cdv_spec (a := M - X0) hp
  have cpos : 0 < cdv (M - X0) (s % M) := by
    by_cases c : 0 < cdv (M - X0) (s % M)
    · exact c
    · have := mul_le (Int.le_of_lt hp) (show cdv (M - X0) (s % M) ≤ 0 by omega)
      omega
  have ec : ((cdv (M - X0) (s % M)).toNat : Int) = cdv (M - X0) (s % M) := Int.toNat_of_nonneg (by omega)
  have low : ∀ n : Nat, (n : Int) < cdv (M - X0) (s % M) → X0 + s % M * n < M := fun n l => by
    by_cases c : X0 + s % M * n < M
    · exact c
    · have := c2 n (by omega)
      omega
  have nn : ∀ n : Nat, 0 ≤ s % M * (n : Int) := fun n => Int.mul_nonneg (Int.le_of_lt hp) (by omega)
  generalize hq : cdv (M - X0) (s % M) = q at *
  refine ⟨fun f => ?_, fun n l h => h ⟨Int.le_refl _, fun t lt => ?_⟩⟩
  · refine f.2 (q.toNat - 1) (by omega) ?_
    show (X0 + s * (q.toNat : Int)) % M ≤ (X0 + s * ((q.toNat - 1 : Nat) : Int)) % M
    rw [e, e]
    have l1 := low (q.toNat - 1) (by omega)
    have n1 := nn (q.toNat - 1)
    have eq1 : s % M * (q.toNat : Int) = s % M * ((q.toNat - 1 : Nat) : Int) + s % M := by
      have : ((q.toNat : Nat) : Int) = ((q.toNat - 1 : Nat) : Int) + 1 := by omega
      rw [this, Int.mul_add, Int.mul_one]
    rw [Int.emod_eq_of_lt (a := X0 + s % M * ((q.toNat - 1 : Nat) : Int)) (by omega) l1]
    have g1 : M - X0 ≤ s % M * (q.toNat : Int) := by
      rw [ec]
      exact c1
    rw [mod_is (a := X0 + s % M * (q.toNat : Int)) (m := M) (r := X0 + s % M * (q.toNat : Int) - M) (q := 1) (by omega) (by omega) (by omega)]
    omega
  · show ¬ (X0 + s * (n : Int)) % M ≤ (X0 + s * (t : Int)) % M
    rw [e, e]
    have l1 := low n (by omega)
    have l2 := low t (by omega)
    have n1 := nn n
    have n2 := nn t
    have ms := mul_succ_le (Int.le_of_lt hp) (show (t : Int) < n by omega)
    rw [Int.emod_eq_of_lt (by omega) l1, Int.emod_eq_of_lt (by omega) l2]
    omega
theorem odd_dvd {p : Int} (hp : p % 2 = 1) : ∀ (j : Nat) (k : Int), (2 : Int) ^ j ∣ p * k → (2 : Int) ^ j ∣ k := by
  intro j
  induction j with
  | zero =>
    intro k _
    simp
  | succ j ih =>
    intro k h
    have h2 : (2 : Int) ∣ p * k := Int.dvd_trans ⟨2 ^ j, by rw [Int.pow_succ, Int.mul_comm]⟩ h
    have ek : k % 2 = 0 := by
      have e := Int.emod_eq_zero_of_dvd h2
      rw [Int.mul_emod, hp] at e
      omega
    obtain ⟨i, rfl⟩ := Int.dvd_of_emod_eq_zero ek
    have e1 : p * (2 * i) = 2 * (p * i) := by rw [← Int.mul_assoc, Int.mul_comm p 2, Int.mul_assoc]
    rw [e1, Int.pow_succ, Int.mul_comm (2 ^ j) 2] at h
    rw [Int.pow_succ, Int.mul_comm (2 ^ j) 2]
    exact Int.mul_dvd_mul_left 2 (ih i (Int.dvd_of_mul_dvd_mul_left (by decide) h))
theorem unit_dvd {s : Int} {b m : Nat} (h : Twos (s % 2 ^ b) b m) (k : Int) : (2 : Int) ^ b ∣ s * k ↔ (2 : Int) ^ (b - m) ∣ k := by
  obtain ⟨hm, h2, h3⟩ := h
  have eb : (2 : Int) ^ b = 2 ^ m * 2 ^ (b - m) := by
    rw [← Int.pow_add]
    congr 1
    omega
  have d : (2 : Int) ^ m ∣ s := (dvd_mod (d := 0) hm).mp h2
  obtain ⟨p, rfl⟩ := d
  rw [eb, Int.mul_assoc]
  constructor
  · intro q
    have q1 := Int.dvd_of_mul_dvd_mul_left (by have := pow_pos2 m; omega) q
    rcases h3 with h3 | h3
    · subst h3
      simp
    · refine odd_dvd ?_ _ _ q1
      by_cases o : p % 2 = 1
      · exact o
      · exfalso
        by_cases c : m = b
        · subst c
          have : (2 ^ m * p) % 2 ^ m = 0 := Int.mul_emod_right _ _
          rw [this] at h3
          exact h3 (Int.dvd_zero _)
        · refine h3 ((dvd_mod (d := 0) (show m + 1 ≤ b by omega)).mpr ?_)
          obtain ⟨i, hi⟩ := Int.dvd_of_emod_eq_zero (show p % 2 = 0 by omega)
          exact ⟨i, by rw [hi, Int.pow_succ, Int.mul_assoc]⟩
  · intro q
    exact Int.mul_dvd_mul_left _ (Int.dvd_trans q (Int.dvd_mul_left _ _))
theorem ne_words {s : Int} {b m : Nat} (h : Twos (s % 2 ^ b) b m) (x : Int) : First (Wr fun n t => (x + s * (t : Int) - (x + s * (n : Int))) % 2 ^ b = 0) (some (2 ^ (b - m))) := by
  have e : ∀ n t : Nat, (x + s * (t : Int) - (x + s * (n : Int))) % 2 ^ b = 0 ↔ (2 : Int) ^ (b - m) ∣ (t : Int) - n := fun n t => by
    have e1 : x + s * (t : Int) - (x + s * (n : Int)) = s * ((t : Int) - n) := by
      rw [Int.mul_sub]
      omega
    rw [e1, ← unit_dvd h]
    exact ⟨fun q => Int.dvd_of_emod_eq_zero q, fun q => Int.emod_eq_zero_of_dvd q⟩
  have pc : ((2 ^ (b - m) : Nat) : Int) = 2 ^ (b - m) := by simp
  have pp := Nat.two_pow_pos (b - m)
  refine ⟨fun f => f.2 0 pp ((e _ _).mpr ?_), fun n l q => q ⟨(e _ _).mpr (by simp), fun t lt z => ?_⟩⟩
  · rw [pc]
    exact ⟨-1, by simp⟩
  · obtain ⟨i, hi⟩ := (e _ _).mp z
    have p2 := pow_pos2 (b - m)
    by_cases c : i < 0
    · have := mul_le (Int.le_of_lt p2) (show i ≤ -1 by omega)
      rw [Int.mul_neg, Int.mul_one] at this
      omega
    · have := mul_le (Int.le_of_lt p2) (show 0 ≤ i by omega)
      rw [Int.mul_zero] at this
      omega
theorem wrong_zero {St : Nat → Nat → Prop} (h : ¬ St 0 0) : First (Wr St) (some 0) := ⟨fun f => h f.1, fun s l => absurd l (Nat.not_lt_zero s)⟩
theorem wrong_one {St : Nat → Nat → Prop} (h0 : St 0 0) (h : St 1 0) : First (Wr St) (some 1) := by
  refine ⟨fun f => f.2 0 (by omega) h, fun n l q => ?_⟩
  have : n = 0 := by omega
  subst this
  exact q (first_self h0)
theorem wrong_none {St : Nat → Nat → Prop} (h : ∀ n, St n n) (g : ∀ n t, t < n → ¬ St n t) : First (Wr St) none := fun n q => q ⟨h n, fun t l => g n t l⟩
theorem Wr.congr {A B : Nat → Nat → Prop} (h : ∀ n t, A n t ↔ B n t) {r : Option Nat} (f : First (Wr A) r) : First (Wr B) r := f.congr fun n => not_congr ⟨fun g => g.congr (h n), fun g => g.congr fun t => (h n t).symm⟩
end PM
set_option Elab.async false
set_option linter.all false
set_option maxRecDepth 100000
namespace DL
open PySem PySem.Spec PyProof.Rows L2 PM
/-! ### sizes -/
/-- small enough for all that is done with it -/
def Sm (n : Nat) (i : Int) : Prop := i.natAbs < 2 ^ n
theorem Sm.bits {n : Nat} {i : Int} (h : Sm n i) : Builtin.Int.intBits i ≤ n := PyProof.Rows.intBits_le h
theorem bits_ok {n m : Nat} {i j : Int} (h : Sm n i) (g : Sm m j) (l : n + m ≤ 134217728) : bitsOk i j = true := by
  refine bitsOk_iff.mpr ?_
  have := h.bits
  have := g.bits
  omega
theorem log2_lt {n : Nat} {i : Int} (h : Sm n i) (hn : 0 < n) : i.natAbs.log2 < n := by
  by_cases c : i.natAbs = 0
  · rw [c]
    exact hn
  · exact (Nat.log2_lt c).mpr h
theorem div_ok {n : Nat} {j : Int} (h : Sm n j) (h0 : j ≠ 0) (l : n ≤ 8999) : divOk j = true := by
  unfold divOk
  rw [decide_eq_true h0]
  have : j.natAbs.log2 ≤ 8999 := by
    by_cases c : n = 0
    · subst c
      unfold Sm at h
      omega
    · have := log2_lt h (by omega)
      omega
  rw [Nat.ble_eq_true_of_le this]
  rfl
theorem Sm.mono {n m : Nat} {i : Int} (h : Sm n i) (l : n ≤ m) : Sm m i := Nat.lt_of_lt_of_le h (Nat.pow_le_pow_right (by decide) l)
theorem Sm.neg {n : Nat} {i : Int} (h : Sm n i) : Sm n (-i) := by
  unfold Sm at *
  rw [Int.natAbs_neg]
  exact h
theorem Sm.add {n : Nat} {i j : Int} (h : Sm n i) (g : Sm n j) : Sm (n + 1) (i + j) := by
  unfold Sm at *
  have := Int.natAbs_add_le i j
  rw [Nat.pow_succ]
  omega
theorem Sm.sub {n : Nat} {i j : Int} (h : Sm n i) (g : Sm n j) : Sm (n + 1) (i - j) := by
  rw [Int.sub_eq_add_neg]
  exact h.add g.neg
theorem Sm.mul {n m : Nat} {i j : Int} (h : Sm n i) (g : Sm m j) : Sm (n + m) (i * j) := by
  unfold Sm at *
  rw [Int.natAbs_mul, Nat.pow_add]
  exact Nat.mul_lt_mul'' h g
theorem Sm.of_lt {n : Nat} {i : Int} (h0 : 0 ≤ i) (h : i < 2 ^ n) : Sm n i := by
  unfold Sm
  have e : ((2 ^ n : Nat) : Int) = 2 ^ n := by simp
  omega
theorem Sm.of_abs {n : Nat} {i : Int} (h0 : -(2 ^ n) < i) (h : i < 2 ^ n) : Sm n i := by
  unfold Sm
  have e : ((2 ^ n : Nat) : Int) = 2 ^ n := by simp
  omega
theorem Sm.lit {n : Nat} {i : Int} (h : Nat.blt i.natAbs (2 ^ n) = true) : Sm n i := by
  unfold Sm
  exact Nat.le_of_ble_eq_true h
theorem Sm.le {n : Nat} {i j : Int} (h : Sm n j) (l : i.natAbs ≤ j.natAbs) : Sm n i := Nat.lt_of_le_of_lt l h

/-! ### shifts -/
theorem shl_one {b : Nat} (hb : b ≤ 100000) : iShl (.int 1) (.int b) = some (.int (2 ^ b)) := by
  rw [shl_ok (by omega) ?_]
  · simp
  · have : Builtin.Int.intBits 1 = 1 := by decide
    omega
theorem shl_one1 {b : Nat} (hb : b < 100000) : iShl (.int 1) (.int (b + 1)) = some (.int (2 ^ (b + 1))) := shl_one (b := b + 1) (show b + 1 ≤ 100000 by omega)
theorem pw_ne (b : Nat) : (2 : Int) ^ b ≠ 0 := by
  have := pow_pos2 b
  omega
theorem fmod_pos {a b : Int} (h : 0 < b) : a.fmod b = a % b := Int.fmod_eq_emod_of_nonneg _ (Int.le_of_lt h)
theorem fdiv_pos {a b : Int} (h : 0 < b) : a.fdiv b = a / b := Int.fdiv_eq_ediv_of_nonneg _ (Int.le_of_lt h)

/-! ### words -/
theorem q_word (n : Int) (b : Nat) (hb : b ≤ 1000) : F_word [.int n, .int b] = .ok (.int (n % 2 ^ b)) .non := by
  simp [F_word, m_word, shl_one (show b ≤ 100000 by omega), pw_ne, fmod_pos (pow_pos2 b)]
theorem q_wordN (n : D) : F_word [n, .non] = .ok n .non := by
  simp [F_word, m_word]

/-! ### how often 2 divides -/
theorem q_twos_loop (n : Int) (b : Nat) (hb : b ≤ 900) : ∀ (k c f : Nat), k + c = b → k < f → (2 ^ c : Int) ∣ n →
    ∃ t, Twos n b t ∧ whileM (mAnd (mB (m2 iLt (mVar 2) (mVar 1))) (mB (m2 pEq (m2 iMod (mMap fInt (mCons (mVar 0) (M.ret []))) (m2 iShl (mC (.int 1)) (m2 iAdd (mVar 2) (mC (.int 1))))) (mC (.int 0))))) (mSet (m2 iAdd (mVar 2) (mC (.int 1))) (setSh 2)) f
      [some (.sh, .int n), some (.sh, .int b), some (.sh, .int c)] = .ok .nx [some (.sh, .int n), some (.sh, .int b), some (.sh, .int t)] := by
  intro k
  induction k with
  | zero =>
    intro c f e h hd
    cases f with
    | zero => exact absurd h (Nat.lt_irrefl _)
    | succ f =>
      have e' : c = b := by omega
      subst e'
      refine ⟨c, ⟨Nat.le_refl c, hd, .inl rfl⟩, ?_⟩
      rw [whileM]
      simp
  | succ k ih =>
    intro c f e h hd
    cases f with
    | zero => exact absurd h (Nat.not_lt_zero _)
    | succ f =>
      have lt : (c : Int) < b := by omega
      have s1 := shl_one1 (b := c) (by omega)
      by_cases q : n % 2 ^ (c + 1) = 0
      · obtain ⟨t, t1, t2⟩ := ih (c + 1) f (by omega) (by omega) (Int.dvd_of_emod_eq_zero q)
        refine ⟨t, t1, ?_⟩
        have ec : ((c + 1 : Nat) : Int) = (c : Int) + 1 := by omega
        rw [ec] at t2
        rw [← t2, whileM]
        simp [lt, s1, pw_ne, fmod_pos (pow_pos2 _), q]
      · refine ⟨c, ⟨by omega, hd, .inr fun d => q (Int.emod_eq_zero_of_dvd d)⟩, ?_⟩
        rw [whileM]
        simp [lt, s1, pw_ne, fmod_pos (pow_pos2 _), q]
theorem q_twos (n : Int) (b : Nat) (hb : b ≤ 900) : ∃ t, Twos n b t ∧ F_twos [.int n, .int b] = .ok (.int t) .non := by
  obtain ⟨t, t1, t2⟩ := q_twos_loop n b hb b 0 1000 (by omega) (by omega) (by simp)
  refine ⟨t, t1, ?_⟩
  simp [F_twos, m_twos] at t2 ⊢
  rw [t2]
  simp

end DL
set_option Elab.async false
set_option linter.all false
set_option maxRecDepth 100000
namespace DL
open PySem PySem.Spec PyProof.Rows L2 PM
/-! ### the first pass within a range -/
def optD : Option Nat → D
  | none => .non
  | some t => .int t
theorem neg_fdiv {a m : Int} (hm : 0 < m) : -((-a).fdiv m) = cdv a m := by
  rw [fdiv_pos hm]
  rfl
theorem toNat_mul_lt {a : Int} : (0 : Int) ≤ a → ((a.toNat : Nat) : Int) = a := Int.toNat_of_nonneg
theorem R_succ (k : Nat) (ds : List D) : R_first_within (k + 1) ds = bodyF 6 false (m_first_within (R_first_within k)) ds := rfl
theorem q_first : ∀ (k : Nat) (step M low high : Int), 0 ≤ step → step < M → 0 ≤ low → low ≤ high → high < M → M ≤ 2 ^ 100 → step * M < 2 ^ k →
    ∃ r, First (In step M low high) r ∧ R_first_within (k + 1) [.int step, .int M, .int low, .int high] = .ok (optD r) .non := by
  intro k
  induction k with
  | zero =>
    intro step M low high h0 h1 h2 h3 h4 h5 h6
    have hs : step = 0 := by
      by_cases c : step = 0
      · exact c
      · have := mul_le h0 (show 1 ≤ M by omega)
        rw [Int.mul_one] at this
        simp at h6
        omega
    subst hs
    by_cases c : low = 0
    · subst c
      refine ⟨some 0, first_zero h3, ?_⟩
      simp [R_first_within, m_first_within, optD]
    · refine ⟨none, first_none (by omega), ?_⟩
      simp [R_first_within, m_first_within, optD, c]
  | succ k ih =>
    intro step M low high h0 h1 h2 h3 h4 h5 h6
    by_cases c : low = 0
    · subst c
      refine ⟨some 0, first_zero h3, ?_⟩
      simp [R_first_within, m_first_within, optD]
    · by_cases hs : step = 0
      · subst hs
        refine ⟨none, first_none (by omega), ?_⟩
        simp [R_first_within, m_first_within, optD, c]
      · have hp : 0 < step := by omega
        have sS : Sm 100 step := .of_lt h0 (by omega)
        have d1 := div_ok sS hs (by decide)
        obtain ⟨c1, c2⟩ := cdv_spec (a := low) hp
        have cle : cdv low step ≤ low := c2 low (by
          have := mul_le (show 0 ≤ low by omega) (show 1 ≤ step by omega)
          rw [Int.mul_one, Int.mul_comm] at this
          exact this)
        have cpos : 0 ≤ cdv low step := by
          by_cases c : 0 ≤ cdv low step
          · exact c
          · have := mul_le (Int.le_of_lt hp) (show cdv low step ≤ 0 by omega)
            omega
        have sC : Sm 100 (cdv low step) := .of_lt cpos (by omega)
        have b1 := bits_ok sC sS (by decide)
        have nf := neg_fdiv (a := low) hp
        by_cases hn : step * cdv low step ≤ high
        · refine ⟨some (cdv low step).toNat, first_near hp (by omega) h4 hn, ?_⟩
          have hn' : cdv low step * step ≤ high := by
            rw [Int.mul_comm]
            exact hn
          simp [R_first_within, m_first_within, optD, c, hs, d1, nf, b1, hn', Int.toNat_of_nonneg cpos]
        · have nh := not_hit hp hn
          have hn' : ¬ cdv low step * step ≤ high := by
            rw [Int.mul_comm]
            exact hn
          have m1 : M.fmod step = M % step := fmod_pos hp
          have m2' : (-high).fmod step = -high % step := fmod_pos hp
          have m3 : (-low).fmod step = -low % step := fmod_pos hp
          obtain ⟨r, r1, r2⟩ := ih (M % step) step (-high % step) (-low % step) (Int.emod_nonneg _ hs) (Int.emod_lt_of_pos _ hp) (Int.emod_nonneg _ hs) (in_sub (M := M) hp h3 nh 0).2 (Int.emod_lt_of_pos _ hp) (by omega) (halve hp h1 h6)
          refine ⟨_, first_in hp h1 (by omega) h3 h4 nh r1, ?_⟩
          cases r with
          | none =>
            rw [R_succ]
            simp [m_first_within, optD, c, hs, d1, nf, b1, hn', m1, m2', m3, r2]
          | some y =>
            have hy : (y : Int) < step := first_lt hp r1
            have sM : Sm 101 M := .of_lt (by omega) (by omega)
            have sY : Sm 100 (y : Int) := .of_lt (by omega) (by omega)
            have b2 := bits_ok sM sY (by decide)
            have nf2 := neg_fdiv (a := low + M * y) hp
            have my : 0 ≤ M * y := Int.mul_nonneg (by omega) (by omega)
            have cp2 : 0 ≤ cdv (low + M * y) step := by
              by_cases c : 0 ≤ cdv (low + M * y) step
              · exact c
              · have := mul_le (Int.le_of_lt hp) (show cdv (low + M * y) step ≤ 0 by omega)
                have := (cdv_spec (a := low + M * y) hp).1
                omega
            rw [R_succ]
            simp [m_first_within, optD, c, hs, d1, nf, b1, hn', m1, m2', m3, r2, b2, nf2, Int.toNat_of_nonneg cp2]
end DL
set_option Elab.async false
set_option linter.all false
set_option maxRecDepth 100000
namespace DL
open PySem PySem.Spec PyProof.Rows L2 PM
theorem q_mirN (n : Int) : F_mirrored [.int n, .non] = .ok (.int (-n)) .non := by
  simp [F_mirrored, m_mirrored]
theorem q_mir (n : Int) (b : Nat) (hb : b ≤ 1000) : F_mirrored [.int n, .int b] = .ok (.int (2 ^ b - 1 - n)) .non := by
  simp [F_mirrored, m_mirrored, shl_one (show b ≤ 100000 by omega)]
theorem q_risN (x e s : Int) (hs : Sm 1000 s) : ∃ r, First (fun t => e ≤ x + s * t) r ∧ F_rising [.int x, .int e, .int s, .non] = .ok (optD r) .non := by
  by_cases c : e ≤ x
  · refine ⟨some 0, stop_int_le c, ?_⟩
    simp [F_rising, m_rising, optD, c]
  · by_cases c2 : s ≤ 0
    · refine ⟨none, stop_int_none (by omega) c2, ?_⟩
      simp [F_rising, m_rising, optD, c, c2]
    · have hp : 0 < s := by omega
      refine ⟨_, stop_int_some (by omega) hp, ?_⟩
      have d1 := div_ok hs (by omega) (by decide)
      have e1 : x - e = -(e - x) := by omega
      have nf := neg_fdiv (a := e - x) hp
      have cpos : 0 ≤ cdv (e - x) s := by
        by_cases c : 0 ≤ cdv (e - x) s
        · exact c
        · have := mul_le (Int.le_of_lt hp) (show cdv (e - x) s ≤ 0 by omega)
          have := (cdv_spec (a := e - x) hp).1
          omega
      simp [F_rising, m_rising, optD, c, c2, d1]
      rw [e1, nf]
      omega
theorem q_ris (x e s : Int) (b : Nat) (hb : b ≤ 64) (h0 : 0 ≤ x) (h1 : x < 2 ^ b) (h2 : e < 2 ^ b) : ∃ r, First (fun t => e ≤ (x + s * t) % 2 ^ b) r ∧ F_rising [.int x, .int e, .int s, .int b] = .ok (optD r) .non := by
  by_cases c : e ≤ x
  · refine ⟨some 0, rise_zero h0 h1 c, ?_⟩
    simp [F_rising, m_rising, optD, c]
  · have p := pow_pos2 b
    have ple : (2 : Int) ^ b ≤ 2 ^ 64 := pow_le hb
    have hm : s.fmod (2 ^ b) = s % 2 ^ b := fmod_pos p
    have r0 := Int.emod_nonneg s (pw_ne b)
    have r1 := Int.emod_lt_of_pos s p
    obtain ⟨r, f1, f2⟩ := q_first 149 (s % 2 ^ b) (2 ^ b) (e - x) (2 ^ b - 1 - x) r0 r1 (by omega) (by omega) (by omega) (by omega) (by
      have l1 := mul_le r0 ple
      have l2 := mul_le (show (0 : Int) ≤ 2 ^ 64 by decide) (show s % 2 ^ b ≤ 2 ^ 64 by omega)
      rw [Int.mul_comm] at l2
      have l3 : (2 : Int) ^ 64 * 2 ^ 64 < 2 ^ 149 := by decide
      omega)
    refine ⟨r, f1.congr (rise_iff h0 (by omega) h2), ?_⟩
    have f3 : F_first_within [.int (s % 2 ^ b), .int (2 ^ b), .int (e - x), .int (2 ^ b - 1 - x)] = .ok (optD r) .non := f2
    simp [F_rising, m_rising, c, shl_one (show b ≤ 100000 by omega), pw_ne, hm, f3]
theorem q_eqpN (x e s : Int) : ∃ r, First (Stop 5 none false x e s) r ∧ F_equal_passes [.int x, .int e, .int s, .non] = .ok (optD r) .non := by
  by_cases c : x = e
  · subst c
    by_cases c2 : s = 0
    · subst c2
      refine ⟨none, fun t h => h ?_, ?_⟩
      · simp [goes, sees]
      · simp [F_equal_passes, m_equal_passes, q_wordN, optD]
    · refine ⟨some 1, ⟨fun h => ?_, fun t l h => ?_⟩, ?_⟩
      · simp [goes, sees] at h
        exact c2 (by omega)
      · have : t = 0 := by omega
        subst this
        exact h (by simp [goes, sees])
      · simp [F_equal_passes, m_equal_passes, q_wordN, optD, c2]
  · refine ⟨some 0, ⟨fun h => ?_, fun s l => absurd l (Nat.not_lt_zero s)⟩, ?_⟩
    · simp [goes, sees] at h
      exact c h
    · have c3 : x - e ≠ 0 := by omega
      simp [F_equal_passes, m_equal_passes, q_wordN, optD, c3]
theorem q_eqp (x e s : Int) (both : Bool) (b : Nat) (h1 : 1 ≤ b) (hb : b ≤ 64) : ∃ r, First (Stop 5 (some b) both x e s) r ∧ F_equal_passes [.int x, .int e, .int s, .int b] = .ok (optD r) .non := by
  have w1 := q_word (x - e) b (by omega)
  have w2 := q_word s b (by omega)
  by_cases c : (x - e) % 2 ^ b = 0
  · by_cases c2 : s % 2 ^ b = 0
    · refine ⟨none, fun t h => h ?_, ?_⟩
      · refine (seen_eq h1).mpr ?_
        have e1 : x + s * t - e = (x - e) + s * t := by omega
        rw [e1, Int.add_emod, c, Int.mul_emod, c2]
        simp
      · simp [F_equal_passes, m_equal_passes, w1, w2, optD, c, c2]
    · refine ⟨some 1, ⟨fun h => ?_, fun t l h => ?_⟩, ?_⟩
      · have h' := (seen_eq h1).mp h
        have e1 : x + s * (1 : Nat) - e = (x - e) + s := by
          have : s * ((1 : Nat) : Int) = s := by simp
          omega
        rw [e1, Int.add_emod, c, Int.zero_add, Int.emod_emod] at h'
        exact c2 h'
      · have : t = 0 := by omega
        subst this
        refine h ((seen_eq h1).mpr ?_)
        simp
        exact c
      · simp [F_equal_passes, m_equal_passes, w1, w2, optD, c, c2]
  · refine ⟨some 0, ⟨fun h => c ?_, fun s l => absurd l (Nat.not_lt_zero s)⟩, ?_⟩
    · have := (seen_eq h1).mp h
      simpa using this
    · simp [F_equal_passes, m_equal_passes, w1, w2, optD, c]
end DL
set_option Elab.async false
set_option linter.all false
set_option maxRecDepth 100000
namespace DL
open PySem PySem.Spec PyProof.Rows L2 PM
theorem rng_ok {n : Nat} (h : n ≤ 1000000) : rng1 [.int n] = some (intsFrom 0 n) := by
  have h1 : rngOk (n : Int) = true := by
    unfold rngOk
    exact Nat.ble_eq_true_of_le (by omega)
  have e : ((n : Int)).toNat = n := by simp
  show (if rngOk (n : Int) = true then some (intsFrom 0 (n : Int).toNat) else none) = _
  rw [if_pos h1, e]
theorem q_inv_loop (n : Int) (b : Nat) (hb : b ≤ 64) (hn : Sm 100 n) : ∀ (k : Nat) (lo f : Int) (s : Nat) (o : Option (Fl × D)), 1 ≤ s → 0 ≤ f → f ≤ 2 ^ b → (2 : Int) ^ (min b s) ∣ n * f - 1 →
    ∃ f' o', (2 : Int) ^ (min b (s + k)) ∣ n * f' - 1 ∧ 0 ≤ f' ∧ f' ≤ 2 ^ b ∧
      forM (setSh 3) (mSet (mCall F_word 2 (mCons (m2 iMul (mVar 2) (m2 iSub (mC (.int 2)) (m2 iMul (mVar 0) (mVar 2)))) (mCons (mVar 1) (M.ret [])))) (setSh 2)) (intsFrom lo k) [some (.sh, .int n), some (.sh, .int b), some (.sh, .int f), o] =
        .ok .nx [some (.sh, .int n), some (.sh, .int b), some (.sh, .int f'), o'] := by
  have ple : (2 : Int) ^ b ≤ 2 ^ 64 := pow_le hb
  intro k
  induction k with
  | zero =>
    intro lo f s o h1 h2 h3 h4
    exact ⟨f, o, h4, h2, h3, rfl⟩
  | succ k ih =>
    intro lo f s o h1 h2 h3 h4
    have sf : Sm 65 f := .of_lt h2 (by omega)
    have b1 := bits_ok hn sf (by decide)
    have s2 : Sm 166 (2 - n * f) := Sm.sub (n := 165) (Sm.lit (by decide)) (hn.mul sf)
    have b2 := bits_ok sf s2 (by decide)
    have w := q_word (f * (2 - n * f)) b (by omega)
    obtain ⟨f', o', g1, g2, g3, g4⟩ := ih (lo + 1) (f * (2 - n * f) % 2 ^ b) (s + 1) (some (.sh, .int lo)) (by omega) (Int.emod_nonneg _ (pw_ne b)) (Int.le_of_lt (Int.emod_lt_of_pos _ (pow_pos2 b))) (newton h1 h4)
    refine ⟨f', o', ?_, g2, g3, ?_⟩
    · have e : s + (k + 1) = s + 1 + k := by omega
      rw [e]
      exact g1
    · rw [← g4]
      refine for_cons (ρ1 := [some (.sh, .int n), some (.sh, .int b), some (.sh, .int f), some (.sh, .int lo)]) ?_ ?_
      · simp
      · simp [b1, b2, w]
theorem q_inv (n : Int) (b : Nat) (h1 : 1 ≤ b) (hb : b ≤ 64) (hn : Sm 100 n) (ho : (2 : Int) ∣ n - 1) : ∃ v, (2 : Int) ^ b ∣ n * v - 1 ∧ 0 ≤ v ∧ v ≤ 2 ^ b ∧ F_inverse [.int n, .int b] = .ok (.int v) .non := by
  have p := pow_pos2 b
  obtain ⟨v, o, g1, g2, g3, g4⟩ := q_inv_loop n b hb hn b 0 1 1 none (by omega) (by omega) (by omega) (by
    have e : min b 1 = 1 := by omega
    rw [e]
    simp
    exact ho)
  have e : min b (1 + b) = b := by omega
  rw [e] at g1
  refine ⟨v, g1, g2, g3, ?_⟩
  simp only [F_inverse, m_inverse, bod, rho_f]
  simp [rng_ok (show b ≤ 1000000 by omega)] at g4 ⊢
  rw [g4]
  simp
theorem q_meetN (d s : Int) (hs : Sm 1000 s) : ∃ r, First (fun t => s * (t : Int) = d) r ∧ F_meeting [.int d, .int s, .non] = .ok (optD r) .non := by
  by_cases c : d = 0
  · subst c
    refine ⟨some 0, ⟨by simp, fun s l => absurd l (Nat.not_lt_zero s)⟩, ?_⟩
    simp [F_meeting, m_meeting, optD]
  · by_cases c2 : s = 0
    · subst c2
      refine ⟨none, fun t h => c ?_, ?_⟩
      · have h' : (0 : Int) * t = d := h
        omega
      · simp [F_meeting, m_meeting, optD, c]
    · have d1 := div_ok hs c2 (by decide)
      have e := Int.fmod_add_mul_fdiv d s
      by_cases c3 : d.fmod s = 0
      · have e' : s * d.fdiv s = d := by omega
        by_cases c4 : d.fdiv s < 0
        · refine ⟨none, fun t h => ?_, ?_⟩
          · have h' : s * (t : Int) = d := h
            have : (t : Int) = d.fdiv s := Int.eq_of_mul_eq_mul_left c2 (h'.trans e'.symm)
            omega
          · simp [F_meeting, m_meeting, optD, c, c2, c3, c4, d1]
        · have et : ((d.fdiv s).toNat : Int) = d.fdiv s := Int.toNat_of_nonneg (by omega)
          refine ⟨some (d.fdiv s).toNat, ⟨?_, fun t l h => ?_⟩, ?_⟩
          · show s * ((d.fdiv s).toNat : Int) = d
            rw [et]
            exact e'
          · have h' : s * (t : Int) = d := h
            have : (t : Int) = d.fdiv s := Int.eq_of_mul_eq_mul_left c2 (h'.trans e'.symm)
            omega
          · simp [F_meeting, m_meeting, optD, c, c2, c3, c4, d1]
            omega
      · refine ⟨none, fun t h => c3 ?_, ?_⟩
        · have h' : s * (t : Int) = d := h
          rw [← h']
          exact Int.mul_fmod_right _ _
        · simp [F_meeting, m_meeting, optD, c, c2, c3]
theorem q_meet (d s : Int) (b : Nat) (h1 : 1 ≤ b) (hb : b ≤ 64) : ∃ r, First (fun t => (s * (t : Int) - d) % 2 ^ b = 0) r ∧ F_meeting [.int d, .int s, .int b] = .ok (optD r) .non := by
  have ple : (2 : Int) ^ b ≤ 2 ^ 64 := pow_le hb
  have w1 := q_word d b (by omega)
  have w2 := q_word s b (by omega)
  have p0 := Int.emod_nonneg s (pw_ne b)
  have p1 := Int.emod_lt_of_pos s (pow_pos2 b)
  have f0 := Int.emod_nonneg d (pw_ne b)
  have f1 := Int.emod_lt_of_pos d (pow_pos2 b)
  obtain ⟨m, t1, t2⟩ := q_twos (s % 2 ^ b) b (by omega)
  obtain ⟨m2', t3, t4⟩ := q_twos (d % 2 ^ b) b (by omega)
  by_cases c : m2' < m
  · refine ⟨none, meet_none t1 t3 c, ?_⟩
    simp [F_meeting, m_meeting, optD, w1, w2, t2, t4, c]
  · by_cases c2 : m = b
    · subst c2
      have e2 : m2' = m := by
        have := t3.1
        omega
      subst e2
      refine ⟨some 0, meet_zero ((dvd_mod (d := 0) (Nat.le_refl _)).mp t3.2.1), ?_⟩
      simp [F_meeting, m_meeting, optD, w1, w2, t2, t4]
    · have hm : m < b := by
        have := t1.1
        omega
      have hP := pow_pos2 m
      have odd : (2 : Int) ∣ s % 2 ^ b / 2 ^ m - 1 := by
        obtain ⟨p, hp⟩ := t1.2.1
        rcases t1.2.2 with z | z
        · exact absurd z c2
        · rw [hp, Int.mul_ediv_cancel_left _ (by omega)]
          by_cases o : p % 2 = 0
          · exfalso
            obtain ⟨k, hk⟩ := Int.dvd_of_emod_eq_zero o
            refine z ⟨k, ?_⟩
            rw [hp, hk, Int.pow_succ, Int.mul_assoc]
          · omega
      have q0 : 0 ≤ s % 2 ^ b / 2 ^ m := Int.ediv_nonneg p0 (by omega)
      have q1 : s % 2 ^ b / 2 ^ m ≤ s % 2 ^ b := Int.ediv_le_self _ p0
      have r0 : 0 ≤ d % 2 ^ b / 2 ^ m := Int.ediv_nonneg f0 (by omega)
      have r1 : d % 2 ^ b / 2 ^ m ≤ d % 2 ^ b := Int.ediv_le_self _ f0
      obtain ⟨v, v1, v2, v3, v4⟩ := q_inv (s % 2 ^ b / 2 ^ m) b h1 hb (.of_lt q0 (by omega)) odd
      refine ⟨_, meet_some t1 t3 (by omega) hm v1, ?_⟩
      have b1 := bits_ok (n := 65) (m := 65) (i := d % 2 ^ b / 2 ^ m) (j := v) (.of_lt r0 (by omega)) (.of_lt v2 (by omega)) (by decide)
      have w3 := q_word (d % 2 ^ b / 2 ^ m * v) (b - m) (by omega)
      have e : ((b - m : Nat) : Int) = (b : Int) - m := by omega
      rw [e] at w3
      have c3 : ¬ (m : Int) = b := by omega
      have sh1 : iShr (.int (d % 2 ^ b)) (.int m) = some (.int (d % 2 ^ b / 2 ^ m)) := by
        rw [shr_ok (by omega)]
        simp
      have sh2 : iShr (.int (s % 2 ^ b)) (.int m) = some (.int (s % 2 ^ b / 2 ^ m)) := by
        rw [shr_ok (by omega)]
        simp
      have nn := Int.emod_nonneg (d % 2 ^ b / 2 ^ m * v) (pw_ne (b - m))
      simp [F_meeting, m_meeting, optD, w1, w2, t2, t4, c, c3, sh1, sh2, v4, b1, w3]
      omega
end DL
set_option Elab.async false
set_option linter.all false
set_option maxRecDepth 100000
namespace DL
open PySem PySem.Spec PyProof.Rows L2 PM
def rel : Nat → Str
  | 0 => "<"
  | 1 => "<="
  | 2 => ">"
  | 3 => ">="
  | 4 => "!="
  | _ => "=="
theorem shl_off {b : Nat} (h1 : 1 ≤ b) (hb : b ≤ 64) : iShl (.int 1) (.int ((b : Int) - 1)) = some (.int (2 ^ (b - 1))) := by
  have e : (b : Int) - 1 = ((b - 1 : Nat) : Int) := by omega
  rw [e]
  exact shl_one (by omega)
theorem q_made4 (x e s : Int) (both : Bool) (b : Nat) (h1 : 1 ≤ b) (hb : b ≤ 64) : ∃ r, First (Stop 4 (some b) both x e s) r ∧ F_made_passes [.int x, .int e, .int s, .str (rel 4), .int b, .bl both] = .ok (optD r) .non := by
  obtain ⟨r, f1, f2⟩ := q_meet (e - x) s b h1 hb
  refine ⟨r, f1.congr fun t => ?_, ?_⟩
  · simp only [Stop, goes, ne_eq, Decidable.not_not]
    rw [seen_eq h1]
    have e1 : x + s * t - e = s * t - (e - x) := by omega
    rw [e1]
  · have n1 : pEq (.str (rel 4)) (.str "!=") = some (.bl true) := rfl
    simp [F_made_passes, m_made_passes, -e_eqS, n1, f2]
theorem q_made5 (x e s : Int) (both : Bool) (b : Nat) (h1 : 1 ≤ b) (hb : b ≤ 64) : ∃ r, First (Stop 5 (some b) both x e s) r ∧ F_made_passes [.int x, .int e, .int s, .str (rel 5), .int b, .bl both] = .ok (optD r) .non := by
  obtain ⟨r, f1, f2⟩ := q_eqp x e s both b h1 hb
  refine ⟨r, f1, ?_⟩
  have n1 : pEq (.str (rel 5)) (.str "!=") = some (.bl false) := rfl
  have n2 : pEq (.str (rel 5)) (.str "==") = some (.bl true) := rfl
  simp [F_made_passes, m_made_passes, -e_eqS, n1, n2, f2]
theorem q_made0 (x e s : Int) (both : Bool) (b : Nat) (h1 : 1 ≤ b) (hb : b ≤ 64) : ∃ r, First (Stop 0 (some b) both x e s) r ∧ F_made_passes [.int x, .int e, .int s, .str (rel 0), .int b, .bl both] = .ok (optD r) .non := by
  have p := pow_pos2 b
  obtain ⟨r, f1, f2⟩ := q_ris ((x + off b both) % 2 ^ b) ((e + off b both) % 2 ^ b) s b hb (Int.emod_nonneg _ (pw_ne b)) (Int.emod_lt_of_pos _ p) (Int.emod_lt_of_pos _ p)
  refine ⟨r, f1.congr fun t => (stop_lt h1 t).symm, ?_⟩
  have n1 : pEq (.str (rel 0)) (.str "!=") = some (.bl false) := rfl
  have n2 : pEq (.str (rel 0)) (.str "==") = some (.bl false) := rfl
  have n3 : pIn (.str (rel 0)) (.tup [.str ">", .str ">="]) = some (.bl false) := rfl
  have n4 : pIn (.str (rel 0)) (.tup [.str "<=", .str ">="]) = some (.bl false) := rfl
  have w1 := q_word (x + off b both) b (by omega)
  have w2 := q_word (e + off b both) b (by omega)
  cases both <;> simp [off] at w1 w2 f2 <;> simp [F_made_passes, m_made_passes, -e_eqS, n1, n2, n3, n4, shl_off h1 hb, w1, w2, f2]
theorem q_made1 (x e s : Int) (both : Bool) (b : Nat) (h1 : 1 ≤ b) (hb : b ≤ 64) : ∃ r, First (Stop 1 (some b) both x e s) r ∧ F_made_passes [.int x, .int e, .int s, .str (rel 1), .int b, .bl both] = .ok (optD r) .non := by
  have p := pow_pos2 b
  have n1 : pEq (.str (rel 1)) (.str "!=") = some (.bl false) := rfl
  have n2 : pEq (.str (rel 1)) (.str "==") = some (.bl false) := rfl
  have n3 : pIn (.str (rel 1)) (.tup [.str ">", .str ">="]) = some (.bl false) := rfl
  have n4 : pIn (.str (rel 1)) (.tup [.str "<=", .str ">="]) = some (.bl true) := rfl
  have w1 := q_word (x + off b both) b (by omega)
  have w2 := q_word (e + off b both) b (by omega)
  have e1 := Int.emod_lt_of_pos (e + off b both) p
  by_cases c : (e + off b both) % 2 ^ b = 2 ^ b - 1
  · refine ⟨none, First.congr (fun t => (stop_le h1 t).symm) (rise_none p (by omega)), ?_⟩
    cases both <;> simp [off] at w1 w2 c <;> simp [F_made_passes, m_made_passes, -e_eqS, n1, n2, n3, n4, shl_off h1 hb, shl_one (show b ≤ 100000 by omega), w1, w2, c, optD]
  · obtain ⟨r, f1, f2⟩ := q_ris ((x + off b both) % 2 ^ b) ((e + off b both) % 2 ^ b + 1) s b hb (Int.emod_nonneg _ (pw_ne b)) (Int.emod_lt_of_pos _ p) (by omega)
    refine ⟨r, f1.congr fun t => (stop_le h1 t).symm, ?_⟩
    cases both <;> simp [off] at w1 w2 f2 c <;> simp [F_made_passes, m_made_passes, -e_eqS, n1, n2, n3, n4, shl_off h1 hb, shl_one (show b ≤ 100000 by omega), w1, w2, c, f2]
theorem q_made2 (x e s : Int) (both : Bool) (b : Nat) (h1 : 1 ≤ b) (hb : b ≤ 64) : ∃ r, First (Stop 2 (some b) both x e s) r ∧ F_made_passes [.int x, .int e, .int s, .str (rel 2), .int b, .bl both] = .ok (optD r) .non := by
  have p := pow_pos2 b
  have n1 : pEq (.str (rel 2)) (.str "!=") = some (.bl false) := rfl
  have n2 : pEq (.str (rel 2)) (.str "==") = some (.bl false) := rfl
  have n3 : pIn (.str (rel 2)) (.tup [.str ">", .str ">="]) = some (.bl true) := rfl
  have n4 : pIn (.str (rel 2)) (.tup [.str "<=", .str ">="]) = some (.bl false) := rfl
  have w1 := q_word (x + off b both) b (by omega)
  have w2 := q_word (e + off b both) b (by omega)
  have e1 := Int.emod_lt_of_pos (e + off b both) p
  have e2 := Int.emod_nonneg (e + off b both) (pw_ne b)
  have e3 := Int.emod_lt_of_pos (x + off b both) p
  have e4 := Int.emod_nonneg (x + off b both) (pw_ne b)
  have m1 := q_mir ((x + off b both) % 2 ^ b) b (by omega)
  have m2' := q_mir ((e + off b both) % 2 ^ b) b (by omega)
  obtain ⟨r, f1, f2⟩ := q_ris (2 ^ b - 1 - (x + off b both) % 2 ^ b) (2 ^ b - 1 - (e + off b both) % 2 ^ b) (-s) b hb (by omega) (by omega) (by omega)
  refine ⟨r, f1.congr fun t => (stop_gt h1 t).symm, ?_⟩
  cases both <;> simp [off] at w1 w2 f2 m1 m2' <;> simp [F_made_passes, m_made_passes, -e_eqS, n1, n2, n3, n4, shl_off h1 hb, w1, w2, m1, m2', f2]
theorem q_made3 (x e s : Int) (both : Bool) (b : Nat) (h1 : 1 ≤ b) (hb : b ≤ 64) : ∃ r, First (Stop 3 (some b) both x e s) r ∧ F_made_passes [.int x, .int e, .int s, .str (rel 3), .int b, .bl both] = .ok (optD r) .non := by
  have p := pow_pos2 b
  have n1 : pEq (.str (rel 3)) (.str "!=") = some (.bl false) := rfl
  have n2 : pEq (.str (rel 3)) (.str "==") = some (.bl false) := rfl
  have n3 : pIn (.str (rel 3)) (.tup [.str ">", .str ">="]) = some (.bl true) := rfl
  have n4 : pIn (.str (rel 3)) (.tup [.str "<=", .str ">="]) = some (.bl true) := rfl
  have w1 := q_word (x + off b both) b (by omega)
  have w2 := q_word (e + off b both) b (by omega)
  have e1 := Int.emod_lt_of_pos (e + off b both) p
  have e2 := Int.emod_nonneg (e + off b both) (pw_ne b)
  have e3 := Int.emod_lt_of_pos (x + off b both) p
  have e4 := Int.emod_nonneg (x + off b both) (pw_ne b)
  have m1 := q_mir ((x + off b both) % 2 ^ b) b (by omega)
  have m2' := q_mir ((e + off b both) % 2 ^ b) b (by omega)
  by_cases c : 2 ^ b - 1 - (e + off b both) % 2 ^ b = 2 ^ b - 1
  · refine ⟨none, First.congr (fun t => (stop_ge h1 t).symm) (rise_none p (by omega)), ?_⟩
    cases both <;> simp [off] at w1 w2 c m1 m2' <;> simp [F_made_passes, m_made_passes, -e_eqS, n1, n2, n3, n4, shl_off h1 hb, shl_one (show b ≤ 100000 by omega), w1, w2, m1, m2', c, optD]
  · obtain ⟨r, f1, f2⟩ := q_ris (2 ^ b - 1 - (x + off b both) % 2 ^ b) (2 ^ b - 1 - (e + off b both) % 2 ^ b + 1) (-s) b hb (by omega) (by omega) (by omega)
    refine ⟨r, f1.congr fun t => (stop_ge h1 t).symm, ?_⟩
    cases both <;> simp [off] at w1 w2 f2 c m1 m2' <;> simp [F_made_passes, m_made_passes, -e_eqS, n1, n2, n3, n4, shl_off h1 hb, shl_one (show b ≤ 100000 by omega), w1, w2, m1, m2', c, f2]
/-! integers -/
theorem stopN (way : Nat) (both : Bool) (x e s : Int) (t : Nat) : Stop way none both x e s t ↔ ¬ goes way (x + s * t) e := Iff.rfl
theorem q_madeN (way : Nat) (hw : way ≤ 5) (x e s : Int) (both : Bool) (hs : Sm 1000 s) : ∃ r, First (Stop way none both x e s) r ∧ F_made_passes [.int x, .int e, .int s, .str (rel way), .non, .bl both] = .ok (optD r) .non := by
  have hs' : Sm 1000 (-s) := hs.neg
  match way, hw with
  | 0, _ =>
    obtain ⟨r, f1, f2⟩ := q_risN x e s hs
    refine ⟨r, f1.congr fun t => ?_, ?_⟩
    · rw [stopN]
      simp only [goes]
      omega
    · have n1 : pEq (.str (rel 0)) (.str "!=") = some (.bl false) := rfl
      have n2 : pEq (.str (rel 0)) (.str "==") = some (.bl false) := rfl
      have n3 : pIn (.str (rel 0)) (.tup [.str ">", .str ">="]) = some (.bl false) := rfl
      have n4 : pIn (.str (rel 0)) (.tup [.str "<=", .str ">="]) = some (.bl false) := rfl
      simp [F_made_passes, m_made_passes, -e_eqS, n1, n2, n3, n4, q_wordN, f2]
  | 1, _ =>
    obtain ⟨r, f1, f2⟩ := q_risN x (e + 1) s hs
    refine ⟨r, f1.congr fun t => ?_, ?_⟩
    · rw [stopN]
      simp only [goes]
      omega
    · have n1 : pEq (.str (rel 1)) (.str "!=") = some (.bl false) := rfl
      have n2 : pEq (.str (rel 1)) (.str "==") = some (.bl false) := rfl
      have n3 : pIn (.str (rel 1)) (.tup [.str ">", .str ">="]) = some (.bl false) := rfl
      have n4 : pIn (.str (rel 1)) (.tup [.str "<=", .str ">="]) = some (.bl true) := rfl
      simp [F_made_passes, m_made_passes, -e_eqS, n1, n2, n3, n4, q_wordN, f2]
  | 2, _ =>
    obtain ⟨r, f1, f2⟩ := q_risN (-x) (-e) (-s) hs'
    refine ⟨r, f1.congr fun t => ?_, ?_⟩
    · rw [stopN]
      simp only [goes]
      rw [Int.neg_mul]
      omega
    · have n1 : pEq (.str (rel 2)) (.str "!=") = some (.bl false) := rfl
      have n2 : pEq (.str (rel 2)) (.str "==") = some (.bl false) := rfl
      have n3 : pIn (.str (rel 2)) (.tup [.str ">", .str ">="]) = some (.bl true) := rfl
      have n4 : pIn (.str (rel 2)) (.tup [.str "<=", .str ">="]) = some (.bl false) := rfl
      simp [F_made_passes, m_made_passes, -e_eqS, n1, n2, n3, n4, q_wordN, q_mirN, f2]
  | 3, _ =>
    obtain ⟨r, f1, f2⟩ := q_risN (-x) (-e + 1) (-s) hs'
    refine ⟨r, f1.congr fun t => ?_, ?_⟩
    · rw [stopN]
      simp only [goes]
      rw [Int.neg_mul]
      omega
    · have n1 : pEq (.str (rel 3)) (.str "!=") = some (.bl false) := rfl
      have n2 : pEq (.str (rel 3)) (.str "==") = some (.bl false) := rfl
      have n3 : pIn (.str (rel 3)) (.tup [.str ">", .str ">="]) = some (.bl true) := rfl
      have n4 : pIn (.str (rel 3)) (.tup [.str "<=", .str ">="]) = some (.bl true) := rfl
      simp [F_made_passes, m_made_passes, -e_eqS, n1, n2, n3, n4, q_wordN, q_mirN, f2]
  | 4, _ =>
    obtain ⟨r, f1, f2⟩ := q_meetN (e - x) s hs
    refine ⟨r, f1.congr fun t => ?_, ?_⟩
    · rw [stopN]
      simp only [goes]
      omega
    · have n1 : pEq (.str (rel 4)) (.str "!=") = some (.bl true) := rfl
      simp [F_made_passes, m_made_passes, -e_eqS, n1, f2]
  | 5, _ =>
    obtain ⟨r, f1, f2⟩ := q_eqpN x e s
    refine ⟨r, f1, ?_⟩
    have n1 : pEq (.str (rel 5)) (.str "!=") = some (.bl false) := rfl
    have n2 : pEq (.str (rel 5)) (.str "==") = some (.bl true) := rfl
    simp [F_made_passes, m_made_passes, -e_eqS, n1, n2, f2]
/-- what is handed in for bits -/
def wD : Option Nat → D
  | none => .non
  | some b => .int b
theorem q_made (way : Nat) (hw : way ≤ 5) (w : Option Nat) (h : ∀ b, w = some b → 1 ≤ b ∧ b ≤ 64) (x e s : Int) (both : Bool) (hs : Sm 1000 s) : ∃ r, First (Stop way w both x e s) r ∧ F_made_passes [.int x, .int e, .int s, .str (rel way), wD w, .bl both] = .ok (optD r) .non := by
  cases w with
  | none => exact q_madeN way hw x e s both hs
  | some b =>
    obtain ⟨h1, hb⟩ := h b rfl
    match way, hw with
    | 0, _ => exact q_made0 x e s both b h1 hb
    | 1, _ => exact q_made1 x e s both b h1 hb
    | 2, _ => exact q_made2 x e s both b h1 hb
    | 3, _ => exact q_made3 x e s both b h1 hb
    | 4, _ => exact q_made4 x e s both b h1 hb
    | 5, _ => exact q_made5 x e s both b h1 hb
end DL
set_option Elab.async false
set_option linter.all false
set_option maxRecDepth 100000
namespace DL
open PySem PySem.Spec PyProof.Rows L2 PM
def isI : D → Bool
  | .int _ => true
  | _ => false
theorem q_isint (d : D) : F_is_integer [d] = .ok (.bl (isI d)) .non := by
  have h : ∀ (t : D), isiD "int" t = some (.bl (isI t || match t with | .bl _ => true | _ => false)) := by
    intro t
    cases t <;> rfl
  have g : ∀ (t : D), isiD "bool" t = some (.bl (match t with | .bl _ => true | _ => false)) := by
    intro t
    cases t <;> rfl
  cases d <;> simp [F_is_integer, m_is_integer, h, g, isI]
theorem q_reqN : F_require_bits [.non] = .ok .non .non := by
  simp [F_require_bits, m_require_bits]
theorem q_req {b : Nat} (h1 : 1 ≤ b) (h2 : b ≤ 64) : F_require_bits [.int b] = .ok .non .non := by
  have e1 : (1 : Int) ≤ b := by omega
  have e2 : (b : Int) ≤ 64 := by omega
  simp [F_require_bits, m_require_bits, q_isint, isI, e1, e2]
theorem q_reqW {w : Option Nat} (h : ∀ b, w = some b → 1 ≤ b ∧ b ≤ 64) : F_require_bits [wD w] = .ok .non .non := by
  cases w with
  | none => exact q_reqN
  | some b => exact q_req (h b rfl).1 (h b rfl).2
/-- bits that are none -/
def noBits : D → Bool
  | .non => false
  | .int i => !(decide (1 ≤ i) && decide (i ≤ 64))
  | _ => true
theorem pNotN_of {d : D} (h : d ≠ .non) : pNotN d .non = some (.bl true) := by
  cases d <;> first | rfl | exact absurd rfl h
theorem q_reqX {d : D} (h : noBits d = true) : F_require_bits [d] = .ex ⟨"InvalidBits", [("value", d)]⟩ := by
  have nn : d ≠ .non := by
    intro e
    subst e
    cases h
  cases d with
  | int i =>
    have h' : (!(decide (1 ≤ i) && decide (i ≤ 64))) = true := h
    by_cases c : 1 ≤ i
    · have c2 : ¬ i ≤ 64 := by
        intro c2
        simp [c, c2] at h'
      simp [F_require_bits, m_require_bits, q_isint, isI, c, c2]
    · simp [F_require_bits, m_require_bits, q_isint, isI, c]
  | non => exact absurd rfl nn
  | _ => simp [F_require_bits, m_require_bits, q_isint, isI, pNotN_of nn]
theorem it_l (xs : List D) : items (.lst xs) = some xs := rfl
theorem q_look3 {a b c : D} (h1 : isI a = true) (h2 : isI b = true) (h3 : isI c = true) : F_look_integers [.lst [a, b, c]] = .ok .non .non := by
  simp [F_look_integers, m_look_integers, it_l, forM, q_isint, h1, h2, h3]
theorem q_lookX1 {a b c : D} (h1 : isI a = false) : F_look_integers [.lst [a, b, c]] = .ex ⟨"InvalidNumber", [("value", a)]⟩ := by
  simp [F_look_integers, m_look_integers, it_l, forM, q_isint, h1]
theorem q_lookX2 {a b c : D} (h1 : isI a = true) (h2 : isI b = false) : F_look_integers [.lst [a, b, c]] = .ex ⟨"InvalidNumber", [("value", b)]⟩ := by
  simp [F_look_integers, m_look_integers, it_l, forM, q_isint, h1, h2]
theorem q_lookX3 {a b c : D} (h1 : isI a = true) (h2 : isI b = true) (h3 : isI c = false) : F_look_integers [.lst [a, b, c]] = .ex ⟨"InvalidNumber", [("value", c)]⟩ := by
  simp [F_look_integers, m_look_integers, it_l, forM, q_isint, h1, h2, h3]
theorem q_rel {way : Nat} (hw : way ≤ 5) : F_look_relation [.str (rel way)] = .ok .non .non := by
  have h : isiD "str" (.str (rel way)) = some (.bl true) := rfl
  have g : pNotIn (.str (rel way)) T_RELATIONS = some (.bl false) := by
    match way, hw with
    | 0, _ => rfl
    | 1, _ => rfl
    | 2, _ => rfl
    | 3, _ => rfl
    | 4, _ => rfl
    | 5, _ => rfl
  simp [F_look_relation, m_look_relation, h, g]
/-- a thing that is no relation -/
def noRel (d : D) : Prop := isiD "str" d = some (.bl false) ∨ (isiD "str" d = some (.bl true) ∧ pNotIn d T_RELATIONS = some (.bl true))
theorem q_relX {d : D} (h : noRel d) : F_look_relation [d] = .ex ⟨"InvalidRelation", [("relation", d)]⟩ := by
  rcases h with h | ⟨h, g⟩
  · simp [F_look_relation, m_look_relation, h]
  · simp [F_look_relation, m_look_relation, h, g]
theorem q_passes (way : Nat) (hw : way ≤ 5) (w : Option Nat) (h : ∀ b, w = some b → 1 ≤ b ∧ b ≤ 64) (x e s : Int) (both : Bool) (hs : Sm 1000 s) : ∃ r, First (Stop way w both x e s) r ∧ F_passes [.int x, .int e, .int s, .str (rel way), wD w, .bl both] = .ok (optD r) .non := by
  obtain ⟨r, f1, f2⟩ := q_made way hw w h x e s both hs
  refine ⟨r, f1, ?_⟩
  have l := q_look3 (a := .int x) (b := .int e) (c := .int s) rfl rfl rfl
  simp [F_passes, m_passes, q_reqW h, l, q_rel hw, f2]
theorem q_passX1 {x e s r w b : D} (h : noBits w = true) : F_passes [x, e, s, r, w, b] = .ex ⟨"InvalidBits", [("value", w)]⟩ := by
  simp [F_passes, m_passes, q_reqX h]
theorem q_passX2 {x e s r w b v : D} (h : F_require_bits [w] = .ok .non .non) (g : F_look_integers [.lst [x, e, s]] = .ex ⟨"InvalidNumber", [("value", v)]⟩) : F_passes [x, e, s, r, w, b] = .ex ⟨"InvalidNumber", [("value", v)]⟩ := by
  simp [F_passes, m_passes, h, g]
theorem q_passX3 {x e s r w b : D} (h : F_require_bits [w] = .ok .non .non) (g : F_look_integers [.lst [x, e, s]] = .ok .non .non) (k : noRel r) : F_passes [x, e, s, r, w, b] = .ex ⟨"InvalidRelation", [("relation", r)]⟩ := by
  simp [F_passes, m_passes, h, g, q_relX k]
end DL
set_option Elab.async false
set_option linter.all false
set_option maxRecDepth 100000
namespace DL
open PySem PySem.Spec PyProof.Rows L2 PM
/-! ### the purse -/
def Pur (N : Nat) (d : D) : Prop := ∃ a c k : Int, d = .lst [.int a, .int c, .int k] ∧ 0 ≤ c ∧ c < 2147483647 ∧ 0 ≤ k ∧ k ≤ N
theorem Pur.mono {N M : Nat} {d : D} (h : Pur N d) (l : N ≤ M) : Pur M d := by
  obtain ⟨a, c, k, h1, h2, h3, h4, h5⟩ := h
  exact ⟨a, c, k, h1, h2, h3, h4, by omega⟩
theorem q_mixed {c k : Int} (h1 : Sm 40 c) (h2 : Sm 40 k) : ∃ m : Int, F__law_mixed [.int c, .int k] = .ok (.int m) .non := by
  have b1 : bitsOk c 2654435761 = true := bits_ok (m := 40) h1 (.lit (by decide)) (by decide)
  have b2 : bitsOk 40503 k = true := bits_ok (n := 40) (.lit (by decide)) h2 (by decide)
  have b3 : bitsOk (40503 * k) k = true := bits_ok (n := 80) (Sm.mul (.lit (by decide)) h2) h2 (by decide)
  have b4 : bitsOk 97 k = true := bits_ok (n := 40) (.lit (by decide)) h2 (by decide)
  generalize hx : (c * 2654435761 + 40503 * k * k + 97 * k + 13) % 2147483647 = x
  have x0 : 0 ≤ x := by omega
  have x1 : x < 2147483647 := by omega
  have sx : Sm 40 x := .of_lt x0 (by omega)
  have b5 : bitsOk x x = true := bits_ok sx sx (by decide)
  have b6 : bitsOk 7 x = true := bits_ok (n := 40) (.lit (by decide)) sx (by decide)
  have d1 : divOk 3 = true := by decide
  have f1 : ∀ y : Int, y.fmod 2147483647 = y % 2147483647 := fun y => fmod_pos (by decide)
  have f2 : ∀ y : Int, y.fmod 2147483629 = y % 2147483629 := fun y => fmod_pos (by decide)
  refine ⟨((x * x + 7 * x + 11) % 2147483629).fdiv 3, ?_⟩
  simp [F__law_mixed, m__law_mixed, b1, b2, b3, b4, f1, hx, b5, b6, d1, f2]
theorem pix0 (a b c : D) : pIx (.lst [a, b, c]) (.int 0) = some a := rfl
theorem pix1 (a b c : D) : pIx (.lst [a, b, c]) (.int 1) = some b := rfl
theorem pix2 (a b c : D) : pIx (.lst [a, b, c]) (.int 2) = some c := rfl
theorem put0 (a b c v : D) : putAt (.int 0) v [a, b, c] = some [v, b, c] := rfl
theorem put2 (a b c v : D) : putAt (.int 2) v [a, b, c] = some [a, b, v] := rfl
theorem q_draw {p : D} {N : Nat} {n : Int} (hp : Pur N p) (hN : N ≤ 1000000) (hn : 1 ≤ n) (hs : Sm 8000 n) : ∃ r p', 0 ≤ r ∧ r < n ∧ Pur (N + 1) p' ∧ F__law_draw [p, .int n] = .ok (.int r) p' := by
  obtain ⟨a, c, k, rfl, h1, h2, h3, h4⟩ := hp
  have d1 := div_ok hs (by omega) (by decide)
  have n0 : ¬ n = 0 := by omega
  have f1 : ∀ y : Int, y.fmod n = y % n := fun y => fmod_pos (by omega)
  by_cases c1 : 0 < a
  · refine ⟨a % n, .lst [.int (a.fdiv n), .int c, .int k], Int.emod_nonneg _ n0, Int.emod_lt_of_pos _ (by omega), ⟨_, c, k, rfl, h1, h2, h3, by omega⟩, ?_⟩
    simp [F__law_draw, m__law_draw, pix0, put0, c1, d1, n0, f1]
  · obtain ⟨m, hm⟩ := q_mixed (c := c) (k := k + 1) (.of_lt h1 (by omega)) (.of_lt (by omega) (by omega))
    refine ⟨m % n, .lst [.int a, .int c, .int (k + 1)], Int.emod_nonneg _ n0, Int.emod_lt_of_pos _ (by omega), ⟨a, c, k + 1, rfl, h1, h2, by omega, by omega⟩, ?_⟩
    simp [F__law_draw, m__law_draw, pix0, pix1, pix2, put2, c1, hm, n0, f1]
theorem pow_lit {a b c : Int} (h : iPow (.int a) (.int b) = some (.int c)) : iPow (.int a) (.int b) = some (.int c) := h
theorem e_10_18 : iPow (.int 10) (.int 18) = some (.int (10 ^ 18)) := rfl
theorem e_10_60 : iPow (.int 10) (.int 60) = some (.int (10 ^ 60)) := rfl
theorem e_60_8 : iPow (.int (10 ^ 60)) (.int 8) = some (.int ((10 ^ 60) ^ 8)) := rfl
theorem e_10_8 : iPow (.int 10) (.int 8) = some (.int (10 ^ 8)) := rfl
theorem e_10_30 : iPow (.int 10) (.int 30) = some (.int (10 ^ 30)) := rfl
theorem e_10_39 : iPow (.int 10) (.int 39) = some (.int (10 ^ 39)) := rfl
theorem e_10_9 : iPow (.int 10) (.int 9) = some (.int (10 ^ 9)) := rfl
theorem scr_get {ns : List Int} {i : Nat} (h : i < ns.length) : ∃ n : Int, pIx (.scr ns) (.int i) = some (.int n) := by
  refine ⟨ns[i], ?_⟩
  show ((seqOf (.scr ns)).bind fun xs => atI xs (i : Int)) = _
  show atI (ns.map D.int) (i : Int) = _
  unfold atI
  have e : ixN (ns.map D.int).length (i : Int) = some i := by
    unfold ixN
    simp
    omega
  rw [e]
  simp [h]
theorem e_pows : ∃ A B C : Int, B ≠ 0 ∧ iPow (.int 10) (.int 60) = some (.int A) ∧ iPow (.int A) (.int 8) = some (.int B) ∧ iPow (.int 10) (.int 18) = some (.int C) := ⟨10 ^ 60, (10 ^ 60) ^ 8, 10 ^ 18, by decide, rfl, rfl, rfl⟩
theorem q_purse (ns : List Int) (i : Nat) (hi : i ≤ 100) : ∃ xs, Pur (1000 * i) (.lst xs) ∧ F__law_purse [.scr ns, .int i] = .ok (.lst xs) .non := by
  have fl : fLen [.scr ns] = some (.int ns.length) := rfl
  have fm : ∀ x y : Int, fMax [.int x, .int y] = some (.int (if y > x then y else x)) := fun _ _ => rfl
  have b1 : bitsOk 1000 i = true := bits_ok (n := 40) (m := 40) (.lit (by decide)) (.of_lt (by omega) (by omega)) (by decide)
  obtain ⟨A, B, C, z, eA, eB, eC⟩ := e_pows
  have f1 : ∀ y : Int, y.fmod 2147483647 = y % 2147483647 := fun y => fmod_pos (by decide)
  by_cases c : i < ns.length
  · obtain ⟨n, hn⟩ := scr_get c
    have c' : (i : Int) < ns.length := by omega
    refine ⟨[.int (((if 0 > n - C then 0 else n - C) : Int).fmod B), .int (n % 2147483647), .int (1000 * i)], ⟨_, n % 2147483647, 1000 * i, rfl, by omega, by omega, by omega, by omega⟩, ?_⟩
    simp [F__law_purse, m__law_purse, fl, c, hn, fm, eA, eB, eC, b1, z, f1]
  · have c' : ¬ (i : Int) < ns.length := by omega
    refine ⟨[.int (((if (0 : Int) > 0 - C then 0 else 0 - C) : Int).fmod B), .int (0 % 2147483647), .int (1000 * i)], ⟨_, 0 % 2147483647, 1000 * i, rfl, by omega, by omega, by omega, by omega⟩, ?_⟩
    simp [F__law_purse, m__law_purse, fl, c, fm, eA, eB, eC, b1, z]
end DL
set_option Elab.async false
set_option linter.all false
set_option maxRecDepth 100000
namespace DL
open PySem PySem.Spec PyProof.Rows L2 PM
/-- the loop whose bound is n steps away -/
def St (way : Nat) (w : Option Nat) (both : Bool) (x s : Int) (n t : Nat) : Prop := Stop way w both x (x + s * (n : Int)) s t
def fallQ (X0 p M : Int) : Nat := if p = 0 then 1 else (cdv (M - X0) p).toNat
theorem fall_first {X0 s M : Int} (h0 : 0 ≤ X0) (h1 : X0 < M) : First (Wr fun n t => (X0 + s * (n : Int)) % M ≤ (X0 + s * (t : Int)) % M) (some (fallQ X0 (s % M) M)) := by
  unfold fallQ
  by_cases c : s % M = 0
  · rw [if_pos c]
    exact fall_zero c
  · rw [if_neg c]
    have := Int.emod_nonneg s (show M ≠ 0 by omega)
    exact fall_some h0 h1 (by omega)
theorem fall_facts {X0 p M : Int} (h1 : X0 < M) (hp : 0 ≤ p) : (p = 0 → fallQ X0 p M = 1) ∧ (p ≠ 0 → X0 + p * ((fallQ X0 p M : Int) - 1) < M ∧ M ≤ X0 + p * (fallQ X0 p M : Int) ∧ (fallQ X0 p M : Int) ≤ M - X0 ∧ 1 ≤ fallQ X0 p M) := by
  unfold fallQ
  refine ⟨fun h => if_pos h, fun h => ?_⟩
  rw [if_neg h]
  have pp : 0 < p := by omega
  obtain ⟨c1, c2⟩ := cdv_spec (a := M - X0) pp
  have cpos : 0 < cdv (M - X0) p := by
    by_cases c : 0 < cdv (M - X0) p
    · exact c
    · have := mul_le (Int.le_of_lt pp) (show cdv (M - X0) p ≤ 0 by omega)
      omega
  have ec : ((cdv (M - X0) p).toNat : Int) = cdv (M - X0) p := Int.toNat_of_nonneg (by omega)
  rw [ec]
  refine ⟨?_, by omega, c2 _ ?_, by omega⟩
  · by_cases c : X0 + p * (cdv (M - X0) p - 1) < M
    · exact c
    · have := c2 (cdv (M - X0) p - 1) (by omega)
      omega
  · have := Int.mul_le_mul_of_nonneg_right (show 1 ≤ p by omega) (show 0 ≤ M - X0 by omega)
    omega
theorem q_fall (x s : Int) (both : Bool) (b : Nat) (h1 : 1 ≤ b) (hb : b ≤ 64) : F_first_fall [.int x, .int s, .int b, .bl both] = .ok (.int (fallQ ((x + off b both) % 2 ^ b) (s % 2 ^ b) (2 ^ b))) .non := by
  have w1 := q_word s b (by omega)
  have w2 := q_word (x + off b both) b (by omega)
  have sh := shl_one (b := b) (by omega)
  have so := shl_off h1 hb
  have p := pow_pos2 b
  have s0 := Int.emod_nonneg s (pw_ne b)
  have s1 := Int.emod_lt_of_pos s p
  have x1 := Int.emod_lt_of_pos (x + off b both) p
  have ple := pow_le hb
  by_cases c : s % 2 ^ b = 0
  · have hq : fallQ ((x + off b both) % 2 ^ b) (s % 2 ^ b) (2 ^ b) = 1 := (fall_facts x1 s0).1 c
    rw [hq]
    simp [F_first_fall, m_first_fall, w1, c]
  · have dv := div_ok (n := 65) (j := s % 2 ^ b) (.of_lt s0 (by omega)) c (by decide)
    have nf := neg_fdiv (a := 2 ^ b - (x + off b both) % 2 ^ b) (m := s % 2 ^ b) (by omega)
    have e1 : (x + off b both) % 2 ^ b - 2 ^ b = -(2 ^ b - (x + off b both) % 2 ^ b) := by omega
    have hq : ((fallQ ((x + off b both) % 2 ^ b) (s % 2 ^ b) (2 ^ b) : Nat) : Int) = cdv (2 ^ b - (x + off b both) % 2 ^ b) (s % 2 ^ b) := by
      have h3 := ((fall_facts x1 s0).2 c).2.2.2
      unfold fallQ at h3 ⊢
      rw [if_neg c] at h3 ⊢
      omega
    rw [hq, ← nf, ← e1]
    cases both <;> simp [off] at w2 ⊢ <;> simp [F_first_fall, m_first_fall, w1, c, so, w2, sh, dv]
theorem mirror_off {x : Int} {b : Nat} {both : Bool} (h1 : 1 ≤ b) : (-1 - x + off b both) % 2 ^ b = 2 ^ b - 1 - (x + off b both) % 2 ^ b := by
  obtain ⟨q, q1, q2, q3⟩ := mod_ex (x + off b both) (pow_pos2 b)
  have ph := pow_half h1
  have ho : off b both = 0 ∨ off b both = 2 ^ (b - 1) := by
    cases both
    · exact .inl rfl
    · exact .inr rfl
  generalize off b both = o at *
  rcases ho with ho | ho
  · exact mod_is (q := -q - 1) (by omega) (by omega) (by rw [Int.mul_sub, Int.mul_neg, Int.mul_one]; omega)
  · exact mod_is (q := -q) (by omega) (by omega) (by rw [Int.mul_neg]; omega)
theorem st_lt {x s : Int} {both : Bool} {b : Nat} (h1 : 1 ≤ b) (n t : Nat) : ((x + off b both) % 2 ^ b + s * (n : Int)) % 2 ^ b ≤ ((x + off b both) % 2 ^ b + s * (t : Int)) % 2 ^ b ↔ St 0 (some b) both x s n t := by
  unfold St
  rw [stop_lt h1]
  have e : (x + s * (n : Int) + off b both) % 2 ^ b = ((x + off b both) % 2 ^ b + s * (n : Int)) % 2 ^ b := by
    rw [add_mod]
    congr 1
    omega
  rw [e]
theorem st_gt {x s : Int} {both : Bool} {b : Nat} (h1 : 1 ≤ b) (n t : Nat) : ((2 ^ b - 1 - (x + off b both) % 2 ^ b) + -s * (n : Int)) % 2 ^ b ≤ ((2 ^ b - 1 - (x + off b both) % 2 ^ b) + -s * (t : Int)) % 2 ^ b ↔ St 2 (some b) both x s n t := by
  unfold St
  rw [stop_gt h1]
  have e : 2 ^ b - 1 - (x + s * (n : Int) + off b both) % 2 ^ b = ((2 ^ b - 1 - (x + off b both) % 2 ^ b) + -s * (n : Int)) % 2 ^ b := by
    rw [mirror_mod (pow_pos2 b)]
    have e1 : x + s * (n : Int) + off b both = x + off b both + s * (n : Int) := by omega
    rw [e1]
  rw [e]
theorem st_ne {x s : Int} {both : Bool} {b : Nat} (h1 : 1 ≤ b) (n t : Nat) : (x + s * (t : Int) - (x + s * (n : Int))) % 2 ^ b = 0 ↔ St 4 (some b) both x s n t := by
  unfold St
  simp only [Stop, goes, ne_eq, Decidable.not_not]
  exact (seen_eq h1).symm
theorem st_odd {way : Nat} (hw : way = 1 ∨ way = 3 ∨ way = 5) {w : Option Nat} {x s : Int} {both : Bool} : ¬ St way w both x s 0 0 := by
  unfold St
  simp
  rcases hw with rfl | rfl | rfl <;> simp [Stop, goes]
/-! ### first_wrong -/
theorem q_w0 {x s : Int} {both : Bool} {b : Nat} (h1 : 1 ≤ b) (hb : b ≤ 64) : F_first_wrong [.int x, .int s, .str (rel 0), .int b, .bl both] = .ok (.int (fallQ ((x + off b both) % 2 ^ b) (s % 2 ^ b) (2 ^ b))) .non := by
  have n1 : pEq (.str (rel 0)) (.str "<") = some (.bl true) := rfl
  simp [F_first_wrong, m_first_wrong, -e_eqS, n1, q_fall x s both b h1 hb]
theorem q_w2 {x s : Int} {both : Bool} {b : Nat} (h1 : 1 ≤ b) (hb : b ≤ 64) : F_first_wrong [.int x, .int s, .str (rel 2), .int b, .bl both] = .ok (.int (fallQ (2 ^ b - 1 - (x + off b both) % 2 ^ b) (-s % 2 ^ b) (2 ^ b))) .non := by
  have n1 : pEq (.str (rel 2)) (.str "<") = some (.bl false) := rfl
  have n2 : pEq (.str (rel 2)) (.str ">") = some (.bl true) := rfl
  have f := q_fall (-1 - x) (-s) both b h1 hb
  rw [mirror_off h1] at f
  simp [F_first_wrong, m_first_wrong, -e_eqS, n1, n2, f]
theorem q_w4 {x s : Int} {both : Bool} {b : Nat} (h1 : 1 ≤ b) (hb : b ≤ 64) : ∃ m, Twos (s % 2 ^ b) b m ∧ F_first_wrong [.int x, .int s, .str (rel 4), .int b, .bl both] = .ok (.int ((2 ^ (b - m) : Nat) : Int)) .non := by
  have n1 : pEq (.str (rel 4)) (.str "<") = some (.bl false) := rfl
  have n2 : pEq (.str (rel 4)) (.str ">") = some (.bl false) := rfl
  have n3 : pEq (.str (rel 4)) (.str "!=") = some (.bl true) := rfl
  obtain ⟨m, t1, t2⟩ := q_twos (s % 2 ^ b) b (by omega)
  have w1 := q_word s b (by omega)
  have e : (b : Int) - m = ((b - m : Nat) : Int) := by
    have := t1.1
    omega
  have sh := shl_one (b := b - m) (by omega)
  refine ⟨m, t1, ?_⟩
  simp [F_first_wrong, m_first_wrong, -e_eqS, n1, n2, n3, w1, t2, e, sh]
theorem q_wodd {way : Nat} (hw : way = 1 ∨ way = 3 ∨ way = 5) {x s : Int} {w b : D} : F_first_wrong [.int x, .int s, .str (rel way), w, b] = .ok (.int 0) .non := by
  have n1 : pEq (.str (rel way)) (.str "<") = some (.bl false) := by rcases hw with rfl | rfl | rfl <;> rfl
  have n2 : pEq (.str (rel way)) (.str ">") = some (.bl false) := by rcases hw with rfl | rfl | rfl <;> rfl
  have n3 : pEq (.str (rel way)) (.str "!=") = some (.bl false) := by rcases hw with rfl | rfl | rfl <;> rfl
  simp [F_first_wrong, m_first_wrong, -e_eqS, n1, n2, n3]
theorem q_wN {way : Nat} (hw : way ≤ 5) (x s : Int) (both : Bool) : ∃ q : Option Nat, First (Wr (St way none both x s)) q ∧ (∀ n, q = some n → n ≤ 1) ∧ F_first_wrong [.int x, .int s, .str (rel way), .non, .bl both] = .ok (optD q) .non := by
  have up : ∀ n t : Nat, t < n → 0 < s → s * (t : Int) < s * (n : Int) := fun n t l h => by
    have := mul_succ_le (Int.le_of_lt h) (show (t : Int) < n by omega)
    omega
  have dn : ∀ n t : Nat, t < n → s < 0 → s * (n : Int) < s * (t : Int) := fun n t l h => by
    have := mul_succ_le (a := (t : Int)) (b := (n : Int)) (c := -s) (by omega) (by omega)
    rw [Int.neg_mul, Int.neg_mul] at this
    omega
  have hh : way = 0 ∨ way = 2 ∨ way = 4 ∨ (way = 1 ∨ way = 3 ∨ way = 5) := by omega
  rcases hh with rfl | rfl | rfl | hh
  · have n1 : pEq (.str (rel 0)) (.str "<") = some (.bl true) := rfl
    by_cases c : 0 < s
    · refine ⟨none, wrong_none (fun n => ?_) (fun n t l => ?_), fun n h => (by cases h), ?_⟩
      · simp [St, Stop, goes]
      · have := up n t l c
        simp [St, Stop, goes, sees] <;> omega
      · simp [F_first_wrong, m_first_wrong, F_first_fall, m_first_fall, -e_eqS, n1, c, optD]
    · refine ⟨some 1, wrong_one ?_ ?_, fun n h => (by cases h; omega), ?_⟩
      · simp [St, Stop, goes]
      · simp [St, Stop, goes, sees] <;> omega
      · simp [F_first_wrong, m_first_wrong, F_first_fall, m_first_fall, -e_eqS, n1, c, optD]
  · have n1 : pEq (.str (rel 2)) (.str "<") = some (.bl false) := rfl
    have n2 : pEq (.str (rel 2)) (.str ">") = some (.bl true) := rfl
    by_cases c : s < 0
    · refine ⟨none, wrong_none (fun n => ?_) (fun n t l => ?_), fun n h => (by cases h), ?_⟩
      · simp [St, Stop, goes]
      · have := dn n t l c
        simp [St, Stop, goes, sees] <;> omega
      · simp [F_first_wrong, m_first_wrong, F_first_fall, m_first_fall, -e_eqS, n1, n2, c, optD]
    · refine ⟨some 1, wrong_one ?_ ?_, fun n h => (by cases h; omega), ?_⟩
      · simp [St, Stop, goes]
      · simp [St, Stop, goes, sees] <;> omega
      · simp [F_first_wrong, m_first_wrong, F_first_fall, m_first_fall, -e_eqS, n1, n2, c, optD]
  · have n1 : pEq (.str (rel 4)) (.str "<") = some (.bl false) := rfl
    have n2 : pEq (.str (rel 4)) (.str ">") = some (.bl false) := rfl
    have n3 : pEq (.str (rel 4)) (.str "!=") = some (.bl true) := rfl
    by_cases c : s = 0
    · refine ⟨some 1, wrong_one ?_ ?_, fun n h => (by cases h; omega), ?_⟩
      · simp [St, Stop, goes]
      · simp [St, Stop, goes, sees, c]
      · simp [F_first_wrong, m_first_wrong, -e_eqS, n1, n2, n3, c, optD]
    · refine ⟨none, wrong_none (fun n => ?_) (fun n t l => ?_), fun n h => (by cases h), ?_⟩
      · simp [St, Stop, goes]
      · simp [St, Stop, goes, sees]
        by_cases c2 : 0 < s
        · have := up n t l c2
          omega
        · have := dn n t l (by omega)
          omega
      · simp [F_first_wrong, m_first_wrong, -e_eqS, n1, n2, n3, c, optD]
  · exact ⟨some 0, wrong_zero (st_odd hh), fun n h => by cases h; omega, q_wodd hh⟩
end DL
set_option Elab.async false
set_option linter.all false
set_option maxRecDepth 100000
namespace DL
open PySem PySem.Spec PyProof.Rows L2 PM
def okW (n : Nat) (w : Option Nat) : Prop := ∀ b, w = some b → 1 ≤ b ∧ b ≤ n
def mostN : Option Nat → Nat
  | none => 1
  | some b => 2 ^ b
theorem q_wrong {way : Nat} (hw : way ≤ 5) {w : Option Nat} (h : okW 64 w) (x s : Int) (both : Bool) : ∃ q : Option Nat, First (Wr (St way w both x s)) q ∧ (∀ n, q = some n → n ≤ mostN w) ∧ ((way = 1 ∨ way = 3 ∨ way = 5) → q = some 0) ∧ F_first_wrong [.int x, .int s, .str (rel way), wD w, .bl both] = .ok (optD q) .non := by
  cases w with
  | none =>
    obtain ⟨q, q1, q2, q3⟩ := q_wN hw x s both
    exact ⟨q, q1, q2, fun ho => q1.uniq (wrong_zero (st_odd ho)), q3⟩
  | some b =>
    obtain ⟨h1, hb⟩ := h b rfl
    have p := pow_pos2 b
    have pc : ((2 ^ b : Nat) : Int) = 2 ^ b := by simp
    have np := Nat.two_pow_pos b
    have x0 := Int.emod_nonneg (x + off b both) (pw_ne b)
    have x1 := Int.emod_lt_of_pos (x + off b both) p
    have hh : way = 0 ∨ way = 2 ∨ way = 4 ∨ (way = 1 ∨ way = 3 ∨ way = 5) := by omega
    rcases hh with rfl | rfl | rfl | hh
    · have f := fall_first (s := s) x0 x1
      have k := fall_facts (X0 := (x + off b both) % 2 ^ b) (p := s % 2 ^ b) x1 (Int.emod_nonneg _ (pw_ne b))
      refine ⟨_, Wr.congr (fun n t => st_lt h1 n t) f, fun n hn => ?_, fun ho => by omega, q_w0 h1 hb⟩
      cases hn
      show _ ≤ 2 ^ b
      by_cases c : s % 2 ^ b = 0
      · rw [k.1 c]
        omega
      · have := (k.2 c).2.2.1
        omega
    · have f := fall_first (X0 := 2 ^ b - 1 - (x + off b both) % 2 ^ b) (s := -s) (M := 2 ^ b) (by omega) (by omega)
      have k := fall_facts (X0 := 2 ^ b - 1 - (x + off b both) % 2 ^ b) (p := -s % 2 ^ b) (M := 2 ^ b) (by omega) (Int.emod_nonneg _ (pw_ne b))
      refine ⟨_, Wr.congr (fun n t => st_gt h1 n t) f, fun n hn => ?_, fun ho => by omega, q_w2 h1 hb⟩
      cases hn
      show _ ≤ 2 ^ b
      by_cases c : -s % 2 ^ b = 0
      · rw [k.1 c]
        omega
      · have := (k.2 c).2.2.1
        omega
    · obtain ⟨m, t1, t2⟩ := q_w4 (x := x) (s := s) (both := both) h1 hb
      refine ⟨_, Wr.congr (fun n t => st_ne h1 n t) (ne_words t1 x), fun n hn => ?_, fun ho => by omega, t2⟩
      cases hn
      exact Nat.pow_le_pow_right (by decide) (Nat.sub_le _ _)
    · exact ⟨some 0, wrong_zero (st_odd hh), fun n hn => by cases hn; exact Nat.zero_le _, fun _ => rfl, q_wodd hh⟩
def cloD : Option (Nat × Option Nat) → D
  | none => .non
  | some (n, r) => .tup [.int n, optD r]
/-- what is told: the first number of passes that are not made, and those that are made -/
def Told (way : Nat) (w : Option Nat) (both : Bool) (x s : Int) : Option (Nat × Option Nat) → Prop
  | none => First (Wr (St way w both x s)) none
  | some (n, r) => First (Wr (St way w both x s)) (some n) ∧ First (St way w both x s n) r ∧ n ≤ mostN w ∧ ((way = 1 ∨ way = 3 ∨ way = 5) → n = 0)
theorem q_look2 {a b : D} (h1 : isI a = true) (h2 : isI b = true) : F_look_integers [.lst [a, b]] = .ok .non .non := by
  simp [F_look_integers, m_look_integers, it_l, forM, q_isint, h1, h2]
theorem q_look2X1 {a b : D} (h1 : isI a = false) : F_look_integers [.lst [a, b]] = .ex ⟨"InvalidNumber", [("value", a)]⟩ := by
  simp [F_look_integers, m_look_integers, it_l, forM, q_isint, h1]
theorem q_look2X2 {a b : D} (h1 : isI a = true) (h2 : isI b = false) : F_look_integers [.lst [a, b]] = .ex ⟨"InvalidNumber", [("value", b)]⟩ := by
  simp [F_look_integers, m_look_integers, it_l, forM, q_isint, h1, h2]
theorem q_clo {way : Nat} (hw : way ≤ 5) {w : Option Nat} (h : okW 64 w) (x s : Int) (both : Bool) (hs : Sm 1000 s) : ∃ u, Told way w both x s u ∧ F_counter_left_out [.int x, .int s, .str (rel way), wD w, .bl both] = .ok (cloD u) .non := by
  obtain ⟨q, q1, q2, q4, q3⟩ := q_wrong hw h x s both
  have l := q_look2 (a := .int x) (b := .int s) rfl rfl
  have rq := q_reqW h
  have rl := q_rel hw
  cases q with
  | none =>
    refine ⟨none, q1, ?_⟩
    simp [optD] at q3
    simp [F_counter_left_out, m_counter_left_out, rq, l, rl, q3, cloD]
  | some n =>
    obtain ⟨r, r1, r2⟩ := q_made way hw w h x (x + s * (n : Int)) s both hs
    have hn : (n : Int) < 2 ^ 65 := by
      have := q2 n rfl
      have l64 : mostN w ≤ 2 ^ 64 := by
        cases w with
        | none => exact Nat.one_le_two_pow
        | some b => exact Nat.pow_le_pow_right (by decide) (h b rfl).2
      have e : ((2 ^ 64 : Nat) : Int) = 2 ^ 64 := by simp
      omega
    have bt := bits_ok (m := 65) hs (Sm.of_lt (show (0 : Int) ≤ (n : Int) by omega) hn) (by decide)
    refine ⟨some (n, r), ⟨q1, r1, q2 n rfl, fun ho => by have := q4 ho; cases this; rfl⟩, ?_⟩
    simp [optD] at q3
    simp [F_counter_left_out, m_counter_left_out, rq, l, rl, q3, cloD, bt, r2]
/-! ### the law's own count -/
theorem q_lword (n : Int) (b : Nat) (hb : b ≤ 1000) : F__law_word [.int n, .int b] = .ok (.int (n % 2 ^ b)) .non := by
  simp [F__law_word, m__law_word, shl_one (show b ≤ 100000 by omega), pw_ne, fmod_pos (pow_pos2 b)]
theorem q_lwordN (n : D) : F__law_word [n, .non] = .ok n .non := by
  simp [F__law_word, m__law_word]
theorem q_lseen {w : Option Nat} (h : okW 64 w) (x : Int) (both : Bool) : F__law_seen [.int x, wD w, .bl both] = .ok (.int (sees w both x)) .non := by
  cases w with
  | none => simp [F__law_seen, m__law_seen, wD, q_lwordN, sees]
  | some b =>
    obtain ⟨h1, h2⟩ := h b rfl
    have s1 := shl_off h1 h2
    have s2 := shl_one (b := b) (by omega)
    cases both with
    | false => simp [F__law_seen, m__law_seen, wD, q_lword x b (by omega), sees]
    | true =>
      by_cases c : 2 ^ (b - 1) ≤ x % 2 ^ b
      · simp [F__law_seen, m__law_seen, wD, q_lword x b (by omega), sees, s1, s2, c]
      · simp [F__law_seen, m__law_seen, wD, q_lword x b (by omega), sees, s1, s2, c]
def goesB (way : Nat) (x e : Int) : Bool := match way with
  | 0 => decide (x < e)
  | 1 => decide (x ≤ e)
  | 2 => decide (e < x)
  | 3 => decide (e ≤ x)
  | 4 => !decide (x = e)
  | _ => decide (x = e)
theorem goesB_iff {way : Nat} (hw : way ≤ 5) {x e : Int} : goesB way x e = true ↔ goes way x e := by
  match way, hw with
  | 0, _ => simp [goesB, goes]
  | 1, _ => simp [goesB, goes]
  | 2, _ => simp [goesB, goes]
  | 3, _ => simp [goesB, goes]
  | 4, _ => simp [goesB, goes]
  | 5, _ => simp [goesB, goes]
theorem q_goes {way : Nat} (hw : way ≤ 5) (x e : Int) : F__law_goes_on [.int x, .int e, .int way] = .ok (.bl (goesB way x e)) .non := by
  have p : pIx (.lst [.bl (decide (x < e)), .bl (decide (x ≤ e)), .bl (decide (e < x)), .bl (decide (e ≤ x)), .bl (!decide (x = e)), .bl (decide (x = e))]) (.int way) = some (.bl (goesB way x e)) := by
    match way, hw with
    | 0, _ => rfl
    | 1, _ => rfl
    | 2, _ => rfl
    | 3, _ => rfl
    | 4, _ => rfl
    | 5, _ => rfl
  simp [F__law_goes_on, m__law_goes_on, p]
section
variable {way : Nat} {w : Option Nat} {both : Bool} {x e s : Int} {m n0 : Nat}
abbrev cntC : M Bool := (mB (mCall F__law_goes_on 3 (mCons (mVar 6) (mCons (mVar 7) (mCons (mVar 3) (M.ret []))))))
abbrev cntB : M Fw := (mSeq (mIf (mB (m2 iGt (mVar 9) (mVar 8))) (mRet (mC .non)) nxt) (mSeq (mSet (mCall F__law_seen 3 (mCons (m2 iAdd (mVar 6) (mVar 2)) (mCons (mVar 4) (mCons (mVar 5) (M.ret []))))) (setSh 6)) (mSet (m2 iAdd (mVar 9) (mC (.int 1))) (setSh 9))))
def cntR (way : Nat) (w : Option Nat) (both : Bool) (x e s : Int) (n0 m c : Nat) : Rho :=
  [some (.sh, .int x), some (.sh, .int n0), some (.sh, .int s), some (.sh, .int way), some (.sh, wD w), some (.sh, .bl both), some (.sh, .int (sees w both (x + s * c))), some (.sh, .int (sees w both e)), some (.sh, .int m), some (.sh, .int c)]
theorem cnt_c (hw : way ≤ 5) (c : Nat) : cntC (cntR way w both x e s n0 m c) = .ok (goesB way (sees w both (x + s * c)) (sees w both e)) (cntR way w both x e s n0 m c) := by
  simp [cntR, q_goes hw]
theorem cnt_b (h : okW 64 w) {c : Nat} (hc : c ≤ m) : cntB (cntR way w both x e s n0 m c) = .ok .nx (cntR way w both x e s n0 m (c + 1)) := by
  have c1 : ¬ m < c := by omega
  have e1 : sees w both (sees w both (x + s * c) + s) = sees w both (x + s * ((c + 1 : Nat) : Int)) := by
    rw [sees_add fun b hb => (h b hb).1]
    have : ((c + 1 : Nat) : Int) = (c : Int) + 1 := by omega
    rw [this, Int.mul_add, Int.mul_one, Int.add_assoc]
  simp [cntR, c1, q_lseen h, e1]
theorem cnt_x {c : Nat} (hc : m < c) : cntB (cntR way w both x e s n0 m c) = .ok (.rt .non) (cntR way w both x e s n0 m c) := by
  simp [cntR, hc]
theorem cnt_some (hw : way ≤ 5) (h : okW 64 w) {t : Nat} (f : First (Stop way w both x e s) (some t)) (ht : t ≤ m + 1) : ∀ (k c g : Nat), c + k = t → k < g → whileM cntC cntB g (cntR way w both x e s n0 m c) = .ok .nx (cntR way w both x e s n0 m t) := by
  intro k
  induction k with
  | zero =>
    intro c g e1 hg
    obtain ⟨g, rfl⟩ : ∃ g', g = g' + 1 := ⟨g - 1, by omega⟩
    have e2 : c = t := by omega
    subst e2
    refine while_f ?_
    rw [cnt_c hw]
    have z : goesB way (sees w both (x + s * c)) (sees w both e) = false := by
      cases z : goesB way (sees w both (x + s * c)) (sees w both e) with
      | false => rfl
      | true => exact absurd ((goesB_iff hw).mp z) f.1
    rw [z]
  | succ k ih =>
    intro c g e1 hg
    obtain ⟨g, rfl⟩ : ∃ g', g = g' + 1 := ⟨g - 1, by omega⟩
    have z : goesB way (sees w both (x + s * c)) (sees w both e) = true := (goesB_iff hw).mpr (Classical.not_not.mp (f.2 c (by omega)))
    have hc := cnt_c (w := w) (both := both) (x := x) (e := e) (s := s) (m := m) (n0 := n0) hw c
    rw [z] at hc
    rw [while_t hc (cnt_b h (by omega))]
    exact ih (c + 1) g (by omega) (by omega)
theorem cnt_none (hw : way ≤ 5) (h : okW 64 w) (f : First (Stop way w both x e s) none) : ∀ (k c g : Nat), c + k = m + 1 → k < g → ∃ ρ, whileM cntC cntB g (cntR way w both x e s n0 m c) = .ok (.rt .non) ρ := by
  intro k
  induction k with
  | zero =>
    intro c g e1 hg
    obtain ⟨g, rfl⟩ : ∃ g', g = g' + 1 := ⟨g - 1, by omega⟩
    have z : goesB way (sees w both (x + s * c)) (sees w both e) = true := (goesB_iff hw).mpr (Classical.not_not.mp (f c))
    have hc := cnt_c (w := w) (both := both) (x := x) (e := e) (s := s) (m := m) (n0 := n0) hw c
    rw [z] at hc
    exact ⟨_, while_r hc (cnt_x (by omega))⟩
  | succ k ih =>
    intro c g e1 hg
    obtain ⟨g, rfl⟩ : ∃ g', g = g' + 1 := ⟨g - 1, by omega⟩
    have z : goesB way (sees w both (x + s * c)) (sees w both e) = true := (goesB_iff hw).mpr (Classical.not_not.mp (f c))
    have hc := cnt_c (w := w) (both := both) (x := x) (e := e) (s := s) (m := m) (n0 := n0) hw c
    rw [z] at hc
    rw [while_t hc (cnt_b h (by omega))]
    exact ih (c + 1) g (by omega) (by omega)
end
/-- the most that is counted -/
def most (n : Nat) : Option Nat → Nat
  | none => 3 * n + 3
  | some b => 2 ^ b
theorem q_counted {way : Nat} (hw : way ≤ 5) {w : Option Nat} (h : okW 6 w) {x s : Int} {n : Nat} {both : Bool} {r : Option Nat} (hn : n ≤ 100) (hs : Sm 1000 s) (f : First (St way w both x s n) r) (hr : ∀ t, r = some t → t ≤ most n w + 1) : F__law_counted [.int x, .int n, .int s, .int way, wD w, .bl both] = .ok (optD r) .non := by
  have f' : First (Stop way w both x (x + s * (n : Int)) s) r := f
  have h64 : okW 64 w := fun b hb => ⟨(h b hb).1, by have := (h b hb).2; omega⟩
  have hm : most n w ≤ 500 := by
    cases w with
    | none => show 3 * n + 3 ≤ 500; omega
    | some b =>
      have := (h b rfl).2
      have l : (2 : Nat) ^ b ≤ 2 ^ 6 := Nat.pow_le_pow_right (by decide) this
      show 2 ^ b ≤ 500
      omega
  have sn : Sm 10 (n : Int) := .of_lt (by omega) (by omega)
  have b1 := bits_ok sn hs (by decide)
  have b2 : bitsOk 3 n = true := bits_ok (n := 10) (.lit (by decide)) sn (by decide)
  have ec : (n : Int) * s = s * n := Int.mul_comm _ _
  obtain ⟨W, hW⟩ : ∃ W, W = whileM cntC cntB 1000 := ⟨_, rfl⟩
  have l1 := q_lseen h64 x both
  have l2 := q_lseen h64 (x + s * (n : Int)) both
  cases r with
  | some t =>
    have ht := hr t rfl
    have ho := cnt_some (m := most n w) (n0 := n) hw h64 f' ht t 0 1000 (by omega) (by omega)
    rw [← hW] at ho
    cases w with
    | none =>
      simp [cntR, wD, most] at ho l1 l2
      simp only [F__law_counted, m__law_counted, ← hW]
      simp [wD, l1, l2, ho, optD, b1, b2, ec]
    | some b =>
      have s2 := shl_one (b := b) (by have := (h b rfl).2; omega)
      simp [cntR, wD, most] at ho l1 l2
      simp only [F__law_counted, m__law_counted, ← hW]
      simp [wD, l1, l2, s2, ho, optD, b1, b2, ec]
  | none =>
    obtain ⟨ρ, ho⟩ := cnt_none (m := most n w) (n0 := n) hw h64 f' (most n w + 1) 0 1000 (by omega) (by omega)
    rw [← hW] at ho
    cases w with
    | none =>
      simp [cntR, wD, most] at ho l1 l2
      simp only [F__law_counted, m__law_counted, ← hW]
      simp [wD, l1, l2, ho, optD, b1, b2, ec]
    | some b =>
      have s2 := shl_one (b := b) (by have := (h b rfl).2; omega)
      simp [cntR, wD, most] at ho l1 l2
      simp only [F__law_counted, m__law_counted, ← hW]
      simp [wD, l1, l2, s2, ho, optD, b1, b2, ec]
end DL
set_option Elab.async false
set_option linter.all false
set_option maxRecDepth 100000
set_option exponentiation.threshold 10000
namespace DL
open PySem PySem.Spec PyProof.Rows L2 PM
abbrev duB : M Fw := (mSeq (mSet (mCall F__law_counted 6 (mCons (mVar 0) (mCons (mVar 6) (mCons (mVar 1) (mCons (mVar 2) (mCons (mVar 3) (mCons (mVar 4) (M.ret [])))))))) (setSh 7)) (mIf (mB (m2 pNe (mVar 7) (mVar 6))) (mRet (mTup (mCons (mVar 6) (mCons (mVar 7) (M.ret []))))) nxt))
section
variable {way : Nat} {w : Option Nat} {both : Bool} {x s : Int} {m : Int} {o6 o7 : Option (Fl × D)}
def duR (way : Nat) (w : Option Nat) (both : Bool) (x s m : Int) (o6 o7 : Option (Fl × D)) : Rho := [some (.sh, .int x), some (.sh, .int s), some (.sh, .int way), some (.sh, wD w), some (.sh, .bl both), some (.sh, .int m), o6, o7]
theorem pNe_opt {r : Option Nat} {n : Nat} (h : r ≠ some n) : pNe (optD r) (.int n) = some (.bl true) := by
  cases r with
  | none => rfl
  | some t =>
    have : ¬ (t : Int) = n := fun e => h (by congr 1; omega)
    simp [optD, this]
theorem du_ok {n : Nat} (h : F__law_counted [.int x, .int n, .int s, .int way, wD w, .bl both] = .ok (.int n) .non) : duB (duR way w both x s m (some (.sh, .int n)) o7) = .ok .nx (duR way w both x s m (some (.sh, .int n)) (some (.sh, .int n))) := by
  simp [duR, h]
theorem du_bad {n : Nat} {r : Option Nat} (h : F__law_counted [.int x, .int n, .int s, .int way, wD w, .bl both] = .ok (optD r) .non) (hr : r ≠ some n) : ∃ ρ, duB (duR way w both x s m (some (.sh, .int n)) o7) = .ok (.rt (.tup [.int n, optD r])) ρ := by
  refine ⟨duR way w both x s m (some (.sh, .int n)) (some (.sh, optD r)), ?_⟩
  simp [duR, h, pNe_opt hr]
theorem cnt_of (hw : way ≤ 5) (h : okW 6 w) {n : Nat} (hn : n ≤ 100) (hs : Sm 1000 s) (f : First (St way w both x s n) (some n)) : F__law_counted [.int x, .int n, .int s, .int way, wD w, .bl both] = .ok (.int n) .non := by
  refine q_counted hw h hn hs f fun t ht => ?_
  cases ht
  cases w with
  | none => show n ≤ 3 * n + 3 + 1; omega
  | some b =>
    have := first_word (h b rfl).1 (show First (Stop way (some b) both x (x + s * (n : Int)) s) (some n) from f)
    show n ≤ 2 ^ b + 1
    omega
theorem du_loop (hw : way ≤ 5) (h : okW 6 w) (hs : Sm 1000 s) : ∀ (k lo : Nat) (o6 o7 : Option (Fl × D)), lo + k ≤ 101 → (∀ n, n < lo + k → First (St way w both x s n) (some n)) → ∃ a b, forM (setSh 6) duB (intsFrom lo k) (duR way w both x s m o6 o7) = .ok .nx (duR way w both x s m a b) := by
  intro k
  induction k with
  | zero =>
    intro lo o6 o7 _ _
    exact ⟨o6, o7, rfl⟩
  | succ k ih =>
    intro lo o6 o7 hl hf
    obtain ⟨a, b, hab⟩ := ih (lo + 1) (some (.sh, .int lo)) (some (.sh, .int lo)) (by omega) (fun n hn => hf n (by omega))
    refine ⟨a, b, ?_⟩
    rw [← hab]
    exact for_cons (ρ1 := duR way w both x s m (some (.sh, .int lo)) o7) (by simp [duR]) (du_ok (cnt_of hw h (by omega) hs (hf lo (by omega))))
theorem du_stop (hw : way ≤ 5) (h : okW 6 w) (hs : Sm 1000 s) {q : Nat} {r : Option Nat} (hq : q ≤ 100) (hr : r ≠ some q) (hc : F__law_counted [.int x, .int q, .int s, .int way, wD w, .bl both] = .ok (optD r) .non) : ∀ (j k lo : Nat) (o6 o7 : Option (Fl × D)), lo + j = q → j < k → (∀ n, n < q → First (St way w both x s n) (some n)) → ∃ ρ, forM (setSh 6) duB (intsFrom lo k) (duR way w both x s m o6 o7) = .ok (.rt (.tup [.int q, optD r])) ρ := by
  intro j
  induction j with
  | zero =>
    intro k lo o6 o7 e hk _
    obtain ⟨k, rfl⟩ : ∃ k', k = k' + 1 := ⟨k - 1, by omega⟩
    have e1 : lo = q := by omega
    subst e1
    obtain ⟨ρ, hρ⟩ := du_bad (x := x) (s := s) (way := way) (w := w) (both := both) (m := m) (o7 := o7) hc hr
    exact ⟨_, for_ret (ρ1 := duR way w both x s m (some (.sh, .int lo)) o7) (by simp [duR]) hρ⟩
  | succ j ih =>
    intro k lo o6 o7 e hk hf
    obtain ⟨k, rfl⟩ : ∃ k', k = k' + 1 := ⟨k - 1, by omega⟩
    obtain ⟨ρ, hρ⟩ := ih k (lo + 1) (some (.sh, .int lo)) (some (.sh, .int lo)) (by omega) (by omega) hf
    refine ⟨ρ, ?_⟩
    rw [← hρ]
    exact for_cons (ρ1 := duR way w both x s m (some (.sh, .int lo)) o7) (by simp [duR]) (du_ok (cnt_of hw h (by omega) hs (hf lo (by omega))))
end
def mostD : Option Nat → Nat
  | none => 30
  | some b => 2 ^ b
theorem q_due {way : Nat} (hw : way ≤ 5) {w : Option Nat} (h : okW 6 w) {x s : Int} {both : Bool} (hs : Sm 1000 s) {u : Option (Nat × Option Nat)} (hu : Told way w both x s u) (hb : ∀ n r, u = some (n, r) → ∀ t, r = some t → t ≤ most n w + 1) : F__law_due [.int x, .int s, .int way, wD w, .bl both] = .ok (cloD u) .non := by
  have hm : mostD w ≤ 64 := by
    cases w with
    | none => show 30 ≤ 64; omega
    | some b => exact Nat.pow_le_pow_right (by decide) (h b rfl).2
  have md : mostN w ≤ mostD w := by
    cases w with
    | none => show 1 ≤ 30; omega
    | some b => exact Nat.le_refl _
  have rg : rng1 [.int ((mostD w : Int) + 1)] = some (intsFrom 0 (mostD w + 1)) := by
    have e : (mostD w : Int) + 1 = ((mostD w + 1 : Nat) : Int) := by omega
    rw [e]
    exact rng_ok (by omega)
  obtain ⟨G, hG⟩ : ∃ G, G = forM (setSh 6) duB := ⟨_, rfl⟩
  have eL : ∀ (m : M (List D)), mFor m (setSh 6) duB = M.bnd m fun ds => G ds := fun m => by
    rw [hG]
    rfl
  have all : ∀ q : Nat, (∀ n, n < q → ¬ Wr (St way w both x s) n) → ∀ n, n < q → First (St way w both x s n) (some n) := fun q g n l => Classical.not_not.mp (g n l)
  cases u with
  | none =>
    have hu' : First (Wr (St way w both x s)) none := hu
    obtain ⟨a, b, hab⟩ := du_loop (m := (mostD w : Int)) (x := x) (both := both) hw h hs (mostD w + 1) 0 none none (by omega) (all _ fun n _ => hu' n)
    rw [← hG] at hab
    cases w with
    | none =>
      simp [duR, wD, mostD] at hab rg
      simp only [F__law_due, m__law_due, eL]
      simp [wD, rg, hab, cloD]
    | some b' =>
      have sh := shl_one (b := b') (by have := (h b' rfl).2; omega)
      simp [duR, wD, mostD] at hab rg
      simp only [F__law_due, m__law_due, eL]
      simp [wD, sh, rg, hab, cloD]
  | some nr =>
    obtain ⟨n, r⟩ := nr
    obtain ⟨h1, h2, h3, h4⟩ := hu
    have hr : r ≠ some n := fun e => h1.1 (e ▸ h2)
    have hc := q_counted hw h (by omega) hs h2 (hb n r rfl)
    obtain ⟨ρ, hρ⟩ := du_stop (m := (mostD w : Int)) hw h hs (by omega) hr hc n (mostD w + 1) 0 none none (by omega) (by omega) (all _ h1.2)
    rw [← hG] at hρ
    cases w with
    | none =>
      simp [duR, wD, mostD] at hρ rg
      simp only [F__law_due, m__law_due, eL]
      simp [wD, rg, hρ, cloD]
    | some b' =>
      have sh := shl_one (b := b') (by have := (h b' rfl).2; omega)
      simp [duR, wD, mostD] at hρ rg
      simp only [F__law_due, m__law_due, eL]
      simp [wD, sh, rg, hρ, cloD]
theorem q_asked {way : Nat} (hw : way ≤ 5) {w : Option Nat} (h : okW 64 w) {x s : Int} {both : Bool} (hs : Sm 1000 s) : ∃ u, Told way w both x s u ∧ F__law_asked [.int x, .int s, .str (rel way), wD w, .bl both] = .ok (cloD u) .non := by
  obtain ⟨u, f1, f2⟩ := q_clo hw h x s both hs
  refine ⟨u, f1, ?_⟩
  cases w with
  | none =>
    cases both with
    | false => simp [F__law_asked, m__law_asked, wD, G_counter_left_out] at f2 ⊢; simp [f2]
    | true => simp [F__law_asked, m__law_asked, wD, G_counter_left_out_bits_signed] at f2 ⊢; simp [f2]
  | some b => simp [F__law_asked, m__law_asked, wD, G_counter_left_out_bits_signed] at f2 ⊢; simp [f2]
end DL
set_option Elab.async false
set_option linter.all false
set_option maxRecDepth 100000
set_option exponentiation.threshold 10000
namespace DL
open PySem PySem.Spec PyProof.Rows L2 PM
theorem ev_mField {f : Str} {fs : List (Str × D)} {d : D} {ρ : Rho} (h : fs.lookup f = some d) : mField f fs ρ = .ok d ρ := by
  unfold mField
  rw [h]
  rfl
theorem try_here {c : Cl} {r : List Cl} {x : Exn} {ρ ρ' : Rho} {f : Fw} (h : takOf exm x.cls c.x = some true) (hf : x.fs.isEmpty = false) (hl : c.i < ρ.length) (hh : c.h x.fs (ρ.set c.i none) = .ok f ρ') : tryM (takOf exm) (c :: r) x ρ = .ok f (ρ'.set c.i none) := by
  rw [tryM, h]
  show (if x.fs.isEmpty = true then M.stop else suiteM c.i (c.h x.fs)) ρ = _
  rw [ev_ite, hf, if_neg (by decide)]
  show (if c.i < ρ.length then (match c.h x.fs (ρ.set c.i none) with
    | .ok f ρ' => Out.ok f (ρ'.set c.i none)
    | .ex _ _ => Out.stuck
    | .stuck => Out.stuck) else Out.stuck) = _
  rw [if_pos hl, hh]
theorem try_past {c : Cl} {r : List Cl} {x : Exn} {ρ : Rho} (h : takOf exm x.cls c.x = some false) : tryM (takOf exm) (c :: r) x ρ = tryM (takOf exm) r x ρ := by
  rw [tryM, h]
theorem q_cloX1 {x s r w b : D} (h : noBits w = true) : F_counter_left_out [x, s, r, w, b] = .ex ⟨"InvalidBits", [("value", w)]⟩ := by
  simp [F_counter_left_out, m_counter_left_out, q_reqX h]
theorem q_cloX2 {x s r w b v : D} (h : F_require_bits [w] = .ok .non .non) (g : F_look_integers [.lst [x, s]] = .ex ⟨"InvalidNumber", [("value", v)]⟩) : F_counter_left_out [x, s, r, w, b] = .ex ⟨"InvalidNumber", [("value", v)]⟩ := by
  simp [F_counter_left_out, m_counter_left_out, h, g]
theorem q_cloX3 {x s r w b : D} (h : F_require_bits [w] = .ok .non .non) (g : F_look_integers [.lst [x, s]] = .ok .non .non) (k : noRel r) : F_counter_left_out [x, s, r, w, b] = .ex ⟨"InvalidRelation", [("relation", r)]⟩ := by
  simp [F_counter_left_out, m_counter_left_out, h, g, q_relX k]
section
variable {x s r w v : D}
theorem q_caught1 (h : F_counter_left_out [x, s, r, w, .bl false] = .ex ⟨"InvalidBits", [("value", v)]⟩) : F__law_caught [x, s, r, w] = .ok (.lst [.str "bits", v]) .non := by
  have k : takOf exm "InvalidBits" "InvalidBits" = some true := rfl
  have l : ([("value", v)] : List (Str × D)).lookup (Str.ofString "value") = some v := rfl
  simp only [F__law_caught, m__law_caught, bod, rho_f]
  simp [G_counter_left_out_bits, h]
  rw [try_here (f := .nx) (ρ' := [some (.sh, x), some (.sh, s), some (.sh, r), some (.sh, w), some (.sh, .lst [.str "bits", v]), none]) k rfl (by simp) (by simp [ev_mField l])]
  simp
theorem q_caught2 (h : F_counter_left_out [x, s, r, w, .bl false] = .ex ⟨"InvalidNumber", [("value", v)]⟩) : F__law_caught [x, s, r, w] = .ok (.lst [.str "number", v]) .non := by
  have k : takOf exm "InvalidNumber" "InvalidNumber" = some true := rfl
  have k0 : takOf exm "InvalidNumber" "InvalidBits" = some false := rfl
  have l : ([("value", v)] : List (Str × D)).lookup (Str.ofString "value") = some v := rfl
  simp only [F__law_caught, m__law_caught, bod, rho_f]
  simp [G_counter_left_out_bits, h]
  rw [try_past k0, try_here (f := .nx) (ρ' := [some (.sh, x), some (.sh, s), some (.sh, r), some (.sh, w), some (.sh, .lst [.str "number", v]), none]) k rfl (by simp) (by simp [ev_mField l])]
  simp
theorem q_caught3 (h : F_counter_left_out [x, s, r, w, .bl false] = .ex ⟨"InvalidRelation", [("relation", v)]⟩) : F__law_caught [x, s, r, w] = .ok (.lst [.str "relation", v]) .non := by
  have k : takOf exm "InvalidRelation" "InvalidRelation" = some true := rfl
  have k0 : takOf exm "InvalidRelation" "InvalidBits" = some false := rfl
  have k1 : takOf exm "InvalidRelation" "InvalidNumber" = some false := rfl
  have l : ([("relation", v)] : List (Str × D)).lookup (Str.ofString "relation") = some v := rfl
  simp only [F__law_caught, m__law_caught, bod, rho_f]
  simp [G_counter_left_out_bits, h]
  rw [try_past k0, try_past k1, try_here (f := .nx) (ρ' := [some (.sh, x), some (.sh, s), some (.sh, r), some (.sh, w), some (.sh, .lst [.str "relation", v]), none]) k rfl (by simp) (by simp [ev_mField l])]
  simp
end
/-! ### the menus -/
theorem menu_wide {r : Int} (h0 : 0 ≤ r) (h1 : r < 3) : ∃ w, pIx (.lst [.non, .int 1, .int 64]) (.int r) = some w ∧ F_require_bits [w] = .ok .non .non := by
  have h : r = 0 ∨ r = 1 ∨ r = 2 := by omega
  rcases h with rfl | rfl | rfl
  · exact ⟨.non, rfl, q_reqN⟩
  · exact ⟨.int 1, rfl, q_req (b := 1) (by decide) (by decide)⟩
  · exact ⟨.int 64, rfl, q_req (b := 64) (by decide) (by decide)⟩
theorem str_of {l : Str} {d : D} (h : strOk (D.lst [.str l, d]).py = true) : ∃ S, fStr [.lst [.str l, d]] = some (.str S) := ⟨_, if_pos h⟩
theorem menu_odd {r : Int} (h0 : 0 ≤ r) (h1 : r < 6) : ∃ o, pIx (.lst [.non, .bl true, .str "1", .lst [.int 1], .tup [.int 0], .bl false]) (.int r) = some o ∧ isI o = false ∧ ∃ S, fStr [.lst [.str "number", o]] = some (.str S) := by
  have h : r = 0 ∨ r = 1 ∨ r = 2 ∨ r = 3 ∨ r = 4 ∨ r = 5 := by omega
  rcases h with rfl | rfl | rfl | rfl | rfl | rfl
  · exact ⟨.non, rfl, rfl, str_of (by decide +kernel)⟩
  · exact ⟨.bl true, rfl, rfl, str_of (by decide +kernel)⟩
  · exact ⟨.str "1", rfl, rfl, str_of (by decide +kernel)⟩
  · exact ⟨.lst [.int 1], rfl, rfl, str_of (by decide +kernel)⟩
  · exact ⟨.tup [.int 0], rfl, rfl, str_of (by decide +kernel)⟩
  · exact ⟨.bl false, rfl, rfl, str_of (by decide +kernel)⟩
theorem menu_strange {r : Int} (h0 : 0 ≤ r) (h1 : r < 8) : ∃ o, pIx (.lst [.str "=<", .str "", .str "<>", .non, .int 5, .str "< ", .lst [.str "<"], .bl true]) (.int r) = some o ∧ noRel o ∧ ∃ S, fStr [.lst [.str "relation", o]] = some (.str S) := by
  have h : r = 0 ∨ r = 1 ∨ r = 2 ∨ r = 3 ∨ r = 4 ∨ r = 5 ∨ r = 6 ∨ r = 7 := by omega
  rcases h with rfl | rfl | rfl | rfl | rfl | rfl | rfl | rfl
  · exact ⟨.str "=<", rfl, .inr ⟨rfl, rfl⟩, str_of (by decide +kernel)⟩
  · exact ⟨.str "", rfl, .inr ⟨rfl, rfl⟩, str_of (by decide +kernel)⟩
  · exact ⟨.str "<>", rfl, .inr ⟨rfl, rfl⟩, str_of (by decide +kernel)⟩
  · exact ⟨.non, rfl, .inl rfl, str_of (by decide +kernel)⟩
  · exact ⟨.int 5, rfl, .inl rfl, str_of (by decide +kernel)⟩
  · exact ⟨.str "< ", rfl, .inr ⟨rfl, rfl⟩, str_of (by decide +kernel)⟩
  · exact ⟨.lst [.str "<"], rfl, .inl rfl, str_of (by decide +kernel)⟩
  · exact ⟨.bl true, rfl, .inl rfl, str_of (by decide +kernel)⟩
theorem menu_shut {r : Int} (h0 : 0 ≤ r) (h1 : r < 7) : ∃ o, pIx (.lst [.int 0, .int 65, .bl true, .str "8", .int (-1), .lst [.int 3], .int 1000000000000000000000000000000]) (.int r) = some o ∧ noBits o = true ∧ ∃ S, fStr [.lst [.str "bits", o]] = some (.str S) := by
  have h : r = 0 ∨ r = 1 ∨ r = 2 ∨ r = 3 ∨ r = 4 ∨ r = 5 ∨ r = 6 := by omega
  rcases h with rfl | rfl | rfl | rfl | rfl | rfl | rfl
  · exact ⟨.int 0, rfl, rfl, str_of (by decide +kernel)⟩
  · exact ⟨.int 65, rfl, rfl, str_of (by decide +kernel)⟩
  · exact ⟨.bl true, rfl, rfl, str_of (by decide +kernel)⟩
  · exact ⟨.str "8", rfl, rfl, str_of (by decide +kernel)⟩
  · exact ⟨.int (-1), rfl, rfl, str_of (by decide +kernel)⟩
  · exact ⟨.lst [.int 3], rfl, rfl, str_of (by decide +kernel)⟩
  · exact ⟨.int 1000000000000000000000000000000, rfl, rfl, str_of (by decide +kernel)⟩
theorem q_refused {p : D} {N : Nat} (hp : Pur N p) (hN : N ≤ 900000) : ∃ p', Pur (N + 5) p' ∧ F__law_refused_right [p] = .ok (.bl true) p' := by
  obtain ⟨r1, p1, a1, a2, u1, d1⟩ := q_draw (n := 3) hp (by omega) (by decide) (.lit (by decide))
  obtain ⟨r2, p2, b1, b2, u2, d2⟩ := q_draw (n := 6) u1 (by omega) (by decide) (.lit (by decide))
  obtain ⟨r4, p4, e1, e2, u4, d4⟩ := q_draw (n := 8) u2 (by omega) (by decide) (.lit (by decide))
  obtain ⟨r3, p3, c1, c2, u3, d3⟩ := q_draw (n := 2) u4 (by omega) (by decide) (.lit (by decide))
  obtain ⟨r5, p5, f1, f2, u5, d5⟩ := q_draw (n := 7) u3 (by omega) (by decide) (.lit (by decide))
  obtain ⟨w, w1, w2⟩ := menu_wide a1 a2
  obtain ⟨o, o1, o2, S1, o3⟩ := menu_odd b1 b2
  obtain ⟨st, s1, s2, S2, s3⟩ := menu_strange e1 e2
  obtain ⟨sh, h1, h2, S3, h3⟩ := menu_shut f1 f2
  have e30 : iPow (.int 10) (.int 30) = some (.int 1000000000000000000000000000000) := rfl
  have k2 := q_caught3 (x := .int 3) (s := .int (-2)) (r := st) (w := w) (v := st) (q_cloX3 w2 (q_look2 rfl rfl) s2)
  have i0 : ∀ a b : D, pIx (.lst [a, b]) (.int 0) = some a := fun _ _ => rfl
  have i1 : ∀ a b : D, pIx (.lst [a, b]) (.int 1) = some b := fun _ _ => rfl
  have hr : r3 = 0 ∨ r3 = 1 := by omega
  have fin1 : ∀ a b : D, F_look_integers [.lst [a, b]] = .ex ⟨"InvalidNumber", [("value", o)]⟩ → pIx (.lst [.lst [o, .str "x"], .lst [.int 3, o]]) (.int r3) = some (.lst [a, b]) →
      ∃ p', Pur (N + 5) p' ∧ F__law_refused_right [p] = .ok (.bl true) p' := by
    intro a b hl hb
    have k1 := q_caught2 (x := a) (s := b) (r := st) (w := w) (v := o) (q_cloX2 w2 hl)
    have k3 := q_caught1 (x := a) (s := b) (r := st) (w := sh) (v := sh) (q_cloX1 h2)
    refine ⟨p5, u5, ?_⟩
    simp [F__law_refused_right, m__law_refused_right, d1, d2, d3, d4, d5, w1, o1, s1, h1, hb, e30, i0, i1, k1, k2, k3, o3, s3, h3]
  rcases hr with rfl | rfl
  · exact fin1 o (.str "x") (q_look2X1 o2) rfl
  · exact fin1 (.int 3) o (q_look2X2 rfl o2) rfl
end DL
set_option Elab.async false
set_option linter.all false
set_option maxRecDepth 100000
set_option exponentiation.threshold 10000
namespace DL
open PySem PySem.Spec PyProof.Rows L2 PM
@[simp] theorem v_15 (x0 x1 x2 x3 x4 x5 x6 x7 x8 x9 x10 x11 x12 x13 x14) (d : D) (r : Rho) : mVar 15 (x0 :: x1 :: x2 :: x3 :: x4 :: x5 :: x6 :: x7 :: x8 :: x9 :: x10 :: x11 :: x12 :: x13 :: x14 :: some (.sh, d) :: r) = .ok d (x0 :: x1 :: x2 :: x3 :: x4 :: x5 :: x6 :: x7 :: x8 :: x9 :: x10 :: x11 :: x12 :: x13 :: x14 :: some (.sh, d) :: r) := rfl
/-- what the law asks of n, behind the words -/
def tailM : M Fw := (mSeq (mIf (mB (m2 pIn (mVar 1) (mTup (mCons (mC (.int 1)) (mCons (mC (.int 3)) (mCons (mC (.int 5)) (M.ret []))))))) (mRet (m2 pEq (mVar 8) (mC (.int 0)))) nxt) (mSeq (mIf (mB (m2 pEq (mVar 1) (mC (.int 4)))) (mSeq (mSet (mCall F__law_word 2 (mCons (m2 iMul (m2 iDiv (mVar 8) (mC (.int 2))) (mVar 7)) (mCons (mVar 4) (M.ret [])))) (setSh 15)) (mRet (mAndV (m2 pEq (mCall F__law_word 2 (mCons (m2 iMul (mVar 8) (mVar 7)) (mCons (mVar 4) (M.ret [])))) (mC (.int 0))) (mOrV (m2 pEq (mVar 8) (mC (.int 1))) (m2 pNe (mVar 15) (mC (.int 0))))))) nxt) (mSeq (mIf (mB (m2 pEq (mVar 1) (mC (.int 2)))) (mSeq (mSet (mCall F__law_word 2 (mCons (m2 iSub (mC (.int 0)) (mVar 7)) (mCons (mVar 4) (M.ret [])))) (setSh 13)) (mSet (m2 iSub (m2 iSub (m2 iMul (mVar 5) (mMap fInt (mCons (mNotV (mVar 3)) (M.ret [])))) (mC (.int 1))) (mVar 12)) (setSh 12))) nxt) (mSeq (mIf (mB (m2 pEq (mVar 13) (mC (.int 0)))) (mRet (m2 pEq (mVar 8) (mC (.int 1)))) nxt) (mRet (mAndV (m2 iLt (m2 iAdd (mVar 12) (m2 iMul (mVar 13) (m2 iSub (mVar 8) (mC (.int 1))))) (mVar 14)) (m2 iGe (m2 iAdd (mVar 12) (m2 iMul (mVar 13) (mVar 8))) (mVar 14))))))))
def tailR (p : D) (way : Nat) (both : Bool) (b : Nat) (x s : Int) (n : Nat) (r : Option Nat) (e : Int) : Rho :=
  [some (.io, p), some (.sh, .int way), some (.sh, .str (rel way)), some (.sh, .bl both), some (.sh, .int b), some (.sh, .int (2 ^ b)), some (.sh, .int x), some (.sh, .int s), some (.sh, .int n), some (.sh, optD r), some (.sh, .int e), some (.sh, optD r),
   some (.sh, .int ((x + off b both) % 2 ^ b - off b both)), some (.sh, .int (s % 2 ^ b)), some (.sh, .int (2 ^ b - off b both)), none]
abbrev endR (p : D) (way : Nat) (both : Bool) (b : Nat) (x s : Int) (n : Nat) (r : Option Nat) (e : Int) (a12 a13 a15 : Option (Fl × D)) : Rho :=
  [some (.io, p), some (.sh, .int way), some (.sh, .str (rel way)), some (.sh, .bl both), some (.sh, .int b), some (.sh, .int (2 ^ b)), some (.sh, .int x), some (.sh, .int s), some (.sh, .int n), some (.sh, optD r), some (.sh, .int e), some (.sh, optD r), a12, a13, some (.sh, .int (2 ^ b - off b both)), a15]
section
variable {p : D} {both : Bool} {b : Nat} {x s : Int} {n : Nat} {r : Option Nat} {e : Int}
theorem nle (h1 : 7 ≤ b) (hb : b ≤ 64) (l : n ≤ mostN (some b)) : (n : Int) ≤ 2 ^ b ∧ Sm 65 (n : Int) := by
  have pc : ((2 ^ b : Nat) : Int) = 2 ^ b := by simp
  have l' : n ≤ 2 ^ b := l
  have := pow_le hb
  exact ⟨by omega, .of_lt (by omega) (by omega)⟩
theorem tail_odd {way : Nat} (hh : way = 1 ∨ way = 3 ∨ way = 5) : tailM (tailR p way both b x s 0 r e) = .ok (.rt (.bl true)) (endR p way both b x s 0 r e (some (.sh, .int ((x + off b both) % 2 ^ b - off b both))) (some (.sh, .int (s % 2 ^ b))) none) := by
  have i1 : pIn (.int 1) (.tup [.int 1, .int 3, .int 5]) = some (.bl true) := rfl
  have i3 : pIn (.int 3) (.tup [.int 1, .int 3, .int 5]) = some (.bl true) := rfl
  have i5 : pIn (.int 5) (.tup [.int 1, .int 3, .int 5]) = some (.bl true) := rfl
  rcases hh with rfl | rfl | rfl <;> simp [tailM, tailR, i1, i3, i5]
theorem tail_0 (h1 : 7 ≤ b) (hb : b ≤ 64) (hl : n ≤ mostN (some b)) (hn : n = fallQ ((x + off b both) % 2 ^ b) (s % 2 ^ b) (2 ^ b)) : tailM (tailR p 0 both b x s n r e) = .ok (.rt (.bl true)) (endR p 0 both b x s n r e (some (.sh, .int ((x + off b both) % 2 ^ b - off b both))) (some (.sh, .int (s % 2 ^ b))) none) := by
  have i0 : pIn (.int 0) (.tup [.int 1, .int 3, .int 5]) = some (.bl false) := rfl
  obtain ⟨n1, sn⟩ := nle h1 hb hl
  have ple := pow_le hb
  have s0 := Int.emod_nonneg s (pw_ne b)
  have s1 := Int.emod_lt_of_pos s (pow_pos2 b)
  have x1 := Int.emod_lt_of_pos (x + off b both) (pow_pos2 b)
  obtain ⟨k1, k2⟩ := fall_facts x1 s0
  rw [← hn] at k1 k2
  have sp : Sm 65 (s % 2 ^ b) := .of_lt s0 (by omega)
  have b1 := bits_ok sp sn (by decide)
  have b2 := bits_ok (m := 66) sp (Sm.sub sn (.lit (by decide) : Sm 65 1)) (by decide)
  by_cases c : s % 2 ^ b = 0
  · have e1 := k1 c
    subst e1
    simp [tailM, tailR, i0, c]
  · obtain ⟨k3, k4, _⟩ := k2 c
    have g1 : (x + off b both) % 2 ^ b - off b both + s % 2 ^ b * ((n : Int) - 1) < 2 ^ b - off b both := by omega
    have g2 : 2 ^ b - off b both ≤ (x + off b both) % 2 ^ b - off b both + s % 2 ^ b * (n : Int) := by omega
    simp [tailM, tailR, i0, c, b1, b2, g1, g2]
theorem tail_2 (h1 : 7 ≤ b) (hb : b ≤ 64) (hl : n ≤ mostN (some b)) (hn : n = fallQ (2 ^ b - 1 - (x + off b both) % 2 ^ b) (-s % 2 ^ b) (2 ^ b)) : tailM (tailR p 2 both b x s n r e) = .ok (.rt (.bl true)) (endR p 2 both b x s n r e (some (.sh, .int (2 ^ b - 1 - (x + off b both) % 2 ^ b - off b both))) (some (.sh, .int (-s % 2 ^ b))) none) := by
  have i0 : pIn (.int 2) (.tup [.int 1, .int 3, .int 5]) = some (.bl false) := rfl
  obtain ⟨n1, sn⟩ := nle h1 hb hl
  have ple := pow_le hb
  have s0 := Int.emod_nonneg (-s) (pw_ne b)
  have s1 := Int.emod_lt_of_pos (-s) (pow_pos2 b)
  have x1 := Int.emod_lt_of_pos (x + off b both) (pow_pos2 b)
  have x0 := Int.emod_nonneg (x + off b both) (pw_ne b)
  obtain ⟨k1, k2⟩ := fall_facts (X0 := 2 ^ b - 1 - (x + off b both) % 2 ^ b) (M := 2 ^ b) (by omega) s0
  rw [← hn] at k1 k2
  have sp : Sm 65 (-s % 2 ^ b) := .of_lt s0 (by omega)
  have b1 := bits_ok sp sn (by decide)
  have b2 := bits_ok (m := 66) sp (Sm.sub sn (.lit (by decide) : Sm 65 1)) (by decide)
  have w1 := q_lword (-s) b (by omega)
  have sM : Sm 66 ((2 : Int) ^ b) := .of_lt (by have := pow_pos2 b; omega) (by omega)
  have c1 : bitsOk (2 ^ b) 1 = true := bits_ok (m := 1) sM (.lit (by decide)) (by decide)
  have c0 : bitsOk (2 ^ b) 0 = true := bits_ok (m := 1) sM (.lit (by decide)) (by decide)
  have ph := pow_half (show 1 ≤ b by omega)
  have hh : (2 ^ b * (if both = true then 0 else 1) - 1 - ((x + off b both) % 2 ^ b - off b both) : Int) = 2 ^ b - 1 - (x + off b both) % 2 ^ b - off b both := by
    cases both
    · simp [off]
    · simp [off]
      omega
  have bb : bitsOk (2 ^ b) (if both = true then 0 else 1) = true := by cases both <;> simp [c0, c1]
  have ni : (if (!both) = true then (1 : Int) else 0) = (if both = true then 0 else 1) := by cases both <;> rfl
  by_cases c : -s % 2 ^ b = 0
  · have e1 := k1 c
    subst e1
    cases both <;> simp at hh <;> simp [tailM, tailR, i0, c, w1, c1, c0, hh]
  · obtain ⟨k3, k4, _⟩ := k2 c
    have g1 : 2 ^ b - 1 - (x + off b both) % 2 ^ b - off b both + -s % 2 ^ b * ((n : Int) - 1) < 2 ^ b - off b both := by omega
    have g2 : 2 ^ b - off b both ≤ 2 ^ b - 1 - (x + off b both) % 2 ^ b - off b both + -s % 2 ^ b * (n : Int) := by omega
    cases both <;> simp at hh <;> simp [tailM, tailR, i0, c, w1, c1, c0, hh, b1, b2, g1, g2]
end
end DL
set_option Elab.async false
set_option linter.all false
set_option maxRecDepth 100000
set_option exponentiation.threshold 10000
namespace DL
open PySem PySem.Spec PyProof.Rows L2 PM
section
variable {p : D} {both : Bool} {b : Nat} {x s : Int} {n : Nat} {r : Option Nat} {e : Int}
theorem tail_4 (h1 : 7 ≤ b) (hb : b ≤ 64) (hl : n ≤ mostN (some b)) (hs : Sm 1000 s) {m : Nat} (t1 : Twos (s % 2 ^ b) b m) (hn : n = 2 ^ (b - m)) : ∃ a15, tailM (tailR p 4 both b x s n r e) = .ok (.rt (.bl true)) (endR p 4 both b x s n r e (some (.sh, .int ((x + off b both) % 2 ^ b - off b both))) (some (.sh, .int (s % 2 ^ b))) a15) := by
  have i0 : pIn (.int 4) (.tup [.int 1, .int 3, .int 5]) = some (.bl false) := rfl
  obtain ⟨n1, sn⟩ := nle h1 hb hl
  have d2 : divOk 2 = true := by decide
  have fd : (n : Int).fdiv 2 = n / 2 := fdiv_pos (by decide)
  have sh : Sm 65 ((n : Int) / 2) := Sm.le sn (Int.natAbs_ediv_le_natAbs _ _)
  have b1 := bits_ok sh hs (by decide)
  have b2 := bits_ok sn hs (by decide)
  have w1 := q_lword ((n : Int) / 2 * s) b (by omega)
  have w2 := q_lword ((n : Int) * s) b (by omega)
  have pc : (n : Int) = 2 ^ (b - m) := by
    rw [hn]
    simp
  have z : ((n : Int) * s) % 2 ^ b = 0 := by
    refine Int.emod_eq_zero_of_dvd ?_
    rw [Int.mul_comm, unit_dvd t1, pc]
    exact Int.dvd_refl _
  rw [z] at w2
  refine ⟨some (.sh, .int ((n : Int) / 2 * s % 2 ^ b)), ?_⟩
  by_cases c : b - m = 0
  · have e1 : n = 1 := by
      rw [hn, c]
    subst e1
    simp at w1 w2 b1 b2 d2 fd
    simp [tailM, tailR, i0, d2, fd, b1, b2, w1, w2]
  · have nz : ¬ ((n : Int) / 2 * s) % 2 ^ b = 0 := by
      intro q
      have q1 := Int.dvd_of_emod_eq_zero q
      rw [Int.mul_comm, unit_dvd t1] at q1
      obtain ⟨k, hk⟩ : ∃ k, b - m = k + 1 := ⟨b - m - 1, by omega⟩
      have ph := pow_pos2 k
      rw [pc, hk, Int.pow_succ] at q1
      have e2 : (2 : Int) ^ k * 2 / 2 = 2 ^ k := Int.mul_ediv_cancel _ (by decide)
      rw [e2] at q1
      have := Int.le_of_dvd ph q1
      omega
    simp [tailM, tailR, i0, d2, fd, b1, b2, w1, w2, nz]
theorem pEq_opt {r : Option Nat} {n : Nat} (h : r ≠ some n) : pEq (optD r) (.int n) = some (.bl false) := by
  cases r with
  | none => rfl
  | some t =>
    have : ¬ (t : Int) = n := fun e => h (by congr 1; omega)
    simp [optD, this]
theorem pNe_self {r : Option Nat} : pNe (optD r) (optD r) = some (.bl false) := by
  cases r with
  | none => rfl
  | some t => simp [optD]
/-- what is told of words: the tail holds -/
theorem tail_all {way : Nat} (hw : way ≤ 5) (h1 : 7 ≤ b) (hb : b ≤ 64) (hs : Sm 1000 s) (hu : Told way (some b) both x s (some (n, r))) : ∃ a12 a13 a15, tailM (tailR p way both b x s n r e) = .ok (.rt (.bl true)) (endR p way both b x s n r e a12 a13 a15) := by
  obtain ⟨u1, u2, u3, u4⟩ := hu
  have pb := pow_pos2 b
  have x0 := Int.emod_nonneg (x + off b both) (pw_ne b)
  have x1 := Int.emod_lt_of_pos (x + off b both) pb
  have hh : way = 0 ∨ way = 2 ∨ way = 4 ∨ (way = 1 ∨ way = 3 ∨ way = 5) := by omega
  rcases hh with rfl | rfl | rfl | hh
  · have e1 := u1.uniq (Wr.congr (fun n t => st_lt (by omega) n t) (fall_first (s := s) x0 x1))
    exact ⟨_, _, _, tail_0 h1 hb u3 (Option.some.inj e1)⟩
  · have e1 := u1.uniq (Wr.congr (fun n t => st_gt (by omega) n t) (fall_first (X0 := 2 ^ b - 1 - (x + off b both) % 2 ^ b) (s := -s) (M := 2 ^ b) (by omega) (by omega)))
    exact ⟨_, _, _, tail_2 h1 hb u3 (Option.some.inj e1)⟩
  · obtain ⟨m, t1, _⟩ := q_w4 (x := x) (s := s) (both := both) (show 1 ≤ b by omega) hb
    have e1 := u1.uniq (Wr.congr (fun n t => st_ne (by omega) n t) (ne_words t1 x))
    obtain ⟨a15, h⟩ := tail_4 (p := p) (both := both) (x := x) (r := r) (e := e) h1 hb u3 hs t1 (Option.some.inj e1)
    exact ⟨_, _, _, h⟩
  · have e1 := u4 hh
    subst e1
    exact ⟨_, _, _, tail_odd hh⟩
/-- words are always told of -/
theorem told_some {way : Nat} (hw : way ≤ 5) (h1 : 1 ≤ b) (hb : b ≤ 64) {u : Option (Nat × Option Nat)} (hu : Told way (some b) both x s u) : ∃ n r, u = some (n, r) := by
  cases u with
  | some nr => exact ⟨nr.1, nr.2, rfl⟩
  | none =>
    exfalso
    have hu' : First (Wr (St way (some b) both x s)) none := hu
    have pb := pow_pos2 b
    have x0 := Int.emod_nonneg (x + off b both) (pw_ne b)
    have x1 := Int.emod_lt_of_pos (x + off b both) pb
    have hh : way = 0 ∨ way = 2 ∨ way = 4 ∨ (way = 1 ∨ way = 3 ∨ way = 5) := by omega
    rcases hh with rfl | rfl | rfl | hh
    · have e1 := hu'.uniq (Wr.congr (fun n t => st_lt h1 n t) (fall_first (s := s) x0 x1))
      cases e1
    · have e1 := hu'.uniq (Wr.congr (fun n t => st_gt h1 n t) (fall_first (X0 := 2 ^ b - 1 - (x + off b both) % 2 ^ b) (s := -s) (M := 2 ^ b) (by omega) (by omega)))
      cases e1
    · obtain ⟨m, t1, _⟩ := q_w4 (x := x) (s := s) (both := both) h1 hb
      have e1 := hu'.uniq (Wr.congr (fun n t => st_ne h1 n t) (ne_words t1 x))
      cases e1
    · have e1 := hu'.uniq (wrong_zero (st_odd hh))
      cases e1
end
end DL
set_option Elab.async false
set_option linter.all false
set_option maxRecDepth 100000
set_option exponentiation.threshold 10000
namespace DL
open PySem PySem.Spec PyProof.Rows L2 PM
theorem great_eq : m__law_great_right = (mSeq (mSet (m2 iAdd (mC (.int 7)) (mCallW F__law_draw 2 0 (mCons (mC (.int 58)) (M.ret [])))) (setSh 4)) (mSeq (mSet (m2 iShl (mC (.int 1)) (mVar 4)) (setSh 5)) (mSeq (mSet (m2 iSub (m2 iAdd (m2 iMul (mCallW F__law_draw 2 0 (mCons (m2 iPow (mC (.int 10)) (mC (.int 9))) (M.ret []))) (m2 iAdd (m2 iDiv (mVar 5) (m2 iPow (mC (.int 10)) (mC (.int 9)))) (mC (.int 1)))) (mCallW F__law_draw 2 0 (mCons (mC (.int 5)) (M.ret [])))) (mC (.int 2))) (setSh 6)) (mSeq (mSet (m2 iShl (mC (.int 1)) (mCallW F__law_draw 2 0 (mCons (mVar 4) (M.ret [])))) (setSh 7)) (mSeq (mIf (mB (m2 pEq (mCallW F__law_draw 2 0 (mCons (mC (.int 2)) (M.ret []))) (mC (.int 0)))) (mSet (m2 iAdd (m2 pIx (mSh (mLst (mCons (mC (.int 0)) (mCons (mVar 5) (M.ret []))))) (mCallW F__law_draw 2 0 (mCons (mC (.int 2)) (M.ret [])))) (m2 iMul (mCallW F__law_draw 2 0 (mCons (m2 iPow (mC (.int 10)) (mC (.int 9))) (M.ret []))) (m2 pIx (mSh (mLst (mCons (mC (.int 1)) (mCons (m1 iNeg (mC (.int 1))) (M.ret []))))) (mCallW F__law_draw 2 0 (mCons (mC (.int 2)) (M.ret [])))))) (setSh 7)) nxt) (mSeq (mSet (mCall F__law_asked 5 (mCons (mVar 6) (mCons (mVar 7) (mCons (mVar 2) (mCons (mVar 4) (mCons (mVar 3) (M.ret []))))))) (gSeq 2 (gEach (setSh 8) (gEach (setSh 9) gDone)))) (mSeq (mSet (m2 iAdd (mVar 6) (m2 iMul (mVar 8) (mVar 7))) (setSh 10)) (mSeq (mSet (mCallK G_passes_bits_signed 4 2 (mCons (mVar 6) (mCons (mVar 10) (mCons (mVar 7) (mCons (mVar 2) (M.ret []))))) (mCons (mVar 4) (mCons (mVar 3) (M.ret [])))) (setSh 11)) (mSeq (mIf (mOr (mB (m2 pNe (mVar 9) (mVar 11))) (mB (m2 pEq (mVar 9) (mVar 8)))) (mRet (mC (.bl false))) nxt) (mSeq (mSet (mCall F__law_seen 3 (mCons (mVar 6) (mCons (mVar 4) (mCons (mVar 3) (M.ret []))))) (setSh 12)) (mSeq (mSet (mCall F__law_word 2 (mCons (mVar 7) (mCons (mVar 4) (M.ret [])))) (setSh 13)) (mSeq (mSet (m2 iSub (mVar 5) (m2 iMul (m2 iDiv (mVar 5) (mC (.int 2))) (mMap fInt (mCons (mVar 3) (M.ret []))))) (setSh 14)) tailM)))))))))))) := rfl
theorem step_draw {p : D} {N b : Nat} (hp : Pur N p) (hN : N ≤ 900000) (h1 : 7 ≤ b) (hb : b ≤ 64) : ∃ k p', Pur (N + 1) p' ∧ k < b ∧ F__law_draw [p, .int b] = .ok (.int (k : Nat)) p' := by
  obtain ⟨r, p', a1, a2, u, d⟩ := q_draw (n := (b : Int)) hp (by omega) (by omega) ((Sm.of_lt (n := 10) (by omega) (by omega)).mono (by decide))
  obtain ⟨k, rfl⟩ := Int.eq_ofNat_of_zero_le a1
  exact ⟨k, p', u, by omega, d⟩
theorem ix_0m {M r : Int} (h0 : 0 ≤ r) (h1 : r < 2) (hM : Sm 66 M) : ∃ y : Int, pIx (.lst [.int 0, .int M]) (.int r) = some (.int y) ∧ Sm 66 y := by
  have h : r = 0 ∨ r = 1 := by omega
  rcases h with rfl | rfl
  · exact ⟨0, rfl, .lit (by decide)⟩
  · exact ⟨M, rfl, hM⟩
theorem ix_pm {r : Int} (h0 : 0 ≤ r) (h1 : r < 2) : ∃ y : Int, pIx (.lst [.int 1, .int (-1)]) (.int r) = some (.int y) ∧ Sm 2 y := by
  have h : r = 0 ∨ r = 1 := by omega
  rcases h with rfl | rfl
  · exact ⟨1, rfl, .lit (by decide)⟩
  · exact ⟨-1, rfl, .lit (by decide)⟩
theorem q_greatR {p : D} {N way : Nat} {both : Bool} (hp : Pur N p) (hN : N ≤ 800000) (hw : way ≤ 5) : ∃ p', Pur (N + 10) p' ∧ F__law_great_right [p, .int way, .str (rel way), .bl both] = .ok (.bl true) p' := by
  obtain ⟨r1, p1, a1, a2, u1, d1⟩ := q_draw (n := 58) hp (by omega) (by decide) (.lit (by decide))
  obtain ⟨j, rfl⟩ := Int.eq_ofNat_of_zero_le a1
  obtain ⟨b, hb⟩ : ∃ b : Nat, b = j + 7 := ⟨_, rfl⟩
  have h7 : 7 ≤ b := by omega
  have h64 : b ≤ 64 := by omega
  have eb : (7 : Int) + (j : Int) = (b : Int) := by omega
  have sh := shl_one (b := b) (by omega)
  obtain ⟨r2, p2, b1, b2, u2, d2⟩ := q_draw (n := 1000000000) u1 (by omega) (by decide) (.lit (by decide))
  obtain ⟨r3, p3, c1, c2, u3, d3⟩ := q_draw (n := 5) u2 (by omega) (by decide) (.lit (by decide))
  obtain ⟨k, p4, u4, kb, d4⟩ := step_draw (b := b) u3 (by omega) h7 h64
  obtain ⟨r5, p5, e1, e2, u5, d5⟩ := q_draw (n := 2) u4 (by omega) (by decide) (.lit (by decide))
  have e9 : iPow (.int 10) (.int 9) = some (.int 1000000000) := rfl
  have pb := pow_pos2 b
  have ple := pow_le h64
  have sM : Sm 66 ((2 : Int) ^ b) := .of_lt (by omega) (by omega)
  have d9 : divOk 1000000000 = true := by decide
  have f9 : ((2 : Int) ^ b).fdiv 1000000000 = 2 ^ b / 1000000000 := fdiv_pos (by decide)
  have q9 : Sm 66 ((2 : Int) ^ b / 1000000000 + 1) := .of_lt (by omega) (by omega)
  have s2 : Sm 40 r2 := .of_lt b1 (by omega)
  have g1 := bits_ok s2 q9 (by decide)
  have shk := shl_one (b := k) (by omega)
  obtain ⟨x, hx⟩ : ∃ x : Int, x = r2 * (2 ^ b / 1000000000 + 1) + r3 - 2 := ⟨_, rfl⟩
  have hW : okW 64 (some b) := fun c hc => by
    cases hc
    omega
  -- what follows the step, for any step
  have rest : ∀ (s : Int) (q : D) (M' : Nat), Sm 1000 s → Pur M' q → M' ≤ N + 10 → ∃ u r n, F__law_asked [.int x, .int s, .str (rel way), .int b, .bl both] = .ok (.tup [.int (n : Nat), optD r]) .non ∧ u = () ∧ Told way (some b) both x s (some (n, r)) ∧
      G_passes_bits_signed [.int x, .int (x + n * s), .int s, .str (rel way)] [.int b, .bl both] = .ok (optD r) .non ∧ bitsOk n s = true ∧ r ≠ some n := by
    intro s q M' hs _ _
    obtain ⟨u, t1, t2⟩ := q_asked (both := both) (x := x) hw hW hs
    obtain ⟨n, r, rfl⟩ := told_some hw (by omega) h64 t1
    obtain ⟨w1, w2, w3, w4⟩ := t1
    obtain ⟨r', v1, v2⟩ := q_passes way hw (some b) hW x (x + s * (n : Int)) s both hs
    have er : r' = r := First.uniq v1 w2
    subst er
    have ec : (n : Int) * s = s * n := Int.mul_comm _ _
    refine ⟨(), r', n, t2, rfl, ⟨w1, w2, w3, w4⟩, ?_, bits_ok (nle h7 h64 w3).2 hs (by decide), fun e => w1.1 (e ▸ w2)⟩
    rw [ec]
    exact v2
  have hf : ((2 : Int) ^ b).fdiv 2 = 2 ^ (b - 1) := by
    have := pow_half (show 1 ≤ b by omega)
    rw [fdiv_pos (by decide)]
    omega
  have so : Sm 65 ((2 : Int) ^ (b - 1)) := .of_lt (by have := pow_pos2 (b - 1); omega) (by have := pow_le (show b - 1 ≤ 64 by omega); omega)
  have o1 : bitsOk (2 ^ (b - 1)) 1 = true := bits_ok (m := 1) so (.lit (by decide)) (by decide)
  have o0 : bitsOk (2 ^ (b - 1)) 0 = true := bits_ok (m := 1) so (.lit (by decide)) (by decide)
  have dd : divOk 2 = true := by decide
  have ls := q_lseen hW x both
  rw [seen_off (show 1 ≤ b by omega)] at ls
  have ls' : F__law_seen [.int x, .int b, .bl both] = .ok (.int ((x + off b both) % 2 ^ b - off b both)) .non := ls
  by_cases c : r5 = 0
  · subst c
    obtain ⟨r6, p6, f1, f2, u6, d6⟩ := q_draw (n := 2) u5 (by omega) (by decide) (.lit (by decide))
    obtain ⟨r7, p7, g1', g2', u7, d7⟩ := q_draw (n := 1000000000) u6 (by omega) (by decide) (.lit (by decide))
    obtain ⟨r8, p8, i1, i2, u8, d8⟩ := q_draw (n := 2) u7 (by omega) (by decide) (.lit (by decide))
    obtain ⟨y, y1, y2⟩ := ix_0m (M := 2 ^ b) f1 f2 sM
    obtain ⟨z, z1, z2⟩ := ix_pm i1 i2
    have s7 : Sm 40 r7 := .of_lt g1' (by omega)
    have g2'' := bits_ok s7 z2 (by decide)
    obtain ⟨s, hs⟩ : ∃ s : Int, s = y + r7 * z := ⟨_, rfl⟩
    have sS : Sm 1000 s := by
      rw [hs]
      exact (Sm.add y2 ((s7.mul z2).mono (by decide))).mono (by decide)
    obtain ⟨_, r, n, k1, _, k2, k3, k4, k5⟩ := rest s p8 (N + 8) sS (u8.mono (by omega)) (by omega)
    obtain ⟨a12, a13, a15, ht⟩ := tail_all (p := p8) (e := x + n * s) hw h7 h64 sS k2
    have lw := q_lword s b (by omega)
    refine ⟨p8, u8.mono (by omega), ?_⟩
    rw [F__law_great_right, great_eq]
    cases both <;> simp [tailR, off] at ht ls' <;> simp [d1, eb, sh, e9, d2, d9, f9, g1, d3, ← hx, d4, shk, d5, d6, d7, d8, y1, z1, g2'', ← hs, k1, k4, k3, pNe_self, pEq_opt k5, ls', lw, dd, hf, o1, o0, ht]
  · have sS : Sm 1000 ((2 : Int) ^ k) := (Sm.of_lt (n := 65) (by have := pow_pos2 k; omega) (by have := pow_le (show k ≤ 64 by omega); omega)).mono (by decide)
    obtain ⟨_, r, n, k1, _, k2, k3, k4, k5⟩ := rest (2 ^ k) p5 (N + 5) sS (u5.mono (by omega)) (by omega)
    obtain ⟨a12, a13, a15, ht⟩ := tail_all (p := p5) (e := x + n * 2 ^ k) hw h7 h64 sS k2
    have lw := q_lword (2 ^ k) b (by omega)
    refine ⟨p5, u5.mono (by omega), ?_⟩
    rw [F__law_great_right, great_eq]
    cases both <;> simp [tailR, off] at ht ls' <;> simp [d1, eb, sh, e9, d2, d9, f9, g1, d3, ← hx, d4, shk, d5, c, k1, k4, k3, pNe_self, pEq_opt k5, ls', lw, dd, hf, o1, o0, ht]
end DL
set_option Elab.async false
set_option linter.all false
set_option maxRecDepth 100000
set_option exponentiation.threshold 10000
namespace DL
open PySem PySem.Spec PyProof.Rows L2 PM
theorem told_le {way : Nat} (hw : way ≤ 5) {w : Option Nat} {both : Bool} {x s : Int} {n : Nat} {r : Option Nat} (hu : Told way w both x s (some (n, r))) {t : Nat} (ht : r = some t) : t ≤ n + 1 ∨ (∃ b, w = some b ∧ 1 ≤ b → t < 2 ^ b) := by
  obtain ⟨u1, u2, u3, u4⟩ := hu
  subst ht
  have hh : (way = 0 ∨ way = 2 ∨ way = 4) ∨ (way = 1 ∨ way = 3 ∨ way = 5) := by omega
  rcases hh with hh | hh
  · left
    by_cases c : t ≤ n
    · omega
    · exfalso
      refine u2.2 n (by omega) ?_
      rcases hh with rfl | rfl | rfl <;> simp [St, Stop, goes]
  · cases w with
    | none =>
      left
      have e := u4 hh
      subst e
      have := first_int (m := 0) hw (by simp) (by simp) (show First (Stop way none both x (x + s * ((0 : Nat) : Int)) s) (some t) from u2)
      omega
    | some b => exact .inr ⟨b, fun h => first_word h.2 u2⟩
theorem told_lt {way : Nat} (hw : way ≤ 5) {w : Option Nat} (h : okW 6 w) {both : Bool} {x s : Int} {n : Nat} {r : Option Nat} (hu : Told way w both x s (some (n, r))) {t : Nat} (ht : r = some t) : t ≤ most n w + 1 ∧ t ≤ 64 := by
  have h3 := hu.2.2.1
  subst ht
  cases w with
  | none =>
    rcases told_le hw hu rfl with h1 | ⟨b, h1⟩
    · have : n ≤ 1 := h3
      exact ⟨by show t ≤ 3 * n + 3 + 1; omega, by omega⟩
    · have h5 := hu.2.1
      have hh : (way = 0 ∨ way = 2 ∨ way = 4) ∨ (way = 1 ∨ way = 3 ∨ way = 5) := by omega
      have : n ≤ 1 := h3
      rcases hh with hh | hh
      · have : t ≤ n := by
          by_cases c : t ≤ n
          · exact c
          · exfalso
            refine h5.2 n (by omega) ?_
            rcases hh with rfl | rfl | rfl <;> simp [St, Stop, goes]
        exact ⟨by show t ≤ 3 * n + 3 + 1; omega, by omega⟩
      · have e := hu.2.2.2 hh
        subst e
        have := first_int (m := 0) hw (by simp) (by simp) (show First (Stop way none both x (x + s * ((0 : Nat) : Int)) s) (some t) from h5)
        exact ⟨by show t ≤ 3 * 0 + 3 + 1; omega, by omega⟩
  | some b =>
    have h5 : First (Stop way (some b) both x (x + s * (n : Int)) s) (some t) := hu.2.1
    have l := first_word (h b rfl).1 h5
    have l2 : (2 : Nat) ^ b ≤ 2 ^ 6 := Nat.pow_le_pow_right (by decide) (h b rfl).2
    exact ⟨by show t ≤ 2 ^ b + 1; omega, by omega⟩
theorem str_t1 : ∀ n : Fin 65, strOk (D.tup [.int (n.val : Int), .non]).py = true := by decide +kernel
theorem str_t2 : ∀ n : Fin 65, ∀ t : Fin 65, strOk (D.tup [.int (n.val : Int), .int (t.val : Int)]).py = true := by decide +kernel
theorem str_clo {u : Option (Nat × Option Nat)} (h : ∀ n r, u = some (n, r) → n ≤ 64 ∧ ∀ t, r = some t → t ≤ 64) : ∃ S, fStr [cloD u] = some (.str S) := by
  match u with
  | none => exact ⟨_, rfl⟩
  | some (n, none) =>
    obtain ⟨h1, _⟩ := h n none rfl
    exact ⟨_, if_pos (str_t1 ⟨n, by omega⟩)⟩
  | some (n, some t) =>
    obtain ⟨h1, h2⟩ := h n (some t) rfl
    have := h2 t rfl
    exact ⟨_, if_pos (str_t2 ⟨n, by omega⟩ ⟨t, by omega⟩)⟩
theorem rel_ix {n : Nat} (h : n ≤ 5) : pIx (.lst [.str "<", .str "<=", .str ">", .str ">=", .str "!=", .str "=="]) (.int n) = some (.str (rel n)) := by
  match n, h with
  | 0, _ => rfl
  | 1, _ => rfl
  | 2, _ => rfl
  | 3, _ => rfl
  | 4, _ => rfl
  | 5, _ => rfl
theorem q_right {p : D} {N : Nat} (hp : Pur N p) (hN : N ≤ 700000) : ∃ p', Pur (N + 20) p' ∧ F__law_right [p] = .ok (.bl true) p' := by
  obtain ⟨r1, p1, a1, a2, u1, d1⟩ := q_draw (n := 6) hp (by omega) (by decide) (.lit (by decide))
  obtain ⟨way, rfl⟩ := Int.eq_ofNat_of_zero_le a1
  have hw : way ≤ 5 := by omega
  have rx := rel_ix hw
  obtain ⟨r2, p2, b1, b2, u2, d2⟩ := q_draw (n := 2) u1 (by omega) (by decide) (.lit (by decide))
  obtain ⟨both, hboth⟩ : ∃ both : Bool, decide (r2 = 1) = both := ⟨_, rfl⟩
  obtain ⟨r3, p3, c1, c2, u3, d3⟩ := q_draw (n := 6) u2 (by omega) (by decide) (.lit (by decide))
  obtain ⟨r3', p3', c1', c2', u3', d3'⟩ := q_draw (n := 4) u3 (by omega) (by decide) (.lit (by decide))
  obtain ⟨r4, p4, e1, e2, u4, d4⟩ := q_draw (n := 3) u3' (by omega) (by decide) (.lit (by decide))
  obtain ⟨w, hw1, hw2⟩ : ∃ w : Option Nat, pIx (.lst [.non, .int (1 + r3), .int (1 + r3')]) (.int r4) = some (wD w) ∧ okW 6 w := by
    have h : r4 = 0 ∨ r4 = 1 ∨ r4 = 2 := by omega
    rcases h with rfl | rfl | rfl
    · exact ⟨none, rfl, fun b hb => by cases hb⟩
    · obtain ⟨n, rfl⟩ := Int.eq_ofNat_of_zero_le c1
      refine ⟨some (n + 1), ?_, fun b hb => by cases hb; omega⟩
      show some (D.int (1 + (n : Int))) = some (D.int ((n + 1 : Nat) : Int))
      have : (1 + (n : Int)) = ((n + 1 : Nat) : Int) := by omega
      rw [this]
    · obtain ⟨n, rfl⟩ := Int.eq_ofNat_of_zero_le c1'
      refine ⟨some (n + 1), ?_, fun b hb => by cases hb; omega⟩
      show some (D.int (1 + (n : Int))) = some (D.int ((n + 1 : Nat) : Int))
      have : (1 + (n : Int)) = ((n + 1 : Nat) : Int) := by omega
      rw [this]
  have hw64 : okW 64 w := fun b hb => ⟨(hw2 b hb).1, by have := (hw2 b hb).2; omega⟩
  obtain ⟨r5, p5, f1, f2, u5, d5⟩ := q_draw (n := 99) u4 (by omega) (by decide) (.lit (by decide))
  obtain ⟨r6, p6, g1, g2, u6, d6⟩ := q_draw (n := 25) u5 (by omega) (by decide) (.lit (by decide))
  have sS : Sm 1000 (r6 - 12) := (Sm.of_abs (n := 10) (by omega) (by omega)).mono (by decide)
  obtain ⟨u, t1, t2⟩ := q_asked (x := r5 - 49) (both := both) hw hw64 sS
  have t3 := q_due hw hw2 sS t1 fun n r hu t ht => (told_lt hw hw2 (hu ▸ t1) ht).1
  obtain ⟨S, hS⟩ := str_clo (u := u) fun n r hu => by
    have hm : mostN w ≤ 64 := by
      cases w with
      | none => show 1 ≤ 64; omega
      | some b => exact Nat.pow_le_pow_right (by decide) (hw2 b rfl).2
    have t1' : Told way w both (r5 - 49) (r6 - 12) (some (n, r)) := hu ▸ t1
    exact ⟨by have := t1'.2.2.1; omega, fun t ht => (told_lt hw hw2 t1' ht).2⟩
  obtain ⟨p7, u7, d7⟩ := q_greatR (both := both) u6 (by omega) hw
  refine ⟨p7, u7.mono (by omega), ?_⟩
  simp [F__law_right, m__law_right, d1, rx, d2, hboth, d3, d3', d4, hw1, d5, d6, t2, t3, hS, d7]
end DL
set_option Elab.async false
set_option linter.all false
set_option maxRecDepth 100000
namespace DL
open PySem PySem.Spec PyProof.Rows L2 PM
abbrev inB : M Fw := (mIf (mNot (mB (mCallW F__law_right 1 2 (M.ret [])))) (mRet (mC (.bl false))) nxt)
theorem in_loop (a b c : Option (Fl × D)) : ∀ (k : Nat) (lo : Int) (N : Nat) (p : D) (o : Option (Fl × D)), Pur N p → N + 20 * k ≤ 700000 → ∃ p' o', Pur (N + 20 * k) p' ∧ forM (setSh 3) inB (intsFrom lo k) [a, b, some (.ow, p), o, c] = .ok .nx [a, b, some (.ow, p'), o', c] := by
  intro k
  induction k with
  | zero =>
    intro lo N p o hp _
    exact ⟨p, o, hp, rfl⟩
  | succ k ih =>
    intro lo N p o hp hN
    obtain ⟨p1, u1, d1⟩ := q_right hp (by omega)
    obtain ⟨p2, o2, u2, d2⟩ := ih (lo + 1) (N + 20) p1 (some (.sh, .int lo)) u1 (by omega)
    refine ⟨p2, o2, u2.mono (by omega), ?_⟩
    rw [← d2]
    refine for_cons (ρ1 := [a, b, some (.ow, p), some (.sh, .int lo), c]) (by simp) ?_
    simp [d1]
abbrev outB : M Fw := (mSeq (mOwn (mCallF F__law_purse 2 (mCons (mVar 0) (mCons (mVar 1) (M.ret [])))) 2) (mSeq (mFor (mMap rng1 (mCons (mC (.int 4)) (M.ret []))) (setSh 3) inB) (mIf (mNot (mB (mCallW F__law_refused_right 1 2 (M.ret [])))) (mRet (mC (.bl false))) nxt)))
theorem out_body (ns : List Int) (i : Nat) (hi : i ≤ 100) (o2 o3 c : Option (Fl × D)) : ∃ a2 a3, outB [some (.sh, .scr ns), some (.sh, .int i), o2, o3, c] = .ok .nx [some (.sh, .scr ns), some (.sh, .int i), a2, a3, c] := by
  obtain ⟨xs, u1, d1⟩ := q_purse ns i hi
  obtain ⟨p2, a3, u2, d2⟩ := in_loop (some (.sh, .scr ns)) (some (.sh, .int i)) c 4 0 (1000 * i) (.lst xs) o3 u1 (by omega)
  obtain ⟨p3, u3, d3⟩ := q_refused u2 (by omega)
  have rg : rng1 [.int 4] = some (intsFrom 0 4) := rng_ok (n := 4) (by decide)
  refine ⟨some (.ow, p3), a3, ?_⟩
  generalize intsFrom 0 4 = L at rg d2
  simp at d2
  simp [d1, rg, d2, d3]
theorem out_loop (ns : List Int) (c : Option (Fl × D)) : ∀ (k i : Nat) (o1 o2 o3 : Option (Fl × D)), i + k ≤ 100 → ∃ a1 a2 a3, forM (setSh 1) outB (intsFrom i k) [some (.sh, .scr ns), o1, o2, o3, c] = .ok .nx [some (.sh, .scr ns), a1, a2, a3, c] := by
  intro k
  induction k with
  | zero =>
    intro i o1 o2 o3 _
    exact ⟨o1, o2, o3, rfl⟩
  | succ k ih =>
    intro i o1 o2 o3 hi
    obtain ⟨b2, b3, hb⟩ := out_body ns i (by omega) o2 o3 c
    obtain ⟨a1, a2, a3, ha⟩ := ih (i + 1) (some (.sh, .int i)) b2 b3 (by omega)
    refine ⟨a1, a2, a3, ?_⟩
    rw [← ha]
    exact for_cons (ρ1 := [some (.sh, .scr ns), some (.sh, .int i), o2, o3, c]) (by simp) hb
theorem clo_is {way : Nat} (hw : way ≤ 5) {w : Option Nat} (h : okW 64 w) {x s : Int} {both : Bool} (hs : Sm 1000 s) {u : Option (Nat × Option Nat)} (g : ∀ v, Told way w both x s v → v = u) : F_counter_left_out [.int x, .int s, .str (rel way), wD w, .bl both] = .ok (cloD u) .non := by
  obtain ⟨v, v1, v2⟩ := q_clo hw h x s both hs
  rw [v2, g v v1]
theorem told_eq {way : Nat} {w : Option Nat} {both : Bool} {x s : Int} {n : Nat} {r : Option Nat} (h : First (Wr (St way w both x s)) (some n)) (g : First (St way w both x s n) r) : ∀ v, Told way w both x s v → v = some (n, r) := by
  intro v hv
  match v, hv with
  | none, hv =>
    have hv' : First (Wr (St way w both x s)) none := hv
    cases hv'.uniq h
  | some (m, q), hv =>
    have e := hv.1.uniq h
    cases e
    rw [hv.2.1.uniq g]
theorem p_1 : F_counter_left_out [.int 0, .int 3, .str "<", .non, .bl false] = .ok .non .non := by
  refine clo_is (way := 0) (w := none) (u := none) (by decide) (fun b hb => by cases hb) (.lit (by decide)) fun v hv => ?_
  have h : First (Wr (St 0 none false 0 3)) none := wrong_none (fun n => by simp [St, Stop, goes]) (fun n t l => by simp [St, Stop, goes, sees]; omega)
  match v, hv with
  | none, _ => rfl
  | some (m, q), hv => cases hv.1.uniq h
theorem p_2 : F_counter_left_out [.int 0, .int 0, .str "!=", .non, .bl false] = .ok (.tup [.int 1, .int 0]) .non :=
  clo_is (way := 4) (w := none) (u := some (1, some 0)) (by decide) (fun b hb => by cases hb) (.lit (by decide)) (told_eq (wrong_one (by simp [St, Stop, goes]) (by simp [St, Stop, goes, sees])) (first_self (by simp [St, Stop, goes, sees])))
theorem okc {c : Nat} (h : 1 ≤ c ∧ c ≤ 64) : okW 64 (some c) := fun b hb => by
  cases hb
  exact h
theorem p_3 : F_counter_left_out [.int 0, .int 4, .str "!=", .int 4, .bl false] = .ok (.tup [.int 4, .int 0]) .non := by
  refine clo_is (way := 4) (w := some 4) (u := some (4, some 0)) (by decide) (okc (by decide)) (.lit (by decide)) (told_eq ⟨fun f => f.2 0 (by omega) ?_, fun n l q => q ⟨?_, fun t lt => ?_⟩⟩ (first_self ?_))
  · simp [St, Stop, goes, sees]
  · simp [St, Stop, goes]
  · simp [St, Stop, goes, sees]
    omega
  · simp [St, Stop, goes, sees]
theorem p_4 : F_counter_left_out [.int 250, .int 3, .str "<", .int 8, .bl false] = .ok (.tup [.int 2, .int 0]) .non := by
  refine clo_is (way := 0) (w := some 8) (u := some (2, some 0)) (by decide) (okc (by decide)) (.lit (by decide)) (told_eq ⟨fun f => f.2 0 (by omega) ?_, fun n l q => q ⟨?_, fun t lt => ?_⟩⟩ (first_self ?_))
  · simp [St, Stop, goes, sees]
  · simp [St, Stop, goes]
  · have e : n = 1 := by omega
    have f : t = 0 := by omega
    subst e
    subst f
    simp [St, Stop, goes, sees]
  · simp [St, Stop, goes, sees]
theorem law_true : ∀ ns : List Int, ns.length ≤ 63 → ∃ o, F_law [.scr ns] = .ok (.bl true) o := by
  intro ns hn
  have fl : fLen [.scr ns] = some (.int ns.length) := rfl
  obtain ⟨m, hm, hm2⟩ : ∃ m : Nat, fMin [.int 6, .int ns.length] = some (.int m) ∧ m ≤ 6 := by
    by_cases c : (ns.length : Int) < 6
    · refine ⟨ns.length, ?_, by omega⟩
      show some (D.int (if (ns.length : Int) < 6 then (ns.length : Int) else 6)) = _
      rw [if_pos c]
    · refine ⟨6, ?_, by omega⟩
      show some (D.int (if (ns.length : Int) < 6 then (ns.length : Int) else 6)) = _
      rw [if_neg c]
      rfl
  have rg : rng1 [.int (1 + (m : Int))] = some (intsFrom 0 (m + 1)) := by
    have e : 1 + (m : Int) = ((m + 1 : Nat) : Int) := by omega
    rw [e]
    exact rng_ok (by omega)
  obtain ⟨a1, a2, a3, ha⟩ := out_loop ns none (m + 1) 0 none none none (by omega)
  have ha' : forM (setSh 1) outB (intsFrom 0 (m + 1)) [some (.sh, .scr ns), none, none, none, none] = .ok .nx [some (.sh, .scr ns), a1, a2, a3, none] := ha
  obtain ⟨G, hG⟩ : ∃ G, G = forM (setSh 1) outB := ⟨_, rfl⟩
  rw [← hG] at ha'
  have g1 : G_counter_left_out [.int 0, .int 3, .str "<"] [] = .ok .non .non := p_1
  have g2 : G_counter_left_out [.int 0, .int 0, .str "!="] [] = .ok (.tup [.int 1, .int 0]) .non := p_2
  have g3 : G_counter_left_out_bits [.int 0, .int 4, .str "!="] [.int 4] = .ok (.tup [.int 4, .int 0]) .non := p_3
  have g4 : G_counter_left_out_bits [.int 250, .int 3, .str "<"] [.int 8] = .ok (.tup [.int 2, .int 0]) .non := p_4
  have eq : pEq (.lst [.non, .tup [.int 1, .int 0], .tup [.int 4, .int 0]]) (.lst [.non, .tup [.int 1, .int 0], .tup [.int 4, .int 0]]) = some (.bl true) := rfl
  have eq2 : pEq (.tup [.int 2, .int 0]) (.tup [.int 2, .int 0]) = some (.bl true) := rfl
  have unf : F_law [.scr ns] = bodyF 5 false m_law [.scr ns] := rfl
  have eL : ∀ (m : M (List D)), mFor m (setSh 1) outB = M.bnd m fun ds => G ds := fun m => by
    rw [hG]
    rfl
  refine ⟨.non, ?_⟩
  rw [unf]
  simp only [m_law, eL]
  simp [fl, hm, rg, ha', g1, g2, g3, g4, eq, eq2]
end DL
set_option Elab.async false
set_option linter.all false
set_option maxRecDepth 100000
set_option maxHeartbeats 0
open PySem PySem.W PySem.Calls PyProof.Rows
theorem PySem.Challenge.cw_tickregisters_k61_loops_without_counters_holds : PySem.Challenge.rw_tickregisters_k61_loops_without_counters.Holds := by
  w_on; o_law
  refine HandSHeadRun.head_any (r := OpenLaw.row PySem.Challenge.rw_tickregisters_k61_loops_without_counters) (q := view (OpenLaw.row PySem.Challenge.rw_tickregisters_k61_loops_without_counters).prog [40]) (H := DL.hk) (ob := DL.ob) (M := 4000) (loose := DL.loose) (d := HandSHeadRun.topDef (OpenLaw.row PySem.Challenge.rw_tickregisters_k61_loops_without_counters).prog 40) (kwd := []) DL.ob_eq
    (by kernel_rfl) (fun s => by kernel_rfl) DL.run (by kernel_rfl) (by kernel_rfl) (by kernel_rfl) (by rfl) (by first | assumption | decide +kernel) (by decide +kernel) ⟨rfl, rfl, rfl, rfl, rfl, by decide +kernel⟩ ?hw ?hc
  case hw => w_witness2
  case hc =>
    refine DL.walk_data (l := PySem.Challenge.rw_tickregisters_k61_loops_without_counters) (n := 63) (k := 158) (x := "_law_script") (F := DL.F_law) rfl (by decide) (by kernel_rfl) ⟨rfl, by decide, by decide⟩ DL.law_true ?_
    intro w mg fa h Y G hmg0
    obtain ⟨K, KX, c⟩ := Y
    have hmg : mg ("law" : PySem.Str) = some (.ref fa) := by
      have e : (HandSHeadRun.topDef (OpenLaw.row PySem.Challenge.rw_tickregisters_k61_loops_without_counters).prog 40).name = ("law" : PySem.Str) := by kernel_rfl
      rw [← e]
      exact hmg0
    obtain ⟨fd, hb, hF⟩ := DL.facts (P := (PySem.Challenge.rw_tickregisters_k61_loops_without_counters).prog) (w := w) KX G hmg c
    exact ⟨K, fd, KX, hb, hF⟩
