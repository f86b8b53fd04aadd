import PyProof.Rows.All
import Wide.All
import OpenK.AllK
import Wide.FinOn
import KE.KStateDown
import HandS.ForMost
import HandS.ForExc
import HandS.Defaults
import HandS.CallSlots
import HandS.ExcInit
import HandS.Wide
import HandS.TupAny
import KE.DataEq
import HandS.Flow
import HandS.IsInst
import HandS.TupLen
import HandS.Rev
import HandS.RevRange
import HandS.Zip
import HandS.Small
import HandS.More
import HandS.Head0
import HandS.Head1
import HandS.Head2
import HandS.HeadEnd
import HandS.HeadHook1
import HandS.HeadHook2
import PySem.Challenge.RW_stowhold_k06_near
set_option Elab.async false
set_option linter.all false
set_option maxRecDepth 100000
set_option maxHeartbeats 4000000
namespace SH
open PySem PySem.Spec PyProof.Rows L2

inductive D where
  | non | bl (b : Bool) | int (i : Int) | str (x : Str)
  | tup (xs : List D) | lst (xs : List D) | scr (ns : List Int)
  | dK (ks : List Key) (vs : List D) | dT (ks : List (List Key)) (vs : List D)
  | ins (c : Nat) (vs : List D) | exc (c : Nat) (vs : List D)
  | ref (n : Nat)

inductive SV where
  | val (d : D) | own (d : D) | obs (d : D)

inductive R (α : Type) where
  | ok (a : α) (h : List D)
  | exc (c : Nat) (vs : List D) (h : List D)
  | bad

def R.bind {α β : Type} (r : R α) (k : α → List D → R β) : R β := match r with
  | .ok a h => k a h
  | .exc c vs h => .exc c vs h
  | .bad => .bad
@[simp] theorem R.bind_ok {α β : Type} (a : α) (h : List D) (k : α → List D → R β) : (R.ok a h).bind k = k a h := rfl
@[simp] theorem R.bind_exc {α β : Type} (c : Nat) (vs h : List D) (k : α → List D → R β) : (R.exc c vs h : R α).bind k = .exc c vs h := rfl
@[simp] theorem R.bind_bad {α β : Type} (k : α → List D → R β) : (R.bad : R α).bind k = .bad := rfl

/-- what stands of the code: the written part, the classes' addresses, their fields' names -/
structure Cd where
  K : PySem.W.Frag
  cad : Nat → Addr
  cf : Nat → List Str

/-- what is known of the heap: where the shared objects lie, how many there are, what never changes again -/
structure Wd where
  rho : Nat → Addr
  n : Nat
  F : Addr → Prop

def KL (K : PySem.W.Frag) (a : Addr) (xs : List V) : Prop :=
  ∃ (o : Obj) (its : Array Value) (n : Nat), K.lookup a = some o ∧ o.cls = .type "list" ∧ o.dict = none ∧ o.data = .seq its n ∧ its.size ≤ sizeLine ∧ Vals xs its.toList

mutual
inductive VR (C : Cd) (W : Wd) (H : Hp) : D → V → Prop
  | non : VR C W H .non .non
  | bl (b : Bool) : VR C W H (.bl b) (.bl b)
  | int (i : Int) : VR C W H (.int i) (.int i)
  | str (x : Str) : VR C W H (.str x) (.str x)
  | tup {xs : List D} {vs : List V} {a : Addr} : H a = some (.tup vs) → VRs C W H xs vs → VR C W H (.tup xs) (.ref a)
  | lst {xs : List D} {vs : List V} {a : Addr} : W.F a → H a = some (.lst vs) → VRs C W H xs vs → VR C W H (.lst xs) (.ref a)
  | scrF {ns : List Int} {a : Addr} {o : Obj} : H a = some (.frz o (.lst (ns.map V.int))) → VR C W H (.scr ns) (.ref a)
  | scrK {ns : List Int} {a : Addr} : KL C.K a (ns.map V.int) → VR C W H (.scr ns) (.ref a)
  | dK {kvs : List (Key × V)} {ds : List D} {a : Addr} : W.F a → H a = some (.dK kvs) → VRs C W H ds (kvs.map (·.2)) → VR C W H (.dK (kvs.map (·.1)) ds) (.ref a)
  | dT {kvs : List (List Key × V)} {ds : List D} {a : Addr} : W.F a → H a = some (.dT kvs) → VRs C W H ds (kvs.map (·.2)) → VR C W H (.dT (kvs.map (·.1)) ds) (.ref a)
  | dKz {kvs : List (Key × V)} {ds : List D} {a : Addr} {o : Obj} : H a = some (.frz o (.dK kvs)) → VRs C W H ds (kvs.map (·.2)) → VR C W H (.dK (kvs.map (·.1)) ds) (.ref a)
  | ins {c : Nat} {fs : List (Str × V)} {ds : List D} {a dx : Addr} : W.F a → H a = some (.ins (C.cad c) dx fs) → fs.map (·.1) = (C.cf c).take ds.length → VRs C W H ds (fs.map (·.2)) → VR C W H (.ins c ds) (.ref a)
  | exc0 {c : Nat} {a : Addr} : W.F a → H a = some (exo a (C.cad c) none) → VR C W H (.exc c []) (.ref a)
  | exc1 {c : Nat} {fs : List (Str × V)} {ds : List D} {a dx : Addr} : W.F a → W.F dx → H a = some (exo a (C.cad c) (some dx)) → H dx = some (exd dx fs) → fs.map (·.1) = (C.cf c).take ds.length → VRs C W H ds (fs.map (·.2)) → VR C W H (.exc c ds) (.ref a)
  | ref {i : Nat} : i < W.n → VR C W H (.ref i) (.ref (W.rho i))
inductive VRs (C : Cd) (W : Wd) (H : Hp) : List D → List V → Prop
  | nil : VRs C W H [] []
  | cons {d : D} {v : V} {ds : List D} {vs : List V} : VR C W H d v → VRs C W H ds vs → VRs C W H (d :: ds) (v :: vs)
end

/-- what a step leaves: P is what it may not touch -/
structure Ext (P : Addr → Prop) (W : Wd) (H : Hp) (W' : Wd) (H' : Hp) : Prop where
  n : W.n ≤ W'.n
  rho : ∀ i, i < W.n → W'.rho i = W.rho i
  new : ∀ i, W.n ≤ i → i < W'.n → ¬ P (W'.rho i)
  keep : ∀ a, P a → H' a = H a
  fz : ∀ a, W.F a → W'.F a
  nofz : ∀ a, P a → W'.F a → W.F a
  tup : ∀ a xs, H a = some (.tup xs) → H' a = some (.tup xs)
  frz : ∀ a o u, H a = some (.frz o u) → H' a = some (.frz o u)

theorem Ext.refl {P : Addr → Prop} {W : Wd} {H : Hp} : Ext P W H W H :=
  ⟨Nat.le_refl _, fun _ _ => rfl, fun i h1 h2 => absurd h2 (Nat.not_lt.mpr h1), fun _ _ => rfl, fun _ h => h, fun _ _ h => h, fun _ _ h => h, fun _ _ _ h => h⟩
theorem Ext.trans {P P1 : Addr → Prop} {W W1 W2 : Wd} {H H1 H2 : Hp} (hp : ∀ a, P a → P1 a) (a : Ext P W H W1 H1) (b : Ext P1 W1 H1 W2 H2) : Ext P W H W2 H2 := by
  refine ⟨Nat.le_trans a.n b.n, fun i h => (b.rho i (Nat.lt_of_lt_of_le h a.n)).trans (a.rho i h), fun i h1 h2 => ?_, fun x h => (b.keep x (hp x h)).trans (a.keep x h), fun x h => b.fz x (a.fz x h),
    fun x h1 h2 => a.nofz x h1 (b.nofz x (hp x h1) h2), fun x xs h => b.tup x xs (a.tup x xs h), fun x o u h => b.frz x o u (a.frz x o u h)⟩
  by_cases h : i < W1.n
  · rw [b.rho i h]
    exact a.new i h1 h
  · exact fun q => b.new i (Nat.le_of_not_lt h) h2 (hp _ q)
theorem Ext.weak {P P1 : Addr → Prop} {W W1 : Wd} {H H1 : Hp} (hp : ∀ a, P a → P1 a) (a : Ext P1 W H W1 H1) : Ext P W H W1 H1 :=
  Ext.trans hp Ext.refl a

theorem SqT.ext {K : PySem.W.Frag} {H H' : Hp} {a : Addr} {vs : List V} (ht : ∀ a xs, H a = some (.tup xs) → H' a = some (.tup xs)) (hf : ∀ a o u, H a = some (.frz o u) → H' a = some (.frz o u)) (h : SqT K H a vs) : SqT K H' a vs := by
  rcases h with (h | ⟨o, h⟩) | h
  · exact .inl (.inl (ht _ _ h))
  · exact .inl (.inr ⟨o, hf _ _ _ h⟩)
  · exact .inr h

section
variable {C : Cd} {P : Addr → Prop} {W W' : Wd} {H H' : Hp}
theorem VR.ext_both (hF : ∀ a, W.F a → P a) (e : Ext P W H W' H') : (∀ d v, VR C W H d v → VR C W' H' d v) ∧ (∀ ds vs, VRs C W H ds vs → VRs C W' H' ds vs) := by
  have kp : ∀ a, W.F a → H' a = H a := fun a h => e.keep a (hF a h)
  have key : ∀ d v, VR C W H d v → VR C W' H' d v := fun d v h =>
    VR.rec (motive_1 := fun d v _ => VR C W' H' d v) (motive_2 := fun ds vs _ => VRs C W' H' ds vs)
      .non .bl .int .str (fun s _ ih => .tup (e.tup _ _ s) ih) (fun f s _ ih => .lst (e.fz _ f) ((kp _ f).trans s) ih) (fun s => .scrF (e.frz _ _ _ s)) (fun s => .scrK s)
      (fun f s _ ih => .dK (e.fz _ f) ((kp _ f).trans s) ih) (fun f s _ ih => .dT (e.fz _ f) ((kp _ f).trans s) ih) (fun s _ ih => .dKz (e.frz _ _ _ s) ih) (fun f s q _ ih => .ins (e.fz _ f) ((kp _ f).trans s) q ih) (fun f s => .exc0 (e.fz _ f) ((kp _ f).trans s))
      (fun f g s t q _ ih => .exc1 (e.fz _ f) (e.fz _ g) ((kp _ f).trans s) ((kp _ g).trans t) q ih) (fun {i} h => by rw [← e.rho i h]; exact .ref (Nat.lt_of_lt_of_le h e.n)) .nil (fun _ _ a b => .cons a b) h
  refine ⟨key, fun ds => ?_⟩
  induction ds with
  | nil =>
    intro vs h
    cases h
    exact .nil
  | cons d ds ih =>
    intro vs h
    cases h with
    | cons a b => exact .cons (key _ _ a) (ih _ b)
theorem VR.ext {d : D} {v : V} (h : VR C W H d v) (hF : ∀ a, W.F a → P a) (e : Ext P W H W' H') : VR C W' H' d v := (VR.ext_both hF e).1 d v h
theorem VRs.ext {ds : List D} {vs : List V} (h : VRs C W H ds vs) (hF : ∀ a, W.F a → P a) (e : Ext P W H W' H') : VRs C W' H' ds vs := (VR.ext_both hF e).2 ds vs h
theorem VRs.length {ds : List D} {vs : List V} : VRs C W H ds vs → ds.length = vs.length := by
  induction ds generalizing vs with
  | nil => intro h; cases h; rfl
  | cons d ds ih => intro h; cases h with | cons a b => simp [ih b]
theorem VRs.get {ds : List D} {vs : List V} {i : Nat} {d : D} : VRs C W H ds vs → ds[i]? = some d → ∃ v, vs[i]? = some v ∧ VR C W H d v := by
  induction ds generalizing vs i with
  | nil => intro h e; simp at e
  | cons d ds ih =>
    intro h e
    cases h with
    | cons a b =>
      cases i with
      | zero => simp at e; subst e; exact ⟨_, rfl, a⟩
      | succ i => simp at e; obtain ⟨v, h1, h2⟩ := ih b e; exact ⟨v, by simpa using h1, h2⟩
theorem VRs.append {ds es : List D} {vs us : List V} : VRs C W H ds vs → VRs C W H es us → VRs C W H (ds ++ es) (vs ++ us) := by
  induction ds generalizing vs with
  | nil => intro h1 h2; cases h1; exact h2
  | cons d ds ih => intro h1 h2; cases h1 with | cons a b => exact .cons a (ih b h2)
theorem VRs.take {ds : List D} {vs : List V} (n : Nat) : VRs C W H ds vs → VRs C W H (ds.take n) (vs.take n) := by
  induction ds generalizing vs n with
  | nil => intro h; cases h; simp; exact .nil
  | cons d ds ih =>
    intro h
    cases h with
    | cons a b =>
      cases n with
      | zero => exact .nil
      | succ n => exact .cons a (ih n b)
theorem VRs.drop {ds : List D} {vs : List V} (n : Nat) : VRs C W H ds vs → VRs C W H (ds.drop n) (vs.drop n) := by
  induction ds generalizing vs n with
  | nil => intro h; cases h; simp; exact .nil
  | cons d ds ih =>
    intro h
    cases h with
    | cons a b =>
      cases n with
      | zero => exact .cons a b
      | succ n => exact ih n b
theorem VRs.set {ds : List D} {vs : List V} {d : D} {v : V} (i : Nat) (r : VR C W H d v) : VRs C W H ds vs → VRs C W H (ds.set i d) (vs.set i v) := by
  induction ds generalizing vs i with
  | nil => intro h; cases h; exact .nil
  | cons e ds ih =>
    intro h
    cases h with
    | cons a b =>
      cases i with
      | zero => exact .cons r b
      | succ i => exact .cons a (ih i b)
end

/-- what stands at an address that may be changed -/
inductive CR (C : Cd) (W : Wd) (H : Hp) : D → Addr → Prop
  | lst {xs : List D} {vs : List V} {a : Addr} : H a = some (.lst vs) → VRs C W H xs vs → CR C W H (.lst xs) a
  | dK {kvs : List (Key × V)} {ds : List D} {a : Addr} : H a = some (.dK kvs) → VRs C W H ds (kvs.map (·.2)) → CR C W H (.dK (kvs.map (·.1)) ds) a
  | dT {kvs : List (List Key × V)} {ds : List D} {a : Addr} : H a = some (.dT kvs) → VRs C W H ds (kvs.map (·.2)) → CR C W H (.dT (kvs.map (·.1)) ds) a
  | ins {c : Nat} {fs : List (Str × V)} {ds : List D} {a dx : Addr} : H a = some (.ins (C.cad c) dx fs) → fs.map (·.1) = (C.cf c).take ds.length → VRs C W H ds (fs.map (·.2)) → CR C W H (.ins c ds) a
theorem CR.there {C : Cd} {W : Wd} {H : Hp} {d : D} {a : Addr} (h : CR C W H d a) : H a ≠ none := by
  cases h with
  | lst e _ => rw [e]; exact fun z => nomatch z
  | dK e _ => rw [e]; exact fun z => nomatch z
  | dT e _ => rw [e]; exact fun z => nomatch z
  | ins e _ _ => rw [e]; exact fun z => nomatch z
theorem CR.ext {C : Cd} {P : Addr → Prop} {W W' : Wd} {H H' : Hp} {d : D} {a : Addr} (h : CR C W H d a) (hF : ∀ a, W.F a → P a) (e : Ext P W H W' H') (k : H' a = H a) : CR C W' H' d a := by
  cases h with
  | lst q r => exact .lst (k.trans q) (r.ext hF e)
  | dK q r => exact .dK (k.trans q) (r.ext hF e)
  | dT q r => exact .dT (k.trans q) (r.ext hF e)
  | ins q z r => exact .ins (k.trans q) z (r.ext hF e)

/-- what may not be touched is there, and is none of the shared objects -/
structure Pok (P : Addr → Prop) (W : Wd) (H : Hp) : Prop where
  fz : ∀ a, W.F a → P a
  dom : ∀ a, P a → H a ≠ none
  sh : ∀ i, i < W.n → ¬ P (W.rho i)
/-- the shared objects -/
structure HR (C : Cd) (W : Wd) (H : Hp) (dh : List D) : Prop where
  len : dh.length = W.n
  cr : ∀ i d, dh[i]? = some d → CR C W H d (W.rho i)
  inj : ∀ i j, i < W.n → j < W.n → W.rho i = W.rho j → i = j
  nofz : ∀ i, i < W.n → ¬ W.F (W.rho i)
  dom : ∀ a, W.F a → H a ≠ none
theorem HR.there {C : Cd} {W : Wd} {H : Hp} {dh : List D} (h : HR C W H dh) {i : Nat} (hi : i < W.n) : H (W.rho i) ≠ none := by
  obtain ⟨d, e⟩ : ∃ d, dh[i]? = some d := ⟨dh[i]'(by rw [h.len]; exact hi), by simp [h.len, hi]⟩
  exact (h.cr i d e).there
/-- behind a step: what is frozen by now is not touched either -/
theorem Pok.next {C : Cd} {P : Addr → Prop} {W W' : Wd} {H H' : Hp} {dh : List D} (p : Pok P W H) (e : Ext P W H W' H') (h : HR C W' H' dh) : Pok (fun a => P a ∨ W'.F a) W' H' := by
  refine ⟨fun a h => .inr h, fun a q => ?_, fun i hi q => ?_⟩
  · rcases q with q | q
    · rw [e.keep a q]; exact p.dom a q
    · exact h.dom a q
  · rcases q with q | q
    · by_cases hl : i < W.n
      · rw [e.rho i hl] at q; exact p.sh i hl q
      · exact e.new i (Nat.le_of_not_lt hl) hi q
    · exact h.nofz i hi q

/-- an expression's outcome -/
def RR (C : Cd) (P : Addr → Prop) (W : Wd) (H : Hp) : SV → V → Prop
  | .val d, v => VR C W H d v
  | .own d, v => ∃ a, v = .ref a ∧ CR C W H d a ∧ ¬ P a ∧ ¬ W.F a ∧ ∀ i, i < W.n → W.rho i ≠ a
  | .obs d, v => ∃ a, v = .ref a ∧ CR C W H d a ∧ P a ∧ ¬ W.F a
/-- an exception's -/
def XR (C : Cd) (W : Wd) (H : Hp) (vs : List D) (c : Nat) (d : Option Addr) : Prop :=
  (d = none ∧ vs = []) ∨ ∃ dx fs, d = some dx ∧ H dx = some (.xd fs) ∧ ¬ W.F dx ∧ (∀ i, i < W.n → W.rho i ≠ dx) ∧ fs.map (·.1) = (C.cf c).take vs.length ∧ VRs C W H vs (fs.map (·.2))

/-- the slots, as an expression sees them: nothing that a slot owns may be touched -/
def SRe (C : Cd) (P : Addr → Prop) (W : Wd) (H : Hp) (ds : List (Option SV)) (σ : L2.St) : Prop :=
  ds.length = σ.length ∧ ∀ (i : Nat) (sv : SV), ds[i]? = some (some sv) → ∃ v, σ[i]? = some (some v) ∧ match sv with
    | .val d => VR C W H d v
    | .own d => ∃ a, v = .ref a ∧ CR C W H d a ∧ P a ∧ ¬ W.F a
    | .obs _ => False
theorem SRe.ext {C : Cd} {P P1 : Addr → Prop} {W W' : Wd} {H H' : Hp} {ds : List (Option SV)} {σ : L2.St} (h : SRe C P W H ds σ) (hp : ∀ a, P a → P1 a) (hF : ∀ a, W.F a → P a) (e : Ext P W H W' H') : SRe C P1 W' H' ds σ := by
  refine ⟨h.1, fun i sv q => ?_⟩
  obtain ⟨v, h1, h2⟩ := h.2 i sv q
  refine ⟨v, h1, ?_⟩
  cases sv with
  | val d => exact VR.ext h2 hF e
  | own d =>
    obtain ⟨a, e1, c, p, f⟩ := h2
    exact ⟨a, e1, c.ext hF e (e.keep a p), hp a p, fun z => f (e.nofz a p z)⟩
  | obs d => exact h2

theorem RR.weak {C : Cd} {P P1 : Addr → Prop} {W : Wd} {H : Hp} (hp : ∀ a, P a → P1 a) (hq : ∀ a, P1 a → P a ∨ W.F a) {sv : SV} {v : V} (h : RR C P1 W H sv v) : RR C P W H sv v := by
  cases sv with
  | val d => exact h
  | own d =>
    obtain ⟨a, e1, c, p, f, s⟩ := h
    exact ⟨a, e1, c, fun z => p (hp a z), f, s⟩
  | obs d =>
    obtain ⟨a, e1, c, p, f⟩ := h
    exact ⟨a, e1, c, (hq a p).resolve_right f, f⟩
/-- kinds of outcomes -/
structure Oc (α β : Type) where
  rel : Cd → (Addr → Prop) → Wd → Hp → α → β → Prop
  weak : ∀ {C : Cd} {P P1 : Addr → Prop} {W : Wd} {H : Hp} {a : α} {b : β}, (∀ x, P x → P1 x) → (∀ x, P1 x → P x ∨ W.F x) → rel C P1 W H a b → rel C P W H a b
abbrev ocV : Oc SV V := ⟨RR, fun hp hq h => RR.weak hp hq h⟩
abbrev ocB : Oc Bool Bool := ⟨fun _ _ _ _ a b => a = b, fun _ _ h => h⟩
abbrev ocI : Oc (Option Int) (Option Int) := ⟨fun _ _ _ _ a b => a = b, fun _ _ h => h⟩
/-- what is wanted behind an outcome -/
def Kn {α β : Type} (oc : Oc α β) (C : Cd) (Wx : WX) (P : Addr → Prop) (W : Wd) (H : Hp) (σ : L2.St) (Q : β → Hp → Prop) : R α → Prop
  | .ok sv dh => ∀ W' v H', Ext P W H W' H' → HR C W' H' dh → oc.rel C P W' H' sv v → Q v H'
  | .exc c vs dh => ∀ W' H' d, Ext P W H W' H' → HR C W' H' dh → (∀ a, d = some a → ¬ P a) → XR C W' H' vs c d → Wx (.ref (C.cad c)) d σ H'
  | .bad => False
/-- THE READING of a part of the text -/
def gG {α β : Type} (oc : Oc α β) (C : Cd) (Wx : WX) (f : List (Option SV) → List D → R α) : L2.St → Hp → (β → Hp → Prop) → Prop := fun σ H Q =>
  ∃ P W ds dh, Pok P W H ∧ HR C W H dh ∧ SRe C P W H ds σ ∧ Kn oc C Wx P W H σ Q (f ds dh)
abbrev gE (C : Cd) (Wx : WX) (f : List (Option SV) → List D → R SV) : TE := gG ocV C Wx f

section
variable {α β γ δ : Type} {oc : Oc α β} {oc2 : Oc γ δ} {C : Cd} {Wx : WX} {P P1 : Addr → Prop} {W W1 : Wd} {H H1 : Hp} {σ : L2.St} {Q : β → Hp → Prop} {Q2 : δ → Hp → Prop} {r : R α}
theorem Kn.step (e : Ext P W H W1 H1) (h : Kn oc C Wx P W H σ Q r) : Kn oc C Wx P W1 H1 σ Q r := by
  cases r with
  | ok sv dh => exact fun W' v H' e1 hr rr => h W' v H' (e.trans (fun _ z => z) e1) hr rr
  | exc c vs dh => exact fun W' H' d e1 hr nd x => h W' H' d (e.trans (fun _ z => z) e1) hr nd x
  | bad => exact h
theorem Kn.more (hp : ∀ a, P a → P1 a) (hq : ∀ a, P1 a → P a ∨ W.F a) (h : Kn oc C Wx P W H σ Q r) : Kn oc C Wx P1 W H σ Q r := by
  cases r with
  | ok sv dh =>
    refine fun W' v H' e1 hr rr => h W' v H' (e1.weak hp) hr (oc.weak hp (fun a q => ?_) rr)
    exact (hq a q).imp id (e1.fz a)
  | exc c vs dh => exact fun W' H' d e1 hr nd x => h W' H' d (e1.weak hp) hr (fun a z q => nd a z (hp a q)) x
  | bad => exact h
theorem Kn.mono {Q' : β → Hp → Prop} (hq : ∀ v H, Q v H → Q' v H) (h : Kn oc C Wx P W H σ Q r) : Kn oc C Wx P W H σ Q' r := by
  cases r with
  | ok sv dh => exact fun W' v H' e1 hr rr => hq _ _ (h W' v H' e1 hr rr)
  | exc c vs dh => exact h
  | bad => exact h
/-- from a first outcome to the rest -/
theorem Kn.bind {k : α → List D → R γ} (h : Kn oc2 C Wx P W H σ Q2 (r.bind k)) :
    Kn oc C Wx P W H σ (fun v H1 => ∃ sv W1 dh1, Ext P W H W1 H1 ∧ HR C W1 H1 dh1 ∧ oc.rel C P W1 H1 sv v ∧ Kn oc2 C Wx P W1 H1 σ Q2 (k sv dh1)) r := by
  cases r with
  | ok sv dh => exact fun W' v H' e1 hr rr => ⟨sv, W', dh, e1, hr, rr, Kn.step e1 h⟩
  | exc c vs dh => exact h
  | bad => exact h
end
theorem PE.mono {X : Cx} {e : Expr} {t t' : TE} (h : PE X e t) (ht : ∀ σ H Q, t' σ H Q → t σ H Q) : PE X e t' := ⟨fun pins s σ H Q I q => h.run pins s σ H Q I (ht σ H Q q)⟩
theorem PT.mono {X : Cx} {e : Expr} {t t' : TT} (h : PT X e t) (ht : ∀ σ H Q, t' σ H Q → t σ H Q) : PT X e t' := ⟨fun pins s σ H Q I q => h.run pins s σ H Q I (ht σ H Q q)⟩
theorem PS.mono {X : Cx} {e : Stmt} {t t' : TS} (h : PS X e t) (ht : ∀ D σ H, t' D σ H → t D σ H) : PS X e t' := ⟨fun pins s σ H D I q => h.run pins s σ H D I (ht D σ H q)⟩
theorem PSs.mono {X : Cx} {e : List Stmt} {t t' : TS} (h : PSs X e t) (ht : ∀ D σ H, t' D σ H → t D σ H) : PSs X e t' := ⟨fun pins s σ H D I q => h.run pins s σ H D I (ht D σ H q)⟩
end SH
namespace SH
open PySem PySem.Spec PyProof.Rows L2

/-! the program's text by places, and what it does to data -/
inductive BOp where | add | sub | mul | fdiv | mod | pow
inductive COp where | eq | ne | lt | le | gt | ge | isin | notin
inductive Cl where | c (i : Nat) | bool | int | str | list | tuple | dict | ve
mutual
inductive Tg where | v (i : Nat) | t (ts : Tgs)
inductive Tgs where | nil | cons (a : Tg) (r : Tgs)
end
inductive BI where | len | list | tuple | dict | int | str | abs | min1 | max1 | min2 | max2 | sum | all | sorted
inductive BM where | get2 | join | split | startswith | strip | isdigit
inductive MU where | append | extend | insert | reverse | clear | remove | pop
mutual
inductive IE where
  | cint (i : Int) | cbl (b : Bool) | cnon | cstr (x : Str) | gstr (g : Nat)
  | var (i : Nat)
  | bin (o : BOp) (a b : IE) | neg (a : IE) | not (a : IE) | and (a b : IE) | or (a b : IE)
  | cmp (o : COp) (a b : IE) | chain (o o2 : COp) (a b c : IE) | isn (a : IE) | isnn (a : IE)
  | call (f : Nat) (as : IEs) | meth (m : Nat) (o : IE) (as : IEs) | mk (c : Nat) (as : IEs)
  | bi (b : BI) (as : IEs) | bm (m : BM) (o : IE) (as : IEs)
  | fld (f : Nat) (o : IE) | ix (a i : IE) | sl (a : IE) (lo hi : IEo)
  | lst (as : IEs) | tup (as : IEs) | dct0 (t : Bool)
  | comp (own : List Nat) (tg : Tg) (it : It) (cond : IEo) (elt : IE)
  | ife (c a b : IE) | fst (ps : IEs) | isi (a : IE) (cs : List Cl) | heap (a : IE)
inductive IEs where | nil | cons (a : IE) (r : IEs)
inductive IEo where | no | yes (a : IE)
inductive It where
  | val (a : IE) | rng1 (a : IE) | rng2 (a b : IE) | enum (a : IE) | zip (a b : IE) | rev (a : IE) | revrng (a : IE)
  | items (a : IE) | vals (a : IE)
end
mutual
inductive IS where
  | asg (tg : Tg) (e : IE) | asgO (i : Nat) (e : IE) | aug (i : Nat) (o : BOp) (e : IE)
  | setS (i : Nat) (k v : IE) | setH (o k v : IE) | fldS (i f : Nat) (e : IE) | fldH (o : IE) (f : Nat) (e : IE)
  | mutS (m : MU) (i : Nat) (as : IEs) | mutH (m : MU) (o : IE) (as : IEs) | frz (i : Nat)
  | expr (e : IE) | ife (c : IE) (a b : ISs) | for (tg : Tg) (it : It) (body : ISs) | while (fuel : Nat) (c : IE) (body : ISs)
  | ret (e : IE) | retv (i : Nat) | retn | raise (c : Nat) (as : IEs) | try (body : ISs) (hs : IHs) | pass | cont
inductive ISs where | nil | cons (a : IS) (r : ISs)
inductive IHs where | nil | cons (c : Cl) (as : Option Nat) (body : ISs) (r : IHs)
end

/-- what the text says of classes and names -/
structure Tbl where
  gs : Nat → Str
  meth : Nat → Nat → Option Nat
  ini : Nat → Option (Option Nat)
  fix : Nat → Nat → Option Nat
  isa : Nat → Cl → Option Bool

/-! ### data -/
mutual
def D.py : D → Option PyData
  | .non => some .none
  | .bl b => some (.bool b)
  | .int i => some (.int i)
  | .str x => some (.str x)
  | .tup xs => (D.pys xs).map PyData.tuple
  | .lst xs => (D.pys xs).map PyData.list
  | .scr _ => none
  | .dK _ _ => none
  | .dT _ _ => none
  | .ins _ _ => none
  | .exc _ _ => none
  | .ref _ => none
def D.pys : List D → Option (List PyData)
  | [] => some []
  | d :: ds => match D.py d, D.pys ds with
    | some p, some ps => some (p :: ps)
    | _, _ => none
end
mutual
/-- nothing within that could ever be changed -/
def D.flat : D → Bool
  | .tup xs => D.flats xs
  | .lst _ => false
  | .dK _ _ => false
  | .dT _ _ => false
  | .ins _ _ => false
  | .exc _ _ => false
  | _ => true
def D.flats : List D → Bool
  | [] => true
  | d :: ds => D.flat d && D.flats ds
end
def flatC : D → Bool
  | .lst xs => D.flats xs
  | .dK _ vs => D.flats vs
  | .dT _ vs => D.flats vs
  | .ins _ vs => D.flats vs
  | _ => false
/-- what a value stands for: a shared object's content -/
def deref (h : List D) : D → D
  | .ref n => match h[n]? with
    | some d => d
    | none => .ref n
  | d => d
def seqD : D → Option (List D)
  | .scr ns => some (ns.map D.int)
  | .lst xs => some xs
  | .tup xs => some xs
  | _ => none
def toV : SV → Option D
  | .val d => some d
  | .own d => some d
  | .obs _ => none
def toO : SV → Option D
  | .val d => some d
  | .own d => some d
  | .obs d => some d
def R.bindV {β : Type} (r : R SV) (k : D → List D → R β) : R β := r.bind fun sv h => match toV sv with
  | some d => k d h
  | none => .bad
def R.bindO {β : Type} (r : R SV) (k : D → List D → R β) : R β := r.bind fun sv h => match toO sv with
  | some d => k d h
  | none => .bad
/-- an argument: a value, or a thing that is looked at -/
def toF : SV → SV
  | .val d => .val d
  | .own d => .val d
  | .obs d => .obs d
def R.bindX {β : Type} (b : Bool) (r : R SV) (k : D → List D → R β) : R β := r.bind fun sv h => match (if b then toV sv else toO sv) with
  | some d => k d h
  | none => .bad
def R.bindF {β : Type} (r : R SV) (k : SV → List D → R β) : R β := r.bind fun sv h => k (toF sv) h
theorem R.bind_assoc {α β γ : Type} (r : R α) (f : α → List D → R β) (g : β → List D → R γ) : (r.bind f).bind g = r.bind fun a h => (f a h).bind g := by cases r <;> rfl
theorem R.bindO_bind {α β : Type} (r : R SV) (f : D → List D → R α) (g : α → List D → R β) : (r.bindO f).bind g = r.bindO fun a h => (f a h).bind g := by
  unfold R.bindO
  rw [R.bind_assoc]
  congr
  funext a h
  cases toO a <;> rfl
theorem R.bindV_bind {α β : Type} (r : R SV) (f : D → List D → R α) (g : α → List D → R β) : (r.bindV f).bind g = r.bindV fun a h => (f a h).bind g := by
  unfold R.bindV
  rw [R.bind_assoc]
  congr
  funext a h
  cases toV a <;> rfl
theorem R.bindO_bindO {α : Type} (r : R SV) (f : D → List D → R SV) (g : D → List D → R α) : (r.bindO f).bindO g = r.bindO fun a h => (f a h).bindO g := R.bindO_bind ..
theorem R.bindV_bindO {α : Type} (r : R SV) (f : D → List D → R SV) (g : D → List D → R α) : (r.bindV f).bindO g = r.bindV fun a h => (f a h).bindO g := R.bindV_bind ..
/-- exceptions are not looked for here -/
def R.noX {α : Type} (r : R α) : R α := match r with
  | .exc _ _ _ => .bad
  | r => r
def vOk (d : D) (h : List D) : R SV := .ok (.val d) h
def oOk (d : D) (h : List D) : R SV := .ok (.own d) h
def ofB (o : Option Bool) (h : List D) : R SV := match o with
  | some b => .ok (.val (.bl b)) h
  | none => .bad
def depthOk (p q : PyData) : Bool := decide (min p.depth q.depth ≤ 64)
def eqD (x y : D) : Option Bool := match x.py, y.py with
  | some p, some q => if depthOk p q then some (PyData.eqv p q) else none
  | _, _ => none
def keyK : D → Option Key
  | .int i => some (.inl i)
  | .str x => some (.inr x)
  | _ => none
def keysK : List D → Option (List Key)
  | [] => some []
  | d :: r => match keyK d, keysK r with
    | some k, some ks => some (k :: ks)
    | _, _ => none
def keyT : D → Option (List Key)
  | .tup xs => keysK xs
  | _ => none
def atKey {κ : Type} [DecidableEq κ] (ks : List κ) (vs : List D) (k : κ) : Option D := ((ks.zip vs).find? fun p => decide (p.1 = k)).map (·.2)
def inD (x y : D) : Option Bool := match y with
  | .lst ys => (match x.py, D.pys ys with
    | some p, some ps => if depthOk p (.list ps) then some (ps.any fun q => PyData.eqv q p) else none
    | _, _ => none)
  | .tup ys => (match x.py, D.pys ys with
    | some p, some ps => if depthOk p (.list ps) then some (ps.any fun q => PyData.eqv q p) else none
    | _, _ => none)
  | .dK ks vs => (keyK x).map fun k => (atKey ks vs k).isSome
  | .dT ks vs => (keyT x).map fun k => (atKey ks vs k).isSome
  | _ => none
def cmpD (o : COp) (x y : D) : Option Bool := match o with
  | .eq => eqD x y
  | .ne => (eqD x y).map (!·)
  | .isin => inD x y
  | .notin => (inD x y).map (!·)
  | .lt => (match x, y with
    | .int i, .int j => some (decide (i < j))
    | .str a, .str b => some (decide (a.cps.toList < b.cps.toList))
    | _, _ => none)
  | .le => (match x, y with
    | .int i, .int j => some (decide (i ≤ j))
    | _, _ => none)
  | .gt => (match x, y with
    | .int i, .int j => some (decide (j < i))
    | _, _ => none)
  | .ge => (match x, y with
    | .int i, .int j => some (decide (j ≤ i))
    | _, _ => none)
def mulOk (i j : Int) : Bool := decide (i.natAbs.log2 + j.natAbs.log2 < 1000000)
def binD (o : BOp) (x y : D) (h : List D) : R SV := match o, x, y with
  | .add, .int i, .int j => vOk (.int (i + j)) h
  | .add, .str a, .str b => if a.length + b.length ≤ sizeLine then vOk (.str (a ++ b)) h else .bad
  | .add, .tup xs, .tup ys => if xs.length + ys.length ≤ sizeLine && !xs.isEmpty then vOk (.tup (xs ++ ys)) h else .bad
  | .add, .lst xs, .lst ys => if xs.length + ys.length ≤ sizeLine then oOk (.lst (xs ++ ys)) h else .bad
  | .sub, .int i, .int j => vOk (.int (i - j)) h
  | .mul, .int i, .int j => if mulOk i j then vOk (.int (i * j)) h else .bad
  | .fdiv, .int i, .int j => if 0 < j && decide (j.natAbs.log2 < 9000) then vOk (.int (i / j)) h else .bad
  | .mod, .int i, .int j => if 0 < j then vOk (.int (i % j)) h else .bad
  | .pow, .int i, .int j => if 0 ≤ j && decide (j ≤ 1000000) && decide (i.natAbs < 2 ^ 64) then vOk (.int (i ^ j.toNat)) h else .bad
  | _, _, _ => .bad
def truD (h : List D) (d : D) : Option Bool := match deref h d with
  | .bl b => some b
  | .int i => some (i != 0)
  | .non => some false
  | .lst xs => some (!xs.isEmpty)
  | _ => none
def clsOf (h : List D) (d : D) : Option Nat := match deref h d with
  | .ins c _ => some c
  | _ => none
/-- isinstance(d, c) -/
def isD (T : Tbl) (h : List D) (d : D) (c : Cl) : Option Bool := match deref h d, c with
  | .ins k _, c => T.isa k c
  | .exc _ _, _ => none
  | .ref _, _ => none
  | _, .c _ => none
  | _, .ve => none
  | .bl _, .bool => some true
  | .bl _, .int => some true
  | .int _, .int => some true
  | .str _, .str => some true
  | .lst _, .list => some true
  | .scr _, .list => some true
  | .tup _, .tuple => some true
  | .dK _ _, .dict => some true
  | .dT _ _, .dict => some true
  | _, _ => some false
def atD {α : Type} (xs : List α) (i : Int) : Option α := atI xs i
def ixD (x y : D) : Option D := match x, y with
  | .scr ns, .int i => (atI ns i).map D.int
  | .lst xs, .int i => atI xs i
  | .tup xs, .int i => atI xs i
  | .str z, .int i => if z.length ≤ sizeLine then (atI z.cps.toList i).map fun c => .str ⟨#[c]⟩ else none
  | .dK ks vs, y => (keyK y).bind (atKey ks vs)
  | .dT ks vs, y => (keyT y).bind (atKey ks vs)
  | _, _ => none
def cutD {α : Type} (xs : List α) (lo hi : Option Int) : List α := (xs.drop (HT.sIx xs.length 0 lo)).take (HT.sIx xs.length xs.length hi - HT.sIx xs.length 0 lo)
def intsD : List D → Option (List Int)
  | [] => some []
  | .int i :: r => (intsD r).map (i :: ·)
  | _ :: _ => none
def blsD : List D → Option (List Bool)
  | [] => some []
  | .bl b :: r => (blsD r).map (b :: ·)
  | _ :: _ => none
def strsD : List D → Option (List Str)
  | [] => some []
  | .str b :: r => (strsD r).map (b :: ·)
  | _ :: _ => none
def foldMax : List Int → Option Int
  | [] => none
  | [a] => some a
  | a :: r => (foldMax r).map fun b => if a < b then b else a
def foldMin : List Int → Option Int
  | [] => none
  | [a] => some a
  | a :: r => (foldMin r).map fun b => if b < a then b else a
def lenD (d : D) : Option Nat := match d with
  | .scr ns => some ns.length
  | .lst xs => some xs.length
  | .tup xs => some xs.length
  | .dK ks _ => some ks.length
  | .dT ks _ => some ks.length
  | .str z => if z.length ≤ sizeLine then some z.length else none
  | _ => none
def biD (b : BI) (xs : List D) (h : List D) : R SV := match b, xs with
  | .len, [d] => (match lenD (deref h d) with
    | some n => vOk (.int n) h
    | none => .bad)
  | .list, [d] => (match seqD (deref h d) with
    | some xs => oOk (.lst xs) h
    | none => .bad)
  | .tuple, [d] => (match seqD (deref h d) with
    | some xs => vOk (.tup xs) h
    | none => .bad)
  | .dict, [.dK ks vs] => oOk (.dK ks vs) h
  | .abs, [.int i] => vOk (.int (if i < 0 then -i else i)) h
  | .min2, [.int i, .int j] => vOk (.int (if j < i then j else i)) h
  | .max2, [.int i, .int j] => vOk (.int (if j > i then j else i)) h
  | .int, [.int i] => vOk (.int i) h
  | .int, [.bl k] => vOk (.int (if k then 1 else 0)) h
  | .int, [.str a] => (match intText? a with
    | some n => if a.length ≤ 640 then vOk (.int n) h else .bad
    | none => .bad)
  | .str, [.int i] => if decide (i.natAbs.log2 < 1920) then vOk (.str (toString i : String)) h else .bad
  | .str, [.str x] => vOk (.str x) h
  | .sum, [d] => (match (seqD (deref h d)).bind intsD with
    | some ns => vOk (.int ns.sum) h
    | none => .bad)
  | .all, [d] => (match (seqD (deref h d)).bind blsD with
    | some ns => vOk (.bl (ns.all id)) h
    | none => .bad)
  | .min1, [d] => (match ((seqD (deref h d)).bind intsD).bind foldMin with
    | some n => vOk (.int n) h
    | none => .bad)
  | .max1, [d] => (match ((seqD (deref h d)).bind intsD).bind foldMax with
    | some n => vOk (.int n) h
    | none => .bad)
  | _, _ => .bad
def bmD (m : BM) (x : D) (xs : List D) (h : List D) : R SV := match m, x, xs with
  | .get2, .dK ks vs, [k, d] => (match keyK k with
    | some k => vOk ((atKey ks vs k).getD d) h
    | none => .bad)
  | .get2, .dT ks vs, [k, d] => (match keyT k with
    | some k => vOk ((atKey ks vs k).getD d) h
    | none => .bad)
  | _, _, _ => .bad
def putD {κ : Type} [DecidableEq κ] (ks : List κ) (vs : List D) (k : κ) (v : D) : List κ × List D :=
  if (atKey ks vs k).isSome then (ks, (ks.zip vs).map fun p => if p.1 = k then v else p.2) else (ks ++ [k], vs ++ [v])
/-- o[k] = v, on content -/
def setD (c k v : D) : Option D := match c, k with
  | .lst xs, .int i => (ixN xs.length i).map fun j => .lst (xs.set j v)
  | .dK ks vs, k => if ks.length < sizeLine then (keyK k).map fun q => .dK (putD ks vs q v).1 (putD ks vs q v).2 else none
  | .dT ks vs, k => if ks.length < sizeLine then (keyT k).map fun q => .dT (putD ks vs q v).1 (putD ks vs q v).2 else none
  | _, _ => none
def insAt {α : Type} (xs : List α) (i : Nat) (v : α) : List α := xs.take i ++ v :: xs.drop i
/-- a list's method that changes it; the value that it hands back -/
def muD (m : MU) (c : D) (xs : List D) (h : List D) : Option (D × D) := match m, c, xs with
  | .append, .lst ys, [v] => if ys.length < sizeLine then some (.lst (ys ++ [v]), .non) else none
  | .extend, .lst ys, [d] => (match deref h d with
    | .lst zs => if ys.length + zs.length ≤ sizeLine then some (.lst (ys ++ zs), .non) else none
    | _ => none)
  | .reverse, .lst ys, [] => some (.lst ys.reverse, .non)
  | .clear, .lst ys, [] => some (.lst [], .non)
  | .insert, .lst ys, [.int i, v] => if ys.length < sizeLine && decide (0 ≤ i) && decide (i ≤ 16777216) then some (.lst (insAt ys i.toNat v), .non) else none
  | .pop, .lst ys, [.int i] => (match ixN ys.length i with
    | some k => (ys[k]?).map fun y => (.lst (ys.eraseIdx k), y)
    | none => none)
  | _, _, _ => none
def isNon : D → Bool
  | .non => true
  | _ => false
def svNo (l : List SV) : Bool := l.any fun s => match s with
  | .obs _ => true
  | _ => false
/-- behind a call: where an own thing was lent, nothing of it may be held -/
def lent (b : Bool) (r : R SV) : R SV := if b then (match r with
  | .ok (.val d) h => if d.flat && h.all flatC then r else .bad
  | .ok _ _ => .bad
  | .exc c vs h => if D.flats vs && h.all flatC then r else .bad
  | .bad => .bad) else r
def toOs : List SV → Option (List D)
  | [] => some []
  | s :: r => match toO s, toOs r with
    | some d, some ds => some (d :: ds)
    | _, _ => none
def toVs : List SV → Option (List D)
  | [] => some []
  | s :: r => match toV s, toVs r with
    | some d, some ds => some (d :: ds)
    | _, _ => none
/-! ### targets -/
mutual
def asgT : Tg → D → List (Option SV) → Option (List (Option SV))
  | .v i, d, s => if i < s.length then some (s.set i (some (.val d))) else none
  | .t ts, .tup xs, s => asgTs ts xs s
  | .t _, _, _ => none
def asgTs : Tgs → List D → List (Option SV) → Option (List (Option SV))
  | .nil, [], s => some s
  | .cons t ts, x :: xs, s => (asgT t x s).bind (asgTs ts xs)
  | _, _, _ => none
end
/-! ### what is walked: the items, and the shared list that must stay as it is -/
structure Itm where
  xs : List D
  g : Option (Nat × D)
def okG (g : Option (Nat × D)) (h : List D) (same : D → D → Prop) : Prop := match g with
  | some (n, d) => ∃ d', h[n]? = some d' ∧ same d d'
  | none => True
mutual
def D.beq : D → D → Bool
  | .non, .non => true
  | .bl a, .bl b => decide (a = b)
  | .int a, .int b => decide (a = b)
  | .str a, .str b => decide (a = b)
  | .tup a, .tup b => D.beqs a b
  | .lst a, .lst b => D.beqs a b
  | .scr a, .scr b => decide (a = b)
  | .dK k a, .dK l b => decide (k = l) && D.beqs a b
  | .dT k a, .dT l b => decide (k = l) && D.beqs a b
  | .ins c a, .ins d b => decide (c = d) && D.beqs a b
  | .exc c a, .exc d b => decide (c = d) && D.beqs a b
  | .ref a, .ref b => decide (a = b)
  | _, _ => false
def D.beqs : List D → List D → Bool
  | [], [] => true
  | a :: r, b :: s => D.beq a b && D.beqs r s
  | _, _ => false
end
def stays (g : Option (Nat × D)) (h : List D) : Bool := match g with
  | some (n, d) => (match h[n]? with
    | some d' => D.beq d d'
    | none => false)
  | none => true
def gOf (h : List D) : D → Option (Nat × D)
  | .ref n => (h[n]?).map fun d => (n, d)
  | _ => none
def enumF (k : Int) : List D → List D
  | [] => []
  | x :: r => .tup [.int k, x] :: enumF (k + 1) r
def zipT (xs ys : List D) : List D := (xs.zip ys).map fun p => .tup [p.1, p.2]
def rngD (lo hi : Int) : Option (List D) := if decide (-1000000000 ≤ lo) && decide (lo ≤ 1000000000) && decide (-1000000000 ≤ hi) && decide (hi ≤ 1000000000) && decide (hi - lo ≤ 16777216) then
  some ((List.range (hi - lo).toNat).map fun i => .int (lo + (i : Nat))) else none
def wipeS (s : List (Option SV)) : List Nat → List (Option SV)
  | [] => s
  | v :: vs => (wipeS s vs).set v none
/-- the turns of a comprehension -/
def compL (g : Option (Nat × D)) (f : D → List D → R (Option D)) : List D → List D → List D → R SV
  | [], acc, h => if stays g h then .ok (.own (.lst acc)) h else .bad
  | x :: r, acc, h => if stays g h then (f x h).bind fun o h1 => match o with
    | some d => if acc.length < sizeLine then compL g f r (acc ++ [d]) h1 else .bad
    | none => compL g f r acc h1 else .bad

section
variable (T : Tbl) (F : Nat → List D → List D → R SV) (G : Nat → Nat → List D → List D → R (List D))
mutual
def evE : IE → List (Option SV) → List D → R SV
  | .cint i, _, h => vOk (.int i) h
  | .cbl b, _, h => vOk (.bl b) h
  | .cnon, _, h => vOk .non h
  | .cstr x, _, h => vOk (.str x) h
  | .gstr g, _, h => vOk (.str (T.gs g)) h
  | .var i, s, h => match s[i]? with
    | some (some (.val d)) => vOk d h
    | some (some (.own d)) => .ok (.obs d) h
    | _ => .bad
  | .bin o a b, s, h => (evE a s h).bindO fun x h1 => (evE b s h1).bindO fun y h2 => binD o (deref h2 x) (deref h2 y) h2
  | .neg a, s, h => (evE a s h).bindO fun x h1 => match x with
    | .int i => vOk (.int (-i)) h1
    | _ => .bad
  | .not a, s, h => (evE a s h).bindO fun x h1 => ofB ((truD h1 x).map (!·)) h1
  | .and a b, s, h => (evE a s h).bindV fun x h1 => match truD h1 x with
    | some true => evE b s h1
    | some false => vOk x h1
    | none => .bad
  | .or a b, s, h => (evE a s h).bindV fun x h1 => match truD h1 x with
    | some false => evE b s h1
    | some true => vOk x h1
    | none => .bad
  | .cmp o a b, s, h => (evE a s h).bindO fun x h1 => (evE b s h1).bindO fun y h2 => ofB (cmpD o (deref h2 x) (deref h2 y)) h2
  | .chain o o2 a b c, s, h => (evE a s h).bindO fun x h1 => (evE b s h1).bindO fun y h2 => match cmpD o (deref h2 x) (deref h2 y) with
    | some true => (evE c s h2).bindO fun z h3 => ofB (cmpD o2 (deref h3 y) (deref h3 z)) h3
    | some false => vOk (.bl false) h2
    | none => .bad
  | .isn a, s, h => (evE a s h).bindO fun x h1 => vOk (.bl (isNon x)) h1
  | .isnn a, s, h => (evE a s h).bindO fun x h1 => vOk (.bl (!isNon x)) h1
  | .call f as, s, h => (evEs as s h).bind fun l h1 => match toOs l with
    | some ds => lent (svNo l) (F f ds h1)
    | none => .bad
  | .meth m o as, s, h => (evE o s h).bindV fun x h1 => (evEs as s h1).bind fun l h2 => match toOs l, clsOf h2 x with
    | some ds, some c => (match T.meth c m with
      | some f => lent (svNo l) (F f (x :: ds) h2)
      | none => .bad)
    | _, _ => .bad
  | .mk c as, s, h => (evEs as s h).bind fun l h1 => match toVs l with
    | some ds => (match T.ini c with
      | some (some f) => (G f c ds h1).bind fun vs h2 => oOk (.ins c vs) h2
      | some none => if ds.isEmpty then oOk (.ins c []) h1 else .bad
      | none => .bad)
    | none => .bad
  | .bi b as, s, h => (evEs as s h).bind fun l h1 => match toOs l with
    | some ds => biD b ds h1
    | none => .bad
  | .bm m o as, s, h => (evE o s h).bindO fun x h1 => (evEs as s h1).bind fun l h2 => match toOs l with
    | some ds => bmD m x ds h2
    | none => .bad
  | .fld f o, s, h => (evE o s h).bindO fun x h1 => match deref h1 x with
    | .ins c vs => (match (T.fix c f).bind fun i => vs[i]? with
      | some d => vOk d h1
      | none => .bad)
    | .exc c vs => (match (T.fix c f).bind fun i => vs[i]? with
      | some d => vOk d h1
      | none => .bad)
    | _ => .bad
  | .ix a i, s, h => (evE a s h).bindO fun x h1 => (evE i s h1).bindO fun y h2 => match ixD (deref h2 x) (deref h2 y) with
    | some d => vOk d h2
    | none => .bad
  | .sl a lo hi, s, h => (evE a s h).bindO fun x h1 => (evEo lo s h1).bind fun l h2 => (evEo hi s h2).bind fun u h3 => match deref h3 x with
    | .lst xs => oOk (.lst (cutD xs l u)) h3
    | .scr ns => oOk (.lst ((cutD ns l u).map D.int)) h3
    | .tup xs => vOk (.tup (cutD xs l u)) h3
    | _ => .bad
  | .lst as, s, h => (evEs as s h).bind fun l h1 => match toVs l with
    | some ds => oOk (.lst ds) h1
    | none => .bad
  | .tup as, s, h => (evEs as s h).bind fun l h1 => match toVs l with
    | some ds => vOk (.tup ds) h1
    | none => .bad
  | .dct0 t, _, h => oOk (if t then .dT [] [] else .dK [] []) h
  | .comp own tg it cond elt, s, h => (evIt false it s h).bind fun m h1 => compL m.g (fun x h2 => R.noX (match asgT tg x (wipeS s own) with
    | some s1 => (match cond with
      | .no => (evE elt s1 h2).bindV fun d h4 => .ok (some d) h4
      | .yes c => (evE c s1 h2).bindO fun b h3 => match truD h3 b with
        | some true => (evE elt s1 h3).bindV fun d h4 => .ok (some d) h4
        | some false => .ok none h3
        | none => .bad)
    | none => .bad)) m.xs [] h1
  | .ife c a b, s, h => (evE c s h).bindO fun x h1 => match truD h1 x with
    | some true => evE a s h1
    | some false => evE b s h1
    | none => .bad
  | .fst _, _, _ => .bad
  | .isi a cs, s, h => (evE a s h).bindO fun x h1 => match cs with
    | [c] => ofB (isD T h1 x c) h1
    | _ => .bad
  | .heap a, s, h => (evE a s h).bind fun sv h1 => match sv with
    | .own d => .ok (.val (.ref h1.length)) (h1 ++ [d])
    | _ => .bad
def evEs : IEs → List (Option SV) → List D → R (List SV)
  | .nil, _, h => .ok [] h
  | .cons a r, s, h => (evE a s h).bindF fun x h1 => (evEs r s h1).bind fun xs h2 => .ok (x :: xs) h2
def evEo : IEo → List (Option SV) → List D → R (Option Int)
  | .no, _, h => .ok none h
  | .yes a, s, h => (evE a s h).bindO fun x h1 => match x with
    | .int i => .ok (some i) h1
    | _ => .bad
def evIt (v : Bool) : It → List (Option SV) → List D → R Itm
  | .val a, s, h => (evE a s h).bindX v fun x h1 => match seqD (deref h1 x) with
    | some xs => .ok ⟨xs, gOf h1 x⟩ h1
    | none => .bad
  | .rng1 a, s, h => (evE a s h).bindO fun x h1 => match deref h1 x with
    | .int j => (match rngD 0 j with
      | some xs => .ok ⟨xs, none⟩ h1
      | none => .bad)
    | _ => .bad
  | .rng2 a b, s, h => (evE a s h).bindO fun x h1 => (evE b s h1).bindO fun y h2 => match deref h2 x, deref h2 y with
    | .int i, .int j => (match rngD i j with
      | some xs => .ok ⟨xs, none⟩ h2
      | none => .bad)
    | _, _ => .bad
  | .enum a, s, h => (evE a s h).bindX v fun x h1 => match deref h1 x with
    | .lst xs => .ok ⟨enumF 0 xs, gOf h1 x⟩ h1
    | .tup xs => .ok ⟨enumF 0 xs, none⟩ h1
    | _ => .bad
  | .zip a b, s, h => (evE a s h).bindX v fun x h1 => (evE b s h1).bindX v fun y h2 => match x, y with
    | .lst xs, .lst ys => .ok ⟨zipT xs ys, none⟩ h2
    | .tup xs, .tup ys => .ok ⟨zipT xs ys, none⟩ h2
    | _, _ => .bad
  | .rev a, s, h => (evE a s h).bindX v fun x h1 => match deref h1 x with
    | .lst xs => .ok ⟨xs.reverse, gOf h1 x⟩ h1
    | _ => .bad
  | .revrng a, s, h => (evE a s h).bindO fun x h1 => match deref h1 x with
    | .int j => (match rngD 0 j with
      | some xs => .ok ⟨xs.reverse, none⟩ h1
      | none => .bad)
    | _ => .bad
  | .items _, _, _ => .bad
  | .vals _, _, _ => .bad
end
end

/-! ### statements -/
inductive FR where
  | next (s : List (Option SV)) (h : List D) | ret (v : SV) (h : List D) | cont (s : List (Option SV)) (h : List D)
  | exc (c : Nat) (vs : List D) (s : List (Option SV)) (h : List D) | bad
def FR.ofR {α : Type} (s : List (Option SV)) (r : R α) (k : α → List D → FR) : FR := match r with
  | .ok a h => k a h
  | .exc c vs h => .exc c vs s h
  | .bad => .bad
@[simp] theorem FR.ofR_ok {α : Type} (s : List (Option SV)) (a : α) (h : List D) (k : α → List D → FR) : FR.ofR s (R.ok a h) k = k a h := rfl
@[simp] theorem FR.ofR_exc {α : Type} (s : List (Option SV)) (c : Nat) (vs h : List D) (k : α → List D → FR) : FR.ofR s (R.exc c vs h : R α) k = .exc c vs s h := rfl
@[simp] theorem FR.ofR_bad {α : Type} (s : List (Option SV)) (k : α → List D → FR) : FR.ofR s (R.bad : R α) k = .bad := rfl
def FR.andThen (r : FR) (k : List (Option SV) → List D → FR) : FR := match r with
  | .next s h => k s h
  | r => r
def FR.turn (r : FR) (k : List (Option SV) → List D → FR) : FR := match r with
  | .next s h => k s h
  | .cont s h => k s h
  | r => r
def trB (x : D) (h : List D) : R Bool := match truD h x with
  | some b => .ok b h
  | none => .bad
def forL (g : Option (Nat × D)) (f : D → List (Option SV) → List D → FR) : List D → List (Option SV) → List D → FR
  | [], s, h => if stays g h then .next s h else .bad
  | x :: r, s, h => if stays g h then (f x s h).turn (forL g f r) else .bad
def whileL (c : List (Option SV) → List D → R SV) (f : List (Option SV) → List D → FR) : Nat → List (Option SV) → List D → FR
  | 0, _, _ => .bad
  | n + 1, s, h => .ofR s ((c s h).bindO trB) fun b h1 => if b then (f s h1).turn (whileL c f n) else .next s h1
def canPut (s : List (Option SV)) (i : Nat) : Bool := match s[i]? with
  | some (some (.own _)) => true
  | some (some (.val (.ref _))) => true
  | _ => false
/-- what slot i holds is changed -/
def putAt (s : List (Option SV)) (i : Nat) (f : D → Option D) (h : List D) : FR := match s[i]? with
  | some (some (.own d)) => (match f d with
    | some d' => .next (s.set i (some (.own d'))) h
    | none => .bad)
  | some (some (.val (.ref n))) => (match (h[n]?).bind f with
    | some d' => .next s (h.set n d')
    | none => .bad)
  | _ => .bad
def fldD (T : Tbl) (f : Nat) (d y : D) : Option D := match d with
  | .ins c vs => (match T.fix c f with
    | some j => if j < vs.length then some (.ins c (vs.set j y)) else if j = vs.length then some (.ins c (vs ++ [y])) else none
    | none => none)
  | _ => none
def fTurn (tg : Tg) (g : List (Option SV) → List D → FR) : D → List (Option SV) → List D → FR := fun x s1 h2 => match asgT tg x s1 with
      | some s2 => g s2 h2
      | none => .bad
section
variable (T : Tbl) (F : Nat → List D → List D → R SV) (G : Nat → Nat → List D → List D → R (List D))
mutual
def evS : IS → List (Option SV) → List D → FR
  | .asg tg e, s, h => .ofR s (evE T F G e s h) fun sv h1 => match sv with
    | .val d => (match asgT tg d s with
      | some s1 => .next s1 h1
      | none => .bad)
    | .own d => (match asgT tg d s with
      | some s1 => .next s1 h1
      | none => .bad)
    | .obs _ => .bad
  | .asgO i e, s, h => .ofR s (evE T F G e s h) fun sv h1 => match sv with
    | .own d => if i < s.length then .next (s.set i (some (.own d))) h1 else .bad
    | _ => .bad
  | .aug i o e, s, h => match s[i]? with
    | some (some (.val x)) => .ofR s ((evE T F G e s h).bindO fun y h1 => binD o x y h1) fun sv h1 => match sv with
      | .val (.int k) => .next (s.set i (some (.val (.int k)))) h1
      | .val (.str k) => .next (s.set i (some (.val (.str k)))) h1
      | _ => .bad
    | _ => .bad
  | .setS i k v, s, h => if canPut s i then .ofR s ((evE T F G v s h).bindV fun y h1 => (evE T F G k s h1).bindO fun x h2 => .ok (x, y) h2) fun p h1 => putAt s i (fun d => setD d p.1 p.2) h1 else .bad
  | .setH o k v, s, h => .ofR s ((evE T F G v s h).bindV fun y h1 => (evE T F G o s h1).bindV fun z h2 => (evE T F G k s h2).bindO fun x h3 => .ok (z, x, y) h3) fun p h1 => match p.1 with
    | .ref n => (match (h1[n]?).bind fun d => setD d p.2.1 p.2.2 with
      | some d' => .next s (h1.set n d')
      | none => .bad)
    | _ => .bad
  | .fldS i f e, s, h => if canPut s i then .ofR s ((evE T F G e s h).bindV fun y h1 => .ok y h1) fun y h1 => putAt s i (fun d => fldD T f d y) h1 else .bad
  | .fldH _ _ _, _, _ => .bad
  | .mutS m i as, s, h => if canPut s i then .ofR s (evEs T F G as s h) fun l h1 => match toVs l with
    | some ds => putAt s i (fun d => (muD m d ds h1).map (·.1)) h1
    | none => .bad else .bad
  | .mutH m o as, s, h => .ofR s ((evE T F G o s h).bindV fun x h1 => (evEs T F G as s h1).bind fun l h2 => .ok (x, l) h2) fun p h1 => match p.1, toVs p.2 with
    | .ref n, some ds => (match (h1[n]?).bind fun d => muD m d ds h1 with
      | some q => .next s (h1.set n q.1)
      | none => .bad)
    | _, _ => .bad
  | .frz i, s, h => match s[i]? with
    | some (some (.own d)) => .next (s.set i (some (.val d))) h
    | _ => .next s h
  | .expr e, s, h => .ofR s (evE T F G e s h) fun _ h1 => .next s h1
  | .ife c a b, s, h => .ofR s ((evE T F G c s h).bindO trB) fun t h1 => if t then evSs a s h1 else evSs b s h1
  | .for tg it body, s, h => .ofR s (evIt T F G true it s h) fun m h1 => forL m.g (fTurn tg (fun s2 h2 => evSs body s2 h2)) m.xs s h1
  | .while n c body, s, h => whileL (fun s h => evE T F G c s h) (fun s h => evSs body s h) n s h
  | .ret e, s, h => .ofR s (evE T F G e s h) fun sv h1 => match sv with
    | .obs _ => .bad
    | sv => .ret sv h1
  | .retv i, s, h => match s[i]? with
    | some (some (.own d)) => .ret (.own d) h
    | some (some (.val d)) => .ret (.val d) h
    | _ => .bad
  | .retn, _, h => .ret (.val .non) h
  | .raise c as, s, h => .ofR s (evEs T F G as s h) fun l h1 => match toVs l with
    | some ds => .exc c ds s h1
    | none => .bad
  | .try body hs, s, h => match evSs body s h with
    | .exc c vs s1 h1 => evHs hs c vs s1 h1
    | r => r
  | .pass, s, h => .next s h
  | .cont, s, h => .cont s h
def evSs : ISs → List (Option SV) → List D → FR
  | .nil, s, h => .next s h
  | .cons a r, s, h => (evS a s h).andThen (evSs r)
def evHs : IHs → Nat → List D → List (Option SV) → List D → FR
  | .nil, c, vs, s, h => .exc c vs s h
  | .cons k o body r, c, vs, s, h => match T.isa c k with
    | some true => (match o with
    | some i => (match evSs body (s.set i (some (.val (.exc c vs)))) h with
      | .next s1 h1 => .next (s1.set i none) h1
      | .cont s1 h1 => .cont (s1.set i none) h1
      | .exc c vs s1 h1 => .exc c vs (s1.set i none) h1
      | r => r)
    | none => evSs body s h)
    | some false => evHs r c vs s h
    | none => .bad
end
end
/-- a def of the text: parameters, slots, body -/
structure Fn where
  np : Nat
  ns : Nat
  body : ISs
def startS (f : Fn) (ds : List D) : List (Option SV) := ds.map (fun d => some (.val d)) ++ List.replicate (f.ns - ds.length) none
section
variable (T : Tbl) (fn : Nat → Option Fn)
def runF (F : Nat → List D → List D → R SV) (G : Nat → Nat → List D → List D → R (List D)) (f : Fn) (ds : List D) (h : List D) : R SV :=
  if ds.length = f.np then (match evSs T F G f.body (startS f ds) h with
    | .next _ h1 => .ok (.val .non) h1
    | .ret v h1 => .ok v h1
    | .exc c vs _ h1 => .exc c vs h1
    | .cont _ _ => .bad
    | .bad => .bad) else .bad
def ownF (c : Nat) (o : Option (Option SV)) (h : List D) : R (List D) := match o with
  | some (some (.own (.ins k vs))) => if k = c then .ok vs h else .bad
  | _ => .bad
def runG (F : Nat → List D → List D → R SV) (G : Nat → Nat → List D → List D → R (List D)) (f : Fn) (c : Nat) (ds : List D) (h : List D) : R (List D) :=
  if ds.length + 1 = f.np then (match evSs T F G f.body ((startS f (.non :: ds)).set 0 (some (.own (.ins c [])))) h with
    | .next s h1 => ownF c s[0]? h1
    | .exc c vs _ h1 => .exc c vs h1
    | _ => .bad) else .bad
mutual
def callN : Nat → Nat → List D → List D → R SV
  | 0, _, _, _ => .bad
  | n + 1, f, ds, h => match fn f with
    | some b => runF T (callN n) (makeN n) b ds h
    | none => .bad
def makeN : Nat → Nat → Nat → List D → List D → R (List D)
  | 0, _, _, _, _ => .bad
  | n + 1, f, c, ds, h => match fn f with
    | some b => runG T (callN n) (makeN n) b c ds h
    | none => .bad
end
end
end SH
namespace SH
open PySem PySem.Spec PyProof.Rows L2

/-! ### steps -/
/-- behind a first part: what the next one may lean on -/
structure Nx (C : Cd) (P : Addr → Prop) (W : Wd) (H : Hp) (ds : List (Option SV)) (σ : L2.St) (P1 : Addr → Prop) (W1 : Wd) (H1 : Hp) (dh1 : List D) : Prop where
  sub : ∀ a, P a → P1 a
  ext : Ext P W H W1 H1
  pok : Pok P1 W1 H1
  hr : HR C W1 H1 dh1
  sr : SRe C P1 W1 H1 ds σ
/-- an operand: a value, or a thing that is looked at -/
def OR (C : Cd) (P : Addr → Prop) (W : Wd) (H : Hp) (d : D) (v : V) : Prop := VR C W H d v ∨ ∃ a, v = .ref a ∧ CR C W H d a ∧ P a ∧ ¬ W.F a
def froz (W : Wd) (a : Addr) : Wd := { W with F := fun b => W.F b ∨ b = a }

section
variable {C : Cd} {Wx : WX} {P P1 : Addr → Prop} {W W1 : Wd} {H H1 : Hp} {σ : L2.St} {α β : Type} {oc : Oc α β} {Q : β → Hp → Prop} {dh : List D} {ds : List (Option SV)}
theorem froz_ext {a : Addr} {P : Addr → Prop} (h : ¬ P a) : Ext P W H (froz W a) H :=
  ⟨Nat.le_refl _, fun _ _ => rfl, fun i h1 h2 => absurd h2 (Nat.not_lt.mpr h1), fun _ _ => rfl, fun _ h => .inl h, fun b h1 h2 => h2.resolve_right fun e => h (e ▸ h1), fun _ _ h => h, fun _ _ _ h => h⟩
theorem froz_ext' {a : Addr} (h : ¬ W.F a) : Ext W.F W H (froz W a) H := froz_ext h
theorem HR.froz {a : Addr} (hr : HR C W H dh) (h1 : ¬ W.F a) (h2 : ∀ i, i < W.n → W.rho i ≠ a) (h3 : H a ≠ none) : HR C (froz W a) H dh :=
  ⟨hr.len, fun i d e => (hr.cr i d e).ext (P := W.F) (fun _ z => z) (froz_ext' h1) rfl, hr.inj, fun i hi z => z.elim (hr.nofz i hi) (h2 i hi), fun b z => z.elim (hr.dom b) fun e => by rw [e]; exact h3⟩
theorem toV_ok {sv : SV} {v : V} {d : D} (rr : RR C P W H sv v) (hr : HR C W H dh) (e : toV sv = some d) : ∃ W2, Ext P W H W2 H ∧ HR C W2 H dh ∧ VR C W2 H d v := by
  cases sv with
  | val x =>
    cases e
    exact ⟨W, Ext.refl, hr, rr⟩
  | obs x => cases e
  | own x =>
    obtain ⟨a, rfl, c, p, f, s⟩ := rr
    have c' : CR C (froz W a) H x a := c.ext (P := W.F) (fun _ z => z) (froz_ext' f) rfl
    cases c' with
    | lst q r =>
      cases e
      exact ⟨froz W a, froz_ext p, hr.froz f s c.there, .lst (.inr rfl) q r⟩
    | dK q r =>
      cases e
      exact ⟨froz W a, froz_ext p, hr.froz f s c.there, .dK (.inr rfl) q r⟩
    | dT q r =>
      cases e
      exact ⟨froz W a, froz_ext p, hr.froz f s c.there, .dT (.inr rfl) q r⟩
    | ins q z r =>
      cases e
      exact ⟨froz W a, froz_ext p, hr.froz f s c.there, .ins (.inr rfl) q z r⟩
theorem toO_ok {sv : SV} {v : V} {d : D} (rr : RR C P W H sv v) (hr : HR C W H dh) (e : toO sv = some d) : ∃ W2, Ext P W H W2 H ∧ HR C W2 H dh ∧ OR C P W2 H d v := by
  cases sv with
  | val x =>
    cases e
    exact ⟨W, Ext.refl, hr, .inl rr⟩
  | obs x =>
    cases e
    exact ⟨W, Ext.refl, hr, .inr rr⟩
  | own x =>
    obtain ⟨W2, h1, h2, h3⟩ := toV_ok rr hr (sv := .own x) e
    exact ⟨W2, h1, h2, .inl h3⟩
theorem OR.weak (hq : ∀ a, P1 a → P a ∨ W.F a) {d : D} {v : V} (h : OR C P1 W H d v) : OR C P W H d v := h.imp id fun ⟨a, e, c, p, f⟩ => ⟨a, e, c, (hq a p).resolve_right f, f⟩
theorem OR.more (hp : ∀ a, P a → P1 a) {d : D} {v : V} (h : OR C P W H d v) : OR C P1 W H d v := h.imp id fun ⟨a, e, c, p, f⟩ => ⟨a, e, c, hp a p, f⟩
theorem Nx.or {P2 : Addr → Prop} {W2 : Wd} {H2 : Hp} {dh2 : List D} {d : D} {v : V} (hF : ∀ a, W.F a → P a) (x : Nx C P W H ds σ P2 W2 H2 dh2) (h : OR C P W H d v) : OR C P2 W2 H2 d v := by
  rcases h with h | ⟨a, e, c, p, f⟩
  · exact .inl (h.ext hF x.ext)
  · exact .inr ⟨a, e, c.ext hF x.ext (x.ext.keep a p), x.sub a p, fun z => f (x.ext.nofz a p z)⟩
theorem Nx.trans {P1 P2 : Addr → Prop} {W1 W2 : Wd} {H1 H2 : Hp} {dh1 dh2 : List D} (a : Nx C P W H ds σ P1 W1 H1 dh1) (b : Nx C P1 W1 H1 ds σ P2 W2 H2 dh2) : Nx C P W H ds σ P2 W2 H2 dh2 :=
  ⟨fun x h => b.sub x (a.sub x h), Ext.trans a.sub a.ext b.ext, b.pok, b.hr, b.sr⟩
theorem nx_of (pok : Pok P W H) (sr : SRe C P W H ds σ) (e : Ext P W H W1 H1) (hr : HR C W1 H1 dh) : Nx C P W H ds σ (fun a => P a ∨ W1.F a) W1 H1 dh :=
  ⟨fun _ h => .inl h, e, pok.next e hr, hr, sr.ext (fun _ h => .inl h) pok.fz e⟩
theorem gG.mono {f : List (Option SV) → List D → R α} {Q' : β → Hp → Prop} (h : gG oc C Wx f σ H Q) (hq : ∀ v H, Q v H → Q' v H) : gG oc C Wx f σ H Q' := by
  obtain ⟨P, W, ds, dh, pok, hr, sr, kn⟩ := h
  exact ⟨P, W, ds, dh, pok, hr, sr, kn.mono hq⟩

/-- a first part, whatever comes of it -/
theorem gG_step {γ δ : Type} {oc1 : Oc γ δ} {f : List (Option SV) → List D → R γ} {k : γ → List D → R α} (pok : Pok P W H) (hr : HR C W H dh) (sr : SRe C P W H ds σ) (kn : Kn oc C Wx P W H σ Q ((f ds dh).bind k)) :
    gG oc1 C Wx f σ H fun v H1 => ∃ P1 W1 sv dh1, Nx C P W H ds σ P1 W1 H1 dh1 ∧ oc1.rel C P W1 H1 sv v ∧ (∀ a, P1 a → P a ∨ W1.F a) ∧ Kn oc C Wx P1 W1 H1 σ Q (k sv dh1) := by
  refine ⟨P, W, ds, dh, pok, hr, sr, (Kn.bind (oc := oc1) kn).mono fun v H1 ⟨sv, W1, dh1, e, hr1, rr, kn1⟩ => ?_⟩
  exact ⟨_, W1, sv, dh1, nx_of pok sr e hr1, rr, fun _ h => h, kn1.more (fun _ h => .inl h) fun _ h => h⟩
theorem gE_stepV {f : List (Option SV) → List D → R SV} {k : D → List D → R α} (pok : Pok P W H) (hr : HR C W H dh) (sr : SRe C P W H ds σ) (kn : Kn oc C Wx P W H σ Q ((f ds dh).bindV k)) :
    gE C Wx f σ H fun v H1 => ∃ P1 W1 d dh1, Nx C P W H ds σ P1 W1 H1 dh1 ∧ VR C W1 H1 d v ∧ Kn oc C Wx P1 W1 H1 σ Q (k d dh1) := by
  refine ⟨P, W, ds, dh, pok, hr, sr, (Kn.bind (oc := ocV) kn).mono fun v H1 ⟨sv, W1, dh1, e, hr1, rr, kn1⟩ => ?_⟩
  cases et : toV sv with
  | none => rw [et] at kn1; exact kn1.elim
  | some d =>
    rw [et] at kn1
    obtain ⟨W2, e2, hr2, vr⟩ := toV_ok rr hr1 et
    exact ⟨_, W2, d, dh1, nx_of pok sr (e.trans (fun _ z => z) e2) hr2, vr, (Kn.step e2 kn1).more (fun _ h => .inl h) fun _ h => h⟩
theorem gE_stepO {f : List (Option SV) → List D → R SV} {k : D → List D → R α} (pok : Pok P W H) (hr : HR C W H dh) (sr : SRe C P W H ds σ) (kn : Kn oc C Wx P W H σ Q ((f ds dh).bindO k)) :
    gE C Wx f σ H fun v H1 => ∃ P1 W1 d dh1, Nx C P W H ds σ P1 W1 H1 dh1 ∧ OR C P1 W1 H1 d v ∧ Kn oc C Wx P1 W1 H1 σ Q (k d dh1) := by
  refine ⟨P, W, ds, dh, pok, hr, sr, (Kn.bind (oc := ocV) kn).mono fun v H1 ⟨sv, W1, dh1, e, hr1, rr, kn1⟩ => ?_⟩
  cases et : toO sv with
  | none => rw [et] at kn1; exact kn1.elim
  | some d =>
    rw [et] at kn1
    obtain ⟨W2, e2, hr2, vr⟩ := toO_ok rr hr1 et
    exact ⟨_, W2, d, dh1, nx_of pok sr (e.trans (fun _ z => z) e2) hr2, vr.more fun _ h => .inl h, (Kn.step e2 kn1).more (fun _ h => .inl h) fun _ h => h⟩
/-- an argument -/
def FR' (C : Cd) (P : Addr → Prop) (W : Wd) (H : Hp) : SV → V → Prop
  | .val d, v => VR C W H d v
  | .own _, _ => False
  | .obs d, v => ∃ a, v = .ref a ∧ CR C W H d a ∧ P a ∧ ¬ W.F a
theorem FR'.weak (hq : ∀ a, P1 a → P a ∨ W.F a) {s : SV} {v : V} (h : FR' C P1 W H s v) : FR' C P W H s v := by
  cases s with
  | val d => exact h
  | own d => exact h.elim
  | obs d => exact let ⟨a, e, c, p, f⟩ := h; ⟨a, e, c, (hq a p).resolve_right f, f⟩
theorem FR'.more (hp : ∀ a, P a → P1 a) {s : SV} {v : V} (h : FR' C P W H s v) : FR' C P1 W H s v := by
  cases s with
  | val d => exact h
  | own d => exact h.elim
  | obs d => exact let ⟨a, e, c, p, f⟩ := h; ⟨a, e, c, hp a p, f⟩
theorem Nx.fr {P2 : Addr → Prop} {W2 : Wd} {H2 : Hp} {dh2 : List D} {s : SV} {v : V} (hF : ∀ a, W.F a → P a) (x : Nx C P W H ds σ P2 W2 H2 dh2) (h : FR' C P W H s v) : FR' C P2 W2 H2 s v := by
  cases s with
  | val d => exact VR.ext h hF x.ext
  | own d => exact h.elim
  | obs d =>
    obtain ⟨a, e, c, p, f⟩ := h
    exact ⟨a, e, c.ext hF x.ext (x.ext.keep a p), x.sub a p, fun z => f (x.ext.nofz a p z)⟩
theorem toF_ok {sv : SV} {v : V} (rr : RR C P W H sv v) (hr : HR C W H dh) : ∃ W2, Ext P W H W2 H ∧ HR C W2 H dh ∧ FR' C P W2 H (toF sv) v := by
  cases sv with
  | val x => exact ⟨W, Ext.refl, hr, rr⟩
  | obs x => exact ⟨W, Ext.refl, hr, rr⟩
  | own x =>
    obtain ⟨W2, h1, h2, h3⟩ := toV_ok rr hr (sv := .own x) rfl
    exact ⟨W2, h1, h2, h3⟩
theorem gE_stepF {f : List (Option SV) → List D → R SV} {k : SV → List D → R α} (pok : Pok P W H) (hr : HR C W H dh) (sr : SRe C P W H ds σ) (kn : Kn oc C Wx P W H σ Q ((f ds dh).bindF k)) :
    gE C Wx f σ H fun v H1 => ∃ P1 W1 d dh1, Nx C P W H ds σ P1 W1 H1 dh1 ∧ FR' C P1 W1 H1 d v ∧ Kn oc C Wx P1 W1 H1 σ Q (k d dh1) := by
  refine ⟨P, W, ds, dh, pok, hr, sr, (Kn.bind (oc := ocV) kn).mono fun v H1 ⟨sv, W1, dh1, e, hr1, rr, kn1⟩ => ?_⟩
  obtain ⟨W2, e2, hr2, vr⟩ := toF_ok rr hr1
  exact ⟨_, W2, _, dh1, nx_of pok sr (e.trans (fun _ z => z) e2) hr2, vr.more fun _ h => .inl h, (Kn.step e2 kn1).more (fun _ h => .inl h) fun _ h => h⟩
/-- arguments -/
inductive FRs (C : Cd) (P : Addr → Prop) (W : Wd) (H : Hp) : List SV → List V → Prop
  | nil : FRs C P W H [] []
  | cons {s : SV} {v : V} {ss : List SV} {vs : List V} : FR' C P W H s v → FRs C P W H ss vs → FRs C P W H (s :: ss) (v :: vs)
theorem FRs.weak (hq : ∀ a, P1 a → P a ∨ W.F a) {s : List SV} {v : List V} (h : FRs C P1 W H s v) : FRs C P W H s v := by
  induction h with
  | nil => exact .nil
  | cons a _ ih => exact .cons (a.weak hq) ih
theorem FRs.more (hp : ∀ a, P a → P1 a) {s : List SV} {v : List V} (h : FRs C P W H s v) : FRs C P1 W H s v := by
  induction h with
  | nil => exact .nil
  | cons a _ ih => exact .cons (a.more hp) ih
theorem Nx.frs {P2 : Addr → Prop} {W2 : Wd} {H2 : Hp} {dh2 : List D} {s : List SV} {v : List V} (hF : ∀ a, W.F a → P a) (x : Nx C P W H ds σ P2 W2 H2 dh2) (h : FRs C P W H s v) : FRs C P2 W2 H2 s v := by
  induction h with
  | nil => exact .nil
  | cons a _ ih => exact .cons (x.fr hF a) ih
/-- an outcome that is there at once -/
theorem Kn.val {Q : VK} {d : D} {v : V} (hr : HR C W H dh) (vr : VR C W H d v) (kn : Kn ocV C Wx P W H σ Q (.ok (.val d) dh)) : Q v H := kn W v H Ext.refl hr vr
/-- the heap got a new object that nothing holds -/
theorem new_ext {p : Addr} {o : HO} (pok : Pok P W H) (hn : H p = none) : Ext P W H W (upd H p o) :=
  ⟨Nat.le_refl _, fun _ _ => rfl, fun i h1 h2 => absurd h2 (Nat.not_lt.mpr h1), fun a h => upd_ne fun e => pok.dom a h (e ▸ hn), fun _ h => h, fun _ _ h => h,
    fun a xs h => by rw [upd_ne (ne_of_none h hn)]; exact h, fun a o' u h => by rw [upd_ne (ne_of_none h hn)]; exact h⟩
theorem new_fext {p : Addr} {o : HO} (hr : HR C W H dh) (hn : H p = none) : Ext W.F W H W (upd H p o) :=
  ⟨Nat.le_refl _, fun _ _ => rfl, fun i h1 h2 => absurd h2 (Nat.not_lt.mpr h1), fun a h => upd_ne fun e => hr.dom a h (e ▸ hn), fun _ h => h, fun _ _ h => h,
    fun a xs h => by rw [upd_ne (ne_of_none h hn)]; exact h, fun a o' u h => by rw [upd_ne (ne_of_none h hn)]; exact h⟩
theorem HR.new {p : Addr} {o : HO} (hr : HR C W H dh) (hn : H p = none) : HR C W (upd H p o) dh := by
  have ne : ∀ b, H b ≠ none → b ≠ p := fun b h e => h (e ▸ hn)
  refine ⟨hr.len, fun i d e => (hr.cr i d e).ext (P := W.F) (fun _ z => z) (new_fext hr hn) (upd_ne (ne _ (hr.cr i d e).there)), hr.inj, hr.nofz, fun a h => ?_⟩
  rw [upd_ne (ne a (hr.dom a h))]
  exact hr.dom a h
theorem Kn.tup {Q : VK} {xs : List D} {vs : List V} {p : Addr} (pok : Pok P W H) (hr : HR C W H dh) (vr : VRs C W H xs vs) (hn : H p = none) (kn : Kn ocV C Wx P W H σ Q (.ok (.val (.tup xs)) dh)) : Q (.ref p) (upd H p (.tup vs)) :=
  kn W _ _ (new_ext pok hn) (hr.new hn) (.tup upd_same (vr.ext pok.fz (new_ext pok hn)))
/-- a new own thing -/
theorem Kn.own {Q : VK} {d : D} {o : HO} {p : Addr} (pok : Pok P W H) (hr : HR C W H dh) (hn : H p = none) (cr : CR C W (upd H p o) d p) (kn : Kn ocV C Wx P W H σ Q (.ok (.own d) dh)) : Q (.ref p) (upd H p o) :=
  kn W _ _ (new_ext pok hn) (hr.new hn) ⟨p, rfl, cr, fun h => pok.dom p h hn, fun h => hr.dom p h hn, fun i hi e => hr.there hi (e ▸ hn)⟩
theorem Kn.lst {Q : VK} {xs : List D} {vs : List V} {p : Addr} (pok : Pok P W H) (hr : HR C W H dh) (vr : VRs C W H xs vs) (hn : H p = none) (kn : Kn ocV C Wx P W H σ Q (.ok (.own (.lst xs)) dh)) : Q (.ref p) (upd H p (.lst vs)) :=
  Kn.own pok hr hn (.lst upd_same (vr.ext pok.fz (new_ext pok hn))) kn

/-! ### what an operand's content tells -/
theorem OR.cr {d : D} {v : V} (h : OR C P W H d v) (hr : HR C W H dh) {n : Nat} (e : d = .ref n) {x : D} (hx : dh[n]? = some x) : v = .ref (W.rho n) ∧ CR C W H x (W.rho n) := by
  subst e
  rcases h with h | ⟨a, rfl, c, _⟩
  · cases h
    exact ⟨rfl, hr.cr n x hx⟩
  · cases c
/-- a list's items -/
theorem OR.lst {d : D} {v : V} {xs : List D} (h : OR C P W H d v) (hr : HR C W H dh) (e : deref dh d = .lst xs) : ∃ a vs, v = .ref a ∧ H a = some (.lst vs) ∧ VRs C W H xs vs := by
  cases d with
  | lst ys =>
    cases e
    rcases h with h | ⟨a, rfl, c, _⟩
    · cases h with | lst f q r => exact ⟨_, _, rfl, q, r⟩
    · cases c with | lst q r => exact ⟨_, _, rfl, q, r⟩
  | ref n =>
    cases hx : dh[n]? with
    | none => simp [deref, hx] at e
    | some x =>
      simp only [deref, hx] at e
      subst e
      obtain ⟨rfl, c⟩ := h.cr hr rfl hx
      cases c with | lst q r => exact ⟨_, _, rfl, q, r⟩
  | _ => cases e
theorem OR.scr {d : D} {v : V} {ns : List Int} (h : OR C P W H d v) (hr : HR C W H dh) (e : deref dh d = .scr ns) : ∃ a, v = .ref a ∧ SqL C.K H a (ns.map V.int) := by
  cases d with
  | scr ys =>
    cases e
    rcases h with h | ⟨a, rfl, c, _⟩
    · cases h with
      | scrF q => exact ⟨_, rfl, .inl (.inr ⟨_, q⟩)⟩
      | scrK q => exact ⟨_, rfl, .inr q⟩
    · cases c
  | ref n =>
    cases hx : dh[n]? with
    | none => simp [deref, hx] at e
    | some x =>
      simp only [deref, hx] at e
      subst e
      obtain ⟨rfl, c⟩ := h.cr hr rfl hx
      cases c
  | _ => cases e
theorem OR.tup {d : D} {v : V} {xs : List D} (h : OR C P W H d v) (hr : HR C W H dh) (e : deref dh d = .tup xs) : ∃ a vs, v = .ref a ∧ H a = some (.tup vs) ∧ VRs C W H xs vs := by
  cases d with
  | tup ys =>
    cases e
    rcases h with h | ⟨a, rfl, c, _⟩
    · cases h with | tup q r => exact ⟨_, _, rfl, q, r⟩
    · cases c
  | ref n =>
    cases hx : dh[n]? with
    | none => simp [deref, hx] at e
    | some x =>
      simp only [deref, hx] at e
      subst e
      obtain ⟨rfl, c⟩ := h.cr hr rfl hx
      cases c
  | _ => cases e
theorem VRs.ints {ns : List Int} {vs : List V} (h : VRs C W H (ns.map D.int) vs) : vs = ns.map V.int := by
  induction ns generalizing vs with
  | nil => cases h; rfl
  | cons n ns ih =>
    cases h with
    | cons a b =>
      cases a
      rw [ih b, List.map_cons]
theorem vrs_ints (ns : List Int) : VRs C W H (ns.map D.int) (ns.map V.int) := by
  induction ns with
  | nil => exact .nil
  | cons n ns ih => exact .cons (.int n) ih
/-- an operand that is no shared object is what it says -/
theorem OR.plain {d : D} {v : V} {x : D} (h : OR C P W H d v) (hr : HR C W H dh) (e : deref dh d = x) (hx : ∀ y a, CR C W H y a → y ≠ x) : VR C W H x v := by
  cases d with
  | ref n =>
    cases hq : dh[n]? with
    | none =>
      simp only [deref, hq] at e
      subst e
      rcases h with h | ⟨a, rfl, c, _⟩
      · exact h
      · cases c
    | some y =>
      simp only [deref, hq] at e
      subst e
      obtain ⟨rfl, c⟩ := h.cr hr rfl hq
      exact absurd rfl (hx _ _ c)
  | _ =>
    subst e
    rcases h with h | ⟨a, rfl, c, _⟩
    · exact h
    · exact absurd rfl (hx _ _ c)
theorem OR.int {d : D} {v : V} {i : Int} (h : OR C P W H d v) (hr : HR C W H dh) (e : deref dh d = .int i) : v = .int i := by
  have z := h.plain hr e fun y a c q => by subst q; cases c
  cases z
  rfl
theorem OR.str {d : D} {v : V} {i : Str} (h : OR C P W H d v) (hr : HR C W H dh) (e : deref dh d = .str i) : v = .str i := by
  have z := h.plain hr e fun y a c q => by subst q; cases c
  cases z
  rfl
theorem OR.bl {d : D} {v : V} {i : Bool} (h : OR C P W H d v) (hr : HR C W H dh) (e : deref dh d = .bl i) : v = .bl i := by
  have z := h.plain hr e fun y a c q => by subst q; cases c
  cases z
  rfl
theorem OR.non {d : D} {v : V} (h : OR C P W H d v) (hr : HR C W H dh) (e : deref dh d = .non) : v = .non := by
  have z := h.plain hr e fun y a c q => by subst q; cases c
  cases z
  rfl
end

abbrev ocA : Oc (List SV) (List V) := ⟨FRs, fun _ hq h => FRs.weak hq h⟩
/-! ### leaves -/
section
variable {X : Cx} {C : Cd} {Wx : WX} {pos : Pos}
theorem se_int {i : Int} {j : Nat} : PE X (.Constant (.int i) j pos) (gE C Wx fun _ h => vOk (.int i) h) :=
  PE.mono pe_int fun σ H Q ⟨P, W, ds, dh, pok, hr, sr, kn⟩ => Kn.val hr (.int i) kn
theorem se_bl {b : Bool} {j : Nat} : PE X (.Constant (.bool b) j pos) (gE C Wx fun _ h => vOk (.bl b) h) :=
  PE.mono pe_bl fun σ H Q ⟨P, W, ds, dh, pok, hr, sr, kn⟩ => Kn.val hr (.bl b) kn
theorem se_non {j : Nat} : PE X (.Constant .none j pos) (gE C Wx fun _ h => vOk .non h) :=
  PE.mono pe_non fun σ H Q ⟨P, W, ds, dh, pok, hr, sr, kn⟩ => Kn.val hr .non kn
theorem se_str {x : Str} {j : Nat} : PE X (.Constant (.str x) j pos) (gE C Wx fun _ h => vOk (.str x) h) :=
  PE.mono pe_str fun σ H Q ⟨P, W, ds, dh, pok, hr, sr, kn⟩ => Kn.val hr (.str x) kn
theorem se_var {i : Nat} {x : Str} (T : Tbl) (F : Nat → List D → List D → R SV) (G : Nat → Nat → List D → List D → R (List D)) (hN : X.N[i]? = some x) (hv : Vis X.env.scope x) (hd : (x == ("__debug__" : Str)) = false) (hcd : (x == ("__classdict__" : Str)) = false) :
    PE X (.Name x pos) (gE C Wx (evE T F G (.var i))) := by
  refine PE.mono (pe_var hN hv hd hcd) fun σ H Q ⟨P, W, ds, dh, pok, hr, sr, kn⟩ => ?_
  unfold evE at kn
  cases e : ds[i]? with
  | none => rw [e] at kn; exact kn.elim
  | some o =>
    rw [e] at kn
    cases o with
    | none => exact kn.elim
    | some sv =>
      obtain ⟨v, h1, h2⟩ := sr.2 i sv e
      refine ⟨v, h1, ?_⟩
      cases sv with
      | val d => exact Kn.val hr h2 kn
      | own d =>
        obtain ⟨a, e1, c, p, f⟩ := h2
        exact kn W v H Ext.refl hr ⟨a, e1, c, p, f⟩
      | obs d => exact h2.elim
end
end SH
namespace SH
open PySem PySem.Spec PyProof.Rows L2

/-! ### data of any depth, compared -/
section
variable {X : Cx}
def rEqP (K : PySem.W.Frag) (g : Bool → Bool) : R2 := fun x y H Q => ∃ d e, Dp K H x d ∧ Dp K H y e ∧ d.plain = true ∧ e.plain = true ∧ min d.depth e.depth ≤ 64 ∧ Q (.bl (g (PyData.eqv d e))) H
theorem op_eqP (hu : X.A.units + 100 < cLine) : OpR X (compareOp .Eq) (rEqP X.K id) := by
  intro pins s σ H x y v u Q I rx ry h
  obtain ⟨d, e, hd, he, sd, se, hz, q⟩ := h
  obtain ⟨as, r1⟩ := Dp.reads I d x v hd rx
  obtain ⟨bs, r2⟩ := Dp.reads I e y u he ry
  exact SeqAt.eq_plain r1 r2 sd se (by omega) ⟨.bl _, H, I, rfl, q⟩
theorem op_neP (hu : X.A.units + 100 < cLine) : OpR X (compareOp .NotEq) (rEqP X.K not) := by
  intro pins s σ H x y v u Q I rx ry h
  obtain ⟨d, e, hd, he, sd, se, hz, q⟩ := h
  obtain ⟨as, r1⟩ := Dp.reads I d x v hd rx
  obtain ⟨bs, r2⟩ := Dp.reads I e y u he ry
  exact SeqAt.ne_plain r1 r2 sd se (by omega) ⟨.bl _, H, I, rfl, q⟩
def rInP (K : PySem.W.Frag) (g : Bool → Bool) : R2 := fun x y H Q => ∃ d ds, Dp K H x d ∧ (Dp K H y (.list ds) ∨ Dp K H y (.tuple ds)) ∧ d.plain = true ∧ PyData.plainAll ds = true ∧ min (PyData.depthAll ds) d.depth ≤ 64 ∧ Q (.bl (g (ds.any fun z => PyData.eqv z d))) H
theorem op_inP (hu : X.A.units + 100 < cLine) : OpR X (compareOp .In) (rInP X.K id) := by
  intro pins s σ H x y v u Q I rx ry h
  obtain ⟨d, ds, hd, he, sd, se, hz, q⟩ := h
  obtain ⟨as, r1⟩ := Dp.reads I d x v hd rx
  rcases he with he | he
  · obtain ⟨bs, r2⟩ := Dp.reads I (.list ds) y u he ry
    exact SeqAt.in_list_data r2 r1 se sd (by omega) ⟨.bl _, H, I, rfl, q⟩
  · obtain ⟨bs, r2⟩ := Dp.reads I (.tuple ds) y u he ry
    exact SeqAt.in_tuple_data r2 r1 se sd (by omega) ⟨.bl _, H, I, rfl, q⟩
theorem op_ninP (hu : X.A.units + 100 < cLine) : OpR X (compareOp .NotIn) (rInP X.K not) := by
  intro pins s σ H x y v u Q I rx ry h
  obtain ⟨d, ds, hd, he, sd, se, hz, q⟩ := h
  obtain ⟨as, r1⟩ := Dp.reads I d x v hd rx
  rcases he with he | he
  · obtain ⟨bs, r2⟩ := Dp.reads I (.list ds) y u he ry
    exact SeqAt.notIn_list_data r2 r1 se sd (by omega) ⟨.bl _, H, I, rfl, q⟩
  · obtain ⟨bs, r2⟩ := Dp.reads I (.tuple ds) y u he ry
    exact SeqAt.notIn_tuple_data r2 r1 se sd (by omega) ⟨.bl _, H, I, rfl, q⟩
/-- a key asked of a dict -/
def rDin (g : Bool → Bool) : R2 := fun y x H Q => ∃ a o, x = .ref a ∧ DGet H a y o ∧ Q (.bl (g o.isSome)) H
theorem op_din (hu : X.A.units + 100 < cLine) : OpR X (compareOp .In) (rDin id) := by
  intro pins s σ H x y v u Q I rx ry h
  obtain ⟨a, o, rfl, g, q⟩ := h
  cases ry
  exact d_in (by omega) I g rx fun s' I' => ⟨.bl _, H, I', rfl, q⟩
theorem op_dnin (hu : X.A.units + 100 < cLine) : OpR X (compareOp .NotIn) (rDin not) := by
  intro pins s σ H x y v u Q I rx ry h
  obtain ⟨a, o, rfl, g, q⟩ := h
  cases ry
  exact d_notIn (by omega) I g rx fun s' I' => ⟨.bl _, H, I', rfl, q⟩
theorem op_lt_str' : OpR X (compareOp .Lt) (fun x y H Q => ∃ i j, x = .str i ∧ y = .str j ∧ Q (.bl (decide (i.cps.toList < j.cps.toList))) H) := op_lt_str
end

mutual
theorem D.py_plain : ∀ (d : D) (p : PyData), d.py = some p → p.plain = true
  | .non, p, h => by cases h; rfl
  | .bl b, p, h => by cases h; rfl
  | .int i, p, h => by cases h; rfl
  | .str x, p, h => by cases h; rfl
  | .tup xs, p, h => by
    unfold D.py at h
    cases e : D.pys xs with
    | none => rw [e] at h; cases h
    | some ps => rw [e] at h; cases h; exact D.pys_plain xs ps e
  | .lst xs, p, h => by
    unfold D.py at h
    cases e : D.pys xs with
    | none => rw [e] at h; cases h
    | some ps => rw [e] at h; cases h; exact D.pys_plain xs ps e
  | .scr _, p, h => by cases h
  | .dK _ _, p, h => by cases h
  | .dT _ _, p, h => by cases h
  | .ins _ _, p, h => by cases h
  | .exc _ _, p, h => by cases h
  | .ref _, p, h => by cases h
theorem D.pys_plain : ∀ (ds : List D) (ps : List PyData), D.pys ds = some ps → PyData.plainAll ps = true
  | [], ps, h => by cases h; rfl
  | d :: ds, ps, h => by
    unfold D.pys at h
    cases e : D.py d with
    | none => rw [e] at h; cases h
    | some p =>
      cases e2 : D.pys ds with
      | none => rw [e, e2] at h; cases h
      | some qs =>
        rw [e, e2] at h
        cases h
        show (p.plain && PyData.plainAll qs) = true
        rw [D.py_plain d p e, D.pys_plain ds qs e2]
        rfl
end
section
variable {C : Cd} {Wx : WX} {P : Addr → Prop} {W : Wd} {H : Hp} {σ : L2.St} {Q : VK} {dh : List D}
mutual
theorem VR.dp : ∀ (d : D) (p : PyData) (v : V), d.py = some p → VR C W H d v → Dp C.K H v p
  | .non, p, v, h, r => by cases h; cases r; exact .non
  | .bl b, p, v, h, r => by cases h; cases r; exact .bl b
  | .int i, p, v, h, r => by cases h; cases r; exact .int i
  | .str x, p, v, h, r => by cases h; cases r; exact .str x
  | .tup xs, p, v, h, r => by
    unfold D.py at h
    cases e : D.pys xs with
    | none => rw [e] at h; cases h
    | some ps => rw [e] at h; cases h; cases r with | tup q r => exact .tup (.of q) (VRs.dp xs ps _ e r)
  | .lst xs, p, v, h, r => by
    unfold D.py at h
    cases e : D.pys xs with
    | none => rw [e] at h; cases h
    | some ps => rw [e] at h; cases h; cases r with | lst f q r => exact .lst (.of q) (VRs.dp xs ps _ e r)
  | .scr _, p, v, h, r => by cases h
  | .dK _ _, p, v, h, r => by cases h
  | .dT _ _, p, v, h, r => by cases h
  | .ins _ _, p, v, h, r => by cases h
  | .exc _ _, p, v, h, r => by cases h
  | .ref _, p, v, h, r => by cases h
theorem VRs.dp : ∀ (ds : List D) (ps : List PyData) (vs : List V), D.pys ds = some ps → VRs C W H ds vs → DpAll C.K H vs ps
  | [], ps, vs, h, r => by cases h; cases r; exact .nil
  | d :: ds, ps, vs, h, r => by
    unfold D.pys at h
    cases e : D.py d with
    | none => rw [e] at h; cases h
    | some p =>
      cases e2 : D.pys ds with
      | none => rw [e, e2] at h; cases h
      | some qs =>
        rw [e, e2] at h
        cases h
        cases r with
        | cons a b => exact .cons (VR.dp d p _ e a) (VRs.dp ds qs _ e2 b)
end
theorem OR.dp {d : D} {v : V} {p : PyData} (h : OR C P W H d v) (hr : HR C W H dh) (e : (deref dh d).py = some p) : Dp C.K H v p := by
  cases hx : deref dh d with
  | non => rw [hx] at e; cases e; rw [h.non hr hx]; exact .non
  | bl b => rw [hx] at e; cases e; rw [h.bl hr hx]; exact .bl b
  | int i => rw [hx] at e; cases e; rw [h.int hr hx]; exact .int i
  | str x => rw [hx] at e; cases e; rw [h.str hr hx]; exact .str x
  | tup xs =>
    rw [hx] at e
    unfold D.py at e
    cases e1 : D.pys xs with
    | none => rw [e1] at e; cases e
    | some ps =>
      rw [e1] at e; cases e
      obtain ⟨a, vs, rfl, q, r⟩ := h.tup hr hx
      exact .tup (.of q) (VRs.dp xs ps _ e1 r)
  | lst xs =>
    rw [hx] at e
    unfold D.py at e
    cases e1 : D.pys xs with
    | none => rw [e1] at e; cases e
    | some ps =>
      rw [e1] at e; cases e
      obtain ⟨a, vs, rfl, q, r⟩ := h.lst hr hx
      exact .lst (.of q) (VRs.dp xs ps _ e1 r)
  | scr _ => rw [hx] at e; cases e
  | dK _ _ => rw [hx] at e; cases e
  | dT _ _ => rw [hx] at e; cases e
  | ins _ _ => rw [hx] at e; cases e
  | exc _ _ => rw [hx] at e; cases e
  | ref _ => rw [hx] at e; cases e
/-- a dict's entries -/
theorem OR.dK {d : D} {v : V} {ks : List Key} {xs : List D} (h : OR C P W H d v) (hr : HR C W H dh) (e : deref dh d = .dK ks xs) :
    ∃ a kvs, v = .ref a ∧ Rd H a (.dK kvs) ∧ ks = kvs.map (·.1) ∧ VRs C W H xs (kvs.map (·.2)) := by
  cases d with
  | dK ks' ys =>
    cases e
    rcases h with h | ⟨a, rfl, c, _⟩
    · cases h with
      | dK f q r => exact ⟨_, _, rfl, .inl q, rfl, r⟩
      | dKz q r => exact ⟨_, _, rfl, .inr ⟨_, q⟩, rfl, r⟩
    · cases c with
      | dK q r => exact ⟨a, _, rfl, .inl q, rfl, r⟩
  | ref n =>
    cases hx : dh[n]? with
    | none => simp [deref, hx] at e
    | some x =>
      simp only [deref, hx] at e
      subst e
      obtain ⟨rfl, c⟩ := h.cr hr rfl hx
      cases c with
      | dK q r => exact ⟨_, _, rfl, .inl q, rfl, r⟩
  | _ => cases e
theorem OR.dT {d : D} {v : V} {ks : List (List Key)} {xs : List D} (h : OR C P W H d v) (hr : HR C W H dh) (e : deref dh d = .dT ks xs) :
    ∃ a kvs, v = .ref a ∧ Rd H a (.dT kvs) ∧ ks = kvs.map (·.1) ∧ VRs C W H xs (kvs.map (·.2)) := by
  cases d with
  | dT ks' ys =>
    cases e
    rcases h with h | ⟨a, rfl, c, _⟩
    · cases h with
      | dT f q r => exact ⟨_, _, rfl, .inl q, rfl, r⟩
    · cases c with
      | dT q r => exact ⟨a, _, rfl, .inl q, rfl, r⟩
  | ref n =>
    cases hx : dh[n]? with
    | none => simp [deref, hx] at e
    | some x =>
      simp only [deref, hx] at e
      subst e
      obtain ⟨rfl, c⟩ := h.cr hr rfl hx
      cases c with
      | dT q r => exact ⟨_, _, rfl, .inl q, rfl, r⟩
  | _ => cases e
/-- the value at a key, on both sides -/
theorem valV_rel {κ : Type} [DecidableEq κ] (k : κ) : ∀ (kvs : List (κ × V)) (ds : List D), VRs C W H ds (kvs.map (·.2)) →
    (atKey (kvs.map (·.1)) ds k = none ∧ valV kvs k = none) ∨ ∃ d v, atKey (kvs.map (·.1)) ds k = some d ∧ valV kvs k = some v ∧ VR C W H d v
  | [], ds, h => by
    cases h
    exact .inl ⟨rfl, rfl⟩
  | p :: r, ds, h => by
    cases h with
    | cons a b =>
      rename_i d ds
      by_cases e : p.1 = k
      · refine .inr ⟨d, p.2, ?_, valV_pos e, a⟩
        simp [atKey, e]
      · rcases valV_rel k r ds b with ⟨h1, h2⟩ | ⟨d', v', h1, h2, h3⟩
        · refine .inl ⟨?_, by rw [valV_neg e]; exact h2⟩
          simp only [atKey, List.map_cons, List.zip_cons_cons, List.find?_cons, decide_eq_false e] at h1 ⊢
          exact h1
        · refine .inr ⟨d', v', ?_, by rw [valV_neg e]; exact h2, h3⟩
          simp only [atKey, List.map_cons, List.zip_cons_cons, List.find?_cons, decide_eq_false e] at h1 ⊢
          exact h1
theorem valV_some {κ : Type} [DecidableEq κ] (k : κ) (kvs : List (κ × V)) (ds : List D) (h : VRs C W H ds (kvs.map (·.2))) : (valV kvs k).isSome = (atKey (kvs.map (·.1)) ds k).isSome := by
  rcases valV_rel k kvs ds h with ⟨h1, h2⟩ | ⟨d, v, h1, h2, _⟩
  · rw [h1, h2]
    rfl
  · rw [h1, h2]
    rfl
theorem VR.key {d : D} {v : V} {k : Key} (h : VR C W H d v) (e : keyK d = some k) : v = kV k := by
  cases d with
  | int i => cases e; cases h; rfl
  | str i => cases e; cases h; rfl
  | _ => cases e
theorem keysK_ok : ∀ (xs : List D) (ks : List Key) (vs : List V), keysK xs = some ks → VRs C W H xs vs → vs = ks.map kV
  | [], ks, vs, h, r => by cases h; cases r; rfl
  | d :: xs, ks, vs, h, r => by
    cases r with
    | cons a b =>
      unfold keysK at h
      split at h <;> first | cases h | skip
      rename_i k ks' e1 e2
      rw [a.key e1, keysK_ok xs ks' _ e2 b]
      rfl
theorem OR.keyK {d : D} {v : V} {k : Key} (h : OR C P W H d v) (hr : HR C W H dh) (e : keyK (deref dh d) = some k) : v = kV k := by
  cases hx : deref dh d with
  | int i => rw [hx] at e; cases e; exact h.int hr hx
  | str i => rw [hx] at e; cases e; exact h.str hr hx
  | _ => rw [hx] at e; cases e
theorem OR.keyT {d : D} {v : V} {k : List Key} (h : OR C P W H d v) (hr : HR C W H dh) (e : keyT (deref dh d) = some k) : ∃ b, v = .ref b ∧ H b = some (.tup (k.map kV)) := by
  cases hx : deref dh d with
  | tup xs =>
    rw [hx] at e
    obtain ⟨a, vs, rfl, q, r⟩ := h.tup hr hx
    rw [keysK_ok xs k _ e r] at q
    exact ⟨a, rfl, q⟩
  | _ => rw [hx] at e; cases e
end
end SH
namespace SH
open PySem PySem.Spec PyProof.Rows L2

/-! ### operators -/
section
variable {X : Cx} {C : Cd} {Wx : WX} {pos : Pos} {a b : Expr} {fa fb : List (Option SV) → List D → R SV}
def f2 (fa fb : List (Option SV) → List D → R SV) (k : D → D → List D → R SV) : List (Option SV) → List D → R SV :=
  fun s h => (fa s h).bindO fun x h1 => (fb s h1).bindO fun y h2 => k (deref h2 x) (deref h2 y) h2
/-- two operands, and what is wanted of them -/
theorem two_ok {k : D → D → List D → R SV} {r : R2} (hk : ∀ (P : Addr → Prop) (W : Wd) (H : Hp) (dh : List D) (σ : L2.St) (Q : VK) (x y : D) (v u : V), Pok P W H → HR C W H dh → OR C P W H x v → OR C P W H y u → Kn ocV C Wx P W H σ Q (k (deref dh x) (deref dh y) dh) → r v u H Q)
    (σ : L2.St) (H : Hp) (Q : VK) (h : gE C Wx (f2 fa fb k) σ H Q) : tOp r (gE C Wx fa) (gE C Wx fb) σ H Q := by
  obtain ⟨P, W, ds, dh, pok, hr, sr, kn⟩ := h
  refine gG.mono (gE_stepO pok hr sr kn) fun v H1 ⟨P1, W1, x, dh1, n1, o1, kn1⟩ => ?_
  refine gG.mono (gE_stepO n1.pok n1.hr n1.sr kn1) fun u H2 ⟨P2, W2, y, dh2, n2, o2, kn2⟩ => ?_
  exact hk P2 W2 H2 dh2 σ Q x y v u n2.pok n2.hr (n2.or n1.pok.fz o1) o2 kn2
theorem se_bin {op : Operator} {o : BOp} {r : R2} (ho : OpR X (binaryOp op) r) (ha : PE X a (gE C Wx fa)) (hb : PE X b (gE C Wx fb))
    (hk : ∀ (P : Addr → Prop) (W : Wd) (H : Hp) (dh : List D) (σ : L2.St) (Q : VK) (x y : D) (v u : V), Pok P W H → HR C W H dh → OR C P W H x v → OR C P W H y u → Kn ocV C Wx P W H σ Q (binD o (deref dh x) (deref dh y) dh) → r v u H Q) :
    PE X (.BinOp a op b pos) (gE C Wx (f2 fa fb (binD o))) := PE.mono (pe_op ho ha hb) (two_ok hk)
theorem bin_sub (P : Addr → Prop) (W : Wd) (H : Hp) (dh : List D) (σ : L2.St) (Q : VK) (x y : D) (v u : V) (pok : Pok P W H) (hr : HR C W H dh) (ox : OR C P W H x v) (oy : OR C P W H y u) (kn : Kn ocV C Wx P W H σ Q (binD .sub (deref dh x) (deref dh y) dh)) :
    rI0 (fun i j => .int (i - j)) v u H Q := by
  unfold binD at kn
  split at kn <;> first | contradiction | exact kn.elim | skip
  exact ⟨_, _, ox.int hr ‹_›, oy.int hr ‹_›, Kn.val hr (.int _) kn⟩
theorem bin_mul (P : Addr → Prop) (W : Wd) (H : Hp) (dh : List D) (σ : L2.St) (Q : VK) (x y : D) (v u : V) (pok : Pok P W H) (hr : HR C W H dh) (ox : OR C P W H x v) (oy : OR C P W H y u) (kn : Kn ocV C Wx P W H σ Q (binD .mul (deref dh x) (deref dh y) dh)) :
    rI CMulW (fun i j => .int (i * j)) v u H Q := by
  unfold binD at kn
  split at kn <;> first | contradiction | exact kn.elim | skip
  split at kn <;> first | contradiction | exact kn.elim | skip
  rename_i h
  exact ⟨_, _, ox.int hr ‹_›, oy.int hr ‹_›, (by simpa [mulOk] using h : _ < _), Kn.val hr (.int _) kn⟩
theorem bin_fdiv (P : Addr → Prop) (W : Wd) (H : Hp) (dh : List D) (σ : L2.St) (Q : VK) (x y : D) (v u : V) (pok : Pok P W H) (hr : HR C W H dh) (ox : OR C P W H x v) (oy : OR C P W H y u) (kn : Kn ocV C Wx P W H σ Q (binD .fdiv (deref dh x) (deref dh y) dh)) :
    rI CDivW (fun i j => .int (i / j)) v u H Q := by
  unfold binD at kn
  split at kn <;> first | contradiction | exact kn.elim | skip
  split at kn <;> first | contradiction | exact kn.elim | skip
  rename_i h
  rw [Bool.and_eq_true, decide_eq_true_eq, decide_eq_true_eq] at h
  exact ⟨_, _, ox.int hr ‹_›, oy.int hr ‹_›, h, Kn.val hr (.int _) kn⟩
theorem bin_mod (P : Addr → Prop) (W : Wd) (H : Hp) (dh : List D) (σ : L2.St) (Q : VK) (x y : D) (v u : V) (pok : Pok P W H) (hr : HR C W H dh) (ox : OR C P W H x v) (oy : OR C P W H y u) (kn : Kn ocV C Wx P W H σ Q (binD .mod (deref dh x) (deref dh y) dh)) :
    rI (fun _ j => 0 < j) (fun i j => .int (i % j)) v u H Q := by
  unfold binD at kn
  split at kn <;> first | contradiction | exact kn.elim | skip
  split at kn <;> first | contradiction | exact kn.elim | skip
  rename_i h
  exact ⟨_, _, ox.int hr ‹_›, oy.int hr ‹_›, h, Kn.val hr (.int _) kn⟩
theorem bin_pow (P : Addr → Prop) (W : Wd) (H : Hp) (dh : List D) (σ : L2.St) (Q : VK) (x y : D) (v u : V) (pok : Pok P W H) (hr : HR C W H dh) (ox : OR C P W H x v) (oy : OR C P W H y u) (kn : Kn ocV C Wx P W H σ Q (binD .pow (deref dh x) (deref dh y) dh)) :
    rI CPow (fun i j => .int (i ^ j.toNat)) v u H Q := by
  unfold binD at kn
  split at kn <;> first | contradiction | exact kn.elim | skip
  split at kn <;> first | contradiction | exact kn.elim | skip
  rename_i h
  simp only [Bool.and_eq_true, decide_eq_true_eq] at h
  exact ⟨_, _, ox.int hr ‹_›, oy.int hr ‹_›, ⟨h.1.1, h.1.2, h.2⟩, Kn.val hr (.int _) kn⟩
def rAddA (K : PySem.W.Frag) : R2 := fun x y H Q => rI0 (fun i j => .int (i + j)) x y H Q ∨ (∃ i j, x = .str i ∧ y = .str j ∧ i.length + j.length ≤ sizeLine ∧ Q (.str (i ++ j)) H) ∨ rCatA K x y H Q ∨ rCat x y H Q
theorem op_addA : OpR X (binaryOp .Add) (rAddA X.K) := op_add.or (op_add_str.or (op_catA.or op_cat))
theorem bin_add (P : Addr → Prop) (W : Wd) (H : Hp) (dh : List D) (σ : L2.St) (Q : VK) (x y : D) (v u : V) (pok : Pok P W H) (hr : HR C W H dh) (ox : OR C P W H x v) (oy : OR C P W H y u) (kn : Kn ocV C Wx P W H σ Q (binD .add (deref dh x) (deref dh y) dh)) :
    rAddA C.K v u H Q := by
  unfold binD at kn
  split at kn <;> first | contradiction | exact kn.elim | skip
  · exact .inl ⟨_, _, ox.int hr ‹_›, oy.int hr ‹_›, Kn.val hr (.int _) kn⟩
  · split at kn <;> first | contradiction | exact kn.elim | skip
    exact .inr (.inl ⟨_, _, ox.str hr ‹_›, oy.str hr ‹_›, ‹_›, Kn.val hr (.str _) kn⟩)
  · split at kn <;> first | contradiction | exact kn.elim | skip
    rename_i h
    rw [Bool.and_eq_true, decide_eq_true_eq] at h
    obtain ⟨p, vs, rfl, q1, r1⟩ := ox.tup hr ‹_›
    obtain ⟨p', us, rfl, q2, r2⟩ := oy.tup hr ‹_›
    have h0 : vs ≠ [] := fun z => by
      subst z
      cases r1
      simp at h
    refine .inr (.inr (.inl ⟨_, _, vs, us, rfl, rfl, .of q1, .of q2, by rw [← r1.length, ← r2.length]; exact h.1, fun z => absurd z h0, fun _ z => ?_, fun _ _ p hp => ?_⟩))
    · subst z
      cases r2
      rw [List.append_nil] at kn
      exact Kn.val hr (.tup q1 r1) kn
    · exact Kn.tup pok hr (r1.append r2) hp kn
  · split at kn <;> first | contradiction | exact kn.elim | skip
    rename_i h
    obtain ⟨p, vs, rfl, q1, r1⟩ := ox.lst hr ‹_›
    obtain ⟨p', us, rfl, q2, r2⟩ := oy.lst hr ‹_›
    exact .inr (.inr (.inr ⟨_, _, vs, us, rfl, rfl, q1, q2, by rw [← r1.length, ← r2.length]; exact h, fun p hp => Kn.lst pok hr (r1.append r2) hp kn⟩))
theorem se_op (hK : X.K = C.K) {o : BOp} {op : Operator} (ho : (match o with | .add => Operator.Add | .sub => .Sub | .mul => .Mult | .fdiv => .FloorDiv | .mod => .Mod | .pow => .Pow) = op) (ha : PE X a (gE C Wx fa)) (hb : PE X b (gE C Wx fb)) :
    PE X (.BinOp a op b pos) (gE C Wx (f2 fa fb (binD o))) := by
  subst ho
  cases o with
  | add => exact se_bin op_addA ha hb (by rw [hK]; exact bin_add)
  | sub => exact se_bin op_sub ha hb bin_sub
  | mul => exact se_bin op_mulW ha hb bin_mul
  | fdiv => exact se_bin op_fdivW ha hb bin_fdiv
  | mod => exact se_bin op_mod ha hb bin_mod
  | pow => exact se_bin op_pow ha hb bin_pow
/-- -a -/
theorem se_neg (ha : PE X a (gE C Wx fa)) : PE X (.UnaryOp .USub a pos) (gE C Wx fun s h => (fa s h).bindO fun x h1 => match x with
    | .int i => vOk (.int (-i)) h1
    | _ => .bad) := by
  refine PE.mono (pe_un un_neg ha) fun σ H Q ⟨P, W, ds, dh, pok, hr, sr, kn⟩ => ?_
  refine gG.mono (gE_stepO pok hr sr kn) fun v H1 ⟨P1, W1, x, dh1, n1, o1, kn1⟩ => ?_
  split at kn1 <;> first | exact kn1.elim | skip
  exact ⟨_, o1.int n1.hr rfl, Kn.val n1.hr (.int _) kn1⟩

/-! ### comparisons -/
def opOf : COp → CmpOp
  | .eq => .Eq | .ne => .NotEq | .lt => .Lt | .le => .LtE | .gt => .Gt | .ge => .GtE | .isin => .In | .notin => .NotIn
def rCmp (K : PySem.W.Frag) : COp → R2
  | .eq => rEqP K id
  | .ne => rEqP K not
  | .lt => fun x y H Q => rI0 (fun i j => .bl (decide (i < j))) x y H Q ∨ ∃ i j, x = .str i ∧ y = .str j ∧ Q (.bl (decide (i.cps.toList < j.cps.toList))) H
  | .le => rI0 fun i j => .bl (decide (i ≤ j))
  | .gt => rI0 fun i j => .bl (decide (j < i))
  | .ge => rI0 fun i j => .bl (decide (j ≤ i))
  | .isin => fun x y H Q => rInP K id x y H Q ∨ rDin id x y H Q
  | .notin => fun x y H Q => rInP K not x y H Q ∨ rDin not x y H Q
theorem op_cmp (hu : X.A.units + 100 < cLine) : ∀ o : COp, OpR X (compareOp (opOf o)) (rCmp X.K o)
  | .eq => op_eqP hu
  | .ne => op_neP hu
  | .lt => op_lt.or op_lt_str
  | .le => op_le
  | .gt => op_gt
  | .ge => op_ge
  | .isin => (op_inP hu).or (op_din hu)
  | .notin => (op_ninP hu).or (op_dnin hu)
theorem eqD_ok {P : Addr → Prop} {W : Wd} {H : Hp} {dh : List D} {Q : VK} {x y : D} {v u : V} {k : Bool} {g : Bool → Bool} (hr : HR C W H dh) (ox : OR C P W H x v) (oy : OR C P W H y u) (e : eqD (deref dh x) (deref dh y) = some k) (q : Q (.bl (g k)) H) : rEqP C.K g v u H Q := by
  unfold eqD at e
  split at e <;> first | cases e | skip
  rename_i p p' e1 e2
  split at e <;> first | cases e | skip
  rename_i hd
  exact ⟨p, p', ox.dp hr e1, oy.dp hr e2, D.py_plain _ _ e1, D.py_plain _ _ e2, of_decide_eq_true hd, q⟩
theorem pys_lst (xs : List D) {ps : List PyData} (e : D.pys xs = some ps) : (D.lst xs).py = some (.list ps) := by
  unfold D.py
  rw [e] <;> rfl
theorem pys_tup (xs : List D) {ps : List PyData} (e : D.pys xs = some ps) : (D.tup xs).py = some (.tuple ps) := by
  unfold D.py
  rw [e] <;> rfl
theorem depth_in {p : PyData} {ps : List PyData} (h : depthOk p (.list ps) = true) : min (PyData.depthAll ps) p.depth ≤ 64 := by
  have h1 := of_decide_eq_true h
  have h2 : (PyData.list ps).depth = 1 + PyData.depthAll ps ∨ (PyData.list ps).depth = PyData.depthAll ps + 1 := by first | exact .inl rfl | exact .inr rfl | simp [PyData.depth]
  omega
theorem inD_ok {P : Addr → Prop} {W : Wd} {H : Hp} {dh : List D} {Q : VK} {x y : D} {v u : V} {k : Bool} {g : Bool → Bool} (hr : HR C W H dh) (ox : OR C P W H x v) (oy : OR C P W H y u) (e : inD (deref dh x) (deref dh y) = some k) (q : Q (.bl (g k)) H) :
    rInP C.K g v u H Q ∨ rDin g v u H Q := by
  unfold inD at e
  split at e <;> first | cases e | skip
  · rename_i ys hy
    split at e <;> first | cases e | skip
    rename_i p ps e1 e2
    split at e <;> first | cases e | skip
    rename_i hd
    exact .inl ⟨p, ps, ox.dp hr e1, .inl (oy.dp hr (by rw [hy]; exact pys_lst ys e2)), D.py_plain _ _ e1, D.pys_plain _ _ e2, depth_in hd, q⟩
  · rename_i ys hy
    split at e <;> first | cases e | skip
    rename_i p ps e1 e2
    split at e <;> first | cases e | skip
    rename_i hd
    exact .inl ⟨p, ps, ox.dp hr e1, .inr (oy.dp hr (by rw [hy]; exact pys_tup ys e2)), D.py_plain _ _ e1, D.pys_plain _ _ e2, depth_in hd, q⟩
  · rename_i ks vs hy
    cases e1 : keyK (deref dh x) with
    | none => rw [e1] at e; cases e
    | some kk =>
      rw [e1] at e
      cases e
      obtain ⟨a, kvs, rfl, hd, rfl, r⟩ := oy.dK hr hy
      rw [ox.keyK hr e1]
      dsimp only at q
      rw [← valV_some kk kvs vs r] at q
      exact .inr ⟨a, _, rfl, .inl ⟨kvs, kk, hd, rfl, rfl⟩, q⟩
  · rename_i ks vs hy
    cases e1 : keyT (deref dh x) with
    | none => rw [e1] at e; cases e
    | some kk =>
      rw [e1] at e
      cases e
      obtain ⟨a, kvs, rfl, hd, rfl, r⟩ := oy.dT hr hy
      obtain ⟨b, rfl, hb⟩ := ox.keyT hr e1
      dsimp only at q
      rw [← valV_some kk kvs vs r] at q
      exact .inr ⟨a, _, rfl, .inr ⟨kvs, kk, b, hd, rfl, hb, rfl⟩, q⟩
theorem cmpD_ok {P : Addr → Prop} {W : Wd} {H : Hp} {dh : List D} {Q : VK} {o : COp} {x y : D} {v u : V} {k : Bool} (hr : HR C W H dh) (ox : OR C P W H x v) (oy : OR C P W H y u) (e : cmpD o (deref dh x) (deref dh y) = some k) (q : Q (.bl k) H) : rCmp C.K o v u H Q := by
  cases o with
  | eq => exact eqD_ok (g := id) hr ox oy e q
  | ne =>
    unfold cmpD at e
    cases e1 : eqD (deref dh x) (deref dh y) with
    | none => simp [e1] at e
    | some b =>
      simp only [e1, Option.map_some, Option.some.injEq] at e
      subst e
      exact eqD_ok (g := not) hr ox oy e1 q
  | isin => exact inD_ok (g := id) hr ox oy e q
  | notin =>
    unfold cmpD at e
    cases e1 : inD (deref dh x) (deref dh y) with
    | none => simp [e1] at e
    | some b =>
      simp only [e1, Option.map_some, Option.some.injEq] at e
      subst e
      exact inD_ok (g := not) hr ox oy e1 q
  | lt =>
    unfold cmpD at e
    dsimp only at e
    split at e <;> first | cases e | skip
    · exact .inl ⟨_, _, ox.int hr ‹_›, oy.int hr ‹_›, q⟩
    · exact .inr ⟨_, _, ox.str hr ‹_›, oy.str hr ‹_›, q⟩
  | le =>
    unfold cmpD at e
    dsimp only at e
    split at e <;> first | cases e | skip
    exact ⟨_, _, ox.int hr ‹_›, oy.int hr ‹_›, q⟩
  | gt =>
    unfold cmpD at e
    dsimp only at e
    split at e <;> first | cases e | skip
    exact ⟨_, _, ox.int hr ‹_›, oy.int hr ‹_›, q⟩
  | ge =>
    unfold cmpD at e
    dsimp only at e
    split at e <;> first | cases e | skip
    exact ⟨_, _, ox.int hr ‹_›, oy.int hr ‹_›, q⟩
theorem se_cmp (hK : X.K = C.K) (hu : X.A.units + 100 < cLine) {o : COp} (hm : behindInMarks (opOf o) b = false) (ha : PE X a (gE C Wx fa)) (hb : PE X b (gE C Wx fb)) :
    PE X (.Compare a [opOf o] [b] pos) (gE C Wx (f2 fa fb fun x y h => ofB (cmpD o x y) h)) := by
  refine PE.mono (pe_cmpR (op_cmp hu o) ha hb hm) (two_ok fun P W H dh σ Q x y v u pok hr ox oy kn => ?_)
  rw [hK]
  cases e : cmpD o (deref dh x) (deref dh y) with
  | none => rw [e] at kn; exact kn.elim
  | some k =>
    rw [e] at kn
    exact cmpD_ok hr ox oy e (Kn.val hr (.bl k) kn)

/-! ### tests -/
abbrev gT (C : Cd) (Wx : WX) (f : List (Option SV) → List D → R SV) : TT := gG ocB C Wx fun s h => (f s h).bindO trB
theorem truD_ok {P : Addr → Prop} {W : Wd} {H : Hp} {dh : List D} {x : D} {v : V} {k : Bool} (hr : HR C W H dh) (ox : OR C P W H x v) (e : truD dh x = some k) : TruV C.K v H k := by
  unfold truD at e
  split at e <;> first | cases e | skip
  · rw [ox.bl hr ‹_›]; rfl
  · rw [ox.int hr ‹_›]; rfl
  · rw [ox.non hr ‹_›]; rfl
  · obtain ⟨a, vs, rfl, q, r⟩ := ox.lst hr ‹_›
    refine .inl ⟨vs, .of q, ?_⟩
    cases r <;> rfl
theorem Kn.bool {P : Addr → Prop} {W : Wd} {H : Hp} {dh : List D} {σ : L2.St} {Q : Bool → Hp → Prop} {k : Bool} (hr : HR C W H dh) (kn : Kn ocB C Wx P W H σ Q (.ok k dh)) : Q k H := kn W k H Ext.refl hr rfl
theorem gT_of {f : List (Option SV) → List D → R SV} (hK : X.K = C.K) (σ : L2.St) (H : Hp) (Q : Bool → Hp → Prop) (h : gT C Wx f σ H Q) : gE C Wx f σ H fun v H1 => ∃ k, TruV X.K v H1 k ∧ Q k H1 := by
  obtain ⟨P, W, ds, dh, pok, hr, sr, kn⟩ := h
  refine gG.mono (gE_stepO pok hr sr kn) fun v H1 ⟨P1, W1, x, dh1, n1, o1, kn1⟩ => ?_
  unfold trB at kn1
  cases e : truD dh1 x with
  | none => rw [e] at kn1; exact kn1.elim
  | some k =>
    rw [e] at kn1
    rw [hK]
    exact ⟨k, truD_ok n1.hr o1 e, Kn.bool n1.hr kn1⟩
theorem st_plain (hK : X.K = C.K) (ha : PE X a (gE C Wx fa)) (he : ∀ whole, isTrue a X.env whole = (do let v ← whole; standAt a.pos; holding [v] (truthy v))) : PT X a (gT C Wx fa) :=
  PT.mono (pt_truth ha he) fun σ H Q h => gT_of hK σ H Q h
theorem st_cmp (hK : X.K = C.K) (hu : X.A.units + 100 < cLine) {o : COp} (hm : behindInMarks (opOf o) b = false) (ha : PE X a (gE C Wx fa)) (hb : PE X b (gE C Wx fb)) :
    PT X (.Compare a [opOf o] [b] pos) (gT C Wx (f2 fa fb fun x y h => ofB (cmpD o x y) h)) := by
  refine PT.mono (pt_cmpR (op_cmp hu o) ha hb hm) fun σ H Q ⟨P, W, ds, dh, pok, hr, sr, kn⟩ => ?_
  have kn' : Kn ocB C Wx P W H σ Q ((fa ds dh).bindO fun x h1 => (fb ds h1).bindO fun y h2 => (ofB (cmpD o (deref h2 x) (deref h2 y)) h2).bindO trB) := by
    have z : ((fa ds dh).bindO fun x h1 => (fb ds h1).bindO fun y h2 => ofB (cmpD o (deref h2 x) (deref h2 y)) h2).bindO trB = (fa ds dh).bindO fun x h1 => (fb ds h1).bindO fun y h2 => (ofB (cmpD o (deref h2 x) (deref h2 y)) h2).bindO trB := by
      rw [R.bindO_bindO]
      congr
      funext x h1
      rw [R.bindO_bindO]
    rw [← z]
    exact kn
  refine gG.mono (gE_stepO pok hr sr kn') fun v H1 ⟨P1, W1, x, dh1, n1, o1, kn1⟩ => ?_
  refine gG.mono (gE_stepO n1.pok n1.hr n1.sr kn1) fun u H2 ⟨P2, W2, y, dh2, n2, o2, kn2⟩ => ?_
  rw [hK]
  cases e : cmpD o (deref dh2 x) (deref dh2 y) with
  | none => rw [e] at kn2; exact kn2.elim
  | some k =>
    rw [e] at kn2
    exact cmpD_ok (Q := fun z H' => ∃ k, z = .bl k ∧ Q k H') n2.hr (n2.or n1.pok.fz o1) o2 e ⟨k, rfl, Kn.bool n2.hr kn2⟩
end
end SH
namespace SH
open PySem PySem.Spec PyProof.Rows L2

section
variable {X : Cx} {C : Cd} {Wx : WX} {pos : Pos} {a b c : Expr} {rest : List Expr} {fa fb fc : List (Option SV) → List D → R SV}
/-! ### not, and, or, if -/
def fNot (fa : List (Option SV) → List D → R SV) : List (Option SV) → List D → R SV := fun s h => (fa s h).bindO fun x h1 => ofB ((truD h1 x).map (!·)) h1
def fAnd (fa fb : List (Option SV) → List D → R SV) : List (Option SV) → List D → R SV := fun s h => (fa s h).bindV fun x h1 => match truD h1 x with
    | some true => fb s h1
    | some false => vOk x h1
    | none => .bad
def fOr (fa fb : List (Option SV) → List D → R SV) : List (Option SV) → List D → R SV := fun s h => (fa s h).bindV fun x h1 => match truD h1 x with
    | some false => fb s h1
    | some true => vOk x h1
    | none => .bad
def fIf (fc fa fb : List (Option SV) → List D → R SV) : List (Option SV) → List D → R SV := fun s h => (fc s h).bindO fun x h1 => match truD h1 x with
    | some true => fa s h1
    | some false => fb s h1
    | none => .bad
theorem tru_step {f : List (Option SV) → List D → R SV} {P : Addr → Prop} {W : Wd} {H : Hp} {dh : List D} {ds : List (Option SV)} {σ : L2.St} {α β : Type} {oc : Oc α β} {Q : β → Hp → Prop} {k : D → Bool → List D → R α}
    (pok : Pok P W H) (hr : HR C W H dh) (sr : SRe C P W H ds σ) (kn : Kn oc C Wx P W H σ Q ((f ds dh).bindO fun x h1 => match truD h1 x with | some b => k x b h1 | none => .bad)) :
    gE C Wx f σ H fun v H1 => ∃ P1 W1 x b dh1, Nx C P W H ds σ P1 W1 H1 dh1 ∧ OR C P1 W1 H1 x v ∧ TruV C.K v H1 b ∧ Kn oc C Wx P1 W1 H1 σ Q (k x b dh1) := by
  refine gG.mono (gE_stepO pok hr sr kn) fun v H1 ⟨P1, W1, x, dh1, n1, o1, kn1⟩ => ?_
  cases e : truD dh1 x with
  | none => rw [e] at kn1; exact kn1.elim
  | some b =>
    rw [e] at kn1
    exact ⟨P1, W1, x, b, dh1, n1, o1, truD_ok n1.hr o1 e, kn1⟩
theorem tru_stepV {f : List (Option SV) → List D → R SV} {P : Addr → Prop} {W : Wd} {H : Hp} {dh : List D} {ds : List (Option SV)} {σ : L2.St} {α β : Type} {oc : Oc α β} {Q : β → Hp → Prop} {k : D → Bool → List D → R α}
    (pok : Pok P W H) (hr : HR C W H dh) (sr : SRe C P W H ds σ) (kn : Kn oc C Wx P W H σ Q ((f ds dh).bindV fun x h1 => match truD h1 x with | some b => k x b h1 | none => .bad)) :
    gE C Wx f σ H fun v H1 => ∃ P1 W1 x b dh1, Nx C P W H ds σ P1 W1 H1 dh1 ∧ VR C W1 H1 x v ∧ TruV C.K v H1 b ∧ Kn oc C Wx P1 W1 H1 σ Q (k x b dh1) := by
  refine gG.mono (gE_stepV pok hr sr kn) fun v H1 ⟨P1, W1, x, dh1, n1, o1, kn1⟩ => ?_
  cases e : truD dh1 x with
  | none => rw [e] at kn1; exact kn1.elim
  | some b =>
    rw [e] at kn1
    exact ⟨P1, W1, x, b, dh1, n1, o1, truD_ok (P := P1) n1.hr (.inl o1) e, kn1⟩
theorem fNot_eq (fa : List (Option SV) → List D → R SV) (s : List (Option SV)) (h : List D) : fNot fa s h = (fa s h).bindO fun x h1 => match truD h1 x with | some b => vOk (.bl (!b)) h1 | none => .bad := by
  unfold fNot
  congr
  funext x h1
  cases truD h1 x <;> rfl
theorem fAnd_eq (fa fb : List (Option SV) → List D → R SV) (s : List (Option SV)) (h : List D) : fAnd fa fb s h = (fa s h).bindV fun x h1 => match truD h1 x with | some b => (if b then fb s h1 else vOk x h1) | none => .bad := by
  unfold fAnd
  congr
  funext x h1
  cases truD h1 x with
  | none => rfl
  | some b => cases b <;> rfl
theorem fOr_eq (fa fb : List (Option SV) → List D → R SV) (s : List (Option SV)) (h : List D) : fOr fa fb s h = (fa s h).bindV fun x h1 => match truD h1 x with | some b => (if b then vOk x h1 else fb s h1) | none => .bad := by
  unfold fOr
  congr
  funext x h1
  cases truD h1 x with
  | none => rfl
  | some b => cases b <;> rfl
theorem fIf_eq (fc fa fb : List (Option SV) → List D → R SV) (s : List (Option SV)) (h : List D) : fIf fc fa fb s h = (fc s h).bindO fun x h1 => match truD h1 x with | some b => (if b then fa s h1 else fb s h1) | none => .bad := by
  unfold fIf
  congr
  funext x h1
  cases truD h1 x with
  | none => rfl
  | some b => cases b <;> rfl
theorem Kn.here {f : List (Option SV) → List D → R SV} {α β : Type} {oc : Oc α β} {P : Addr → Prop} {W : Wd} {H : Hp} {dh : List D} {ds : List (Option SV)} {σ : L2.St} {g : List (Option SV) → List D → R α} {Q : β → Hp → Prop} (pok : Pok P W H) (hr : HR C W H dh) (sr : SRe C P W H ds σ) (kn : Kn oc C Wx P W H σ Q (g ds dh)) : gG oc C Wx g σ H Q :=
  ⟨P, W, ds, dh, pok, hr, sr, kn⟩
theorem se_not (hK : X.K = C.K) (ha : PE X a (gE C Wx fa)) : PE X (.UnaryOp .Not a pos) (gE C Wx (fNot fa)) := by
  refine PE.mono (pe_notT ha) fun σ H Q ⟨P, W, ds, dh, pok, hr, sr, kn⟩ => ?_
  rw [fNot_eq] at kn
  refine gG.mono (tru_step (k := fun _ b h1 => vOk (.bl (!b)) h1) pok hr sr kn) fun v H1 ⟨P1, W1, x, b, dh1, n1, o1, t1, kn1⟩ => ?_
  rw [hK]
  exact ⟨b, t1, Kn.val n1.hr (.bl _) kn1⟩
theorem se_and (hK : X.K = C.K) (ha : PE X a (gE C Wx fa)) (hb : PE X (.BoolOp .And (b :: rest) pos) (gE C Wx fb)) : PE X (.BoolOp .And (a :: b :: rest) pos) (gE C Wx (fAnd fa fb)) := by
  refine PE.mono (pe_andT ha hb) fun σ H Q ⟨P, W, ds, dh, pok, hr, sr, kn⟩ => ?_
  rw [fAnd_eq] at kn
  refine gG.mono (tru_stepV (k := fun x b h1 => if b then fb ds h1 else vOk x h1) pok hr sr kn) fun v H1 ⟨P1, W1, x, b, dh1, n1, o1, t1, kn1⟩ => ?_
  rw [hK]
  refine ⟨b, t1, ?_⟩
  cases b with
  | true => exact iteT ⟨P1, W1, ds, dh1, n1.pok, n1.hr, n1.sr, kn1⟩
  | false => exact iteF (Kn.val n1.hr o1 kn1)
theorem se_or (hK : X.K = C.K) (ha : PE X a (gE C Wx fa)) (hb : PE X (.BoolOp .Or (b :: rest) pos) (gE C Wx fb)) : PE X (.BoolOp .Or (a :: b :: rest) pos) (gE C Wx (fOr fa fb)) := by
  refine PE.mono (pe_orT ha hb) fun σ H Q ⟨P, W, ds, dh, pok, hr, sr, kn⟩ => ?_
  rw [fOr_eq] at kn
  refine gG.mono (tru_stepV (k := fun x b h1 => if b then vOk x h1 else fb ds h1) pok hr sr kn) fun v H1 ⟨P1, W1, x, b, dh1, n1, o1, t1, kn1⟩ => ?_
  rw [hK]
  refine ⟨b, t1, ?_⟩
  cases b with
  | true => exact iteT (Kn.val n1.hr o1 kn1)
  | false => exact iteF ⟨P1, W1, ds, dh1, n1.pok, n1.hr, n1.sr, kn1⟩
theorem se_if (hc : PT X c (gT C Wx fc)) (ha : PE X a (gE C Wx fa)) (hb : PE X b (gE C Wx fb)) : PE X (.IfExp c a b pos) (gE C Wx (fIf fc fa fb)) := by
  refine PE.mono (pe_ifExp hc ha hb) fun σ H Q ⟨P, W, ds, dh, pok, hr, sr, kn⟩ => ?_
  have z : fIf fc fa fb ds dh = ((fc ds dh).bindO trB).bind fun k h => if k then fa ds h else fb ds h := by
    rw [fIf_eq, R.bindO_bind]
    congr
    funext x h1
    unfold trB
    cases truD h1 x <;> rfl
  rw [z] at kn
  refine ⟨P, W, ds, dh, pok, hr, sr, (Kn.bind (oc := ocB) kn).mono fun k H1 ⟨k', W1, dh1, e, hr1, q, kn1⟩ => ?_⟩
  cases q
  have n1 := nx_of pok sr e hr1
  have kn2 := kn1.more (P1 := fun a => P a ∨ W1.F a) (fun _ h => .inl h) fun _ h => h
  cases k with
  | true => exact iteT ⟨_, W1, ds, dh1, n1.pok, n1.hr, n1.sr, kn2⟩
  | false => exact iteF ⟨_, W1, ds, dh1, n1.pok, n1.hr, n1.sr, kn2⟩
/-! .. as tests -/
theorem st_not (ha : PT X a (gT C Wx fa)) : PT X (.UnaryOp .Not a pos) (gT C Wx (fNot fa)) := by
  refine PT.mono (pt_not ha) fun σ H Q ⟨P, W, ds, dh, pok, hr, sr, kn⟩ => ?_
  have z : (fNot fa ds dh).bindO trB = ((fa ds dh).bindO trB).bind fun k h => .ok (!k) h := by
    rw [fNot_eq, R.bindO_bind, R.bindO_bindO]
    congr
    funext x h1
    unfold trB
    cases truD h1 x <;> rfl
  dsimp only at kn
  rw [z] at kn
  refine ⟨P, W, ds, dh, pok, hr, sr, (Kn.bind (oc := ocB) kn).mono fun k H1 ⟨k', W1, dh1, e, hr1, q, kn1⟩ => ?_⟩
  cases q
  exact Kn.bool hr1 kn1
/-- the truth of a value that was looked at once -/
theorem trB_bl (b : Bool) (h : List D) : (vOk (.bl b) h).bindO trB = .ok b h := rfl
theorem toO_of_toV {sv : SV} {d : D} (h : toV sv = some d) : toO sv = some d := by
  cases sv with
  | val x => exact h
  | obs x => cases h
  | own x => exact h
theorem bindV_trB (r : R SV) (k : Bool → D → List D → R Bool) (g : Bool → List D → R Bool) (hk : ∀ b x h, truD h x = some b → k b x h = g b h) {P : Addr → Prop} {W : Wd} {H : Hp} {σ : L2.St} {Q : Bool → Hp → Prop}
    (kn : Kn ocB C Wx P W H σ Q (r.bindV fun x h => match truD h x with | some b => k b x h | none => .bad)) : Kn ocB C Wx P W H σ Q ((r.bindO trB).bind g) := by
  cases r with
  | ok sv h =>
    have kn : Kn ocB C Wx P W H σ Q (match toV sv with | some x => (match truD h x with | some b => k b x h | none => .bad) | none => .bad) := kn
    cases e : toV sv with
    | none => rw [e] at kn; exact kn.elim
    | some x =>
      rw [e] at kn
      have e' := toO_of_toV e
      show Kn ocB C Wx P W H σ Q ((match toO sv with | some x => trB x h | none => .bad).bind g)
      rw [e']
      dsimp only at kn ⊢
      unfold trB
      cases et : truD h x with
      | none => rw [et] at kn; exact kn.elim
      | some b =>
        rw [et] at kn
        show Kn ocB C Wx P W H σ Q (g b h)
        rw [← hk b x h et]
        exact kn
  | exc c vs h => exact kn
  | bad => exact kn
theorem st_and (ha : PT X a (gT C Wx fa)) (hb : PW X (.BoolOp .And (b :: rest) pos) (gT C Wx fb)) : PW X (.BoolOp .And (a :: b :: rest) pos) (gT C Wx (fAnd fa fb)) := by
  have base := pw_and ha hb
  refine ⟨fun wh pins s σ H Q I h => base.run wh pins s σ H Q I ?_⟩
  obtain ⟨P, W, ds, dh, pok, hr, sr, kn⟩ := h
  have z : (fAnd fa fb ds dh).bindO trB = (fa ds dh).bindV fun x h1 => match truD h1 x with | some b => (if b then (fb ds h1).bindO trB else trB x h1) | none => .bad := by
    rw [fAnd_eq, R.bindV_bindO]
    congr
    funext x h1
    cases truD h1 x with
    | none => rfl
    | some b => cases b <;> rfl
  dsimp only at kn
  rw [z] at kn
  have kn := bindV_trB _ _ (fun b h => if b then (fb ds h).bindO trB else .ok false h) (fun b x h e => by
    cases b with
    | true => rfl
    | false => show trB x h = .ok false h; unfold trB; rw [e]) kn
  refine ⟨P, W, ds, dh, pok, hr, sr, (Kn.bind (oc := ocB) kn).mono fun k H1 ⟨k', W1, dh1, e, hr1, q, kn1⟩ => ?_⟩
  cases q
  have n1 := nx_of pok sr e hr1
  cases k with
  | true => exact iteT ⟨_, W1, ds, dh1, n1.pok, n1.hr, n1.sr, kn1.more (P1 := fun a => P a ∨ W1.F a) (fun _ h => .inl h) fun _ h => h⟩
  | false => exact iteF (Kn.bool hr1 kn1)
theorem st_or (ha : PT X a (gT C Wx fa)) (hb : PW X (.BoolOp .Or (b :: rest) pos) (gT C Wx fb)) : PW X (.BoolOp .Or (a :: b :: rest) pos) (gT C Wx (fOr fa fb)) := by
  have base := pw_or ha hb
  refine ⟨fun wh pins s σ H Q I h => base.run wh pins s σ H Q I ?_⟩
  obtain ⟨P, W, ds, dh, pok, hr, sr, kn⟩ := h
  have z : (fOr fa fb ds dh).bindO trB = (fa ds dh).bindV fun x h1 => match truD h1 x with | some b => (if b then trB x h1 else (fb ds h1).bindO trB) | none => .bad := by
    rw [fOr_eq, R.bindV_bindO]
    congr
    funext x h1
    cases truD h1 x with
    | none => rfl
    | some b => cases b <;> rfl
  dsimp only at kn
  rw [z] at kn
  have kn := bindV_trB _ _ (fun b h => if b then .ok true h else (fb ds h).bindO trB) (fun b x h e => by
    cases b with
    | false => rfl
    | true => show trB x h = .ok true h; unfold trB; rw [e]) kn
  refine ⟨P, W, ds, dh, pok, hr, sr, (Kn.bind (oc := ocB) kn).mono fun k H1 ⟨k', W1, dh1, e, hr1, q, kn1⟩ => ?_⟩
  cases q
  have n1 := nx_of pok sr e hr1
  cases k with
  | true => exact iteT (Kn.bool hr1 kn1)
  | false => exact iteF ⟨_, W1, ds, dh1, n1.pok, n1.hr, n1.sr, kn1.more (P1 := fun a => P a ∨ W1.F a) (fun _ h => .inl h) fun _ h => h⟩
end
end SH
namespace SH
open PySem PySem.Spec PyProof.Rows L2

section
variable {X : Cx} {C : Cd} {Wx : WX} {pos : Pos} {a b c : Expr} {es : List Expr} {fa fb fc : List (Option SV) → List D → R SV}
/-! ### a < b < c -/
def fCh (o o2 : COp) (fa fb fc : List (Option SV) → List D → R SV) : List (Option SV) → List D → R SV := fun s h =>
  (fa s h).bindO fun x h1 => (fb s h1).bindO fun y h2 => match cmpD o (deref h2 x) (deref h2 y) with
    | some true => (fc s h2).bindO fun z h3 => ofB (cmpD o2 (deref h3 y) (deref h3 z)) h3
    | some false => vOk (.bl false) h2
    | none => .bad
theorem chain_ok (hK : X.K = C.K) {o o2 : COp} {σ : L2.St} {H : Hp} {Q : VK} (h : gE C Wx (fCh o o2 fa fb fc) σ H Q) : tChain (rCmp X.K o) (rCmp X.K o2) (gE C Wx fa) (gE C Wx fb) (gE C Wx fc) σ H Q := by
  obtain ⟨P, W, ds, dh, pok, hr, sr, kn⟩ := h
  refine gG.mono (gE_stepO pok hr sr kn) fun v H1 ⟨P1, W1, x, dh1, n1, o1, kn1⟩ => ?_
  refine gG.mono (gE_stepO n1.pok n1.hr n1.sr kn1) fun u H2 ⟨P2, W2, y, dh2, n2, o2', kn2⟩ => ?_
  rw [hK]
  cases e : cmpD o (deref dh2 x) (deref dh2 y) with
  | none => rw [e] at kn2; exact kn2.elim
  | some k =>
    rw [e] at kn2
    refine cmpD_ok (Q := fun z H3 => ∃ k, z = .bl k ∧ if k = true then gE C Wx fc σ H3 fun w' H4 => rCmp C.K o2 u w' H4 Q else Q (.bl false) H3) n2.hr (n2.or n1.pok.fz o1) o2' e ⟨k, rfl, ?_⟩
    cases k with
    | false => exact iteF (Kn.val n2.hr (.bl _) kn2)
    | true =>
      refine iteT (gG.mono (gE_stepO n2.pok n2.hr n2.sr kn2) fun w' H3 ⟨P3, W3, z, dh3, n3, o3, kn3⟩ => ?_)
      cases e2 : cmpD o2 (deref dh3 y) (deref dh3 z) with
      | none => rw [e2] at kn3; exact kn3.elim
      | some k =>
        rw [e2] at kn3
        exact cmpD_ok n3.hr (n3.or n2.pok.fz o2') o3 e2 (Kn.val n3.hr (.bl _) kn3)
theorem se_chain (hK : X.K = C.K) (hu : X.A.units + 100 < cLine) {o o2 : COp} (hm : lastMarks [opOf o, opOf o2] [b, c] = false) (ha : PE X a (gE C Wx fa)) (hb : PE X b (gE C Wx fb)) (hc : PE X c (gE C Wx fc)) :
    PE X (.Compare a [opOf o, opOf o2] [b, c] pos) (gE C Wx (fCh o o2 fa fb fc)) :=
  PE.mono (pe_chain (op_cmp hu o) (op_cmp hu o2) ha hb hc hm) fun σ H Q h => chain_ok hK h
theorem gE_trB {f : List (Option SV) → List D → R SV} {σ : L2.St} {H : Hp} {Q : Bool → Hp → Prop} (hb : ∀ s h sv h1, f s h = .ok sv h1 → ∃ k, sv = .val (.bl k)) (h : gT C Wx f σ H Q) : gE C Wx f σ H fun z H1 => ∃ k, z = .bl k ∧ Q k H1 := by
  obtain ⟨P, W, ds, dh, pok, hr, sr, kn⟩ := h
  refine ⟨P, W, ds, dh, pok, hr, sr, ?_⟩
  dsimp only at kn
  cases e : f ds dh with
  | ok sv h1 =>
    obtain ⟨k, rfl⟩ := hb _ _ _ _ e
    rw [e] at kn
    intro W' v H' e1 hr1 rr
    cases rr
    exact ⟨k, rfl, kn W' k H' e1 hr1 rfl⟩
  | exc c vs h1 => rw [e] at kn; exact kn
  | bad => rw [e] at kn; exact kn
theorem ofB_bl {o : Option Bool} {h h1 : List D} {sv : SV} (e : ofB o h = .ok sv h1) : ∃ k, sv = .val (.bl k) := by
  cases o with
  | none => cases e
  | some k => cases e; exact ⟨k, rfl⟩
theorem fCh_bl {o o2 : COp} {s : List (Option SV)} {h h1 : List D} {sv : SV} (e : fCh o o2 fa fb fc s h = .ok sv h1) : ∃ k, sv = .val (.bl k) := by
  unfold fCh R.bindO at e
  cases e1 : fa s h with
  | ok x hx =>
    rw [e1] at e
    dsimp only [R.bind_ok] at e
    cases t1 : toO x with
    | none => rw [t1] at e; cases e
    | some x' =>
      rw [t1] at e
      dsimp only at e
      cases e2 : fb s hx with
      | ok y hy =>
        rw [e2] at e
        dsimp only [R.bind_ok] at e
        cases t2 : toO y with
        | none => rw [t2] at e; cases e
        | some y' =>
          rw [t2] at e
          dsimp only at e
          split at e
          · cases e3 : fc s hy with
            | ok z hz =>
              rw [e3] at e
              dsimp only [R.bind_ok] at e
              cases t3 : toO z with
              | none => rw [t3] at e; cases e
              | some z' => rw [t3] at e; exact ofB_bl e
            | exc c vs hz => rw [e3] at e; cases e
            | bad => rw [e3] at e; cases e
          · cases e; exact ⟨_, rfl⟩
          · cases e
      | exc c vs hy => rw [e2] at e; cases e
      | bad => rw [e2] at e; cases e
  | exc c vs hx => rw [e1] at e; cases e
  | bad => rw [e1] at e; cases e
theorem st_chain (hK : X.K = C.K) (hu : X.A.units + 100 < cLine) {o o2 : COp} (hm : lastMarks [opOf o, opOf o2] [b, c] = false) (ha : PE X a (gE C Wx fa)) (hb : PE X b (gE C Wx fb)) (hc : PE X c (gE C Wx fc)) :
    PT X (.Compare a [opOf o, opOf o2] [b, c] pos) (gT C Wx (fCh o o2 fa fb fc)) :=
  PT.mono (pt_chain (op_cmp hu o) (op_cmp hu o2) ha hb hc hm) fun σ H Q h => chain_ok hK (gE_trB (fun _ _ _ _ e => fCh_bl e) h)
/-! ### is None -/
def fIsN (fa : List (Option SV) → List D → R SV) : List (Option SV) → List D → R SV := fun s h => (fa s h).bindO fun x h1 => vOk (.bl (isNon x)) h1
def fIsNN (fa : List (Option SV) → List D → R SV) : List (Option SV) → List D → R SV := fun s h => (fa s h).bindO fun x h1 => vOk (.bl (!isNon x)) h1
theorem OR.isNon {P : Addr → Prop} {W : Wd} {H : Hp} {x : D} {v : V} (o : OR C P W H x v) : decide (v = .non) = isNon x := by
  rcases o with o | ⟨a, rfl, c, _⟩
  · cases o <;> rfl
  · cases c <;> rfl
theorem se_isN {j : Nat} {pos' : Pos} (ha : PE X a (gE C Wx fa)) : PE X (.Compare a [.Is] [.Constant .none j pos'] pos) (gE C Wx (fIsN fa)) := by
  refine PE.mono (pe_cmp (pc_isN ha) rfl) fun σ H Q ⟨P, W, ds, dh, pok, hr, sr, kn⟩ => ?_
  refine gG.mono (gE_stepO pok hr sr kn) fun v H1 ⟨P1, W1, x, dh1, n1, o1, kn1⟩ => ?_
  rw [o1.isNon]
  exact Kn.val n1.hr (.bl _) kn1
theorem se_isNN {j : Nat} {pos' : Pos} (ha : PE X a (gE C Wx fa)) : PE X (.Compare a [.IsNot] [.Constant .none j pos'] pos) (gE C Wx (fIsNN fa)) := by
  refine PE.mono (pe_cmp (pc_notN ha) rfl) fun σ H Q ⟨P, W, ds, dh, pok, hr, sr, kn⟩ => ?_
  refine gG.mono (gE_stepO pok hr sr kn) fun v H1 ⟨P1, W1, x, dh1, n1, o1, kn1⟩ => ?_
  rw [o1.isNon]
  exact Kn.val n1.hr (.bl _) kn1
theorem fIsN_bl {f : D → Bool} {s : List (Option SV)} {h h1 : List D} {sv : SV} (e : ((fa s h).bindO fun x h1 => vOk (.bl (f x)) h1) = .ok sv h1) : ∃ k, sv = .val (.bl k) := by
  unfold R.bindO at e
  cases e1 : fa s h with
  | ok x hx =>
    rw [e1] at e
    dsimp only [R.bind_ok] at e
    cases t1 : toO x with
    | none => rw [t1] at e; cases e
    | some x' => rw [t1] at e; cases e; exact ⟨_, rfl⟩
  | exc c vs hx => rw [e1] at e; cases e
  | bad => rw [e1] at e; cases e
theorem st_isN {j : Nat} {pos' : Pos} (ha : PE X a (gE C Wx fa)) : PT X (.Compare a [.Is] [.Constant .none j pos'] pos) (gT C Wx (fIsN fa)) := by
  refine PT.mono (pt_cmp (pc_isN ha) rfl) fun σ H Q h => ?_
  obtain ⟨P, W, ds, dh, pok, hr, sr, kn⟩ := gE_trB (fun _ _ _ _ e => fIsN_bl e) h
  refine gG.mono (gE_stepO pok hr sr kn) fun v H1 ⟨P1, W1, x, dh1, n1, o1, kn1⟩ => ?_
  rw [o1.isNon]
  exact Kn.val n1.hr (.bl _) kn1
theorem st_isNN {j : Nat} {pos' : Pos} (ha : PE X a (gE C Wx fa)) : PT X (.Compare a [.IsNot] [.Constant .none j pos'] pos) (gT C Wx (fIsNN fa)) := by
  refine PT.mono (pt_cmp (pc_notN ha) rfl) fun σ H Q h => ?_
  obtain ⟨P, W, ds, dh, pok, hr, sr, kn⟩ := gE_trB (fun _ _ _ _ e => fIsN_bl e) h
  refine gG.mono (gE_stepO pok hr sr kn) fun v H1 ⟨P1, W1, x, dh1, n1, o1, kn1⟩ => ?_
  rw [o1.isNon]
  exact Kn.val n1.hr (.bl _) kn1
/-! ### arguments, displays -/
abbrev gA (C : Cd) (Wx : WX) (f : List (Option SV) → List D → R (List SV)) : TA := gG ocA C Wx f
theorem PA.mono {es : List Expr} {t t' : TA} (h : PA X es t) (ht : ∀ σ H Q, t' σ H Q → t σ H Q) : PA X es t' := ⟨fun pos pins s σ H Q I q => h.run pos pins s σ H Q I (ht σ H Q q)⟩
theorem sa_nil : PA X [] (gA C Wx fun _ h => .ok [] h) := PA.mono pa_nil fun σ H Q ⟨P, W, ds, dh, pok, hr, sr, kn⟩ => kn W [] H Ext.refl hr .nil
theorem sa_cons {fr : List (Option SV) → List D → R (List SV)} (ha : PE X a (gE C Wx fa)) (hr : PA X es (gA C Wx fr)) (hs : starEach (a :: es) X.env = (false, eval a X.env) :: starEach es X.env) :
    PA X (a :: es) (gA C Wx fun s h => (fa s h).bindF fun x h1 => (fr s h1).bind fun xs h2 => .ok (x :: xs) h2) := by
  refine PA.mono (pa_cons ha hr hs) fun σ H Q ⟨P, W, ds, dh, pok, hr, sr, kn⟩ => ?_
  refine gG.mono (gE_stepF pok hr sr kn) fun v H1 ⟨P1, W1, x, dh1, n1, o1, kn1⟩ => ?_
  refine gG.mono (gG_step (oc1 := ocA) n1.pok n1.hr n1.sr kn1) fun vs H2 ⟨P2, W2, xs, dh2, n2, o2, hq, kn2⟩ => ?_
  exact kn2 W2 (v :: vs) H2 Ext.refl n2.hr (.cons (n2.fr n1.pok.fz o1) (o2.more n2.sub))
theorem FRs.vals {P : Addr → Prop} {W : Wd} {H : Hp} : ∀ {l : List SV} {ds : List D} {vs : List V}, toVs l = some ds → FRs C P W H l vs → VRs C W H ds vs
  | [], ds, vs, e, h => by cases e; cases h; exact .nil
  | s :: l, ds, vs, e, h => by
    unfold toVs at e
    split at e <;> first | cases e | skip
    rename_i d ds' e1 e2
    cases h with
    | cons a b =>
      refine .cons ?_ (FRs.vals e2 b)
      cases s with
      | val x => cases e1; exact a
      | own x => exact a.elim
      | obs x => cases e1
/-- what the arguments are, looked at -/
inductive ORs (C : Cd) (P : Addr → Prop) (W : Wd) (H : Hp) : List D → List V → Prop
  | nil : ORs C P W H [] []
  | cons {d : D} {v : V} {ds : List D} {vs : List V} : OR C P W H d v → ORs C P W H ds vs → ORs C P W H (d :: ds) (v :: vs)
theorem FRs.ors {P : Addr → Prop} {W : Wd} {H : Hp} : ∀ {l : List SV} {ds : List D} {vs : List V}, toOs l = some ds → FRs C P W H l vs → ORs C P W H ds vs
  | [], ds, vs, e, h => by cases e; cases h; exact .nil
  | s :: l, ds, vs, e, h => by
    unfold toOs at e
    split at e <;> first | cases e | skip
    rename_i d ds' e1 e2
    cases h with
    | cons a b =>
      refine .cons ?_ (FRs.ors e2 b)
      cases s with
      | val x => cases e1; exact .inl a
      | own x => exact a.elim
      | obs x => cases e1; exact .inr a
def fTup (fr : List (Option SV) → List D → R (List SV)) : List (Option SV) → List D → R SV := fun s h => (fr s h).bind fun l h1 => match toVs l with
    | some ds => vOk (.tup ds) h1
    | none => .bad
def fLst (fr : List (Option SV) → List D → R (List SV)) : List (Option SV) → List D → R SV := fun s h => (fr s h).bind fun l h1 => match toVs l with
    | some ds => oOk (.lst ds) h1
    | none => .bad
/-- how many arguments there are -/
theorem PA.len {fr : List (Option SV) → List D → R (List SV)} {n : Nat} (h : PA X es (gA C Wx fr)) (hn : ∀ s h l h1, fr s h = .ok l h1 → l.length = n) : PA X es fun σ H Q => gA C Wx fr σ H fun vs H1 => vs.length = n → Q vs H1 := by
  refine PA.mono h fun σ H Q ⟨P, W, ds, dh, pok, hr, sr, kn⟩ => ⟨P, W, ds, dh, pok, hr, sr, ?_⟩
  cases e : fr ds dh with
  | ok l h1 =>
    rw [e] at kn
    have hl := hn _ _ _ _ e
    intro W' vs H' e1 hr1 rr
    refine kn W' vs H' e1 hr1 rr ?_
    have key : ∀ {l : List SV} {vs : List V}, FRs C P W' H' l vs → vs.length = l.length := fun h => by
      induction h with
      | nil => rfl
      | cons _ _ ih => simp [ih]
    rw [key rr, hl]
  | exc c vs h1 => rw [e] at kn; exact kn
  | bad => rw [e] at kn; exact kn
theorem se_tup {fr : List (Option SV) → List D → R (List SV)} {k n : Nat} (h : PA X es (gA C Wx fr)) (hn : ∀ s h l h1, fr s h = .ok l h1 → l.length = n) (hz : n ≤ 1000) : PE X (.Tuple es k pos) (gE C Wx (fTup fr)) := by
  refine PE.mono (pe_tup (PA.len h hn)) fun σ H Q ⟨P, W, ds, dh, pok, hr, sr, kn⟩ => ?_
  refine gG.mono (gG_step (oc1 := ocA) pok hr sr kn) fun vs H1 ⟨P1, W1, l, dh1, n1, o1, hq, kn1⟩ hl => ?_
  refine ⟨by rw [hl]; exact Nat.le_trans hz (by decide), fun p hp => ?_⟩
  cases e : toVs l with
  | none => rw [e] at kn1; exact kn1.elim
  | some xs =>
    rw [e] at kn1
    exact Kn.tup n1.pok n1.hr (FRs.vals e o1) hp kn1
theorem se_lst {fr : List (Option SV) → List D → R (List SV)} {n : Nat} (h : PA X es (gA C Wx fr)) (hn : ∀ s h l h1, fr s h = .ok l h1 → l.length = n) (hz : n ≤ 1000) : PE X (.List es pos) (gE C Wx (fLst fr)) := by
  refine PE.mono (pe_lst (PA.len h hn)) fun σ H Q ⟨P, W, ds, dh, pok, hr, sr, kn⟩ => ?_
  refine gG.mono (gG_step (oc1 := ocA) pok hr sr kn) fun vs H1 ⟨P1, W1, l, dh1, n1, o1, hq, kn1⟩ hl => ?_
  refine ⟨by rw [hl]; exact Nat.le_trans hz (by decide), fun p hp => ?_⟩
  cases e : toVs l with
  | none => rw [e] at kn1; exact kn1.elim
  | some xs =>
    rw [e] at kn1
    exact Kn.lst n1.pok n1.hr (FRs.vals e o1) hp kn1
/-! ### an item -/
def fIx (fa fb : List (Option SV) → List D → R SV) : List (Option SV) → List D → R SV := fun s h => (fa s h).bindO fun x h1 => (fb s h1).bindO fun y h2 => match ixD (deref h2 x) (deref h2 y) with
    | some d => vOk d h2
    | none => .bad
def rIxD : R2 := fun x y H Q => ∃ a v, x = .ref a ∧ DGet H a y (some v) ∧ Q v H
theorem ix_dict (hu : X.A.units + 100 < cLine) : IxR X rIxD := by
  intro value slice pins s σ H x y v u Q I rx ry h hs
  obtain ⟨a, z, rfl, g, q⟩ := h
  cases rx
  exact tail_any (dict_typeIs I g) PySem.F.slot_dict_getitem.lookup (d_getItem (by omega) I g ry fun w' s' I' rw' => ⟨z, H, I', rw', q⟩) hs
theorem atI_rel {xs : List D} {vs : List V} {W : Wd} {H : Hp} {i : Int} {d : D} (r : VRs C W H xs vs) (e : atI xs i = some d) : ∃ v, atI vs i = some v ∧ VR C W H d v := by
  unfold atI at e ⊢
  rw [← r.length]
  cases hj : ixN xs.length i with
  | none => rw [hj] at e; cases e
  | some j =>
    rw [hj] at e
    exact r.get e
theorem ixD_ok {P : Addr → Prop} {W : Wd} {H : Hp} {dh : List D} {Q : VK} {x y d : D} {v u : V} (hr : HR C W H dh) (ox : OR C P W H x v) (oy : OR C P W H y u) (e : ixD (deref dh x) (deref dh y) = some d) (q : ∀ z, VR C W H d z → Q z H) :
    rIx C.K v u H Q ∨ rIxD v u H Q := by
  unfold ixD at e
  split at e <;> first | cases e | skip
  · rename_i ns i hx hy
    obtain ⟨a, rfl, sq⟩ := ox.scr hr hx
    rw [oy.int hr hy]
    obtain ⟨k, hk, rfl⟩ := Option.map_eq_some_iff.mp e
    refine .inl (.inl ⟨a, _, i, .int k, rfl, rfl, sq, ?_, q _ (.int k)⟩)
    unfold atI at hk ⊢
    rw [List.length_map]
    cases hj : ixN ns.length i with
    | none => rw [hj] at hk; cases hk
    | some j =>
      rw [hj] at hk
      simp only [Option.bind_some] at hk ⊢
      rw [List.getElem?_map, hk] <;> rfl
  · rename_i xs i hx hy
    obtain ⟨a, vs, rfl, h1, r⟩ := ox.lst hr hx
    rw [oy.int hr hy]
    obtain ⟨z, h2, h3⟩ := atI_rel r e
    exact .inl (.inl ⟨a, vs, i, z, rfl, rfl, .of h1, h2, q z h3⟩)
  · rename_i xs i hx hy
    obtain ⟨a, vs, rfl, h1, r⟩ := ox.tup hr hx
    rw [oy.int hr hy]
    obtain ⟨z, h2, h3⟩ := atI_rel r e
    exact .inl (.inr (.inl ⟨a, vs, i, z, rfl, rfl, .of h1, h2, q z h3⟩))
  · rename_i z i hx hy
    split at e <;> first | cases e | skip
    rename_i hz
    obtain ⟨k, hk, rfl⟩ := Option.map_eq_some_iff.mp e
    rw [ox.str hr hx, oy.int hr hy]
    exact .inl (.inr (.inr ⟨z, i, k, rfl, rfl, hz, hk, q _ (.str _)⟩))
  · rename_i ks xs hx
    cases e1 : keyK (deref dh y) with
    | none => rw [e1] at e; cases e
    | some kk =>
      rw [e1] at e
      simp only [Option.bind_some] at e
      obtain ⟨a, kvs, rfl, hd, rfl, r⟩ := ox.dK hr hx
      rw [oy.keyK hr e1]
      rcases valV_rel kk kvs xs r with ⟨h1, _⟩ | ⟨d', z, h1, h2, h3⟩
      · rw [h1] at e; cases e
      · rw [h1] at e; cases e
        exact .inr ⟨a, z, rfl, .inl ⟨kvs, kk, hd, rfl, h2.symm⟩, q z h3⟩
  · rename_i ks xs hx
    cases e1 : keyT (deref dh y) with
    | none => rw [e1] at e; cases e
    | some kk =>
      rw [e1] at e
      simp only [Option.bind_some] at e
      obtain ⟨a, kvs, rfl, hd, rfl, r⟩ := ox.dT hr hx
      obtain ⟨b', rfl, hb⟩ := oy.keyT hr e1
      rcases valV_rel kk kvs xs r with ⟨h1, _⟩ | ⟨d', z, h1, h2, h3⟩
      · rw [h1] at e; cases e
      · rw [h1] at e; cases e
        exact .inr ⟨a, z, rfl, .inr ⟨kvs, kk, b', hd, rfl, hb, h2.symm⟩, q z h3⟩
theorem se_ix (hK : X.K = C.K) (hu : X.A.units + 100 < cLine) (hs : PlainIx b) (ha : PE X a (gE C Wx fa)) (hb : PE X b (gE C Wx fb)) : PE X (.Subscript a b pos) (gE C Wx (fIx fa fb)) := by
  refine PE.mono (pe_ix (ix_seq.or (ix_dict hu)) ha hb hs) fun σ H Q ⟨P, W, ds, dh, pok, hr, sr, kn⟩ => ?_
  refine gG.mono (gE_stepO pok hr sr kn) fun v H1 ⟨P1, W1, x, dh1, n1, o1, kn1⟩ => ?_
  refine gG.mono (gE_stepO n1.pok n1.hr n1.sr kn1) fun u H2 ⟨P2, W2, y, dh2, n2, o2, kn2⟩ => ?_
  rw [hK]
  cases e : ixD (deref dh2 x) (deref dh2 y) with
  | none => rw [e] at kn2; exact kn2.elim
  | some d =>
    rw [e] at kn2
    exact ixD_ok n2.hr (n2.or n1.pok.fz o1) o2 e fun z hz => Kn.val n2.hr hz kn2
/-! ### a slice -/
abbrev gO (C : Cd) (Wx : WX) (f : List (Option SV) → List D → R (Option Int)) : TO := gG ocI C Wx f
theorem PO.mono {e : Option Expr} {t t' : TO} (h : PO X e t) (ht : ∀ σ H Q, t' σ H Q → t σ H Q) : PO X e t' := ⟨fun pins s σ H Q I q => h.run pins s σ H Q I (ht σ H Q q)⟩
end
end SH
namespace SH
open PySem PySem.Spec PyProof.Rows L2

section
variable {X : Cx} {C : Cd} {Wx : WX} {pos p2 : Pos} {a b c : Expr} {es : List Expr} {fa fb fc : List (Option SV) → List D → R SV}
/-! ### slices -/
theorem so_no : PO X none (gO C Wx fun _ h => .ok none h) := PO.mono po_none fun σ H Q ⟨P, W, ds, dh, pok, hr, sr, kn⟩ => kn W none H Ext.refl hr rfl
def fPart (fa : List (Option SV) → List D → R SV) : List (Option SV) → List D → R (Option Int) := fun s h => (fa s h).bindO fun x h1 => match x with
    | .int i => .ok (some i) h1
    | _ => .bad
theorem so_yes (ha : PE X a (gE C Wx fa)) : PO X (some a) (gO C Wx (fPart fa)) := by
  refine PO.mono (po_some ha) fun σ H Q ⟨P, W, ds, dh, pok, hr, sr, kn⟩ => ?_
  refine gG.mono (gE_stepO pok hr sr kn) fun v H1 ⟨P1, W1, x, dh1, n1, o1, kn1⟩ => ?_
  split at kn1 <;> first | exact kn1.elim | skip
  exact ⟨_, o1.int n1.hr rfl, kn1 W1 _ H1 Ext.refl n1.hr rfl⟩
def fSl (fa : List (Option SV) → List D → R SV) (fl fh : List (Option SV) → List D → R (Option Int)) : List (Option SV) → List D → R SV := fun s h =>
  (fa s h).bindO fun x h1 => (fl s h1).bind fun l h2 => (fh s h2).bind fun u h3 => match deref h3 x with
    | .lst xs => oOk (.lst (cutD xs l u)) h3
    | .scr ns => oOk (.lst ((cutD ns l u).map D.int)) h3
    | .tup xs => vOk (.tup (cutD xs l u)) h3
    | _ => .bad
theorem cut_rel {W : Wd} {H : Hp} {xs : List D} {vs : List V} (r : VRs C W H xs vs) (l u : Option Int) : VRs C W H (cutD xs l u) (cutV vs l u) := by
  unfold cutD cutV
  rw [← r.length]
  exact (r.drop _).take _
theorem cutD_map (ns : List Int) (l u : Option Int) : cutV (ns.map V.int) l u = (cutD ns l u).map V.int := by
  unfold cutD cutV
  rw [List.length_map, ← List.map_drop, ← List.map_take]
theorem cutD_whole {α : Type} (xs : List α) (l u : Option Int) (h : HT.sIx xs.length 0 l = 0 ∧ HT.sIx xs.length xs.length u = xs.length) : cutD xs l u = xs := by
  unfold cutD
  rw [h.1, h.2]
  simp
theorem se_sl (hK : X.K = C.K) {lo hi : Option Expr} {fl fh : List (Option SV) → List D → R (Option Int)} (ha : PE X a (gE C Wx fa)) (hl : PO X lo (gO C Wx fl)) (hh : PO X hi (gO C Wx fh)) :
    PE X (.Subscript a (.Slice lo hi none p2) pos) (gE C Wx (fSl fa fl fh)) := by
  refine PE.mono (pe_slice (sl_list.or sl_tupA) ha hl hh) fun σ H Q ⟨P, W, ds, dh, pok, hr, sr, kn⟩ => ?_
  refine gG.mono (gE_stepO pok hr sr kn) fun v H1 ⟨P1, W1, x, dh1, n1, o1, kn1⟩ => ?_
  refine gG.mono (gG_step (oc1 := ocI) n1.pok n1.hr n1.sr kn1) fun l H2 ⟨P2, W2, l', dh2, n2, e2, hq2, kn2⟩ => ?_
  refine gG.mono (gG_step (oc1 := ocI) n2.pok n2.hr n2.sr kn2) fun u H3 ⟨P3, W3, u', dh3, n3, e3, hq3, kn3⟩ => ?_
  cases e2
  cases e3
  have o3 := n3.or n2.pok.fz (n2.or n1.pok.fz o1)
  rw [hK]
  split at kn3 <;> first | exact kn3.elim | skip
  · obtain ⟨p, vs, rfl, h1, r⟩ := o3.lst n3.hr ‹_›
    exact .inl ⟨p, vs, rfl, .of h1, fun q hq => Kn.lst n3.pok n3.hr (cut_rel r _ _) hq kn3⟩
  · obtain ⟨p, rfl, h1⟩ := o3.scr n3.hr ‹_›
    refine .inl ⟨p, _, rfl, h1, fun q hq => ?_⟩
    rw [cutD_map]
    exact Kn.lst n3.pok n3.hr (vrs_ints _) hq kn3
  · obtain ⟨p, vs, rfl, h1, r⟩ := o3.tup n3.hr ‹_›
    refine .inr ⟨p, vs, rfl, .of h1, fun hw => ?_, fun _ q hq => Kn.tup n3.pok n3.hr (cut_rel r _ _) hq kn3⟩
    rw [← r.length] at hw
    rw [cutD_whole _ _ _ hw] at kn3
    exact Kn.val n3.hr (.tup h1 r) kn3
/-! ### a field -/
def fFld (T : Tbl) (f : Nat) (fa : List (Option SV) → List D → R SV) : List (Option SV) → List D → R SV := fun s h => (fa s h).bindO fun x h1 => match deref h1 x with
    | .ins c vs => (match (T.fix c f).bind fun i => vs[i]? with
      | some d => vOk d h1
      | none => .bad)
    | .exc c vs => (match (T.fix c f).bind fun i => vs[i]? with
      | some d => vOk d h1
      | none => .bad)
    | _ => .bad

/-! ### a call -/
/-- WHAT A DEF PROMISES: it does m -/
def spM (C : Cd) (m : List D → List D → R SV) : Sp := fun vs H Q E =>
  ∃ P W ds dh, Pok P W H ∧ HR C W H dh ∧ VRs C W H ds vs ∧ Kn ocV C (fun c d _ H => E c d H) P W H [] Q (m ds dh)
theorem Kn.wish {α β : Type} {oc : Oc α β} {P : Addr → Prop} {W : Wd} {H : Hp} {σ σ' : L2.St} {Q : β → Hp → Prop} {r : R α} {Wx Wx' : WX} (hw : ∀ c d H, Wx c d σ H → Wx' c d σ' H) (h : Kn oc C Wx P W H σ Q r) : Kn oc C Wx' P W H σ' Q r := by
  cases r with
  | ok sv dh => exact h
  | exc c vs dh => exact fun W' H' d e1 hr nd x => hw _ _ _ (h W' H' d e1 hr nd x)
  | bad => exact h
mutual
theorem VR.flat {W W' : Wd} {H : Hp} (hn : W'.n = W.n) (hρ : W'.rho = W.rho) : ∀ (d : D) (v : V), d.flat = true → VR C W H d v → VR C W' H d v
  | .non, v, _, h => by cases h; exact .non
  | .bl b, v, _, h => by cases h; exact .bl b
  | .int b, v, _, h => by cases h; exact .int b
  | .str b, v, _, h => by cases h; exact .str b
  | .tup xs, v, f, h => by cases h with | tup q r => exact .tup q (VRs.flat hn hρ xs _ f r)
  | .scr _, v, _, h => by
    cases h with
    | scrF q => exact .scrF q
    | scrK q => exact .scrK q
  | .ref n, v, _, h => by cases h with | ref q => rw [← hρ]; exact .ref (by rw [hn]; exact q)
  | .lst _, v, f, _ => by cases f
  | .dK _ _, v, f, _ => by cases f
  | .dT _ _, v, f, _ => by cases f
  | .ins _ _, v, f, _ => by cases f
  | .exc _ _, v, f, _ => by cases f
theorem VRs.flat {W W' : Wd} {H : Hp} (hn : W'.n = W.n) (hρ : W'.rho = W.rho) : ∀ (ds : List D) (vs : List V), D.flats ds = true → VRs C W H ds vs → VRs C W' H ds vs
  | [], vs, _, h => by cases h; exact .nil
  | d :: ds, vs, f, h => by
    unfold D.flats at f
    rw [Bool.and_eq_true] at f
    cases h with
    | cons a b => exact .cons (VR.flat hn hρ d _ f.1 a) (VRs.flat hn hρ ds _ f.2 b)
end
theorem CR.flat {W W' : Wd} {H : Hp} (hn : W'.n = W.n) (hρ : W'.rho = W.rho) {d : D} {a : Addr} (f : flatC d = true) (h : CR C W H d a) : CR C W' H d a := by
  cases h with
  | lst q r => exact .lst q (r.flat hn hρ _ _ f)
  | dK q r => exact .dK q (r.flat hn hρ _ _ f)
  | dT q r => exact .dT q (r.flat hn hρ _ _ f)
  | ins q z r => exact .ins q z (r.flat hn hρ _ _ f)
/-- the world in which what is lent is frozen -/
def lend (W : Wd) (P : Addr → Prop) : Wd := { W with F := fun a => W.F a ∨ P a }
theorem ORs.lent {P : Addr → Prop} {W : Wd} {H : Hp} {ds : List D} {vs : List V} (h : ORs C P W H ds vs) : VRs C (lend W P) H ds vs := by
  have ex : Ext W.F W H (lend W P) H := ⟨Nat.le_refl _, fun _ _ => rfl, fun i h1 h2 => absurd h2 (Nat.not_lt.mpr h1), fun _ _ => rfl, fun _ h => .inl h, fun b h1 _ => h1, fun _ _ h => h, fun _ _ _ h => h⟩
  induction h with
  | nil => exact .nil
  | cons o _ ih =>
    refine .cons ?_ ih
    rcases o with o | ⟨a, rfl, c, p, f⟩
    · exact o.ext (P := W.F) (fun _ z => z) ex
    · cases c with
      | lst q r => exact .lst (.inr p) q (r.ext (P := W.F) (fun _ z => z) ex)
      | dK q r => exact .dK (.inr p) q (r.ext (P := W.F) (fun _ z => z) ex)
      | dT q r => exact .dT (.inr p) q (r.ext (P := W.F) (fun _ z => z) ex)
      | ins q z r => exact .ins (.inr p) q z (r.ext (P := W.F) (fun _ z => z) ex)
theorem FRs.noObs {P : Addr → Prop} {W : Wd} {H : Hp} : ∀ {l : List SV} {ds : List D} {vs : List V}, svNo l = false → toOs l = some ds → FRs C P W H l vs → VRs C W H ds vs
  | [], ds, vs, _, e, h => by cases e; cases h; exact .nil
  | s :: l, ds, vs, f, e, h => by
    unfold toOs at e
    split at e <;> first | cases e | skip
    rename_i d ds' e1 e2
    simp only [svNo, List.any_cons, Bool.or_eq_false_iff] at f
    cases h with
    | cons a b =>
      refine .cons ?_ (FRs.noObs f.2 e2 b)
      cases s with
      | val x => cases e1; exact a
      | own x => exact a.elim
      | obs x => exact absurd f.1 (by simp)
/-- the callee's wish, from the caller's -/
theorem sp_of {P : Addr → Prop} {W : Wd} {H : Hp} {dh : List D} {σ : L2.St} {Q : VK} {l : List SV} {ds : List D} {vs : List V} {m : List D → List D → R SV} (pok : Pok P W H) (hr : HR C W H dh) (e : toOs l = some ds) (fr : FRs C P W H l vs)
    (kn : Kn ocV C Wx P W H σ Q (lent (svNo l) (m ds dh))) : spM C m vs H Q fun c d H => Wx c d σ H := by
  cases hn : svNo l with
  | false =>
    rw [hn] at kn
    exact ⟨P, W, ds, dh, pok, hr, fr.noObs hn e, Kn.wish (fun _ _ _ h => h) kn⟩
  | true =>
    rw [hn] at kn
    have exP : Ext W.F W H (lend W P) H := ⟨Nat.le_refl _, fun _ _ => rfl, fun i h1 h2 => absurd h2 (Nat.not_lt.mpr h1), fun _ _ => rfl, fun _ h => .inl h, fun b h1 _ => h1, fun _ _ h => h, fun _ _ _ h => h⟩
    have pok0 : Pok P (lend W P) H := ⟨fun a h => h.elim (pok.fz a) id, pok.dom, pok.sh⟩
    have hr0 : HR C (lend W P) H dh := ⟨hr.len, fun i d q => (hr.cr i d q).ext (P := W.F) (fun _ z => z) exP rfl, hr.inj, fun i hi z => z.elim (hr.nofz i hi) (pok.sh i hi), fun a z => z.elim (hr.dom a) (pok.dom a)⟩
    refine ⟨P, lend W P, ds, dh, pok0, hr0, (FRs.ors e fr).lent, ?_⟩
    -- back: only what was frozen ahead stays so
    have back : ∀ {W' : Wd} {H' : Hp} {dh' : List D}, Ext P (lend W P) H W' H' → HR C W' H' dh' → dh'.all flatC = true → Ext P W H { W' with F := W.F } H' ∧ HR C { W' with F := W.F } H' dh' := fun {W' H' dh'} ex hr' fl =>
      ⟨⟨ex.n, ex.rho, ex.new, ex.keep, fun _ h => h, fun _ _ h => h, ex.tup, ex.frz⟩,
        ⟨hr'.len, fun i d q => CR.flat (W := W') (W' := { W' with F := W.F }) rfl rfl (List.all_eq_true.mp fl d (List.mem_of_getElem? q)) (hr'.cr i d q), hr'.inj, fun i hi z => hr'.nofz i hi (ex.fz _ (.inl z)), fun a z => by rw [ex.keep a (pok.fz a z)]; exact hr.dom a z⟩⟩
    unfold lent at kn
    rw [if_pos rfl] at kn
    cases em : m ds dh with
    | bad => rw [em] at kn; exact kn.elim
    | exc c es dh' =>
      rw [em] at kn
      dsimp only at kn
      split at kn <;> first | exact kn.elim | skip
      rename_i hf
      rw [Bool.and_eq_true] at hf
      intro W' H' d ex hr' nd x
      obtain ⟨ex1, hr1⟩ := back ex hr' hf.2
      refine kn _ H' d ex1 hr1 nd ?_
      rcases x with x | ⟨dx, fs, h1, h2, h3, h4, h5, h6⟩
      · exact .inl x
      · exact .inr ⟨dx, fs, h1, h2, fun z => h3 (ex.fz _ (.inl z)), h4, h5, VRs.flat (W := W') (W' := { W' with F := W.F }) rfl rfl _ _ hf.1 h6⟩
    | ok sv dh' =>
      rw [em] at kn
      cases sv with
      | val d =>
        dsimp only at kn
        split at kn <;> first | exact kn.elim | skip
        rename_i hf
        rw [Bool.and_eq_true] at hf
        intro W' v H' ex hr' rr
        obtain ⟨ex1, hr1⟩ := back ex hr' hf.2
        exact kn _ v H' ex1 hr1 (VR.flat (W := W') (W' := { W' with F := W.F }) rfl rfl _ _ hf.1 rr)
      | own d => exact kn.elim
      | obs d => exact kn.elim
def fCall (m : List D → List D → R SV) (fr : List (Option SV) → List D → R (List SV)) : List (Option SV) → List D → R SV := fun s h => (fr s h).bind fun l h1 => match toOs l with
    | some ds => lent (svNo l) (m ds h1)
    | none => .bad
section
variable {k : Nat} {f : Addr} {fd : FuncData} {ps : List Str} {x : Str} {p : Pos} {m : List D → List D → R SV} {fr : List (Option SV) → List D → R (List SV)}
theorem se_call (tk : Takes X Wx) (Fn : FnOk X.prog X.w X.K X.mg X.base (L2.CX X.prog X.w) k f fd ps (spM C m)) (hr : Room k X.A) (hg : Gl X x) (hm : X.mg x = some (.ref f)) (hk : PySem.W.keepIn X.K (.ref f) = true) (hb : Binds X.K fd ps [])
    (ha : PA X (a :: es) (gA C Wx fr)) (hdb : (x == ("__debug__" : Str)) = false) (he : starEach (a :: es) X.env = (false, eval a X.env) :: starEach es X.env) (hpl : (backTo pos (starEach es X.env)).any (·.1) = false) :
    PE X (.Call (.Name x p) (a :: es) [] pos) (gE C Wx (fCall m fr)) := by
  refine PE.mono (pe_callS (E := WE Wx) Fn hr hg hm hk hb (fun σ => passAt tk σ) ha hdb he hpl) fun σ H Q ⟨P, W, ds, dh, pok, hr, sr, kn⟩ => ?_
  refine gG.mono (gG_step (oc1 := ocA) pok hr sr kn) fun vs H1 ⟨P1, W1, l, dh1, n1, o1, hq, kn1⟩ => ?_
  cases e : toOs l with
  | none => rw [e] at kn1; exact kn1.elim
  | some xs =>
    rw [e] at kn1
    exact sp_of n1.pok n1.hr e (o1.more n1.sub) kn1
theorem se_call0 (tk : Takes X Wx) (Fn : FnOk X.prog X.w X.K X.mg X.base (L2.CX X.prog X.w) k f fd ps (spM C m)) (hr : Room k X.A) (hg : Gl X x) (hm : X.mg x = some (.ref f)) (hk : PySem.W.keepIn X.K (.ref f) = true) (hb : Binds X.K fd ps [])
    (hdb : (x == ("__debug__" : Str)) = false) : PE X (.Call (.Name x p) [] [] pos) (gE C Wx (fCall m fun _ h => .ok [] h)) := by
  refine ⟨fun pins s σ H Q I h => ?_⟩
  obtain ⟨P, W, ds, dh, pok, hr', sr, kn⟩ := h
  refine wpAny_Call_Name_kw (ld_glob I hg hm ?_ hdb)
  exact PySem.W.callWith_K0 I.kIn hk (run_fnS (E := WE Wx) (us := []) (vs := []) Fn hr hb (passAt tk σ) I .nil (sp_of (l := []) pok hr' rfl .nil kn))
end
end
end SH
namespace SH
open PySem PySem.Spec PyProof.Rows L2

section
variable {X : Cx} {C : Cd} {Wx : WX} {pos p2 : Pos} {a b c : Expr} {es : List Expr} {fa fb fc : List (Option SV) → List D → R SV} {fr : List (Option SV) → List D → R (List SV)}
/-! ### built-ins by name -/
/-- a built-in's rule keeps what biD says -/
def BiOk (C : Cd) (b : BI) (r : List V → Hp → VK → Prop) : Prop :=
  ∀ (P : Addr → Prop) (W : Wd) (H : Hp) (dh : List D) (Wx : WX) (σ : L2.St) (Q : VK) (ds : List D) (vs : List V), Pok P W H → HR C W H dh → ORs C P W H ds vs → Kn ocV C Wx P W H σ Q (biD b ds dh) → r vs H Q
def fBi (b : BI) (fr : List (Option SV) → List D → R (List SV)) : List (Option SV) → List D → R SV := fun s h => (fr s h).bind fun l h1 => match toOs l with
    | some ds => biD b ds h1
    | none => .bad
theorem bi_read {bi : BI} {r : List V → Hp → VK → Prop} (ho : BiOk C bi r) {σ : L2.St} {H : Hp} {Q : VK} (h : gE C Wx (fBi bi fr) σ H Q) : tCB r (gA C Wx fr) σ H Q := by
  obtain ⟨P, W, ds, dh, pok, hr, sr, kn⟩ := h
  refine gG.mono (gG_step (oc1 := ocA) pok hr sr kn) fun vs H1 ⟨P1, W1, l, dh1, n1, o1, hq, kn1⟩ => ?_
  cases e : toOs l with
  | none => rw [e] at kn1; exact kn1.elim
  | some xs =>
    rw [e] at kn1
    exact ho P1 W1 H1 dh1 Wx σ Q xs vs n1.pok n1.hr ((FRs.ors e o1).rec (motive := fun ds vs _ => ORs C P1 W1 H1 ds vs) .nil fun o _ ih => .cons (o.more n1.sub) ih) kn1
theorem se_biB {bi : BI} {id : String} {x : Str} {p : Pos} {r : List V → Hp → VK → Prop} (hc : CallR X (.builtin id) r) (ho : BiOk C bi r) (hg : Gl X x) (hm : X.mg x = none) (hv : bootBuiltins x = some (.builtin id)) (ha : PA X (a :: es) (gA C Wx fr)) (hn : x ≠ "__name__") (hdb : (x == ("__debug__" : Str)) = false)
    (he : starEach (a :: es) X.env = (false, eval a X.env) :: starEach es X.env) (hpl : (backTo pos (starEach es X.env)).any (·.1) = false) : PE X (.Call (.Name x p) (a :: es) [] pos) (gE C Wx (fBi bi fr)) :=
  PE.mono (pe_callB hc hg hm hv ha hn hdb he hpl) fun σ H Q h => bi_read ho h
theorem se_biT {bi : BI} {id : String} {x : Str} {p : Pos} {r : List V → Hp → VK → Prop} (hc : CallR X (.type id) r) (ho : BiOk C bi r) (hg : Gl X x) (hm : X.mg x = none) (hv : bootBuiltins x = some (.type id)) (ha : PA X (a :: es) (gA C Wx fr)) (hn : x ≠ "__name__") (hdb : (x == ("__debug__" : Str)) = false)
    (he : starEach (a :: es) X.env = (false, eval a X.env) :: starEach es X.env) (hpl : (backTo pos (starEach es X.env)).any (·.1) = false) : PE X (.Call (.Name x p) (a :: es) [] pos) (gE C Wx (fBi bi fr)) :=
  PE.mono (pe_callTy hc hg hm hv ha hn hdb he hpl) fun σ H Q h => bi_read ho h
/-- len -/
def rLen (K : PySem.W.Frag) : List V → Hp → VK → Prop := fun xs H Q => (∃ p ys, xs = [.ref p] ∧ (SqL K H p ys ∨ SqT K H p ys) ∧ Q (.int ys.length) H) ∨ (∃ z, xs = [.str z] ∧ z.length ≤ sizeLine ∧ Q (.int z.length) H) ∨
  (∃ a kvs, xs = [V.ref a] ∧ Rd H a (.dK kvs) ∧ Q (.int kvs.length) H) ∨ (∃ a kvs, xs = [V.ref a] ∧ Rd H a (.dT kvs) ∧ Q (.int kvs.length) H)
theorem cr_lenK : CallR X (.builtin "len") (fun xs H Q => ∃ a kvs, xs = [V.ref a] ∧ Rd H a (.dK kvs) ∧ Q (.int kvs.length) H) := by
  intro pins s σ H xs us Q I r h
  obtain ⟨a, kvs, rfl, ha, q⟩ := h
  obtain ⟨u, rfl, ru⟩ := vals1 r
  cases ru
  exact d_len I ha fun t s' I' => ⟨.int kvs.length, H, I', ⟨t, rfl⟩, q⟩
theorem cr_lenT : CallR X (.builtin "len") (fun xs H Q => ∃ a kvs, xs = [V.ref a] ∧ Rd H a (.dT kvs) ∧ Q (.int kvs.length) H) := by
  intro pins s σ H xs us Q I r h
  obtain ⟨p, kvs, rfl, hp, q⟩ := h
  obtain ⟨u, rfl, rx⟩ := vals1 r
  obtain rfl : u = .ref p := rx
  obtain ⟨z, hd, ys, rel, dd⟩ := dt_rd I.hok hp
  have hl : kvs.length = ys.length := Paired.length rel
  refine call_len_dictH hd dd (by rw [← hl]; rw [sizeLine_eq] at z; omega) ?_
  rw [← hl]
  exact ⟨.int ((kvs.length : Nat) : Int), H, I.tok _, ⟨_, rfl⟩, q⟩
theorem cr_len : CallR X (.builtin "len") (rLen X.K) := call_len_seq.or (call_len_str.or (cr_lenK.or cr_lenT))
theorem bi_len : BiOk C .len (rLen C.K) := by
  intro P W H dh Wx σ Q ds vs pok hr or kn
  unfold biD at kn
  split at kn <;> first | contradiction | exact kn.elim | skip
  · cases or with
    | cons o r =>
      cases r
      cases e : lenD (deref dh ‹D›) with
      | none => rw [e] at kn; exact kn.elim
      | some n =>
        rw [e] at kn
        have q : Q (.int n) H := Kn.val hr (.int _) kn
        unfold lenD at e
        split at e <;> first | contradiction | cases e | skip
        · obtain ⟨p, rfl, h1⟩ := o.scr hr ‹_›
          exact .inl ⟨p, _, rfl, .inl h1, by rw [List.length_map]; exact q⟩
        · obtain ⟨p, us, rfl, h1, h2⟩ := o.lst hr ‹_›
          exact .inl ⟨p, us, rfl, .inl (.of h1), by rw [← h2.length]; exact q⟩
        · obtain ⟨p, us, rfl, h1, h2⟩ := o.tup hr ‹_›
          exact .inl ⟨p, us, rfl, .inr (.of h1), by rw [← h2.length]; exact q⟩
        · obtain ⟨p, kvs, rfl, h1, rfl, h2⟩ := o.dK hr ‹_›
          exact .inr (.inr (.inl ⟨p, kvs, rfl, h1, by rw [List.length_map] at q; exact q⟩))
        · obtain ⟨p, kvs, rfl, h1, rfl, h2⟩ := o.dT hr ‹_›
          exact .inr (.inr (.inr ⟨p, kvs, rfl, h1, by rw [List.length_map] at q; exact q⟩))
        · split at e <;> first | contradiction | cases e | skip
          rw [o.str hr ‹_›]
          exact .inr (.inl ⟨_, rfl, ‹_›, q⟩)
/-- abs -/
theorem bi_abs : BiOk C .abs (fun xs H Q => ∃ i, xs = [.int i] ∧ Q (.int (if i < 0 then -i else i)) H) := by
  intro P W H dh Wx σ Q ds vs pok hr or kn
  unfold biD at kn
  split at kn <;> first | contradiction | exact kn.elim | skip
  cases or with
  | cons o r =>
    cases r
    exact ⟨_, by rw [o.int hr rfl], Kn.val hr (.int _) kn⟩
/-- an own thing is laid among the shared ones -/
def fHeap (fa : List (Option SV) → List D → R SV) : List (Option SV) → List D → R SV := fun s h => (fa s h).bind fun sv h1 => match sv with
    | .own d => .ok (.val (.ref h1.length)) (h1 ++ [d])
    | _ => .bad
theorem se_heap (ha : PE X a (gE C Wx fa)) : PE X a (gE C Wx (fHeap fa)) := by
  refine PE.mono ha fun σ H Q ⟨P, W, ds, dh, pok, hr, sr, kn⟩ => ?_
  refine ⟨P, W, ds, dh, pok, hr, sr, (Kn.bind (oc := ocV) kn).mono fun v H1 ⟨sv, W1, dh1, e, hr1, rr, kn1⟩ => ?_⟩
  cases sv with
  | val d => exact kn1.elim
  | obs d => exact kn1.elim
  | own d =>
    obtain ⟨x, rfl, cr, np, nf, ns⟩ := rr
    -- one more shared object
    let W2 : Wd := { W1 with rho := fun i => if i = W1.n then x else W1.rho i, n := W1.n + 1 }
    have rold : ∀ i, i < W1.n → W2.rho i = W1.rho i := fun i hi => if_neg (Nat.ne_of_lt hi)
    have rnew : W2.rho W1.n = x := if_pos rfl
    have ex : ∀ {P' : Addr → Prop}, ¬ P' x → Ext P' W1 H1 W2 H1 := fun hp => ⟨Nat.le_succ _, rold, fun i h1 h2 => by
      have z : i = W1.n := by
        have h2 : i < W1.n + 1 := h2
        omega
      rw [z, rnew]
      exact hp, fun _ _ => rfl, fun _ h => h, fun _ _ h => h, fun _ _ h => h, fun _ _ _ h => h⟩
    have hlen := hr1.len
    have hr2 : HR C W2 H1 (dh1 ++ [d]) := by
      refine ⟨by rw [List.length_append, hlen] <;> rfl, fun i d' q => ?_, fun i j hi hj q => ?_, fun i hi q => ?_, hr1.dom⟩
      · by_cases hi : i < W1.n
        · rw [List.getElem?_append_left (by omega)] at q
          rw [rold i hi]
          exact (hr1.cr i d' q).ext (P := W1.F) (fun _ z => z) (ex nf) rfl
        · have z : i = W1.n := by
            have := (List.getElem?_eq_some_iff.mp q).1
            rw [List.length_append] at this
            simp at this
            omega
          subst z
          rw [← hlen, List.getElem?_concat_length] at q
          cases q
          rw [rnew]
          exact cr.ext (P := W1.F) (fun _ z => z) (ex nf) rfl
      · have hi : i < W1.n + 1 := hi
        have hj : j < W1.n + 1 := hj
        by_cases h1 : i < W1.n
        · rw [rold i h1] at q
          by_cases h2 : j < W1.n
          · rw [rold j h2] at q
            exact hr1.inj i j h1 h2 q
          · have z : j = W1.n := by omega
            rw [z, rnew] at q
            exact absurd q (ns i h1)
        · have z : i = W1.n := by omega
          rw [z, rnew] at q
          by_cases h2 : j < W1.n
          · rw [rold j h2] at q
            exact absurd q.symm (ns j h2)
          · omega
      · have hi : i < W1.n + 1 := hi
        by_cases h1 : i < W1.n
        · rw [rold i h1] at q
          exact hr1.nofz i h1 q
        · have z : i = W1.n := by omega
          rw [z, rnew] at q
          exact nf q
    refine kn1 W2 (.ref x) H1 (ex np) hr2 ?_
    show VR C W2 H1 (.ref dh1.length) (.ref x)
    rw [hlen, ← rnew]
    exact .ref (Nat.lt_succ_self _)
end

/-! ### isinstance -/
def clTy : Cl → Option String
  | .c _ => none
  | .bool => some "bool" | .int => some "int" | .str => some "str" | .list => some "list" | .tuple => some "tuple" | .dict => some "dict" | .ve => some "ValueError"
def clV (C : Cd) : Cl → V
  | .c i => .ref (C.cad i)
  | .bool => .ty "bool" | .int => .ty "int" | .str => .ty "str" | .list => .ty "list" | .tuple => .ty "tuple" | .dict => .ty "dict" | .ve => .ty "ValueError"
def clU (C : Cd) : Cl → Value
  | .c i => .ref (C.cad i)
  | .bool => .type "bool" | .int => .type "int" | .str => .type "str" | .list => .type "list" | .tuple => .type "tuple" | .dict => .type "dict" | .ve => .type "ValueError"
theorem clV_ok (C : Cd) (c : Cl) : ClsV (clV C c) (clU C c) := by
  cases c <;> first | exact .own _ | exact .ty _
end SH
namespace SH
open PySem PySem.Spec PyProof.Rows L2

/-! ### statements -/
/-- the slots between two statements: O tells where an own thing lies -/
structure SRs (C : Cd) (P : Addr → Prop) (W : Wd) (H : Hp) (ds : List (Option SV)) (σ : L2.St) (O : Nat → Addr) : Prop where
  len : ds.length = σ.length
  val : ∀ (i : Nat) (d : D), ds[i]? = some (some (SV.val d)) → ∃ v, σ[i]? = some (some v) ∧ VR C W H d v
  own : ∀ (i : Nat) (d : D), ds[i]? = some (some (SV.own d)) → σ[i]? = some (some (V.ref (O i))) ∧ CR C W H d (O i) ∧ ¬ P (O i) ∧ ¬ W.F (O i) ∧ ∀ k, k < W.n → W.rho k ≠ O i
  inj : ∀ (i j : Nat) (d e : D), ds[i]? = some (some (SV.own d)) → ds[j]? = some (some (SV.own e)) → O i = O j → i = j
  no : ∀ (i : Nat) (d : D), ds[i]? ≠ some (some (SV.obs d))
/-- what an expression may not touch either -/
def Pe (P : Addr → Prop) (ds : List (Option SV)) (O : Nat → Addr) : Addr → Prop := fun a => P a ∨ ∃ (i : Nat) (d : D), ds[i]? = some (some (SV.own d)) ∧ a = O i
def KnS (C : Cd) (Wx : WX) (P : Addr → Prop) (W : Wd) (H : Hp) (En : Ends) : FR → Prop
  | .next ds dh => ∀ W' σ' H' O, Ext P W H W' H' → HR C W' H' dh → SRs C P W' H' ds σ' O → En.nx σ' H'
  | .cont ds dh => ∀ W' σ' H' O, Ext P W H W' H' → HR C W' H' dh → SRs C P W' H' ds σ' O → En.ct σ' H'
  | .ret sv dh => ∀ W' v H', Ext P W H W' H' → HR C W' H' dh → RR C P W' H' sv v → En.rt v H'
  | .exc c vs ds dh => ∀ W' H' d σ' O, Ext P W H W' H' → HR C W' H' dh → (∀ a, d = some a → ¬ P a) → XR C W' H' vs c d → SRs C P W' H' ds σ' O → Wx (.ref (C.cad c)) d σ' H'
  | .bad => False
/-- THE READING of statements -/
def gS (C : Cd) (Wx : WX) (g : List (Option SV) → List D → FR) : TS := fun En σ H =>
  ∃ P W ds dh O, Pok P W H ∧ HR C W H dh ∧ SRs C P W H ds σ O ∧ KnS C Wx P W H En (g ds dh)

section
variable {C : Cd} {Wx : WX} {P P1 : Addr → Prop} {W W1 : Wd} {H H1 : Hp} {σ : L2.St} {dh dh1 : List D} {ds : List (Option SV)} {O : Nat → Addr} {En : Ends} {r : FR}
theorem SRs.weak (hp : ∀ a, P a → P1 a) (h : SRs C P1 W H ds σ O) : SRs C P W H ds σ O :=
  ⟨h.len, h.val, fun i d e => let ⟨h1, h2, h3, h4⟩ := h.own i d e; ⟨h1, h2, fun z => h3 (hp _ z), h4⟩, h.inj, h.no⟩
theorem SRs.next (h : SRs C P W H ds σ O) : SRs C (fun a => P a ∨ W.F a) W H ds σ O :=
  ⟨h.len, h.val, fun i d e => let ⟨h1, h2, h3, h4, h5⟩ := h.own i d e; ⟨h1, h2, fun z => z.elim h3 h4, h4, h5⟩, h.inj, h.no⟩
theorem KnS.step (e : Ext P W H W1 H1) (h : KnS C Wx P W H En r) : KnS C Wx P W1 H1 En r := by
  have tr : ∀ {W2 : Wd} {H2 : Hp}, Ext P W1 H1 W2 H2 → Ext P W H W2 H2 := fun e1 => e.trans (fun _ z => z) e1
  cases r with
  | next ds dh => exact fun W' σ' H' O e1 => h W' σ' H' O (tr e1)
  | cont ds dh => exact fun W' σ' H' O e1 => h W' σ' H' O (tr e1)
  | ret sv dh => exact fun W' v H' e1 => h W' v H' (tr e1)
  | exc c vs ds dh => exact fun W' H' d σ' O e1 => h W' H' d σ' O (tr e1)
  | bad => exact h
theorem KnS.more (hp : ∀ a, P a → P1 a) (hq : ∀ a, P1 a → P a ∨ W.F a) (h : KnS C Wx P W H En r) : KnS C Wx P1 W H En r := by
  cases r with
  | next ds dh => exact fun W' σ' H' O e1 hr sr => h W' σ' H' O (e1.weak hp) hr (sr.weak hp)
  | cont ds dh => exact fun W' σ' H' O e1 hr sr => h W' σ' H' O (e1.weak hp) hr (sr.weak hp)
  | ret sv dh => exact fun W' v H' e1 hr rr => h W' v H' (e1.weak hp) hr (RR.weak hp (fun a q => (hq a q).imp id (e1.fz a)) rr)
  | exc c vs ds dh => exact fun W' H' d σ' O e1 hr nd x sr => h W' H' d σ' O (e1.weak hp) hr (fun a z q => nd a z (hp a q)) x (sr.weak hp)
  | bad => exact h
theorem KnS.mono {En' : Ends} (h1 : ∀ σ H, En.nx σ H → En'.nx σ H) (h2 : ∀ v H, En.rt v H → En'.rt v H) (h3 : ∀ σ H, En.ct σ H → En'.ct σ H) (h : KnS C Wx P W H En r) : KnS C Wx P W H En' r := by
  cases r with
  | next ds dh => exact fun W' σ' H' O e1 hr sr => h1 _ _ (h W' σ' H' O e1 hr sr)
  | cont ds dh => exact fun W' σ' H' O e1 hr sr => h3 _ _ (h W' σ' H' O e1 hr sr)
  | ret sv dh => exact fun W' v H' e1 hr rr => h2 _ _ (h W' v H' e1 hr rr)
  | exc c vs ds dh => exact h
  | bad => exact h
theorem gS.at {g : List (Option SV) → List D → FR} (pok : Pok P W H) (hr : HR C W H dh) (sr : SRs C P W H ds σ O) (kn : KnS C Wx P W H En (g ds dh)) : gS C Wx g En σ H := ⟨P, W, ds, dh, O, pok, hr, sr, kn⟩
/-- .. behind a step -/
theorem gS.of {g : List (Option SV) → List D → FR} {W0 : Wd} {H0 : Hp} (pok : Pok P W0 H0) (e : Ext P W0 H0 W H) (hr : HR C W H dh) (sr : SRs C P W H ds σ O) (kn : KnS C Wx P W H En (g ds dh)) : gS C Wx g En σ H :=
  ⟨_, W, ds, dh, O, pok.next e hr, hr, sr.next, kn.more (fun _ h => .inl h) fun _ h => h⟩
/-! from a statement to its expressions and back -/
theorem pe_pok (pok : Pok P W H) (sr : SRs C P W H ds σ O) : Pok (Pe P ds O) W H := by
  refine ⟨fun a h => .inl (pok.fz a h), fun a h => ?_, fun k hk h => ?_⟩
  · rcases h with h | ⟨i, d, e, rfl⟩
    · exact pok.dom a h
    · exact (sr.own i d e).2.1.there
  · rcases h with h | ⟨i, d, e, q⟩
    · exact pok.sh k hk h
    · exact (sr.own i d e).2.2.2.2 k hk q
theorem pe_sre (sr : SRs C P W H ds σ O) : SRe C (Pe P ds O) W H ds σ := by
  refine ⟨sr.len, fun i sv e => ?_⟩
  cases sv with
  | val d => exact sr.val i d e
  | own d =>
    obtain ⟨h1, h2, h3, h4, _⟩ := sr.own i d e
    exact ⟨_, h1, O i, rfl, h2, .inr ⟨i, d, e, rfl⟩, h4⟩
  | obs d => exact absurd e (sr.no i d)
theorem pe_back (pok : Pok P W H) (sr : SRs C P W H ds σ O) (e : Ext (Pe P ds O) W H W1 H1) : Ext P W H W1 H1 ∧ SRs C P W1 H1 ds σ O := by
  have pk := pe_pok pok sr
  refine ⟨e.weak fun _ h => .inl h, sr.len, fun i d q => ?_, fun i d q => ?_, sr.inj, sr.no⟩
  · obtain ⟨v, h1, h2⟩ := sr.val i d q
    exact ⟨v, h1, h2.ext pk.fz e⟩
  · obtain ⟨h1, h2, h3, h4, h5⟩ := sr.own i d q
    have hp : Pe P ds O (O i) := .inr ⟨i, d, q, rfl⟩
    refine ⟨h1, h2.ext pk.fz e (e.keep _ hp), h3, fun z => h4 (e.nofz _ hp z), fun k hk z => ?_⟩
    by_cases hl : k < W.n
    · rw [e.rho k hl] at z
      exact h5 k hl z
    · exact e.new k (Nat.le_of_not_lt hl) hk (z ▸ hp)
/-- an expression of a statement -/
theorem gS_step {α β : Type} {oc : Oc α β} {f : List (Option SV) → List D → R α} {k : α → List D → FR} (pok : Pok P W H) (hr : HR C W H dh) (sr : SRs C P W H ds σ O) (kn : KnS C Wx P W H En (FR.ofR ds (f ds dh) k)) :
    gG oc C Wx f σ H fun v H1 => ∃ W1 sv dh1, Ext P W H W1 H1 ∧ HR C W1 H1 dh1 ∧ SRs C P W1 H1 ds σ O ∧ oc.rel C (Pe P ds O) W1 H1 sv v ∧ KnS C Wx P W1 H1 En (k sv dh1) := by
  refine ⟨Pe P ds O, W, ds, dh, pe_pok pok sr, hr, pe_sre sr, ?_⟩
  cases e : f ds dh with
  | ok sv dh1 =>
    rw [e] at kn
    intro W' v H' e1 hr1 rr
    obtain ⟨e2, sr2⟩ := pe_back pok sr e1
    exact ⟨W', sv, dh1, e2, hr1, sr2, rr, KnS.step e2 kn⟩
  | exc c vs dh1 =>
    rw [e] at kn
    intro W' H' d e1 hr1 nd x
    obtain ⟨e2, sr2⟩ := pe_back pok sr e1
    exact kn W' H' d σ O e2 hr1 (fun a z q => nd a z (.inl q)) x sr2
  | bad => rw [e] at kn; exact kn.elim
/-- .. a value of it -/
theorem RR.toV {P' : Addr → Prop} {sv : SV} {v : V} {d : D} (hp : ∀ a, P a → P' a) (sr : SRs C P W H ds σ O) (hq : ∀ (i : Nat) (e : D), ds[i]? = some (some (SV.own e)) → P' (O i)) (rr : RR C P' W H sv v) (hr : HR C W H dh) (e : toV sv = some d) :
    ∃ W2, Ext P W H W2 H ∧ HR C W2 H dh ∧ SRs C P W2 H ds σ O ∧ VR C W2 H d v := by
  obtain ⟨W2, e2, hr2, vr⟩ := toV_ok rr hr e
  have e3 : Ext W.F W H W2 H := by
    refine ⟨e2.n, e2.rho, fun i h1 h2 z => ?_, fun _ _ => rfl, e2.fz, fun _ h _ => h, e2.tup, e2.frz⟩
    exact hr2.nofz i h2 (e2.fz _ z)
  refine ⟨W2, e2.weak hp, hr2, ⟨sr.len, fun i d q => ?_, fun i d q => ?_, sr.inj, sr.no⟩, vr⟩
  · obtain ⟨v, h1, h2⟩ := sr.val i d q
    exact ⟨v, h1, h2.ext (P := W.F) (fun _ z => z) e3⟩
  · obtain ⟨h1, h2, h3, h4, h5⟩ := sr.own i d q
    refine ⟨h1, h2.ext (P := W.F) (fun _ z => z) e3 rfl, h3, fun z => h4 (e2.nofz _ (hq i d q) z), fun k hk z => ?_⟩
    by_cases hl : k < W.n
    · rw [e2.rho k hl] at z
      exact h5 k hl z
    · exact e2.new k (Nat.le_of_not_lt hl) hk (z ▸ hq i d q)
theorem gS_stepV {f : List (Option SV) → List D → R SV} {k : D → List D → FR} (pok : Pok P W H) (hr : HR C W H dh) (sr : SRs C P W H ds σ O) (kn : KnS C Wx P W H En (FR.ofR ds ((f ds dh).bindV fun x h => .ok x h) k)) :
    gE C Wx f σ H fun v H1 => ∃ W1 d dh1, Ext P W H W1 H1 ∧ HR C W1 H1 dh1 ∧ SRs C P W1 H1 ds σ O ∧ VR C W1 H1 d v ∧ KnS C Wx P W1 H1 En (k d dh1) := by
  have z : FR.ofR ds ((f ds dh).bindV fun x h => .ok x h) k = FR.ofR ds (f ds dh) fun sv h => match toV sv with | some d => k d h | none => .bad := by
    cases f ds dh with
    | ok sv h =>
      show FR.ofR ds (match toV sv with | some x => R.ok x h | none => .bad) k = (match toV sv with | some d => k d h | none => .bad)
      cases toV sv <;> rfl
    | exc c vs h => rfl
    | bad => rfl
  rw [z] at kn
  refine gG.mono (gS_step (oc := ocV) pok hr sr kn) fun v H1 ⟨W1, sv, dh1, e, hr1, sr1, rr, kn1⟩ => ?_
  cases et : toV sv with
  | none => rw [et] at kn1; exact kn1.elim
  | some d =>
    rw [et] at kn1
    obtain ⟨W2, e2, hr2, sr2, vr⟩ := RR.toV (fun _ h => .inl h) sr1 (fun i e q => .inr ⟨i, e, q, rfl⟩) rr hr1 et
    exact ⟨W2, d, dh1, e.trans (fun _ z => z) e2, hr2, sr2, vr, KnS.step e2 kn1⟩
end

section
variable {X : Cx} {C : Cd} {Wx : WX} {pos : Pos} {e : Expr} {st : Stmt} {rest : List Stmt} {fe : List (Option SV) → List D → R SV} {g g2 : List (Option SV) → List D → FR}
theorem ss_nil : PSs X [] (gS C Wx fun s h => .next s h) := PSs.mono pss_nil fun D σ H ⟨P, W, ds, dh, O, pok, hr, sr, kn⟩ => kn W σ H O Ext.refl hr sr
theorem seq_read {En : Ends} {σ : L2.St} {H : Hp} (h : gS C Wx (fun s h => (g s h).andThen g2) En σ H) : gS C Wx g { En with nx := gS C Wx g2 En } σ H := by
  obtain ⟨P, W, ds, dh, O, pok, hr, sr, kn⟩ := h
  refine ⟨P, W, ds, dh, O, pok, hr, sr, ?_⟩
  dsimp only at kn
  cases e : g ds dh with
  | next s h =>
    rw [e] at kn
    exact fun W' σ' H' O' e1 hr1 sr1 => gS.of pok e1 hr1 sr1 (KnS.step e1 kn)
  | cont s h => rw [e] at kn; exact kn
  | ret v h => rw [e] at kn; exact kn
  | exc c vs s h => rw [e] at kn; exact kn
  | bad => rw [e] at kn; exact kn
theorem ss_cons (h1 : PS X st (gS C Wx g)) (h2 : PSs X rest (gS C Wx g2)) : PSs X (st :: rest) (gS C Wx fun s h => (g s h).andThen g2) := PSs.mono (pss_cons h1 h2) fun D σ H h => seq_read h
theorem ss_pass : PS X (.Pass pos) (gS C Wx fun s h => .next s h) := PS.mono ps_pass fun D σ H ⟨P, W, ds, dh, O, pok, hr, sr, kn⟩ => kn W σ H O Ext.refl hr sr
theorem ss_cont : PS X (.Continue pos) (gS C Wx fun s h => .cont s h) := PS.mono ps_continue fun D σ H ⟨P, W, ds, dh, O, pok, hr, sr, kn⟩ => kn W σ H O Ext.refl hr sr
theorem ss_expr (he : PE X e (gE C Wx fe)) (hs : swapsWith e none pos.line X.env = pure false) : PS X (.Expr e pos) (gS C Wx fun s h => .ofR s (fe s h) fun _ h1 => .next s h1) := by
  refine PS.mono (ps_expr he hs) fun D σ H ⟨P, W, ds, dh, O, pok, hr, sr, kn⟩ => ?_
  exact gG.mono (gS_step (oc := ocV) pok hr sr kn) fun v H1 ⟨W1, sv, dh1, e, hr1, sr1, rr, kn1⟩ => kn1 W1 σ H1 O Ext.refl hr1 sr1
theorem ss_ret (he : PE X e (gE C Wx fe)) : PS X (.Return (some e) pos) (gS C Wx fun s h => .ofR s (fe s h) fun sv h1 => match sv with
    | .obs _ => .bad
    | sv => .ret sv h1) := by
  refine PS.mono (ps_ret he) fun D σ H ⟨P, W, ds, dh, O, pok, hr, sr, kn⟩ => ?_
  refine gG.mono (gS_step (oc := ocV) pok hr sr kn) fun v H1 ⟨W1, sv, dh1, e, hr1, sr1, rr, kn1⟩ => ?_
  cases sv with
  | val d => exact kn1 W1 v H1 Ext.refl hr1 rr
  | own d =>
    obtain ⟨a, h1, h2, h3, h4⟩ := rr
    exact kn1 W1 v H1 Ext.refl hr1 ⟨a, h1, h2, fun z => h3 (.inl z), h4⟩
  | obs d => exact kn1.elim
theorem ss_retn : PS X (.Return none pos) (gS C Wx fun s h => .ret (.val .non) h) := PS.mono ps_retN fun D σ H ⟨P, W, ds, dh, O, pok, hr, sr, kn⟩ => kn W .non H Ext.refl hr .non
def sRetv (i : Nat) : List (Option SV) → List D → FR := fun s h => match s[i]? with
    | some (some (.own d)) => .ret (.own d) h
    | some (some (.val d)) => .ret (.val d) h
    | _ => .bad
theorem ss_retv {i : Nat} (he : PE X e (tVar i)) : PS X (.Return (some e) pos) (gS C Wx (sRetv i)) := by
  refine PS.mono (ps_ret he) fun D σ H ⟨P, W, ds, dh, O, pok, hr, sr, kn⟩ => ?_
  unfold sRetv at kn
  split at kn <;> first | exact kn.elim | skip
  · obtain ⟨h1, h2, h3, h4, h5⟩ := sr.own i _ ‹_›
    exact ⟨_, h1, kn W _ H Ext.refl hr ⟨O i, rfl, h2, h3, h4, h5⟩⟩
  · obtain ⟨v, h1, h2⟩ := sr.val i _ ‹_›
    exact ⟨_, h1, kn W _ H Ext.refl hr h2⟩
theorem ss_if {c : Expr} {as bs : List Stmt} {fc : List (Option SV) → List D → R SV} (hc : PT X c (gT C Wx fc)) (ha : PSs X as (gS C Wx g)) (hb : PSs X bs (gS C Wx g2)) :
    PS X (.If c as bs pos) (gS C Wx fun s h => .ofR s ((fc s h).bindO trB) fun t h1 => if t then g s h1 else g2 s h1) := by
  refine PS.mono (ps_if hc ha hb) fun D σ H ⟨P, W, ds, dh, O, pok, hr, sr, kn⟩ => ?_
  refine gG.mono (gS_step (oc := ocB) pok hr sr kn) fun b H1 ⟨W1, b', dh1, e, hr1, sr1, rr, kn1⟩ => ?_
  cases rr
  cases b with
  | true => exact iteT (gS.of pok e hr1 sr1 kn1)
  | false => exact iteF (gS.of pok e hr1 sr1 kn1)
/-! ### stores -/
section
variable {P : Addr → Prop} {W : Wd} {H : Hp} {ds ds1 : List (Option SV)} {σ : L2.St} {O : Nat → Addr}
theorem SRs.setVal {i : Nat} {d : D} {v : V} (sr : SRs C P W H ds σ O) (vr : VR C W H d v) : SRs C P W H (ds.set i (some (.val d))) (σ.set i (some v)) O := by
  have old : ∀ (j : Nat) (o : Option SV), (ds.set i (some (.val d)))[j]? = some o → (j = i ∧ i < ds.length ∧ o = some (.val d)) ∨ (j ≠ i ∧ ds[j]? = some o) := fun j o q => by
    by_cases e : j = i
    · subst e
      by_cases h : j < ds.length
      · rw [List.getElem?_set_self h] at q
        exact .inl ⟨rfl, h, (Option.some.inj q).symm⟩
      · rw [List.getElem?_eq_none (by simpa using h)] at q
        cases q
    · rw [List.getElem?_set_ne (Ne.symm e)] at q
      exact .inr ⟨e, q⟩
  refine ⟨by simpa using sr.len, fun j d' q => ?_, fun j d' q => ?_, fun j k d' e' q q' z => ?_, fun j d' q => ?_⟩
  · rcases old j _ q with ⟨rfl, h, z⟩ | ⟨e, q⟩
    · cases z
      exact ⟨v, by rw [List.getElem?_set_self (by rw [← sr.len]; exact h)], vr⟩
    · obtain ⟨u, h1, h2⟩ := sr.val j d' q
      exact ⟨u, by rw [List.getElem?_set_ne (Ne.symm e)]; exact h1, h2⟩
  · rcases old j _ q with ⟨rfl, h, z⟩ | ⟨e, q⟩
    · cases z
    · obtain ⟨h1, h2⟩ := sr.own j d' q
      exact ⟨by rw [List.getElem?_set_ne (Ne.symm e)]; exact h1, h2⟩
  · rcases old j _ q with ⟨rfl, h, z'⟩ | ⟨e, q⟩
    · cases z'
    · rcases old k _ q' with ⟨rfl, h, z'⟩ | ⟨e2, q'⟩
      · cases z'
      · exact sr.inj j k d' e' q q' z
  · rcases old j _ q with ⟨rfl, h, z⟩ | ⟨e, q⟩
    · cases z
    · exact sr.no j d' q
theorem SRs.setOwn {i : Nat} {d : D} {a : Addr} (sr : SRs C P W H ds σ O) (cr : CR C W H d a) (h1 : ¬ P a) (h2 : ¬ W.F a) (h3 : ∀ k, k < W.n → W.rho k ≠ a) (h4 : ∀ (j : Nat) (e : D), ds[j]? = some (some (SV.own e)) → O j ≠ a) :
    SRs C P W H (ds.set i (some (.own d))) (σ.set i (some (.ref a))) (fun j => if j = i then a else O j) := by
  have old : ∀ (j : Nat) (o : Option SV), (ds.set i (some (.own d)))[j]? = some o → (j = i ∧ i < ds.length ∧ o = some (.own d)) ∨ (j ≠ i ∧ ds[j]? = some o) := fun j o q => by
    by_cases e : j = i
    · subst e
      by_cases h : j < ds.length
      · rw [List.getElem?_set_self h] at q
        exact .inl ⟨rfl, h, (Option.some.inj q).symm⟩
      · rw [List.getElem?_eq_none (by simpa using h)] at q
        cases q
    · rw [List.getElem?_set_ne (Ne.symm e)] at q
      exact .inr ⟨e, q⟩
  refine ⟨by simpa using sr.len, fun j d' q => ?_, fun j d' q => ?_, fun j k d' e' q q' z => ?_, fun j d' q => ?_⟩
  · rcases old j _ q with ⟨rfl, h, z⟩ | ⟨e, q⟩
    · cases z
    · obtain ⟨u, g1, g2⟩ := sr.val j d' q
      exact ⟨u, by rw [List.getElem?_set_ne (Ne.symm e)]; exact g1, g2⟩
  · rcases old j _ q with ⟨rfl, h, z⟩ | ⟨e, q⟩
    · cases z
      rw [if_pos rfl]
      exact ⟨by rw [List.getElem?_set_self (by rw [← sr.len]; exact h)], cr, h1, h2, h3⟩
    · obtain ⟨g1, g2⟩ := sr.own j d' q
      rw [if_neg e]
      exact ⟨by rw [List.getElem?_set_ne (Ne.symm e)]; exact g1, g2⟩
  · rcases old j _ q with ⟨rfl, h, _⟩ | ⟨e, w⟩
    · rcases old k _ q' with ⟨rfl, _, _⟩ | ⟨e2, q'⟩
      · rfl
      · rw [if_pos rfl, if_neg e2] at z
        exact absurd z.symm (h4 k _ q')
    · rcases old k _ q' with ⟨rfl, _, _⟩ | ⟨e2, w'⟩
      · rw [if_neg e, if_pos rfl] at z
        exact absurd z (h4 j _ w)
      · rw [if_neg e, if_neg e2] at z
        exact sr.inj j k d' e' w w' z
  · rcases old j _ q with ⟨rfl, h, z⟩ | ⟨e, q⟩
    · cases z
    · exact sr.no j d' q
end
/-- what a target takes -/
def gTg (K : PySem.W.Frag) : Tg → TG
  | .v i => gName i
  | .t ts => fun v σ H Q => ∃ a xs, v = .ref a ∧ SqT K H a xs ∧ xs.length = lenTs ts ∧ gTgs K ts xs σ H Q
where
  lenTs : Tgs → Nat
    | .nil => 0
    | .cons _ r => lenTs r + 1
  gTgs (K : PySem.W.Frag) : Tgs → TGs
    | .nil => gNil
    | .cons t r => gCons (gTg K t) (gTgs K r)
end
end SH
namespace SH
open PySem PySem.Spec PyProof.Rows L2

section
variable {C : Cd} {Wx : WX} {P : Addr → Prop} {W : Wd} {H : Hp} {O : Nat → Addr}
theorem lenTs_eq {W : Wd} {H : Hp} : ∀ (ts : Tgs) (xs : List D) (ds ds1 : List (Option SV)), asgTs ts xs ds = some ds1 → xs.length = gTg.lenTs ts
  | .nil, [], _, _, _ => rfl
  | .nil, _ :: _, _, _, e => by cases e
  | .cons _ _, [], _, _, e => by cases e
  | .cons t r, x :: xs, ds, ds1, e => by
    unfold asgTs at e
    cases e1 : asgT t x ds with
    | none => rw [e1] at e; cases e
    | some d2 =>
      rw [e1] at e
      have := lenTs_eq (W := W) (H := H) r xs d2 ds1 e
      simp [gTg.lenTs, this]
mutual
theorem asgT_ok : ∀ (tg : Tg) (d : D) (v : V) (ds ds1 : List (Option SV)) (σ : L2.St) (Q : L2.St → Hp → Prop), asgT tg d ds = some ds1 → VR C W H d v → SRs C P W H ds σ O → (∀ σ', SRs C P W H ds1 σ' O → Q σ' H) → gTg C.K tg v σ H Q
  | .v i, d, v, ds, ds1, σ, Q, e, vr, sr, q => by
    unfold asgT at e
    split at e <;> first | cases e | skip
    exact q _ (sr.setVal vr)
  | .t ts, .tup xs, v, ds, ds1, σ, Q, e, vr, sr, q => by
    cases vr with
    | tup h r =>
      refine ⟨_, _, rfl, .of h, ?_, asgTs_ok ts xs _ ds ds1 σ Q e r sr q⟩
      rw [← r.length]
      exact lenTs_eq (W := W) (H := H) ts xs ds ds1 e
  | .t _, .non, _, _, _, _, _, e, _, _, _ => by cases e
  | .t _, .bl _, _, _, _, _, _, e, _, _, _ => by cases e
  | .t _, .int _, _, _, _, _, _, e, _, _, _ => by cases e
  | .t _, .str _, _, _, _, _, _, e, _, _, _ => by cases e
  | .t _, .lst _, _, _, _, _, _, e, _, _, _ => by cases e
  | .t _, .scr _, _, _, _, _, _, e, _, _, _ => by cases e
  | .t _, .dK _ _, _, _, _, _, _, e, _, _, _ => by cases e
  | .t _, .dT _ _, _, _, _, _, _, e, _, _, _ => by cases e
  | .t _, .ins _ _, _, _, _, _, _, e, _, _, _ => by cases e
  | .t _, .exc _ _, _, _, _, _, _, e, _, _, _ => by cases e
  | .t _, .ref _, _, _, _, _, _, e, _, _, _ => by cases e
theorem asgTs_ok : ∀ (ts : Tgs) (xs : List D) (vs : List V) (ds ds1 : List (Option SV)) (σ : L2.St) (Q : L2.St → Hp → Prop), asgTs ts xs ds = some ds1 → VRs C W H xs vs → SRs C P W H ds σ O → (∀ σ', SRs C P W H ds1 σ' O → Q σ' H) → gTg.gTgs C.K ts vs σ H Q
  | .nil, [], vs, ds, ds1, σ, Q, e, vr, sr, q => by
    cases vr
    cases e
    exact ⟨rfl, q σ sr⟩
  | .nil, _ :: _, _, _, _, _, _, e, _, _, _ => by cases e
  | .cons _ _, [], _, _, _, _, _, e, _, _, _ => by cases e
  | .cons t r, x :: xs, vs, ds, ds1, σ, Q, e, vr, sr, q => by
    unfold asgTs at e
    cases e1 : asgT t x ds with
    | none => rw [e1] at e; cases e
    | some d2 =>
      rw [e1] at e
      cases vr with
      | cons a b => exact ⟨_, _, rfl, asgT_ok t x _ ds d2 σ _ e1 a sr fun σ' sr' => asgTs_ok r xs _ d2 ds1 σ' Q e b sr' q⟩
end
end

section
variable {X : Cx} {C : Cd} {Wx : WX} {pos : Pos} {e tgE : Expr} {st : Stmt} {rest : List Stmt} {fe : List (Option SV) → List D → R SV} {g g2 : List (Option SV) → List D → FR}
def sAsg (tg : Tg) (fe : List (Option SV) → List D → R SV) : List (Option SV) → List D → FR := fun s h => .ofR s (fe s h) fun sv h1 => match sv with
    | .val d => (match asgT tg d s with
      | some s1 => .next s1 h1
      | none => .bad)
    | .own d => (match asgT tg d s with
      | some s1 => .next s1 h1
      | none => .bad)
    | .obs _ => .bad
theorem asg_read {tg : Tg} {En : Ends} {σ : L2.St} {H : Hp} (hK : X.K = C.K) (h : gS C Wx (sAsg tg fe) En σ H) : tAsg (gE C Wx fe) (gTg X.K tg) En σ H := by
  obtain ⟨P, W, ds, dh, O, pok, hr, sr, kn⟩ := h
  have z : sAsg tg fe ds dh = FR.ofR ds ((fe ds dh).bindV fun x h => .ok x h) fun d h1 => match asgT tg d ds with
      | some s1 => .next s1 h1
      | none => .bad := by
    unfold sAsg
    cases fe ds dh with
    | ok sv h => cases sv <;> rfl
    | exc c vs h => rfl
    | bad => rfl
  rw [z] at kn
  refine gG.mono (gS_stepV pok hr sr kn) fun v H1 ⟨W1, d, dh1, ex, hr1, sr1, vr, kn1⟩ => ?_
  cases ea : asgT tg d ds with
  | none => rw [ea] at kn1; exact kn1.elim
  | some ds1 =>
    rw [ea] at kn1
    rw [hK]
    exact asgT_ok tg d v ds ds1 σ _ ea vr sr1 fun σ' sr' => kn1 W1 σ' H1 O Ext.refl hr1 sr'
theorem ss_asg {tg : Tg} (hK : X.K = C.K) (he : PE X e (gE C Wx fe)) (hg : PG X tgE (gTg X.K tg)) (hs : swapsWithSole [tgE] e pos.line X.env = pure false) (hw : swappedStores [tgE] e X.env = pure none) (h1 : (assignEach [tgE] X.env).map (·.2) = [assign tgE X.env]) :
    PS X (.Assign [tgE] e pos) (gS C Wx (sAsg tg fe)) := PS.mono (ps_asg he hg hs hw h1) fun En σ H h => asg_read hK h
def sAsgO (i : Nat) (fe : List (Option SV) → List D → R SV) : List (Option SV) → List D → FR := fun s h => .ofR s (fe s h) fun sv h1 => match sv with
    | .own d => if i < s.length then .next (s.set i (some (.own d))) h1 else .bad
    | _ => .bad
theorem asgO_read {i : Nat} {En : Ends} {σ : L2.St} {H : Hp} (h : gS C Wx (sAsgO i fe) En σ H) : tAsg (gE C Wx fe) (gName i) En σ H := by
  obtain ⟨P, W, ds, dh, O, pok, hr, sr, kn⟩ := h
  refine gG.mono (gS_step (oc := ocV) pok hr sr kn) fun v H1 ⟨W1, sv, dh1, ex, hr1, sr1, rr, kn1⟩ => ?_
  cases sv with
  | val d => exact kn1.elim
  | obs d => exact kn1.elim
  | own d =>
    obtain ⟨a, rfl, cr, np, nf, ns⟩ := rr
    dsimp only at kn1
    split at kn1 <;> first | exact kn1.elim | skip
    exact kn1 W1 _ H1 _ Ext.refl hr1 (sr1.setOwn cr (fun z => np (.inl z)) nf ns fun j e' q z => np (.inr ⟨j, e', q, z.symm⟩))
theorem ss_asgO {i : Nat} (he : PE X e (gE C Wx fe)) (hg : PG X tgE (gName i)) (hs : swapsWithSole [tgE] e pos.line X.env = pure false) (hw : swappedStores [tgE] e X.env = pure none) (h1 : (assignEach [tgE] X.env).map (·.2) = [assign tgE X.env]) :
    PS X (.Assign [tgE] e pos) (gS C Wx (sAsgO i fe)) := PS.mono (ps_asg he hg hs hw h1) fun En σ H h => asgO_read h
/-- an own thing is frozen -/
def sFrz (i : Nat) : List (Option SV) → List D → FR := fun s h => match s[i]? with
    | some (some (.own d)) => .next (s.set i (some (.val d))) h
    | _ => .next s h
theorem set_same {σ : L2.St} {i : Nat} {v : Option V} (h : σ[i]? = some v) : σ.set i v = σ := by
  apply List.ext_getElem?
  intro j
  by_cases e : i = j
  · subst e
    have := (List.getElem?_eq_some_iff.mp h).1
    rw [List.getElem?_set_self this, h]
  · rw [List.getElem?_set_ne e]
theorem ss_frz {i : Nat} {stmts : List Stmt} (h : PSs X stmts (gS C Wx g)) : PSs X stmts (gS C Wx fun s h => (sFrz i s h).andThen g) := by
  refine PSs.mono h fun En σ H ⟨P, W, ds, dh, O, pok, hr, sr, kn⟩ => ?_
  dsimp only at kn
  unfold sFrz at kn
  split at kn
  · rename_i d e
    obtain ⟨h1, h2, h3, h4, h5⟩ := sr.own i d e
    have ex : Ext P W H (froz W (O i)) H := froz_ext h3
    have exF : Ext W.F W H (froz W (O i)) H := froz_ext' h4
    have hr2 := hr.froz h4 h5 h2.there
    have vr : VR C (froz W (O i)) H d (.ref (O i)) := by
      have c' := h2.ext (P := W.F) (fun _ z => z) exF rfl
      cases c' with
      | lst q r => exact .lst (.inr rfl) q r
      | dK q r => exact .dK (.inr rfl) q r
      | dT q r => exact .dT (.inr rfl) q r
      | ins q z r => exact .ins (.inr rfl) q z r
    have sr2 : SRs C P (froz W (O i)) H (ds.set i (some (.val d))) (σ.set i (some (.ref (O i)))) O := by
      have old : ∀ (j : Nat) (o : Option SV), (ds.set i (some (.val d)))[j]? = some o → (j = i ∧ o = some (.val d)) ∨ (j ≠ i ∧ ds[j]? = some o) := fun j o q => by
        by_cases e1 : j = i
        · subst e1
          rw [List.getElem?_set_self (List.getElem?_eq_some_iff.mp e).1] at q
          exact .inl ⟨rfl, (Option.some.inj q).symm⟩
        · rw [List.getElem?_set_ne (Ne.symm e1)] at q
          exact .inr ⟨e1, q⟩
      rw [set_same h1]
      refine ⟨by simpa using sr.len, fun j d' q => ?_, fun j d' q => ?_, fun j k d' e' q q' z => ?_, fun j d' q => ?_⟩
      · rcases old j _ q with ⟨rfl, z⟩ | ⟨_, q⟩
        · cases z
          exact ⟨_, h1, vr⟩
        · obtain ⟨v, g1, g2⟩ := sr.val j d' q
          exact ⟨v, g1, g2.ext (P := W.F) (fun _ z => z) exF⟩
      · rcases old j _ q with ⟨rfl, z⟩ | ⟨ne, q⟩
        · cases z
        · obtain ⟨g1, g2, g3, g4, g5⟩ := sr.own j d' q
          exact ⟨g1, g2.ext (P := W.F) (fun _ z => z) exF rfl, g3, fun z => z.elim g4 fun z => ne (sr.inj j i d' d q e z), g5⟩
      · rcases old j _ q with ⟨rfl, z'⟩ | ⟨_, q⟩
        · cases z'
        · rcases old k _ q' with ⟨rfl, z'⟩ | ⟨_, q'⟩
          · cases z'
          · exact sr.inj j k d' e' q q' z
      · rcases old j _ q with ⟨rfl, z⟩ | ⟨_, q⟩
        · cases z
        · exact sr.no j d' q
    rw [set_same h1] at sr2
    exact gS.of pok ex hr2 sr2 (KnS.step ex kn)
  · exact ⟨P, W, ds, dh, O, pok, hr, sr, kn⟩
/-! ### what is changed -/
theorem upd_wext {W : Wd} {H : Hp} {a : Addr} {o u : HO} (ha : H a = some o) (hm : Mut (some o)) (h : ¬ W.F a) : Ext W.F W H W (upd H a u) := by
  have nt : ∀ b xs, H b = some (.tup xs) → b ≠ a := fun b xs q z => by subst z; rw [ha] at q; cases q; exact hm
  have nz : ∀ b o' u', H b = some (.frz o' u') → b ≠ a := fun b o' u' q z => by subst z; rw [ha] at q; cases q; exact hm
  exact ⟨Nat.le_refl _, fun _ _ => rfl, fun i h1 h2 => absurd h2 (Nat.not_lt.mpr h1), fun b hb => upd_ne fun z => h (z ▸ hb), fun _ h => h, fun _ _ h => h,
    fun b xs q => by rw [upd_ne (nt b xs q)]; exact q, fun b o' u' q => by rw [upd_ne (nz b o' u' q)]; exact q⟩
theorem upd_ext {P : Addr → Prop} {W : Wd} {H : Hp} {a : Addr} {o u : HO} (ha : H a = some o) (hm : Mut (some o)) (h : ¬ P a) : Ext P W H W (upd H a u) := by
  have nt : ∀ b xs, H b = some (.tup xs) → b ≠ a := fun b xs q z => by subst z; rw [ha] at q; cases q; exact hm
  have nz : ∀ b o' u', H b = some (.frz o' u') → b ≠ a := fun b o' u' q z => by subst z; rw [ha] at q; cases q; exact hm
  exact ⟨Nat.le_refl _, fun _ _ => rfl, fun i h1 h2 => absurd h2 (Nat.not_lt.mpr h1), fun b hb => upd_ne fun z => h (z ▸ hb), fun _ h => h, fun _ _ h => h,
    fun b xs q => by rw [upd_ne (nt b xs q)]; exact q, fun b o' u' q => by rw [upd_ne (nz b o' u' q)]; exact q⟩
/-- an own thing of a slot is changed -/
theorem own_changed {P : Addr → Prop} {W : Wd} {H : Hp} {ds : List (Option SV)} {dh : List D} {σ : L2.St} {O : Nat → Addr} {i : Nat} {d d' : D} {o u : HO} (hr : HR C W H dh) (sr : SRs C P W H ds σ O) (e : ds[i]? = some (some (SV.own d))) (ha : H (O i) = some o) (hm : Mut (some o))
    (cr : CR C W (upd H (O i) u) d' (O i)) : Ext P W H W (upd H (O i) u) ∧ HR C W (upd H (O i) u) dh ∧ SRs C P W (upd H (O i) u) (ds.set i (some (.own d'))) σ O := by
  obtain ⟨h1, h2, h3, h4, h5⟩ := sr.own i d e
  have exF := upd_wext (u := u) ha hm h4
  have hi := (List.getElem?_eq_some_iff.mp e).1
  refine ⟨upd_ext ha hm h3, ⟨hr.len, fun k x q => ?_, hr.inj, hr.nofz, fun b hb => ?_⟩, ?_⟩
  · have hk : k < W.n := by rw [← hr.len]; exact (List.getElem?_eq_some_iff.mp q).1
    exact (hr.cr k x q).ext (P := W.F) (fun _ z => z) exF (upd_ne (h5 k hk))
  · have nb : b ≠ O i := fun z => h4 (z ▸ hb)
    rw [upd_ne nb]
    exact hr.dom b hb
  · have old : ∀ (j : Nat) (w : Option SV), (ds.set i (some (.own d')))[j]? = some w → (j = i ∧ w = some (.own d')) ∨ (j ≠ i ∧ ds[j]? = some w) := fun j w q => by
      by_cases e1 : j = i
      · subst e1
        rw [List.getElem?_set_self hi] at q
        exact .inl ⟨rfl, (Option.some.inj q).symm⟩
      · rw [List.getElem?_set_ne (Ne.symm e1)] at q
        exact .inr ⟨e1, q⟩
    refine ⟨by simpa using sr.len, fun j x q => ?_, fun j x q => ?_, fun j k x y q q' z => ?_, fun j x q => ?_⟩
    · rcases old j _ q with ⟨rfl, z⟩ | ⟨_, q⟩
      · cases z
      · obtain ⟨v, g1, g2⟩ := sr.val j x q
        exact ⟨v, g1, g2.ext (P := W.F) (fun _ z => z) exF⟩
    · rcases old j _ q with ⟨rfl, z⟩ | ⟨ne, q⟩
      · cases z
        exact ⟨h1, cr, h3, h4, h5⟩
      · obtain ⟨g1, g2, g3, g4, g5⟩ := sr.own j x q
        exact ⟨g1, g2.ext (P := W.F) (fun _ z => z) exF (upd_ne fun z => ne (sr.inj j i x d q e z)), g3, g4, g5⟩
    · have q1 : ∃ x', ds[j]? = some (some (SV.own x')) := by
        rcases old j _ q with ⟨rfl, _⟩ | ⟨_, q⟩
        · exact ⟨d, e⟩
        · exact ⟨x, q⟩
      have q2 : ∃ x', ds[k]? = some (some (SV.own x')) := by
        rcases old k _ q' with ⟨rfl, _⟩ | ⟨_, q⟩
        · exact ⟨d, e⟩
        · exact ⟨y, q⟩
      obtain ⟨x', q1⟩ := q1
      obtain ⟨y', q2⟩ := q2
      exact sr.inj j k x' y' q1 q2 z
    · rcases old j _ q with ⟨rfl, z⟩ | ⟨_, q⟩
      · cases z
      · exact sr.no j x q
/-- a shared thing is changed -/
theorem shared_changed {P : Addr → Prop} {W : Wd} {H : Hp} {ds : List (Option SV)} {dh : List D} {σ : L2.St} {O : Nat → Addr} {n : Nat} {d' : D} {o u : HO} (pok : Pok P W H) (hr : HR C W H dh) (sr : SRs C P W H ds σ O) (hn : n < W.n) (ha : H (W.rho n) = some o) (hm : Mut (some o))
    (cr : CR C W (upd H (W.rho n) u) d' (W.rho n)) : Ext P W H W (upd H (W.rho n) u) ∧ HR C W (upd H (W.rho n) u) (dh.set n d') ∧ SRs C P W (upd H (W.rho n) u) ds σ O := by
  have exF := upd_wext (u := u) ha hm (hr.nofz n hn)
  refine ⟨upd_ext ha hm (pok.sh n hn), ⟨by rw [List.length_set]; exact hr.len, fun k x q => ?_, hr.inj, hr.nofz, fun b hb => ?_⟩, ⟨sr.len, fun j x q => ?_, fun j x q => ?_, sr.inj, sr.no⟩⟩
  · by_cases e1 : k = n
    · subst e1
      rw [List.getElem?_set_self (by rw [hr.len]; exact hn)] at q
      cases q
      exact cr
    · rw [List.getElem?_set_ne (Ne.symm e1)] at q
      have hk : k < W.n := by rw [← hr.len]; exact (List.getElem?_eq_some_iff.mp q).1
      exact (hr.cr k x q).ext (P := W.F) (fun _ z => z) exF (upd_ne fun z => e1 (hr.inj k n hk hn z))
  · have nb : b ≠ W.rho n := fun z => hr.nofz n hn (z ▸ hb)
    rw [upd_ne nb]
    exact hr.dom b hb
  · obtain ⟨v, g1, g2⟩ := sr.val j x q
    exact ⟨v, g1, g2.ext (P := W.F) (fun _ z => z) exF⟩
  · obtain ⟨g1, g2, g3, g4, g5⟩ := sr.own j x q
    exact ⟨g1, g2.ext (P := W.F) (fun _ z => z) exF (upd_ne fun z => g5 n hn z.symm), g3, g4, g5⟩
end
end SH
namespace SH
open PySem PySem.Spec PyProof.Rows L2

mutual
theorem D.beq_eq : ∀ (a b : D), D.beq a b = true → a = b
  | .non, b, h => by cases b <;> first | rfl | (simp [D.beq] at h)
  | .bl x, b, h => by cases b <;> simp [D.beq] at h; rw [h]
  | .int x, b, h => by cases b <;> simp [D.beq] at h; rw [h]
  | .str x, b, h => by cases b <;> simp [D.beq] at h; rw [h]
  | .tup x, b, h => by cases b <;> simp [D.beq] at h; rw [D.beqs_eq x _ h]
  | .lst x, b, h => by cases b <;> simp [D.beq] at h; rw [D.beqs_eq x _ h]
  | .scr x, b, h => by cases b <;> simp [D.beq] at h; rw [h]
  | .dK k x, b, h => by cases b <;> simp [D.beq] at h; rw [h.1, D.beqs_eq x _ h.2]
  | .dT k x, b, h => by cases b <;> simp [D.beq] at h; rw [h.1, D.beqs_eq x _ h.2]
  | .ins k x, b, h => by cases b <;> simp [D.beq] at h; rw [h.1, D.beqs_eq x _ h.2]
  | .exc k x, b, h => by cases b <;> simp [D.beq] at h; rw [h.1, D.beqs_eq x _ h.2]
  | .ref x, b, h => by cases b <;> simp [D.beq] at h; rw [h]
theorem D.beqs_eq : ∀ (a b : List D), D.beqs a b = true → a = b
  | [], [], _ => rfl
  | [], _ :: _, h => by simp [D.beqs] at h
  | _ :: _, [], h => by simp [D.beqs] at h
  | x :: r, y :: s, h => by
    simp [D.beqs] at h
    rw [D.beq_eq x y h.1, D.beqs_eq r s h.2]
end

/-! ### what is walked -/
/-- an item has come -/
def Yd (C : Cd) (W : Wd) (H : Hp) (d : D) (x : V) (H' : Hp) : Prop :=
  (H' = H ∧ VR C W H d x) ∨ ∃ T vs xs, H T = none ∧ x = .ref T ∧ H' = upd H T (.tup vs) ∧ d = .tup xs ∧ VRs C W H xs vs
/-- the iterator J yields xs, as long as what g tells stands -/
def ItR (C : Cd) (J : L2.It) (xs : List D) (g : Option (Nat × D)) (P : Addr → Prop) (W : Wd) (H : Hp) : Prop :=
  ∀ W' H' dh', Ext (fun a => P a ∨ W.F a) W H W' H' → HR C W' H' dh' → stays g dh' = true → ∀ i, (∀ d, xs[i]? = some d → J.go i H' ∧ ∀ x H2, J.yld i H' x H2 → Yd C W' H' d x H2) ∧ (xs.length ≤ i → J.stop i H')
abbrev noP : Addr → Prop := fun _ => False
abbrev pSel (b : Bool) (P : Addr → Prop) : Addr → Prop := if b then noP else P
abbrev ocIt (b : Bool) : Oc Itm L2.It := ⟨fun C P W H m J => ItR C J m.xs m.g (pSel b P) W H, fun {C P P1 W H m J} hp hq h => by
  cases b with
  | true => exact h
  | false => exact fun W' H' dh' e hr st => h W' H' dh' (e.weak fun a z => z.elim (fun z => hq a z) .inr) hr st⟩
abbrev gIt (C : Cd) (Wx : WX) (b : Bool) (f : List (Option SV) → List D → R Itm) : TI := gG (ocIt b) C Wx f
theorem PI.mono {X : Cx} {tg e : Expr} {t t' : TI} (h : PI X tg e t) (ht : ∀ σ H Q, t' σ H Q → t σ H Q) : PI X tg e t' := ⟨fun pins s σ H Q I q => h.run pins s σ H Q I (ht σ H Q q)⟩

section
variable {C : Cd} {Wx : WX} {P P1 : Addr → Prop} {W W1 : Wd} {H H1 H2 : Hp} {σ : L2.St} {α β : Type} {oc : Oc α β} {Q : β → Hp → Prop} {dh dh1 : List D} {ds : List (Option SV)}
theorem Yd.ok {d : D} {x : V} (y : Yd C W H d x H2) (hr : HR C W H dh) : HR C W H2 dh ∧ VR C W H2 d x ∧ ∀ P, Pok P W H → Ext P W H W H2 := by
  rcases y with ⟨rfl, vr⟩ | ⟨T, vs, xs, hn, rfl, rfl, rfl, vr⟩
  · exact ⟨hr, vr, fun P pok => Ext.refl⟩
  · exact ⟨hr.new hn, .tup upd_same (vr.ext (P := W.F) (fun _ z => z) (new_fext hr hn)), fun P pok => new_ext pok hn⟩
theorem gE_stepX {b : Bool} {f : List (Option SV) → List D → R SV} {k : D → List D → R α} (pok : Pok P W H) (hr : HR C W H dh) (sr : SRe C P W H ds σ) (kn : Kn oc C Wx P W H σ Q ((f ds dh).bindX b k)) :
    gE C Wx f σ H fun v H1 => ∃ P1 W1 d dh1, Nx C P W H ds σ P1 W1 H1 dh1 ∧ OR C (pSel b P1) W1 H1 d v ∧ Kn oc C Wx P1 W1 H1 σ Q (k d dh1) := by
  cases b with
  | true => exact gG.mono (gE_stepV pok hr sr kn) fun v H1 ⟨P1, W1, d, dh1, nx, vr, kn1⟩ => ⟨P1, W1, d, dh1, nx, .inl vr, kn1⟩
  | false => exact gE_stepO pok hr sr kn
theorem Nx.orX {b : Bool} {P2 : Addr → Prop} {W2 : Wd} {H2 : Hp} {dh2 : List D} {d : D} {v : V} (hF : ∀ a, W.F a → P a) (x : Nx C P W H ds σ P2 W2 H2 dh2) (h : OR C (pSel b P) W H d v) : OR C (pSel b P2) W2 H2 d v := by
  cases b with
  | false => exact x.or hF h
  | true => exact .inl ((h.resolve_right fun ⟨_, _, _, z, _⟩ => z).ext hF x.ext)
/-- what is looked at stays -/
theorem OR.fut {d : D} {v : V} (h : OR C P W H d v) {W' : Wd} {H' : Hp} (e : Ext (fun a => P a ∨ W.F a) W H W' H') : OR C P W' H' d v := by
  rcases h with h | ⟨a, e1, c, p, f⟩
  · exact .inl (h.ext (fun _ z => .inr z) e)
  · exact .inr ⟨a, e1, c.ext (fun _ z => .inr z) e (e.keep a (.inl p)), p, fun z => f (e.nofz a (.inl p) z)⟩
theorem deref_ref {h : List D} {n : Nat} {c : D} (e : h[n]? = some c) : deref h (.ref n) = c := by
  unfold deref
  simp only [e]
theorem deref_stays {h h' : List D} {d x : D} (hx : ∀ n, x ≠ .ref n) (e : deref h d = x) (st : stays (gOf h d) h' = true) : deref h' d = x := by
  cases d with
  | ref n =>
    cases q : h[n]? with
    | none =>
      unfold deref at e
      simp only [q] at e
      exact absurd e.symm (hx n)
    | some c =>
      unfold gOf at st
      simp only [q, Option.map_some, stays] at st
      rw [deref_ref q] at e
      cases q' : h'[n]? with
      | none => rw [q'] at st; cases st
      | some c' =>
        rw [q'] at st
        rw [deref_ref q', ← D.beq_eq c c' st]
        exact e
  | _ => exact e
/-- a list or a tuple at a that holds xs -/
def SeqAt (C : Cd) (W : Wd) (H : Hp) (xs : List D) (a : Addr) (l : Bool) : Prop := ∃ vs, (if l then SqL C.K H a vs else SqT C.K H a vs) ∧ VRs C W H xs vs
theorem OR.seqL {d : D} {v : V} {xs : List D} {c : D} (o : OR C P W H d v) (hr : HR C W H dh) (e : deref dh d = c) (hs : c = .lst xs ∨ ∃ ns, c = .scr ns ∧ xs = ns.map D.int) : ∃ a, v = .ref a ∧ SeqAt C W H xs a true := by
  rcases hs with rfl | ⟨ns, rfl, rfl⟩
  · obtain ⟨a, vs, rfl, h1, h2⟩ := o.lst hr e
    exact ⟨a, rfl, vs, .inl (.inl h1), h2⟩
  · obtain ⟨a, rfl, h1⟩ := o.scr hr e
    exact ⟨a, rfl, _, h1, vrs_ints ns⟩
theorem OR.seqT {d : D} {v : V} {xs : List D} (o : OR C P W H d v) (hr : HR C W H dh) (e : deref dh d = .tup xs) : ∃ a, v = .ref a ∧ SeqAt C W H xs a false := by
  obtain ⟨a, vs, rfl, h1, h2⟩ := o.tup hr e
  exact ⟨a, rfl, vs, .of h1, h2⟩
/-- .. now and later -/
theorem seq_now {d : D} {v : V} {xs : List D} (o : OR C P W H d v) (hr : HR C W H dh) (e : seqD (deref dh d) = some xs) :
    ∃ a l, v = .ref a ∧ SeqAt C W H xs a l ∧ ∀ W' H' dh', Ext (fun a => P a ∨ W.F a) W H W' H' → HR C W' H' dh' → stays (gOf dh d) dh' = true → SeqAt C W' H' xs a l := by
  cases c : deref dh d with
  | lst ys =>
    rw [c] at e
    obtain rfl : ys = xs := Option.some.inj e
    obtain ⟨a, rfl, s⟩ := o.seqL hr c (.inl rfl)
    refine ⟨a, true, rfl, s, fun W' H' dh' ex hr' st => ?_⟩
    obtain ⟨a', ea, s'⟩ := (o.fut ex).seqL hr' (deref_stays (x := .lst ys) (fun n z => nomatch z) c st) (.inl rfl)
    cases ea
    exact s'
  | scr ns =>
    rw [c] at e
    cases e
    obtain ⟨a, rfl, s⟩ := o.seqL hr c (.inr ⟨ns, rfl, rfl⟩)
    refine ⟨a, true, rfl, s, fun W' H' dh' ex hr' st => ?_⟩
    obtain ⟨a', ea, s'⟩ := (o.fut ex).seqL hr' (deref_stays (x := .scr ns) (fun n z => nomatch z) c st) (.inr ⟨ns, rfl, rfl⟩)
    cases ea
    exact s'
  | tup ys =>
    rw [c] at e
    obtain rfl : ys = xs := Option.some.inj e
    obtain ⟨a, rfl, s⟩ := o.seqT hr c
    refine ⟨a, false, rfl, s, fun W' H' dh' ex hr' st => ?_⟩
    obtain ⟨a', ea, s'⟩ := (o.fut ex).seqT hr' (deref_stays (x := .tup ys) (fun n z => nomatch z) c st)
    cases ea
    exact s'
  | _ => rw [c] at e; cases e
theorem itr_list {xs : List D} {g : Option (Nat × D)} {a : Addr} (f : ∀ W' H' dh', Ext (fun a => P a ∨ W.F a) W H W' H' → HR C W' H' dh' → stays g dh' = true → SeqAt C W' H' xs a true) : ItR C (Itl C.K a) xs g P W H := by
  intro W' H' dh' e hr st i
  obtain ⟨vs, q, r⟩ := f W' H' dh' e hr st
  refine ⟨fun d hd => ?_, fun hl => ⟨vs, q, by rw [← r.length]; exact hl⟩⟩
  obtain ⟨x, hx, vr⟩ := r.get hd
  refine ⟨⟨vs, x, q, hx⟩, fun y H2 ye => ?_⟩
  obtain ⟨e1, e2⟩ := ye
  exact .inl ⟨e1, by rw [Option.some.inj (hx.symm.trans (e2 vs q))] at vr; exact vr⟩
theorem itr_tup {xs : List D} {g : Option (Nat × D)} {a : Addr} (f : ∀ W' H' dh', Ext (fun a => P a ∨ W.F a) W H W' H' → HR C W' H' dh' → stays g dh' = true → SeqAt C W' H' xs a false) : ItR C (Itt C.K a) xs g P W H := by
  intro W' H' dh' e hr st i
  obtain ⟨vs, q, r⟩ := f W' H' dh' e hr st
  refine ⟨fun d hd => ?_, fun hl => ⟨vs, q, by rw [← r.length]; exact hl⟩⟩
  obtain ⟨x, hx, vr⟩ := r.get hd
  refine ⟨⟨vs, x, q, hx⟩, fun y H2 ye => ?_⟩
  obtain ⟨e1, e2⟩ := ye
  exact .inl ⟨e1, by rw [Option.some.inj (hx.symm.trans (e2 vs q))] at vr; exact vr⟩
theorem rngD_get {lo hi : Int} {xs : List D} (e : rngD lo hi = some xs) : (-(2 ^ 62) ≤ lo ∧ lo < 2 ^ 62 ∧ -(2 ^ 62) ≤ hi ∧ hi < 2 ^ 62) ∧ xs = (List.range (hi - lo).toNat).map fun i => .int (lo + (i : Nat)) := by
  unfold rngD at e
  split at e
  · rename_i h
    simp only [Bool.and_eq_true, decide_eq_true_eq] at h
    cases e
    exact ⟨by omega, rfl⟩
  · cases e
theorem itr_rng {lo : Int} {n : Nat} : ItR C (Itr lo n) ((List.range n).map fun i => .int (lo + (i : Nat))) none P W H := by
  intro W' H' dh' e hr st i
  refine ⟨fun d hd => ?_, fun hl => (by simpa using hl : n ≤ i)⟩
  have hi : i < n := by simpa using (List.getElem?_eq_some_iff.mp hd).1
  refine ⟨hi, fun x H2 ⟨e1, e2⟩ => .inl ⟨e1, ?_⟩⟩
  rw [List.getElem?_map, List.getElem?_range hi] at hd
  cases hd
  rw [e2]
  exact .int _
end

section
variable {X : Cx} {C : Cd} {Wx : WX} {pos p tpos : Pos} {tg e e2 : Expr} {fe fe2 : List (Option SV) → List D → R SV} {b : Bool} {elts : List Expr} {kk : Nat}
/-- over a list or a tuple -/
def iSeq (K : PySem.W.Frag) (tl : TE) : TI := fun σ H R => tl σ H fun x H1 => ∃ a, x = .ref a ∧ (((∃ xs, SqL K H1 a xs) ∧ R (Itl K a) H1) ∨ ((∃ xs, SqT K H1 a xs) ∧ R (Itt K a) H1))
theorem pi_seq {l : Expr} {tl : TE} (hl : PE X l tl) : PI X tg l (iSeq X.K tl) := by
  refine ⟨fun pins s σ H R I h => ?_⟩
  refine thn (hl.run pins s σ H _ I h) fun v s1 ⟨x, H1, I1, r1, q1⟩ => ?_
  obtain ⟨a, e, q1⟩ := q1
  subst e
  cases r1
  rcases q1 with ⟨⟨xs, hq⟩, q⟩ | ⟨⟨xs, hq⟩, q⟩
  · obtain ⟨its, rv, p, hz⟩ := I1.list hq
    refine wpAny_pyIter_list p.isList ?_
    refine ⟨s1.heap.objs.size, [s1.heap.objs.size], _, _, H1, rfl, I1.kept (t' := s1.toks) fun b o e => Heap.get?_push_of_some _ e, turn_list a _, ⟨_, Heap.get?_push_size _ rfl, rfl, rfl⟩, fun b hb => ?_, q⟩
    have e : b = s1.heap.objs.size := by simpa using hb
    subst e
    exact I1.fpOk (Nat.le_refl _) (I1.hok.fresh (Nat.le_refl _))
  · obtain ⟨its, rv, p, hz⟩ := I1.tuple hq
    refine wpAny_pyIter_tuple (show s1.heap.IsTuple a its.toArray from p) ?_
    refine ⟨s1.heap.objs.size, [s1.heap.objs.size], _, _, H1, rfl, I1.kept (t' := s1.toks) fun b o e => Heap.get?_push_of_some _ e, turn_tuple a _, ⟨_, Heap.get?_push_size _ rfl, rfl, rfl⟩, fun b hb => ?_, q⟩
    have e : b = s1.heap.objs.size := by simpa using hb
    subst e
    exact I1.fpOk (Nat.le_refl _) (I1.hok.fresh (Nat.le_refl _))
def fItV (b : Bool) (fe : List (Option SV) → List D → R SV) : List (Option SV) → List D → R Itm := fun s h => (fe s h).bindX b fun x h1 => match seqD (deref h1 x) with
    | some xs => .ok ⟨xs, gOf h1 x⟩ h1
    | none => .bad
theorem si_val (hK : X.K = C.K) (he : PE X e (gE C Wx fe)) : PI X tg e (gIt C Wx b (fItV b fe)) := by
  refine PI.mono (pi_seq he) fun σ H Q h => ?_
  obtain ⟨P, W, ds, dh, pok, hr, sr, kn⟩ := h
  refine gG.mono (gE_stepX pok hr sr kn) fun v H1 ⟨P1, W1, d, dh1, nx, o, kn1⟩ => ?_
  try dsimp only at kn1
  cases es : seqD (deref dh1 d) with
  | none => rw [es] at kn1; exact kn1.elim
  | some xs =>
    rw [es] at kn1
    obtain ⟨a, l, rfl, ⟨vs, q, r⟩, f⟩ := seq_now o nx.hr es
    rw [hK]
    cases l with
    | true => exact ⟨a, rfl, .inl ⟨⟨vs, q⟩, kn1 W1 _ H1 Ext.refl nx.hr (itr_list f)⟩⟩
    | false => exact ⟨a, rfl, .inr ⟨⟨vs, q⟩, kn1 W1 _ H1 Ext.refl nx.hr (itr_tup f)⟩⟩
def fItR1 (fe : List (Option SV) → List D → R SV) : List (Option SV) → List D → R Itm := fun s h => (fe s h).bindO fun x h1 => match deref h1 x with
    | .int j => (match rngD 0 j with
      | some xs => .ok ⟨xs, none⟩ h1
      | none => .bad)
    | _ => .bad
theorem si_rng1 (hg : Gl X "range") (hm : X.mg "range" = none) (he : PE X e (gE C Wx fe)) (hs : starEach [e] X.env = [(false, eval e X.env)]) : PI X tg (.Call (.Name "range" p) [e] [] pos) (gIt C Wx b (fItR1 fe)) := by
  refine PI.mono (pi_range1 hg hm (pa_cons he pa_nil (by rw [hs]; rfl)) hs) fun σ H Q h => ?_
  obtain ⟨P, W, ds, dh, pok, hr, sr, kn⟩ := h
  refine gG.mono (gE_stepO pok hr sr kn) fun v H1 ⟨P1, W1, d, dh1, nx, o, kn1⟩ => ?_
  try dsimp only at kn1
  split at kn1 <;> first | exact kn1.elim | skip
  rename_i j ej
  split at kn1 <;> first | exact kn1.elim | skip
  rename_i xs ex
  obtain ⟨⟨h1, h2, h3, h4⟩, rfl⟩ := rngD_get ex
  refine ⟨j, by rw [o.int nx.hr ej], h3, h4, kn1 W1 _ H1 Ext.refl nx.hr ?_⟩
  have := itr_rng (C := C) (P := pSel b P1) (W := W1) (H := H1) (lo := 0) (n := j.toNat)
  rw [Int.sub_zero]
  exact this
def fItR2 (fe fe2 : List (Option SV) → List D → R SV) : List (Option SV) → List D → R Itm := fun s h => (fe s h).bindO fun x h1 => (fe2 s h1).bindO fun y h2 => match deref h2 x, deref h2 y with
    | .int i, .int j => (match rngD i j with
      | some xs => .ok ⟨xs, none⟩ h2
      | none => .bad)
    | _, _ => .bad
theorem si_rng2 (hg : Gl X "range") (hm : X.mg "range" = none) (he : PE X e (gE C Wx fe)) (he2 : PE X e2 (gE C Wx fe2)) (hs : starEach [e, e2] X.env = [(false, eval e X.env), (false, eval e2 X.env)]) (hs2 : starEach [e2] X.env = [(false, eval e2 X.env)]) :
    PI X tg (.Call (.Name "range" p) [e, e2] [] pos) (gIt C Wx b (fItR2 fe fe2)) := by
  refine PI.mono (pi_range2 hg hm (pa_cons he (pa_cons he2 pa_nil (by rw [hs2]; rfl)) (by rw [hs, hs2])) hs hs2) fun σ H Q h => ?_
  obtain ⟨P, W, ds, dh, pok, hr, sr, kn⟩ := h
  refine gG.mono (gE_stepO pok hr sr kn) fun v H1 ⟨P1, W1, d, dh1, nx, o, kn1⟩ => ?_
  refine gG.mono (gE_stepO nx.pok nx.hr nx.sr kn1) fun v2 H2 ⟨P2, W2, d2, dh2, nx2, o2, kn2⟩ => ?_
  try dsimp only at kn2
  split at kn2 <;> first | exact kn2.elim | skip
  rename_i i j ei ej
  split at kn2 <;> first | exact kn2.elim | skip
  rename_i xs ex
  obtain ⟨hb, rfl⟩ := rngD_get ex
  have o1 := nx2.or nx.pok.fz o
  exact ⟨i, j, by rw [o1.int nx2.hr ei, o2.int nx2.hr ej], hb, kn2 W2 _ H2 Ext.refl nx2.hr itr_rng⟩
theorem enumF_get : ∀ (xs : List D) (k : Int) (i : Nat) (d : D), (enumF k xs)[i]? = some d → ∃ x, xs[i]? = some x ∧ d = .tup [.int (k + i), x]
  | [], k, i, d, h => by simp [enumF] at h
  | x :: r, k, 0, d, h => by simp [enumF] at h; exact ⟨x, rfl, by rw [← h]; simp⟩
  | x :: r, k, i + 1, d, h => by
    simp only [enumF, List.getElem?_cons_succ] at h
    obtain ⟨y, h1, h2⟩ := enumF_get r (k + 1) i d h
    refine ⟨y, by simpa using h1, ?_⟩
    rw [h2]
    have : k + 1 + (i : Int) = k + ((i + 1 : Nat) : Int) := by omega
    rw [this]
theorem enumF_length : ∀ (xs : List D) (k : Int), (enumF k xs).length = xs.length
  | [], _ => rfl
  | x :: r, k => by simp [enumF, enumF_length r]
theorem itr_enum {P : Addr → Prop} {W : Wd} {H : Hp} {xs : List D} {g : Option (Nat × D)} {a : Addr} (f : ∀ W' H' dh', Ext (fun a => P a ∨ W.F a) W H W' H' → HR C W' H' dh' → stays g dh' = true → SeqAt C W' H' xs a true) : ItR C (Ite C.K a) (enumF 0 xs) g P W H := by
  intro W' H' dh' e hr st i
  obtain ⟨vs, q, r⟩ := f W' H' dh' e hr st
  refine ⟨fun d hd => ?_, fun hl => ⟨vs, q, by rw [← r.length]; rw [enumF_length] at hl; exact hl⟩⟩
  obtain ⟨y, hy, rfl⟩ := enumF_get xs 0 i d hd
  obtain ⟨x, hx, vr⟩ := r.get hy
  refine ⟨⟨vs, x, q, hx⟩, fun z H2 ye => ?_⟩
  obtain ⟨T, x', rfl, hn, rfl, hx'⟩ := ye
  have ex := Option.some.inj (hx.symm.trans (hx' vs q))
  subst ex
  refine .inr ⟨T, _, _, hn, rfl, rfl, rfl, .cons ?_ (.cons vr .nil)⟩
  rw [Int.zero_add]
  exact .int _
def fItE (b : Bool) (fe : List (Option SV) → List D → R SV) : List (Option SV) → List D → R Itm := fun s h => (fe s h).bindX b fun x h1 => match deref h1 x with
    | .lst xs => .ok ⟨enumF 0 xs, gOf h1 x⟩ h1
    | .tup xs => .ok ⟨enumF 0 xs, none⟩ h1
    | _ => .bad
theorem itr_zip {P : Addr → Prop} {W : Wd} {H : Hp} {xs ys : List D} {a a2 : Addr} {l : Bool} (f : ∀ W' H' dh', Ext (fun a => P a ∨ W.F a) W H W' H' → HR C W' H' dh' → SeqAt C W' H' xs a l) (f2 : ∀ W' H' dh', Ext (fun a => P a ∨ W.F a) W H W' H' → HR C W' H' dh' → SeqAt C W' H' ys a2 l) :
    ItR C (if l then Itz C.K a a2 else RZ.ItzT C.K a a2) (zipT xs ys) none P W H := by
  intro W' H' dh' e hr st i
  obtain ⟨vs, q, r⟩ := f W' H' dh' e hr
  obtain ⟨us, q2, r2⟩ := f2 W' H' dh' e hr
  have key : ∀ d, (zipT xs ys)[i]? = some d → ∃ x y, xs[i]? = some x ∧ ys[i]? = some y ∧ d = .tup [x, y] := fun d hd => by
    unfold zipT at hd
    rw [List.getElem?_map] at hd
    cases hz : (xs.zip ys)[i]? with
    | none => rw [hz] at hd; cases hd
    | some p =>
      rw [hz] at hd
      cases hd
      obtain ⟨h1, h2⟩ := List.getElem?_zip_eq_some.mp hz
      exact ⟨p.1, p.2, h1, h2, rfl⟩
  have hlen : (zipT xs ys).length ≤ i → vs.length ≤ i ∨ us.length ≤ i := fun hl => by
    simp [zipT] at hl
    rw [← r.length, ← r2.length]
    omega
  cases l with
  | true =>
    refine ⟨fun d hd => ?_, fun hl => ⟨vs, us, q, q2, hlen hl⟩⟩
    obtain ⟨x, y, hx, hy, rfl⟩ := key d hd
    obtain ⟨v, hv, vr⟩ := r.get hx
    obtain ⟨u, hu, ur⟩ := r2.get hy
    refine ⟨⟨vs, us, v, u, q, q2, hv, hu⟩, fun z H2 ye => ?_⟩
    obtain ⟨T, x', y', rfl, hn, rfl, h1, h2⟩ := ye
    have e1 := Option.some.inj (hv.symm.trans (h1 vs q))
    have e2 := Option.some.inj (hu.symm.trans (h2 us q2))
    subst e1; subst e2
    exact .inr ⟨T, _, _, hn, rfl, rfl, rfl, .cons vr (.cons ur .nil)⟩
  | false =>
    refine ⟨fun d hd => ?_, fun hl => ⟨vs, us, q, q2, hlen hl⟩⟩
    obtain ⟨x, y, hx, hy, rfl⟩ := key d hd
    obtain ⟨v, hv, vr⟩ := r.get hx
    obtain ⟨u, hu, ur⟩ := r2.get hy
    refine ⟨⟨vs, us, v, u, q, q2, hv, hu⟩, fun z H2 ye => ?_⟩
    obtain ⟨T, x', y', rfl, hn, rfl, h1, h2⟩ := ye
    have e1 := Option.some.inj (hv.symm.trans (h1 vs q))
    have e2 := Option.some.inj (hu.symm.trans (h2 us q2))
    subst e1; subst e2
    exact .inr ⟨T, _, _, hn, rfl, rfl, rfl, .cons vr (.cons ur .nil)⟩
def fItZ (b : Bool) (fe fe2 : List (Option SV) → List D → R SV) : List (Option SV) → List D → R Itm := fun s h => (fe s h).bindX b fun x h1 => (fe2 s h1).bindX b fun y h2 => match x, y with
    | .lst xs, .lst ys => .ok ⟨zipT xs ys, none⟩ h2
    | .tup xs, .tup ys => .ok ⟨zipT xs ys, none⟩ h2
    | _, _ => .bad
theorem si_zip (hK : X.K = C.K) (hg : Gl X "zip") (hm : X.mg "zip" = none) (he : PE X e (gE C Wx fe)) (he2 : PE X e2 (gE C Wx fe2)) (hs : starEach [e, e2] X.env = (false, eval e X.env) :: starEach [e2] X.env) (hs2 : starEach [e2] X.env = [(false, eval e2 X.env)])
    (hpl : (backTo pos (starEach [e2] X.env)).any (·.1) = false) : PI X (.Tuple elts kk tpos) (.Call (.Name "zip" p) [e, e2] [] pos) (gIt C Wx b (fItZ b fe fe2)) := by
  refine PI.mono (RZ.pi_zipA hg hm (pa_cons he (pa_cons he2 pa_nil (by rw [hs2]; rfl)) hs) hs hpl) fun σ H Q h => ?_
  obtain ⟨P, W, ds, dh, pok, hr, sr, kn⟩ := h
  refine gG.mono (gE_stepX pok hr sr kn) fun v H1 ⟨P1, W1, d, dh1, nx, o, kn1⟩ => ?_
  refine gG.mono (gE_stepX nx.pok nx.hr nx.sr kn1) fun v2 H2 ⟨P2, W2, d2, dh2, nx2, o2, kn2⟩ => ?_
  have o1 := nx2.orX nx.pok.fz o
  try dsimp only at kn2
  rw [hK]
  have goL : ∀ xs ys, d = .lst xs → d2 = .lst ys → Kn (ocIt b) C Wx P2 W2 H2 σ Q (.ok ⟨zipT xs ys, none⟩ dh2) → ∃ a b xs ys, [v, v2] = [V.ref a, .ref b] ∧ ((SqL C.K H2 a xs ∧ SqL C.K H2 b ys ∧ Q (Itz C.K a b) H2) ∨ (SqT C.K H2 a xs ∧ SqT C.K H2 b ys ∧ Q (RZ.ItzT C.K a b) H2)) := by
    intro xs ys e1 e2 kn
    subst e1
    subst e2
    obtain ⟨a, rfl, vs, q, r⟩ := o1.seqL (xs := xs) (c := .lst xs) nx2.hr rfl (.inl rfl)
    obtain ⟨a2, rfl, us, q2, r2⟩ := o2.seqL (xs := ys) (c := .lst ys) nx2.hr rfl (.inl rfl)
    refine ⟨a, a2, vs, us, rfl, .inl ⟨q, q2, kn W2 _ H2 Ext.refl nx2.hr (itr_zip (l := true) (fun W' H' dh' ex hr' => ?_) fun W' H' dh' ex hr' => ?_)⟩⟩
    · obtain ⟨a', ea, s'⟩ := (o1.fut ex).seqL (xs := xs) (c := .lst xs) hr' rfl (.inl rfl)
      cases ea
      exact s'
    · obtain ⟨a', ea, s'⟩ := (o2.fut ex).seqL (xs := ys) (c := .lst ys) hr' rfl (.inl rfl)
      cases ea
      exact s'
  have goT : ∀ xs ys, d = .tup xs → d2 = .tup ys → Kn (ocIt b) C Wx P2 W2 H2 σ Q (.ok ⟨zipT xs ys, none⟩ dh2) → ∃ a b xs ys, [v, v2] = [V.ref a, .ref b] ∧ ((SqL C.K H2 a xs ∧ SqL C.K H2 b ys ∧ Q (Itz C.K a b) H2) ∨ (SqT C.K H2 a xs ∧ SqT C.K H2 b ys ∧ Q (RZ.ItzT C.K a b) H2)) := by
    intro xs ys e1 e2 kn
    subst e1
    subst e2
    obtain ⟨a, rfl, vs, q, r⟩ := o1.seqT (xs := xs) nx2.hr rfl
    obtain ⟨a2, rfl, us, q2, r2⟩ := o2.seqT (xs := ys) nx2.hr rfl
    refine ⟨a, a2, vs, us, rfl, .inr ⟨q, q2, kn W2 _ H2 Ext.refl nx2.hr (itr_zip (l := false) (fun W' H' dh' ex hr' => ?_) fun W' H' dh' ex hr' => ?_)⟩⟩
    · obtain ⟨a', ea, s'⟩ := (o1.fut ex).seqT (xs := xs) hr' rfl
      cases ea
      exact s'
    · obtain ⟨a', ea, s'⟩ := (o2.fut ex).seqT (xs := ys) hr' rfl
      cases ea
      exact s'
  split at kn2
  · exact goL _ _ rfl rfl kn2
  · exact goT _ _ rfl rfl kn2
  · exact kn2.elim
theorem itr_rev {P : Addr → Prop} {W : Wd} {H : Hp} {xs : List D} {g : Option (Nat × D)} {a : Addr} {l : Bool} (f : ∀ W' H' dh', Ext (fun a => P a ∨ W.F a) W H W' H' → HR C W' H' dh' → stays g dh' = true → SeqAt C W' H' xs a l) :
    ItR C (if l then Itv C.K a xs.length else RT.ItvT C.K a xs.length) xs.reverse g P W H := by
  intro W' H' dh' e hr st i
  obtain ⟨vs, q, r⟩ := f W' H' dh' e hr st
  have key : ∀ d, xs.reverse[i]? = some d → i < xs.length ∧ ∃ x, vs[xs.length - 1 - i]? = some x ∧ VR C W' H' d x := fun d hd => by
    have hi : i < xs.length := by simpa using (List.getElem?_eq_some_iff.mp hd).1
    rw [List.getElem?_reverse hi] at hd
    exact ⟨hi, r.get hd⟩
  cases l with
  | true =>
    refine ⟨fun d hd => ?_, fun hl => (by simpa using hl : xs.length ≤ i)⟩
    obtain ⟨hi, x, hx, vr⟩ := key d hd
    refine ⟨⟨hi, vs, x, q, hx⟩, fun z H2 ye => ?_⟩
    obtain ⟨e1, e2⟩ := ye
    exact .inl ⟨e1, by rw [Option.some.inj (hx.symm.trans (e2 vs q))] at vr; exact vr⟩
  | false =>
    refine ⟨fun d hd => ?_, fun hl => (by simpa using hl : xs.length ≤ i)⟩
    obtain ⟨hi, x, hx, vr⟩ := key d hd
    refine ⟨⟨hi, vs, x, q, hx⟩, fun z H2 ye => ?_⟩
    obtain ⟨e1, e2⟩ := ye
    exact .inl ⟨e1, by rw [Option.some.inj (hx.symm.trans (e2 vs q))] at vr; exact vr⟩
def fItV2 (b : Bool) (fe : List (Option SV) → List D → R SV) : List (Option SV) → List D → R Itm := fun s h => (fe s h).bindX b fun x h1 => match deref h1 x with
    | .lst xs => .ok ⟨xs.reverse, gOf h1 x⟩ h1
    | _ => .bad
theorem si_rev (hK : X.K = C.K) (hg : Gl X "reversed") (hm : X.mg "reversed" = none) (he : PE X e (gE C Wx fe)) (hs : starEach [e] X.env = (false, eval e X.env) :: starEach [] X.env) : PI X tg (.Call (.Name "reversed" p) [e] [] pos) (gIt C Wx b (fItV2 b fe)) := by
  refine PI.mono (RT.pi_revA hg hm he hs) fun σ H Q h => ?_
  obtain ⟨P, W, ds, dh, pok, hr, sr, kn⟩ := h
  refine gG.mono (gE_stepX pok hr sr kn) fun v H1 ⟨P1, W1, d, dh1, nx, o, kn1⟩ => ?_
  try dsimp only at kn1
  rw [hK]
  split at kn1 <;> first | exact kn1.elim | skip
  rename_i xs ex
  obtain ⟨a, rfl, vs, q, r⟩ := o.seqL nx.hr ex (.inl rfl)
  refine ⟨a, vs, rfl, .inl ⟨q, ?_⟩⟩
  rw [← r.length]
  refine kn1 W1 _ H1 Ext.refl nx.hr (itr_rev (l := true) fun W' H' dh' ex' hr' st => ?_)
  obtain ⟨a', ea, s'⟩ := (o.fut ex').seqL hr' (deref_stays (x := .lst xs) (fun n z => nomatch z) ex st) (.inl rfl)
  cases ea
  exact s'
def fItRR (fe : List (Option SV) → List D → R SV) : List (Option SV) → List D → R Itm := fun s h => (fe s h).bindO fun x h1 => match deref h1 x with
    | .int j => (match rngD 0 j with
      | some xs => .ok ⟨xs.reverse, none⟩ h1
      | none => .bad)
    | _ => .bad
theorem si_revrng {p2 pos2 : Pos} (hg : Gl X "reversed") (hm : X.mg "reversed" = none) (hg2 : Gl X "range") (hm2 : X.mg "range" = none) (he : PE X e (gE C Wx fe)) (hs2 : starEach [e] X.env = (false, eval e X.env) :: starEach [] X.env)
    (hs : starEach [.Call (.Name "range" p2) [e] [] pos2] X.env = (false, eval (.Call (.Name "range" p2) [e] [] pos2) X.env) :: starEach [] X.env) :
    PI X tg (.Call (.Name "reversed" p) [.Call (.Name "range" p2) [e] [] pos2] [] pos) (gIt C Wx b (fItRR fe)) := by
  refine PI.mono (pi_revR hg hm (prg_1 hg2 hm2 he hs2) hs) fun σ H Q h => ?_
  obtain ⟨P, W, ds, dh, pok, hr, sr, kn⟩ := h
  refine gG.mono (gE_stepO pok hr sr kn) fun v H1 ⟨P1, W1, d, dh1, nx, o, kn1⟩ => ?_
  try dsimp only at kn1
  split at kn1 <;> first | exact kn1.elim | skip
  rename_i j ej
  split at kn1 <;> first | exact kn1.elim | skip
  rename_i xs ex
  obtain ⟨⟨h1, h2, h3, h4⟩, rfl⟩ := rngD_get ex
  refine ⟨j, by rw [o.int nx.hr ej], h1, h2, h3, h4, kn1 W1 _ H1 Ext.refl nx.hr ?_⟩
  intro W' H' dh' e' hr' st i
  refine ⟨fun d hd => ?_, fun hl => (by simpa using hl : (j - 0).toNat ≤ i)⟩
  have hi : i < (j - 0).toNat := by simpa using (List.getElem?_eq_some_iff.mp hd).1
  refine ⟨hi, fun x H2 ye => ?_⟩
  obtain ⟨e1, e2⟩ := ye
  refine .inl ⟨e1, ?_⟩
  rw [List.getElem?_reverse (by simpa using hi), List.getElem?_map, List.length_map, List.length_range, List.getElem?_range (by omega)] at hd
  cases hd
  rw [e2]
  have : (0 : Int) + (((j - 0).toNat : Nat) : Int) - 1 + (i : Nat) * (-1) = 0 + (((j - 0).toNat - 1 - i : Nat) : Int) := by omega
  rw [this]
  exact .int _
end

/-! ### for -/
section
variable {X : Cx} {C : Cd} {Wx : WX} {pos : Pos} {tgE iter : Expr} {body : List Stmt}
def sFor (tg : Tg) (fi : List (Option SV) → List D → R Itm) (g : List (Option SV) → List D → FR) : List (Option SV) → List D → FR := fun s h => .ofR s (fi s h) fun m h1 => forL m.g (fTurn tg g) m.xs s h1
theorem ss_for {tg : Tg} {fi : List (Option SV) → List D → R Itm} {g : List (Option SV) → List D → FR} (hK : X.K = C.K) (hp : PassesOwn (model X.prog X.w) X.A X.env X.xe) (hc : X.calm = true) (hi : PI X tgE iter (gIt C Wx true fi)) (hg : PG X tgE (gTg X.K tg)) (hb : PSs X body (gS C Wx g))
    (hs : ∀ x, foldedSetIterable iter X.env x = pure x) : PS X (.For tgE iter body [] pos) (gS C Wx (sFor tg fi g)) := by
  refine PS.mono (ps_for hp hc hi hg hb hs) fun En σ H ⟨P, W, ds, dh, O, pok, hr, sr, kn⟩ => ?_
  refine gG.mono (gS_step (oc := ocIt true) pok hr sr kn) fun J H1 ⟨W1, m, dh1, e1, hr1, sr1, it, kn1⟩ => ?_
  have it : ItR C J m.xs m.g noP W1 H1 := it
  have pok0 := pok.next e1 hr1
  have sr0 := sr1.next
  have kn0 : KnS C Wx (fun a => P a ∨ W1.F a) W1 H1 En (forL m.g (fTurn tg g) m.xs ds dh1) := kn1.more (fun _ h => .inl h) fun _ h => h
  revert pok0 sr0 kn0
  generalize (fun a => P a ∨ W1.F a) = P0
  intro pok0 sr0 kn0
  refine ⟨fun i n σ2 H2 => n = m.xs.length - i ∧ ∃ W2 ds2 dh2 O2, Ext P0 W1 H1 W2 H2 ∧ HR C W2 H2 dh2 ∧ SRs C P0 W2 H2 ds2 σ2 O2 ∧ KnS C Wx P0 W2 H2 En (forL m.g (fTurn tg g) (m.xs.drop i) ds2 dh2),
    ⟨_, rfl, W1, ds, dh1, O, Ext.refl, hr1, sr0, kn0⟩, ?_⟩
  rintro i n σ2 H2 ⟨rfl, W2, ds2, dh2, O2, e2, hr2, sr2, kn2⟩
  have eF : Ext (fun a => noP a ∨ W1.F a) W1 H1 W2 H2 := e2.weak fun a z => z.elim (fun z => z.elim) (pok0.fz a)
  cases hd : m.xs[i]? with
  | none =>
    have hl : m.xs.length ≤ i := List.getElem?_eq_none_iff.mp hd
    rw [List.drop_eq_nil_of_le hl] at kn2
    unfold forL at kn2
    split at kn2 <;> first | exact kn2.elim | skip
    rename_i st
    exact .inl ⟨(it W2 H2 dh2 eF hr2 st i).2 hl, kn2 W2 σ2 H2 O2 Ext.refl hr2 sr2⟩
  | some d =>
    obtain ⟨hi, hd'⟩ := List.getElem?_eq_some_iff.mp hd
    rw [List.drop_eq_getElem_cons hi, hd'] at kn2
    unfold forL at kn2
    split at kn2 <;> first | exact kn2.elim | skip
    rename_i st
    obtain ⟨go, yl⟩ := (it W2 H2 dh2 eF hr2 st i).1 d hd
    refine .inr ⟨go, fun σ3 H3 => ∃ W3 ds3 dh3 O3, Ext P0 W1 H1 W3 H3 ∧ HR C W3 H3 dh3 ∧ SRs C P0 W3 H3 ds3 σ3 O3 ∧ KnS C Wx P0 W3 H3 En (forL m.g (fTurn tg g) (m.xs.drop (i + 1)) ds3 dh3),
      fun σ3 H3 h3 => ⟨m.xs.length - (i + 1), by omega, rfl, h3⟩, fun x H3 y => ?_⟩
    obtain ⟨hr3, vr3, ex3⟩ := (yl x H3 y).ok hr2
    have pok2 := pok0.next e2 hr2
    obtain ⟨e3, sr3⟩ := pe_back pok2 (sr2.next) (ex3 _ (pe_pok pok2 sr2.next))
    have e3' : Ext P0 W2 H2 W2 H3 := e3.weak fun _ z => .inl z
    have sr3' : SRs C P0 W2 H3 ds2 σ2 O2 := sr3.weak fun _ z => .inl z
    have kn3 := KnS.step e3' kn2
    unfold fTurn at kn3
    rw [hK]
    cases ea : asgT tg d ds2 with
    | none => rw [ea] at kn3; exact kn3.elim
    | some ds3 =>
      rw [ea] at kn3
      dsimp only at kn3
      refine asgT_ok tg d x ds2 ds3 σ2 _ ea vr3 sr3' fun σ3 sr4 => ?_
      refine gS.of pok0 (e2.trans (fun _ z => z) e3') hr3 sr4 ?_
      cases eg : g ds3 dh2 with
      | next s h =>
        rw [eg] at kn3
        exact fun W' σ' H' O' e5 hr5 sr5 => ⟨W', s, h, O', (e2.trans (fun _ z => z) e3').trans (fun _ z => z) e5, hr5, sr5, KnS.step e5 kn3⟩
      | cont s h =>
        rw [eg] at kn3
        exact fun W' σ' H' O' e5 hr5 sr5 => ⟨W', s, h, O', (e2.trans (fun _ z => z) e3').trans (fun _ z => z) e5, hr5, sr5, KnS.step e5 kn3⟩
      | ret v h => rw [eg] at kn3; exact kn3
      | exc c vs s h => rw [eg] at kn3; exact kn3
      | bad => rw [eg] at kn3; exact kn3
def sWhile (n : Nat) (fc : List (Option SV) → List D → R SV) (g : List (Option SV) → List D → FR) : List (Option SV) → List D → FR := whileL fc g n
theorem ss_while {n : Nat} {c : Expr} {fc : List (Option SV) → List D → R SV} {g : List (Option SV) → List D → FR} (hp : PassesOwn (model X.prog X.w) X.A X.env X.xe) (hc : PT X c (gT C Wx fc)) (hb : PSs X body (gS C Wx g)) : PS X (.While c body [] pos) (gS C Wx (sWhile n fc g)) := by
  refine PS.mono (ps_while hp hc hb) fun En σ H ⟨P, W, ds, dh, O, pok, hr, sr, kn⟩ => ?_
  refine ⟨fun k σ2 H2 => gS C Wx (whileL fc g k) En σ2 H2, ⟨n, P, W, ds, dh, O, pok, hr, sr, kn⟩, ?_⟩
  rintro k σ2 H2 ⟨P2, W2, ds2, dh2, O2, pok2, hr2, sr2, kn2⟩
  cases k with
  | zero => exact kn2.elim
  | succ k =>
    refine gG.mono (gS_step (oc := ocB) pok2 hr2 sr2 kn2) fun b H3 ⟨W3, b', dh3, e3, hr3, sr3, rr, kn4⟩ => ?_
    cases rr
    cases b with
    | false => exact kn4 W3 σ2 H3 O2 Ext.refl hr3 sr3
    | true =>
      refine ⟨fun σ4 H4 => gS C Wx (whileL fc g k) En σ4 H4, fun σ4 H4 h4 => ⟨k, Nat.lt_succ_self k, h4⟩, ?_⟩
      refine gS.of pok2 e3 hr3 sr3 ?_
      have kn5 : KnS C Wx P2 W3 H3 En ((g ds2 dh3).turn (whileL fc g k)) := kn4
      cases eg : g ds2 dh3 with
      | next s h =>
        rw [eg] at kn5
        exact fun W' σ' H' O' e5 hr5 sr5 => gS.of pok2 (e3.trans (fun _ z => z) e5) hr5 sr5 (KnS.step e5 kn5)
      | cont s h =>
        rw [eg] at kn5
        exact fun W' σ' H' O' e5 hr5 sr5 => gS.of pok2 (e3.trans (fun _ z => z) e5) hr5 sr5 (KnS.step e5 kn5)
      | ret v h => rw [eg] at kn5; exact kn5
      | exc c vs s h => rw [eg] at kn5; exact kn5
      | bad => rw [eg] at kn5; exact kn5
end
end SH
namespace SH
open PySem PySem.Spec PyProof.Rows L2

section
variable {C : Cd} {Wx : WX} {P : Addr → Prop} {W : Wd} {H : Hp} {σ : L2.St} {dh : List D} {ds : List (Option SV)} {O : Nat → Addr} {En : Ends}
theorem ofR_bind {α β : Type} {s : List (Option SV)} (r : R α) (f : α → List D → R β) (K : β → List D → FR) : FR.ofR s (r.bind f) K = FR.ofR s r fun a h => FR.ofR s (f a h) K := by cases r <;> rfl
theorem ofR_bindV {β : Type} {s : List (Option SV)} (r : R SV) (f : D → List D → R β) (K : β → List D → FR) : FR.ofR s (r.bindV f) K = FR.ofR s (r.bindV fun x h => .ok x h) fun a h => FR.ofR s (f a h) K := by
  cases r with
  | ok sv h =>
    show FR.ofR s (match toV sv with | some d => f d h | none => .bad) K = FR.ofR s (match toV sv with | some d => R.ok d h | none => .bad) _
    cases toV sv <;> rfl
  | exc c vs h => rfl
  | bad => rfl
theorem ofR_bindO {β : Type} {s : List (Option SV)} (r : R SV) (f : D → List D → R β) (K : β → List D → FR) : FR.ofR s (r.bindO f) K = FR.ofR s (r.bindO fun x h => .ok x h) fun a h => FR.ofR s (f a h) K := by
  cases r with
  | ok sv h =>
    show FR.ofR s (match toO sv with | some d => f d h | none => .bad) K = FR.ofR s (match toO sv with | some d => R.ok d h | none => .bad) _
    cases toO sv <;> rfl
  | exc c vs h => rfl
  | bad => rfl
theorem gS_stepO {f : List (Option SV) → List D → R SV} {k : D → List D → FR} (pok : Pok P W H) (hr : HR C W H dh) (sr : SRs C P W H ds σ O) (kn : KnS C Wx P W H En (FR.ofR ds ((f ds dh).bindO fun x h => .ok x h) k)) :
    gE C Wx f σ H fun v H1 => ∃ W1 d dh1, Ext P W H W1 H1 ∧ HR C W1 H1 dh1 ∧ SRs C P W1 H1 ds σ O ∧ OR C (Pe P ds O) W1 H1 d v ∧ KnS C Wx P W1 H1 En (k d dh1) := by
  have z : FR.ofR ds ((f ds dh).bindO fun x h => .ok x h) k = FR.ofR ds (f ds dh) fun sv h => match toO sv with | some d => k d h | none => .bad := by
    cases f ds dh with
    | ok sv h =>
      show FR.ofR ds (match toO sv with | some x => R.ok x h | none => .bad) k = (match toO sv with | some d => k d h | none => .bad)
      cases toO sv <;> rfl
    | exc c vs h => rfl
    | bad => rfl
  rw [z] at kn
  refine gG.mono (gS_step (oc := ocV) pok hr sr kn) fun v H1 ⟨W1, sv, dh1, e, hr1, sr1, rr, kn1⟩ => ?_
  cases sv with
  | val d => exact ⟨W1, d, dh1, e, hr1, sr1, .inl rr, kn1⟩
  | obs d => exact ⟨W1, d, dh1, e, hr1, sr1, .inr rr, kn1⟩
  | own d =>
    obtain ⟨W2, e2, hr2, sr2, vr⟩ := RR.toV (fun _ h => .inl h) sr1 (fun i e q => .inr ⟨i, e, q, rfl⟩) rr hr1 (show toV (.own d) = some d from rfl)
    exact ⟨W2, d, dh1, e.trans (fun _ z => z) e2, hr2, sr2, .inl vr, KnS.step e2 kn1⟩
/-- where a thing that may be changed lies -/
theorem put_ref {i : Nat} (sr : SRs C P W H ds σ O) (hc : canPut ds i = true) : ∃ a, σ[i]? = some (some (.ref a)) := by
  unfold canPut at hc
  split at hc <;> first | cases hc | skip
  · exact ⟨_, (sr.own i _ ‹_›).1⟩
  · obtain ⟨v, h1, h2⟩ := sr.val i _ ‹_›
    cases h2
    exact ⟨_, h1⟩
theorem put_ok {i : Nat} {a : Addr} {f : D → Option D} (pok : Pok P W H) (hr : HR C W H dh) (sr : SRs C P W H ds σ O) (ha : σ[i]? = some (some (.ref a))) (kn : KnS C Wx P W H En (putAt ds i f dh)) :
    ∃ d d', CR C W H d a ∧ ¬ W.F a ∧ ¬ P a ∧ f d = some d' ∧ ∀ o u, H a = some o → Mut (some o) → CR C W (upd H a u) d' a → En.nx σ (upd H a u) := by
  unfold putAt at kn
  split at kn <;> first | exact kn.elim | skip
  · rename_i d e
    split at kn <;> first | exact kn.elim | skip
    rename_i d' ef
    obtain ⟨h1, h2, h3, h4, h5⟩ := sr.own i d e
    rw [ha] at h1
    obtain rfl : a = O i := by injection h1 with z; injection z with z; injection z
    refine ⟨d, d', h2, h4, h3, ef, fun o u ho hm cr => ?_⟩
    obtain ⟨e1, hr1, sr1⟩ := own_changed hr sr e ho hm cr
    exact kn W σ _ O e1 hr1 sr1
  · rename_i n e
    split at kn <;> first | exact kn.elim | skip
    rename_i d' ef
    obtain ⟨v, h1, h2⟩ := sr.val i _ e
    cases h2 with
    | ref hn =>
      rw [ha] at h1
      obtain rfl : a = W.rho n := by injection h1 with z; injection z with z; injection z
      cases hd : dh[n]? with
      | none => rw [hd] at ef; cases ef
      | some d =>
        rw [hd] at ef
        refine ⟨d, d', hr.cr n d hd, hr.nofz n hn, pok.sh n hn, ef, fun o u ho hm cr => ?_⟩
        obtain ⟨e1, hr1, sr1⟩ := shared_changed pok hr sr hn ho hm cr
        exact kn W σ _ O e1 hr1 sr1
/-! ### o[k] = v -/
def rSetA : TSet := fun o i v H Q => rSetL o i v H Q ∨ rSetD o i v H Q
theorem set_any {X : Cx} (hu : X.A.units + 1 < cLine) : PSet X rSetA := fun pins s σ H o i v ov iv u Q I r1 r2 r3 h =>
  h.elim (fun h => set_list pins s σ H o i v ov iv u Q I r1 r2 r3 h) fun h => set_dict hu pins s σ H o i v ov iv u Q I r1 r2 r3 h
theorem putK_rel {κ : Type} [DecidableEq κ] {W : Wd} {H : Hp} (k : κ) {d : D} {v : V} (vr : VR C W H d v) (kvs : List (κ × V)) (es : List D) (h : VRs C W H es (kvs.map (·.2))) :
    (putD (kvs.map (·.1)) es k d).1 = (putK kvs k v).map (·.1) ∧ VRs C W H (putD (kvs.map (·.1)) es k d).2 ((putK kvs k v).map (·.2)) := by
  have hs := valV_some k kvs es h
  have hany : (kvs.any fun kv => decide (kv.1 = k)) = (valV kvs k).isSome := by
    unfold valV
    rw [Option.isSome_map]
    induction kvs generalizing es with
    | nil => rfl
    | cons p r ih =>
      rw [List.any_cons, List.find?_cons]
      by_cases e : p.1 = k
      · simp [e]
      · simp only [e, decide_false, Bool.false_or]
        cases h with
        | cons a b => exact ih _ b (valV_some k r _ b)
  unfold putD putK
  rw [hany, hs]
  by_cases e : (atKey (kvs.map (·.1)) es k).isSome = true
  · rw [if_pos e, if_pos e]
    constructor
    · rw [List.map_map]
      apply List.map_congr_left
      intro p _
      by_cases q : p.1 = k <;> simp [q]
    · clear hs hany e
      induction kvs generalizing es with
      | nil =>
        cases h
        exact .nil
      | cons p r ih =>
        cases h with
        | cons a b =>
          simp only [List.map_cons, List.zip_cons_cons]
          refine .cons ?_ (ih _ b)
          by_cases q : p.1 = k
          · simp only [q, if_true]; exact vr
          · simp only [q, if_false]; exact a
  · rw [if_neg e, if_neg e]
    exact ⟨by simp, by rw [List.map_append]; exact h.append (.cons vr .nil)⟩
theorem keyK_py {k : D} {q : Key} (e : keyK k = some q) : ∀ h, deref h k = k := by
  intro h
  cases k with
  | ref n => cases e
  | _ => rfl
theorem keyT_py {k : D} {q : List Key} (e : keyT k = some q) : ∀ h, deref h k = k := by
  intro h
  cases k with
  | ref n => cases e
  | _ => rfl
theorem setD_ok {d d' k y : D} {a : Addr} {kv yv : V} {Q : Hp → Prop} {Pq : Addr → Prop} (hr : HR C W H dh) (hf : ¬ W.F a) (cr : CR C W H d a) (ok : OR C Pq W H k kv) (vy : VR C W H y yv) (e : setD d k y = some d')
    (q : ∀ o u, H a = some o → Mut (some o) → CR C W (upd H a u) d' a → Q (upd H a u)) : rSetA (.ref a) kv yv H Q := by
  unfold setD at e
  split at e <;> first | cases e | skip
  · rename_i xs i
    cases cr with
    | lst ha r =>
      rename_i vs
      obtain ⟨j, hj, rfl⟩ := Option.map_eq_some_iff.mp e
      have ek := ok.int hr (i := i) rfl
      rw [r.length] at hj
      have ex := upd_wext (u := .lst (vs.set j yv)) ha trivial hf
      exact .inl ⟨a, _, i, j, rfl, ek, ha, hj, q _ _ ha trivial (.lst upd_same ((r.set j vy).ext (P := W.F) (fun _ z => z) ex))⟩
  · rename_i ks es k
    split at e <;> first | cases e | skip
    rename_i hl
    obtain ⟨kk, hk, rfl⟩ := Option.map_eq_some_iff.mp e
    cases cr with
    | dK ha r =>
      rename_i kvs
      have ek := ok.keyK hr (k := kk) (by rw [keyK_py hk]; exact hk)
      subst ek
      have ex := upd_wext (u := .dK (putK kvs kk yv)) ha trivial hf
      obtain ⟨p1, p2⟩ := putK_rel kk vy kvs _ r
      refine .inr ⟨a, _, rfl, DPut.k ha (by rw [List.length_map] at hl; exact hl), q _ _ ha trivial ?_⟩
      rw [p1]
      exact .dK upd_same (p2.ext (P := W.F) (fun _ z => z) ex)
  · rename_i ks es k
    split at e <;> first | cases e | skip
    rename_i hl
    obtain ⟨kk, hk, rfl⟩ := Option.map_eq_some_iff.mp e
    cases cr with
    | dT ha r =>
      rename_i kvs
      obtain ⟨b, rfl, hb⟩ := ok.keyT hr (k := kk) (by rw [keyT_py hk]; exact hk)
      have ex := upd_wext (u := .dT (putK kvs kk yv)) ha trivial hf
      obtain ⟨p1, p2⟩ := putK_rel kk vy kvs _ r
      refine .inr ⟨a, _, rfl, DPut.t ha hb (by rw [List.length_map] at hl; exact hl), q _ _ ha trivial ?_⟩
      rw [p1]
      exact .dT upd_same (p2.ext (P := W.F) (fun _ z => z) ex)
end

section
variable {X : Cx} {C : Cd} {Wx : WX} {pos pos' tpos : Pos} {k v : Expr} {fk fv : List (Option SV) → List D → R SV}
def sSet (i : Nat) (fk fv : List (Option SV) → List D → R SV) : List (Option SV) → List D → FR := fun s h =>
  if canPut s i then .ofR s ((fv s h).bindV fun y h1 => (fk s h1).bindO fun x h2 => .ok (x, y) h2) fun p h1 => putAt s i (fun d => setD d p.1 p.2) h1 else .bad
theorem set_read {i : Nat} {En : Ends} {σ : L2.St} {H : Hp} (h : gS C Wx (sSet i fk fv) En σ H) : tAsg (gE C Wx fv) (gSub (tVar i) (gE C Wx fk) rSetA) En σ H := by
  obtain ⟨P, W, ds, dh, O, pok, hr, sr, kn⟩ := h
  unfold sSet at kn
  split at kn <;> first | exact kn.elim | skip
  rename_i hc
  rw [ofR_bindV] at kn
  refine gG.mono (gS_stepV pok hr sr kn) fun yv H1 ⟨W1, y, dh1, e1, hr1, sr1, vy, kn1⟩ => ?_
  obtain ⟨a, ha⟩ := put_ref sr1 hc
  refine ⟨_, ha, ?_⟩
  rw [ofR_bindO] at kn1
  have pok1 := pok.next e1 hr1
  refine gG.mono (gS_stepO pok1 hr1 sr1.next (kn1.more (fun _ h => .inl h) fun _ h => h)) fun kv H2 ⟨W2, x, dh2, e2, hr2, sr2, ox, kn2⟩ => ?_
  have vy2 := vy.ext pok1.fz e2
  have pok2 := pok1.next e2 hr2
  obtain ⟨d, d', cr, nf, np, ed, q⟩ := put_ok pok2 hr2 sr2.next ha (kn2.more (fun _ h => .inl h) fun _ h => h)
  exact setD_ok hr2 nf cr ox vy2 ed q
theorem ss_set {i : Nat} {x : Str} (hu : X.A.units + 1 < cLine) (ho : PE X (.Name x pos') (tVar i)) (hk : PE X k (gE C Wx fk)) (hv : PE X v (gE C Wx fv))
    (ha : ∀ v, assign (.Subscript (.Name x pos') k tpos) X.env v = (do
      let ov ← holding [v] (eval (.Name x pos') X.env)
      let iv ← holding [v, ov] (eval k X.env)
      standAt tpos
      holding [v, ov, iv] (setItem ov iv v)
      release [v, ov, iv] []))
    (hs : swapsWithSole [.Subscript (.Name x pos') k tpos] v pos.line X.env = pure false) (hw : swappedStores [.Subscript (.Name x pos') k tpos] v X.env = pure none) (h1 : (assignEach [.Subscript (.Name x pos') k tpos] X.env).map (·.2) = [assign (.Subscript (.Name x pos') k tpos) X.env]) :
    PS X (.Assign [.Subscript (.Name x pos') k tpos] v pos) (gS C Wx (sSet i fk fv)) :=
  PS.mono (ps_asg hv (pg_sub ho hk (set_any hu) ha) hs hw h1) fun En σ H h => set_read h
end
end SH
namespace SH
open PySem PySem.Spec PyProof.Rows L2

/-- what isinstance asks of an own class -/
structure InsTy (K : PySem.W.Frag) (a : Addr) : Prop where
  cl : Cls K a
  ha : PySem.W.findIn K (.ref a) "__class__" = some (some (.builtin "object.__class__"))
  hn : PySem.W.specialIn K (.builtin "object.__class__") "__get__" = some (some (.builtin "getset_descriptor.__get__"))
  htk : PySem.W.takesIn K (.builtin "object.__class__") = some true
  hm : PySem.W.mroIn K a (.type "object") = some true
/-- the tables say what is so -/
structure IsaOk (T : Tbl) (C : Cd) : Prop where
  isa : ∀ k c b, T.isa k c = some b → InsTy C.K (C.cad k) ∧ PySem.W.kitOne C.K (.ref (C.cad k)) (clU C c) = some b
theorem kit_tab : (["bool", "int", "str", "list", "tuple", "dict", "NoneType"].all fun a => ["bool", "int", "str", "list", "tuple", "dict"].all fun b => L2.kitB a b == some (a == b || (a == "bool" && b == "int"))) = true := by decide +kernel
theorem kit_at {K : PySem.W.Frag} {a b : String} (ha : a ∈ ["bool", "int", "str", "list", "tuple", "dict", "NoneType"]) (hb : b ∈ ["bool", "int", "str", "list", "tuple", "dict"]) :
    PySem.W.kitOne K (.type a) (.type b) = some (a == b || (a == "bool" && b == "int")) :=
  L2.kit_ty (beq_iff_eq.mp (List.all_eq_true.mp (List.all_eq_true.mp kit_tab a ha) b hb))
section
variable {C : Cd} {P : Addr → Prop} {W : Wd} {H : Hp} {dh : List D}
theorem KL.type {K : PySem.W.Frag} {a : Addr} {xs : List V} (h : KL K a xs) : TyX K H (.ref a) (.type "list") := by
  obtain ⟨o, its, n, h1, h2, _⟩ := h
  exact .kList h1 h2
theorem isD_ok {T : Tbl} (ok : IsaOk T C) {d : D} {v : V} {c : Cl} {b : Bool} (o : OR C P W H d v) (hr : HR C W H dh) (e : isD T dh d c = some b) : ∃ t, TyX C.K H v t ∧ PySem.W.kitOne C.K t (clU C c) = some b := by
  have ins : ∀ k vs, deref dh d = .ins k vs → ∃ a dx fs, v = .ref a ∧ H a = some (.ins (C.cad k) dx fs) := fun k vs q => by
    rcases o with o | ⟨a, rfl, cr, _, _⟩
    · cases d with
      | ins k' vs' =>
        cases q
        cases o with
        | ins f s _ _ => exact ⟨_, _, _, rfl, s⟩
      | ref n =>
        cases o with
        | ref hn =>
          cases hd : dh[n]? with
          | none => unfold deref at q; simp only [hd] at q; cases q
          | some x =>
            rw [deref_ref hd] at q
            subst q
            cases hr.cr n _ hd with
            | ins s _ _ => exact ⟨_, _, _, rfl, s⟩
      | _ => cases q
    · cases cr with
      | ins s _ _ => cases q; exact ⟨_, _, _, rfl, s⟩
      | _ => cases q
  cases q : deref dh d with
  | ins k vs =>
    have e : T.isa k c = some b := by
      unfold isD at e
      rw [q] at e
      exact e
    obtain ⟨it, hk⟩ := ok.isa k c b e
    obtain ⟨a, dx, fs, rfl, ha⟩ := ins k vs q
    exact ⟨_, .base (.ins ha it.cl it.ha it.hn it.htk it.hm), hk⟩
  | exc k vs => unfold isD at e; rw [q] at e; cases e
  | ref n => unfold isD at e; rw [q] at e; cases e
  | non =>
    have ev := o.non hr q
    subst ev
    unfold isD at e
    rw [q] at e
    refine ⟨_, .base .non, ?_⟩
    cases c <;> first | (rw [show clU C _ = Value.type _ from rfl, kit_at (by simp) (by simp)]; cases e; rfl) | (exact nomatch e)
  | bl x =>
    have ev := o.bl hr q
    subst ev
    unfold isD at e
    rw [q] at e
    refine ⟨_, .base (.bl x), ?_⟩
    cases c <;> first | (rw [show clU C _ = Value.type _ from rfl, kit_at (by simp) (by simp)]; cases e; rfl) | (exact nomatch e)
  | int x =>
    have ev := o.int hr q
    subst ev
    unfold isD at e
    rw [q] at e
    refine ⟨_, .base (.int x), ?_⟩
    cases c <;> first | (rw [show clU C _ = Value.type _ from rfl, kit_at (by simp) (by simp)]; cases e; rfl) | (exact nomatch e)
  | str x =>
    have ev := o.str hr q
    subst ev
    unfold isD at e
    rw [q] at e
    refine ⟨_, .base (.str x), ?_⟩
    cases c <;> first | (rw [show clU C _ = Value.type _ from rfl, kit_at (by simp) (by simp)]; cases e; rfl) | (exact nomatch e)
  | lst xs =>
    obtain ⟨a, vs, rfl, h1, h2⟩ := o.lst hr q
    unfold isD at e
    rw [q] at e
    refine ⟨_, .base (.lst h1), ?_⟩
    cases c <;> first | (rw [show clU C _ = Value.type _ from rfl, kit_at (by simp) (by simp)]; cases e; rfl) | (exact nomatch e)
  | scr ns =>
    have hl : ∃ a, v = .ref a ∧ TyX C.K H (.ref a) (.type "list") := by
      obtain ⟨a, rfl, h1⟩ := o.scr hr q
      rcases h1 with (h1 | ⟨o', h1⟩) | h1
      · exact ⟨a, rfl, .base (.lst h1)⟩
      · exact ⟨a, rfl, .base (.frz h1)⟩
      · exact ⟨a, rfl, KL.type h1⟩
    obtain ⟨a, rfl, ty⟩ := hl
    unfold isD at e
    rw [q] at e
    refine ⟨_, ty, ?_⟩
    cases c <;> first | (rw [show clU C _ = Value.type _ from rfl, kit_at (by simp) (by simp)]; cases e; rfl) | (exact nomatch e)
  | tup xs =>
    obtain ⟨a, vs, rfl, h1, h2⟩ := o.tup hr q
    unfold isD at e
    rw [q] at e
    refine ⟨_, .base (.tup h1), ?_⟩
    cases c <;> first | (rw [show clU C _ = Value.type _ from rfl, kit_at (by simp) (by simp)]; cases e; rfl) | (exact nomatch e)
  | dK ks vs =>
    have hl : ∃ a, v = .ref a ∧ TyX C.K H (.ref a) (.type "dict") := by
      rcases o with o | ⟨a, rfl, cr, _, _⟩
      · cases d with
        | dK ks' vs' =>
          cases q
          cases o with
          | dK f s _ => exact ⟨_, rfl, .base (.dK s)⟩
          | dKz s _ => exact ⟨_, rfl, .fDict s⟩
        | ref n =>
          cases o with
          | ref hn =>
            cases hd : dh[n]? with
            | none => unfold deref at q; simp only [hd] at q; cases q
            | some x =>
              rw [deref_ref hd] at q
              subst q
              cases hr.cr n _ hd with
              | dK s _ => exact ⟨_, rfl, .base (.dK s)⟩
        | _ => cases q
      · cases cr with
        | dK s _ => exact ⟨_, rfl, .base (.dK s)⟩
        | _ => cases q
    obtain ⟨a, rfl, ty⟩ := hl
    unfold isD at e
    rw [q] at e
    refine ⟨_, ty, ?_⟩
    cases c <;> first | (rw [show clU C _ = Value.type _ from rfl, kit_at (by simp) (by simp)]; cases e; rfl) | (exact nomatch e)
  | dT ks vs =>
    have hl : ∃ a, v = .ref a ∧ TyX C.K H (.ref a) (.type "dict") := by
      rcases o with o | ⟨a, rfl, cr, _, _⟩
      · cases d with
        | dT ks' vs' =>
          cases q
          cases o with
          | dT f s _ => exact ⟨_, rfl, .base (.dT s)⟩
        | ref n =>
          cases o with
          | ref hn =>
            cases hd : dh[n]? with
            | none => unfold deref at q; simp only [hd] at q; cases q
            | some x =>
              rw [deref_ref hd] at q
              subst q
              cases hr.cr n _ hd with
              | dT s _ => exact ⟨_, rfl, .base (.dT s)⟩
        | _ => cases q
      · cases cr with
        | dT s _ => exact ⟨_, rfl, .base (.dT s)⟩
        | _ => cases q
    obtain ⟨a, rfl, ty⟩ := hl
    unfold isD at e
    rw [q] at e
    refine ⟨_, ty, ?_⟩
    cases c <;> first | (rw [show clU C _ = Value.type _ from rfl, kit_at (by simp) (by simp)]; cases e; rfl) | (exact nomatch e)
end
section
variable {X : Cx} {C : Cd} {Wx : WX} {pos p : Pos} {a c : Expr} {fa : List (Option SV) → List D → R SV}
def fIsi (T : Tbl) (fa : List (Option SV) → List D → R SV) (c : Cl) : List (Option SV) → List D → R SV := fun s h => (fa s h).bindO fun x h1 => ofB (isD T h1 x c) h1
theorem se_isi {T : Tbl} (hK : X.K = C.K) (ok : IsaOk T C) {cl : Cl} (ha : PE X a (gE C Wx fa)) (hc : PE X c (tC (clV C cl))) (hg : Gl X "isinstance") (hm : X.mg "isinstance" = none)
    (he : starEach [a, c] X.env = (false, eval a X.env) :: starEach [c] X.env) (he2 : starEach [c] X.env = (false, eval c X.env) :: starEach [] X.env) (hpl : (backTo pos (starEach [c] X.env)).any (·.1) = false) :
    PE X (.Call (.Name "isinstance" p) [a, c] [] pos) (gE C Wx (fIsi T fa cl)) := by
  refine PE.mono (pe_callB call_isi hg hm (by decide +kernel) (pa_cons ha (pa_cons hc pa_nil he2) he) (by decide) (by decide) he hpl) fun σ H Q ⟨P, W, ds, dh, pok, hr, sr, kn⟩ => ?_
  refine gG.mono (gE_stepO pok hr sr kn) fun v H1 ⟨P1, W1, x, dh1, n1, o1, kn1⟩ => ?_
  try dsimp only at kn1
  cases e : isD T dh1 x cl with
  | none => rw [e] at kn1; exact kn1.elim
  | some b =>
    rw [e] at kn1
    obtain ⟨t, ty, hk⟩ := isD_ok ok o1 n1.hr e
    rw [hK]
    exact ⟨v, _, t, _, b, rfl, clV_ok C cl, ty, hk, Kn.val n1.hr (.bl b) kn1⟩
theorem cl_own {i : Nat} {x : Str} (hg : Gl X x) (hm : X.mg x = some (.ref (C.cad i))) (hd : (x == ("__debug__" : Str)) = false) : PE X (.Name x p) (tC (clV C (.c i))) := pe_glob hg hm rfl hd
theorem cl_ty {cl : Cl} {n : String} {x : Str} (hcl : clTy cl = some n) (hg : Gl X x) (hm : X.mg x = none) (hv : bootBuiltins x = some (.type n)) (hn : x ≠ "__name__") (hd : (x == ("__debug__" : Str)) = false) : PE X (.Name x p) (tC (clV C cl)) := by
  refine pe_bltn hg hm hv ?_ hn hd
  cases cl <;> first | (cases hcl; rfl) | (exact nomatch hcl)
end
end SH
namespace SH
open PySem PySem.Spec PyProof.Rows L2

/-! ### the text and its places, told from each other by the kernel -/
inductive GD where | fn (i : Nat) | cls (c : Nat) | free
  deriving DecidableEq
abbrev GT := List (Str × GD)
def okNm (x : Str) : Bool := !(x == ("__debug__" : Str)) && !(x == ("__classdict__" : Str)) && !(x == ("__name__" : Str))
def isGl (sc : Scope) (x : Str) : Bool := sc.names.lookup x == some .globalImplicit
def isVis (sc : Scope) (x : Str) : Bool := sc.names.lookup x == some .local || sc.names.lookup x == some .cell || sc.names.lookup x == some .free
def isLoc (sc : Scope) (x : Str) : Bool := sc.names.lookup x == some .local || sc.names.lookup x == some .cell
def isStar : Expr → Bool
  | .Starred _ _ => true
  | _ => false
def isSlice : Expr → Bool
  | .Slice _ _ _ _ => true
  | _ => false
def gFind (G : GT) (x : Str) : Option GD := G.lookup x
def slotN (N : List Str) (i : Nat) (x : Str) : Bool := N[i]? == some x
def biN : BI → String
  | .len => "len" | .list => "list" | .tuple => "tuple" | .dict => "dict" | .int => "int" | .str => "str" | .abs => "abs" | .min1 => "min" | .max1 => "max" | .min2 => "min" | .max2 => "max" | .sum => "sum" | .all => "all" | .sorted => "sorted"
def biOk : BI → Bool
  | .len => true | .abs => true
  | _ => false
def glFree (G : GT) (sc : Scope) (x : Str) : Bool := isGl sc x && (gFind G x == some .free)
/-- a class, as isinstance takes it -/
def mtCl (G : GT) (sc : Scope) (e : Expr) (c : Cl) : Bool := match e with
  | .Name x _ => isGl sc x && okNm x && (match c with
    | .c i => gFind G x == some (.cls i)
    | c => (gFind G x == some .free) && (match clTy c with
      | some n => x == Str.ofString n
      | none => false))
  | _ => false
def boTail (rest : List Expr) : Bool := rest.isEmpty
def tstI : IE → Bool
  | .ife _ _ _ => false
  | .heap _ => false
  | _ => true
def isBO : IE → Bool
  | .and _ _ => true
  | .or _ _ => true
  | _ => false
def lenIEs : IEs → Nat
  | .nil => 0
  | .cons _ r => lenIEs r + 1
def opB : BOp → Operator
  | .add => .Add | .sub => .Sub | .mul => .Mult | .fdiv => .FloorDiv | .mod => .Mod | .pow => .Pow
mutual
def mtE (G : GT) (N : List Str) (sc : Scope) : IE → Expr → Bool
  | .cint i, e => (match e with
    | .Constant (.int j) _ _ => decide (i = j)
    | _ => false)
  | .cbl i, e => (match e with
    | .Constant (.bool j) _ _ => i == j
    | _ => false)
  | .cnon, e => (match e with
    | .Constant .none _ _ => true
    | _ => false)
  | .cstr x, e => (match e with
    | .Constant (.str y) _ _ => decide (x = y)
    | _ => false)
  | .gstr _, _ => false
  | .var i, e => (match e with
    | .Name x _ => slotN N i x && isVis sc x && okNm x
    | _ => false)
  | .bin o a b, e => (match e with
    | .BinOp ea op eb _ => decide (opB o = op) && mtE G N sc a ea && mtE G N sc b eb
    | _ => false)
  | .neg a, e => (match e with
    | .UnaryOp .USub ea _ => mtE G N sc a ea
    | _ => false)
  | .not a, e => (match e with
    | .UnaryOp .Not ea _ => tstI a && mtE G N sc a ea
    | _ => false)
  | .and a b, e => (match e with
    | .BoolOp .And (ea :: eb :: rest) pos => tstI a && tstI b && mtE G N sc a ea && (match rest with
      | [] => mtE G N sc b eb
      | r :: rs => isBO b && mtE G N sc b (.BoolOp .And (eb :: r :: rs) pos))
    | _ => false)
  | .or a b, e => (match e with
    | .BoolOp .Or (ea :: eb :: rest) pos => tstI a && tstI b && mtE G N sc a ea && (match rest with
      | [] => mtE G N sc b eb
      | r :: rs => isBO b && mtE G N sc b (.BoolOp .Or (eb :: r :: rs) pos))
    | _ => false)
  | .cmp o a b, e => (match e with
    | .Compare ea [op] [eb] _ => decide (op = opOf o) && !behindInMarks (opOf o) eb && mtE G N sc a ea && mtE G N sc b eb
    | _ => false)
  | .chain o o2 a b c, e => (match e with
    | .Compare ea [op, op2] [eb, ec] _ => decide (op = opOf o) && decide (op2 = opOf o2) && !lastMarks [opOf o, opOf o2] [eb, ec] && mtE G N sc a ea && mtE G N sc b eb && mtE G N sc c ec
    | _ => false)
  | .isn a, e => (match e with
    | .Compare ea [.Is] [.Constant .none _ _] _ => mtE G N sc a ea
    | _ => false)
  | .isnn a, e => (match e with
    | .Compare ea [.IsNot] [.Constant .none _ _] _ => mtE G N sc a ea
    | _ => false)
  | .call f as, e => (match e with
    | .Call (.Name x _) es [] _ => (gFind G x == some (.fn f)) && isGl sc x && okNm x && mtEs G N sc as es
    | _ => false)
  | .meth _ _ _, _ => false
  | .mk _ _, _ => false
  | .bi b as, e => (match e with
    | .Call (.Name x _) es [] _ => biOk b && x == Str.ofString (biN b) && glFree G sc x && !es.isEmpty && mtEs G N sc as es
    | _ => false)
  | .bm _ _ _, _ => false
  | .fld _ _, _ => false
  | .ix a b, e => (match e with
    | .Subscript ea eb _ => !isSlice eb && mtE G N sc a ea && mtE G N sc b eb
    | _ => false)
  | .sl a lo hi, e => (match e with
    | .Subscript ea (.Slice elo ehi none _) _ => mtE G N sc a ea && mtEo G N sc lo elo && mtEo G N sc hi ehi
    | _ => false)
  | .lst as, e => (match e with
    | .List es _ => decide (lenIEs as ≤ 1000) && mtEs G N sc as es
    | _ => false)
  | .tup as, e => (match e with
    | .Tuple es _ _ => decide (lenIEs as ≤ 1000) && mtEs G N sc as es
    | _ => false)
  | .dct0 _, _ => false
  | .comp _ _ _ _ _, _ => false
  | .ife c a b, e => (match e with
    | .IfExp ec ea eb _ => tstI c && mtE G N sc c ec && mtE G N sc a ea && mtE G N sc b eb
    | _ => false)
  | .fst _, _ => false
  | .isi a cs, e => (match e, cs with
    | .Call (.Name x _) [ea, ec] [] _, [c] => x == ("isinstance" : Str) && glFree G sc x && !isStar ea && mtE G N sc a ea && mtCl G sc ec c
    | _, _ => false)
  | .heap a, e => mtE G N sc a e
def mtEs (G : GT) (N : List Str) (sc : Scope) : IEs → List Expr → Bool
  | .nil, es => es.isEmpty
  | .cons a r, es => (match es with
    | e :: es => !isStar e && mtE G N sc a e && mtEs G N sc r es
    | [] => false)
def mtEo (G : GT) (N : List Str) (sc : Scope) : IEo → Option Expr → Bool
  | .no, o => o.isNone
  | .yes a, o => (match o with
    | some e => mtE G N sc a e
    | none => false)
end
def mtIt (G : GT) (N : List Str) (sc : Scope) (tg : Expr) : It → Expr → Bool
  | .rng1 a, .Call (.Name x _) [ea] [] _ => x == ("range" : Str) && glFree G sc x && !isStar ea && mtE G N sc a ea
  | .rng2 a b, .Call (.Name x _) [ea, eb] [] _ => x == ("range" : Str) && glFree G sc x && !isStar ea && !isStar eb && mtE G N sc a ea && mtE G N sc b eb
  | .zip a b, .Call (.Name x _) [ea, eb] [] _ => x == ("zip" : Str) && glFree G sc x && !isStar ea && !isStar eb && mtE G N sc a ea && mtE G N sc b eb && (match tg with
    | .Tuple _ _ _ => true
    | _ => false)
  | .rev a, .Call (.Name x _) [ea] [] _ => x == ("reversed" : Str) && glFree G sc x && !isStar ea && mtE G N sc a ea
  | .revrng a, .Call (.Name x _) [.Call (.Name y _) [ea] [] _] [] _ => x == ("reversed" : Str) && glFree G sc x && y == ("range" : Str) && glFree G sc y && !isStar ea && mtE G N sc a ea
  | .val a, e => (match e with
    | .Set _ _ _ => false
    | _ => true) && mtE G N sc a e
  | _, _ => false

/-! ### what stands around a text -/
structure GlOk (C : Cd) (fad : Nat → Addr) (G : GT) (mg : Str → Option Value) : Prop where
  fn : ∀ x i, gFind G x = some (.fn i) → mg x = some (.ref (fad i))
  cls : ∀ x i, gFind G x = some (.cls i) → mg x = some (.ref (C.cad i))
  free : ∀ x, gFind G x = some .free → mg x = none
structure Tcx (T : Tbl) (C : Cd) (fad : Nat → Addr) (G : GT) (F : Nat → List D → List D → R SV) (N : List Str) (sc : Scope) (X : Cx) (Wx : WX) : Prop where
  K : X.K = C.K
  scope : X.env.scope = sc
  hN : X.N = N
  nd : N.Nodup
  calm : X.calm = true
  gl : GlOk C fad G X.mg
  isa : IsaOk T C
  fns : ∃ k, Room k X.A ∧ ∀ i, (∃ x, gFind G x = some (.fn i)) → ∃ fd ps, FnOk X.prog X.w X.K X.mg X.base (L2.CX X.prog X.w) k (fad i) fd ps (spM C (F i)) ∧ PySem.W.keepIn X.K (.ref (fad i)) = true ∧ Binds X.K fd ps []
  tk : Takes X Wx
  fnl : ∀ x, Loc sc x → X.fn x = true ∨ sc.names.lookup x = some .local

section
variable {T : Tbl} {C : Cd} {fad : Nat → Addr} {G : GT} {F : Nat → List D → List D → R SV} {Gm : Nat → Nat → List D → List D → R (List D)} {N : List Str} {sc : Scope} {X : Cx} {Wx : WX}
theorem Tcx.units (c : Tcx T C fad G F N sc X Wx) : X.A.units + 100 < cLine := by
  obtain ⟨k, r, _⟩ := c.fns
  have := r.un
  omega
theorem Tcx.gfree (c : Tcx T C fad G F N sc X Wx) {x : Str} (h : glFree G sc x = true) : Gl X x ∧ X.mg x = none := by
  unfold glFree isGl at h
  rw [Bool.and_eq_true] at h
  refine ⟨?_, c.gl.free x (beq_iff_eq.mp h.2)⟩
  show X.env.scope.names.lookup x = _
  rw [c.scope]
  exact beq_iff_eq.mp h.1
theorem Tcx.gl_of (c : Tcx T C fad G F N sc X Wx) {x : Str} (h : isGl sc x = true) : Gl X x := by
  show X.env.scope.names.lookup x = _
  rw [c.scope]
  exact beq_iff_eq.mp h
theorem okNm_d {x : Str} (h : okNm x = true) : (x == ("__debug__" : Str)) = false ∧ (x == ("__classdict__" : Str)) = false ∧ x ≠ ("__name__" : Str) := by
  unfold okNm at h
  rw [Bool.and_eq_true, Bool.and_eq_true] at h
  refine ⟨by simpa using h.1.1, by simpa using h.1.2, fun e => ?_⟩
  rw [e] at h
  simp at h
theorem vis_of {x : Str} (h : isVis sc x = true) : Vis sc x := by
  unfold isVis at h
  rw [Bool.or_eq_true, Bool.or_eq_true] at h
  rcases h with (h | h) | h
  · exact .inl (beq_iff_eq.mp h)
  · exact .inr (.inl (beq_iff_eq.mp h))
  · exact .inr (.inr (beq_iff_eq.mp h))
theorem loc_of {x : Str} (h : isLoc sc x = true) : Loc sc x := by
  unfold isLoc at h
  rw [Bool.or_eq_true] at h
  exact h.imp beq_iff_eq.mp beq_iff_eq.mp
theorem star1 {e : Expr} {es : List Expr} {env : Env} (h : isStar e = false) : starEach (e :: es) env = (false, eval e env) :: starEach es env := by
  cases e <;> first | rfl | (cases h)
def noStars (es : List Expr) : Prop := ∀ e ∈ es, isStar e = false
theorem hpl_of {env : Env} {pos : Pos} : ∀ {es : List Expr}, noStars es → (backTo pos (starEach es env)).any (·.1) = false
  | [], _ => rfl
  | e :: es, h => by
    rw [star1 (h e List.mem_cons_self)]
    show (false || (backTo pos (starEach es env)).any (·.1)) = false
    rw [hpl_of fun x hx => h x (List.mem_cons_of_mem _ hx)]
    rfl
theorem plain_ix {b : Expr} (h : isSlice b = false) : PlainIx b := by
  intro o i
  cases b <;> first | rfl | (cases h)
theorem evEs_len : ∀ (as : IEs) (s : List (Option SV)) (h : List D) (l : List SV) (h1 : List D), evEs T F Gm as s h = .ok l h1 → l.length = lenIEs as
  | .nil, s, h, l, h1, e => by
    unfold evEs at e
    cases e
    rfl
  | .cons a r, s, h, l, h1, e => by
    unfold evEs at e
    cases ea : evE T F Gm a s h with
    | bad => rw [ea] at e; cases e
    | exc c vs h2 => rw [ea] at e; cases e
    | ok sv h2 =>
      rw [ea] at e
      have e : ((evEs T F Gm r s h2).bind fun xs h3 => R.ok (toF sv :: xs) h3) = .ok l h1 := e
      cases er : evEs T F Gm r s h2 with
      | bad => rw [er] at e; cases e
      | exc c vs h3 => rw [er] at e; cases e
      | ok xs h3 =>
        rw [er] at e
        cases e
        show xs.length + 1 = _
        rw [evEs_len r s h2 xs _ er]
        rfl
def SE (C : Cd) (Wx : WX) (X : Cx) (ie : IE) (e : Expr) (f : List (Option SV) → List D → R SV) : Prop :=
  PE X e (gE C Wx f) ∧ (tstI ie = true → PT X e (gT C Wx f)) ∧ (isBO ie = true → PW X e (gT C Wx f))
theorem SE.pl {ie : IE} {e : Expr} {f : List (Option SV) → List D → R SV} (hK : X.K = C.K) (h : PE X e (gE C Wx f)) (hb : isBO ie = false) (he : ∀ whole, isTrue e X.env whole = (do let v ← whole; standAt e.pos; holding [v] (truthy v))) : SE C Wx X ie e f :=
  ⟨h, fun _ => st_plain hK h he, fun z => by rw [hb] at z; cases z⟩
theorem SE.of {ie : IE} {e : Expr} {f : List (Option SV) → List D → R SV} (h : PE X e (gE C Wx f)) (ht : PT X e (gT C Wx f)) (hb : isBO ie = false) : SE C Wx X ie e f :=
  ⟨h, fun _ => ht, fun z => by rw [hb] at z; cases z⟩
theorem cl_free (c : Tcx T C fad G F N sc X Wx) {x : Str} {p : Pos} {cl : Cl} {n : String} (hcl : clTy cl = some n) (hv : bootBuiltins (Str.ofString n) = some (.type n)) (h1 : isGl sc x = true) (h2 : okNm x = true) (h : (gFind G x == some .free && x == Str.ofString n) = true) : PE X (.Name x p) (tC (clV C cl)) := by
  rw [Bool.and_eq_true] at h
  obtain ⟨d1, d2, d3⟩ := okNm_d h2
  have ex := beq_iff_eq.mp h.2
  subst ex
  exact cl_ty hcl (c.gl_of h1) (c.gl.free _ (beq_iff_eq.mp h.1)) hv d3 d1
theorem cl_ok (c : Tcx T C fad G F N sc X Wx) {e : Expr} {cl : Cl} (h : mtCl G sc e cl = true) : PE X e (tC (clV C cl)) ∧ isStar e = false := by
  unfold mtCl at h
  split at h <;> first | cases h | skip
  rename_i x p
  rw [Bool.and_eq_true, Bool.and_eq_true] at h
  obtain ⟨⟨h1, h2⟩, h3⟩ := h
  obtain ⟨d1, d2, d3⟩ := okNm_d h2
  refine ⟨?_, rfl⟩
  revert h3
  cases cl with
  | c i => exact fun h3 => cl_own (c.gl_of h1) (c.gl.cls _ _ (beq_iff_eq.mp h3)) d1
  | bool => exact fun h3 => cl_free c rfl (by decide +kernel) h1 h2 h3
  | int => exact fun h3 => cl_free c rfl (by decide +kernel) h1 h2 h3
  | str => exact fun h3 => cl_free c rfl (by decide +kernel) h1 h2 h3
  | list => exact fun h3 => cl_free c rfl (by decide +kernel) h1 h2 h3
  | tuple => exact fun h3 => cl_free c rfl (by decide +kernel) h1 h2 h3
  | dict => exact fun h3 => cl_free c rfl (by decide +kernel) h1 h2 h3
  | ve => exact fun h3 => cl_free c rfl (by decide +kernel) h1 h2 h3
theorem bin_op {o : BOp} : (match o with | .add => Operator.Add | .sub => .Sub | .mul => .Mult | .fdiv => .FloorDiv | .mod => .Mod | .pow => .Pow) = opB o := by cases o <;> rfl
def SB (C : Cd) (Wx : WX) (X : Cx) (bi : BI) (es : List Expr) (fr : List (Option SV) → List D → R (List SV)) : Prop := ∀ x p pos, x = Str.ofString (biN bi) → Gl X x → X.mg x = none → PE X (.Call (.Name x p) es [] pos) (gE C Wx (fBi bi fr))
theorem sb_of (c : Tcx T C fad G F N sc X Wx) {bi : BI} {a : Expr} {es : List Expr} {fr : List (Option SV) → List D → R (List SV)} (hb : biOk bi = true) (ha : PA X (a :: es) (gA C Wx fr)) (hs : noStars (a :: es)) : SB C Wx X bi (a :: es) fr := by
  intro x p pos hx hg hm
  have he : starEach (a :: es) X.env = (false, eval a X.env) :: starEach es X.env := star1 (hs a List.mem_cons_self)
  have hpl : (backTo pos (starEach es X.env)).any (·.1) = false := hpl_of fun e h => hs e (List.mem_cons_of_mem _ h)
  subst hx
  cases bi <;> first | cases hb | skip
  · exact se_biB (cr_len) (by rw [c.K]; exact bi_len) hg hm boot_len ha (by decide) (by decide) he hpl
  · exact se_biB call_abs bi_abs hg hm (by decide +kernel) ha (by decide) (by decide) he hpl
theorem and4 {a b c d : Bool} (h : (a && b && c && d) = true) : a = true ∧ b = true ∧ c = true ∧ d = true := by simpa [and_assoc] using h
theorem and3 {a b c : Bool} (h : (a && b && c) = true) : a = true ∧ b = true ∧ c = true := by simpa [and_assoc] using h
theorem and2 {a b : Bool} (h : (a && b) = true) : a = true ∧ b = true := by simpa using h
theorem and5 {a b c d e : Bool} (h : (a && b && c && d && e) = true) : a = true ∧ b = true ∧ c = true ∧ d = true ∧ e = true := by simpa [and_assoc] using h
theorem and6 {a b c d e f : Bool} (h : (a && b && c && d && e && f) = true) : a = true ∧ b = true ∧ c = true ∧ d = true ∧ e = true ∧ f = true := by simpa [and_assoc] using h
theorem nt {a : Bool} (h : (!a) = true) : a = false := by simpa using h
mutual
theorem mtE_ok (c : Tcx T C fad G F N sc X Wx) : ∀ (ie : IE) (e : Expr), mtE G N sc ie e = true → SE C Wx X ie e (evE T F Gm ie)
  | .cint i, e, h => by
    unfold mtE at h
    split at h <;> first | cases h | skip
    have h := of_decide_eq_true h
    subst h
    exact SE.pl c.K se_int rfl fun _ => rfl
  | .cbl i, e, h => by
    unfold mtE at h
    split at h <;> first | cases h | skip
    have h := beq_iff_eq.mp h
    subst h
    exact SE.pl c.K se_bl rfl fun _ => rfl
  | .cnon, e, h => by
    unfold mtE at h
    split at h <;> first | cases h | skip
    exact SE.pl c.K se_non rfl fun _ => rfl
  | .cstr x, e, h => by
    unfold mtE at h
    split at h <;> first | cases h | skip
    have h := of_decide_eq_true h
    subst h
    exact SE.pl c.K se_str rfl fun _ => rfl
  | .gstr _, e, h => by unfold mtE at h; cases h
  | .var i, e, h => by
    unfold mtE at h
    split at h <;> first | cases h | skip
    obtain ⟨h1, h2, h3⟩ := and3 h
    obtain ⟨d1, d2, d3⟩ := okNm_d h3
    exact SE.pl c.K (se_var T F Gm (by rw [c.hN]; exact beq_iff_eq.mp h1) (by rw [c.scope]; exact vis_of h2) d1 d2) rfl fun _ => rfl
  | .bin o a b, e, h => by
    unfold mtE at h
    split at h <;> first | cases h | skip
    obtain ⟨h1, h2, h3⟩ := and3 h
    have h1 := of_decide_eq_true h1
    exact SE.pl c.K (se_op c.K (bin_op.trans h1) (mtE_ok c a _ h2).1 (mtE_ok c b _ h3).1) rfl fun _ => rfl
  | .neg a, e, h => by
    unfold mtE at h
    split at h <;> first | cases h | skip
    exact SE.pl c.K (se_neg (mtE_ok c a _ h).1) rfl fun _ => rfl
  | .not a, e, h => by
    unfold mtE at h
    split at h <;> first | cases h | skip
    obtain ⟨h1, h2⟩ := and2 h
    have ih := mtE_ok c a _ h2
    exact SE.of (se_not c.K ih.1) (st_not (ih.2.1 h1)) rfl
  | .and a b, e, h => by
    unfold mtE at h
    split at h <;> first | cases h | skip
    obtain ⟨h1, h2, h3, h4⟩ := and4 h
    have ia := mtE_ok c a _ h3
    split at h4
    · have ib := mtE_ok c b _ h4
      exact ⟨se_and c.K ia.1 (pe_one ib.1), fun _ => (st_and (ia.2.1 h1) (pw_and1 (ib.2.1 h2))).pt, fun _ => st_and (ia.2.1 h1) (pw_and1 (ib.2.1 h2))⟩
    · obtain ⟨h5, h6⟩ := and2 h4
      have ib := mtE_ok c b _ h6
      have w := st_and (ia.2.1 h1) (ib.2.2 h5)
      exact ⟨se_and c.K ia.1 ib.1, fun _ => w.pt, fun _ => w⟩
  | .or a b, e, h => by
    unfold mtE at h
    split at h <;> first | cases h | skip
    obtain ⟨h1, h2, h3, h4⟩ := and4 h
    have ia := mtE_ok c a _ h3
    split at h4
    · have ib := mtE_ok c b _ h4
      exact ⟨se_or c.K ia.1 (pe_one ib.1), fun _ => (st_or (ia.2.1 h1) (pw_or1 (ib.2.1 h2))).pt, fun _ => st_or (ia.2.1 h1) (pw_or1 (ib.2.1 h2))⟩
    · obtain ⟨h5, h6⟩ := and2 h4
      have ib := mtE_ok c b _ h6
      have w := st_or (ia.2.1 h1) (ib.2.2 h5)
      exact ⟨se_or c.K ia.1 ib.1, fun _ => w.pt, fun _ => w⟩
  | .cmp o a b, e, h => by
    unfold mtE at h
    split at h <;> first | cases h | skip
    obtain ⟨h1, h2, h3, h4⟩ := and4 h
    have h1 := of_decide_eq_true h1
    subst h1
    have ia := (mtE_ok c a _ h3).1
    have ib := (mtE_ok c b _ h4).1
    exact SE.of (se_cmp c.K c.units (nt h2) ia ib) (st_cmp c.K c.units (nt h2) ia ib) rfl
  | .chain o o2 a b d, e, h => by
    unfold mtE at h
    split at h <;> first | cases h | skip
    obtain ⟨h1, h2, h3, h4, h5, h6⟩ := and6 h
    have h1 := of_decide_eq_true h1
    subst h1
    have h2 := of_decide_eq_true h2
    subst h2
    have ia := (mtE_ok c a _ h4).1
    have ib := (mtE_ok c b _ h5).1
    have id := (mtE_ok c d _ h6).1
    exact SE.of (se_chain c.K c.units (nt h3) ia ib id) (st_chain c.K c.units (nt h3) ia ib id) rfl
  | .isn a, e, h => by
    unfold mtE at h
    split at h <;> first | cases h | skip
    have ia := (mtE_ok c a _ h).1
    exact SE.of (se_isN ia) (st_isN ia) rfl
  | .isnn a, e, h => by
    unfold mtE at h
    split at h <;> first | cases h | skip
    have ia := (mtE_ok c a _ h).1
    exact SE.of (se_isNN ia) (st_isNN ia) rfl
  | .call f as, e, h => by
    unfold mtE at h
    split at h <;> first | cases h | skip
    rename_i x p es pos
    obtain ⟨h1, h2, h3, h4⟩ := and4 h
    obtain ⟨d1, d2, d3⟩ := okNm_d h3
    obtain ⟨k, hr, fns⟩ := c.fns
    obtain ⟨fd, ps, Fk, kp, bd⟩ := fns f ⟨x, beq_iff_eq.mp h1⟩
    have hm : X.mg x = some (.ref (fad f)) := c.gl.fn _ _ (beq_iff_eq.mp h1)
    obtain ⟨ih, ns⟩ := mtEs_ok c as es h4
    refine SE.pl c.K ?_ rfl fun _ => rfl
    cases as with
    | nil =>
      unfold mtEs at h4
      cases es with
      | nil => exact se_call0 c.tk Fk hr (c.gl_of h2) hm kp bd d1
      | cons a r => cases h4
    | cons a r =>
      cases es with
      | nil => unfold mtEs at h4; cases h4
      | cons a' r' => exact se_call c.tk Fk hr (c.gl_of h2) hm kp bd ih d1 (star1 (ns _ List.mem_cons_self)) (hpl_of fun e h => ns e (List.mem_cons_of_mem _ h))
  | .meth _ _ _, e, h => by unfold mtE at h; cases h
  | .mk _ _, e, h => by unfold mtE at h; cases h
  | .bi b as, e, h => by
    unfold mtE at h
    split at h <;> first | cases h | skip
    rename_i x p es pos
    obtain ⟨h1, h2, h3, h4, h5⟩ := and5 h
    obtain ⟨hg, hm⟩ := c.gfree h3
    obtain ⟨ih, ns⟩ := mtEs_ok c as es h5
    cases es with
    | nil => cases h4
    | cons a r => exact SE.pl c.K (sb_of c h1 ih ns x p pos (beq_iff_eq.mp h2) hg hm) rfl fun _ => rfl
  | .bm _ _ _, e, h => by unfold mtE at h; cases h
  | .fld _ _, e, h => by unfold mtE at h; cases h
  | .ix a b, e, h => by
    unfold mtE at h
    split at h <;> first | cases h | skip
    obtain ⟨h1, h2, h3⟩ := and3 h
    exact SE.pl c.K (se_ix c.K c.units (plain_ix (nt h1)) (mtE_ok c a _ h2).1 (mtE_ok c b _ h3).1) rfl fun _ => rfl
  | .sl a lo hi, e, h => by
    unfold mtE at h
    split at h <;> first | cases h | skip
    obtain ⟨h1, h2, h3⟩ := and3 h
    exact SE.pl c.K (se_sl c.K (mtE_ok c a _ h1).1 (mtEo_ok c lo _ h2) (mtEo_ok c hi _ h3)) rfl fun _ => rfl
  | .lst as, e, h => by
    unfold mtE at h
    split at h <;> first | cases h | skip
    obtain ⟨h1, h2⟩ := and2 h
    exact SE.pl c.K (se_lst (mtEs_ok c as _ h2).1 (evEs_len as) (of_decide_eq_true h1)) rfl fun _ => rfl
  | .tup as, e, h => by
    unfold mtE at h
    split at h <;> first | cases h | skip
    obtain ⟨h1, h2⟩ := and2 h
    exact SE.pl c.K (se_tup (mtEs_ok c as _ h2).1 (evEs_len as) (of_decide_eq_true h1)) rfl fun _ => rfl
  | .dct0 _, e, h => by unfold mtE at h; cases h
  | .comp _ _ _ _ _, e, h => by unfold mtE at h; cases h
  | .ife d a b, e, h => by
    unfold mtE at h
    split at h <;> first | cases h | skip
    obtain ⟨h1, h2, h3, h4⟩ := and4 h
    exact ⟨se_if ((mtE_ok c d _ h2).2.1 h1) (mtE_ok c a _ h3).1 (mtE_ok c b _ h4).1, fun z => (nomatch z), fun z => (nomatch z)⟩
  | .fst _, e, h => by unfold mtE at h; cases h
  | .isi a cs, e, h => by
    unfold mtE at h
    split at h <;> first | cases h | skip
    obtain ⟨h1, h2, h3, h4, h5⟩ := and5 h
    have hx := beq_iff_eq.mp h1
    subst hx
    obtain ⟨hg, hm⟩ := c.gfree h2
    obtain ⟨hc, sc⟩ := cl_ok c h5
    exact SE.pl c.K (se_isi c.K c.isa (mtE_ok c a _ h4).1 hc hg hm (star1 (nt h3)) (star1 sc) (hpl_of fun e h => by rw [List.mem_singleton.mp h]; exact sc)) rfl fun _ => rfl
  | .heap a, e, h => by
    unfold mtE at h
    exact ⟨se_heap (mtE_ok c a _ h).1, fun z => (nomatch z), fun z => (nomatch z)⟩
theorem mtEs_ok (c : Tcx T C fad G F N sc X Wx) : ∀ (as : IEs) (es : List Expr), mtEs G N sc as es = true → PA X es (gA C Wx (evEs T F Gm as)) ∧ noStars es
  | .nil, es, h => by
    unfold mtEs at h
    cases es with
    | nil => exact ⟨sa_nil, fun _ z => (nomatch z)⟩
    | cons a r => cases h
  | .cons a r, es, h => by
    unfold mtEs at h
    split at h <;> first | cases h | skip
    obtain ⟨h1, h2, h3⟩ := and3 h
    obtain ⟨ih, ns⟩ := mtEs_ok c r _ h3
    refine ⟨sa_cons (mtE_ok c a _ h2).1 ih (star1 (nt h1)), fun e he => ?_⟩
    rcases List.mem_cons.mp he with rfl | he
    · exact nt h1
    · exact ns e he
theorem mtEo_ok (c : Tcx T C fad G F N sc X Wx) : ∀ (a : IEo) (o : Option Expr), mtEo G N sc a o = true → PO X o (gO C Wx (evEo T F Gm a))
  | .no, o, h => by
    unfold mtEo at h
    cases o with
    | none => exact so_no
    | some e => cases h
  | .yes a, o, h => by
    unfold mtEo at h
    split at h <;> first | cases h | skip
    exact so_yes (mtE_ok c a _ h).1
end
theorem mtIt_ok (c : Tcx T C fad G F N sc X Wx) {b : Bool} {tg : Expr} : ∀ (it : It) (e : Expr), mtIt G N sc tg it e = true → PI X tg e (gIt C Wx b (evIt T F Gm b it)) ∧ ∀ x, foldedSetIterable e X.env x = pure x
  | it, e, h => by
    unfold mtIt at h
    split at h <;> first | cases h | skip
    · rename_i a x p ea pos
      obtain ⟨h1, h2, h3, h4⟩ := and4 h
      have hx := beq_iff_eq.mp h1
      subst hx
      obtain ⟨hg, hm⟩ := c.gfree h2
      exact ⟨si_rng1 hg hm (mtE_ok c a _ h4).1 (star1 (nt h3)), fun _ => rfl⟩
    · rename_i a b' x p ea eb pos
      obtain ⟨h1, h2, h3, h4, h5, h6⟩ := and6 h
      have hx := beq_iff_eq.mp h1
      subst hx
      obtain ⟨hg, hm⟩ := c.gfree h2
      have s2 : starEach [eb] X.env = [(false, eval eb X.env)] := star1 (nt h4)
      exact ⟨si_rng2 hg hm (mtE_ok c a _ h5).1 (mtE_ok c b' _ h6).1 (by rw [star1 (nt h3), s2]) s2, fun _ => rfl⟩
    · rename_i a b' x p ea eb pos
      rw [Bool.and_eq_true] at h
      obtain ⟨h, h7⟩ := h
      obtain ⟨h1, h2, h3, h4, h5, h6⟩ := and6 h
      have hx := beq_iff_eq.mp h1
      subst hx
      obtain ⟨hg, hm⟩ := c.gfree h2
      have s2 : starEach [eb] X.env = [(false, eval eb X.env)] := star1 (nt h4)
      split at h7 <;> first | cases h7 | skip
      exact ⟨si_zip c.K hg hm (mtE_ok c a _ h5).1 (mtE_ok c b' _ h6).1 (star1 (nt h3)) s2 (hpl_of fun e h => by rw [List.mem_singleton.mp h]; exact nt h4), fun _ => rfl⟩
    · rename_i a x p ea pos
      obtain ⟨h1, h2, h3, h4⟩ := and4 h
      have hx := beq_iff_eq.mp h1
      subst hx
      obtain ⟨hg, hm⟩ := c.gfree h2
      exact ⟨si_rev c.K hg hm (mtE_ok c a _ h4).1 (star1 (nt h3)), fun _ => rfl⟩
    · rename_i a x p y p2 ea pos2 pos
      obtain ⟨h1, h2, h3, h4, h5, h6⟩ := and6 h
      have hx := beq_iff_eq.mp h1
      subst hx
      have hy := beq_iff_eq.mp h3
      subst hy
      obtain ⟨hg, hm⟩ := c.gfree h2
      obtain ⟨hg2, hm2⟩ := c.gfree h4
      exact ⟨si_revrng hg hm hg2 hm2 (mtE_ok c a _ h6).1 (star1 (nt h5)) rfl, fun _ => rfl⟩
    · rename_i _ _ a
      obtain ⟨h1, h2⟩ := and2 h
      refine ⟨si_val c.K (mtE_ok c a _ h2).1, fun _ => ?_⟩
      cases e <;> first | rfl | (cases h1)
end
end SH
namespace SH
open PySem PySem.Spec PyProof.Rows L2

/-! ### statements, told from each other by the kernel -/
def isComp : Expr → Bool
  | .ListComp _ _ _ _ => true
  | .SetComp _ _ _ _ => true
  | .DictComp _ _ _ _ _ => true
  | _ => false
def isTupE : Expr → Bool
  | .Tuple _ _ _ => true
  | .List _ _ => true
  | _ => false
mutual
def mtTg (N : List Str) (sc : Scope) : Tg → Expr → Bool
  | .v i, e => (match e with
    | .Name x _ => slotN N i x && isLoc sc x
    | _ => false)
  | .t ts, e => (match e with
    | .Tuple es _ _ => mtTgs N sc ts es
    | _ => false)
def mtTgs (N : List Str) (sc : Scope) : Tgs → List Expr → Bool
  | .nil, es => es.isEmpty
  | .cons t r, es => (match es with
    | e :: es => mtTg N sc t e && mtTgs N sc r es
    | [] => false)
end
def isVarI : IE → Bool
  | .var _ => true
  | _ => false
mutual
def mtS (G : GT) (N : List Str) (sc : Scope) : IS → Stmt → Bool
  | .asg tg e, st => (match st with
    | .Assign [tgE] v _ => !isComp v && !(isTupE tgE && isTupE v) && mtTg N sc tg tgE && mtE G N sc e v
    | _ => false)
  | .asgO i e, st => (match st with
    | .Assign [tgE] v _ => !isComp v && !(isTupE tgE && isTupE v) && mtTg N sc (.v i) tgE && mtE G N sc e v
    | _ => false)
  | .aug _ _ _, _ => false
  | .setS i k v, st => (match st with
    | .Assign [.Subscript (.Name x _) ek _] ev _ => !(isComp ev || isSlice ek) && slotN N i x && isVis sc x && okNm x && mtE G N sc k ek && mtE G N sc v ev
    | _ => false)
  | .setH _ _ _, _ => false
  | .fldS _ _ _, _ => false
  | .fldH _ _ _, _ => false
  | .mutS _ _ _, _ => false
  | .mutH _ _ _, _ => false
  | .frz _, _ => false
  | .expr e, st => (match st with
    | .Expr v _ => !isComp v && mtE G N sc e v
    | _ => false)
  | .ife c a b, st => (match st with
    | .If ec as bs _ => tstI c && mtE G N sc c ec && mtSs G N sc a as && mtSs G N sc b bs
    | _ => false)
  | .for tg it body, st => (match st with
    | .For tgE ei bs [] _ => mtTg N sc tg tgE && mtIt G N sc tgE it ei && mtSs G N sc body bs
    | _ => false)
  | .while _ c body, st => (match st with
    | .While ec bs [] _ => tstI c && mtE G N sc c ec && mtSs G N sc body bs
    | _ => false)
  | .ret e, st => (match st with
    | .Return (some v) _ => mtE G N sc e v
    | _ => false)
  | .retv i, st => (match st with
    | .Return (some (.Name x _)) _ => slotN N i x && isVis sc x && okNm x
    | _ => false)
  | .retn, st => (match st with
    | .Return none _ => true
    | _ => false)
  | .raise _ _, _ => false
  | .try _ _, _ => false
  | .pass, st => (match st with
    | .Pass _ => true
    | _ => false)
  | .cont, st => (match st with
    | .Continue _ => true
    | _ => false)
def mtSs (G : GT) (N : List Str) (sc : Scope) : ISs → List Stmt → Bool
  | .nil, l => l.isEmpty
  | .cons a r, l => (match a with
    | .frz _ => mtSs G N sc r l
    | a => (match l with
      | st :: l => mtS G N sc a st && mtSs G N sc r l
      | [] => false))
end

structure Tcs (T : Tbl) (C : Cd) (fad : Nat → Addr) (G : GT) (F : Nat → List D → List D → R SV) (N : List Str) (sc : Scope) (X : Cx) (Wx : WX) : Prop where
  c : Tcx T C fad G F N sc X Wx
  po : PassesOwn (model X.prog X.w) X.A X.env X.xe

section
variable {T : Tbl} {C : Cd} {fad : Nat → Addr} {G : GT} {F : Nat → List D → List D → R SV} {Gm : Nat → Nat → List D → List D → R (List D)} {N : List Str} {sc : Scope} {X : Cx} {Wx : WX}
theorem tg_name (c : Tcx T C fad G F N sc X Wx) {i : Nat} {x : Str} {p : Pos} (h1 : slotN N i x = true) (h2 : isLoc sc x = true) : PG X (.Name x p) (gName i) := by
  have hl := loc_of h2
  exact pg_name (by rw [c.hN]; exact c.nd) (by rw [c.hN]; exact beq_iff_eq.mp h1) (by rw [c.scope]; exact hl) (by rw [c.scope]; exact c.fnl x hl)
mutual
theorem mtTg_ok (c : Tcx T C fad G F N sc X Wx) : ∀ (tg : Tg) (e : Expr), mtTg N sc tg e = true → PG X e (gTg X.K tg) ∧ isStar e = false
  | .v i, e, h => by
    unfold mtTg at h
    split at h <;> first | cases h | skip
    obtain ⟨h1, h2⟩ := and2 h
    exact ⟨tg_name c h1 h2, rfl⟩
  | .t ts, e, h => by
    unfold mtTg at h
    split at h <;> first | cases h | skip
    obtain ⟨h1, h2, h3⟩ := mtTgs_ok c ts _ h
    exact ⟨pg_tup c.calm h1 h2 h3, rfl⟩
theorem mtTgs_ok (c : Tcx T C fad G F N sc X Wx) : ∀ (ts : Tgs) (es : List Expr), mtTgs N sc ts es = true → PGs X es (gTg.gTgs X.K ts) ∧ (assignEach es X.env).length = gTg.lenTs ts ∧ (assignEach es X.env).findIdx? (·.1) = none
  | .nil, es, h => by
    unfold mtTgs at h
    cases es with
    | nil => exact ⟨pgs_nil, rfl, rfl⟩
    | cons a r => cases h
  | .cons t r, es, h => by
    unfold mtTgs at h
    split at h <;> first | cases h | skip
    rename_i e es
    obtain ⟨h1, h2⟩ := and2 h
    obtain ⟨g1, g2⟩ := mtTg_ok c t _ h1
    obtain ⟨k1, k2, k3⟩ := mtTgs_ok c r _ h2
    have ae : assignEach (e :: es) X.env = (false, assign e X.env) :: assignEach es X.env := by cases e <;> first | rfl | (cases g2)
    refine ⟨pgs_cons g1 k1 (by rw [ae]; rfl), by rw [ae, List.length_cons, k2]; rfl, ?_⟩
    rw [ae, List.findIdx?_cons]
    simp [k3]
end
theorem sw_no {v : Expr} {t : Option Expr} {l : Nat} {env : Env} (h : isComp v = false) : swapsWith v t l env = pure false := by
  cases v <;> first | rfl | (cases h)
theorem asg_sub {o i : Expr} {pos : Pos} {env : Env} (h : isSlice i = false) (v : Value) : assign (.Subscript o i pos) env v = (do
      let ov ← holding [v] (eval o env)
      let iv ← holding [v, ov] (eval i env)
      standAt pos
      holding [v, ov, iv] (setItem ov iv v)
      release [v, ov, iv] []) := by
  cases i <;> first | rfl | (cases h)
theorem sws_no {t v : Expr} {l : Nat} {env : Env} (h : isComp v = false) : swapsWithSole [t] v l env = pure false := sw_no h
theorem ss_no {tgE v : Expr} {env : Env} (h : (isTupE tgE && isTupE v) = false) : swappedStores [tgE] v env = pure none := by
  cases tgE <;> cases v <;> first | rfl | (cases h)
theorem ae_one {tgE : Expr} {env : Env} (h : isStar tgE = false) : (assignEach [tgE] env).map (·.2) = [assign tgE env] := by
  cases tgE <;> first | rfl | (cases h)
mutual
theorem mtS_ok (c : Tcs T C fad G F N sc X Wx) : ∀ (a : IS) (st : Stmt), mtS G N sc a st = true → PS X st (gS C Wx (evS T F Gm a))
  | .asg tg e, st, h => by
    unfold mtS at h
    split at h <;> first | cases h | skip
    obtain ⟨h1, h2, h3, h4⟩ := and4 h
    obtain ⟨g1, g2⟩ := mtTg_ok c.c tg _ h3
    exact ss_asg c.c.K (mtE_ok c.c e _ h4).1 g1 (sw_no (nt h1)) (ss_no (nt h2)) (ae_one g2)
  | .asgO i e, st, h => by
    unfold mtS at h
    split at h <;> first | cases h | skip
    obtain ⟨h1, h2, h3, h4⟩ := and4 h
    obtain ⟨g1, g2⟩ := mtTg_ok c.c _ _ h3
    exact ss_asgO (mtE_ok c.c e _ h4).1 g1 (sw_no (nt h1)) (ss_no (nt h2)) (ae_one g2)
  | .aug _ _ _, st, h => by unfold mtS at h; cases h
  | .setS i k v, st, h => by
    unfold mtS at h
    split at h <;> first | cases h | skip
    obtain ⟨h1, h2, h3, h4, h5, h6⟩ := and6 h
    obtain ⟨d1, d2, d3⟩ := okNm_d h4
    have h1 := nt h1
    rw [Bool.or_eq_false_iff] at h1
    exact ss_set (by have := c.c.units; omega) (pe_var (by rw [c.c.hN]; exact beq_iff_eq.mp h2) (by rw [c.c.scope]; exact vis_of h3) d1 d2) (mtE_ok c.c k _ h5).1 (mtE_ok c.c v _ h6).1 (asg_sub h1.2) (sws_no h1.1) rfl rfl
  | .setH _ _ _, st, h => by unfold mtS at h; cases h
  | .fldS _ _ _, st, h => by unfold mtS at h; cases h
  | .fldH _ _ _, st, h => by unfold mtS at h; cases h
  | .mutS _ _ _, st, h => by unfold mtS at h; cases h
  | .mutH _ _ _, st, h => by unfold mtS at h; cases h
  | .frz _, st, h => by unfold mtS at h; cases h
  | .expr e, st, h => by
    unfold mtS at h
    split at h <;> first | cases h | skip
    obtain ⟨h1, h2⟩ := and2 h
    exact ss_expr (mtE_ok c.c e _ h2).1 (sw_no (nt h1))
  | .ife d a b, st, h => by
    unfold mtS at h
    split at h <;> first | cases h | skip
    obtain ⟨h1, h2, h3, h4⟩ := and4 h
    exact ss_if ((mtE_ok c.c d _ h2).2.1 h1) (mtSs_ok c a _ h3) (mtSs_ok c b _ h4)
  | .for tg it body, st, h => by
    unfold mtS at h
    split at h <;> first | cases h | skip
    obtain ⟨h1, h2, h3⟩ := and3 h
    obtain ⟨g1, g2⟩ := mtTg_ok c.c tg _ h1
    obtain ⟨i1, i2⟩ := mtIt_ok c.c (b := true) it _ h2
    exact ss_for c.c.K c.po c.c.calm i1 g1 (mtSs_ok c body _ h3) i2
  | .while n d body, st, h => by
    unfold mtS at h
    split at h <;> first | cases h | skip
    obtain ⟨h1, h2, h3⟩ := and3 h
    exact ss_while c.po ((mtE_ok c.c d _ h2).2.1 h1) (mtSs_ok c body _ h3)
  | .ret e, st, h => by
    unfold mtS at h
    split at h <;> first | cases h | skip
    exact ss_ret (mtE_ok c.c e _ h).1
  | .retv i, st, h => by
    unfold mtS at h
    split at h <;> first | cases h | skip
    obtain ⟨h1, h2, h3⟩ := and3 h
    obtain ⟨d1, d2, d3⟩ := okNm_d h3
    exact ss_retv (pe_var (by rw [c.c.hN]; exact beq_iff_eq.mp h1) (by rw [c.c.scope]; exact vis_of h2) d1 d2)
  | .retn, st, h => by
    unfold mtS at h
    split at h <;> first | cases h | skip
    exact ss_retn
  | .raise _ _, st, h => by unfold mtS at h; cases h
  | .try _ _, st, h => by unfold mtS at h; cases h
  | .pass, st, h => by
    unfold mtS at h
    split at h <;> first | cases h | skip
    exact ss_pass
  | .cont, st, h => by
    unfold mtS at h
    split at h <;> first | cases h | skip
    exact ss_cont
theorem mtSs_ok (c : Tcs T C fad G F N sc X Wx) : ∀ (a : ISs) (l : List Stmt), mtSs G N sc a l = true → PSs X l (gS C Wx (evSs T F Gm a))
  | .nil, l, h => by
    unfold mtSs at h
    cases l with
    | nil => exact ss_nil
    | cons a r => cases h
  | .cons a r, l, h => by
    unfold mtSs at h
    split at h
    · exact ss_frz (mtSs_ok c r _ h)
    · split at h <;> first | cases h | skip
      obtain ⟨h1, h2⟩ := and2 h
      exact ss_cons (mtS_ok c a _ h1) (mtSs_ok c r _ h2)
end
/-! ### a def -/
theorem start_rel {P : Addr → Prop} {W : Wd} {H : Hp} {ds : List D} {vs : List V} {O : Nat → Addr} {f : Fn} (hn : f.ns = N.length) (h : VRs C W H ds vs) : SRs C P W H (startS f ds) (start N vs) O := by
  have hl := h.length
  have ix : ∀ (i : Nat) (o : SV), (startS f ds)[i]? = some (some o) → ∃ d, ds[i]? = some d ∧ o = .val d := fun i o e => by
    unfold startS at e
    by_cases hi : i < ds.length
    · rw [List.getElem?_append_left (by simpa using hi)] at e
      cases q : ds[i]? with
      | none => rw [List.getElem?_map, q] at e; cases e
      | some d => rw [List.getElem?_map, q] at e; cases e; exact ⟨d, rfl, rfl⟩
    · rw [List.getElem?_append_right (by simpa using hi), List.getElem?_replicate] at e
      split at e <;> cases e
  refine ⟨?_, fun i d e => ?_, fun i d e => ?_, fun i j d e q => ?_, fun i d e => ?_⟩
  · unfold startS L2.start
    simp only [List.length_append, List.length_map, List.length_replicate]
    omega
  · obtain ⟨d', h1, h2⟩ := ix i _ e
    cases h2
    obtain ⟨v, h3, h4⟩ := h.get h1
    refine ⟨v, ?_, h4⟩
    unfold L2.start
    rw [List.getElem?_append_left (by simpa using (List.getElem?_eq_some_iff.mp h3).1), List.getElem?_map, h3]
    rfl
  · obtain ⟨_, _, h2⟩ := ix i _ e
    cases h2
  · obtain ⟨_, _, h2⟩ := ix i _ q
    cases h2
  · obtain ⟨_, _, h2⟩ := ix i _ e
    cases h2
end
/-- THE KNOT: a def does what its places say, if those that it calls do -/
theorem fn_step {T : Tbl} {C : Cd} {fad : Nat → Addr} {G : GT} {N ps : List Str} {fn : Nat → Option Fn} {P : Program} {w : World} {mg : Str → Option Value} {base : Heap} {x qual : Str} {params : Arguments} {body : List Stmt} {scope : Scope} {f : Addr} {fd : FuncData} {k j : Nat} {b : Fn}
    (Fd : FunD C.K x qual params body scope [] [] f fd) (S : FnScope N ps scope) (hj : fn j = some b) (hnp : b.np = ps.length) (hns : b.ns = N.length) (hm : mtSs G N scope b.body body = true) (gl : GlOk C fad G mg) (isa : IsaOk T C)
    (fns : ∀ i, (∃ x, gFind G x = some (.fn i)) → ∃ fd ps, FnOk P w C.K mg base (L2.CX P w) k (fad i) fd ps (spM C (callN T fn k i)) ∧ PySem.W.keepIn C.K (.ref (fad i)) = true ∧ Binds C.K fd ps []) :
    FnOk P w C.K mg base (L2.CX P w) (k + 1) f fd ps (spM C (callN T fn (k + 1) j)) := by
  have call_eq : ∀ ds h, callN T fn (k + 1) j ds h = runF T (callN T fn k) (makeN T fn k) b ds h := fun ds h => by
    rw [callN, hj]
  refine Fd.ok S (fun vs H Q E h => ?_) (fun cdv A outer s H vs Q E hr h => ?_)
  · obtain ⟨P', W, ds, dh, pok, hr, vr, kn⟩ := h
    rw [call_eq] at kn
    unfold runF at kn
    split at kn
    · rename_i e
      rw [← vr.length, e, hnp]
    · exact kn.elim
  · obtain ⟨P', W, ds, dh, pok, hr', vr, kn⟩ := h
    rw [call_eq] at kn
    unfold runF at kn
    split at kn <;> first | exact kn.elim | skip
    refine ⟨gS C (fun c d _ H => E c d H) (evSs T (callN T fn k) (makeN T fn k) b.body), mtSs_ok (T := T) (fad := fad) (G := G) (N := N) (sc := scope) ⟨⟨rfl, rfl, rfl, S.nd, rfl, gl, isa, ⟨k, hr, fns⟩, takes_of rfl rfl rfl rfl, fun _ _ => .inl rfl⟩, passes_of rfl⟩ _ _ hm, P', W, startS b ds, dh, fun _ => 0, pok, hr', start_rel hns vr, ?_⟩
    cases e : evSs T (callN T fn k) (makeN T fn k) b.body (startS b ds) dh with
    | next s h =>
      rw [e] at kn
      exact fun W' σ' H' O ex hr1 sr1 => kn W' .non H' ex hr1 .non
    | ret v h =>
      rw [e] at kn
      exact fun W' v H' ex hr1 rr => kn W' v H' ex hr1 rr
    | exc c vs' s h =>
      rw [e] at kn
      exact fun W' H' d σ' O ex hr1 nd x sr => kn W' H' d ex hr1 nd x
    | cont s h => rw [e] at kn; exact kn.elim
    | bad => rw [e] at kn; exact kn.elim
theorem fn_zero {T : Tbl} {C : Cd} {fn : Nat → Option Fn} {P : Program} {w : World} {mg : Str → Option Value} {base : Heap} {f : Addr} {fd : FuncData} {ps : List Str} {j : Nat} : FnOk P w C.K mg base (L2.CX P w) 0 f fd ps (spM C (callN T fn 0 j)) := by
  have no : ∀ vs H Q E, ¬ spM C (callN T fn 0 j) vs H Q E := fun vs H Q E ⟨_, _, ds, dh, _, _, _, kn⟩ => by
    rw [callN] at kn
    exact kn
  exact ⟨fun vs H Q E h => absurd h (no vs H Q E), fun A outer s H args us vs Q E _ _ _ _ h => absurd h (no vs H Q E)⟩
end SH
namespace SH
open PySem PySem.Spec PyProof.Rows L2

/-! ### a law put together -/
structure DefI where
  id : Nat
  d : He.DefD
  N : List Str
  ps : List Str
  b : Fn
structure ClsI where
  id : Nat
  name : Str
  fields : List Str
def dFind (defs : List DefI) (i : Nat) : Option DefI := defs.find? fun D => D.id == i
def fnT (defs : List DefI) : Nat → Option Fn := fun i => (dFind defs i).map (·.b)
def fadT (defs : List DefI) (K : PySem.W.Frag) : Nat → Addr := fun i => match dFind defs i with
  | some D => He.fAd K D.d.at_
  | none => 0
def cFind (cs : List ClsI) (i : Nat) : Option ClsI := cs.find? fun c => c.id == i
def cdT (cs : List ClsI) (K : PySem.W.Frag) : Cd := ⟨K, fun i => match cFind cs i with
  | some c => He.ga K c.name
  | none => 0, fun i => match cFind cs i with
  | some c => c.fields
  | none => []⟩
def hasGlo (fa : List He.Fa) (x : Str) : Bool := fa.any fun f => match f with
  | .glo y => y == x
  | _ => false
def hasFree (fa : List He.Fa) (x : Str) : Bool := fa.any fun f => match f with
  | .free y => y == x
  | _ => false
def gChk (fa : List He.Fa) (defs : List DefI) (cs : List ClsI) (G : GT) : Bool := G.all fun p => match p.2 with
  | .fn i => hasGlo fa p.1 && (match dFind defs i with
    | some D => D.d.at_.1 == p.1 && D.d.at_.2.isNone
    | none => false)
  | .cls i => hasGlo fa p.1 && (match cFind cs i with
    | some c => c.name == p.1
    | none => false)
  | .free => hasFree fa p.1
def scChk (N ps : List Str) (sc : Scope) : Bool := decide (sc.kind = .function) && !sc.isCoroutine && !sc.isGenerator && decide N.Nodup && (N.take ps.length == ps) && ps.all (isLoc sc) && sc.names.all fun y => !decide (y.2 = .free)
def dChk (G : GT) (D : DefI) : Bool := scChk D.N D.ps D.d.scope && decide (D.b.np = D.ps.length) && decide (D.b.ns = D.N.length) && D.d.dfl.isEmpty && D.d.kwd.isEmpty && mtSs G D.N D.d.scope D.b.body D.d.body
def BindsD (D : DefI) : Prop := ∀ (kV doc pm : Value) (an : Option Addr) (cdv ct : Value) (us : List Value), us.length = D.ps.length → bindArgs (PySem.W.fnOf D.d.name D.d.qual D.d.params D.d.body D.d.scope .none kV doc pm an cdv ct) ⟨us, []⟩ = pure (D.ps.zip us)

theorem sc_ok {N ps : List Str} {sc : Scope} (h : scChk N ps sc = true) : FnScope N ps sc := by
  unfold scChk at h
  rw [Bool.and_eq_true] at h
  obtain ⟨h, h7⟩ := h
  obtain ⟨h1, h2, h3, h4, h5, h6⟩ := and6 h
  refine ⟨of_decide_eq_true h1, nt h2, nt h3, of_decide_eq_true h4, beq_iff_eq.mp h5, fun x hx => loc_of (List.all_eq_true.mp h6 x hx), fun y hy e => ?_⟩
  have := List.all_eq_true.mp h7 y hy
  rw [e] at this
  cases this
theorem gFind_mem : ∀ {G : GT} {x : Str} {g : GD}, gFind G x = some g → (x, g) ∈ G
  | [], _, _, e => by cases e
  | p :: r, x, g, e => by
    unfold gFind at e
    rw [List.lookup_cons] at e
    cases q : x == p.1 with
    | true =>
      rw [q] at e
      have e := Option.some.inj e
      rw [beq_iff_eq.mp q, ← e]
      exact List.mem_cons_self
    | false =>
      rw [q] at e
      exact List.mem_cons_of_mem _ (gFind_mem e)
theorem g_ok {fa : List He.Fa} {defs : List DefI} {cs : List ClsI} {G : GT} {K : PySem.W.Frag} {h : Heap} {mg : Str → Option Value} (KX : K.In h) (Gh : h.Ns mainGlobals mg) (hf : ∀ f ∈ fa, He.Fa.ok K f = true) (hg : gChk fa defs cs G = true) : GlOk (cdT cs K) (fadT defs K) G mg := by
  have at_ : ∀ x g, gFind G x = some g → (x, g) ∈ G := fun x g e => gFind_mem e
  have glo : ∀ x, hasGlo fa x = true → mg x = some (.ref (He.ga K x)) := fun x e => by
    unfold hasGlo at e
    obtain ⟨f, hm, hx⟩ := List.any_eq_true.mp e
    cases f with
    | glo y =>
      have := beq_iff_eq.mp hx
      subst this
      exact He.glo_ok KX Gh (hf _ hm)
    | _ => cases hx
  refine ⟨fun x i e => ?_, fun x i e => ?_, fun x e => ?_⟩
  · have := List.all_eq_true.mp hg _ (at_ x _ e)
    dsimp only at this
    obtain ⟨h1, h2⟩ := and2 this
    unfold fadT
    cases q : dFind defs i with
    | none => rw [q] at h2; cases h2
    | some D =>
      rw [q] at h2
      obtain ⟨h3, h4⟩ := and2 h2
      rw [glo x h1]
      show some (Value.ref (He.ga K x)) = some (Value.ref (He.fAd K D.d.at_))
      unfold He.fAd
      cases q2 : D.d.at_.2 with
      | none => rw [beq_iff_eq.mp h3]
      | some m => rw [q2] at h4; cases h4
  · have := List.all_eq_true.mp hg _ (at_ x _ e)
    dsimp only at this
    obtain ⟨h1, h2⟩ := and2 this
    show mg x = some (.ref (match cFind cs i with | some c => He.ga K c.name | none => 0))
    cases q : cFind cs i with
    | none => rw [q] at h2; cases h2
    | some c =>
      rw [q] at h2
      have h2 : (c.name == x) = true := h2
      rw [glo x h1]
      show _ = some (Value.ref (He.ga K c.name))
      rw [beq_iff_eq.mp h2]
  · have := List.all_eq_true.mp hg _ (at_ x _ e)
    unfold hasFree at this
    obtain ⟨f, hm, hx⟩ := List.any_eq_true.mp this
    cases f with
    | free y =>
      have := beq_iff_eq.mp hx
      subst this
      exact He.free_ok KX Gh (hf _ hm)
    | _ => cases hx
theorem dFind_some {defs : List DefI} {i : Nat} {D : DefI} (e : dFind defs i = some D) : D ∈ defs := List.mem_of_find?_eq_some e
/-- ALL DEFS keep their promises -/
theorem defs_ok {T : Tbl} {fa : List He.Fa} {defs : List DefI} {cs : List ClsI} {G : GT} {K : PySem.W.Frag} {h : Heap} {mg : Str → Option Value} {P : Program} {w : World} (KX : K.In h) (Gh : h.Ns mainGlobals mg) (c : He.SaysD fa (defs.map (·.d)) K) (isa : IsaOk T (cdT cs K))
    (hg : gChk fa defs cs G = true) (hd : defs.all (dChk G) = true) (hb : ∀ D ∈ defs, BindsD D) :
    ∀ k i D, dFind defs i = some D → ∃ fd, (∀ base, FnOk P w K mg base (L2.CX P w) k (fadT defs K i) fd D.ps (spM (cdT cs K) (callN T (fnT defs) k i))) ∧ PySem.W.keepIn K (.ref (fadT defs K i)) = true ∧ Binds K fd D.ps [] ∧
      ∀ (s : Shared) (us : List Value), us.length = D.ps.length → BindsTo s fd ⟨us, []⟩ (D.ps.zip us) := by
  have hf : ∀ f ∈ fa, He.Fa.ok K f = true := fun f hm => by
    obtain ⟨i, hi⟩ := List.mem_iff_getElem?.mp hm
    exact c.fact i hi
  have gl := g_ok KX Gh hf hg
  intro k
  induction k with
  | zero =>
    intro i D e
    have hm := dFind_some e
    obtain ⟨j, hj⟩ := List.mem_iff_getElem?.mp hm
    obtain ⟨fd, Fd⟩ := c.def_ j (d := D.d) (by rw [List.getElem?_map, hj]; rfl)
    have ck := List.all_eq_true.mp hd D hm
    unfold dChk at ck
    obtain ⟨c1, c2, c3, c4, c5, c6⟩ := and6 ck
    have ea : fadT defs K i = He.fAd K D.d.at_ := by unfold fadT; rw [e]
    have ed : D.d.dvs K = [] := by unfold He.DefD.dvs; rw [List.isEmpty_iff.mp c4]; rfl
    rw [ed] at Fd
    rw [ea]
    exact ⟨fd, fun base => fn_zero (C := cdT cs K), Fd.kp, Fd.bindsN (hb D hm), Fd.bindsA (hb D hm)⟩
  | succ k ih =>
    intro i D e
    have hm := dFind_some e
    obtain ⟨j, hj⟩ := List.mem_iff_getElem?.mp hm
    obtain ⟨fd, Fd⟩ := c.def_ j (d := D.d) (by rw [List.getElem?_map, hj]; rfl)
    have ck := List.all_eq_true.mp hd D hm
    unfold dChk at ck
    obtain ⟨c1, c2, c3, c4, c5, c6⟩ := and6 ck
    have ea : fadT defs K i = He.fAd K D.d.at_ := by unfold fadT; rw [e]
    have ed : D.d.dvs K = [] := by unfold He.DefD.dvs; rw [List.isEmpty_iff.mp c4]; rfl
    have ek : D.d.kws K = [] := by unfold He.DefD.kws; rw [List.isEmpty_iff.mp c5]; rfl
    rw [ed, ek] at Fd
    rw [ea]
    refine ⟨fd, fun base => ?_, Fd.kp, Fd.bindsN (hb D hm), Fd.bindsA (hb D hm)⟩
    refine fn_step (C := cdT cs K) (G := G) (fad := fadT defs K) Fd (sc_ok c1) (show fnT defs i = some D.b by unfold fnT; rw [e]; rfl) (of_decide_eq_true c2) (of_decide_eq_true c3) c6 gl isa fun i' hx => ?_
    obtain ⟨x, hx⟩ := hx
    have hD : ∃ D', dFind defs i' = some D' := by
      have at_ : (x, GD.fn i') ∈ G := gFind_mem hx
      have := List.all_eq_true.mp hg _ at_
      dsimp only at this
      obtain ⟨h1, h2⟩ := and2 this
      cases q : dFind defs i' with
      | none => rw [q] at h2; cases h2
      | some D' => exact ⟨D', rfl⟩
    obtain ⟨D', hD'⟩ := hD
    obtain ⟨fd', h1, h2, h3, _⟩ := ih i' D' hD'
    exact ⟨fd', D'.ps, h1 base, h2, h3⟩
/-- a promise of no exception -/
def spL (C : Cd) (m : List D → List D → R SV) : Sp := fun vs H Q _ => spM C m vs H Q fun _ _ _ => False
theorem fn_top {C : Cd} {P : Program} {w : World} {mg : Str → Option Value} {base : Heap} {k : Nat} {f : Addr} {fd : FuncData} {ps : List Str} {m : List D → List D → R SV} (F : FnOk P w C.K mg base (L2.CX P w) k f fd ps (spM C m)) : FnOk P w C.K mg base CX0 k f fd ps (spL C m) := by
  refine ⟨fun vs H Q E h => F.len vs H Q _ h, fun A outer s H args us vs Q E hr e0 hb hv h => ?_⟩
  refine codeAny_mono (F.run A outer s H args us vs Q _ hr e0 hb hv h) fun r s' hq => ?_
  cases r with
  | ok v => cases v <;> exact hq
  | error e =>
    obtain ⟨_, _, _, _, _, _, _, _, _, _, _, _, z⟩ := hq
    exact z.elim
/-- the law's own promise, from what it computes -/
theorem law_sp {C : Cd} {m : List D → List D → R SV} {dh : List D} {H : Hp} {a : Addr} {ns : List Int} (h : m [.scr ns] [] = .ok (.val (.bl true)) dh) (hO : Only H) (hS : SqL C.K H a (ns.map V.int)) {E : XK} : spL C m [.ref a] H (fun v _ => v = .bl true) E := by
  let W : Wd := ⟨fun _ => 0, 0, fun _ => False⟩
  have vr : VR C W H (.scr ns) (.ref a) := by
    rcases hS with (h1 | ⟨o, h1⟩) | h1
    · rcases hO a with h2 | ⟨o, xs, h2⟩
      · rw [h2] at h1; cases h1
      · rw [h2] at h1; cases h1
    · exact .scrF h1
    · exact .scrK h1
  refine ⟨fun _ => False, W, [.scr ns], [], ⟨fun _ z => z, fun _ z => z.elim, fun i hi => absurd hi (Nat.not_lt_zero i)⟩, ⟨rfl, fun i d e => by simp at e, fun i j hi => absurd hi (Nat.not_lt_zero i), fun i hi => absurd hi (Nat.not_lt_zero i), fun _ z => z.elim⟩, .cons vr .nil, ?_⟩
  rw [h]
  intro W' v H' _ _ rr
  cases rr
  rfl
end SH
namespace SH
open PySem PySem.Spec PyProof.Rows L2

/-! ### what the interpreter does, for the simplifier -/
section
variable {β : Type} {d x y : D} {h : List D} {k : D → List D → R β} {ks : SV → List D → R β} {c : Nat} {vs : List D}
@[simp] theorem bindO_val : (R.ok (.val d) h).bindO k = k d h := rfl
@[simp] theorem bindO_own : (R.ok (.own d) h).bindO k = k d h := rfl
@[simp] theorem bindO_obs : (R.ok (.obs d) h).bindO k = k d h := rfl
@[simp] theorem bindO_exc : (R.exc c vs h : R SV).bindO k = .exc c vs h := rfl
@[simp] theorem bindO_bad : (R.bad : R SV).bindO k = .bad := rfl
@[simp] theorem bindV_val : (R.ok (.val d) h).bindV k = k d h := rfl
@[simp] theorem bindV_own : (R.ok (.own d) h).bindV k = k d h := rfl
@[simp] theorem bindV_obs : (R.ok (.obs d) h).bindV k = .bad := rfl
@[simp] theorem bindV_exc : (R.exc c vs h : R SV).bindV k = .exc c vs h := rfl
@[simp] theorem bindV_bad : (R.bad : R SV).bindV k = .bad := rfl
@[simp] theorem bindF_val : (R.ok (.val d) h).bindF ks = ks (.val d) h := rfl
@[simp] theorem bindF_own : (R.ok (.own d) h).bindF ks = ks (.val d) h := rfl
@[simp] theorem bindF_obs : (R.ok (.obs d) h).bindF ks = ks (.obs d) h := rfl
@[simp] theorem bindF_exc : (R.exc c vs h : R SV).bindF ks = .exc c vs h := rfl
@[simp] theorem bindF_bad : (R.bad : R SV).bindF ks = .bad := rfl
@[simp] theorem bindX_t {r : R SV} : r.bindX true k = r.bindV k := rfl
@[simp] theorem bindX_f {r : R SV} : r.bindX false k = r.bindO k := rfl
@[simp] theorem vOk_eq : vOk d h = .ok (.val d) h := rfl
@[simp] theorem oOk_eq : oOk d h = .ok (.own d) h := rfl
@[simp] theorem ofB_some {b : Bool} : ofB (some b) h = .ok (.val (.bl b)) h := rfl
@[simp] theorem ofB_none : ofB none h = .bad := rfl
@[simp] theorem noX_ok {α : Type} {a : α} : (R.ok a h).noX = .ok a h := rfl
@[simp] theorem noX_bad {α : Type} : (R.bad : R α).noX = .bad := rfl
@[simp] theorem at_next {s : List (Option SV)} {g : List (Option SV) → List D → FR} : (FR.next s h).andThen g = g s h := rfl
@[simp] theorem at_ret {s : SV} {g : List (Option SV) → List D → FR} : (FR.ret s h).andThen g = .ret s h := rfl
@[simp] theorem at_cont {s : List (Option SV)} {g : List (Option SV) → List D → FR} : (FR.cont s h).andThen g = .cont s h := rfl
@[simp] theorem at_exc {s : List (Option SV)} {g : List (Option SV) → List D → FR} : (FR.exc c vs s h).andThen g = .exc c vs s h := rfl
@[simp] theorem at_bad {g : List (Option SV) → List D → FR} : FR.bad.andThen g = .bad := rfl
@[simp] theorem tu_next {s : List (Option SV)} {g : List (Option SV) → List D → FR} : (FR.next s h).turn g = g s h := rfl
@[simp] theorem tu_ret {s : SV} {g : List (Option SV) → List D → FR} : (FR.ret s h).turn g = .ret s h := rfl
@[simp] theorem tu_cont {s : List (Option SV)} {g : List (Option SV) → List D → FR} : (FR.cont s h).turn g = g s h := rfl
@[simp] theorem tu_exc {s : List (Option SV)} {g : List (Option SV) → List D → FR} : (FR.exc c vs s h).turn g = .exc c vs s h := rfl
@[simp] theorem tu_bad {g : List (Option SV) → List D → FR} : FR.bad.turn g = .bad := rfl
@[simp] theorem deref_non : deref h .non = .non := rfl
@[simp] theorem deref_bl {b : Bool} : deref h (.bl b) = .bl b := rfl
@[simp] theorem deref_int {i : Int} : deref h (.int i) = .int i := rfl
@[simp] theorem deref_str {i : Str} : deref h (.str i) = .str i := rfl
@[simp] theorem deref_tup {xs : List D} : deref h (.tup xs) = .tup xs := rfl
@[simp] theorem deref_lst {xs : List D} : deref h (.lst xs) = .lst xs := rfl
@[simp] theorem deref_scr {xs : List Int} : deref h (.scr xs) = .scr xs := rfl
@[simp] theorem deref_dK {xs : List Key} : deref h (.dK xs vs) = .dK xs vs := rfl
@[simp] theorem deref_dT {xs : List (List Key)} : deref h (.dT xs vs) = .dT xs vs := rfl
@[simp] theorem deref_ins : deref h (.ins c vs) = .ins c vs := rfl
@[simp] theorem deref_exc : deref h (.exc c vs) = .exc c vs := rfl
@[simp] theorem deref_r0 : deref (d :: h) (.ref 0) = d := rfl
@[simp] theorem deref_r1 : deref (x :: d :: h) (.ref 1) = d := rfl
@[simp] theorem deref_r2 : deref (x :: y :: d :: h) (.ref 2) = d := rfl
@[simp] theorem toOs_nil : toOs [] = some [] := rfl
@[simp] theorem toOs_val {l : List SV} : toOs (.val d :: l) = (toOs l).map (d :: ·) := by
  show (match some d, toOs l with | some d, some ds => some (d :: ds) | _, _ => none) = _
  cases toOs l <;> rfl
@[simp] theorem toOs_obs {l : List SV} : toOs (.obs d :: l) = (toOs l).map (d :: ·) := by
  show (match some d, toOs l with | some d, some ds => some (d :: ds) | _, _ => none) = _
  cases toOs l <;> rfl
@[simp] theorem toVs_nil : toVs [] = some [] := rfl
@[simp] theorem toVs_val {l : List SV} : toVs (.val d :: l) = (toVs l).map (d :: ·) := by
  show (match some d, toVs l with | some d, some ds => some (d :: ds) | _, _ => none) = _
  cases toVs l <;> rfl
@[simp] theorem svNo_nil : svNo [] = false := rfl
@[simp] theorem svNo_val {l : List SV} : svNo (.val d :: l) = svNo l := rfl
@[simp] theorem svNo_obs {l : List SV} : svNo (.obs d :: l) = true := rfl
@[simp] theorem lent_f {r : R SV} : lent false r = r := rfl
@[simp] theorem trB_bl' {b : Bool} : trB (.bl b) h = .ok b h := rfl
@[simp] theorem trB_int {i : Int} : trB (.int i) h = .ok (i != 0) h := rfl
@[simp] theorem trB_non : trB .non h = .ok false h := rfl
@[simp] theorem trB_lst {xs : List D} : trB (.lst xs) h = .ok (!xs.isEmpty) h := rfl
@[simp] theorem truD_bl {b : Bool} : truD h (.bl b) = some b := rfl
@[simp] theorem truD_int {i : Int} : truD h (.int i) = some (i != 0) := rfl
@[simp] theorem truD_non : truD h .non = some false := rfl
@[simp] theorem truD_lst {xs : List D} : truD h (.lst xs) = some (!xs.isEmpty) := rfl
@[simp] theorem isNon_non : isNon .non = true := rfl
@[simp] theorem isNon_int {i : Int} : isNon (.int i) = false := rfl
@[simp] theorem isNon_bl {i : Bool} : isNon (.bl i) = false := rfl
@[simp] theorem isNon_str {i : Str} : isNon (.str i) = false := rfl
@[simp] theorem isNon_tup {i : List D} : isNon (.tup i) = false := rfl
@[simp] theorem isNon_lst {i : List D} : isNon (.lst i) = false := rfl
@[simp] theorem isNon_ins : isNon (.ins c vs) = false := rfl
/-! numbers -/
theorem log2_lt {n k : Nat} (h : n < 2 ^ k) (hk : 0 < k) : n.log2 < k := by
  by_cases h0 : n = 0
  · subst h0
    simpa using hk
  · exact (Nat.log2_lt h0).mpr h
theorem mulOk_of {i j : Int} (hi : i.natAbs < 2 ^ 100) (hj : j.natAbs < 2 ^ 100) : mulOk i j = true := by
  unfold mulOk
  have h1 := log2_lt hi (by decide)
  have h2 := log2_lt hj (by decide)
  exact decide_eq_true (by omega)
@[simp] theorem add_int {i j : Int} : binD .add (.int i) (.int j) h = .ok (.val (.int (i + j))) h := rfl
@[simp] theorem sub_int {i j : Int} : binD .sub (.int i) (.int j) h = .ok (.val (.int (i - j))) h := rfl
theorem mul_int {i j : Int} (m : mulOk i j = true) : binD .mul (.int i) (.int j) h = .ok (.val (.int (i * j))) h := by
  show (if mulOk i j then vOk (.int (i * j)) h else R.bad) = _
  rw [if_pos m]
  rfl
theorem mod_int {i j : Int} (m : 0 < j) : binD .mod (.int i) (.int j) h = .ok (.val (.int (i % j))) h := by
  show (if 0 < j then vOk (.int (i % j)) h else R.bad) = _
  rw [if_pos m]
  rfl
theorem div_int {i j : Int} (m : 0 < j) (m2 : j < 1000000000000) : binD .fdiv (.int i) (.int j) h = .ok (.val (.int (i / j))) h := by
  show (if (0 < j && decide (j.natAbs.log2 < 9000)) = true then vOk (.int (i / j)) h else R.bad) = _
  have h1 : j.natAbs.log2 < 9000 := Nat.lt_of_lt_of_le (log2_lt (k := 100) (by omega) (by decide)) (by decide)
  rw [if_pos (by rw [Bool.and_eq_true]; exact ⟨decide_eq_true m, decide_eq_true h1⟩)]
  rfl
theorem add_tup {xs ys : List D} (m : xs.length + ys.length ≤ 16777216) (m2 : xs ≠ []) : binD .add (.tup xs) (.tup ys) h = .ok (.val (.tup (xs ++ ys))) h := by
  show (if (decide (xs.length + ys.length ≤ sizeLine) && !xs.isEmpty) = true then vOk (.tup (xs ++ ys)) h else R.bad) = _
  rw [if_pos (by rw [Bool.and_eq_true]; refine ⟨decide_eq_true ?_, by cases xs <;> first | exact absurd rfl m2 | rfl⟩; rw [sizeLine_eq]; omega)]
  rfl
theorem add_lst {xs ys : List D} (m : xs.length + ys.length ≤ 16777216) : binD .add (.lst xs) (.lst ys) h = .ok (.own (.lst (xs ++ ys))) h := by
  show (if xs.length + ys.length ≤ sizeLine then oOk (.lst (xs ++ ys)) h else R.bad) = _
  rw [if_pos (by rw [sizeLine_eq]; omega)]
  rfl
@[simp] theorem lt_int {i j : Int} : cmpD .lt (.int i) (.int j) = some (decide (i < j)) := rfl
@[simp] theorem le_int {i j : Int} : cmpD .le (.int i) (.int j) = some (decide (i ≤ j)) := rfl
@[simp] theorem gt_int {i j : Int} : cmpD .gt (.int i) (.int j) = some (decide (j < i)) := rfl
@[simp] theorem ge_int {i j : Int} : cmpD .ge (.int i) (.int j) = some (decide (j ≤ i)) := rfl
@[simp] theorem cmp_eq : cmpD .eq x y = eqD x y := rfl
@[simp] theorem cmp_ne : cmpD .ne x y = (eqD x y).map (!·) := rfl
@[simp] theorem cmp_in : cmpD .isin x y = inD x y := rfl
@[simp] theorem cmp_nin : cmpD .notin x y = (inD x y).map (!·) := rfl
@[simp] theorem eq_int {i j : Int} : eqD (.int i) (.int j) = some (decide (i = j)) := by
  show (if depthOk (.int i) (.int j) = true then some (i == j) else none) = _
  rw [if_pos (by unfold depthOk; rfl)]
  rfl
@[simp] theorem eq_bl {i j : Bool} : eqD (.bl i) (.bl j) = some (i == j) := by
  show (if depthOk (.bool i) (.bool j) = true then some (i == j) else none) = _
  rw [if_pos (by unfold depthOk; rfl)]
@[simp] theorem eq_str {i j : Str} : eqD (.str i) (.str j) = some (i == j) := by
  show (if depthOk (.str i) (.str j) = true then some (i == j) else none) = _
  rw [if_pos (by unfold depthOk; rfl)]
/-- four whole numbers in a tuple -/
@[simp] theorem eq_cell {a b c d e f g h' : Int} : eqD (.tup [.int a, .int b, .int c, .int d]) (.tup [.int e, .int f, .int g, .int h']) = some (decide (a = e ∧ b = f ∧ c = g ∧ d = h')) := by
  show (if depthOk (.tuple [.int a, .int b, .int c, .int d]) (.tuple [.int e, .int f, .int g, .int h']) = true then some (PyData.eqv (.tuple [.int a, .int b, .int c, .int d]) (.tuple [.int e, .int f, .int g, .int h'])) else none) = _
  rw [if_pos (by rfl)]
  simp [PyData.eqv, PyData.eqvAll, Bool.decide_and]
  rfl
theorem atI_nat {α : Type} {xs : List α} {i : Int} (h0 : 0 ≤ i) : atI xs i = xs[i.toNat]? := by
  unfold atI ixN
  rw [if_pos h0]
  by_cases h1 : i < (xs.length : Int)
  · rw [if_pos h1]
    rfl
  · rw [if_neg h1]
    show none = _
    rw [List.getElem?_eq_none (by omega)]
@[simp] theorem atI_0 {α : Type} {xs : List α} : atI xs 0 = xs[0]? := atI_nat (by decide)
@[simp] theorem atI_1 {α : Type} {xs : List α} : atI xs 1 = xs[1]? := atI_nat (by decide)
@[simp] theorem atI_2 {α : Type} {xs : List α} : atI xs 2 = xs[2]? := atI_nat (by decide)
@[simp] theorem atI_3 {α : Type} {xs : List α} : atI xs 3 = xs[3]? := atI_nat (by decide)
@[simp] theorem atI_4 {α : Type} {xs : List α} : atI xs 4 = xs[4]? := atI_nat (by decide)
@[simp] theorem atI_5 {α : Type} {xs : List α} : atI xs 5 = xs[5]? := atI_nat (by decide)
@[simp] theorem ix_tup {xs : List D} {i : Int} : ixD (.tup xs) (.int i) = atI xs i := rfl
@[simp] theorem ix_lst {xs : List D} {i : Int} : ixD (.lst xs) (.int i) = atI xs i := rfl
@[simp] theorem ix_scr {xs : List Int} {i : Int} : ixD (.scr xs) (.int i) = (atI xs i).map D.int := rfl
@[simp] theorem set_lst {xs : List D} {i : Int} {v : D} : setD (.lst xs) (.int i) v = (ixN xs.length i).map fun j => .lst (xs.set j v) := rfl
@[simp] theorem bi_len_scr {xs : List Int} : biD .len [.scr xs] h = .ok (.val (.int xs.length)) h := rfl
@[simp] theorem bi_len_lst {xs : List D} : biD .len [.lst xs] h = .ok (.val (.int xs.length)) h := rfl
@[simp] theorem bi_len_tup {xs : List D} : biD .len [.tup xs] h = .ok (.val (.int xs.length)) h := rfl
@[simp] theorem bi_abs_int {i : Int} : biD .abs [.int i] h = .ok (.val (.int (if i < 0 then -i else i))) h := rfl
@[simp] theorem asg_v {i : Nat} {s : List (Option SV)} : asgT (.v i) d s = if i < s.length then some (s.set i (some (.val d))) else none := by unfold asgT; rfl
@[simp] theorem asg_t {ts : Tgs} {xs : List D} {s : List (Option SV)} : asgT (.t ts) (.tup xs) s = asgTs ts xs s := by rw [asgT]
@[simp] theorem asg_nil {s : List (Option SV)} : asgTs .nil [] s = some s := by rw [asgTs]
@[simp] theorem asg_cons {t : Tg} {ts : Tgs} {xs : List D} {s : List (Option SV)} : asgTs (.cons t ts) (x :: xs) s = (asgT t x s).bind (asgTs ts xs) := by rw [asgTs]
@[simp] theorem stays_none : stays none h = true := rfl
@[simp] theorem forL_nil {f : D → List (Option SV) → List D → FR} {s : List (Option SV)} : forL none f [] s h = .next s h := rfl
@[simp] theorem forL_cons {f : D → List (Option SV) → List D → FR} {xs : List D} {s : List (Option SV)} : forL none f (x :: xs) s h = (f x s h).turn (forL none f xs) := rfl
theorem rngD_0 {n : Int} (h0 : 0 ≤ n) (h1 : n ≤ 16777216) : rngD 0 n = some ((List.range n.toNat).map fun i => .int (i : Nat)) := by
  unfold rngD
  rw [if_pos (by simp; omega)]
  simp
@[simp] theorem seqD_tup {xs : List D} : seqD (.tup xs) = some xs := rfl
@[simp] theorem seqD_lst {xs : List D} : seqD (.lst xs) = some xs := rfl
@[simp] theorem seqD_scr {xs : List Int} : seqD (.scr xs) = some (xs.map D.int) := rfl
@[simp] theorem gOf_tup {xs : List D} : gOf h (.tup xs) = none := rfl
@[simp] theorem gOf_lst {xs : List D} : gOf h (.lst xs) = none := rfl
@[simp] theorem gOf_scr {xs : List Int} : gOf h (.scr xs) = none := rfl
@[simp] theorem isD_bl {T : Tbl} {b : Bool} : isD T h (.bl b) .bool = some true := rfl
theorem cut_hi {α : Type} (xs : List α) {n : Int} (h : 0 ≤ n) : cutD xs none (some n) = xs.take n.toNat := by
  unfold cutD HT.sIx
  dsimp only
  rw [if_neg (by omega)]
  simp [List.take_eq_take_iff]
theorem cut_lo {α : Type} (xs : List α) {n : Int} (h : 0 ≤ n) : cutD xs (some n) none = xs.drop n.toNat := by
  unfold cutD HT.sIx
  dsimp only
  rw [if_neg (by omega)]
  rw [List.take_of_length_le (by simp)]
  by_cases q : n.toNat ≤ xs.length
  · rw [Nat.min_eq_left q]
  · rw [Nat.min_eq_right (by omega), List.drop_of_length_le (Nat.le_refl _), List.drop_of_length_le (by omega)]
end
end SH
set_option maxHeartbeats 0
namespace LW
open PySem PySem.Spec PyProof.Rows L2 SH
def top (i : Nat) : Stmt := PySem.Challenge.pw_stowhold_k06_near.main.body.getD i (.Pass ⟨0, 0, 0, 0⟩)
/-- near -/
def F_near : Fn := ⟨2, 2, (.cons (.ife (.or (.cmp .eq (.var 0) (.var 1)) (.or (.cmp .ne (.ix (.var 0) (.cint 0)) (.ix (.var 1) (.cint 0))) (.cmp .ne (.ix (.var 0) (.cint 2)) (.ix (.var 1) (.cint 2))))) (.cons (.ret (.cbl false)) .nil) .nil) (.cons (.ret (.and (.cmp .le (.bi .abs (.cons (.bin .sub (.ix (.var 0) (.cint 1)) (.ix (.var 1) (.cint 1))) .nil)) (.cint 1)) (.cmp .le (.bi .abs (.cons (.bin .sub (.ix (.var 0) (.cint 3)) (.ix (.var 1) (.cint 3))) .nil)) (.cint 1)))) .nil))⟩
abbrev s_near : Stmt := top 1
def D_near : DefI := ⟨0, ⟨("near", none), "near", "near", defArgs s_near, defBody s_near, defScope s_near, [], []⟩, ["one", "other"], ["one", "other"], F_near⟩
theorem b_near : BindsD D_near := fun _ _ _ _ _ _ us hl => match us, hl with | [_, _], _ => rfl
/-- _law_next -/
def F__law_next : Fn := ⟨2, 4, (.cons (.setS 1 (.cint 0) (.bin .add (.ix (.var 1) (.cint 0)) (.cint 1))) (.cons (.asg (.v 2) (.cint 0)) (.cons (.ife (.cmp .gt (.bi .len (.cons (.var 0) .nil)) (.cint 0)) (.cons (.asg (.v 2) (.ix (.var 0) (.bin .mod (.ix (.var 1) (.cint 0)) (.bi .len (.cons (.var 0) .nil))))) .nil) .nil) (.cons (.asg (.v 3) (.bin .mod (.bin .mul (.bin .add (.bin .add (.bin .mod (.var 2) (.cint 2147483647)) (.bin .mul (.bin .mul (.ix (.var 1) (.cint 0)) (.ix (.var 1) (.cint 0))) (.cint 7919))) (.cint 11)) (.cint 48271)) (.cint 2147483647))) (.cons (.ret (.bin .mod (.bin .mul (.var 3) (.var 3)) (.cint 1999999973))) .nil)))))⟩
abbrev s__law_next : Stmt := top 3
def D__law_next : DefI := ⟨1, ⟨("_law_next", none), "_law_next", "_law_next", defArgs s__law_next, defBody s__law_next, defScope s__law_next, [], []⟩, ["_law_script", "_law_at", "_law_cell_here", "_law_m"], ["_law_script", "_law_at"], F__law_next⟩
theorem b__law_next : BindsD D__law_next := fun _ _ _ _ _ _ us hl => match us, hl with | [_, _], _ => rfl
/-- _law_cell -/
def F__law_cell : Fn := ⟨2, 3, (.cons (.asg (.v 2) (.call 1 (.cons (.var 0) (.cons (.var 1) .nil)))) (.cons (.ret (.tup (.cons (.bin .fdiv (.bin .mod (.var 2) (.cint 7)) (.cint 6)) (.cons (.bin .mod (.bin .fdiv (.var 2) (.cint 7)) (.cint 5)) (.cons (.bin .fdiv (.bin .mod (.bin .fdiv (.var 2) (.cint 35)) (.cint 5)) (.cint 3)) (.cons (.bin .mod (.bin .fdiv (.var 2) (.cint 175)) (.cint 5)) .nil)))))) .nil))⟩
abbrev s__law_cell : Stmt := top 4
def D__law_cell : DefI := ⟨2, ⟨("_law_cell", none), "_law_cell", "_law_cell", defArgs s__law_cell, defBody s__law_cell, defScope s__law_cell, [], []⟩, ["_law_script", "_law_at", "_law_m"], ["_law_script", "_law_at"], F__law_cell⟩
theorem b__law_cell : BindsD D__law_cell := fun _ _ _ _ _ _ us hl => match us, hl with | [_, _], _ => rfl
def L_law_0 : ISs := (.cons (.ife (.or (.not (.isi (.var 6) [.bool])) (.cmp .ne (.var 6) (.var 5))) (.cons (.ret (.cbl false)) .nil) .nil) .nil)
def L_law_1 : ISs := (.cons (.asg (.v 3) (.call 2 (.cons (.var 0) (.cons (.var 1) .nil)))) (.cons (.asg (.v 4) (.call 2 (.cons (.var 0) (.cons (.var 1) .nil)))) (.cons (.ife (.cmp .eq (.bin .mod (.var 2) (.cint 4)) (.cint 3)) (.cons (.asg (.v 4) (.bin .add (.sl (.var 3) .no (.yes (.cint 3))) (.tup (.cons (.bin .add (.ix (.var 3) (.cint 3)) (.ix (.lst (.cons (.cint 0) (.cons (.cint 1) .nil))) (.bin .fdiv (.bin .mod (.var 2) (.cint 8)) (.cint 4)))) .nil)))) .nil) .nil) (.cons (.asg (.v 5) (.and (.cmp .ne (.var 3) (.var 4)) (.and (.cmp .eq (.ix (.var 3) (.cint 0)) (.ix (.var 4) (.cint 0))) (.cmp .eq (.ix (.var 3) (.cint 2)) (.ix (.var 4) (.cint 2)))))) (.cons (.asg (.v 5) (.and (.var 5) (.and (.cmp .le (.bi .abs (.cons (.bin .sub (.ix (.var 3) (.cint 1)) (.ix (.var 4) (.cint 1))) .nil)) (.cint 1)) (.cmp .le (.bi .abs (.cons (.bin .sub (.ix (.var 3) (.cint 3)) (.ix (.var 4) (.cint 3))) .nil)) (.cint 1))))) (.cons (.for (.v 6) (.val (.tup (.cons (.call 0 (.cons (.var 3) (.cons (.var 4) .nil))) (.cons (.call 0 (.cons (.var 4) (.cons (.var 3) .nil))) .nil)))) L_law_0) .nil))))))
/-- law -/
def F_law : Fn := ⟨1, 7, (.cons (.asg (.v 1) (.heap (.lst (.cons (.cint 0) .nil)))) (.cons (.for (.v 2) (.rng1 (.bin .add (.cint 4) (.bin .fdiv (.bi .len (.cons (.sl (.var 0) .no (.yes (.cint 72))) .nil)) (.cint 2)))) L_law_1) (.cons (.ret (.cbl true)) .nil)))⟩
abbrev s_law : Stmt := top 5
def D_law : DefI := ⟨3, ⟨("law", none), "law", "law", defArgs s_law, defBody s_law, defScope s_law, [], []⟩, ["_law_script", "_law_at", "_law_k", "_law_one", "_law_other", "_law_due", "_law_found"], ["_law_script"], F_law⟩
theorem b_law : BindsD D_law := fun _ _ _ _ _ _ us hl => match us, hl with | [_], _ => rfl
def defs : List DefI := [D_near, D__law_next, D__law_cell, D_law]
def cs : List ClsI := []
def G : GT := [("near", .fn 0), ("_law_next", .fn 1), ("_law_cell", .fn 2), ("law", .fn 3), ("range", .free), ("len", .free), ("abs", .free), ("isinstance", .free), ("bool", .free)]
def fa : List He.Fa := [.glo "near", .glo "_law_next", .glo "_law_cell", .glo "law", .free "range", .free "len", .free "abs", .free "isinstance", .free "bool"]
abbrev hk : PySem.W.Hook := He.hookD 5 fa (defs.map (·.d))
abbrev Rw : PySem.W.OpenRow := PySem.W.OpenLaw.row PySem.Challenge.rw_stowhold_k06_near
def ob (s : PySem.W.SharedT) : He.AlD := He.obsDG 5 fa (defs.map (·.d)) (HandSHeadRun.getT s)
theorem ob_eq (s : PySem.W.SharedT) : ob s = hk.obs s.abs := He.obsDG_eq (HandSHeadRun.getT_eq s)
def names : List PySem.Str := ["near", "_law_next", "_law_cell"]
theorem run (w : World) : HandSHeadRun.RunEq Rw (PySem.W.view Rw.prog [5]) hk ob 1000 names w := by
  intro os
  kernel_rfl
theorem defs_b : ∀ D ∈ defs, BindsD D := by
  intro D h
  simp only [defs, List.mem_cons, List.not_mem_nil, or_false] at h
  rcases h with rfl | rfl | rfl | rfl
  · exact b_near
  · exact b__law_next
  · exact b__law_cell
  · exact b_law
theorem defs_d : defs.all (dChk G) = true := by decide +kernel
theorem defs_g : gChk fa defs cs G = true := by decide +kernel
def T : Tbl := ⟨fun _ => Str.empty, fun _ _ => none, fun _ => none, fun _ _ => none, fun _ _ => none⟩
theorem isa (K : PySem.W.Frag) : IsaOk T (cdT cs K) := ⟨fun k c b e => (nomatch e)⟩
abbrev fn : Nat → Option Fn := fnT defs
end LW
namespace LW
open PySem SH
theorem fn_0 : fn 0 = some F_near := rfl
theorem fn_1 : fn 1 = some F__law_next := rfl
theorem fn_2 : fn 2 = some F__law_cell := rfl
theorem fn_3 : fn 3 = some F_law := rfl
def ncell (ns : List Int) (c : Int) : Int := (ns[(c % (ns.length : Int)).toNat]?).getD 0
def nm (ns : List Int) (c : Int) : Int := (ncell ns c % 2147483647 + c * c * 7919 + 11) * 48271 % 2147483647
def nx (ns : List Int) (c : Int) : Int := nm ns c * nm ns c % 1999999973
theorem next_ok (ns : List Int) (c : Int) (n : Nat) (h0 : 0 ≤ c) (h1 : c < 1000000) (hn : ns.length ≤ 1000) : callN T fn (n + 1) 1 [.scr ns, .ref 0] [.lst [.int c]] = .ok (.val (.int (nx ns (c + 1)))) [.lst [.int (c + 1)]] := by
  have b1 : (c + 1) * (c + 1) ≤ 1000000 * 1000000 := Int.mul_le_mul (by omega) (by omega) (by omega) (by omega)
  have b0 : 0 ≤ (c + 1) * (c + 1) := Int.mul_nonneg (by omega) (by omega)
  have e1 : mulOk (c + 1) (c + 1) = true := mulOk_of (by omega) (by omega)
  have e2 : mulOk ((c + 1) * (c + 1)) 7919 = true := mulOk_of (by omega) (by omega)
  have b2 := Int.emod_nonneg (ncell ns (c + 1)) (show (2147483647 : Int) ≠ 0 by decide)
  have b3 := Int.emod_lt_of_pos (ncell ns (c + 1)) (show (0 : Int) < 2147483647 by decide)
  have e3 : mulOk (ncell ns (c + 1) % 2147483647 + (c + 1) * (c + 1) * 7919 + 11) 48271 = true := mulOk_of (by omega) (by omega)
  have b4 : 0 ≤ nm ns (c + 1) := Int.emod_nonneg _ (by decide)
  have b5 : nm ns (c + 1) < 2147483647 := Int.emod_lt_of_pos _ (by decide)
  have e4 : mulOk (nm ns (c + 1)) (nm ns (c + 1)) = true := mulOk_of (by omega) (by omega)
  unfold nm at e4
  rw [callN, fn_1]
  by_cases hz : 0 < ns.length
  · have hz' : (0 : Int) < ns.length := by omega
    have b6 := Int.emod_nonneg (c + 1) (show (ns.length : Int) ≠ 0 by omega)
    have b7 := Int.emod_lt_of_pos (c + 1) (show (0 : Int) < ns.length by omega)
    have ha : L2.atI ns ((c + 1) % (ns.length : Int)) = some (ncell ns (c + 1)) := by
      rw [atI_nat b6]
      unfold ncell
      rw [List.getElem?_eq_getElem (by omega)]
      rfl
    simp [runF, F__law_next, startS, evSs, evS, evE, evEs, canPut, SH.putAt, L2.ixN, hz, hz', mod_int, mul_int, ha, e1, e2, e3, e4]
    rfl
  · have hc : ncell ns (c + 1) = 0 := by
      unfold ncell
      rw [List.getElem?_eq_none (by omega)]
      rfl
    rw [hc] at e3 e4
    have h5 : (0 : Int) % 2147483647 = 0 := by decide
    rw [h5] at e3 e4
    simp only [Int.zero_add] at e3 e4
    simp [runF, F__law_next, startS, evSs, evS, evE, evEs, canPut, SH.putAt, L2.ixN, hz, mod_int, mul_int, e1, e2, e3, e4]
    unfold nx nm
    rw [hc, h5]
    simp only [Int.zero_add]
def cl (m : Int) : D := .tup [.int (m % 7 / 6), .int (m / 7 % 5), .int (m / 35 % 5 / 3), .int (m / 175 % 5)]
theorem cell_ok (ns : List Int) (c : Int) (n : Nat) (h0 : 0 ≤ c) (h1 : c < 1000000) (hn : ns.length ≤ 1000) : callN T fn (n + 2) 2 [.scr ns, .ref 0] [.lst [.int c]] = .ok (.val (cl (nx ns (c + 1)))) [.lst [.int (c + 1)]] := by
  rw [callN, fn_2]
  simp [runF, F__law_cell, startS, evSs, evS, evE, evEs, mod_int, div_int, next_ok ns c n h0 h1 hn, cl]
def ab (i : Int) : Int := if i < 0 then -i else i
def nr (a b c d e f g h : Int) : Bool := decide (¬ (a = e ∧ b = f ∧ c = g ∧ d = h) ∧ a = e ∧ c = g ∧ ab (b - f) ≤ 1 ∧ ab (d - h) ≤ 1)
theorem near_ok (a b c d e f g h : Int) (hp : List D) (n : Nat) : callN T fn (n + 1) 0 [.tup [.int a, .int b, .int c, .int d], .tup [.int e, .int f, .int g, .int h]] hp = .ok (.val (.bl (nr a b c d e f g h))) hp := by
  rw [callN, fn_0]
  unfold nr ab
  by_cases p2 : a = e
  · by_cases p3 : c = g
    · by_cases p4 : b = f
      · by_cases p5 : d = h
        · simp [runF, F_near, startS, evSs, evS, evE, evEs, p2, p3, p4, p5]
        · by_cases q5 : (if d - h < 0 then -(d - h) else d - h) ≤ 1
          · simp [runF, F_near, startS, evSs, evS, evE, evEs, p2, p3, p4, p5, q5]
          · simp [runF, F_near, startS, evSs, evS, evE, evEs, p2, p3, p4, p5, q5]
      · by_cases q4 : (if b - f < 0 then -(b - f) else b - f) ≤ 1
        · by_cases q5 : (if d - h < 0 then -(d - h) else d - h) ≤ 1
          · simp [runF, F_near, startS, evSs, evS, evE, evEs, p2, p3, p4, q4, q5]
          · simp [runF, F_near, startS, evSs, evS, evE, evEs, p2, p3, p4, q4, q5]
        · simp [runF, F_near, startS, evSs, evS, evE, evEs, p2, p3, p4, q4]
    · simp [runF, F_near, startS, evSs, evS, evE, evEs, p2, p3]
  · simp [runF, F_near, startS, evSs, evS, evE, evEs, p2]
theorem nr_sym (a b c d e f g h : Int) : nr e f g h a b c d = nr a b c d e f g h := by
  unfold nr ab
  apply decide_eq_decide.mpr
  constructor
  · rintro ⟨h1, h2, h3, h4, h5⟩
    refine ⟨fun ⟨k1, k2, k3, k4⟩ => h1 ⟨k1.symm, k2.symm, k3.symm, k4.symm⟩, h2.symm, h3.symm, ?_, ?_⟩
    · split <;> split at h4 <;> omega
    · split <;> split at h5 <;> omega
  · rintro ⟨h1, h2, h3, h4, h5⟩
    refine ⟨fun ⟨k1, k2, k3, k4⟩ => h1 ⟨k1.symm, k2.symm, k3.symm, k4.symm⟩, h2.symm, h3.symm, ?_, ?_⟩
    · split <;> split at h4 <;> omega
    · split <;> split at h5 <;> omega
def bt : ISs := match L_law_1 with
  | .cons _ (.cons _ (.cons _ b)) => b
  | _ => .nil
theorem tail_ok (n : Nat) (h5 h6 s0 s1 s2 : Option SV) (a b c d e f g h : Int) (hp : List D) : ∃ t5 t6, evSs T (callN T fn (n + 2)) (makeN T fn (n + 2)) bt [s0, s1, s2, some (.val (.tup [.int a, .int b, .int c, .int d])), some (.val (.tup [.int e, .int f, .int g, .int h])), h5, h6] hp =
    .next [s0, s1, s2, some (.val (.tup [.int a, .int b, .int c, .int d])), some (.val (.tup [.int e, .int f, .int g, .int h])), t5, t6] hp := by
  have k1 : callN T fn (n + 2) 0 _ _ = _ := near_ok a b c d e f g h hp (n + 1)
  have k2 : callN T fn (n + 2) 0 _ _ = _ := near_ok e f g h a b c d hp (n + 1)
  rw [nr_sym] at k2
  by_cases p2 : a = e
  · subst p2
    by_cases p3 : c = g
    · subst p3
      by_cases p4 : b = f
      · subst p4
        by_cases p5 : d = h
        · subst p5
          have hv : nr a b c d a b c d = false := by simp [nr]
          rw [hv] at k1 k2
          simp [bt, L_law_0, L_law_1, evSs, evS, evE, evEs, evIt, fTurn, k1, k2]
        · by_cases q5 : (if d - h < 0 then -(d - h) else d - h) ≤ 1
          · have hv : nr a b c d a b c h = true := by simp [nr, ab, p5, q5]
            rw [hv] at k1 k2
            simp [bt, L_law_0, L_law_1, evSs, evS, evE, evEs, evIt, fTurn, k1, k2, p5, q5]
          · have hv : nr a b c d a b c h = false := by simp [nr, ab, p5, q5]
            rw [hv] at k1 k2
            simp [bt, L_law_0, L_law_1, evSs, evS, evE, evEs, evIt, fTurn, k1, k2, p5, q5]
      · by_cases q4 : (if b - f < 0 then -(b - f) else b - f) ≤ 1
        · by_cases q5 : (if d - h < 0 then -(d - h) else d - h) ≤ 1
          · have hv : nr a b c d a f c h = true := by simp [nr, ab, p4, q4, q5]
            rw [hv] at k1 k2
            simp [bt, L_law_0, L_law_1, evSs, evS, evE, evEs, evIt, fTurn, k1, k2, p4, q4, q5]
          · have hv : nr a b c d a f c h = false := by simp [nr, ab, p4, q4, q5]
            rw [hv] at k1 k2
            simp [bt, L_law_0, L_law_1, evSs, evS, evE, evEs, evIt, fTurn, k1, k2, p4, q4, q5]
        · have hv : nr a b c d a f c h = false := by simp [nr, ab, p4, q4]
          rw [hv] at k1 k2
          simp [bt, L_law_0, L_law_1, evSs, evS, evE, evEs, evIt, fTurn, k1, k2, p4, q4]
    · have hv : nr a b c d a f g h = false := by simp [nr, p3]
      rw [hv] at k1 k2
      simp [bt, L_law_0, L_law_1, evSs, evS, evE, evEs, evIt, fTurn, k1, k2, p3]
  · have hv : nr a b c d e f g h = false := by simp [nr, p2]
    rw [hv] at k1 k2
    simp [bt, L_law_0, L_law_1, evSs, evS, evE, evEs, evIt, fTurn, k1, k2, p2]

theorem turn_ok (ns : List Int) (c k : Int) (n : Nat) (s2 s3 s4 s5 s6 : Option SV) (h0 : 0 ≤ c) (h1 : c < 999990) (hn : ns.length ≤ 1000) (hk : 0 ≤ k) : ∃ t2 t3 t4 t5 t6, fTurn (.v 2) (evSs T (callN T fn (n + 2)) (makeN T fn (n + 2)) L_law_1) (.int k) [some (.val (.scr ns)), some (.val (.ref 0)), s2, s3, s4, s5, s6] [.lst [.int c]] =
    .next [some (.val (.scr ns)), some (.val (.ref 0)), t2, t3, t4, t5, t6] [.lst [.int (c + 2)]] := by
  have e1 := cell_ok ns c n h0 (by omega) hn
  have e2 := cell_ok ns (c + 1) n (by omega) (by omega) hn
  have e3 : c + 1 + 1 = c + 2 := by omega
  rw [e3] at e2
  unfold cl at e1 e2
  generalize nx ns (c + 1) = m1 at e1
  generalize nx ns (c + 2) = m2 at e2
  generalize m1 % 7 / 6 = a at e1
  generalize m1 / 7 % 5 = b at e1
  generalize m1 / 35 % 5 / 3 = c' at e1
  generalize m1 / 175 % 5 = d at e1
  generalize m2 % 7 / 6 = e at e2
  generalize m2 / 7 % 5 = f at e2
  generalize m2 / 35 % 5 / 3 = g at e2
  generalize m2 / 175 % 5 = h at e2
  have hb : L_law_1 = .cons (.asg (.v 3) (.call 2 (.cons (.var 0) (.cons (.var 1) .nil)))) (.cons (.asg (.v 4) (.call 2 (.cons (.var 0) (.cons (.var 1) .nil)))) (.cons (match L_law_1 with
    | .cons _ (.cons _ (.cons x _)) => x
    | _ => .pass) bt)) := rfl
  rw [hb]
  by_cases hk3 : k % 4 = 3
  · have h8 : k % 8 / 4 = 0 ∨ k % 8 / 4 = 1 := by omega
    have hcut : cutD [D.int a, D.int b, D.int c', D.int d] none (some 3) = [D.int a, D.int b, D.int c'] := cut_hi _ (by decide)
    rcases h8 with h8 | h8
    · obtain ⟨t5, t6, ht⟩ := tail_ok n s5 s6 (some (.val (.scr ns))) (some (.val (.ref 0))) (some (.val (.int k))) a b c' d a b c' (d + 0) [.lst [.int (c + 2)]]
      rw [Int.add_zero] at ht
      refine ⟨some (.val (.int k)), some (.val (.tup [.int a, .int b, .int c', .int d])), some (.val (.tup [.int a, .int b, .int c', .int d])), t5, t6, ?_⟩
      simp [L_law_0, L_law_1, evSs, evS, evE, evEs, evEo, fTurn, e1, e2, mod_int, div_int, hk3, h8, hcut, add_tup, ht]
    · obtain ⟨t5, t6, ht⟩ := tail_ok n s5 s6 (some (.val (.scr ns))) (some (.val (.ref 0))) (some (.val (.int k))) a b c' d a b c' (d + 1) [.lst [.int (c + 2)]]
      refine ⟨some (.val (.int k)), some (.val (.tup [.int a, .int b, .int c', .int d])), some (.val (.tup [.int a, .int b, .int c', .int (d + 1)])), t5, t6, ?_⟩
      simp [L_law_0, L_law_1, evSs, evS, evE, evEs, evEo, fTurn, e1, e2, mod_int, div_int, hk3, h8, hcut, add_tup, ht]
  · obtain ⟨t5, t6, ht⟩ := tail_ok n s5 s6 (some (.val (.scr ns))) (some (.val (.ref 0))) (some (.val (.int k))) a b c' d e f g h [.lst [.int (c + 2)]]
    refine ⟨some (.val (.int k)), some (.val (.tup [.int a, .int b, .int c', .int d])), some (.val (.tup [.int e, .int f, .int g, .int h])), t5, t6, ?_⟩
    simp [L_law_0, L_law_1, evSs, evS, evE, evEs, fTurn, e1, e2, mod_int, hk3, ht]
theorem loop_ok (ns : List Int) (n : Nat) (hn : ns.length ≤ 1000) : ∀ (ks : List Int) (c : Int) (s2 s3 s4 s5 s6 : Option SV), (∀ k ∈ ks, 0 ≤ k) → 0 ≤ c → c + 2 * ks.length < 999990 → ∃ t2 t3 t4 t5 t6 dh, forL none (fTurn (.v 2) (evSs T (callN T fn (n + 2)) (makeN T fn (n + 2)) L_law_1)) (ks.map D.int) [some (.val (.scr ns)), some (.val (.ref 0)), s2, s3, s4, s5, s6] [.lst [.int c]] =
    .next [some (.val (.scr ns)), some (.val (.ref 0)), t2, t3, t4, t5, t6] dh
  | [], c, s2, s3, s4, s5, s6, _, _, _ => ⟨s2, s3, s4, s5, s6, _, rfl⟩
  | k :: ks, c, s2, s3, s4, s5, s6, hk, h0, h1 => by
    simp only [List.length_cons] at h1
    obtain ⟨t2, t3, t4, t5, t6, ht⟩ := turn_ok ns c k n s2 s3 s4 s5 s6 h0 (by omega) hn (hk k List.mem_cons_self)
    obtain ⟨u2, u3, u4, u5, u6, dh, hu⟩ := loop_ok ns n hn ks (c + 2) t2 t3 t4 t5 t6 (fun x hx => hk x (List.mem_cons_of_mem _ hx)) (by omega) (by omega)
    refine ⟨u2, u3, u4, u5, u6, dh, ?_⟩
    rw [List.map_cons, forL_cons, ht, tu_next]
    exact hu
theorem law_data (ns : List Int) (n : Nat) (hn : ns.length ≤ 63) : ∃ dh, callN T fn (n + 3) 3 [.scr ns] [] = .ok (.val (.bl true)) dh := by
  have hcut : cutD ns none (some 72) = ns := by rw [cut_hi _ (by decide)]; exact List.take_of_length_le (by omega)
  have hr := rngD_0 (n := 4 + (ns.length : Int) / 2) (by omega) (by omega)
  have hr2 : ((List.range (4 + (ns.length : Int) / 2).toNat).map fun i => D.int (i : Nat)) = ((List.range (4 + (ns.length : Int) / 2).toNat).map fun i => ((i : Nat) : Int)).map D.int := by
    rw [List.map_map]
    rfl
  rw [hr2] at hr
  obtain ⟨t2, t3, t4, t5, t6, dh, ht⟩ := loop_ok ns n (by omega) ((List.range (4 + (ns.length : Int) / 2).toNat).map fun i => ((i : Nat) : Int)) 0 none none none none none (fun k hk => by
    obtain ⟨i, _, rfl⟩ := List.mem_map.mp hk
    omega) (by omega) (by simp only [List.length_map, List.length_range]; omega)
  refine ⟨dh, ?_⟩
  rw [callN, fn_3]
  generalize hG : ((List.range (4 + (ns.length : Int) / 2).toNat).map fun i => ((i : Nat) : Int)).map D.int = L at hr ht
  simp [runF, F_law, evSs, evS, evE, evEs, evEo, evIt, startS, hcut, div_int, hr, ht]
end LW
namespace LW
abbrev most : Nat := 63
abbrev depth : Nat := 3
theorem law_end (ns : List Int) (hn : ns.length ≤ most) : ∃ dh, SH.callN T fn depth 3 [.scr ns] [] = .ok (.val (.bl true)) dh := law_data ns 0 hn
end LW
namespace LW
open PySem PySem.Spec PyProof.Rows L2 SH
theorem facts {P : Program} {w : World} {K : PySem.W.Frag} {h : Heap} {mg : Str → Option Value} {f : Addr} (X : K.In h) (Gh : h.Ns mainGlobals mg) (hfa : mg ("law" : Str) = some (.ref f)) (c : He.SaysD fa (defs.map (·.d)) K) (k : Nat) :
    ∃ fd : FuncData, (∀ (s : Shared) (v : Value), BindsTo s fd ⟨[v], []⟩ [("_law_script", v)]) ∧ ∀ base : Heap, FnOk P w K mg base CX0 k f fd ["_law_script"] (spL (cdT cs K) (callN T fn k 3)) := by
  obtain ⟨fd, F, kp, bd, ba⟩ := defs_ok (P := P) (w := w) X Gh c (isa K) defs_g defs_d defs_b k 3 D_law rfl
  have hf : ∀ f ∈ fa, He.Fa.ok K f = true := fun f hm => by
    obtain ⟨i, hi⟩ := List.mem_iff_getElem?.mp hm
    exact c.fact i hi
  have e := hfa.symm.trans ((g_ok X Gh hf defs_g).fn "law" 3 (by decide +kernel))
  have e2 : f = fadT defs K 3 := by injection e with e; injection e
  refine ⟨fd, fun s v => ba s [v] rfl, fun base => ?_⟩
  rw [e2]
  exact fn_top (C := cdT cs K) (F base)
end LW
open PySem PySem.W PySem.Calls PyProof.Rows
theorem PySem.Challenge.cw_stowhold_k06_near_holds : PySem.Challenge.rw_stowhold_k06_near.Holds := by
  w_on; o_law
  refine HandSHeadRun.head_any (r := OpenLaw.row PySem.Challenge.rw_stowhold_k06_near) (q := view (OpenLaw.row PySem.Challenge.rw_stowhold_k06_near).prog [5]) (H := LW.hk) (ob := LW.ob) (M := 1000) (loose := LW.names) (d := HandSHeadRun.topDef (OpenLaw.row PySem.Challenge.rw_stowhold_k06_near).prog 5) (kwd := []) LW.ob_eq
    (by kernel_rfl) (fun s => by kernel_rfl) LW.run (by kernel_rfl) (by kernel_rfl) (by kernel_rfl) (by rfl) (by first | assumption | decide +kernel) (by decide +kernel) ⟨rfl, rfl, rfl, rfl, rfl, by decide +kernel⟩ ?hw ?hc
  case hw => w_witness2
  case hc =>
    refine L2.walk_ofE (l := PySem.Challenge.rw_stowhold_k06_near) (n := LW.most) (k := LW.depth) (x := "_law_script") (CX := L2.CX0) rfl (by decide) (by kernel_rfl) ⟨rfl, by decide, by decide⟩ ?F (fun _ _ _ _ z => z)
    intro w mg fa h Y G hmg0
    obtain ⟨K, KX, c⟩ := Y
    have hmg : mg ("law" : PySem.Str) = some (.ref fa) := by
      have e : (HandSHeadRun.topDef (OpenLaw.row PySem.Challenge.rw_stowhold_k06_near).prog 5).name = ("law" : PySem.Str) := by kernel_rfl
      rw [← e]
      exact hmg0
    obtain ⟨fd, hb, hF⟩ := LW.facts (P := (PySem.Challenge.rw_stowhold_k06_near).prog) (w := w) KX G hmg c LW.depth
    refine ⟨K, fd, _, KX, hb, fun H a ns hl hO hS => ?_, fun base _ _ => hF base⟩
    obtain ⟨dh, hd⟩ := LW.law_end ns hl
    exact SH.law_sp hd hO hS
