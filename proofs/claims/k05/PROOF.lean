import PyProof.Rows.All
import Wide.All
import OpenK.AllK
import Wide.FinOn
import KE.KStateDown
import HandS.ForMost
import HandS.ForExc
import HandS.More
import HandS.Defaults
import HandS.Head0
import HandS.Head1
import HandS.Head2
import HandS.HeadEnd
import HandS.HeadHook1
import HandS.HeadHook2
import HandS.HeadHook4
import HandS.Walk
import HandS.Zip
import HandS.CallSlots
import HandS.OwnEq
import HandS.Ends
import HandS.CallRecv
import HandS.HeadWalk
import HandS.ListEq
import HandS.DeepEq
import HandS.Wide
import HandS.TupAny
import HandS.IsInst
import HandS.Conv
import HandS.FStr
import HandS.RaiseMore
import HandS.Text
import KE.KCallOwn
import HandS.ExcInit
import HandS.ExcIs
import HandS.ExcField
import HandS.TryOnly
import HandS.Style
import KE.KSuper
import KE.KExcSuper
import PySem.Challenge.RW_contrabooks_k05_histories_refused
set_option Elab.async false
set_option linter.all false
set_option maxRecDepth 100000
set_option maxHeartbeats 8000000
/-! DL0: the data layer: data, what represents it, slots, steps, the canonical reading. -/
namespace DL
open PySem PySem.Spec PyProof.Rows L2

inductive D where
  | non | bl (b : Bool) | int (i : Int) | str (s : Str)
  | tup (ds : List D) | lst (ds : List D)
  /-- a list from outside (the script), only read -/
  | rol (ds : List D)
  | obj (c : Str) (fs : List (Str × D))

/-! ### what represents it -/
mutual
inductive Rep (K : PySem.W.Frag) (H : Hp) : V → D → Prop
  | non : Rep K H .non .non
  | bl {b : Bool} : Rep K H (.bl b) (.bl b)
  | int {i : Int} : Rep K H (.int i) (.int i)
  | str {s : Str} : Rep K H (.str s) (.str s)
  | tup {a : Addr} {vs : List V} {ds : List D} : SqT K H a vs → Reps K H vs ds → Rep K H (.ref a) (.tup ds)
  | lst {a : Addr} {vs : List V} {ds : List D} : H a = some (.lst vs) → Reps K H vs ds → Rep K H (.ref a) (.lst ds)
  | rol {a : Addr} {vs : List V} {ds : List D} : SqL K H a vs → Reps K H vs ds → Rep K H (.ref a) (.rol ds)
  | obj {a dx : Addr} {c : Str} {fs : List (Str × V)} {ds : List (Str × D)} : H a = some (.ins (He.ga K c) dx fs) → RepF K H fs ds → Rep K H (.ref a) (.obj c ds)
inductive Reps (K : PySem.W.Frag) (H : Hp) : List V → List D → Prop
  | nil : Reps K H [] []
  | cons {v : V} {d : D} {vs : List V} {ds : List D} : Rep K H v d → Reps K H vs ds → Reps K H (v :: vs) (d :: ds)
inductive RepF (K : PySem.W.Frag) (H : Hp) : List (Str × V) → List (Str × D) → Prop
  | nil : RepF K H [] []
  | cons {f : Str} {v : V} {d : D} {vs : List (Str × V)} {ds : List (Str × D)} : Rep K H v d → RepF K H vs ds → RepF K H ((f, v) :: vs) ((f, d) :: ds)
end

section
variable {K : PySem.W.Frag} {H H' : Hp}
mutual
theorem Rep.mono (e : Same H H') : ∀ {v : V} {d : D}, Rep K H v d → Rep K H' v d
  | _, _, .non => .non
  | _, _, .bl => .bl
  | _, _, .int => .int
  | _, _, .str => .str
  | _, _, .tup h r => .tup (by
      rcases h with (h | ⟨o, h⟩) | h
      · exact .inl (.inl (e _ _ h))
      · exact .inl (.inr ⟨o, e _ _ h⟩)
      · exact .inr h) (Reps.mono e r)
  | _, _, .lst h r => .lst (e _ _ h) (Reps.mono e r)
  | _, _, .rol h r => .rol (e.seq h) (Reps.mono e r)
  | _, _, .obj h r => .obj (e _ _ h) (RepF.mono e r)
theorem Reps.mono (e : Same H H') : ∀ {vs : List V} {ds : List D}, Reps K H vs ds → Reps K H' vs ds
  | _, _, .nil => .nil
  | _, _, .cons a b => .cons (Rep.mono e a) (Reps.mono e b)
theorem RepF.mono (e : Same H H') : ∀ {vs : List (Str × V)} {ds : List (Str × D)}, RepF K H vs ds → RepF K H' vs ds
  | _, _, .nil => .nil
  | _, _, .cons a b => .cons (Rep.mono e a) (RepF.mono e b)
end
theorem Reps.length : ∀ {vs : List V} {ds : List D}, Reps K H vs ds → vs.length = ds.length
  | _, _, .nil => rfl
  | _, _, .cons _ b => congrArg (· + 1) b.length
theorem Reps.append : ∀ {vs ws : List V} {ds es : List D}, Reps K H vs ds → Reps K H ws es → Reps K H (vs ++ ws) (ds ++ es)
  | _, _, _, _, .nil, q => q
  | _, _, _, _, .cons a b, q => .cons a (b.append q)
theorem Reps.get : ∀ {vs : List V} {ds : List D} {i : Nat} {d : D}, Reps K H vs ds → ds[i]? = some d → ∃ v, vs[i]? = some v ∧ Rep K H v d
  | _, _, _, _, .nil, h => by simp at h
  | _, _, 0, _, .cons a _, h => by simp at h; subst h; exact ⟨_, rfl, a⟩
  | _, _, i + 1, d, .cons _ b, h => by
    obtain ⟨v, h1, h2⟩ := b.get (i := i) (d := d) (by simpa using h)
    exact ⟨v, by simpa using h1, h2⟩
theorem Reps.set : ∀ {vs : List V} {ds : List D} (i : Nat) {v : V} {d : D}, Reps K H vs ds → Rep K H v d → Reps K H (vs.set i v) (ds.set i d)
  | _, _, _, _, _, .nil, _ => .nil
  | _, _, 0, _, _, .cons _ b, q => .cons q b
  | _, _, i + 1, _, _, .cons a b, q => .cons a (Reps.set i b q)
theorem Reps.take : ∀ {vs : List V} {ds : List D} (n : Nat), Reps K H vs ds → Reps K H (vs.take n) (ds.take n)
  | _, _, 0, _ => .nil
  | _, _, _ + 1, .nil => .nil
  | _, _, n + 1, .cons a b => .cons a (Reps.take n b)
theorem Reps.drop : ∀ {vs : List V} {ds : List D} (n : Nat), Reps K H vs ds → Reps K H (vs.drop n) (ds.drop n)
  | _, _, 0, r => r
  | _, _, _ + 1, .nil => .nil
  | _, _, n + 1, .cons _ b => Reps.drop n b
theorem RepF.lookup {f : Str} {d : D} : ∀ {vs : List (Str × V)} {ds : List (Str × D)}, RepF K H vs ds → ds.lookup f = some d → ∃ v, vs.lookup f = some v ∧ Rep K H v d
  | _, _, .nil, h => by simp at h
  | (g, v) :: vs, (_, e) :: ds, .cons a b, h => by
    rw [List.lookup_cons] at h ⊢
    cases q : f == g with
    | true =>
      rw [q] at h
      cases h
      exact ⟨v, rfl, a⟩
    | false =>
      rw [q] at h
      exact b.lookup h
theorem RepF.none {f : Str} : ∀ {vs : List (Str × V)} {ds : List (Str × D)}, RepF K H vs ds → ds.lookup f = none → vs.lookup f = none
  | _, _, .nil, _ => rfl
  | (g, v) :: vs, (_, e) :: ds, .cons a b, h => by
    rw [List.lookup_cons] at h ⊢
    cases q : f == g with
    | true =>
      rw [q] at h
      cases h
    | false =>
      rw [q] at h
      exact b.none h
end

/-! ### hidden addresses -/
abbrev AS := Addr → Prop
open Classical in
noncomputable def hid (H : Hp) (S : AS) : Hp := fun a => if S a then none else H a
theorem hid_some {H : Hp} {S : AS} {a : Addr} {o : HO} : hid H S a = some o ↔ ¬ S a ∧ H a = some o := by
  unfold hid
  by_cases h : S a
  · rw [if_pos h]
    exact ⟨(fun z => nomatch z), fun z => absurd h z.1⟩
  · rw [if_neg h]
    exact ⟨fun z => ⟨h, z⟩, fun z => z.2⟩
theorem hid_same {H : Hp} {S : AS} : Same (hid H S) H := fun _ _ h => (hid_some.mp h).2

/-- O: owned by this activation (or lent to it); P: the callers' own, hidden; the rest is frozen -/
def Un2 (O P : AS) : AS := fun a => O a ∨ P a
structure Stp (P : AS) (H : Hp) (O : AS) (H' : Hp) (O' : AS) : Prop where
  keep : ∀ a o, H a = some o → ¬ O a → H' a = some o ∧ ¬ O' a
  live : ∀ a o, H a = some o → ∃ o', H' a = some o'
theorem Stp.refl {P : AS} {H : Hp} {O : AS} : Stp P H O H O := ⟨fun _ _ h n => ⟨h, n⟩, fun _ o h => ⟨o, h⟩⟩
theorem Stp.trans {P : AS} {H H1 H2 : Hp} {O O1 O2 : AS} (a : Stp P H O H1 O1) (b : Stp P H1 O1 H2 O2) : Stp P H O H2 O2 :=
  ⟨fun x o h n => b.keep x o (a.keep x o h n).1 (a.keep x o h n).2, fun x o h => let ⟨o', h'⟩ := a.live x o h; b.live x o' h'⟩
theorem Stp.same {P : AS} {H H' : Hp} {O O' : AS} (s : Stp P H O H' O') : Same (hid H (Un2 O P)) (hid H' (Un2 O' P)) := fun a o h => by
  obtain ⟨h1, h2⟩ := hid_some.mp h
  have nO : ¬ O a := fun z => h1 (.inl z)
  obtain ⟨h3, h4⟩ := s.keep a o h2 nO
  exact hid_some.mpr ⟨fun z => z.elim h4 fun q => h1 (.inr q), h3⟩
theorem Stp.free {P : AS} {H H' : Hp} {O O' : AS} (s : Stp P H O H' O') {a : Addr} (h : H' a = none) : H a = none := by
  cases e : H a with
  | none => rfl
  | some o =>
    obtain ⟨o', h'⟩ := s.live a o e
    rw [h] at h'
    cases h'

/-! ### an exception: its class, its fields -/
structure Ex where
  c : Str
  fs : List (Str × D)
def ExOk (K : PySem.W.Frag) (h : Hp) (cls : Value) (dd : Option Addr) (x : Ex) : Prop :=
  cls = .ref (He.ga K x.c) ∧ match dd with
    | none => x.fs = []
    | some d => ∃ fs, h d = some (.xd fs) ∧ RepF K h fs x.fs
theorem ExOk.mono {K : PySem.W.Frag} {h h' : Hp} {cls : Value} {dd : Option Addr} {x : Ex} (q : ExOk K h cls dd x) (e : Same h h') : ExOk K h' cls dd x := by
  obtain ⟨q1, q2⟩ := q
  refine ⟨q1, ?_⟩
  cases dd with
  | none => exact q2
  | some d =>
    obtain ⟨fs, a, b⟩ := q2
    exact ⟨fs, e _ _ a, b.mono e⟩
/-- the exception that is held: its address, class, dict -/
structure Xp where
  a : Addr
  cls : Value
  d : Option Addr
def Xp.nil : Xp := ⟨0, .none, none⟩

/-! ### slots -/
inductive Slot where
  | un
  /-- frozen -/
  | fz (d : D)
  /-- owned -/
  | ow (d : D)
  /-- lent by the caller -/
  | io (d : D)
  /-- a caught exception's name -/
  | xc (x : Ex)
abbrev SEnv := List Slot

/-- the object at a, its parts frozen -/
inductive Shal (K : PySem.W.Frag) (H : Hp) (h : Hp) (a : Addr) : D → Prop
  | lst {vs : List V} {ds : List D} : H a = some (.lst vs) → Reps K h vs ds → Shal K H h a (.lst ds)
  | obj {dx : Addr} {c : Str} {fs : List (Str × V)} {ds : List (Str × D)} : H a = some (.ins (He.ga K c) dx fs) → RepF K h fs ds → Shal K H h a (.obj c ds)

inductive SlotOk (K : PySem.W.Frag) (xp : Xp) (H h : Hp) (O : AS) : Option V → Slot → Prop
  | un {o : Option V} : SlotOk K xp H h O o .un
  | fz {v : V} {d : D} : Rep K h v d → SlotOk K xp H h O (some v) (.fz d)
  | ow {a : Addr} {d : D} : O a → Shal K H h a d → SlotOk K xp H h O (some (.ref a)) (.ow d)
  | io {a : Addr} {d : D} : O a → Shal K H h a d → SlotOk K xp H h O (some (.ref a)) (.io d)
  | xc {x : Ex} : ExOk K h xp.cls xp.d x → SlotOk K xp H h O (some (.ref xp.a)) (.xc x)
theorem SlotOk.own_of {K : PySem.W.Frag} {xp : Xp} {H h : Hp} {O : AS} {v : Option V} {s : Slot} (q : SlotOk K xp H h O v s) : ∀ a, v = some (.ref a) → (match s with
    | .ow _ => True
    | .io _ => True
    | _ => False) → O a := by
  intro a e hs
  cases q with
  | ow hO _ => cases e; exact hO
  | io hO _ => cases e; exact hO
  | un => exact hs.elim
  | fz _ => exact hs.elim
  | xc _ => exact hs.elim
def Slot.owned : Slot → Bool
  | .ow _ => true
  | .io _ => true
  | _ => false
/-- the i-th slot holds the owned object at a -/
def OwnAt (σ : L2.St) (env : SEnv) (i : Nat) (a : Addr) : Prop := σ[i]? = some (some (.ref a)) ∧ ∃ s, env[i]? = some s ∧ s.owned = true
/-- what stays through an activation: the written part, the callers' own addresses, what was lent (slot, address) -/
structure Cn where
  K : PySem.W.Frag
  P : AS
  io : List (Nat × Addr)
  /-- how many slots -/
  n : Nat
  /-- the exception that is held, its dict -/
  xp : Xp
structure EnvOk (C : Cn) (H : Hp) (O : AS) (σ : L2.St) (env : SEnv) : Prop where
  len : env.length = σ.length
  ok : ∀ (i : Nat) (o : Option V) (s : Slot), σ[i]? = some o → env[i]? = some s → SlotOk C.K C.xp H (hid H (Un2 O C.P)) O o s
  one : ∀ (i j : Nat) (a : Addr), OwnAt σ env i a → OwnAt σ env j a → i = j
  dis : ∀ a, C.P a → ¬ O a
  pub : ∀ a, O a → ∃ o, H a = some o
  prv : ∀ a, C.P a → ∃ o, H a = some o
  lent : ∀ i a, (i, a) ∈ C.io → σ[i]? = some (some (.ref a)) ∧ ∃ d, env[i]? = some (.io d)
  sz : σ.length = C.n

/-- what a result is: frozen, or new and owned by nobody yet -/
abbrev W := Bool × D
def ResOk (C : Cn) (H : Hp) (O : AS) (σ : L2.St) (env : SEnv) (v : V) (w : W) : Prop :=
  match w.1 with
  | false => Rep C.K (hid H (Un2 O C.P)) v w.2
  | true => ∃ p, v = .ref p ∧ O p ∧ Shal C.K H (hid H (Un2 O C.P)) p w.2 ∧ ∀ i, ¬ OwnAt σ env i p

inductive Out (α : Type) where
  | ok (a : α) (e : SEnv)
  | ex (x : Ex) (e : SEnv)
  | st
abbrev EDen := SEnv → Out W

/-- the context of the readings -/
structure Th where
  K : PySem.W.Frag
  io : List (Nat × Addr)
  n : Nat
  W : WX
  xp : Xp
def Th.cn (T : Th) (P : AS) : Cn := ⟨T.K, P, T.io, T.n, T.xp⟩
/-- what is wanted of an outcome -/
def RD (T : Th) (P : AS) (σ : L2.St) (H : Hp) (O : AS) (Q : VK) : Out W → Prop
  | .ok w env' => ∀ v H' O', Stp P H O H' O' → EnvOk (T.cn P) H' O' σ env' → ResOk (T.cn P) H' O' σ env' v w → Q v H'
  | .ex x env' => ∀ cls dd H' O', Stp P H O H' O' → EnvOk (T.cn P) H' O' σ env' → ExOk T.K (hid H' (Un2 O' P)) cls dd x → T.W cls dd σ H'
  | .st => False
/-- THE READING of a denotation -/
def tD (T : Th) (m : EDen) : TE := fun σ H Q => ∃ P O env, EnvOk (T.cn P) H O σ env ∧ RD T P σ H O Q (m env)
end DL
set_option maxHeartbeats 8000000
/-! DL1: expressions: names, constants, sequencing, operators. -/
namespace DL
open PySem PySem.Spec PyProof.Rows L2

theorem _root_.L2.PE.to {X : Cx} {e : Expr} {t t' : TE} (h : PE X e t) (i : ∀ σ H Q, t' σ H Q → t σ H Q) : PE X e t' := ⟨fun pins s σ H Q I q => h.run pins s σ H Q I (i σ H Q q)⟩
theorem pe_never {X : Cx} {e : Expr} {t : TE} (i : ∀ σ H Q, ¬ t σ H Q) : PE X e t := ⟨fun _ _ σ H Q _ q => (i σ H Q q).elim⟩

theorem tD_iff {T : Th} {m : EDen} {σ : L2.St} {H : Hp} {Q : VK} : tD T m σ H Q ↔ ∃ P O env, EnvOk (T.cn P) H O σ env ∧ RD T P σ H O Q (m env) := Iff.rfl
theorem RD.step {T : Th} {σ : L2.St} {H H1 : Hp} {O O1 : AS} {Q : VK} {o : Out W} (h : RD T P σ H O Q o) (s : Stp P H O H1 O1) : RD T P σ H1 O1 Q o := by
  cases o with
  | ok w env => exact fun v H' O' s' => h v H' O' (s.trans s')
  | ex x env => exact fun c d H' O' s' => h c d H' O' (s.trans s')
  | st => exact h

section
variable {C : Cn} {K : PySem.W.Frag} {P : AS} {H H' : Hp} {O O' : AS} {σ : L2.St} {env : SEnv}
theorem Shal.mono {h h' : Hp} {a : Addr} {d : D} (x : Shal K H h a d) (e : H' a = H a) (s : Same h h') : Shal K H' h' a d := by
  cases x with
  | lst q r => exact .lst (e.trans q) (r.mono s)
  | obj q r => exact .obj (e.trans q) (r.mono s)
/-- an owned thing, given away, is frozen -/
theorem EnvOk.given (e : EnvOk C H O σ env) (p : Addr) (n : ∀ i, ¬ OwnAt σ env i p) : EnvOk C H (fun a => O a ∧ a ≠ p) σ env where
  len := e.len
  ok := fun i o s h1 h2 => by
    have sm : Same (hid H (Un2 O C.P)) (hid H (Un2 (fun a => O a ∧ a ≠ p) C.P)) := fun a o' q => by
      obtain ⟨q1, q2⟩ := hid_some.mp q
      exact hid_some.mpr ⟨fun z => q1 (z.elim (fun y => .inl y.1) .inr), q2⟩
    cases e.ok i o s h1 h2 with
    | un => exact .un
    | fz r => exact .fz (r.mono sm)
    | xc hx => exact .xc (hx.mono sm)
    | ow hO r => exact .ow ⟨hO, fun z => n i (z ▸ ⟨h1, _, h2, rfl⟩)⟩ (r.mono rfl sm)
    | io hO r => exact .io ⟨hO, fun z => n i (z ▸ ⟨h1, _, h2, rfl⟩)⟩ (r.mono rfl sm)
  one := e.one
  dis := fun a hp z => e.dis a hp z.1
  pub := fun a z => e.pub a z.1
  prv := e.prv
  lent := e.lent
  sz := e.sz
theorem stp_given (p : Addr) : Stp P H O H (fun a => O a ∧ a ≠ p) := ⟨fun a o h n => ⟨h, fun z => n z.1⟩, fun a o h => ⟨o, h⟩⟩
theorem Shal.given {p : Addr} {d : D} (x : Shal K H (hid H (Un2 O P)) p d) (hp : ¬ P p) : Rep K (hid H (Un2 (fun a => O a ∧ a ≠ p) P)) (.ref p) d := by
  have sm : Same (hid H (Un2 O P)) (hid H (Un2 (fun a => O a ∧ a ≠ p) P)) := fun a o' q => by
    obtain ⟨q1, q2⟩ := hid_some.mp q
    exact hid_some.mpr ⟨fun z => q1 (z.elim (fun y => .inl y.1) .inr), q2⟩
  have vis : ∀ o, H p = some o → hid H (Un2 (fun a => O a ∧ a ≠ p) P) p = some o := fun o h => hid_some.mpr ⟨fun z => z.elim (fun y => y.2 rfl) hp, h⟩
  cases x with
  | lst q r => exact .lst (vis _ q) (r.mono sm)
  | obj q r => exact .obj (vis _ q) (r.mono sm)
/-- a result, frozen -/
theorem ResOk.frz {v : V} {w : W} (e : EnvOk C H O σ env) (r : ResOk C H O σ env v w) : ∃ O', Stp C.P H O H O' ∧ EnvOk C H O' σ env ∧ Rep C.K (hid H (Un2 O' C.P)) v w.2 := by
  obtain ⟨b, d⟩ := w
  cases b with
  | false => exact ⟨O, .refl, e, r⟩
  | true =>
    obtain ⟨p, rfl, hO, hs, n⟩ := r
    exact ⟨_, stp_given p, e.given p n, hs.given fun z => e.dis p z hO⟩
end

/-- two in a row: the first one's result frozen -/
def bindE (m : EDen) (k : D → EDen) : EDen := fun env => match m env with
  | .ok w env1 => k w.2 env1
  | .ex x env1 => .ex x env1
  | .st => .st
theorem rd_bind {T : Th} {m : EDen} {k : D → EDen} {σ : L2.St} {H : Hp} {O : AS} {env : SEnv} {Q R : VK} (he : EnvOk (T.cn P) H O σ env) (h : RD T P σ H O Q (bindE m k env))
    (hk : ∀ v H1 O1 env1 d, Stp P H O H1 O1 → EnvOk (T.cn P) H1 O1 σ env1 → Rep T.K (hid H1 (Un2 O1 P)) v d → RD T P σ H1 O1 Q (k d env1) → R v H1) : tD T m σ H R := by
  refine ⟨P, O, env, he, ?_⟩
  unfold bindE at h
  cases e : m env with
  | ok w env1 =>
    rw [e] at h
    intro v H' O' s e' r
    obtain ⟨O2, s2, e2, r2⟩ := r.frz e'
    exact hk v H' O2 env1 w.2 (s.trans s2) e2 r2 (RD.step h (s.trans s2))
  | ex x env1 => rw [e] at h; exact h
  | st => rw [e] at h; exact h.elim

/-! ### results -/
section
variable {T : Th} {σ : L2.St} {H : Hp} {O : AS} {env : SEnv} {Q : VK}
theorem RD.val {v : V} {d : D} (h : RD T P σ H O Q (.ok (false, d) env)) (he : EnvOk (T.cn P) H O σ env) (r : Rep T.K (hid H (Un2 O P)) v d) : Q v H := h v H O .refl he r
theorem EnvOk.new {C : Cn} {p : Addr} {o : HO} (e : EnvOk C H O σ env) (hp : H p = none) : EnvOk C (upd H p o) O σ env where
  len := e.len
  ok := fun i v s h1 h2 => by
    have nO : ∀ a, O a → a ≠ p := fun a hO => let ⟨o', h'⟩ := e.pub a hO; ne_of_none h' hp
    have sm : Same (hid H (Un2 O C.P)) (hid (upd H p o) (Un2 O C.P)) := fun a o' q => by
      obtain ⟨q1, q2⟩ := hid_some.mp q
      exact hid_some.mpr ⟨q1, by rw [upd_ne (ne_of_none q2 hp)]; exact q2⟩
    cases e.ok i v s h1 h2 with
    | un => exact .un
    | fz r => exact .fz (r.mono sm)
    | xc hx => exact .xc (hx.mono sm)
    | ow hO r => exact .ow hO (r.mono (upd_ne (nO _ hO)) sm)
    | io hO r => exact .io hO (r.mono (upd_ne (nO _ hO)) sm)
  one := e.one
  dis := e.dis
  pub := fun a hO => let ⟨o', h'⟩ := e.pub a hO; ⟨o', by rw [upd_ne (ne_of_none h' hp)]; exact h'⟩
  prv := fun a hO => let ⟨o', h'⟩ := e.prv a hO; ⟨o', by rw [upd_ne (ne_of_none h' hp)]; exact h'⟩
  lent := e.lent
  sz := e.sz
theorem stp_new {P : AS} {p : Addr} {o : HO} (hp : H p = none) : Stp P H O (upd H p o) O :=
  ⟨fun a u h n => ⟨by rw [upd_ne (ne_of_none h hp)]; exact h, n⟩, fun a u h => ⟨u, by rw [upd_ne (ne_of_none h hp)]; exact h⟩⟩
theorem same_new {S : AS} {p : Addr} {o : HO} (hp : H p = none) : Same (hid H S) (hid (upd H p o) S) := fun a o' q => by
  obtain ⟨q1, q2⟩ := hid_some.mp q
  exact hid_some.mpr ⟨q1, by rw [upd_ne (ne_of_none q2 hp)]; exact q2⟩
/-- a new tuple -/
theorem RD.newT {vs : List V} {ds : List D} {p : Addr} (h : RD T P σ H O Q (.ok (false, .tup ds) env)) (he : EnvOk (T.cn P) H O σ env) (r : Reps T.K (hid H (Un2 O P)) vs ds) (hp : H p = none) : Q (.ref p) (upd H p (.tup vs)) := by
  refine h _ _ O (stp_new hp) (he.new hp) (Rep.tup (.inl (.inl (hid_some.mpr ⟨fun z => ?_, upd_same⟩))) (r.mono (same_new hp)))
  rcases z with z | z
  · obtain ⟨o, q⟩ := he.pub p z
    rw [hp] at q
    cases q
  · obtain ⟨o, q⟩ := he.prv p z
    rw [hp] at q
    cases q
/-- what is new becomes owned -/
theorem EnvOk.own {C : Cn} {p : Addr} {o : HO} (e : EnvOk C H O σ env) (hp : H p = none) : EnvOk C (upd H p o) (fun a => O a ∨ a = p) σ env where
  len := e.len
  ok := fun i v s h1 h2 => by
    have nO : ∀ a, O a → a ≠ p := fun a hO => let ⟨o', h'⟩ := e.pub a hO; ne_of_none h' hp
    have sm : Same (hid H (Un2 O C.P)) (hid (upd H p o) (Un2 (fun a => O a ∨ a = p) C.P)) := fun a o' q => by
      obtain ⟨q1, q2⟩ := hid_some.mp q
      have na := ne_of_none q2 hp
      exact hid_some.mpr ⟨fun z => q1 (z.elim (fun y => y.elim .inl fun u => absurd u na) .inr), by rw [upd_ne na]; exact q2⟩
    cases e.ok i v s h1 h2 with
    | un => exact .un
    | fz r => exact .fz (r.mono sm)
    | xc hx => exact .xc (hx.mono sm)
    | ow hO r => exact .ow (.inl hO) (r.mono (upd_ne (nO _ hO)) sm)
    | io hO r => exact .io (.inl hO) (r.mono (upd_ne (nO _ hO)) sm)
  one := e.one
  dis := fun a hP z => z.elim (e.dis a hP) fun q => by
    obtain ⟨o', h'⟩ := e.prv a hP
    rw [q, hp] at h'
    cases h'
  pub := fun a z => z.elim (fun hO => let ⟨o', h'⟩ := e.pub a hO; ⟨o', by rw [upd_ne (ne_of_none h' hp)]; exact h'⟩) fun q => ⟨o, by rw [q]; exact upd_same⟩
  prv := fun a hO => let ⟨o', h'⟩ := e.prv a hO; ⟨o', by rw [upd_ne (ne_of_none h' hp)]; exact h'⟩
  lent := e.lent
  sz := e.sz
theorem stp_own {P : AS} {p : Addr} {o : HO} (hp : H p = none) : Stp P H O (upd H p o) (fun a => O a ∨ a = p) :=
  ⟨fun a u h n => ⟨by rw [upd_ne (ne_of_none h hp)]; exact h, fun z => z.elim n (ne_of_none h hp)⟩, fun a u h => ⟨u, by rw [upd_ne (ne_of_none h hp)]; exact h⟩⟩
theorem same_own {K : PySem.W.Frag} {P : AS} {p : Addr} {o : HO} (hp : H p = none) : Same (hid H (Un2 O P)) (hid (upd H p o) (Un2 (fun a => O a ∨ a = p) P)) := fun a o' q => by
  obtain ⟨q1, q2⟩ := hid_some.mp q
  have na := ne_of_none q2 hp
  exact hid_some.mpr ⟨fun z => q1 (z.elim (fun y => y.elim .inl fun u => absurd u na) .inr), by rw [upd_ne na]; exact q2⟩
theorem EnvOk.noOwn {C : Cn} {p : Addr} (e : EnvOk C H O σ env) (hp : H p = none) : ∀ i, ¬ OwnAt σ env i p := fun i ⟨h1, s, h2, h3⟩ => by
  have q := e.ok i _ s h1 h2
  cases q with
  | un => cases h3
  | fz r => cases h3
  | xc _ => cases h3
  | ow hO r =>
    obtain ⟨o', h'⟩ := e.pub _ hO
    rw [hp] at h'
    cases h'
  | io hO r =>
    obtain ⟨o', h'⟩ := e.pub _ hO
    rw [hp] at h'
    cases h'
/-- a new list -/
theorem RD.newL {vs : List V} {ds : List D} {p : Addr} (h : RD T P σ H O Q (.ok (true, .lst ds) env)) (he : EnvOk (T.cn P) H O σ env) (r : Reps T.K (hid H (Un2 O P)) vs ds) (hp : H p = none) : Q (.ref p) (upd H p (.lst vs)) :=
  h _ _ _ (stp_own hp) (he.own hp) ⟨p, rfl, .inr rfl, .lst upd_same (r.mono (same_own (K := T.K) hp)), he.noOwn hp⟩
end

/-! ### names and constants -/
def dC (d : D) : EDen := fun env => .ok (false, d) env
def dVar (i : Nat) : EDen := fun env => match env[i]? with
  | some (.fz d) => .ok (false, d) env
  | some (.ow d) => .ok (false, d) (env.set i (.fz d))
  | _ => .st
def dSt : EDen := fun _ => .st
section
variable {X : Cx} {T : Th}
theorem g_st {e : Expr} : PE X e (tD T dSt) := pe_never fun σ H Q h => by
  obtain ⟨P, O, env, he, h⟩ := tD_iff.mp h
  exact h
theorem g_c {e : Expr} {v : V} {d : D} (h : PE X e (tC v)) (r : ∀ H, Rep T.K H v d) : PE X e (tD T (dC d)) := h.to fun σ H Q q => by
  obtain ⟨P, O, env, he, q⟩ := tD_iff.mp q
  exact q.val he (r _)
/-- a slot is frozen -/
theorem EnvOk.setFz {C : Cn} {H : Hp} {O : AS} {σ : L2.St} {env : SEnv} {i : Nat} {a : Addr} {d : D} (e : EnvOk C H O σ env) (h1 : σ[i]? = some (some (.ref a))) (h2 : env[i]? = some (.ow d)) :
    EnvOk C H (fun b => O b ∧ b ≠ a) σ (env.set i (.fz d)) ∧ Rep C.K (hid H (Un2 (fun b => O b ∧ b ≠ a) C.P)) (.ref a) d := by
  have q := e.ok i _ _ h1 h2
  cases q with
  | ow hO r =>
    have rep := r.given fun z => e.dis a z hO
    have hi : i < env.length := (List.getElem?_eq_some_iff.mp h2).1
    have sm : Same (hid H (Un2 O C.P)) (hid H (Un2 (fun b => O b ∧ b ≠ a) C.P)) := fun b o' q => by
      obtain ⟨q1, q2⟩ := hid_some.mp q
      exact hid_some.mpr ⟨fun z => q1 (z.elim (fun y => .inl y.1) .inr), q2⟩
    refine ⟨⟨by rw [List.length_set]; exact e.len, fun j o s g1 g2 => ?_, fun j k b hj hk => ?_, fun b hP z => e.dis b hP z.1, fun b z => e.pub b z.1, e.prv, fun j b hj => ?_, e.sz⟩, rep⟩
    · by_cases hj : j = i
      · subst hj
        rw [List.getElem?_set_self hi] at g2
        cases g2
        rw [h1] at g1
        cases g1
        exact .fz rep
      · rw [List.getElem?_set_ne (Ne.symm hj)] at g2
        cases e.ok j o s g1 g2 with
        | un => exact .un
        | fz r => exact .fz (r.mono sm)
        | xc hx => exact .xc (hx.mono sm)
        | ow hO' r => exact .ow ⟨hO', fun z => hj (e.one j i a (z ▸ ⟨g1, _, g2, rfl⟩) ⟨h1, _, h2, rfl⟩)⟩ (r.mono rfl sm)
        | io hO' r => exact .io ⟨hO', fun z => hj (e.one j i a (z ▸ ⟨g1, _, g2, rfl⟩) ⟨h1, _, h2, rfl⟩)⟩ (r.mono rfl sm)
    · have back : ∀ {n : Nat} {c : Addr}, OwnAt σ (env.set i (.fz d)) n c → OwnAt σ env n c := fun {n c} ⟨x1, s, x2, x3⟩ => by
        by_cases hn : n = i
        · subst hn
          rw [List.getElem?_set_self hi] at x2
          cases x2
          cases x3
        · rw [List.getElem?_set_ne (Ne.symm hn)] at x2
          exact ⟨x1, s, x2, x3⟩
      exact e.one j k b (back hj) (back hk)
    · obtain ⟨q1, d', q2⟩ := e.lent j b hj
      refine ⟨q1, d', ?_⟩
      have nj : j ≠ i := fun z => by
        rw [z, h2] at q2
        cases q2
      rw [List.getElem?_set_ne (Ne.symm nj)]
      exact q2
theorem g_var {e : Expr} {i : Nat} (h : PE X e (tVar i)) : PE X e (tD T (dVar i)) := h.to fun σ H Q q => by
  obtain ⟨P, O, env, he, q⟩ := tD_iff.mp q
  unfold dVar at q
  cases g : env[i]? with
  | none => rw [g] at q; exact q.elim
  | some s =>
    rw [g] at q
    have hi : i < σ.length := by rw [← he.len]; exact (List.getElem?_eq_some_iff.mp g).1
    have hs : σ[i]? = some σ[i] := List.getElem?_eq_getElem hi
    cases s with
    | un => exact q.elim
    | xc d => exact q.elim
    | io d => exact q.elim
    | fz d =>
      have r := he.ok i _ _ hs g
      generalize σ[i] = o at hs r
      cases r with
      | fz r => exact ⟨_, hs, RD.val q he r⟩
    | ow d =>
      have r := he.ok i _ _ hs g
      generalize σ[i] = o at hs r
      cases r with
      | ow hO r =>
        obtain ⟨e2, r2⟩ := he.setFz hs g
        exact ⟨_, hs, q _ H _ (stp_given _) e2 r2⟩
end

/-! ### operators by data -/
/-- r does at values what f does at data -/
def Op2 (K : PySem.W.Frag) (f : D → D → Option W) (r : R2) : Prop := ∀ (T : Th) (P : AS) (σ : L2.St) (H : Hp) (O : AS) (env : SEnv) (v1 v2 : V) (d1 d2 : D) (w : W) (Q : VK), T.K = K → EnvOk (T.cn P) H O σ env →
  Rep T.K (hid H (Un2 O P)) v1 d1 → Rep T.K (hid H (Un2 O P)) v2 d2 → f d1 d2 = some w → RD T P σ H O Q (.ok w env) → r v1 v2 H Q
def Op1 (K : PySem.W.Frag) (f : D → Option W) (r : V → Hp → VK → Prop) : Prop := ∀ (T : Th) (P : AS) (σ : L2.St) (H : Hp) (O : AS) (env : SEnv) (v1 : V) (d1 : D) (w : W) (Q : VK), T.K = K → EnvOk (T.cn P) H O σ env →
  Rep T.K (hid H (Un2 O P)) v1 d1 → f d1 = some w → RD T P σ H O Q (.ok w env) → r v1 H Q
def retO (o : Option W) : EDen := fun env => match o with
  | some w => .ok w env
  | none => .st
def dOp2 (f : D → D → Option W) (a b : EDen) : EDen := bindE a fun x => bindE b fun y => retO (f x y)
def dOp1 (f : D → Option W) (a : EDen) : EDen := bindE a fun x => retO (f x)
section
variable {X : Cx} {T : Th} {ma mb : EDen} {a b : Expr}
theorem rd_op2 {f : D → D → Option W} {r : R2} (hf : Op2 T.K f r) {σ : L2.St} {H : Hp} {Q : VK} (q : tD T (dOp2 f ma mb) σ H Q) : tOp r (tD T ma) (tD T mb) σ H Q := by
  obtain ⟨P, O, env, he, q⟩ := tD_iff.mp q
  refine rd_bind he q fun v1 H1 O1 env1 d1 s1 e1 r1 q1 => ?_
  refine rd_bind e1 q1 fun v2 H2 O2 env2 d2 s2 e2 r2 q2 => ?_
  unfold retO at q2
  cases g : f d1 d2 with
  | none => rw [g] at q2; exact q2.elim
  | some w => rw [g] at q2; exact hf T P σ H2 O2 env2 v1 v2 d1 d2 w Q rfl e2 (r1.mono s2.same) r2 g q2
theorem g_op2 {op : Operator} {pos : Pos} {f : D → D → Option W} {r : R2} (ho : OpR X (binaryOp op) r) (hf : Op2 T.K f r) (ha : PE X a (tD T ma)) (hb : PE X b (tD T mb)) : PE X (.BinOp a op b pos) (tD T (dOp2 f ma mb)) :=
  (pe_op ho ha hb).to fun σ H Q q => rd_op2 hf q
theorem g_cmp {op : CmpOp} {pos : Pos} {f : D → D → Option W} {r : R2} (ho : OpR X (compareOp op) r) (hf : Op2 T.K f r) (hm : behindInMarks op b = false) (ha : PE X a (tD T ma)) (hb : PE X b (tD T mb)) : PE X (.Compare a [op] [b] pos) (tD T (dOp2 f ma mb)) :=
  (pe_cmpR ho ha hb hm).to fun σ H Q q => rd_op2 hf q
theorem g_un {op : UnaryOp} {pos : Pos} {f : D → Option W} {r : V → Hp → VK → Prop} (ho : UnR X (unaryOp op) r) (hf : Op1 T.K f r) (ha : PE X a (tD T ma)) : PE X (.UnaryOp op a pos) (tD T (dOp1 f ma)) :=
  (pe_un ho ha).to fun σ H Q q => by
    obtain ⟨P, O, env, he, q⟩ := tD_iff.mp q
    refine rd_bind he q fun v1 H1 O1 env1 d1 s1 e1 r1 q1 => ?_
    unfold retO at q1
    cases g : f d1 with
    | none => rw [g] at q1; exact q1.elim
    | some w => rw [g] at q1; exact hf T P σ H1 O1 env1 v1 d1 w Q rfl e1 r1 g q1
/-- one of two rules -/
theorem opR_or {f : Value → Value → Sem Value} {r r' : R2} (h : OpR X f r) (h' : OpR X f r') : OpR X f (fun x y H Q => r x y H Q ∨ r' x y H Q) := fun pins s σ H x y v u Q I rx ry q => q.elim (h pins s σ H x y v u Q I rx ry) (h' pins s σ H x y v u Q I rx ry)
end
end DL
set_option maxHeartbeats 8000000
/-! DL2: tests, statements, loops, comprehensions. -/
namespace DL
open PySem PySem.Spec PyProof.Rows L2

/-! ### tests -/
abbrev TDen := SEnv → Out Bool
def RT (T : Th) (P : AS) (σ : L2.St) (H : Hp) (O : AS) (Q : Bool → Hp → Prop) : Out Bool → Prop
  | .ok b env' => ∀ H' O', Stp P H O H' O' → EnvOk (T.cn P) H' O' σ env' → Q b H'
  | .ex x env' => ∀ cls dd H' O', Stp P H O H' O' → EnvOk (T.cn P) H' O' σ env' → ExOk T.K (hid H' (Un2 O' P)) cls dd x → T.W cls dd σ H'
  | .st => False
def tDT (T : Th) (m : TDen) : TT := fun σ H Q => ∃ P O env, EnvOk (T.cn P) H O σ env ∧ RT T P σ H O Q (m env)
theorem RT.step {T : Th} {σ : L2.St} {H H1 : Hp} {O O1 : AS} {Q : Bool → Hp → Prop} {o : Out Bool} (h : RT T P σ H O Q o) (s : Stp P H O H1 O1) : RT T P σ H1 O1 Q o := by
  cases o with
  | ok w env => exact fun H' O' s' => h H' O' (s.trans s')
  | ex x env => exact fun c d H' O' s' => h c d H' O' (s.trans s')
  | st => exact h
theorem _root_.L2.PT.to {X : Cx} {e : Expr} {t t' : TT} (h : PT X e t) (i : ∀ σ H Q, t' σ H Q → t σ H Q) : PT X e t' := ⟨fun pins s σ H Q I q => h.run pins s σ H Q I (i σ H Q q)⟩
theorem _root_.L2.PW.to {X : Cx} {e : Expr} {t t' : TT} (h : PW X e t) (i : ∀ σ H Q, t' σ H Q → t σ H Q) : PW X e t' := ⟨fun wh pins s σ H Q I q => h.run wh pins s σ H Q I (i σ H Q q)⟩
theorem pt_never {X : Cx} {e : Expr} {t : TT} (i : ∀ σ H Q, ¬ t σ H Q) : PT X e t := ⟨fun _ _ σ H Q _ q => (i σ H Q q).elim⟩
def dStT : TDen := fun _ => .st
theorem g_stT {X : Cx} {T : Th} {e : Expr} : PT X e (tDT T dStT) := pt_never fun σ H Q ⟨_, _, _, _, h⟩ => h

def bindT (m : EDen) (k : D → TDen) : TDen := fun env => match m env with
  | .ok w env1 => k w.2 env1
  | .ex x env1 => .ex x env1
  | .st => .st
theorem rt_bind {T : Th} {m : EDen} {k : D → TDen} {σ : L2.St} {H : Hp} {O : AS} {env : SEnv} {Q : Bool → Hp → Prop} {R : VK} (he : EnvOk (T.cn P) H O σ env) (h : RT T P σ H O Q (bindT m k env))
    (hk : ∀ v H1 O1 env1 d, Stp P H O H1 O1 → EnvOk (T.cn P) H1 O1 σ env1 → Rep T.K (hid H1 (Un2 O1 P)) v d → RT T P σ H1 O1 Q (k d env1) → R v H1) : tD T m σ H R := by
  refine ⟨P, O, env, he, ?_⟩
  unfold bindT at h
  cases e : m env with
  | ok w env1 =>
    rw [e] at h
    intro v H' O' s e' r
    obtain ⟨O2, s2, e2, r2⟩ := r.frz e'
    exact hk v H' O2 env1 w.2 (s.trans s2) e2 r2 (RT.step h (s.trans s2))
  | ex x env1 => rw [e] at h; exact h
  | st => rw [e] at h; exact h.elim

/-- truth of data -/
def tru : D → Option Bool
  | .non => some false
  | .bl b => some b
  | .int i => some (i != 0)
  | .str s => if s.length ≤ sizeLine then some ((s.length : Int) != 0) else none
  | .tup ds => some (!ds.isEmpty)
  | .lst ds => some (!ds.isEmpty)
  | .rol ds => some (!ds.isEmpty)
  | .obj _ _ => none
def retB (o : Option Bool) : TDen := fun env => match o with
  | some b => .ok b env
  | none => .st
def dTru (m : EDen) : TDen := bindT m fun d => retB (tru d)
theorem reps_empty {K : PySem.W.Frag} {H : Hp} {vs : List V} {ds : List D} (r : Reps K H vs ds) : vs.isEmpty = ds.isEmpty := by cases r <;> rfl
theorem hid_sqL {K : PySem.W.Frag} {H : Hp} {S : AS} {a : Addr} {vs : List V} (h : SqL K (hid H S) a vs) : SqL K H a vs := (hid_same (H := H) (S := S)).seq h
theorem hid_sqT {K : PySem.W.Frag} {H : Hp} {S : AS} {a : Addr} {vs : List V} (h : SqT K (hid H S) a vs) : SqT K H a vs := by
  rcases h with (h | ⟨o, h⟩) | h
  · exact .inl (.inl (hid_same _ _ h))
  · exact .inl (.inr ⟨o, hid_same _ _ h⟩)
  · exact .inr h
theorem tru_ok {K : PySem.W.Frag} {H : Hp} {S : AS} {v : V} {d : D} {b : Bool} (r : Rep K (hid H S) v d) (h : tru d = some b) : TruV K v H b := by
  cases r with
  | non => cases h; rfl
  | bl => cases h; rfl
  | int => cases h; rfl
  | @str s =>
    have h : (if s.length ≤ sizeLine then some ((s.length : Int) != 0) else none) = some b := h
    split at h
    · rename_i q
      cases h
      exact ⟨q, rfl⟩
    · cases h
  | tup q r => cases h; exact .inr (.inl ⟨_, hid_sqT q, by rw [reps_empty r]⟩)
  | lst q r => cases h; exact .inl ⟨_, .inl (.inl (hid_same _ _ q)), by rw [reps_empty r]⟩
  | rol q r => cases h; exact .inl ⟨_, hid_sqL q, by rw [reps_empty r]⟩
  | obj q r => cases h
section
variable {X : Cx} {T : Th} {m ma mb : EDen} {a b c : Expr} {pos : Pos}
theorem g_tru (hK : X.K = T.K) (ha : PE X a (tD T m)) (he : ∀ whole, isTrue a X.env whole = (do let v ← whole; standAt a.pos; holding [v] (truthy v))) : PT X a (tDT T (dTru m)) :=
  (pt_truth ha he).to fun σ H Q ⟨P, O, env, he, q⟩ => by
    refine rt_bind he q fun v H1 O1 env1 d s1 e1 r1 q1 => ?_
    unfold retB at q1
    cases g : tru d with
    | none => rw [g] at q1; exact q1.elim
    | some b => rw [g] at q1; exact ⟨b, by rw [hK]; exact tru_ok r1 g, q1 H1 O1 .refl e1⟩
/-- a comparison's answer -/
def dTest (m : EDen) : TDen := bindT m fun d => match d with
  | .bl b => fun env => .ok b env
  | _ => dStT
theorem rd_test {σ : L2.St} {H : Hp} {O : AS} {env : SEnv} {Q : Bool → Hp → Prop} (he : EnvOk (T.cn P) H O σ env) (q : RT T P σ H O Q (dTest m env)) : tD T m σ H (fun x H' => ∃ k, x = .bl k ∧ Q k H') :=
  rt_bind he q fun v H1 O1 env1 d s1 e1 r1 q1 => by
    cases r1 with
    | bl => exact ⟨_, rfl, q1 H1 O1 .refl e1⟩
    | _ => exact q1.elim
theorem g_cmpT {op : CmpOp} {f : D → D → Option W} {r : R2} (ho : OpR X (compareOp op) r) (hf : Op2 T.K f r) (hm : behindInMarks op b = false) (ha : PE X a (tD T ma)) (hb : PE X b (tD T mb)) : PT X (.Compare a [op] [b] pos) (tDT T (dTest (dOp2 f ma mb))) :=
  (pt_cmpR ho ha hb hm).to fun σ H Q ⟨P, O, env, he, q⟩ => rd_op2 hf (rd_test he q)
/-- and, or, not -/
def dAnd (m k : TDen) : TDen := fun env => match m env with
  | .ok true env1 => k env1
  | o => o
def dOr (m k : TDen) : TDen := fun env => match m env with
  | .ok false env1 => k env1
  | o => o
def dNot (m : TDen) : TDen := fun env => match m env with
  | .ok b env1 => .ok (!b) env1
  | .ex x env1 => .ex x env1
  | .st => .st
variable {tm tk : TDen} {rest : List Expr}
theorem rt_and {σ : L2.St} {H : Hp} {Q : Bool → Hp → Prop} (q : tDT T (dAnd tm tk) σ H Q) : tAnd (tDT T tm) (tDT T tk) σ H Q := by
  obtain ⟨P, O, env, he, q⟩ := q
  refine ⟨P, O, env, he, ?_⟩
  unfold dAnd at q
  cases e : tm env with
  | ok b env1 =>
    rw [e] at q
    cases b with
    | true => exact fun H' O' s e' => ⟨P, O', env1, e', RT.step q s⟩
    | false => exact fun H' O' s e' => q H' O' s e'
  | ex x env1 => rw [e] at q; exact q
  | st => rw [e] at q; exact q
theorem rt_or {σ : L2.St} {H : Hp} {Q : Bool → Hp → Prop} (q : tDT T (dOr tm tk) σ H Q) : tOr (tDT T tm) (tDT T tk) σ H Q := by
  obtain ⟨P, O, env, he, q⟩ := q
  refine ⟨P, O, env, he, ?_⟩
  unfold dOr at q
  cases e : tm env with
  | ok b env1 =>
    rw [e] at q
    cases b with
    | true => exact fun H' O' s e' => q H' O' s e'
    | false => exact fun H' O' s e' => ⟨P, O', env1, e', RT.step q s⟩
  | ex x env1 => rw [e] at q; exact q
  | st => rw [e] at q; exact q
theorem g_not (ha : PT X a (tDT T tm)) : PT X (.UnaryOp .Not a pos) (tDT T (dNot tm)) := (pt_not ha).to fun σ H Q ⟨P, O, env, he, q⟩ => by
  refine ⟨P, O, env, he, ?_⟩
  unfold dNot at q
  cases e : tm env with
  | ok b env1 => rw [e] at q; exact fun H' O' s e' => q H' O' s e'
  | ex x env1 => rw [e] at q; exact q
  | st => rw [e] at q; exact q
theorem g_and1 (ha : PT X a (tDT T tm)) : PW X (.BoolOp .And [a] pos) (tDT T tm) := pw_and1 ha
theorem g_and (ha : PT X a (tDT T tm)) (hb : PW X (.BoolOp .And (b :: rest) pos) (tDT T tk)) : PW X (.BoolOp .And (a :: b :: rest) pos) (tDT T (dAnd tm tk)) := (pw_and ha hb).to fun _ _ _ q => rt_and q
theorem g_or1 (ha : PT X a (tDT T tm)) : PW X (.BoolOp .Or [a] pos) (tDT T tm) := pw_or1 ha
theorem g_or (ha : PT X a (tDT T tm)) (hb : PW X (.BoolOp .Or (b :: rest) pos) (tDT T tk)) : PW X (.BoolOp .Or (a :: b :: rest) pos) (tDT T (dOr tm tk)) := (pw_or ha hb).to fun _ _ _ q => rt_or q
/-- a if c else b -/
def dIfE (c : TDen) (m k : EDen) : EDen := fun env => match c env with
  | .ok true env1 => m env1
  | .ok false env1 => k env1
  | .ex x env1 => .ex x env1
  | .st => .st
theorem g_ifE (hc : PT X c (tDT T tm)) (ha : PE X a (tD T ma)) (hb : PE X b (tD T mb)) : PE X (.IfExp c a b pos) (tD T (dIfE tm ma mb)) := (pe_ifExp hc ha hb).to fun σ H Q ⟨P, O, env, he, q⟩ => by
  refine ⟨P, O, env, he, ?_⟩
  unfold dIfE at q
  cases e : tm env with
  | ok b env1 =>
    rw [e] at q
    cases b with
    | true => exact fun H' O' s e' => ⟨P, O', env1, e', RD.step q s⟩
    | false => exact fun H' O' s e' => ⟨P, O', env1, e', RD.step q s⟩
  | ex x env1 => rw [e] at q; exact q
  | st => rw [e] at q; exact q
/-- a and b as a value: bools but for the last -/
def dAndV (m k : EDen) : EDen := bindE m fun d => match d with
  | .bl true => k
  | .bl false => dC (.bl false)
  | _ => dSt
def dOrV (m k : EDen) : EDen := bindE m fun d => match d with
  | .bl false => k
  | .bl true => dC (.bl true)
  | _ => dSt
theorem g_andV (ha : PE X a (tD T ma)) (hb : PE X (.BoolOp .And (b :: rest) pos) (tD T mb)) : PE X (.BoolOp .And (a :: b :: rest) pos) (tD T (dAndV ma mb)) := (pe_and ha hb).to fun σ H Q ⟨P, O, env, he, q⟩ =>
  rd_bind he q fun v H1 O1 env1 d s1 e1 r1 q1 => by
    cases r1 with
    | @bl b =>
      cases b with
      | true => exact ⟨true, rfl, ⟨P, O1, env1, e1, q1⟩⟩
      | false => exact ⟨false, rfl, RD.val q1 e1 .bl⟩
    | _ => exact q1.elim
theorem g_orV (ha : PE X a (tD T ma)) (hb : PE X (.BoolOp .Or (b :: rest) pos) (tD T mb)) : PE X (.BoolOp .Or (a :: b :: rest) pos) (tD T (dOrV ma mb)) := (pe_or ha hb).to fun σ H Q ⟨P, O, env, he, q⟩ =>
  rd_bind he q fun v H1 O1 env1 d s1 e1 r1 q1 => by
    cases r1 with
    | @bl b =>
      cases b with
      | true => exact ⟨true, rfl, RD.val q1 e1 .bl⟩
      | false => exact ⟨false, rfl, ⟨P, O1, env1, e1, q1⟩⟩
    | _ => exact q1.elim
def dNotV (m : EDen) : EDen := bindE m fun d => match d with
  | .bl b => dC (.bl (!b))
  | _ => dSt
theorem g_notV (ha : PE X a (tD T ma)) : PE X (.UnaryOp .Not a pos) (tD T (dNotV ma)) := (pe_not ha).to fun σ H Q ⟨P, O, env, he, q⟩ =>
  rd_bind he q fun v H1 O1 env1 d s1 e1 r1 q1 => by
    cases r1 with
    | @bl b => exact ⟨b, rfl, RD.val q1 e1 .bl⟩
    | _ => exact q1.elim
end

/-! ### arguments, displays -/
abbrev ADen := SEnv → Out (List D)
def RA (T : Th) (P : AS) (σ : L2.St) (H : Hp) (O : AS) (Q : List V → Hp → Prop) : Out (List D) → Prop
  | .ok ds env' => ∀ vs H' O', Stp P H O H' O' → EnvOk (T.cn P) H' O' σ env' → Reps T.K (hid H' (Un2 O' P)) vs ds → Q vs H'
  | .ex x env' => ∀ cls dd H' O', Stp P H O H' O' → EnvOk (T.cn P) H' O' σ env' → ExOk T.K (hid H' (Un2 O' P)) cls dd x → T.W cls dd σ H'
  | .st => False
def tDA (T : Th) (m : ADen) : TA := fun σ H Q => ∃ P O env, EnvOk (T.cn P) H O σ env ∧ RA T P σ H O Q (m env)
theorem _root_.L2.PA.to {X : Cx} {e : List Expr} {t t' : TA} (h : PA X e t) (i : ∀ σ H Q, t' σ H Q → t σ H Q) : PA X e t' := ⟨fun pos pins s σ H Q I q => h.run pos pins s σ H Q I (i σ H Q q)⟩
def aNil : ADen := fun env => .ok [] env
def aCons (m : EDen) (k : ADen) : ADen := fun env => match m env with
  | .ok w env1 => (match k env1 with
    | .ok ds env2 => .ok (w.2 :: ds) env2
    | .ex x e => .ex x e
    | .st => .st)
  | .ex x e => .ex x e
  | .st => .st
def aSt : ADen := fun _ => .st
section
variable {X : Cx} {T : Th} {m : EDen} {k : ADen} {e : Expr} {es : List Expr} {pos : Pos}
theorem ga_st : PA X es (tDA T aSt) := ⟨fun _ _ _ _ _ _ _ ⟨_, _, _, _, h⟩ => h.elim⟩
theorem ga_nil : PA X [] (tDA T aNil) := pa_nil.to fun σ H Q ⟨P, O, env, he, q⟩ => q [] H O .refl he .nil
theorem ga_cons (ha : PE X e (tD T m)) (hr : PA X es (tDA T k)) (hs : starEach (e :: es) X.env = (false, eval e X.env) :: starEach es X.env) : PA X (e :: es) (tDA T (aCons m k)) := (pa_cons ha hr hs).to fun σ H Q ⟨P, O, env, he, q⟩ => by
  refine ⟨P, O, env, he, ?_⟩
  unfold aCons at q
  cases h1 : m env with
  | st => rw [h1] at q; exact q
  | ex x e => rw [h1] at q; exact q
  | ok w env1 =>
    rw [h1] at q
    intro v H1 O1 s1 e1 r1
    obtain ⟨O2, s2, e2, r2⟩ := r1.frz e1
    refine ⟨P, O2, env1, e2, ?_⟩
    have s12 := s1.trans s2
    cases h2 : k env1 with
    | st => simp only [h2] at q; exact q
    | ex x e =>
      simp only [h2] at q
      exact fun c d H' O' s' e' x' => q c d H' O' (s12.trans s') e' x'
    | ok ds env2 =>
      simp only [h2] at q
      exact fun vs H' O' s' e' r' => q (v :: vs) H' O' (s12.trans s') e' (.cons (r2.mono s'.same) r')
def dTup (k : ADen) : EDen := fun env => match k env with
  | .ok ds env1 => if ds.length ≤ sizeLine then .ok (false, .tup ds) env1 else .st
  | .ex x e => .ex x e
  | .st => .st
def dLst (k : ADen) : EDen := fun env => match k env with
  | .ok ds env1 => if ds.length ≤ sizeLine then .ok (true, .lst ds) env1 else .st
  | .ex x e => .ex x e
  | .st => .st
theorem g_tup {x1 : Nat} (h : PA X es (tDA T k)) : PE X (.Tuple es x1 pos) (tD T (dTup k)) := (pe_tup h).to fun σ H Q ⟨P, O, env, he, q⟩ => by
  refine ⟨P, O, env, he, ?_⟩
  unfold dTup at q
  cases h1 : k env with
  | st => rw [h1] at q; exact q
  | ex x e => rw [h1] at q; exact q
  | ok ds env1 =>
    simp only [h1] at q
    intro vs H1 O1 s1 e1 r1
    by_cases hl : ds.length ≤ sizeLine
    · rw [if_pos hl] at q
      exact ⟨by rw [r1.length]; exact hl, fun p hp => RD.newT (RD.step q s1) e1 r1 hp⟩
    · rw [if_neg hl] at q
      exact q.elim
theorem g_lst (h : PA X es (tDA T k)) : PE X (.List es pos) (tD T (dLst k)) := (pe_lst h).to fun σ H Q ⟨P, O, env, he, q⟩ => by
  refine ⟨P, O, env, he, ?_⟩
  unfold dLst at q
  cases h1 : k env with
  | st => rw [h1] at q; exact q
  | ex x e => rw [h1] at q; exact q
  | ok ds env1 =>
    simp only [h1] at q
    intro vs H1 O1 s1 e1 r1
    by_cases hl : ds.length ≤ sizeLine
    · rw [if_pos hl] at q
      exact ⟨by rw [r1.length]; exact hl, fun p hp => RD.newL (RD.step q s1) e1 r1 hp⟩
    · rw [if_neg hl] at q
      exact q.elim
end
end DL
set_option maxHeartbeats 8000000
/-! DL3: statements, loops, comprehensions. -/
namespace DL
open PySem PySem.Spec PyProof.Rows L2

inductive Fl where
  | nx | rt (w : W) | bk | ct
abbrev SDen := SEnv → Out Fl
def RS (T : Th) (P : AS) (H : Hp) (O : AS) (E : Ends) : Out Fl → Prop
  | .ok .nx env' => ∀ σ' H' O', Stp P H O H' O' → EnvOk (T.cn P) H' O' σ' env' → E.nx σ' H'
  | .ok (.rt w) env' => ∀ v σ' H' O', Stp P H O H' O' → EnvOk (T.cn P) H' O' σ' env' → ResOk (T.cn P) H' O' σ' env' v w → E.rt v H'
  | .ok .bk env' => ∀ σ' H' O', Stp P H O H' O' → EnvOk (T.cn P) H' O' σ' env' → E.bk σ' H'
  | .ok .ct env' => ∀ σ' H' O', Stp P H O H' O' → EnvOk (T.cn P) H' O' σ' env' → E.ct σ' H'
  | .ex x env' => ∀ cls dd σ' H' O', Stp P H O H' O' → EnvOk (T.cn P) H' O' σ' env' → ExOk T.K (hid H' (Un2 O' P)) cls dd x → T.W cls dd σ' H'
  | .st => False
def tDS (T : Th) (m : SDen) : TS := fun E σ H => ∃ P O env, EnvOk (T.cn P) H O σ env ∧ RS T P H O E (m env)
theorem RS.step {T : Th} {H H1 : Hp} {O O1 : AS} {E : Ends} {o : Out Fl} (h : RS T P H O E o) (s : Stp P H O H1 O1) : RS T P H1 O1 E o := by
  cases o with
  | ok w env =>
    cases w with
    | nx => exact fun σ' H' O' s' => h σ' H' O' (s.trans s')
    | rt w => exact fun v σ' H' O' s' => h v σ' H' O' (s.trans s')
    | bk => exact fun σ' H' O' s' => h σ' H' O' (s.trans s')
    | ct => exact fun σ' H' O' s' => h σ' H' O' (s.trans s')
  | ex x env => exact fun c d σ' H' O' s' => h c d σ' H' O' (s.trans s')
  | st => exact h
theorem _root_.L2.PS.to {X : Cx} {e : Stmt} {t t' : TS} (h : PS X e t) (i : ∀ E σ H, t' E σ H → t E σ H) : PS X e t' := ⟨fun pins s σ H E I q => h.run pins s σ H E I (i E σ H q)⟩
theorem _root_.L2.PSs.to {X : Cx} {e : List Stmt} {t t' : TS} (h : PSs X e t) (i : ∀ E σ H, t' E σ H → t E σ H) : PSs X e t' := ⟨fun pins s σ H E I q => h.run pins s σ H E I (i E σ H q)⟩
def sSt : SDen := fun _ => .st
theorem gs_st {X : Cx} {T : Th} {e : Stmt} : PS X e (tDS T sSt) := ⟨fun _ _ _ _ _ _ ⟨_, _, _, _, h⟩ => h.elim⟩

/-! ### blocks -/
def sNx : SDen := fun env => .ok .nx env
def sSeq (m k : SDen) : SDen := fun env => match m env with
  | .ok .nx env1 => k env1
  | o => o
section
variable {X : Cx} {T : Th} {m k : SDen} {st : Stmt} {rest : List Stmt}
theorem gss_nil : PSs X [] (tDS T sNx) := pss_nil.to fun E σ H ⟨P, O, env, he, q⟩ => q σ H O .refl he
theorem gss_cons (h1 : PS X st (tDS T m)) (h2 : PSs X rest (tDS T k)) : PSs X (st :: rest) (tDS T (sSeq m k)) := (pss_cons h1 h2).to fun E σ H ⟨P, O, env, he, q⟩ => by
  refine ⟨P, O, env, he, ?_⟩
  unfold sSeq at q
  cases e : m env with
  | ok w env1 =>
    rw [e] at q
    cases w with
    | nx => exact fun σ' H' O' s e' => ⟨P, O', env1, e', RS.step q s⟩
    | rt w => exact q
    | bk => exact q
    | ct => exact q
  | ex x env1 => rw [e] at q; exact q
  | st => rw [e] at q; exact q
end

/-! ### plain statements -/
def bindS (m : EDen) (k : W → SDen) : SDen := fun env => match m env with
  | .ok w env1 => k w env1
  | .ex x env1 => .ex x env1
  | .st => .st
def slotOf (w : W) : Slot := match w.1 with
  | true => .ow w.2
  | false => .fz w.2
/-- a store: not onto what was lent -/
def putS (i : Nat) (s : Slot) (env : SEnv) : Option SEnv := match env[i]? with
  | some (.io _) => none
  | some _ => some (env.set i s)
  | none => none
section
variable {C : Cn} {H : Hp} {O : AS} {σ : L2.St} {env : SEnv}
theorem EnvOk.put {i : Nat} {v : V} {w : W} {env' : SEnv} (e : EnvOk C H O σ env) (r : ResOk C H O σ env v w) (h : putS i (slotOf w) env = some env') : EnvOk C H O (σ.set i (some v)) env' := by
  unfold putS at h
  cases g : env[i]? with
  | none => rw [g] at h; cases h
  | some s =>
    rw [g] at h
    have ns : ∀ d, s ≠ .io d := fun d z => by subst z; cases h
    have h' : env.set i (slotOf w) = env' := by cases s <;> first | exact Option.some.inj h | cases h
    subst h'
    have hi : i < env.length := (List.getElem?_eq_some_iff.mp g).1
    have hiσ : i < σ.length := by rw [← e.len]; exact hi
    have back : ∀ {n : Nat} {c : Addr}, n ≠ i → OwnAt (σ.set i (some v)) (env.set i (slotOf w)) n c → OwnAt σ env n c := fun {n c} hn ⟨x1, s, x2, x3⟩ => by
      rw [List.getElem?_set_ne (Ne.symm hn)] at x1 x2
      exact ⟨x1, s, x2, x3⟩
    have new : ∀ {c : Addr}, OwnAt (σ.set i (some v)) (env.set i (slotOf w)) i c → ∀ j, ¬ OwnAt σ env j c := fun {c} ⟨x1, s, x2, x3⟩ j hj => by
      rw [List.getElem?_set_self hiσ] at x1
      rw [List.getElem?_set_self hi] at x2
      cases x1
      cases x2
      obtain ⟨b, d⟩ := w
      cases b with
      | false => cases x3
      | true =>
        obtain ⟨p, ep, _, _, n⟩ := r
        cases ep
        exact n j hj
    refine ⟨by rw [List.length_set, List.length_set]; exact e.len, fun j o s g1 g2 => ?_, fun j k a hj hk => ?_, e.dis, e.pub, e.prv, fun j a hj => ?_, by rw [List.length_set]; exact e.sz⟩
    · by_cases hj : j = i
      · subst hj
        rw [List.getElem?_set_self hiσ] at g1
        rw [List.getElem?_set_self hi] at g2
        cases g1
        cases g2
        obtain ⟨b, d⟩ := w
        cases b with
        | false => exact .fz r
        | true =>
          obtain ⟨p, rfl, hO, hs, _⟩ := r
          exact .ow hO hs
      · rw [List.getElem?_set_ne (Ne.symm hj)] at g1 g2
        exact e.ok j o s g1 g2
    · by_cases hj' : j = i
      · by_cases hk' : k = i
        · rw [hj', hk']
        · subst hj'
          exact absurd (back hk' hk) (new hj k)
      · by_cases hk' : k = i
        · subst hk'
          exact absurd (back hj' hj) (new hk j)
        · exact e.one j k a (back hj' hj) (back hk' hk)
    · obtain ⟨q1, d', q2⟩ := e.lent j a hj
      have nj : j ≠ i := fun z => by
        rw [z, g] at q2
        cases q2
        exact ns _ rfl
      rw [List.getElem?_set_ne (Ne.symm nj), List.getElem?_set_ne (Ne.symm nj)]
      exact ⟨q1, d', q2⟩
end
section
variable {X : Cx} {T : Th} {m ma : EDen} {e : Expr} {pos pos' : Pos} {E : Ends} {σ : L2.St} {H : Hp}
theorem rs_bind {k : W → SDen} {O : AS} {env : SEnv} {R : VK} (he : EnvOk (T.cn P) H O σ env) (h : RS T P H O E (bindS m k env))
    (hk : ∀ v H1 O1 env1 w, Stp P H O H1 O1 → EnvOk (T.cn P) H1 O1 σ env1 → ResOk (T.cn P) H1 O1 σ env1 v w → RS T P H1 O1 E (k w env1) → R v H1) : tD T m σ H R := by
  refine ⟨P, O, env, he, ?_⟩
  unfold bindS at h
  cases e : m env with
  | ok w env1 =>
    rw [e] at h
    exact fun v H' O' s e' r => hk v H' O' env1 w s e' r (RS.step h s)
  | ex x env1 => rw [e] at h; exact fun c d H' O' s' e' x' => h c d σ H' O' s' e' x'
  | st => rw [e] at h; exact h.elim
def sRet (m : EDen) : SDen := bindS m fun w env => .ok (.rt w) env
theorem gs_ret (h : PE X e (tD T m)) : PS X (.Return (some e) pos) (tDS T (sRet m)) := (ps_ret h).to fun E σ H ⟨P, O, env, he, q⟩ => rs_bind he q fun v H1 O1 env1 w s1 e1 r1 q1 => q1 v σ H1 O1 .refl e1 r1
def sRetN : SDen := fun env => .ok (.rt (false, .non)) env
theorem gs_retN : PS X (.Return none pos) (tDS T sRetN) := ps_retN.to fun E σ H ⟨P, O, env, he, q⟩ => q .non σ H O .refl he .non
def sExpr (m : EDen) : SDen := bindS m fun _ env => .ok .nx env
theorem gs_expr (h : PE X e (tD T m)) (hs : swapsWith e none pos.line X.env = pure false) : PS X (.Expr e pos) (tDS T (sExpr m)) := (ps_expr h hs).to fun E σ H ⟨P, O, env, he, q⟩ => rs_bind he q fun v H1 O1 env1 w s1 e1 r1 q1 => q1 σ H1 O1 .refl e1
theorem gs_pass : PS X (.Pass pos) (tDS T sNx) := ps_pass.to fun E σ H ⟨P, O, env, he, q⟩ => q σ H O .refl he
def sBk : SDen := fun env => .ok .bk env
def sCt : SDen := fun env => .ok .ct env
theorem gs_break : PS X (.Break pos) (tDS T sBk) := ps_break.to fun E σ H ⟨P, O, env, he, q⟩ => q σ H O .refl he
theorem gs_continue : PS X (.Continue pos) (tDS T sCt) := ps_continue.to fun E σ H ⟨P, O, env, he, q⟩ => q σ H O .refl he
def sIf (c : TDen) (m k : SDen) : SDen := fun env => match c env with
  | .ok true env1 => m env1
  | .ok false env1 => k env1
  | .ex x env1 => .ex x env1
  | .st => .st
theorem gs_if {c : Expr} {a b : List Stmt} {tc : TDen} {m k : SDen} (hc : PT X c (tDT T tc)) (ha : PSs X a (tDS T m)) (hb : PSs X b (tDS T k)) : PS X (.If c a b pos) (tDS T (sIf tc m k)) := (ps_if hc ha hb).to fun E σ H ⟨P, O, env, he, q⟩ => by
  refine ⟨P, O, env, he, ?_⟩
  unfold sIf at q
  cases e : tc env with
  | ok b env1 =>
    rw [e] at q
    cases b with
    | true => exact fun H' O' s e' => ⟨P, O', env1, e', RS.step q s⟩
    | false => exact fun H' O' s e' => ⟨P, O', env1, e', RS.step q s⟩
  | ex x env1 => rw [e] at q; exact fun c d H' O' s' e' x' => q c d σ H' O' s' e' x'
  | st => rw [e] at q; exact q
def nxO (o : Option SEnv) : Out Fl := match o with
  | some env => .ok .nx env
  | none => .st
def sAsg (i : Nat) (m : EDen) : SDen := bindS m fun w env => nxO (putS i (slotOf w) env)
theorem rs_asg (i : Nat) (q : tDS T (sAsg i m) E σ H) : tAsg (tD T m) (gName i) E σ H := by
  obtain ⟨P, O, env, he, q⟩ := q
  refine rs_bind he q fun v H1 O1 env1 w s1 e1 r1 q1 => ?_
  cases g : putS i (slotOf w) env1 with
  | none => rw [g] at q1; exact q1.elim
  | some env2 => rw [g] at q1; exact q1 _ H1 O1 .refl (e1.put r1 g)
theorem gs_set {i : Nat} {x : Str} (hN : X.N.Nodup) (hi : X.N[i]? = some x) (hx : Loc X.env.scope x) (he : PE X e (tD T m)) (hs : swapsWith e (some (.Name x pos')) pos.line X.env = pure false) (hf : X.fn x = true ∨ X.env.scope.names.lookup x = some .local) :
    PS X (.Assign [.Name x pos'] e pos) (tDS T (sAsg i m)) := (ps_set hN hi hx he hs hf).to fun E σ H q => rs_asg i q
end
end DL
set_option maxHeartbeats 8000000
/-! DL4: while, for, comprehensions. -/
namespace DL
open PySem PySem.Spec PyProof.Rows L2

/-! ### while -/
def sWhile (c : TDen) (b : SDen) : Nat → SDen
  | 0 => sSt
  | n + 1 => fun env => match c env with
    | .ok true env1 => (match b env1 with
      | .ok .nx env2 => sWhile c b n env2
      | .ok .ct env2 => sWhile c b n env2
      | .ok .bk env2 => .ok .nx env2
      | .ok (.rt w) env2 => .ok (.rt w) env2
      | .ex x env2 => .ex x env2
      | .st => .st)
    | .ok false env1 => .ok .nx env1
    | .ex x env1 => .ex x env1
    | .st => .st
section
variable {X : Cx} {T : Th}
theorem gs_while {c : Expr} {body : List Stmt} {tc : TDen} {m : SDen} {pos : Pos} (n : Nat) (hp : PassesOwn (model X.prog X.w) X.A X.env X.xe) (hc : PT X c (tDT T tc)) (hb : PSs X body (tDS T m)) :
    PS X (.While c body [] pos) (tDS T (sWhile tc m n)) := (ps_while hp hc hb).to fun E σ H ⟨P, O, env, he, q⟩ => by
  refine ⟨fun k σ H => ∃ P O env, EnvOk (T.cn P) H O σ env ∧ RS T P H O E (sWhile tc m k env), ⟨n, P, O, env, he, q⟩, ?_⟩
  rintro k σ H ⟨P, O, env, he, q⟩
  cases k with
  | zero => exact q.elim
  | succ k =>
    refine ⟨P, O, env, he, ?_⟩
    unfold sWhile at q
    cases e : tc env with
    | st => rw [e] at q; exact q
    | ex x env1 => rw [e] at q; exact fun c d H' O' s' e' x' => q c d σ H' O' s' e' x'
    | ok b env1 =>
      cases b with
      | false =>
        rw [e] at q
        exact fun H1 O1 s1 e1 => q σ H1 O1 s1 e1
      | true =>
        simp only [e] at q
        intro H1 O1 s1 e1
        rw [if_pos rfl]
        refine ⟨fun σ' H' => ∃ P O env, EnvOk (T.cn P) H' O σ' env ∧ RS T P H' O E (sWhile tc m k env), fun σ' H' w => ⟨k, Nat.lt_succ_self k, w⟩, P, O1, env1, e1, ?_⟩
        cases g : m env1 with
        | st => simp only [g] at q; exact q
        | ex x env2 => simp only [g] at q; exact RS.step q s1
        | ok w env2 =>
          simp only [g] at q
          cases w with
          | nx => exact fun σ' H' O' s' e' => ⟨P, O', env2, e', RS.step q (s1.trans s')⟩
          | ct => exact fun σ' H' O' s' e' => ⟨P, O', env2, e', RS.step q (s1.trans s')⟩
          | bk => exact fun σ' H' O' s' e' => q σ' H' O' (s1.trans s') e'
          | rt w => exact fun v σ' H' O' s' e' r' => q v σ' H' O' (s1.trans s') e' r'
end

/-! ### targets -/
abbrev GDen := D → SEnv → Option SEnv
/-- but for the slots ks alike -/
def Agr (ks : List Nat) (τ σ : L2.St) : Prop := τ.length = σ.length ∧ ∀ i, i ∉ ks → τ[i]? = σ[i]?
def tDG (T : Th) (g : GDen) (ks : List Nat) : TG := fun v σ H Q => ∃ P O env d, EnvOk (T.cn P) H O σ env ∧ Rep T.K (hid H (Un2 O P)) v d ∧ match g d env with
  | some env' => ∀ σ' H' O', Stp P H O H' O' → EnvOk (T.cn P) H' O' σ' env' → Agr ks σ' σ → Q σ' H'
  | none => False
theorem _root_.L2.PG.to {X : Cx} {e : Expr} {t t' : TG} (h : PG X e t) (i : ∀ v σ H Q, t' v σ H Q → t v σ H Q) : PG X e t' := ⟨fun pins s σ H v u Q I r q => h.run pins s σ H v u Q I r (i v σ H Q q)⟩
def gSt : GDen := fun _ _ => none
def gNm (i : Nat) : GDen := fun d env => putS i (.fz d) env
section
variable {X : Cx} {T : Th} {pos : Pos}
theorem gg_st {e : Expr} : PG X e (tDG T gSt []) := ⟨fun _ _ _ _ _ _ _ _ _ ⟨_, _, _, _, _, _, h⟩ => h.elim⟩
theorem gg_name {i : Nat} {x : Str} (hN : X.N.Nodup) (hi : X.N[i]? = some x) (hx : Loc X.env.scope x) (hf : X.fn x = true ∨ X.env.scope.names.lookup x = some .local) : PG X (.Name x pos) (tDG T (gNm i) [i]) :=
  (pg_name hN hi hx hf).to fun v σ H Q ⟨P, O, env, d, he, r, q⟩ => by
    unfold gNm at q
    cases g : putS i (.fz d) env with
    | none => rw [g] at q; exact q.elim
    | some env' => rw [g] at q; exact q _ H O .refl (he.put (w := (false, d)) r g) ⟨List.length_set, fun j hj => List.getElem?_set_ne fun z => hj (by rw [z]; exact List.mem_cons_self)⟩
abbrev GsDen := List D → SEnv → Option SEnv
def tDGs (T : Th) (g : GsDen) (ks : List Nat) : TGs := fun vs σ H Q => ∃ P O env ds, EnvOk (T.cn P) H O σ env ∧ Reps T.K (hid H (Un2 O P)) vs ds ∧ match g ds env with
  | some env' => ∀ σ' H' O', Stp P H O H' O' → EnvOk (T.cn P) H' O' σ' env' → Agr ks σ' σ → Q σ' H'
  | none => False
theorem _root_.L2.PGs.to {X : Cx} {e : List Expr} {t t' : TGs} (h : PGs X e t) (i : ∀ v σ H Q, t' v σ H Q → t v σ H Q) : PGs X e t' := ⟨fun pins s σ H v u Q I r q => h.run pins s σ H v u Q I r (i v σ H Q q)⟩
def gsNil : GsDen := fun ds env => match ds with
  | [] => some env
  | _ => none
def gsCons (g : GDen) (k : GsDen) : GsDen := fun ds env => match ds with
  | d :: r => (match g d env with
    | some env1 => k r env1
    | none => none)
  | [] => none
theorem ggs_nil : PGs X [] (tDGs T gsNil []) := pgs_nil.to fun vs σ H Q ⟨P, O, env, ds, he, r, q⟩ => by
  cases r with
  | nil => exact ⟨rfl, q σ H O .refl he ⟨rfl, fun _ _ => rfl⟩⟩
  | cons _ _ => exact q.elim
theorem ggs_cons {e : Expr} {es : List Expr} {g : GDen} {k : GsDen} {ks ks' : List Nat} (h1 : PG X e (tDG T g ks)) (h2 : PGs X es (tDGs T k ks')) (hs : (assignEach (e :: es) X.env).map (·.2) = assign e X.env :: (assignEach es X.env).map (·.2)) : PGs X (e :: es) (tDGs T (gsCons g k) (ks ++ ks')) :=
  (pgs_cons h1 h2 hs).to fun vs σ H Q ⟨P, O, env, ds, he, r, q⟩ => by
    cases r with
    | nil => exact q.elim
    | @cons v d vs ds a b =>
      refine ⟨v, vs, rfl, P, O, env, d, he, a, ?_⟩
      have q : match (match g d env with
        | some env1 => k ds env1
        | none => none) with
        | some env' => ∀ σ' H' O', Stp P H O H' O' → EnvOk (T.cn P) H' O' σ' env' → Agr (ks ++ ks') σ' σ → Q σ' H'
        | none => False := q
      cases e1 : g d env with
      | none => simp only [e1] at q
      | some env1 =>
        simp only [e1] at q
        intro σ1 H1 O1 s1 e1 a1
        refine ⟨P, O1, env1, ds, e1, b.mono s1.same, ?_⟩
        cases e2 : k ds env1 with
        | none => simp only [e2] at q
        | some env2 =>
          simp only [e2] at q
          exact fun σ' H' O' s' e' a' => q σ' H' O' (s1.trans s') e' ⟨a'.1.trans a1.1, fun i hi => (a'.2 i fun z => hi (List.mem_append_right _ z)).trans (a1.2 i fun z => hi (List.mem_append_left _ z))⟩
def gTu (k : GsDen) (n : Nat) : GDen := fun d env => match d with
  | .tup ds => if ds.length = n then k ds env else none
  | _ => none
theorem gg_tup {es : List Expr} {kk : Nat} {k : GsDen} {n : Nat} {ks : List Nat} (hK : X.K = T.K) (hc : X.calm = true) (h : PGs X es (tDGs T k ks)) (hn : (assignEach es X.env).length = n) (hst : (assignEach es X.env).findIdx? (·.1) = none) : PG X (.Tuple es kk pos) (tDG T (gTu k n) ks) :=
  (pg_tup hc h hn hst).to fun v σ H Q ⟨P, O, env, d, he, r, q⟩ => by
    cases r with
    | @tup a vs ds sq rs =>
      have q : match (if ds.length = n then k ds env else none) with
        | some env' => ∀ σ' H' O', Stp P H O H' O' → EnvOk (T.cn P) H' O' σ' env' → Agr ks σ' σ → Q σ' H'
        | none => False := q
      by_cases hl : ds.length = n
      · rw [if_pos hl] at q
        exact ⟨a, vs, rfl, by rw [hK]; exact hid_sqT sq, rs.length.trans hl, P, O, env, ds, he, rs, q⟩
      · rw [if_neg hl] at q
        exact q.elim
    | _ => exact q.elim
/-- x, y = e -/
def sUnp (g : GDen) (m : EDen) : SDen := bindS m fun w env => nxO (g w.2 env)
theorem gs_unp {tg e : Expr} {g : GDen} {m : EDen} {ks : List Nat} (he : PE X e (tD T m)) (hg : PG X tg (tDG T g ks)) (hs : swapsWithSole [tg] e pos.line X.env = pure false) (hw : swappedStores [tg] e X.env = pure none) (h1 : (assignEach [tg] X.env).map (·.2) = [assign tg X.env]) :
    PS X (.Assign [tg] e pos) (tDS T (sUnp g m)) := (ps_asg he hg hs hw h1).to fun E σ H ⟨P, O, env, he, q⟩ => rs_bind he q fun v H1 O1 env1 w s1 e1 r1 q1 => by
  obtain ⟨O2, s2, e2, r2⟩ := r1.frz e1
  refine ⟨P, O2, env1, w.2, e2, r2, ?_⟩
  cases e3 : g w.2 env1 with
  | none => rw [e3] at q1; exact q1.elim
  | some env2 => rw [e3] at q1; exact fun σ' H' O' s' e' _ => q1 σ' H' O' (s2.trans s') e'
end

/-! ### what is walked -/
/-- the heap as it was, or with a new tuple -/
def NewT (H H' : Hp) : Prop := H' = H ∨ ∃ q vs, H q = none ∧ H' = upd H q (.tup vs)
/-- J walks the data ds, from (H0, O0) on -/
def WalkD (C : Cn) (J : It) (ds : List D) (H0 : Hp) (O0 : AS) : Prop := ∃ (G : Hp → Prop) (Y : Nat → Hp → V → Hp → Prop), Walk J ds.length G Y ∧ (∀ H O, Stp C.P H0 O0 H O → G H) ∧
  ∀ (i : Nat) (H : Hp) (x : V) (H' : Hp), i < ds.length → Y i H x H' → NewT H H' ∧ ∃ d, ds[i]? = some d ∧ ∀ S : AS, (∀ a, S a → ∃ o, H a = some o) → Same (hid H0 (Un2 O0 C.P)) (hid H S) → Rep C.K (hid H' S) x d
theorem EnvOk.newT {C : Cn} {H H' : Hp} {O : AS} {σ : L2.St} {env : SEnv} (e : EnvOk C H O σ env) (n : NewT H H') : EnvOk C H' O σ env := by
  rcases n with rfl | ⟨q, vs, hq, rfl⟩
  · exact e
  · exact e.new hq
theorem NewT.stp {P : AS} {H H' : Hp} {O : AS} (n : NewT H H') : Stp P H O H' O := by
  rcases n with rfl | ⟨q, vs, hq, rfl⟩
  · exact .refl
  · exact stp_new hq
theorem EnvOk.hidden {C : Cn} {H : Hp} {O : AS} {σ : L2.St} {env : SEnv} (e : EnvOk C H O σ env) : ∀ a, Un2 O C.P a → ∃ o, H a = some o := fun a h => h.elim (e.pub a) (e.prv a)
abbrev IDen := SEnv → Out (List D)
def RI (T : Th) (P : AS) (σ : L2.St) (H : Hp) (O : AS) (R : It → Hp → Prop) : Out (List D) → Prop
  | .ok ds env' => ∀ J H' O', Stp P H O H' O' → EnvOk (T.cn P) H' O' σ env' → WalkD (T.cn P) J ds H' O' → R J H'
  | .ex x env' => ∀ cls dd H' O', Stp P H O H' O' → EnvOk (T.cn P) H' O' σ env' → ExOk T.K (hid H' (Un2 O' P)) cls dd x → T.W cls dd σ H'
  | .st => False
def tDI (T : Th) (m : IDen) : TI := fun σ H R => ∃ P O env, EnvOk (T.cn P) H O σ env ∧ RI T P σ H O R (m env)
def sLoop (g : GDen) (b : SDen) : List D → SDen
  | [] => sNx
  | d :: ds => fun env => match g d env with
    | some env1 => (match b env1 with
      | .ok .nx env2 => sLoop g b ds env2
      | .ok .ct env2 => sLoop g b ds env2
      | .ok .bk env2 => .ok .nx env2
      | .ok (.rt w) env2 => .ok (.rt w) env2
      | .ex x env2 => .ex x env2
      | .st => .st)
    | none => .st
def sFor (m : IDen) (g : GDen) (b : SDen) : SDen := fun env => match m env with
  | .ok ds env1 => sLoop g b ds env1
  | .ex x env1 => .ex x env1
  | .st => .st
section
variable {X : Cx} {T : Th} {pos : Pos}
theorem gs_for {tg iter : Expr} {body : List Stmt} {mi : IDen} {g : GDen} {m : SDen} {ks : List Nat} (hp : PassesOwn (model X.prog X.w) X.A X.env X.xe) (hc : X.calm = true) (hi : PI X tg iter (tDI T mi)) (hg : PG X tg (tDG T g ks)) (hb : PSs X body (tDS T m))
    (hs : ∀ x, foldedSetIterable iter X.env x = pure x) : PS X (.For tg iter body [] pos) (tDS T (sFor mi g m)) := (ps_for hp hc hi hg hb hs).to fun E σ H ⟨P, O, env, he, q⟩ => by
  refine ⟨P, O, env, he, ?_⟩
  unfold sFor at q
  cases e : mi env with
  | st => rw [e] at q; exact q
  | ex x env1 => rw [e] at q; exact fun c d H' O' s' e' x' => q c d σ H' O' s' e' x'
  | ok ds env1 =>
    simp only [e] at q
    intro J H1 O1 s1 e1 wd
    obtain ⟨G, Y, wk, hG, hY⟩ := wd
    have q1 := RS.step q s1
    refine for_it wk (fun i σ H => i ≤ ds.length ∧ ∃ O env, EnvOk (T.cn P) H O σ env ∧ Stp P H1 O1 H O ∧ RS T P H O E (sLoop g m (ds.drop i) env)) ⟨Nat.zero_le _, O1, env1, e1, .refl, q1⟩ (fun i σ H _ ⟨_, O, env, _, st, _⟩ => hG H O st) (fun i x σ2 H2 H3 hlt ⟨_, O2, env2, e2, st2, q2⟩ y => ?_) (fun σ2 H2 ⟨_, O2, env2, e2, st2, q2⟩ => ?_)
    · obtain ⟨nt, d, hd, rep⟩ := hY i H2 x H3 hlt y
      have st3 : Stp P H2 O2 H3 O2 := nt.stp
      have e3 := e2.newT nt
      have rd := rep _ e2.hidden st2.same
      have hdr : ds.drop i = d :: ds.drop (i + 1) := by
        rw [List.drop_eq_getElem_cons hlt]
        congr 1
        exact Option.some.inj ((List.getElem?_eq_getElem hlt).symm.trans hd)
      rw [hdr] at q2
      unfold sLoop at q2
      refine ⟨P, O2, env2, d, e3, rd, ?_⟩
      cases eg : g d env2 with
      | none => simp only [eg] at q2; exact q2
      | some env3 =>
        simp only [eg] at q2
        intro σ4 H4 O4 st4 e4 _
        have q4 := fun o (h : o = (match m env3 with
          | .ok .nx env2 => sLoop g m (ds.drop (i + 1)) env2
          | .ok .ct env2 => sLoop g m (ds.drop (i + 1)) env2
          | .ok .bk env2 => .ok .nx env2
          | .ok (.rt w) env2 => .ok (.rt w) env2
          | .ex x env2 => .ex x env2
          | .st => .st)) => RS.step (h ▸ q2 : RS T P H2 O2 E o) (st3.trans st4)
        refine ⟨P, O4, env3, e4, ?_⟩
        have all := st2.trans (st3.trans st4)
        cases em : m env3 with
        | st => exact q4 .st (by rw [em])
        | ex x env5 => exact q4 (.ex x env5) (by rw [em])
        | ok w env5 =>
          cases w with
          | nx => exact fun σ' H' O' s' e' => ⟨hlt, O', env5, e', all.trans s', RS.step (q4 _ (by rw [em])) s'⟩
          | ct => exact fun σ' H' O' s' e' => ⟨hlt, O', env5, e', all.trans s', RS.step (q4 _ (by rw [em])) s'⟩
          | bk => exact fun σ' H' O' s' e' => q4 (.ok .nx env5) (by rw [em]) σ' H' O' s' e'
          | rt w => exact fun v σ' H' O' s' e' r' => q4 (.ok (.rt w) env5) (by rw [em]) v σ' H' O' s' e' r'
    · rw [List.drop_length] at q2
      exact q2 σ2 H2 O2 .refl e2
end

/-! ### list comprehensions -/
def wipeE (env : SEnv) : List Nat → SEnv
  | [] => env
  | v :: vs => (wipeE env vs).set v .un
/-- own slots as they were, the others as they are -/
def backE (env0 env : SEnv) : List Nat → SEnv
  | [] => env
  | v :: vs => (backE env0 env vs).set v (env0.getD v .un)
/-- the own slots hold nothing owned ahead of the comprehension -/
def ownFree (env : SEnv) (vs : List Nat) : Bool := vs.all fun v => match env[v]? with
  | some .un => true
  | some (.fz _) => true
  | _ => false
def lcLoop (g : GDen) (tt : TDen) (el : EDen) (own : List Nat) : List D → List D → SEnv → Out (List D)
  | [], acc, env => .ok acc env
  | d :: ds, acc, env => match g d env with
    | none => .st
    | some env1 => (match tt env1 with
      | .ok true env2 => (match el env2 with
        | .ok w env3 => if acc.length < sizeLine then lcLoop g tt el own ds (acc ++ [w.2]) (wipeE env3 own) else .st
        | _ => .st)
      | .ok false env2 => lcLoop g tt el own ds acc (wipeE env2 own)
      | _ => .st)
def dLc (mi : IDen) (g : GDen) (tt : TDen) (el : EDen) (own : List Nat) : EDen := fun env => match mi env with
  | .ok ds env1 => if ownFree env1 own then (match lcLoop g tt el own ds [] (wipeE env1 own) with
      | .ok acc env2 => .ok (true, .lst acc) (backE env1 env2 own)
      | _ => .st) else .st
  | .ex x e => .ex x e
  | .st => .st
section
variable {C : Cn} {H H' : Hp} {O O' : AS} {σ : L2.St} {env env0 : SEnv}
theorem wipeE_length (env : SEnv) : ∀ vs : List Nat, (wipeE env vs).length = env.length
  | [] => rfl
  | v :: vs => by unfold wipeE; rw [List.length_set, wipeE_length env vs]
theorem backE_length (env0 env : SEnv) : ∀ vs : List Nat, (backE env0 env vs).length = env.length
  | [] => rfl
  | v :: vs => by unfold backE; rw [List.length_set, backE_length env0 env vs]
theorem wipeE_out (env : SEnv) {i : Nat} : ∀ {vs : List Nat}, i ∉ vs → (wipeE env vs)[i]? = env[i]?
  | [], _ => rfl
  | v :: vs, h => by
    unfold wipeE
    rw [List.getElem?_set_ne (fun z => h (by rw [z]; exact List.mem_cons_self))]
    exact wipeE_out env fun z => h (List.mem_cons_of_mem _ z)
theorem wipeE_in (env : SEnv) {i : Nat} : ∀ {vs : List Nat}, i ∈ vs → i < env.length → (wipeE env vs)[i]? = some .un
  | v :: vs, h, hi => by
    unfold wipeE
    by_cases e : v = i
    · subst e
      rw [List.getElem?_set_self (by rw [wipeE_length]; exact hi)]
    · rw [List.getElem?_set_ne e]
      exact wipeE_in env ((List.mem_cons.mp h).elim (fun z => absurd z.symm e) id) hi
theorem backE_out (env0 env : SEnv) {i : Nat} : ∀ {vs : List Nat}, i ∉ vs → (backE env0 env vs)[i]? = env[i]?
  | [], _ => rfl
  | v :: vs, h => by
    unfold backE
    rw [List.getElem?_set_ne (fun z => h (by rw [z]; exact List.mem_cons_self))]
    exact backE_out env0 env fun z => h (List.mem_cons_of_mem _ z)
theorem backE_in (env0 env : SEnv) {i : Nat} : ∀ {vs : List Nat}, i ∈ vs → i < env.length → (backE env0 env vs)[i]? = some (env0.getD i .un)
  | v :: vs, h, hi => by
    unfold backE
    by_cases e : v = i
    · subst e
      rw [List.getElem?_set_self (by rw [backE_length]; exact hi)]
    · rw [List.getElem?_set_ne e]
      exact backE_in env0 env ((List.mem_cons.mp h).elim (fun z => absurd z.symm e) id) hi
theorem wipe_out (σ : L2.St) {i : Nat} : ∀ {vs : List Nat}, i ∉ vs → (wipe σ vs)[i]? = σ[i]?
  | [], _ => rfl
  | v :: vs, h => by
    unfold wipe
    rw [List.getElem?_set_ne (fun z => h (by rw [z]; exact List.mem_cons_self))]
    exact wipe_out σ fun z => h (List.mem_cons_of_mem _ z)
theorem EnvOk.wiped (e : EnvOk C H O σ env) (vs : List Nat) (hf : ∀ i a, (i, a) ∈ C.io → i ∉ vs) : EnvOk C H O (wipe σ vs) (wipeE env vs) := by
  have back : ∀ {n : Nat} {c : Addr}, OwnAt (wipe σ vs) (wipeE env vs) n c → OwnAt σ env n c := fun {n c} ⟨x1, s, x2, x3⟩ => by
    by_cases hn : n ∈ vs
    · by_cases hl : n < env.length
      · rw [wipeE_in env hn hl] at x2
        cases x2
        cases x3
      · have : (wipeE env vs)[n]? = none := List.getElem?_eq_none_iff.mpr (by rw [wipeE_length]; omega)
        rw [this] at x2
        cases x2
    · rw [wipe_out σ hn] at x1
      rw [wipeE_out env hn] at x2
      exact ⟨x1, s, x2, x3⟩
  refine ⟨by rw [wipeE_length, wipe_length]; exact e.len, fun i o s h1 h2 => ?_, fun i j a hi hj => e.one i j a (back hi) (back hj), e.dis, e.pub, e.prv, fun i a h => ?_, by rw [wipe_length]; exact e.sz⟩
  · by_cases hn : i ∈ vs
    · have hl : i < env.length := by
        have := (List.getElem?_eq_some_iff.mp h2).1
        rw [wipeE_length] at this
        exact this
      rw [wipeE_in env hn hl] at h2
      cases h2
      exact .un
    · rw [wipe_out σ hn] at h1
      rw [wipeE_out env hn] at h2
      exact e.ok i o s h1 h2
  · obtain ⟨q1, d, q2⟩ := e.lent i a h
    have hn : i ∉ vs := hf i a h
    rw [wipe_out σ hn, wipeE_out env hn]
    exact ⟨q1, d, q2⟩
theorem EnvOk.backed (e0 : EnvOk C H O σ env0) (s : Stp C.P H O H' O') (e : EnvOk C H' O' (wipe σ vs) env) (vs' : vs = vs) (hf : ownFree env0 vs = true) : EnvOk C H' O' σ (backE env0 env vs) := by
  have hlen : env.length = env0.length := by rw [e.len, wipe_length]; exact e0.len.symm
  have free : ∀ v ∈ vs, ∀ s, env0[v]? = some s → s.owned = false := fun v hv s hs => by
    have q := List.all_eq_true.mp hf v hv
    simp only [hs] at q
    cases s <;> first | rfl | cases q
  have inn : ∀ {i : Nat} {s : Slot}, i ∈ vs → (backE env0 env vs)[i]? = some s → env0[i]? = some s := fun {i s} hi h => by
    have hl : i < env.length := by
      have := (List.getElem?_eq_some_iff.mp h).1
      rw [backE_length] at this
      exact this
    rw [backE_in env0 env hi hl] at h
    cases h
    have hl0 : i < env0.length := by omega
    rw [List.getD_eq_getElem?_getD, List.getElem?_eq_getElem hl0]
    rfl
  have back : ∀ {n : Nat} {c : Addr}, OwnAt σ (backE env0 env vs) n c → OwnAt (wipe σ vs) env n c := fun {n c} ⟨x1, s, x2, x3⟩ => by
    by_cases hn : n ∈ vs
    · rw [free n hn s (inn hn x2)] at x3
      cases x3
    · rw [backE_out env0 env hn] at x2
      exact ⟨by rw [wipe_out σ hn]; exact x1, s, x2, x3⟩
  refine ⟨by rw [backE_length, hlen]; exact e0.len, fun i o s' h1 h2 => ?_, fun i j a hi hj => e.one i j a (back hi) (back hj), e.dis, e.pub, e.prv, fun i a h => ?_, e0.sz⟩
  · by_cases hn : i ∈ vs
    · have h0 := inn hn h2
      have fr := free i hn s' h0
      cases e0.ok i o s' h1 h0 with
      | un => exact .un
      | fz r => exact .fz (r.mono s.same)
      | xc hx => exact .xc (hx.mono s.same)
      | ow _ _ => cases fr
      | io _ _ => cases fr
    · rw [backE_out env0 env hn] at h2
      exact e.ok i o s' (by rw [wipe_out σ hn]; exact h1) h2
  · obtain ⟨q1, d, q2⟩ := e0.lent i a h
    have hn : i ∉ vs := fun z => by
      have := free i z _ q2
      cases this
    obtain ⟨q3, d', q4⟩ := e.lent i a h
    exact ⟨q1, d', by rw [backE_out env0 env hn]; exact q4⟩
end
end DL
set_option maxHeartbeats 8000000
/-! DL5: comprehensions' rule; what is walked. -/
namespace DL
open PySem PySem.Spec PyProof.Rows L2

def Th.in0 (T : Th) : Th := ⟨T.K, T.io, T.n, fun _ _ _ _ => False, T.xp⟩
abbrev AddP (P : AS) (p : Addr) : AS := fun a => P a ∨ a = p
theorem Stp.any {P P' : AS} {H H' : Hp} {O O' : AS} (s : Stp P H O H' O') : Stp P' H O H' O' := ⟨s.keep, s.live⟩
theorem ownAt_back {σ : L2.St} {env0 env : SEnv} {vs : List Nat} (hlen : env.length = env0.length) (hf : ownFree env0 vs = true) {n : Nat} {c : Addr} (h : OwnAt σ (backE env0 env vs) n c) : OwnAt (wipe σ vs) env n c := by
  obtain ⟨x1, s, x2, x3⟩ := h
  by_cases hn : n ∈ vs
  · have hl : n < env.length := by
      have := (List.getElem?_eq_some_iff.mp x2).1
      rw [backE_length] at this
      exact this
    rw [backE_in env0 env hn hl] at x2
    cases x2
    have hl0 : n < env0.length := by omega
    have q := List.all_eq_true.mp hf n hn
    rw [List.getD_eq_getElem?_getD, List.getElem?_eq_getElem hl0] at x3
    rw [List.getElem?_eq_getElem hl0] at q
    generalize env0[n] = s at q x3
    cases s with
    | un => cases x3
    | xc _ => cases x3
    | fz _ => cases x3
    | ow _ => cases q
    | io _ => cases q
  · rw [backE_out env0 env hn] at x2
    exact ⟨by rw [wipe_out σ hn]; exact x1, s, x2, x3⟩
section
variable {K : PySem.W.Frag} {io : List (Nat × Addr)} {nn : Nat} {xp : Xp} {P : AS} {p : Addr} {H H' : Hp} {O : AS} {σ : L2.St} {env : SEnv} {o : HO}
/-- a hidden private address more -/
theorem EnvOk.priv (e : EnvOk ⟨K, P, io, nn, xp⟩ H O σ env) (hp : H p = none) : EnvOk ⟨K, AddP P p, io, nn, xp⟩ (upd H p o) O σ env := by
  have sm : Same (hid H (Un2 O P)) (hid (upd H p o) (Un2 O (AddP P p))) := fun a u q => by
    obtain ⟨q1, q2⟩ := hid_some.mp q
    have na := ne_of_none q2 hp
    exact hid_some.mpr ⟨fun z => z.elim (fun y => q1 (.inl y)) fun y => y.elim (fun y => q1 (.inr y)) na, by rw [upd_ne na]; exact q2⟩
  have nO : ∀ a, O a → a ≠ p := fun a hO => let ⟨u, h'⟩ := e.pub a hO; ne_of_none h' hp
  refine ⟨e.len, fun i v s h1 h2 => ?_, e.one, fun a z => z.elim (e.dis a) fun y hO => nO a hO y, fun a hO => ?_, fun a z => ?_, e.lent, e.sz⟩
  · cases e.ok i v s h1 h2 with
    | un => exact .un
    | fz r => exact .fz (r.mono sm)
    | xc hx => exact .xc (hx.mono sm)
    | ow hO r => exact .ow hO (r.mono (upd_ne (nO _ hO)) sm)
    | io hO r => exact .io hO (r.mono (upd_ne (nO _ hO)) sm)
  · obtain ⟨u, h'⟩ := e.pub a hO
    exact ⟨u, by rw [upd_ne (nO a hO)]; exact h'⟩
  · rcases z with z | z
    · obtain ⟨u, h'⟩ := e.prv a z
      exact ⟨u, by rw [upd_ne (ne_of_none h' hp)]; exact h'⟩
    · exact ⟨o, by rw [z]; exact upd_same⟩
/-- what is private changes -/
theorem EnvOk.privSet (e : EnvOk ⟨K, AddP P p, io, nn, xp⟩ H O σ env) : EnvOk ⟨K, AddP P p, io, nn, xp⟩ (upd H p o) O σ env := by
  have nO : ∀ a, O a → a ≠ p := fun a hO z => e.dis a (.inr z) hO
  have sm : Same (hid H (Un2 O (AddP P p))) (hid (upd H p o) (Un2 O (AddP P p))) := fun a u q => by
    obtain ⟨q1, q2⟩ := hid_some.mp q
    have na : a ≠ p := fun z => q1 (.inr (.inr z))
    exact hid_some.mpr ⟨q1, by rw [upd_ne na]; exact q2⟩
  refine ⟨e.len, fun i v s h1 h2 => ?_, e.one, e.dis, fun a hO => ?_, fun a z => ?_, e.lent, e.sz⟩
  · cases e.ok i v s h1 h2 with
    | un => exact .un
    | fz r => exact .fz (r.mono sm)
    | xc hx => exact .xc (hx.mono sm)
    | ow hO r => exact .ow hO (r.mono (upd_ne (nO _ hO)) sm)
    | io hO r => exact .io hO (r.mono (upd_ne (nO _ hO)) sm)
  · obtain ⟨u, h'⟩ := e.pub a hO
    exact ⟨u, by rw [upd_ne (nO a hO)]; exact h'⟩
  · by_cases h : a = p
    · exact ⟨o, by rw [h]; exact upd_same⟩
    · obtain ⟨u, h'⟩ := e.prv a z
      exact ⟨u, by rw [upd_ne h]; exact h'⟩
theorem wipe_in (σ : L2.St) {i : Nat} : ∀ {vs : List Nat}, i ∈ vs → i < σ.length → (wipe σ vs)[i]? = some none
  | v :: vs, h, hi => by
    unfold wipe
    by_cases e : v = i
    · subst e
      rw [List.getElem?_set_self (by rw [wipe_length]; exact hi)]
    · rw [List.getElem?_set_ne e]
      exact wipe_in σ ((List.mem_cons.mp h).elim (fun z => absurd z.symm e) id) hi
theorem wipe_eq {σ τ : L2.St} {vs : List Nat} (hl : τ.length = σ.length) (h : ∀ i, i ∉ vs → τ[i]? = (wipe σ vs)[i]?) : wipe τ vs = wipe σ vs := by
  refine List.ext_getElem? fun i => ?_
  by_cases hi : i ∈ vs
  · by_cases hb : i < σ.length
    · rw [wipe_in σ hi hb, wipe_in τ hi (by omega)]
    · rw [List.getElem?_eq_none_iff.mpr (by rw [wipe_length]; omega), List.getElem?_eq_none_iff.mpr (by rw [wipe_length]; omega)]
  · rw [wipe_out τ hi]
    exact h i hi
theorem EnvOk.rewipe (e : EnvOk ⟨K, P, io, nn, xp⟩ H O τ env) (hw : wipe τ vs = wipe σ vs) (hn : ∀ i a, (i, a) ∈ io → i ∉ vs) : EnvOk ⟨K, P, io, nn, xp⟩ H O (wipe σ vs) (wipeE env vs) := by
  rw [← hw]
  exact e.wiped vs hn
theorem un2_swap : Un2 O (AddP P p) = Un2 (AddP O p) P := by
  funext a
  exact propext ⟨fun z => z.elim (fun y => .inl (.inl y)) fun y => y.elim .inr fun q => .inl (.inr q), fun z => z.elim (fun y => y.elim .inl fun q => .inr (.inr q)) fun y => .inr (.inl y)⟩
/-- what is private becomes owned -/
theorem EnvOk.cede (e : EnvOk ⟨K, AddP P p, io, nn, xp⟩ H O σ env) (hp : ¬ P p) : EnvOk ⟨K, P, io, nn, xp⟩ H (AddP O p) σ env := by
  refine ⟨e.len, fun i v s h1 h2 => ?_, e.one, fun a hP z => z.elim (e.dis a (.inl hP)) fun y => hp (y ▸ hP), fun a z => ?_, fun a z => e.prv a (.inl z), e.lent, e.sz⟩
  · have q := e.ok i v s h1 h2
    have q : SlotOk K xp H (hid H (Un2 O (AddP P p))) O v s := q
    rw [un2_swap] at q
    show SlotOk K xp H (hid H (Un2 (AddP O p) P)) (AddP O p) v s
    cases q with
    | un => exact .un
    | fz r => exact .fz r
    | xc hx => exact .xc hx
    | ow hO r => exact .ow (.inl hO) r
    | io hO r => exact .io (.inl hO) r
  · rcases z with z | z
    · exact e.pub a z
    · exact e.prv a (.inr z)
end
section
variable {X : Cx} {T : Th} {pos : Pos}
theorem rd_lc {mi : IDen} {g : GDen} {tt : TDen} {el : EDen} {ks vs : List Nat} (hks : ∀ k ∈ ks, k ∈ vs) {σ : L2.St} {H : Hp} {Q : VK} (q : tD T (dLc mi g tt el vs) σ H Q) : tLc (tDI T mi) (tDG T.in0 g ks) (tDT T.in0 tt) (tD T.in0 el) vs σ H Q := by
  obtain ⟨P, O, env, he, q⟩ := q
  refine ⟨P, O, env, he, ?_⟩
  unfold dLc at q
  cases e : mi env with
  | st => rw [e] at q; exact q
  | ex x env1 => rw [e] at q; exact q
  | ok ds env1 =>
    simp only [e] at q
    by_cases hf : ownFree env1 vs = true
    · rw [if_pos hf] at q
      cases hl : lcLoop g tt el vs ds [] (wipeE env1 vs) with
      | st => simp only [hl] at q; exact q.elim
      | ex x env2 => simp only [hl] at q; exact q.elim
      | ok accF envF =>
        simp only [hl] at q
        intro J H1 O1 s1 e1 wd
        obtain ⟨G, Y, wk, hG, hY⟩ := wd
        intro D hD
        have noio : ∀ i a, (i, a) ∈ T.io → i ∉ vs := fun i a h hv => by
          obtain ⟨_, d, z⟩ := e1.lent i a h
          have := List.all_eq_true.mp hf i hv
          simp only [z] at this
          cases this
        have nP : ¬ P D := fun z => by
          obtain ⟨u, h'⟩ := e1.prv D z
          rw [hD] at h'
          cases h'
        refine lc_it wk (fun i H => i ≤ ds.length ∧ ∃ O2 env2 accv acc, EnvOk ⟨T.K, AddP P D, T.io, T.n, T.xp⟩ H O2 (wipe σ vs) env2 ∧ Stp P H1 O1 H O2 ∧ H D = some (.lst accv) ∧ Reps T.K (hid H (Un2 O2 (AddP P D))) accv acc ∧ lcLoop g tt el vs (ds.drop i) acc env2 = .ok accF envF)
          ⟨Nat.zero_le _, O1, wipeE env1 vs, [], [], ?_, stp_new hD, upd_same, .nil, hl⟩ (fun i H _ ⟨_, O2, _, _, _, _, st, _⟩ => hG H O2 st) (fun i x H2 H3 hlt ⟨_, O2, env2, accv, acc, e2, st2, hD2, racc, hl2⟩ y => ?_) (fun H2 ⟨_, O2, env2, accv, acc, e2, st2, hD2, racc, hl2⟩ => ?_)
        · exact EnvOk.priv (e1.wiped vs noio) hD
        · obtain ⟨nt, d, hd, rep⟩ := hY i H2 x H3 hlt y
          have st3 : Stp P H2 O2 H3 O2 := nt.stp
          have e3 := e2.newT nt
          have vis : Same (hid H1 (Un2 O1 P)) (hid H2 (Un2 O2 (AddP P D))) := fun a u z => by
            have na : a ≠ D := fun y => by
              rw [y] at z
              have := (hid_some.mp z).2
              rw [hD] at this
              cases this
            obtain ⟨z1, z2⟩ := hid_some.mp (st2.same a u z)
            exact hid_some.mpr ⟨fun y => y.elim (fun q => z1 (.inl q)) fun q => q.elim (fun q => z1 (.inr q)) na, z2⟩
          have rd := rep _ e2.hidden vis
          have hdr : ds.drop i = d :: ds.drop (i + 1) := by
            rw [List.drop_eq_getElem_cons hlt]
            congr 1
            exact Option.some.inj ((List.getElem?_eq_getElem hlt).symm.trans hd)
          rw [hdr] at hl2
          unfold lcLoop at hl2
          have nD : ∀ {H : Hp} {O : AS} {σ : L2.St} {env : SEnv}, EnvOk ⟨T.K, AddP P D, T.io, T.n, T.xp⟩ H O σ env → ¬ O D := fun e => e.dis D (.inr rfl)
          refine ⟨AddP P D, O2, env2, d, e3, rd, ?_⟩
          cases eg : g d env2 with
          | none => simp only [eg] at hl2; cases hl2
          | some env3 =>
            simp only [eg] at hl2
            intro σ4 H4 O4 st4 e4 a4
            have wipeEq : wipe σ4 vs = wipe σ vs := wipe_eq (by rw [a4.1, wipe_length]) fun i hi => a4.2 i fun z => hi (hks i z)
            refine ⟨wipeEq, AddP P D, O4, env3, e4, ?_⟩
            cases et : tt env3 with
            | st => simp only [et] at hl2; cases hl2
            | ex x env4 => simp only [et] at hl2; cases hl2
            | ok b env4 =>
              cases b with
              | false =>
                simp only [et] at hl2
                intro H5 O5 s5 e5
                rw [if_neg Bool.false_ne_true]
                have s25 : Stp P H2 O2 H5 O5 := st3.trans (st4.trans s5).any
                exact ⟨hlt, O5, wipeE env4 vs, accv, acc, EnvOk.rewipe e5 wipeEq noio, st2.trans s25, (s25.keep D _ hD2 (nD e2)).1, racc.mono (s25.any (P' := AddP P D)).same, hl2⟩
              | true =>
                simp only [et] at hl2
                intro H5 O5 s5 e5
                rw [if_pos rfl]
                refine ⟨AddP P D, O5, env4, e5, ?_⟩
                cases ee : el env4 with
                | st => simp only [ee] at hl2; cases hl2
                | ex x env5 => simp only [ee] at hl2; cases hl2
                | ok w env5 =>
                  simp only [ee] at hl2
                  intro v6 H6 O6 s6 e6 r6
                  by_cases hsz : acc.length < sizeLine
                  · rw [if_pos hsz] at hl2
                    obtain ⟨O7, s7, e7, r7⟩ := r6.frz e6
                    have s27 : Stp P H2 O2 H6 O7 := st3.trans (st4.trans (s5.trans (s6.trans s7))).any
                    have hD6 : H6 D = some (.lst accv) := (s27.keep D _ hD2 (nD e2)).1
                    refine ⟨accv, hD6, by rw [racc.length]; exact hsz, hlt, O7, wipeE env5 vs, accv ++ [v6], acc ++ [w.2], EnvOk.privSet (EnvOk.rewipe e7 wipeEq noio), ⟨fun a u h n => ?_, fun a u h => ?_⟩, upd_same, ?_, hl2⟩
                    · rw [upd_ne (ne_of_none h hD)]
                      exact (st2.trans s27).keep a u h n
                    · rw [upd_ne (ne_of_none h hD)]
                      exact (st2.trans s27).live a u h
                    · have sm : Same (hid H6 (Un2 O7 (AddP P D))) (hid (upd H6 D (.lst (accv ++ [v6]))) (Un2 O7 (AddP P D))) := fun a u z => by
                        obtain ⟨z1, z2⟩ := hid_some.mp z
                        exact hid_some.mpr ⟨z1, by rw [upd_ne fun y => z1 (.inr (.inr y))]; exact z2⟩
                      exact (racc.mono (s27.any (P' := AddP P D)).same).mono sm |>.append (.cons (r7.mono sm) .nil)
                  · rw [if_neg hsz] at hl2
                    cases hl2
        · rw [List.drop_length] at hl2
          cases hl2
          have st : Stp P H O H2 (AddP O2 D) := ⟨fun a u h n => ?_, fun a u h => (s1.trans st2).live a u h⟩
          · have ce := EnvOk.cede e2 nP
            have st' : Stp P H1 O1 H2 (AddP O2 D) := ⟨fun a u h n => ⟨(st2.keep a u h n).1, fun z => z.elim (st2.keep a u h n).2 (ne_of_none h hD)⟩, st2.live⟩
            refine q _ H2 (AddP O2 D) st (EnvOk.backed e1 st' ce rfl hf) ⟨D, rfl, .inr rfl, .lst hD2 (by rw [← un2_swap]; exact racc), fun i z => ?_⟩
            obtain ⟨x1, s, x2, x3⟩ := ownAt_back (by rw [e2.len, wipe_length]; exact e1.len.symm) hf z
            have sl := e2.ok i _ s x1 x2
            cases s with
            | un => cases x3
            | fz _ => cases x3
            | xc _ => cases x3
            | ow _ => exact e2.dis D (.inr rfl) (sl.own_of D rfl trivial)
            | io _ => exact e2.dis D (.inr rfl) (sl.own_of D rfl trivial)
          · have h1 := s1.keep a u h n
            have h2 := st2.keep a u h1.1 h1.2
            exact ⟨h2.1, fun z => z.elim h2.2 (ne_of_none h1.1 hD)⟩
    · rw [if_neg hf] at q
      exact q.elim
theorem g_lc {elt tg iter : Expr} {ifs : List Expr} {scope : Scope} {own : List (Str × Nat)} {mi : IDen} {g : GDen} {tt : TDen} {el : EDen} {ks : List Nat} (hks : ∀ k ∈ ks, k ∈ own.map (·.2)) (hc : X.calm = true) (hN : X.N.Nodup) (hi : PI X tg iter (tDI T mi)) (ok : BlkOk X.N X.env.scope scope own)
    (hg : ∀ (s : Shared) (H : Hp) (C : Addr) (cl : List (Str × Addr)) (fp : List Addr), PG (X.blk s H scope (compEnvC scope cl C X.env) fp) tg (tDG T.in0 g ks)) (ht : ∀ (s : Shared) (H : Hp) (C : Addr) (cl : List (Str × Addr)) (fp : List Addr), PTs (X.blk s H scope (compEnvC scope cl C X.env) fp) ifs (tDT T.in0 tt))
    (he : ∀ (s : Shared) (H : Hp) (C : Addr) (cl : List (Str × Addr)) (fp : List Addr), PE (X.blk s H scope (compEnvC scope cl C X.env) fp) elt (tD T.in0 el)) (hs : ∀ x, foldedSetIterable iter X.env x = pure x) :
    PE X (.ListComp elt [⟨tg, iter, ifs, 0⟩] scope pos) (tD T (dLc mi g tt el (own.map (·.2)))) := (pe_lc hc hN hi ok hg ht he hs).to fun σ H Q q => rd_lc hks q
/-- y = [..] -/
theorem gs_setLc {elt tg iter : Expr} {ifs : List Expr} {scope : Scope} {own : List (Str × Nat)} {mi : IDen} {g : GDen} {tt : TDen} {el : EDen} {ks : List Nat} {i : Nat} {y : Str} {py spos : Pos} (hks : ∀ k ∈ ks, k ∈ own.map (·.2)) (hc : X.calm = true) (hN : X.N.Nodup) (hy : X.N[i]? = some y) (hyl : X.env.scope.names.lookup y = some .local)
    (hsw : swapsWith (.ListComp elt [⟨tg, iter, ifs, 0⟩] scope pos) (some (.Name y py)) spos.line X.env = pure true) (hi : PI X tg iter (tDI T mi)) (ok : BlkOk X.N X.env.scope scope own)
    (hg : ∀ (s : Shared) (H : Hp) (C : Addr) (cl : List (Str × Addr)) (fp : List Addr), PG (X.blk s H scope (compEnvC scope cl C X.env) fp) tg (tDG T.in0 g ks)) (ht : ∀ (s : Shared) (H : Hp) (C : Addr) (cl : List (Str × Addr)) (fp : List Addr), PTs (X.blk s H scope (compEnvC scope cl C X.env) fp) ifs (tDT T.in0 tt))
    (he : ∀ (s : Shared) (H : Hp) (C : Addr) (cl : List (Str × Addr)) (fp : List Addr), PE (X.blk s H scope (compEnvC scope cl C X.env) fp) elt (tD T.in0 el)) (hs : ∀ x, foldedSetIterable iter X.env x = pure x) :
    PS X (.Assign [.Name y py] (.ListComp elt [⟨tg, iter, ifs, 0⟩] scope pos) spos) (tDS T (sAsg i (dLc mi g tt el (own.map (·.2))))) := (ps_setLc hc hN hy hyl hsw hi ok hg ht he hs).to fun E σ H q => rd_lc hks (rs_asg i q)
end
end DL
set_option maxHeartbeats 8000000
/-! DL5b: promises of defs where no repr is under way. -/
namespace DL
open PySem PySem.Spec PyProof.Rows L2

structure RoomG (k : Nat) (A : Around) : Prop where
  room : Room k A
  gd : A.guards = some []
section
variable {j k : Nat} {A : Around}
theorem RoomG.mono (r : RoomG k A) (h : j ≤ k) : RoomG j A := ⟨r.room.mono h, r.gd⟩
theorem RoomG.deeper (r : RoomG (k + 1) A) (env : Env) : RoomG k (A.deeper env) := ⟨r.room.deeper env, r.gd⟩
theorem RoomG.in1 (r : RoomG (k + 1) A) : RoomG k A.in1 := ⟨r.room.in1, r.gd⟩
theorem make_guards {C : Addr} {us : List Value} {kw : List (Str × Value)} : (A.under (.builtin "type.__call__" ⟨.ref C :: us, kw⟩)).guards = A.guards := by
  obtain ⟨hd, d, fr, gs, u⟩ := A
  cases gs with
  | none => rfl
  | some l =>
    have hn : "type.__call__" ∉ guardIds := by decide +kernel
    simp [Around.under, pushGuards, Code.guards, Code.isGuard, hn]
theorem RoomG.make (r : RoomG (k + 1) A) (C : Addr) (us : List Value) (kw : List (Str × Value)) : RoomG k (A.under (.builtin "type.__call__" ⟨.ref C :: us, kw⟩)) := ⟨r.room.make C us kw, make_guards.trans r.gd⟩
theorem RoomG.depth (r : RoomG k A) : A.depth < recursionLimit := r.room.depth
theorem RoomG.units (r : RoomG k A) : A.units + 64 < cLine := r.room.units
theorem RoomG.units0 (r : RoomG k A) : A.units < cLine := r.room.units0
end
/-- a call below the running body -/
structure SubG (X : Cx) (n : Nat) (A : Around) : Prop where
  room : RoomG n A
  fr : A.frames = X.A.frames
theorem SubG.in1 {X : Cx} {n : Nat} {A : Around} (s : SubG X (n + 1) A) : SubG X n A.in1 := ⟨s.room.in1, s.fr⟩
/-- a def keeps its promise -/
structure FnG (P : Program) (w : World) (K : PySem.W.Frag) (mg : Str → Option Value) (base : Heap) (CX : CXT) (k : Nat) (f : Addr) (fd : FuncData) (ps : List Str) (sp : Sp) : Prop where
  len : ∀ vs H Q E, sp vs H Q E → vs.length = ps.length
  run : ∀ (A : Around) (outer : List Env) (s : Shared) (H : Hp) (args : Args) (us : List Value) (vs : List V) (Q : VK) (E : XK), RoomG k A → Env0 P w K mg base A outer s H → BindsTo s fd args (ps.zip us) → Vals vs us → sp vs H Q E → codeAny (model P w) A (.call (.ref f) args) (CR CX outer P w H s Q E) s
section
variable {X : Cx} {CX : CXT} {k : Nat} {f : Addr} {fd : FuncData} {ps : List Str} {sp : Sp} {ds : List Value} {dvs : List V} {E : XK}
theorem own_run {A : Around} {pins : List (Addr × Obj)} {σ : L2.St} {H : Hp} {s : Shared} {Q : VK} {us : List Value} {vs : List V} (sb : SubG X k A) (F : FnG X.prog X.w X.K X.mg X.base CX k f fd ps sp) (hb : Binds X.K fd ps ds) (hd : Vals dvs ds) (hx : PassesAt CX X σ E)
    (I : Inv X pins σ H s) (r : Vals vs us) (h : sp (vs ++ dvs) H Q E) : wpAny (model X.prog X.w) A (call (.ref f) us) (EP X pins σ Q) X.xe s := by
  have r2 : Vals (vs ++ dvs) (us ++ ds) := r.append hd
  have hl : (us ++ ds).length = ps.length := by rw [← r2.length]; exact F.len _ _ _ _ h
  have e0 : Env0 X.prog X.w X.K X.mg X.base A X.stack s H := by
    have e := I.env0
    exact ⟨by rw [sb.fr]; exact e.frames, e.mod, e.bs, e.bsz, e.funs, e.frf, e.hok, e.bare⟩
  refine wpAny_call (codeAny_mono (F.run A X.stack s H ⟨us, []⟩ (us ++ ds) (vs ++ dvs) Q E sb.room e0 (hb s us I.kIn hl) r2 h) fun r s' hq => ?_)
  cases r with
  | error e => exact hx pins H s e s' I hq
  | ok fl =>
    cases fl with
    | ret u => exact I.after hq
    | next => exact False.elim hq
    | brk => exact False.elim hq
    | cont => exact False.elim hq
theorem run_fnG {E : L2.St → XK} {pins : List (Addr × Obj)} {σ : L2.St} {H : Hp} {s : Shared} {Q : VK} {us : List Value} {vs : List V} (F : FnG X.prog X.w X.K X.mg X.base CX k f fd ps sp) (hr : RoomG k X.A) (hb : Binds X.K fd ps ds) (hd : Vals dvs ds) (hx : PassesAt CX X σ (E σ)) (I : Inv X pins σ H s)
    (r : Vals vs us) (h : sp (vs ++ dvs) H Q (E σ)) : wpAny (model X.prog X.w) X.A (call (.ref f) us) (EP X pins σ Q) X.xe s := own_run ⟨hr, rfl⟩ F hb hd hx I r h
theorem pe_callG {E : L2.St → XK} {x : Str} {p pos : Pos} {e : Expr} {es : List Expr} {t : TA} (F : FnG X.prog X.w X.K X.mg X.base CX k f fd ps sp) (hr : RoomG k X.A) (hg : Gl X x) (hm : X.mg x = some (.ref f)) (hk : PySem.W.keepIn X.K (.ref f) = true) (hb : Binds X.K fd ps ds) (hd : Vals dvs ds)
    (hx : ∀ σ, PassesAt CX X σ (E σ)) (ha : PA X (e :: es) t) (hdb : (x == ("__debug__" : Str)) = false) (he : starEach (e :: es) X.env = (false, eval e X.env) :: starEach es X.env) (hpl : (backTo pos (starEach es X.env)).any (·.1) = false) :
    PE X (.Call (.Name x p) (e :: es) [] pos) (tCallSD sp dvs E t) := ⟨fun pins s σ H Q I h => by
  refine wpAny_Call_Name_kw (ld_glob I hg hm (PySem.W.callWith_K (h₀ := X.base) I.ok.mod.kin hk (thn (ha.run pos pins s σ H _ I h) fun us s1 ⟨vs, H1, I1, r, q⟩ => ⟨I1.kIn, ?_⟩) he hpl) hdb)
  exact run_fnG F hr hb hd (hx σ) I1 r q⟩
end
section
variable {CX : CXT} {P : Program} {w : World} {K : PySem.W.Frag} {mg : Str → Option Value} {base : Heap} {k : Nat} {f : Addr} {N ps : List Str} {sp : Sp}
/-- THE RULE: a def by its body -/
theorem fn_ofG {name qual : Str} {params : Arguments} {body : List Stmt} {scope : Scope} {dV kV doc pm cdv ct oc : Value} {an od : Option Addr} {osl : Array (Option Value)}
    (lk : K.lookup f = some ⟨oc, od, .func (PySem.W.fnOf name qual params body scope dV kV doc pm an cdv ct), osl⟩) (hcd : PySem.W.codeIn K cdv qual = true) (S : FnScope N ps scope) (len : ∀ vs H Q E, sp vs H Q E → vs.length = ps.length)
    (hbody : ∀ (A : Around) (outer : List Env) (s : Shared) (H : Hp) (vs : List V) (Q : VK) (E : XK), RoomG k (A.deeper (envOfC qual scope s.heap.objs.size f cdv)) → sp vs H Q E → ∃ t, PSs (cxOf CX P w K mg base N qual scope f cdv A outer s H E) body t ∧ t { nx := fun _ H' => Q .non H', rt := Q } (start N vs) H) :
    FnG P w K mg base CX (k + 1) f (PySem.W.fnOf name qual params body scope dV kV doc pm an cdv ct) ps sp := by
  refine ⟨len, fun A outer s H args us vs Q E hr e0 hb r hsp => ?_⟩
  have kin : K.In s.heap := e0.mod.kin.keeps fun b o e => (e0.bs b o e).1
  have nol : s.heap.NoLimit := e0.mod.nolimit.keeps fun b o e => (e0.bs b o e).1
  refine codeAny_call_function hr.depth (kin _ _ lk) rfl S.co S.gen rfl (PySem.W.codeRec_of kin hcd) (hb _ _ _ _ (wpAny_newFunctionEnv_cells S.kind (fun ⟨n, v⟩ hy => ?_) fun env he s1 x => ?_))
  · rcases S.par n (List.of_mem_zip hy).1 with z | z
    · exact .inl z
    · exact .inr ⟨z, PySem.W.cellsFrom_some _ _ _ (.inl z)⟩
  · subst he
    refine ⟨nol.keeps x.toInCall.keep, codeAny_func ?_⟩
    obtain ⟨t, ht, hq⟩ := hbody A outer s H vs Q E (hr.deeper _) hsp
    refine wpAny_mono (ht.run [] s1 (start N vs) H _ (inv_start S hr.room.hd e0 (len _ _ _ _ hsp) r x) hq) (fun fl s' hs => ?_) fun e s' hs => hs
    have last : ∀ {σ' : L2.St} {H' : Hp} {v : V} {u : Value}, Inv (cxOf CX P w K mg base N qual scope f cdv A outer s H E) [] σ' H' s' → RelV v u → Q v H' → CE outer P w H s Q u s' := fun {σ' H' v u} J rv q =>
      ⟨v, H', J.os, J.bare, J.base, J.hok, rv, q⟩
    cases fl with
    | ret u => obtain ⟨v, σ', H', J, rv, q⟩ := hs; exact last J rv q
    | next => obtain ⟨σ', H', J, q⟩ := hs; exact last (v := V.non) (u := Value.none) J rfl q
    | brk => obtain ⟨_, _, _, q⟩ := hs; exact q.elim
    | cont => obtain ⟨_, _, _, q⟩ := hs; exact q.elim
/-- the law's own call -/
theorem law_callG {mb : Str → Option Value} {fa a : Addr} {fd : FuncData} {x : Str} {s₁ : Shared} {vs : List Value} {ns : List Int} (KX : K.In s₁.heap) (hns : s₁.heap.Ns mainGlobals mg) (hb : s₁.heap.Ns builtinsNs mb) (hbb : ∀ x : Str, x ≠ "__name__" → mb x = bootBuiltins x) (hlim : s₁.heap.NoLimit)
    (hg : s₁.gens = #[]) (ha : s₁.heap.get? a = some { cls := .type "list", data := .seq vs.toArray }) (hi : IntsAre vs ns) (hl : ns.length ≤ sizeLine) (hr : RoomG k callerA) (F : ∀ base : Heap, K.In base → base.Ns mainGlobals mg → FnG P w K mg base CX k fa fd [x] sp)
    (hbind : ∀ (s : Shared) (u : Value), BindsTo s fd ⟨[u], []⟩ [(x, u)]) (hsp : ∀ H : Hp, Only H → SqL K H a (ns.map V.int) → sp [.ref a] H (fun v _ => v = .bl true) fun _ _ _ => False) (hCX : ∀ H e s', CX [] H s₁ (fun _ _ _ => False) e s' → False) :
    codeAny (model P w) callerA (.call (.ref fa) ⟨[.ref a], []⟩) (fun r s' => r = .ok (.ret (.bool true)) ∧ OldK s₁.heap s'.heap ∧ s'.os = s₁.os ∧ AllBare s'.gens) s₁ := by
  have rv := vals_ints hi
  have lenV := hi.length
  have core : ∀ H : Hp, Only H → SqL K H a (ns.map V.int) → HOk P w H s₁.heap → (∀ b, H b ≠ none → b = a) → (H a ≠ none → K.lookup a = none) → codeAny (model P w) callerA (.call (.ref fa) ⟨[.ref a], []⟩) (fun r s' => r = .ok (.ret (.bool true)) ∧ OldK s₁.heap s'.heap ∧ s'.os = s₁.os ∧ AllBare s'.gens) s₁ := by
    intro H hO hS hok hA hK
    have isA : ∀ {b : Addr} {u : HO}, H b = some u → b = a := fun {b u} q => hA b (by rw [q]; simp)
    have nsK : ∀ {b : Addr} {m : Str → Option Value}, s₁.heap.Ns b m → (hidT s₁.heap H).Ns b m := fun {b m} ⟨o, es, ep, e, d, r⟩ => by
      refine ⟨o, es, ep, hidT_get e ?_, d, r⟩
      cases q : H b with
      | none => rfl
      | some u =>
        have e' := isA q
        subst e'
        rw [ha] at e
        cases e
        have d' : Data.seq vs.toArray _ = Data.dict es ep := d
        cases d'
    have hKb : K.In (hidT s₁.heap H) := fun b o e => hidT_get (KX b o e) (by
      cases q : H b with
      | none => rfl
      | some u =>
        have e' := isA q
        subst e'
        rw [hK (by rw [q]; simp)] at e
        cases e)
    have hM : Mod K mg (hidT s₁.heap H) := ⟨hKb, nsK hns, ⟨mb, nsK hb, hbb⟩, let ⟨mc, h1, h2⟩ := hlim; ⟨mc, nsK h1, h2⟩⟩
    have e0 : Env0 P w K mg (hidT s₁.heap H) callerA [] s₁ H := ⟨rfl, hM, fun b o e => of_hidT e, Nat.le_of_eq (hidT_size _ _), trivial, (fun b hb => absurd (show b ∈ ([] : List Addr) from hb) (by simp)), hok, .of_eq hg⟩
    refine codeAny_mono ((F _ hKb (nsK hns)).run callerA [] s₁ H ⟨[.ref a], []⟩ [.ref a] [.ref a] _ _ hr e0 (hbind s₁ (.ref a)) (.cons rfl .nil) (hsp H hO hS)) fun r s' h => ?_
    cases r with
    | error e => exact (hCX H e s' h).elim
    | ok fl =>
      cases fl with
      | ret u =>
        obtain ⟨v, H', os, bare, un, hok', r', q⟩ := h
        have q' : v = .bl true := q
        subst q'
        obtain rfl : u = Value.bool true := r'
        refine ⟨rfl, OldK.of_keep (fun b o e => ?_), os, bare⟩
        cases q : H b with
        | none => exact un.keep b o e q (by intro z; exact absurd (show b ∈ ([] : List Addr) from z) (by simp)) (by simp)
        | some u =>
          rcases hO b with z | ⟨ob, xs, z⟩
          · rw [q] at z
            cases z
          · obtain ⟨e1, _⟩ := hok b _ z
            obtain ⟨e2, _⟩ := hok' b _ (un.frzs b ob _ z)
            rw [e] at e1
            cases e1
            exact e2
      | next => exact False.elim h
      | brk => exact False.elim h
      | cont => exact False.elim h
  cases hk : K.lookup a with
  | some o =>
    have e := KX a o hk
    rw [ha] at e
    cases e
    exact core (fun _ => none) (fun _ => .inl rfl) (.inr ⟨_, vs.toArray, _, hk, rfl, rfl, rfl, by rw [List.size_toArray, lenV]; exact hl, by simpa using rv⟩) (fun b u z => nomatch z) (fun b z => absurd rfl z) (fun z => absurd rfl z)
  | none =>
    refine core (fun b => if b = a then some (.frz { cls := .type "list", data := .seq vs.toArray } (.lst (ns.map V.int))) else none) (fun b => ?_) (.inl (.inr ⟨{ cls := .type "list", data := .seq vs.toArray }, if_pos rfl⟩)) (fun b u z => ?_) (fun b z => ?_) (fun _ => hk)
    · by_cases hb : b = a
      · exact .inr ⟨_, _, if_pos hb⟩
      · exact .inl (if_neg hb)
    · by_cases hb : b = a
      · cases (if_pos hb).symm.trans z
        subst hb
        exact ⟨ha, by rw [List.length_map]; exact hl, vs, _, rv, ha⟩
      · cases (if_neg hb).symm.trans z
    · by_cases hb : b = a
      · exact hb
      · exact absurd (if_neg hb) z
end
end DL
set_option maxHeartbeats 8000000
/-! DL6: calls: arguments given or lent, promises of denoted defs. -/
namespace DL
open PySem PySem.Spec PyProof.Rows L2

inductive Arg where
  | val (d : D) | lend (i : Nat)
/-- data given (false) or lent (true) -/
abbrev FArg := Bool × D
inductive FOut where
  | ret (w : W) (ios : List D)
  | ex (x : Ex) (ios : List D)
  | st
/-- a def (name, none), a method (class, some name) -/
abbrev FId := Str × Option Str
abbrev Orc := FId → List FArg → FOut

def slotData : Slot → Option D
  | .ow d => some d
  | .io d => some d
  | _ => none
def argD (env : SEnv) : Arg → Option FArg
  | .val d => some (false, d)
  | .lend i => (env[i]?.bind slotData).map fun d => (true, d)
def argsD (env : SEnv) : List Arg → Option (List FArg)
  | [] => some []
  | a :: as => match argD env a, argsD env as with
    | some d, some ds => some (d :: ds)
    | _, _ => none
def lends : List Arg → List Nat
  | [] => []
  | .val _ :: as => lends as
  | .lend i :: as => i :: lends as
def setData (d : D) : Slot → Slot
  | .ow _ => .ow d
  | .io _ => .io d
  | s => s
/-- the lent slots with their new data -/
def putIos : List Nat → List D → SEnv → SEnv
  | i :: is, d :: ds, env => putIos is ds (match env[i]? with
    | some s => env.set i (setData d s)
    | none => env)
  | _, _, env => env
def pslot : FArg → Slot
  | (false, d) => .fz d
  | (true, d) => .io d
def startE (n : Nat) (ds : List FArg) : SEnv := ds.map pslot ++ List.replicate (n - ds.length) .un
/-- what was lent, at the end -/
def iosOf : List FArg → SEnv → List D
  | (true, d) :: as, s :: env => (slotData s).getD d :: iosOf as env
  | (false, _) :: as, _ :: env => iosOf as env
  | _, _ => []
def runFn (n np : Nat) (body : SDen) (ds : List FArg) : FOut := if ds.length = np then (match body (startE n ds) with
  | .ok .nx env => .ret (false, .non) (iosOf ds env)
  | .ok (.rt w) env => .ret w (iosOf ds env)
  | .ex x env => .ex x (iosOf ds env)
  | _ => .st) else .st
/-- the addresses lent -/
def ioAddrs : List FArg → List V → Nat → List (Nat × Addr)
  | (true, _) :: as, .ref a :: vs, n => (n, a) :: ioAddrs as vs (n + 1)
  | _ :: as, _ :: vs, n => ioAddrs as vs (n + 1)
  | _, _, _ => []

/-- THE PROMISE of a def of n slots whose runs are told by o -/
def spD (K : PySem.W.Frag) (n : Nat) (np : Nat) (o : List FArg → FOut) : Sp := fun vs H Q E => vs.length = np ∧ ∃ P O ds, EnvOk ⟨K, P, ioAddrs ds vs 0, n, Xp.nil⟩ H O (vs.map some ++ List.replicate (n - vs.length) none) (startE n ds) ∧ ds.length = vs.length ∧ match o ds with
  | .ret w ios => ∀ v σ' env' H' O', Stp P H O H' O' → EnvOk ⟨K, P, ioAddrs ds vs 0, n, Xp.nil⟩ H' O' σ' env' → iosOf ds env' = ios → ResOk ⟨K, P, ioAddrs ds vs 0, n, Xp.nil⟩ H' O' σ' env' v w → Q v H'
  | .ex x ios => ∀ cls dd σ' env' H' O', Stp P H O H' O' → EnvOk ⟨K, P, ioAddrs ds vs 0, n, Xp.nil⟩ H' O' σ' env' → iosOf ds env' = ios → ExOk K (hid H' (Un2 O' P)) cls dd x → E cls dd H'
  | .st => False
/-- from the body to the promise -/
theorem run_ok {T : Th} {P0 : Unit} {N : List Str} {vs : List V} {H : Hp} {Q : VK} {E : XK} {body : SDen} {np : Nat} {K : PySem.W.Frag} (h : spD K N.length np (runFn N.length np body) vs H Q E) :
    ∃ io, tDS ⟨K, io, N.length, fun cls d _ H => E cls d H, Xp.nil⟩ body { nx := fun _ H' => Q .non H', rt := Q } (start N vs) H := by
  obtain ⟨hv, P, O, ds, he, hl, h⟩ := h
  refine ⟨ioAddrs ds vs 0, P, O, startE N.length ds, he, ?_⟩
  unfold runFn at h
  rw [if_pos (hl.trans hv)] at h
  cases e : body (startE N.length ds) with
  | st => rw [e] at h; exact h.elim
  | ex x env' =>
    rw [e] at h
    exact fun cls dd σ' H' O' s' e' x' => h cls dd σ' env' H' O' s' e' rfl x'
  | ok w env' =>
    cases w with
    | nx => rw [e] at h; exact fun σ' H' O' s' e' => h .non σ' env' H' O' s' e' rfl Rep.non
    | rt w => rw [e] at h; exact fun v σ' H' O' s' e' r' => h v σ' env' H' O' s' e' rfl r'
    | bk => rw [e] at h; exact h.elim
    | ct => rw [e] at h; exact h.elim

/-! ### the caller's arguments -/
abbrev ArgDen := SEnv → Out (List Arg)
/-- values for arguments -/
inductive ArgsRel (K : PySem.W.Frag) (h : Hp) (σ : L2.St) : List V → List Arg → Prop
  | nil : ArgsRel K h σ [] []
  | val {v : V} {d : D} {vs : List V} {as : List Arg} : Rep K h v d → ArgsRel K h σ vs as → ArgsRel K h σ (v :: vs) (.val d :: as)
  | lend {v : V} {i : Nat} {vs : List V} {as : List Arg} : σ[i]? = some (some v) → ArgsRel K h σ vs as → ArgsRel K h σ (v :: vs) (.lend i :: as)
theorem ArgsRel.mono {K : PySem.W.Frag} {h h' : Hp} {σ : L2.St} (s : Same h h') : ∀ {vs : List V} {as : List Arg}, ArgsRel K h σ vs as → ArgsRel K h' σ vs as
  | _, _, .nil => .nil
  | _, _, .val r t => .val (r.mono s) (t.mono s)
  | _, _, .lend r t => .lend r (t.mono s)
theorem ArgsRel.length {K : PySem.W.Frag} {h : Hp} {σ : L2.St} : ∀ {vs : List V} {as : List Arg}, ArgsRel K h σ vs as → vs.length = as.length
  | _, _, .nil => rfl
  | _, _, .val _ t => congrArg (· + 1) t.length
  | _, _, .lend _ t => congrArg (· + 1) t.length
def RG (T : Th) (P : AS) (σ : L2.St) (H : Hp) (O : AS) (Q : List V → Hp → Prop) : Out (List Arg) → Prop
  | .ok as env' => ∀ vs H' O', Stp P H O H' O' → EnvOk (T.cn P) H' O' σ env' → ArgsRel T.K (hid H' (Un2 O' P)) σ vs as → Q vs H'
  | .ex x env' => ∀ cls dd H' O', Stp P H O H' O' → EnvOk (T.cn P) H' O' σ env' → ExOk T.K (hid H' (Un2 O' P)) cls dd x → T.W cls dd σ H'
  | .st => False
def tDGa (T : Th) (m : ArgDen) : TA := fun σ H Q => ∃ P O env, EnvOk (T.cn P) H O σ env ∧ RG T P σ H O Q (m env)
def rNil : ArgDen := fun env => .ok [] env
def rVal (m : EDen) (k : ArgDen) : ArgDen := fun env => match m env with
  | .ok w env1 => (match k env1 with
    | .ok as env2 => .ok (.val w.2 :: as) env2
    | .ex x e => .ex x e
    | .st => .st)
  | .ex x e => .ex x e
  | .st => .st
def rLend (i : Nat) (k : ArgDen) : ArgDen := fun env => match env[i]?.bind slotData with
  | some _ => (match k env with
    | .ok as env2 => .ok (.lend i :: as) env2
    | .ex x e => .ex x e
    | .st => .st)
  | none => .st
section
variable {X : Cx} {T : Th} {m : EDen} {k : ArgDen} {e : Expr} {es : List Expr}
theorem gr_nil : PA X [] (tDGa T rNil) := pa_nil.to fun σ H Q ⟨P, O, env, he, q⟩ => q [] H O .refl he .nil
theorem gr_val (ha : PE X e (tD T m)) (hr : PA X es (tDGa T k)) (hs : starEach (e :: es) X.env = (false, eval e X.env) :: starEach es X.env) : PA X (e :: es) (tDGa T (rVal m k)) := (pa_cons ha hr hs).to fun σ H Q ⟨P, O, env, he, q⟩ => by
  refine ⟨P, O, env, he, ?_⟩
  unfold rVal at q
  cases h1 : m env with
  | st => rw [h1] at q; exact q
  | ex x e => rw [h1] at q; exact q
  | ok w env1 =>
    rw [h1] at q
    intro v H1 O1 s1 e1 r1
    obtain ⟨O2, s2, e2, r2⟩ := r1.frz e1
    refine ⟨P, O2, env1, e2, ?_⟩
    have s12 := s1.trans s2
    cases h2 : k env1 with
    | st => simp only [h2] at q; exact q
    | ex x e =>
      simp only [h2] at q
      exact fun c d H' O' s' e' x' => q c d H' O' (s12.trans s') e' x'
    | ok ds env2 =>
      simp only [h2] at q
      exact fun vs H' O' s' e' r' => q (v :: vs) H' O' (s12.trans s') e' (.val (r2.mono s'.same) r')
theorem gr_lend {i : Nat} (ha : PE X e (tVar i)) (hr : PA X es (tDGa T k)) (hs : starEach (e :: es) X.env = (false, eval e X.env) :: starEach es X.env) : PA X (e :: es) (tDGa T (rLend i k)) := (pa_cons ha hr hs).to fun σ H Q ⟨P, O, env, he, q⟩ => by
  unfold rLend at q
  cases g : env[i]? with
  | none => rw [g] at q; exact q.elim
  | some s =>
    have hi : i < σ.length := by rw [← he.len]; exact (List.getElem?_eq_some_iff.mp g).1
    have hs : σ[i]? = some σ[i] := List.getElem?_eq_getElem hi
    have r := he.ok i _ _ hs g
    rw [g] at q
    have fin : ∀ v, σ[i] = some v → (slotData s).isSome = true → (tCons (tVar i) (tDGa T k)) σ H Q := fun v hv hd => by
      obtain ⟨d, hd⟩ := Option.isSome_iff_exists.mp hd
      refine ⟨v, by rw [hs, hv], P, O, env, he, ?_⟩
      have q : RG T P σ H O Q (match k env with
        | .ok as env2 => .ok (.lend i :: as) env2
        | .ex x e => .ex x e
        | .st => .st) := by
        have : (some s).bind slotData = some d := hd
        simp only [this] at q
        exact q
      cases h2 : k env with
      | st => simp only [h2] at q; exact q
      | ex x e => simp only [h2] at q; exact q
      | ok ds env2 =>
        simp only [h2] at q
        exact fun vs H' O' s' e' r' => q (v :: vs) H' O' s' e' (.lend (by rw [hs, hv]) r')
    generalize hσ : σ[i] = o at r
    cases r with
    | un => exact q.elim
    | xc _ => exact q.elim
    | fz _ => exact q.elim
    | ow _ _ => exact fin _ hσ rfl
    | io _ _ => exact fin _ hσ rfl
end
end DL
set_option maxHeartbeats 8000000
/-! DL7: a call from the caller's side. -/
namespace DL
open PySem PySem.Spec PyProof.Rows L2

theorem argsD_len {env : SEnv} : ∀ {as : List Arg} {ds : List FArg}, argsD env as = some ds → ds.length = as.length
  | [], ds, h => by cases h; rfl
  | a :: as, ds, h => by
    unfold argsD at h
    cases h1 : argD env a with
    | none => rw [h1] at h; cases h
    | some d =>
      cases h2 : argsD env as with
      | none => simp only [h1, h2] at h; cases h
      | some r =>
        simp only [h1, h2] at h
        cases h
        exact congrArg (· + 1) (argsD_len h2)
theorem argsD_get {env : SEnv} : ∀ {as : List Arg} {ds : List FArg} {j : Nat} {a : Arg}, argsD env as = some ds → as[j]? = some a → ∃ d, ds[j]? = some d ∧ argD env a = some d
  | [], _, _, _, _, h => by simp at h
  | a :: as, ds, j, b, h, hj => by
    unfold argsD at h
    cases h1 : argD env a with
    | none => rw [h1] at h; cases h
    | some d =>
      cases h2 : argsD env as with
      | none => simp only [h1, h2] at h; cases h
      | some r =>
        simp only [h1, h2] at h
        cases h
        cases j with
        | zero =>
          simp at hj
          subst hj
          exact ⟨d, rfl, h1⟩
        | succ j =>
          obtain ⟨d', q1, q2⟩ := argsD_get h2 (j := j) (a := b) (by simpa using hj)
          exact ⟨d', by simpa using q1, q2⟩
theorem argD_of {env : SEnv} {i : Nat} {f : FArg} (h : argD env (.lend i) = some f) : f.1 = true ∧ env[i]?.bind slotData = some f.2 := by
  have e : argD env (.lend i) = (env[i]?.bind slotData).map fun d => (true, d) := rfl
  rw [e] at h
  cases q : env[i]?.bind slotData with
  | none => rw [q] at h; cases h
  | some d => rw [q] at h; cases h; exact ⟨rfl, rfl⟩
theorem lends_mem : ∀ {as : List Arg} {i : Nat}, i ∈ lends as ↔ ∃ j : Nat, as[j]? = some (Arg.lend i)
  | [], i => ⟨(fun h => nomatch h), fun ⟨j, h⟩ => by simp at h⟩
  | .val d :: as, i => by
    show i ∈ lends as ↔ _
    rw [lends_mem]
    constructor
    · rintro ⟨j, h⟩
      exact ⟨j + 1, by simpa using h⟩
    · rintro ⟨j, h⟩
      cases j with
      | zero => simp at h
      | succ j => exact ⟨j, by simpa using h⟩
  | .lend k :: as, i => by
    show i ∈ k :: lends as ↔ _
    rw [List.mem_cons, lends_mem]
    constructor
    · rintro (h | ⟨j, h⟩)
      · exact ⟨0, by simp [h]⟩
      · exact ⟨j + 1, by simpa using h⟩
    · rintro ⟨j, h⟩
      cases j with
      | zero =>
        simp at h
        exact .inl h.symm
      | succ j => exact .inr ⟨j, by simpa using h⟩
theorem rel_get {K : PySem.W.Frag} {h : Hp} {σ : L2.St} : ∀ {vs : List V} {as : List Arg} {j : Nat} {v : V}, ArgsRel K h σ vs as → vs[j]? = some v → ∃ a, as[j]? = some a ∧ match a with
    | .val d => Rep K h v d
    | .lend i => σ[i]? = some (some v)
  | _, _, _, _, .nil, h => by simp at h
  | _, _, 0, v, .val r t, h => by simp at h; subst h; exact ⟨_, rfl, r⟩
  | _, _, 0, v, .lend r t, h => by simp at h; subst h; exact ⟨_, rfl, r⟩
  | _, _, j + 1, v, .val r t, h => by
    obtain ⟨a, q1, q2⟩ := rel_get t (j := j) (v := v) (by simpa using h)
    exact ⟨a, by simpa using q1, q2⟩
  | _, _, j + 1, v, .lend r t, h => by
    obtain ⟨a, q1, q2⟩ := rel_get t (j := j) (v := v) (by simpa using h)
    exact ⟨a, by simpa using q1, q2⟩
theorem ioAddrs_mem {m : Nat} {a : Addr} : ∀ {ds : List FArg} {vs : List V} {n : Nat}, (m, a) ∈ ioAddrs ds vs n ↔ ∃ j d, m = n + j ∧ ds[j]? = some (true, d) ∧ vs[j]? = some (.ref a)
  | [], vs, n => by
    unfold ioAddrs
    exact ⟨(fun h => nomatch h), fun ⟨j, d, _, h, _⟩ => by simp at h⟩
  | (b, d) :: ds, [], n => by
    have e : ioAddrs ((b, d) :: ds) [] n = [] := by cases b <;> rfl
    rw [e]
    exact ⟨(fun h => nomatch h), fun ⟨j, d, _, _, h⟩ => by simp at h⟩
  | (b, d) :: ds, v :: vs, n => by
    have ih := ioAddrs_mem (ds := ds) (vs := vs) (n := n + 1) (m := m) (a := a)
    have tail : (∃ j d, m = n + 1 + j ∧ ds[j]? = some (true, d) ∧ vs[j]? = some (.ref a)) ↔ ∃ j d', m = n + (j + 1) ∧ ((b, d) :: ds)[j + 1]? = some (true, d') ∧ (v :: vs)[j + 1]? = some (.ref a) := by
      constructor
      · rintro ⟨j, d', h1, h2, h3⟩
        exact ⟨j, d', by omega, by simpa using h2, by simpa using h3⟩
      · rintro ⟨j, d', h1, h2, h3⟩
        exact ⟨j, d', by omega, by simpa using h2, by simpa using h3⟩
    have step : (∃ j d', m = n + j ∧ ((b, d) :: ds)[j]? = some (true, d') ∧ (v :: vs)[j]? = some (.ref a)) ↔ (m = n ∧ b = true ∧ v = .ref a) ∨ (m, a) ∈ ioAddrs ds vs (n + 1) := by
      rw [ih, tail]
      constructor
      · rintro ⟨j, d', h1, h2, h3⟩
        cases j with
        | zero =>
          simp at h2 h3
          exact .inl ⟨by omega, h2.1, h3⟩
        | succ j => exact .inr ⟨j, d', h1, h2, h3⟩
      · rintro (⟨h1, h2, h3⟩ | ⟨j, d', h1, h2, h3⟩)
        · exact ⟨0, d, by omega, by simp [h2], by simp [h3]⟩
        · exact ⟨j + 1, d', h1, h2, h3⟩
    rw [step]
    cases b with
    | false =>
      have e : ioAddrs ((false, d) :: ds) (v :: vs) n = ioAddrs ds vs (n + 1) := by cases v <;> rfl
      rw [e]
      exact ⟨.inr, fun h => h.elim (fun z => absurd z.2.1 (by decide)) id⟩
    | true =>
      cases v with
      | ref c =>
        have e : ioAddrs ((true, d) :: ds) (.ref c :: vs) n = (n, c) :: ioAddrs ds vs (n + 1) := rfl
        rw [e, List.mem_cons]
        constructor
        · rintro (h | h)
          · cases h
            exact .inl ⟨rfl, rfl, rfl⟩
          · exact .inr h
        · rintro (⟨h1, _, h3⟩ | h)
          · cases h3
            exact .inl (by rw [h1])
          · exact .inr h
      | _ =>
        exact ⟨.inr, fun h => h.elim (fun z => nomatch z.2.2) id⟩
theorem startE_get {n : Nat} {ds : List FArg} {j : Nat} {s : Slot} (h : (startE n ds)[j]? = some s) : (∃ d, ds[j]? = some d ∧ s = pslot d) ∨ (ds.length ≤ j ∧ s = .un) := by
  unfold startE at h
  by_cases hj : j < ds.length
  · rw [List.getElem?_append_left (by rw [List.length_map]; exact hj), List.getElem?_map] at h
    cases e : ds[j]? with
    | none => rw [e] at h; cases h
    | some d => rw [e] at h; exact .inl ⟨d, rfl, (Option.some.inj h).symm⟩
  · rw [List.getElem?_append_right (by rw [List.length_map]; omega), List.getElem?_replicate] at h
    split at h
    · exact .inr ⟨by omega, (Option.some.inj h).symm⟩
    · cases h
theorem startE_at {n : Nat} {ds : List FArg} {j : Nat} {d : FArg} (h : ds[j]? = some d) : (startE n ds)[j]? = some (pslot d) := by
  unfold startE
  have hj := (List.getElem?_eq_some_iff.mp h).1
  rw [List.getElem?_append_left (by rw [List.length_map]; exact hj), List.getElem?_map, h]
  rfl
theorem startV_at {n : Nat} {vs : List V} {j : Nat} {v : V} (h : vs[j]? = some v) : (vs.map some ++ List.replicate (n - vs.length) none)[j]? = some (some v) := by
  have hj := (List.getElem?_eq_some_iff.mp h).1
  rw [List.getElem?_append_left (by rw [List.length_map]; exact hj), List.getElem?_map, h]
  rfl

/-! ### the caller lends -/
def LA (σ : L2.St) (as : List Arg) : AS := fun a => ∃ i, i ∈ lends as ∧ σ[i]? = some (some (.ref a))
def Pc (P O : AS) (L : AS) : AS := fun a => P a ∨ (O a ∧ ¬ L a)
section
variable {C : Cn} {H H' : Hp} {O Oc : AS} {σ : L2.St} {env : SEnv} {vs : List V} {as : List Arg} {ds : List FArg}
theorem slot_lent (e : EnvOk C H O σ env) {i : Nat} {d : D} (h : env[i]?.bind slotData = some d) : ∃ a s, env[i]? = some s ∧ slotData s = some d ∧ s.owned = true ∧ σ[i]? = some (some (.ref a)) ∧ O a ∧ Shal C.K H (hid H (Un2 O C.P)) a d := by
  cases g : env[i]? with
  | none => rw [g] at h; cases h
  | some s =>
    rw [g] at h
    have h : slotData s = some d := h
    have hi : i < σ.length := by rw [← e.len]; exact (List.getElem?_eq_some_iff.mp g).1
    have hs : σ[i]? = some σ[i] := List.getElem?_eq_getElem hi
    have r := e.ok i _ _ hs g
    generalize hσ : σ[i] = o at r
    cases r with
    | un => cases h
    | xc _ => cases h
    | fz _ => cases h
    | ow hO sh => cases h; exact ⟨_, _, rfl, rfl, rfl, by rw [hs, hσ], hO, sh⟩
    | io hO sh => cases h; exact ⟨_, _, rfl, rfl, rfl, by rw [hs, hσ], hO, sh⟩
theorem un2_call {P O : AS} {L : AS} (hL : ∀ a, L a → O a) : Un2 L (Pc P O L) = Un2 O P := by
  funext a
  refine propext ⟨fun z => z.elim (fun y => .inl (hL a y)) fun y => y.elim .inr fun q => .inl q.1, fun z => z.elim (fun y => ?_) fun y => .inr (.inl y)⟩
  by_cases h : L a
  · exact .inl h
  · exact .inr (.inr ⟨y, h⟩)
theorem la_sub (e : EnvOk C H O σ env) (hd : argsD env as = some ds) : ∀ a, LA σ as a → O a := fun a ⟨i, hi, hs⟩ => by
  obtain ⟨j, hj⟩ := lends_mem.mp hi
  obtain ⟨d, h1, h2⟩ := argsD_get hd hj
  obtain ⟨b, s, _, _, _, h3, h4, _⟩ := slot_lent e (argD_of h2).2
  rw [hs] at h3
  cases h3
  exact h4
/-- at position j something is lent: what, and whence -/
theorem lent_at (e : EnvOk C H O σ env) (ar : ArgsRel C.K (hid H (Un2 O C.P)) σ vs as) (hd : argsD env as = some ds) {j : Nat} {d : D} (h : ds[j]? = some (true, d)) :
    ∃ i a, as[j]? = some (.lend i) ∧ vs[j]? = some (.ref a) ∧ env[i]?.bind slotData = some d ∧ σ[i]? = some (some (.ref a)) ∧ O a ∧ Shal C.K H (hid H (Un2 O C.P)) a d := by
  have hj : j < vs.length := by
    have h1 := (List.getElem?_eq_some_iff.mp h).1
    rw [argsD_len hd, ← ar.length] at h1
    exact h1
  have hv : vs[j]? = some vs[j] := List.getElem?_eq_getElem hj
  obtain ⟨a, h1, h2⟩ := rel_get ar hv
  obtain ⟨d', h3, h4⟩ := argsD_get hd h1
  rw [h] at h3
  cases h3
  cases a with
  | val d' => cases h4
  | lend i =>
    have q : env[i]?.bind slotData = some d := (argD_of h4).2
    obtain ⟨b, s, _, _, _, h5, h6, h7⟩ := slot_lent e q
    have h2 : σ[i]? = some (some vs[j]) := h2
    rw [h5] at h2
    have h2 : V.ref b = vs[j] := Option.some.inj (Option.some.inj h2)
    exact ⟨i, b, h1, by rw [hv, h2], q, h5, h6, h7⟩
theorem call_start {n : Nat} (e : EnvOk C H O σ env) (ar : ArgsRel C.K (hid H (Un2 O C.P)) σ vs as) (hd : argsD env as = some ds) (nd : (lends as).Nodup) (hn : as.length ≤ n) :
    EnvOk ⟨C.K, Pc C.P O (LA σ as), ioAddrs ds vs 0, n, Xp.nil⟩ H (LA σ as) (vs.map some ++ List.replicate (n - vs.length) none) (startE n ds) := by
  have hL := la_sub e hd
  have hlen : ds.length = vs.length := (argsD_len hd).trans ar.length.symm
  have own : ∀ {j : Nat} {a : Addr}, OwnAt (vs.map some ++ List.replicate (n - vs.length) none) (startE n ds) j a → ∃ i, as[j]? = some (.lend i) ∧ σ[i]? = some (some (.ref a)) := fun {j a} ⟨x1, s, x2, x3⟩ => by
    rcases startE_get x2 with ⟨⟨b, d⟩, h1, rfl⟩ | ⟨_, rfl⟩
    · cases b with
      | false => cases x3
      | true =>
        obtain ⟨i, a', h2, h3, _, h5, _⟩ := lent_at e ar hd h1
        rw [startV_at h3] at x1
        cases x1
        exact ⟨i, h2, h5⟩
    · cases x3
  refine ⟨by unfold startE; simp [hlen], fun j o s h1 h2 => ?_, fun j k a hj hk => ?_, fun a z hl => z.elim (fun y => e.dis a y (hL a hl)) fun y => y.2 hl, fun a hl => e.pub a (hL a hl), fun a z => z.elim (e.prv a) fun y => e.pub a y.1, fun m a hm => ?_, by
    have := ar.length
    simp
    omega⟩
  · show SlotOk C.K Xp.nil H (hid H (Un2 (LA σ as) (Pc C.P O (LA σ as)))) (LA σ as) o s
    rw [un2_call hL]
    rcases startE_get h2 with ⟨⟨b, d⟩, h3, rfl⟩ | ⟨_, rfl⟩
    · cases b with
      | false =>
        have hj : j < vs.length := by rw [← hlen]; exact (List.getElem?_eq_some_iff.mp h3).1
        have hv : vs[j]? = some vs[j] := List.getElem?_eq_getElem hj
        rw [startV_at hv] at h1
        cases h1
        obtain ⟨a, h4, h5⟩ := rel_get ar hv
        obtain ⟨d', h6, h7⟩ := argsD_get hd h4
        rw [h3] at h6
        cases h6
        cases a with
        | val d' => cases h7; exact .fz h5
        | lend i => exact absurd (show false = true from (argD_of h7).1) (by decide)
      | true =>
        obtain ⟨i, a, h4, h5, _, h7, h8, h9⟩ := lent_at e ar hd h3
        rw [startV_at h5] at h1
        cases h1
        exact .io ⟨i, lends_mem.mpr ⟨j, h4⟩, h7⟩ h9
    · exact .un
  · obtain ⟨i1, g1, g2⟩ := own hj
    obtain ⟨i2, g3, g4⟩ := own hk
    obtain ⟨d1, q1, q2⟩ := argsD_get hd g1
    obtain ⟨d2, q3, q4⟩ := argsD_get hd g3
    have o1 : OwnAt σ env i1 a := by
      obtain ⟨b, s, y1, _, y3, _⟩ := slot_lent e (argD_of q2).2
      exact ⟨g2, s, y1, y3⟩
    have o2 : OwnAt σ env i2 a := by
      obtain ⟨b, s, y1, _, y3, _⟩ := slot_lent e (argD_of q4).2
      exact ⟨g4, s, y1, y3⟩
    have ei := e.one i1 i2 a o1 o2
    subst ei
    exact lends_inj nd g1 g3
  · obtain ⟨j, d, rfl, h1, h2⟩ := ioAddrs_mem.mp hm
    rw [Nat.zero_add]
    exact ⟨startV_at h2, d, startE_at h1⟩
where
  lends_inj : ∀ {as : List Arg} {j k i : Nat}, (lends as).Nodup → as[j]? = some (.lend i) → as[k]? = some (.lend i) → j = k
    | [], _, _, _, _, h, _ => by simp at h
    | .val d :: as, j, k, i, nd, h1, h2 => by
      cases j with
      | zero => simp at h1
      | succ j =>
        cases k with
        | zero => simp at h2
        | succ k => exact congrArg (· + 1) (lends_inj (as := as) nd (by simpa using h1) (by simpa using h2))
    | .lend m :: as, j, k, i, nd, h1, h2 => by
      have nd' : (m :: lends as).Nodup := nd
      rw [List.nodup_cons] at nd'
      cases j with
      | zero =>
        simp at h1
        cases k with
        | zero => rfl
        | succ k => exact absurd (lends_mem.mpr ⟨k, by rw [h1]; simpa using h2⟩) nd'.1
      | succ j =>
        cases k with
        | zero =>
          simp at h2
          exact absurd (lends_mem.mpr ⟨j, by rw [h2]; simpa using h1⟩) nd'.1
        | succ k => exact congrArg (· + 1) (lends_inj (as := as) nd'.2 (by simpa using h1) (by simpa using h2))
end

/-! ### the caller gets back -/
theorem setData_owned {d : D} {s : Slot} : (setData d s).owned = s.owned := by cases s <;> rfl
theorem putIos_len : ∀ (is : List Nat) (ds : List D) (env : SEnv), (putIos is ds env).length = env.length
  | [], _, _ => by simp [putIos]
  | _ :: _, [], _ => by simp [putIos]
  | i :: is, d :: ds, env => by
    unfold putIos
    rw [putIos_len is ds]
    cases env[i]? <;> simp
theorem putIos_out {k : Nat} : ∀ {is : List Nat} {ds : List D} {env : SEnv}, k ∉ is → (putIos is ds env)[k]? = env[k]?
  | [], _, _, _ => by simp [putIos]
  | _ :: _, [], _, _ => by simp [putIos]
  | i :: is, d :: ds, env, h => by
    unfold putIos
    rw [putIos_out fun z => h (List.mem_cons_of_mem _ z)]
    cases env[i]? with
    | none => rfl
    | some s => exact List.getElem?_set_ne fun z => h (by rw [z]; exact List.mem_cons_self)
/-- a slot behind the call: as it was, or the lent one with its new data -/
theorem putIos_get {k : Nat} {s : Slot} : ∀ {is : List Nat} {ds : List D} {env : SEnv}, (putIos is ds env)[k]? = some s → ∃ s0, env[k]? = some s0 ∧ s.owned = s0.owned ∧ ((∃ d, s = .io d) ↔ ∃ d, s0 = .io d)
  | [], _, _, h => by simp [putIos] at h; exact ⟨s, h, rfl, Iff.rfl⟩
  | _ :: _, [], _, h => by simp [putIos] at h; exact ⟨s, h, rfl, Iff.rfl⟩
  | i :: is, d :: ds, env, h => by
    unfold putIos at h
    obtain ⟨s1, h1, h2, h3⟩ := putIos_get h
    cases g : env[i]? with
    | none => rw [g] at h1; exact ⟨s1, h1, h2, h3⟩
    | some t =>
      rw [g] at h1
      have h1 : (env.set i (setData d t))[k]? = some s1 := h1
      by_cases e : i = k
      · subst e
        have hi : i < env.length := (List.getElem?_eq_some_iff.mp g).1
        rw [List.getElem?_set_self hi] at h1
        cases h1
        refine ⟨t, g, h2.trans setData_owned, h3.trans ?_⟩
        cases t <;> simp [setData]
      · rw [List.getElem?_set_ne e] at h1
        exact ⟨s1, h1, h2, h3⟩
/-- the k-th slot, lent at position j -/
theorem putIos_at {env : SEnv} {k : Nat} : ∀ {as : List Arg} {ds : List FArg} {envc : SEnv} {env : SEnv} {j : Nat} {sc s0 : Slot} {d : D}, (lends as).Nodup → as.length = ds.length → (∀ (j i : Nat), as[j]? = some (Arg.lend i) ↔ as[j]? = some (Arg.lend i) ∧ ∃ d, ds[j]? = some (true, d)) → (∀ (j : Nat) (d : D), ds[j]? = some (true, d) → ∃ i, as[j]? = some (Arg.lend i)) →
    as[j]? = some (Arg.lend k) → envc[j]? = some sc → slotData sc = some d → ds.length ≤ envc.length → env[k]? = some s0 → (putIos (lends as) (iosOf ds envc) env)[k]? = some (setData d s0)
  | [], _, _, _, _, _, _, _, _, _, _, _, h, _, _, _, _ => by simp at h
  | a :: as, [], _, _, _, _, _, _, _, h, _, _, _, _, _, _, _ => by simp at h
  | a :: as, f :: ds, [], _, _, _, _, _, _, _, _, _, _, _, _, h, _ => by simp at h
  | .val v :: as, (b, d0) :: ds, se :: envc, env, j, sc, s0, d, nd, hl, h1, h2, hj, hc, hd, hle, hk => by
    cases b with
    | true =>
      obtain ⟨i, q⟩ := h2 0 d0 rfl
      simp at q
    | false =>
      cases j with
      | zero => simp at hj
      | succ j =>
        show (putIos (lends as) (iosOf ds envc) env)[k]? = _
        exact putIos_at (env := env) (k := k) (as := as) (j := j) nd (by simpa using hl) (fun j i => ⟨fun h => ⟨h, by
          obtain ⟨_, q⟩ := (h1 (j + 1) i).mp (by simpa using h)
          simpa using q⟩, fun h => h.1⟩) (fun j d h => by
          obtain ⟨i, q⟩ := h2 (j + 1) d (by simpa using h)
          exact ⟨i, by simpa using q⟩) (by simpa using hj) (by simpa using hc) hd (by simpa using hle) hk
  | .lend m :: as, (b, d0) :: ds, se :: envc, env, j, sc, s0, d, nd, hl, h1, h2, hj, hc, hd, hle, hk => by
    have nd' : (m :: lends as).Nodup := nd
    rw [List.nodup_cons] at nd'
    cases b with
    | false =>
      obtain ⟨_, d', q⟩ := (h1 0 m).mp rfl
      simp at q
    | true =>
      show (putIos (m :: lends as) ((slotData se).getD d0 :: iosOf ds envc) env)[k]? = _
      unfold putIos
      have r1 : ∀ (j i : Nat), as[j]? = some (Arg.lend i) ↔ as[j]? = some (Arg.lend i) ∧ ∃ d, ds[j]? = some (true, d) := fun j i => ⟨fun h => ⟨h, by
          obtain ⟨_, q⟩ := (h1 (j + 1) i).mp (by simpa using h)
          simpa using q⟩, fun h => h.1⟩
      have r2 : ∀ (j : Nat) (d : D), ds[j]? = some (true, d) → ∃ i, as[j]? = some (Arg.lend i) := fun j d h => by
          obtain ⟨i, q⟩ := h2 (j + 1) d (by simpa using h)
          exact ⟨i, by simpa using q⟩
      cases j with
      | zero =>
        simp at hj hc
        subst hj hc
        rw [putIos_out nd'.1, hk, hd]
        have hi : m < env.length := (List.getElem?_eq_some_iff.mp hk).1
        exact List.getElem?_set_self hi
      | succ j =>
        have hne : m ≠ k := fun z => nd'.1 (lends_mem.mpr ⟨j, by rw [z]; simpa using hj⟩)
        refine putIos_at (env := env) (k := k) (as := as) (j := j) nd'.2 (by simpa using hl) r1 r2 (by simpa using hj) (by simpa using hc) hd (by simpa using hle) ?_
        cases env[m]? with
        | none => exact hk
        | some t => exact (List.getElem?_set_ne hne).trans hk
section
variable {C : Cn} {H H' : Hp} {O Oc : AS} {σ σc : L2.St} {env envc : SEnv} {vs : List V} {as : List Arg} {ds : List FArg}
abbrev Oback (O Oc L : AS) : AS := fun a => Oc a ∨ (O a ∧ ¬ L a)
theorem un2_back {P O Oc L : AS} : Un2 (Oback O Oc L) P = Un2 Oc (Pc P O L) := by
  funext a
  exact propext ⟨fun z => z.elim (fun y => y.elim .inl fun q => .inr (.inr q)) fun y => .inr (.inl y), fun z => z.elim (fun y => .inl (.inl y)) fun y => y.elim .inr fun q => .inl (.inr q)⟩
theorem call_stp (e : EnvOk C H O σ env) (hd : argsD env as = some ds) (s : Stp (Pc C.P O (LA σ as)) H (LA σ as) H' Oc) : Stp C.P H O H' (Oback O Oc (LA σ as)) :=
  ⟨fun a o h n => by
    have q := s.keep a o h fun z => n (la_sub e hd a z)
    exact ⟨q.1, fun z => z.elim q.2 fun y => n y.1⟩, s.live⟩
theorem call_back (e : EnvOk C H O σ env) (ar : ArgsRel C.K (hid H (Un2 O C.P)) σ vs as) (hd : argsD env as = some ds) (nd : (lends as).Nodup) (s : Stp (Pc C.P O (LA σ as)) H (LA σ as) H' Oc)
    (ec : EnvOk ⟨C.K, Pc C.P O (LA σ as), ioAddrs ds vs 0, n, Xp.nil⟩ H' Oc σc envc) (hle : ds.length ≤ envc.length) : EnvOk C H' (Oback O Oc (LA σ as)) σ (putIos (lends as) (iosOf ds envc) env) := by
  have hL := la_sub e hd
  have same : Same (hid H (Un2 O C.P)) (hid H' (Un2 (Oback O Oc (LA σ as)) C.P)) := by
    have := s.same
    rw [un2_call hL, ← un2_back] at this
    exact this
  have back : ∀ {i : Nat} {a : Addr}, OwnAt σ (putIos (lends as) (iosOf ds envc) env) i a → OwnAt σ env i a := fun {i a} ⟨x1, t, x2, x3⟩ => by
    obtain ⟨t0, y1, y2, _⟩ := putIos_get x2
    exact ⟨x1, t0, y1, y2 ▸ x3⟩
  refine ⟨by rw [putIos_len]; exact e.len, fun i o t h1 h2 => ?_, fun i j a hi hj => e.one i j a (back hi) (back hj), fun a hP z => ?_, fun a z => ?_, fun a hP => ?_, fun i a h => ?_, e.sz⟩
  · by_cases hi : i ∈ lends as
    · obtain ⟨j, hj⟩ := lends_mem.mp hi
      obtain ⟨f, hf1, hf2⟩ := argsD_get hd hj
      obtain ⟨b, d⟩ := f
      obtain ⟨hb, hs⟩ := argD_of hf2
      have hb : b = true := hb
      subst hb
      obtain ⟨i', a, g1, g2, g3, g4, g5, g6⟩ := lent_at e ar hd hf1
      rw [hj] at g1
      cases g1
      have mem : (j, a) ∈ ioAddrs ds vs 0 := ioAddrs_mem.mpr ⟨j, d, by omega, hf1, g2⟩
      obtain ⟨l1, d', l2⟩ := ec.lent j a mem
      have sl := ec.ok j _ _ l1 l2
      obtain ⟨b', t0, y1, y2, y3, y4, _, _⟩ := slot_lent e g3
      have key := putIos_at (env := env) (k := i) (as := as) (ds := ds) (envc := envc) (j := j) (sc := .io d') (s0 := t0) (d := d') nd (argsD_len hd).symm
        (fun j i => ⟨fun h => ⟨h, by
          obtain ⟨⟨b, d⟩, q1, q2⟩ := argsD_get hd h
          obtain ⟨q3, _⟩ := argD_of q2
          have q3 : b = true := q3
          subst q3
          exact ⟨d, q1⟩⟩, fun h => h.1⟩) (fun j d h => by
          obtain ⟨i, _, q, _⟩ := lent_at e ar hd h
          exact ⟨i, q⟩) hj l2 rfl hle y1
      rw [key] at h2
      cases h2
      rw [g4] at h1
      cases h1
      cases sl with
      | io hO sh =>
        have sh : Shal C.K H' (hid H' (Un2 (Oback O Oc (LA σ as)) C.P)) a d' := by
          rw [un2_back]
          exact sh
        cases t0 with
        | un => cases y2
        | xc _ => cases y2
        | fz _ => cases y2
        | ow _ => exact .ow (.inl hO) sh
        | io _ => exact .io (.inl hO) sh
    · rw [putIos_out hi] at h2
      have keepO : ∀ a, O a → σ[i]? = some (some (.ref a)) → (∃ s, env[i]? = some s ∧ s.owned = true) → ¬ LA σ as a := fun a hO hσ ho ⟨k, hk, hk2⟩ => by
        obtain ⟨j, hj⟩ := lends_mem.mp hk
        obtain ⟨f, hf1, hf2⟩ := argsD_get hd hj
        obtain ⟨b', t0, y1, y2, y3, y4, _, _⟩ := slot_lent e (argD_of hf2).2
        exact hi (e.one k i a ⟨hk2, t0, y1, y3⟩ ⟨hσ, ho⟩ ▸ hk)
      cases e.ok i o t h1 h2 with
      | un => exact .un
      | fz r => exact .fz (r.mono same)
      | xc hx => exact .xc (hx.mono same)
      | @ow a d hO r =>
        have nL := keepO a hO h1 ⟨_, h2, rfl⟩
        obtain ⟨u, hu⟩ := e.pub a hO
        exact .ow (.inr ⟨hO, nL⟩) (r.mono ((s.keep a u hu nL).1.trans hu.symm) same)
      | @io a d hO r =>
        have nL := keepO a hO h1 ⟨_, h2, rfl⟩
        obtain ⟨u, hu⟩ := e.pub a hO
        exact .io (.inr ⟨hO, nL⟩) (r.mono ((s.keep a u hu nL).1.trans hu.symm) same)
  · rcases z with z | z
    · exact ec.dis a (.inl hP) z
    · exact e.dis a hP z.1
  · rcases z with z | z
    · exact ec.pub a z
    · obtain ⟨u, hu⟩ := e.pub a z.1
      exact s.live a u hu
  · obtain ⟨u, hu⟩ := e.prv a hP
    exact s.live a u hu
  · obtain ⟨q1, d, q2⟩ := e.lent i a h
    refine ⟨q1, ?_⟩
    have hi : i < (putIos (lends as) (iosOf ds envc) env).length := by
      rw [putIos_len]
      exact (List.getElem?_eq_some_iff.mp q2).1
    obtain ⟨t0, y1, _, y3⟩ := putIos_get (List.getElem?_eq_getElem hi)
    rw [q2] at y1
    cases y1
    obtain ⟨d', hd'⟩ := y3.mpr ⟨d, rfl⟩
    exact ⟨d', by rw [List.getElem?_eq_getElem hi, hd']⟩
theorem call_res {v : V} {w : W} (e : EnvOk C H O σ env) (ar : ArgsRel C.K (hid H (Un2 O C.P)) σ vs as) (hd : argsD env as = some ds) (s : Stp (Pc C.P O (LA σ as)) H (LA σ as) H' Oc)
    (ec : EnvOk ⟨C.K, Pc C.P O (LA σ as), ioAddrs ds vs 0, n, Xp.nil⟩ H' Oc σc envc) (r : ResOk ⟨C.K, Pc C.P O (LA σ as), ioAddrs ds vs 0, n, Xp.nil⟩ H' Oc σc envc v w) : ResOk C H' (Oback O Oc (LA σ as)) σ (putIos (lends as) (iosOf ds envc) env) v w := by
  obtain ⟨b, d⟩ := w
  cases b with
  | false =>
    show Rep C.K (hid H' (Un2 (Oback O Oc (LA σ as)) C.P)) v d
    rw [un2_back]
    exact r
  | true =>
    obtain ⟨p, rfl, hO, sh, n⟩ := r
    refine ⟨p, rfl, .inl hO, by rw [un2_back]; exact sh, fun i ⟨x1, t, x2, x3⟩ => ?_⟩
    obtain ⟨t0, y1, y2, _⟩ := putIos_get x2
    have ow : OwnAt σ env i p := ⟨x1, t0, y1, y2 ▸ x3⟩
    have hOp : O p := by
      have q := e.ok i _ _ x1 y1
      cases q with
      | un => rw [y2] at x3; cases x3
      | xc _ => rw [y2] at x3; cases x3
      | fz _ => rw [y2] at x3; cases x3
      | ow h _ => exact h
      | io h _ => exact h
    by_cases hl : LA σ as p
    · obtain ⟨k, hk, hk2⟩ := hl
      obtain ⟨j, hj⟩ := lends_mem.mp hk
      obtain ⟨⟨b, d⟩, hf1, hf2⟩ := argsD_get hd hj
      have hb : b = true := (argD_of hf2).1
      subst hb
      obtain ⟨i', a, g1, g2, g3, g4, _, _⟩ := lent_at e ar hd hf1
      rw [hj] at g1
      cases g1
      rw [hk2] at g4
      cases g4
      obtain ⟨l1, d', l2⟩ := ec.lent j p (ioAddrs_mem.mpr ⟨j, d, by omega, hf1, g2⟩)
      exact n j ⟨l1, _, l2, rfl⟩
    · exact ec.dis p (.inr ⟨hOp, hl⟩) hO
end
end DL
set_option maxHeartbeats 8000000
/-! DL8: the rules of calls: defs, methods, new instances; fields. -/
namespace DL
open PySem PySem.Spec PyProof.Rows L2

def dCall (o : List FArg → FOut) (m : ArgDen) : EDen := fun env => match m env with
  | .ok as env1 => if (lends as).Nodup then (match argsD env1 as with
      | some ds => (match o ds with
        | .ret w ios => .ok w (putIos (lends as) ios env1)
        | .ex x ios => .ex x (putIos (lends as) ios env1)
        | .st => .st)
      | none => .st) else .st
  | .ex x e => .ex x e
  | .st => .st
section
variable {T : Th} {P : AS} {σ : L2.St} {H : Hp} {O : AS} {env : SEnv} {vs : List V} {as : List Arg} {Q : VK} {o : List FArg → FOut} {n np : Nat}
/-- from the values of the arguments to the promise -/
theorem call_sp (he : EnvOk (T.cn P) H O σ env) (ar : ArgsRel T.K (hid H (Un2 O P)) σ vs as) (hnp : np ≤ n) (ho0 : ∀ ds, ds.length ≠ np → o ds = .st)
    (q : RD T P σ H O Q (if (lends as).Nodup then (match argsD env as with
      | some ds => (match o ds with
        | .ret w ios => .ok w (putIos (lends as) ios env)
        | .ex x ios => .ex x (putIos (lends as) ios env)
        | .st => .st)
      | none => .st) else .st)) : spD T.K n np o vs H Q (fun cls dd H' => T.W cls dd σ H') := by
  by_cases nd : (lends as).Nodup
  · rw [if_pos nd] at q
    cases hd : argsD env as with
    | none => simp only [hd] at q; exact q.elim
    | some ds =>
      simp only [hd] at q
      have hl : ds.length = vs.length := (argsD_len hd).trans ar.length.symm
      by_cases hp : ds.length = np
      case neg =>
        simp only [ho0 ds hp] at q
        exact q.elim
      have hp : as.length = np := (argsD_len hd).symm.trans hp
      have hn : as.length ≤ n := by omega
      refine ⟨ar.length.trans hp, Pc P O (LA σ as), LA σ as, ds, call_start he ar hd nd hn, hl, ?_⟩
      cases ho : o ds with
      | st => simp only [ho] at q; exact q
      | ret w ios =>
        simp only [ho] at q
        intro v σ' env' H' O' s' e' hi r'
        subst hi
        have hle : ds.length ≤ env'.length := by
          rw [e'.len, e'.sz, hl, ar.length]
          exact hn
        exact q v H' _ (call_stp he hd s') (call_back he ar hd nd s' e' hle) (call_res he ar hd s' e' r')
      | ex x ios =>
        simp only [ho] at q
        intro cls dd σ' env' H' O' s' e' hi x'
        subst hi
        have hle : ds.length ≤ env'.length := by
          rw [e'.len, e'.sz, hl, ar.length]
          exact hn
        refine q cls dd H' _ (call_stp he hd s') (call_back he ar hd nd s' e' hle) ?_
        have x' : ExOk T.K (hid H' (Un2 O' (Pc P O (LA σ as)))) cls dd x := x'
        show ExOk T.K (hid H' (Un2 (Oback O O' (LA σ as)) P)) cls dd x
        rw [un2_back]
        exact x'
  · rw [if_neg nd] at q
    exact q.elim
theorem ArgsRel.append {K : PySem.W.Frag} {h : Hp} {σ : L2.St} : ∀ {vs ws : List V} {as bs : List Arg}, ArgsRel K h σ vs as → ArgsRel K h σ ws bs → ArgsRel K h σ (vs ++ ws) (as ++ bs)
  | _, _, _, _, .nil, q => q
  | _, _, _, _, .val r t, q => .val r (t.append q)
  | _, _, _, _, .lend r t, q => .lend r (t.append q)
theorem ArgsRel.vals {K : PySem.W.Frag} {h : Hp} {σ : L2.St} : ∀ {vs : List V} {ds : List D}, Reps K h vs ds → ArgsRel K h σ vs (ds.map .val)
  | _, _, .nil => .nil
  | _, _, .cons a b => .val a (ArgsRel.vals b)
/-- the defaults behind the written arguments -/
def rDfl (m : ArgDen) (dds : List D) : ArgDen := fun env => match m env with
  | .ok as env1 => .ok (as ++ dds.map .val) env1
  | .ex x e => .ex x e
  | .st => .st
variable {X : Cx} {k : Nat} {f : Addr} {fd : FuncData} {ps : List Str} {dvs : List V} {ds : List Value} {x : Str} {p pos : Pos} {e : Expr} {es : List Expr} {m : ArgDen} {dds : List D}
theorem rd_call (hnp : np ≤ n) (ho0 : ∀ ds, ds.length ≠ np → o ds = .st) (hdv : ∀ h, Reps T.K h dvs dds) (q : tD T (dCall o (rDfl m dds)) σ H Q) : tDGa T m σ H (fun vs H1 => spD T.K n np o (vs ++ dvs) H1 Q (fun cls dd H' => T.W cls dd σ H')) := by
  obtain ⟨P, O, env, he, q⟩ := q
  refine ⟨P, O, env, he, ?_⟩
  unfold dCall rDfl at q
  cases h : m env with
  | st => simp only [h] at q; exact q
  | ex x e => simp only [h] at q; exact q
  | ok as env1 =>
    simp only [h] at q
    exact fun vs H1 O1 s1 e1 ar => call_sp e1 (ar.append (.vals (hdv _))) hnp ho0 (RD.step q s1)
theorem g_call (F : FnG X.prog X.w X.K X.mg X.base (L2.CX X.prog X.w) k f fd ps (spD T.K n np o)) (hr : RoomG k X.A) (hg : Gl X x) (hm : X.mg x = some (.ref f)) (hk : PySem.W.keepIn X.K (.ref f) = true) (hb : Binds X.K fd ps ds) (hd : Vals dvs ds)
    (hdv : ∀ h, Reps T.K h dvs dds) (hnp : np ≤ n) (ho0 : ∀ ds, ds.length ≠ np → o ds = .st) (tk : Takes X T.W) (ha : PA X (e :: es) (tDGa T m)) (hdb : (x == ("__debug__" : Str)) = false) (he : starEach (e :: es) X.env = (false, eval e X.env) :: starEach es X.env)
    (hpl : (backTo pos (starEach es X.env)).any (·.1) = false) : PE X (.Call (.Name x p) (e :: es) [] pos) (tD T (dCall o (rDfl m dds))) :=
  (pe_callG (E := WE T.W) F hr hg hm hk hb hd (fun σ => passAt tk σ) ha hdb he hpl).to fun σ H Q q => rd_call hnp ho0 hdv q
theorem g_call0 (F : FnG X.prog X.w X.K X.mg X.base (L2.CX X.prog X.w) k f fd ps (spD T.K n np o)) (hr : RoomG k X.A) (hg : Gl X x) (hm : X.mg x = some (.ref f)) (hk : PySem.W.keepIn X.K (.ref f) = true) (hb : Binds X.K fd ps ds) (hd : Vals dvs ds)
    (hdv : ∀ h, Reps T.K h dvs dds) (hnp : np ≤ n) (ho0 : ∀ ds, ds.length ≠ np → o ds = .st) (tk : Takes X T.W) (hdb : (x == ("__debug__" : Str)) = false) : PE X (.Call (.Name x p) [] [] pos) (tD T (dCall o (rDfl rNil dds))) := by
  refine ⟨fun pins s σ H Q I h => ?_⟩
  refine wpAny_Call_Name_kw (ld_glob I hg hm ?_ hdb)
  obtain ⟨P, O, env, he, q⟩ := h
  have sp : spD T.K n np o ([] ++ dvs) H Q (fun cls dd H' => T.W cls dd σ H') := call_sp he (ArgsRel.append .nil (.vals (hdv _))) hnp ho0 q
  exact PySem.W.callWith_K0 I.kIn hk (run_fnG (us := []) (vs := []) (E := WE T.W) F hr hb hd (passAt tk σ) I .nil sp)
end
end DL
set_option maxHeartbeats 8000000
/-! DL9: methods, new instances, fields, stores. -/
namespace DL
open PySem PySem.Spec PyProof.Rows L2

/-! ### o.m(e, ..) -/
def notSuper : Expr → Bool
  | .Call (.Name id _) [] [] _ => id != ("super" : Str)
  | _ => true
theorem abase {o : Expr} {m : Str} {env : Env} {w : Sem Value} (h : notSuper o = true) : attributeBase o m env w = w := by
  cases o with
  | Call f as ks pos =>
    cases f with
    | Name id p =>
      cases as with
      | nil =>
        cases ks with
        | nil => exact abase_call h
        | cons _ _ => rfl
      | cons _ _ => rfl
    | _ => rfl
  | _ => rfl
theorem backTo_len (pos : Pos) (l : List (Bool × Sem Value)) : (backTo pos l).length = l.length := by
  unfold backTo
  simp
/-- none of them has a star -/
def noStar : List Expr → Bool
  | [] => true
  | .Starred _ _ :: _ => false
  | _ :: r => noStar r
theorem starEach_plain {env : Env} : ∀ {es : List Expr}, noStar es = true → starEach es env = es.map fun e => (false, eval e env)
  | [], _ => rfl
  | e :: r, h => by
    cases e with
    | Starred _ _ => cases h
    | _ => exact congrArg (_ :: ·) (starEach_plain (es := r) h)
theorem starEach_cons {env : Env} {e : Expr} {es : List Expr} (h : noStar (e :: es) = true) : starEach (e :: es) env = (false, eval e env) :: starEach es env := by
  cases e with
  | Starred _ _ => cases h
  | _ => rfl
theorem noStar_tail {e : Expr} {es : List Expr} (h : noStar (e :: es) = true) : noStar es = true := by
  cases e with
  | Starred _ _ => cases h
  | _ => exact h
theorem any_plain {env : Env} {pos : Pos} {es : List Expr} (h : noStar es = true) : (backTo pos (starEach es env)).any (·.1) = false := by
  rw [starEach_plain h]
  unfold backTo
  rw [List.any_eq_false]
  intro x hx
  simp only [List.mem_map] at hx
  obtain ⟨y, ⟨z, _, rfl⟩, rfl⟩ := hx
  simp
theorem form_plain {env : Env} {pos : Pos} {es : List Expr} (h : noStar es = true) (hl : es.length < 30) : methodCallForm (es.length + ([] : List Keyword).length) (backTo pos (starEach es env)) (backToKw pos (keywordEach [] env)) = true := by
  unfold methodCallForm
  have h1 : (backTo pos (starEach es env)).all (!·.1) = true := by
    have := any_plain (env := env) (pos := pos) h
    rw [List.any_eq_false] at this
    rw [List.all_eq_true]
    intro x hx
    simpa using this x hx
  rw [h1]
  simp [keywordEach, backToKw]
  omega
def rSelf (a : Arg) (m : ArgDen) : ArgDen := fun env => match m env with
  | .ok as env1 => .ok (a :: as) env1
  | .ex x e => .ex x e
  | .st => .st
/-- of a class: what its method does, the defaults behind -/
abbrev MTab := Str → Option (List D × (List FArg → FOut))
def dMeth (name : Str) (o : MTab) (mo : EDen) (m : ArgDen) : EDen := bindE mo fun d => match d with
  | .obj c fs => if fs.lookup name = none then (match o c with
      | some (dds, f) => dCall f (rDfl (rSelf (.val d) m) dds)
      | none => dSt) else dSt
  | _ => dSt
/-- what is known of a method -/
structure MOk (X : Cx) (T : Th) (c name : Str) (dds : List D) (o : List FArg → FOut) : Prop where
  cl : Cls X.K (He.ga T.K c)
  ex : ∃ (k : Nat) (f : Addr) (fd : FuncData) (ps : List Str) (n np : Nat) (dvs : List V) (ds : List Value), Meth X.K (He.ga T.K c) name f ∧ FnG X.prog X.w X.K X.mg X.base (L2.CX X.prog X.w) k f fd ps (spD T.K n np o) ∧ RoomG (k + 3) X.A ∧ Binds X.K fd ps ds ∧ Vals dvs ds ∧
    (∀ h, Reps T.K h dvs dds) ∧ np ≤ n ∧ ∀ ds, ds.length ≠ np → o ds = .st
section
variable {X : Cx} {T : Th} {o e : Expr} {es : List Expr} {name : Str} {apos pos : Pos} {mo : EDen} {m : ArgDen} {tab : MTab}
theorem g_meth (hK : X.K = T.K) (he : PE X o (tD T mo)) (ha : PA X (e :: es) (tDGa T m)) (hm : ∀ c dds f, tab c = some (dds, f) → MOk X T c name dds f) (tk : Takes X T.W) (hns : notSuper o = true) (hst : noStar (e :: es) = true) (hl : (e :: es).length < 30) (hline : (apos.endLine == pos.line) = true) :
    PE X (.Call (.Attribute o name apos) (e :: es) [] pos) (tD T (dMeth name tab mo m)) := by
  refine ⟨fun pins s σ H Q I h => ?_⟩
  obtain ⟨P, O, env, he0, q⟩ := h
  have ht : eval (.Call (.Attribute o name apos) (e :: es) [] pos) X.env = (do
      let ov ← eval o X.env
      standAt apos.atName
      let (f, first) ← holding [ov] (getMethod ov name (plainOf o X.env))
      callWith pos f first (backTo pos (starEach (e :: es) X.env)) (backToKw pos (keywordEach [] X.env))) := mcall_of (abase hns) fun ov => mcall_line (form_plain hst hl) hline
  have rd := rd_bind (R := fun v H1 => ∃ O1 env1 d, Stp P H O H1 O1 ∧ EnvOk (T.cn P) H1 O1 σ env1 ∧ Rep T.K (hid H1 (Un2 O1 P)) v d ∧ RD T P σ H1 O1 Q ((match d with
    | .obj c fs => if fs.lookup name = none then (match tab c with
      | some (dds, f) => dCall f (rDfl (rSelf (.val d) m) dds)
      | none => dSt) else dSt
    | _ => dSt : EDen) env1)) he0 q fun v H1 O1 env1 d s1 e1 r1 q1 => ⟨O1, env1, d, s1, e1, r1, q1⟩
  refine PySem.W.methodCall_KW (pl := plainOf o X.env) (thn (he.run pins s σ H _ I rd) fun u s1 ⟨x, H1, I1, rx, O1, env1, d, st1, e1, r1, q1⟩ => ?_) ht
  cases r1 with
  | @obj a dx c fs dfs ha1 hf =>
    obtain rfl : u = Value.ref a := rx
    have ea : H1 a = some (.ins (He.ga T.K c) dx fs) := hid_same _ _ ha1
    have r1 : Rep T.K (hid H1 (Un2 O1 P)) (.ref a) (.obj c dfs) := .obj ha1 hf
    simp only at q1
    by_cases hl : dfs.lookup name = none
    · rw [if_pos hl] at q1
      cases htab : tab c with
      | none => simp only [htab] at q1; exact q1.elim
      | some z =>
        obtain ⟨dds, o'⟩ := z
        simp only [htab] at q1
        obtain ⟨cl, k, f, fd, ps, n, np, dvs, ds, hme, F, hr, hb, hd, hdv, hnp, ho0⟩ := hm c dds o' htab
        refine getmeth_ok I1 ea cl hme (RepF.none hf hl) ?_
        refine PySem.W.callWith_K (first := [.ref a]) (h₀ := X.base) I.ok.mod.kin hme.kp ?_ (starEach_cons hst) (any_plain (noStar_tail hst))
        have sp : tDGa T m σ H1 (fun vs H2 => spD T.K n np o' (.ref a :: (vs ++ dvs)) H2 Q (fun cls dd H' => T.W cls dd σ H')) := by
          refine ⟨P, O1, env1, e1, ?_⟩
          unfold dCall rDfl rSelf at q1
          cases h : m env1 with
          | st => simp only [h] at q1; exact q1
          | ex x e => simp only [h] at q1; exact q1
          | ok as env2 =>
            simp only [h] at q1
            exact fun vs H2 O2 s2 e2 ar => call_sp (vs := .ref a :: (vs ++ dvs)) (as := .val (.obj c dfs) :: (as ++ dds.map .val)) e2 (.val (r1.mono s2.same) (ar.append (.vals (hdv _)))) hnp ho0 (RD.step q1 s2)
        refine thn (ha.run pos pins s1 σ H1 _ I1 sp) fun us s2 ⟨vs, H2, I2, r, q2⟩ => ⟨I2.kIn, ?_⟩
        exact run_fnG (us := .ref a :: us) (vs := .ref a :: vs) (E := WE T.W) F (hr.mono (by omega)) hb hd (passAt tk σ) I2 (.cons rfl r) q2
    · rw [if_neg hl] at q1
      exact q1.elim
  | _ => exact q1.elim
theorem g_meth0 (hK : X.K = T.K) (he : PE X o (tD T mo)) (hm : ∀ c dds f, tab c = some (dds, f) → MOk X T c name dds f) (tk : Takes X T.W) (hns : notSuper o = true) (hline : (apos.endLine == pos.line) = true) :
    PE X (.Call (.Attribute o name apos) [] [] pos) (tD T (dMeth name tab mo rNil)) := by
  refine ⟨fun pins s σ H Q I h => ?_⟩
  obtain ⟨P, O, env, he0, q⟩ := h
  have ht : eval (.Call (.Attribute o name apos) [] [] pos) X.env = (do
      let ov ← eval o X.env
      standAt apos.atName
      let (f, first) ← holding [ov] (getMethod ov name (plainOf o X.env))
      callWith pos f first (backTo pos (starEach [] X.env)) (backToKw pos (keywordEach [] X.env))) := mcall_of (abase hns) fun ov => mcall_line (form_plain rfl (by decide)) hline
  have rd := rd_bind (R := fun v H1 => ∃ O1 env1 d, Stp P H O H1 O1 ∧ EnvOk (T.cn P) H1 O1 σ env1 ∧ Rep T.K (hid H1 (Un2 O1 P)) v d ∧ RD T P σ H1 O1 Q ((match d with
    | .obj c fs => if fs.lookup name = none then (match tab c with
      | some (dds, f) => dCall f (rDfl (rSelf (.val d) rNil) dds)
      | none => dSt) else dSt
    | _ => dSt : EDen) env1)) he0 q fun v H1 O1 env1 d s1 e1 r1 q1 => ⟨O1, env1, d, s1, e1, r1, q1⟩
  refine PySem.W.methodCall_KW (pl := plainOf o X.env) (thn (he.run pins s σ H _ I rd) fun u s1 ⟨x, H1, I1, rx, O1, env1, d, st1, e1, r1, q1⟩ => ?_) ht
  cases r1 with
  | @obj a dx c fs dfs ha1 hf =>
    obtain rfl : u = Value.ref a := rx
    have ea : H1 a = some (.ins (He.ga T.K c) dx fs) := hid_same _ _ ha1
    have r1 : Rep T.K (hid H1 (Un2 O1 P)) (.ref a) (.obj c dfs) := .obj ha1 hf
    simp only at q1
    by_cases hl : dfs.lookup name = none
    · rw [if_pos hl] at q1
      cases htab : tab c with
      | none => simp only [htab] at q1; exact q1.elim
      | some z =>
        obtain ⟨dds, o'⟩ := z
        simp only [htab] at q1
        obtain ⟨cl, k, f, fd, ps, n, np, dvs, ds, hme, F, hr, hb, hd, hdv, hnp, ho0⟩ := hm c dds o' htab
        refine getmeth_ok I1 ea cl hme (RepF.none hf hl) ?_
        have sp : spD T.K n np o' (.ref a :: dvs) H1 Q (fun cls dd H' => T.W cls dd σ H') :=
          call_sp (vs := .ref a :: dvs) (as := .val (.obj c dfs) :: dds.map .val) e1 (.val r1 (.vals (hdv _))) hnp ho0 q1
        exact PySem.W.callWith_K0 (first := [.ref a]) I1.kIn hme.kp (run_fnG (us := [.ref a]) (vs := [.ref a]) (E := WE T.W) F (hr.mono (by omega)) hb hd (passAt tk σ) I1 (.cons rfl .nil) sp)
    · rw [if_neg hl] at q1
      exact q1.elim
  | _ => exact q1.elim
end
end DL
set_option maxHeartbeats 8000000
/-! DL10: new instances, fields, stores into what is owned. -/
namespace DL
open PySem PySem.Spec PyProof.Rows L2

/-! ### C(e, ..) -/
/-- __init__ at a new instance, lent to it: it must end in None -/
def makeO (c : Str) (o : List FArg → FOut) : List FArg → FOut := fun ds => match o ((true, .obj c []) :: ds) with
  | .ret (_, .non) (d :: ios) => .ret (true, d) ios
  | .ex x (_ :: ios) => .ex x ios
  | _ => .st
section
variable {X : Cx} {pins : List (Addr × Obj)} {σ : L2.St} {H : Hp} {s : Shared} {Q : VK} {us : List Value} {vs : List V} {C f : Addr} {CX : CXT} {k : Nat} {fd : FuncData} {ps : List Str} {sp : Sp} {ds : List Value} {dvs : List V} {E : XK}
theorem run_makeS (M : Mk X.K C f) (F : FnG X.prog X.w X.K X.mg X.base CX k f fd ps sp) (hr : RoomG (k + 1) X.A) (hb : Binds X.K fd ps ds) (hd : Vals dvs ds)
    (hx : PassesAt CX X σ E) (I : Inv X pins σ H s) (r : Vals vs us)
    (h : ∀ x dx, H x = none → H dx = none → dx ≠ x → sp (.ref x :: (vs ++ dvs)) (upd (upd H dx (.own x)) x (.ins C dx [])) (fun v H2 => v = .non ∧ Q (.ref x) H2) E) :
    wpAny (model X.prog X.w) X.A (call (.ref C) us) (EP X pins σ Q) X.xe s := by
  have hq := h (s.heap.objs.size + 1) s.heap.objs.size (I.hok.fresh (Nat.le_succ _)) (I.hok.fresh (Nat.le_refl _)) (Nat.ne_of_lt (Nat.lt_succ_self _))
  have I2 := Inv.made (C := C) I
  have r2 : Vals (V.ref (s.heap.objs.size + 1) :: (vs ++ dvs)) (Value.ref (s.heap.objs.size + 1) :: (us ++ ds)) := .cons rfl (r.append hd)
  have hl : (Value.ref (s.heap.objs.size + 1) :: us ++ ds).length = ps.length := by
    have e := r2.length
    rw [F.len _ _ _ _ hq] at e
    exact e.symm
  refine wpAny_call (make_map (f := f) I.kIn M.makes M.init (beq_iff_eq.mp M.fn) (codeAny_mono (F.run _ X.stack _ _ ⟨Value.ref (s.heap.objs.size + 1) :: us, []⟩ (Value.ref (s.heap.objs.size + 1) :: (us ++ ds)) _ _ E (hr.make C us [])
    (I2.env0.make C us []) (hb _ (Value.ref (s.heap.objs.size + 1) :: us) I2.kIn hl) r2 hq) fun r s' hq' => ?_))
  cases r with
  | error e => exact hx pins _ _ e s' I2 hq'
  | ok fl =>
    cases fl with
    | ret u =>
      obtain ⟨v, H', I3, rv, ev, q3⟩ := I2.after hq'
      subst ev
      exact ⟨rv, ⟨V.ref (s.heap.objs.size + 1), H', I3, rfl, q3⟩⟩
    | next => exact False.elim hq'
    | brk => exact False.elim hq'
    | cont => exact False.elim hq'
end
section
variable {T : Th} {P : AS} {σ : L2.St} {H : Hp} {O : AS} {env : SEnv} {vs : List V} {as : List Arg} {ds : List FArg} {Q : VK} {o : List FArg → FOut} {n np : Nat} {c : Str}
/-- two new ones: an instance and its dict -/
theorem EnvOk.made {C : Cn} {x dx cl : Addr} (e : EnvOk C H O σ env) (hx : H x = none) (hd : H dx = none) (ne : dx ≠ x) : EnvOk C (upd (upd H dx (.own x)) x (.ins cl dx [])) (fun a => O a ∨ a = x) σ env :=
  (e.new hd).own (by rw [upd_ne ne.symm]; exact hx)
theorem stp_made {P : AS} {x dx cl : Addr} (hx : H x = none) (hd : H dx = none) (ne : dx ≠ x) : Stp P H O (upd (upd H dx (.own x)) x (.ins cl dx [])) (fun a => O a ∨ a = x) :=
  (stp_new hd).trans (stp_own (by rw [upd_ne ne.symm]; exact hx))
theorem argD_lend {env : SEnv} {i : Nat} : argD env (.lend i) = (env[i]?.bind slotData).map fun d => (true, d) := rfl
theorem putIos_append {t : SEnv} : ∀ {is : List Nat} {ds : List D} {env : SEnv}, (∀ i ∈ is, i < env.length) → putIos is ds (env ++ t) = putIos is ds env ++ t
  | [], _, _, _ => by simp [putIos]
  | _ :: _, [], _, _ => by simp [putIos]
  | i :: is, d :: ds, env, h => by
    have hi := h i List.mem_cons_self
    unfold putIos
    rw [List.getElem?_append_left hi, List.getElem?_eq_getElem hi]
    show putIos is ds ((env ++ t).set i (setData d env[i])) = putIos is ds (env.set i (setData d env[i])) ++ t
    rw [List.set_append_left _ _ hi]
    exact putIos_append fun j hj => by
      rw [List.length_set]
      exact h j (List.mem_cons_of_mem _ hj)
theorem EnvOk.drop {K : PySem.W.Frag} {P : AS} {io : List (Nat × Addr)} {nn : Nat} {xp : Xp} {v : Option V} {t : Slot} (e : EnvOk ⟨K, P, io, nn + 1, xp⟩ H O (σ ++ [v]) (env ++ [t])) (hio : ∀ i a, (i, a) ∈ io → i < nn) : EnvOk ⟨K, P, io, nn, xp⟩ H O σ env := by
  have hs : σ.length = nn := by
    have := e.sz
    simp at this
    exact this
  have hl : env.length = σ.length := by
    have := e.len
    simp at this
    exact this
  have up : ∀ {i : Nat} {a : Addr}, OwnAt σ env i a → OwnAt (σ ++ [v]) (env ++ [t]) i a := fun {i a} ⟨x1, s, x2, x3⟩ =>
    ⟨by rw [List.getElem?_append_left (List.getElem?_eq_some_iff.mp x1).1]; exact x1, s, by rw [List.getElem?_append_left (List.getElem?_eq_some_iff.mp x2).1]; exact x2, x3⟩
  refine ⟨hl, fun i o s h1 h2 => e.ok i o s (by rw [List.getElem?_append_left (List.getElem?_eq_some_iff.mp h1).1]; exact h1) (by rw [List.getElem?_append_left (List.getElem?_eq_some_iff.mp h2).1]; exact h2), fun i j a hi hj => e.one i j a (up hi) (up hj), e.dis, e.pub, e.prv, fun i a h => ?_, hs⟩
  obtain ⟨q1, d, q2⟩ := e.lent i a h
  have hi := hio i a h
  rw [List.getElem?_append_left (by omega)] at q1 q2
  exact ⟨q1, d, q2⟩
/-- the caller's slots with one more for the new instance: as if it were lent from a further slot -/
theorem make_sp (he : EnvOk (T.cn P) H O σ env) (ar : ArgsRel T.K (hid H (Un2 O P)) σ vs as) (hd : argsD env as = some ds) (nd : (lends as).Nodup) (hnp : np ≤ n) (hal : as.length + 1 = np) {x dx : Addr} (hx : H x = none) (hdx : H dx = none) (ne : dx ≠ x)
    (q : RD T P σ H O Q (match makeO c o ds with
        | .ret w ios => .ok w (putIos (lends as) ios env)
        | .ex x ios => .ex x (putIos (lends as) ios env)
        | .st => .st)) :
    spD T.K n np o (.ref x :: vs) (upd (upd H dx (.own x)) x (.ins (He.ga T.K c) dx [])) (fun v H2 => v = .non ∧ Q (.ref x) H2) (fun cls dd H' => T.W cls dd σ H') := by
  -- the caller's state with a further slot that owns the new instance
  let C2 : Cn := ⟨T.K, P, T.io, T.n + 1, T.xp⟩
  have e1 : EnvOk (T.cn P) (upd (upd H dx (.own x)) x (.ins (He.ga T.K c) dx [])) (fun a => O a ∨ a = x) σ env := he.made hx hdx ne
  have st1 : Stp P H O (upd (upd H dx (.own x)) x (.ins (He.ga T.K c) dx [])) (fun a => O a ∨ a = x) := stp_made hx hdx ne
  have hx1 : (upd (upd H dx (.own x)) x (.ins (He.ga T.K c) dx [])) x = some (.ins (He.ga T.K c) dx []) := upd_same
  generalize (upd (upd H dx (.own x)) x (.ins (He.ga T.K c) dx [])) = H1 at e1 st1 hx1 ⊢
  have nown : ∀ i, ¬ OwnAt σ env i x := he.noOwn hx
  have lenσ : σ.length = T.n := he.sz
  have lenE : env.length = T.n := he.len.trans he.sz
  have oldσ : ∀ {i : Nat} {v : Option V}, σ[i]? = some v → (σ ++ [some (V.ref x)])[i]? = some v := fun {i v} h => by
    rw [List.getElem?_append_left (List.getElem?_eq_some_iff.mp h).1]
    exact h
  have oldE : ∀ {i : Nat} {s : Slot}, env[i]? = some s → (env ++ [Slot.ow (.obj c [])])[i]? = some s := fun {i v} h => by
    rw [List.getElem?_append_left (List.getElem?_eq_some_iff.mp h).1]
    exact h
  have backσ : ∀ {i : Nat} {v : Option V}, (σ ++ [some (V.ref x)])[i]? = some v → σ[i]? = some v ∨ (i = T.n ∧ v = some (.ref x)) := fun {i v} h => by
    by_cases hi : i < σ.length
    · rw [List.getElem?_append_left hi] at h
      exact .inl h
    · rw [List.getElem?_append_right (by omega)] at h
      have h2 := (List.getElem?_eq_some_iff.mp h).1
      simp at h2
      have : i - σ.length = 0 := by omega
      rw [this] at h
      simp at h
      exact .inr ⟨by omega, h.symm⟩
  have backE : ∀ {i : Nat} {s : Slot}, (env ++ [Slot.ow (.obj c [])])[i]? = some s → env[i]? = some s ∨ (i = T.n ∧ s = .ow (.obj c [])) := fun {i v} h => by
    by_cases hi : i < env.length
    · rw [List.getElem?_append_left hi] at h
      exact .inl h
    · rw [List.getElem?_append_right (by omega)] at h
      have h2 := (List.getElem?_eq_some_iff.mp h).1
      simp at h2
      have : i - env.length = 0 := by omega
      rw [this] at h
      simp at h
      exact .inr ⟨by omega, h.symm⟩
  have ownB : ∀ {i : Nat} {a : Addr}, OwnAt (σ ++ [some (V.ref x)]) (env ++ [Slot.ow (.obj c [])]) i a → OwnAt σ env i a ∨ (i = T.n ∧ a = x) := fun {i a} ⟨x1, t, x2, x3⟩ => by
    rcases backσ x1 with h1 | ⟨h1, h2⟩
    · rcases backE x2 with h3 | ⟨h3, h4⟩
      · exact .inl ⟨h1, t, h3, x3⟩
      · have := (List.getElem?_eq_some_iff.mp h1).1
        omega
    · cases h2
      exact .inr ⟨h1, rfl⟩
  have e2 : EnvOk C2 H1 (fun a => O a ∨ a = x) (σ ++ [some (V.ref x)]) (env ++ [Slot.ow (.obj c [])]) := by
    refine ⟨by simp [he.len], fun i v t h1 h2 => ?_, fun i j a hi hj => ?_, e1.dis, e1.pub, e1.prv, fun i a h => ?_, by simp [lenσ, C2]⟩
    · rcases backσ h1 with g1 | ⟨g1, g2⟩
      · rcases backE h2 with g3 | ⟨g3, g4⟩
        · exact e1.ok i v t g1 g3
        · have := (List.getElem?_eq_some_iff.mp g1).1
          omega
      · rcases backE h2 with g3 | ⟨g3, g4⟩
        · have := (List.getElem?_eq_some_iff.mp g3).1
          omega
        · subst g2 g4
          exact .ow (.inr rfl) (.obj hx1 .nil)
    · rcases ownB hi with g1 | ⟨g1, g2⟩
      · rcases ownB hj with g3 | ⟨g3, g4⟩
        · exact e1.one i j a g1 g3
        · exact absurd (g4 ▸ g1) (nown i)
      · rcases ownB hj with g3 | ⟨g3, g4⟩
        · exact absurd (g2 ▸ g3) (nown j)
        · omega
    · obtain ⟨g1, d, g2⟩ := e1.lent i a h
      exact ⟨oldσ g1, d, oldE g2⟩
  have ar2 : ArgsRel T.K (hid H1 (Un2 (fun a => O a ∨ a = x) P)) (σ ++ [some (V.ref x)]) (.ref x :: vs) (.lend T.n :: as) := by
    refine .lend (by rw [← lenσ, List.getElem?_append_right (Nat.le_refl _)]; simp) ?_
    have := ar.mono st1.same
    clear ar hal q hd nd
    induction this with
    | nil => exact .nil
    | val r _ ih => exact .val r ih
    | lend r _ ih => exact .lend (oldσ r) ih
  have hd2 : argsD (env ++ [Slot.ow (.obj c [])]) (.lend T.n :: as) = some ((true, .obj c []) :: ds) := by
    have a1 : argD (env ++ [Slot.ow (.obj c [])]) (.lend T.n) = some (true, .obj c []) := by
      rw [argD_lend, show (env ++ [Slot.ow (.obj c [])])[T.n]? = some (.ow (.obj c [])) by rw [← lenE, List.getElem?_append_right (Nat.le_refl _)]; simp]
      rfl
    have a2 : ∀ {as : List Arg} {ds : List FArg}, argsD env as = some ds → argsD (env ++ [Slot.ow (.obj c [])]) as = some ds := fun {as} => by
      induction as with
      | nil => exact fun h => h
      | cons a as ih =>
        intro ds h
        unfold argsD at h ⊢
        cases h1 : argD env a with
        | none => rw [h1] at h; cases h
        | some d =>
          cases h2 : argsD env as with
          | none => simp only [h1, h2] at h; cases h
          | some r =>
            have h3 : argD (env ++ [Slot.ow (.obj c [])]) a = some d := by
              cases a with
              | val d' => exact h1
              | lend i =>
                obtain ⟨g1, g2⟩ := argD_of h1
                cases hi : env[i]? with
                | none => rw [hi] at g2; cases g2
                | some t =>
                  have e1 : argD (env ++ [Slot.ow (.obj c [])]) (.lend i) = argD env (.lend i) := by
                    rw [argD_lend, argD_lend, oldE hi, hi]
                  rw [e1]
                  exact h1
            simp only [h1, h2] at h
            simp only [h3, ih h2]
            exact h
    unfold argsD
    simp only [a1, a2 hd]
  have nd2 : (lends (.lend T.n :: as)).Nodup := by
    show (T.n :: lends as).Nodup
    refine List.nodup_cons.mpr ⟨fun h => ?_, nd⟩
    obtain ⟨j, hj⟩ := lends_mem.mp h
    obtain ⟨d, g1, g2⟩ := argsD_get hd hj
    obtain ⟨_, t, g3, _⟩ := slot_lent he (argD_of g2).2
    have := (List.getElem?_eq_some_iff.mp g3).1
    omega
  have hlen : ds.length = vs.length := (argsD_len hd).trans ar.length.symm
  refine ⟨by rw [List.length_cons, ar.length]; exact hal, Pc P (fun a => O a ∨ a = x) (LA (σ ++ [some (V.ref x)]) (.lend T.n :: as)), LA (σ ++ [some (V.ref x)]) (.lend T.n :: as), (true, .obj c []) :: ds, call_start (C := C2) e2 ar2 hd2 nd2 (by rw [List.length_cons]; omega), by simp [hlen], ?_⟩
  -- the way back
  have back : ∀ {σ' : L2.St} {env' : SEnv} {H' : Hp} {O' : AS} (s' : Stp (Pc P (fun a => O a ∨ a = x) (LA (σ ++ [some (V.ref x)]) (.lend T.n :: as))) H1 (LA (σ ++ [some (V.ref x)]) (.lend T.n :: as)) H' O')
      (e' : EnvOk ⟨T.K, Pc P (fun a => O a ∨ a = x) (LA (σ ++ [some (V.ref x)]) (.lend T.n :: as)), ioAddrs ((true, .obj c []) :: ds) (.ref x :: vs) 0, n, Xp.nil⟩ H' O' σ' env') {d : D} {ios : List D}, iosOf ((true, .obj c []) :: ds) env' = d :: ios →
      ∃ Of, Stp P H O H' Of ∧ EnvOk (T.cn P) H' Of σ (putIos (lends as) ios env) ∧ Of x ∧ Shal T.K H' (hid H' (Un2 Of P)) x d ∧ (∀ i, ¬ OwnAt σ (putIos (lends as) ios env) i x) ∧ Un2 Of P = Un2 O' (Pc P (fun a => O a ∨ a = x) (LA (σ ++ [some (V.ref x)]) (.lend T.n :: as))) := fun {σ' env' H' O'} s' e' {d ios} hi => by
    have hle : ((true, D.obj c []) :: ds).length ≤ env'.length := by
      rw [e'.len, e'.sz, List.length_cons, argsD_len hd]
      show as.length + 1 ≤ n
      omega
    have eb := call_back (C := C2) e2 ar2 hd2 nd2 s' e' hle
    have stb := call_stp (C := C2) e2 hd2 s'
    rw [hi] at eb
    have lt : ∀ i ∈ lends as, i < env.length := fun i h => by
      obtain ⟨j, hj⟩ := lends_mem.mp h
      obtain ⟨d, g1, g2⟩ := argsD_get hd hj
      obtain ⟨_, t, g3, _⟩ := slot_lent he (argD_of g2).2
      exact (List.getElem?_eq_some_iff.mp g3).1
    have ep : putIos (lends (.lend T.n :: as)) (d :: ios) (env ++ [Slot.ow (.obj c [])]) = putIos (lends as) ios env ++ [Slot.ow d] := by
      show putIos (T.n :: lends as) (d :: ios) (env ++ [Slot.ow (.obj c [])]) = _
      conv => lhs; unfold putIos
      rw [show (env ++ [Slot.ow (.obj c [])])[T.n]? = some (.ow (.obj c [])) by rw [← lenE, List.getElem?_append_right (Nat.le_refl _)]; simp]
      show putIos (lends as) ios ((env ++ [Slot.ow (.obj c [])]).set T.n (Slot.ow d)) = _
      rw [← lenE, List.set_append_right _ _ (Nat.le_refl _)]
      simp only [Nat.sub_self, List.set_cons_zero]
      exact putIos_append lt
    rw [ep] at eb
    have at1 : (σ ++ [some (V.ref x)])[T.n]? = some (some (V.ref x)) := by
      rw [← lenσ, List.getElem?_append_right (Nat.le_refl _)]
      simp
    have at2 : (putIos (lends as) ios env ++ [Slot.ow d])[T.n]? = some (Slot.ow d) := by
      rw [List.getElem?_append_right (by rw [putIos_len, lenE]; exact Nat.le_refl _), putIos_len, lenE]
      simp
    have sl := eb.ok T.n _ _ at1 at2
    have hio : ∀ i a, (i, a) ∈ T.io → i < T.n := fun i a h => by
      obtain ⟨g, _⟩ := he.lent i a h
      have := (List.getElem?_eq_some_iff.mp g).1
      omega
    cases sl with
    | ow hO sh =>
      refine ⟨_, st1.trans stb, eb.drop hio, hO, sh, fun i ⟨x1, t, x2, x3⟩ => ?_, un2_back⟩
      have hi1 := (List.getElem?_eq_some_iff.mp x1).1
      have up : OwnAt (σ ++ [some (V.ref x)]) (putIos (lends as) ios env ++ [Slot.ow d]) i x := ⟨oldσ x1, t, by rw [List.getElem?_append_left (List.getElem?_eq_some_iff.mp x2).1]; exact x2, x3⟩
      have := eb.one i T.n x up ⟨at1, _, at2, rfl⟩
      omega
  unfold makeO at q
  cases ho : o ((true, .obj c []) :: ds) with
  | st => simp only [ho] at q; exact q
  | ret w ios =>
    intro v σ' env' H' O' s' e' hi r'
    obtain ⟨b, d⟩ := w
    cases ios with
    | nil => simp only [ho] at q; cases d <;> exact q.elim
    | cons di ios =>
      cases d with
      | non =>
        simp only [ho] at q
        obtain ⟨Of, f1, f2, f3, f4, f5, f6⟩ := back s' e' hi
        refine ⟨?_, q _ H' Of f1 f2 ⟨x, rfl, f3, f4, f5⟩⟩
        cases b with
        | false => cases (show Rep _ _ v .non from r'); rfl
        | true =>
          obtain ⟨p, _, _, sh, _⟩ := r'
          cases sh
      | _ => simp only [ho] at q; exact q.elim
  | ex y ios =>
    intro cls dd σ' env' H' O' s' e' hi x'
    cases ios with
    | nil => simp only [ho] at q; exact q.elim
    | cons di ios =>
      simp only [ho] at q
      obtain ⟨Of, f1, f2, f3, f4, f5, f6⟩ := back s' e' hi
      refine q cls dd H' Of f1 f2 ?_
      rw [f6]
      exact x'
/-- C(e, ..) -/
def dMake (c : Str) (o : List FArg → FOut) (m : ArgDen) : EDen := dCall (makeO c o) m
variable {X : Cx} {k : Nat} {f : Addr} {fd : FuncData} {ps : List Str} {dvs : List V} {dsv : List Value} {x : Str} {p pos : Pos} {e : Expr} {es : List Expr} {m : ArgDen} {dds : List D}
theorem rd_make (hnp : np ≤ n) (ho0 : ∀ ds, ds.length ≠ np → o ds = .st) (hdv : ∀ h, Reps T.K h dvs dds) (q : tD T (dMake c o (rDfl m dds)) σ H Q) : tDGa T m σ H (fun vs H1 => ∀ x dx, H1 x = none → H1 dx = none → dx ≠ x →
    spD T.K n np o (.ref x :: (vs ++ dvs)) (upd (upd H1 dx (.own x)) x (.ins (He.ga T.K c) dx [])) (fun v H2 => v = .non ∧ Q (.ref x) H2) (fun cls dd H' => T.W cls dd σ H')) := by
  obtain ⟨P, O, env, he, q⟩ := q
  refine ⟨P, O, env, he, ?_⟩
  unfold dMake dCall rDfl at q
  cases h : m env with
  | st => simp only [h] at q; exact q
  | ex x e => simp only [h] at q; exact q
  | ok as env1 =>
    simp only [h] at q
    intro vs H1 O1 s1 e1 ar x dx hx hdx ne
    have q1 := RD.step q s1
    by_cases nd : (lends (as ++ dds.map Arg.val)).Nodup
    · rw [if_pos nd] at q1
      cases hd : argsD env1 (as ++ dds.map Arg.val) with
      | none => simp only [hd] at q1; exact q1.elim
      | some ds =>
        simp only [hd] at q1
        by_cases hp : ds.length + 1 = np
        case neg =>
          have e0 : makeO c o ds = .st := by
            unfold makeO
            rw [ho0 _ (by simpa using hp)]
          simp only [e0] at q1
          exact q1.elim
        exact make_sp e1 (ar.append (.vals (hdv _))) hd nd hnp (by rw [← argsD_len hd]; exact hp) hx hdx ne q1
    · rw [if_neg nd] at q1
      exact q1.elim
theorem g_make (M : Mk X.K (He.ga T.K c) f) (F : FnG X.prog X.w X.K X.mg X.base (L2.CX X.prog X.w) k f fd ps (spD T.K n np o)) (hr : RoomG (k + 1) X.A) (hg : Gl X x) (hm : X.mg x = some (.ref (He.ga T.K c))) (hb : Binds X.K fd ps dsv) (hd : Vals dvs dsv)
    (hdv : ∀ h, Reps T.K h dvs dds) (hnp : np ≤ n) (ho0 : ∀ ds, ds.length ≠ np → o ds = .st) (tk : Takes X T.W) (ha : PA X (e :: es) (tDGa T m)) (hdb : (x == ("__debug__" : Str)) = false) (he : starEach (e :: es) X.env = (false, eval e X.env) :: starEach es X.env)
    (hpl : (backTo pos (starEach es X.env)).any (·.1) = false) : PE X (.Call (.Name x p) (e :: es) [] pos) (tD T (dMake c o (rDfl m dds))) := by
  refine ⟨fun pins s σ H Q I h => ?_⟩
  refine wpAny_Call_Name_kw (ld_glob I hg hm ?_ hdb)
  refine PySem.W.callWith_K (h₀ := X.base) I.ok.mod.kin M.kp (thn (ha.run pos pins s σ H _ I (rd_make hnp ho0 hdv h)) fun us s1 ⟨vs, H1, I1, r, q⟩ => ⟨I1.kIn, ?_⟩) he hpl
  exact run_makeS M F hr hb hd (passAt tk σ) I1 r q
theorem g_make0 (M : Mk X.K (He.ga T.K c) f) (F : FnG X.prog X.w X.K X.mg X.base (L2.CX X.prog X.w) k f fd ps (spD T.K n np o)) (hr : RoomG (k + 1) X.A) (hg : Gl X x) (hm : X.mg x = some (.ref (He.ga T.K c))) (hb : Binds X.K fd ps dsv) (hd : Vals dvs dsv)
    (hdv : ∀ h, Reps T.K h dvs dds) (hnp : np ≤ n) (ho0 : ∀ ds, ds.length ≠ np → o ds = .st) (tk : Takes X T.W) (hdb : (x == ("__debug__" : Str)) = false) : PE X (.Call (.Name x p) [] [] pos) (tD T (dMake c o (rDfl rNil dds))) := by
  refine ⟨fun pins s σ H Q I h => ?_⟩
  refine wpAny_Call_Name_kw (ld_glob I hg hm ?_ hdb)
  obtain ⟨P, O, env, he, q⟩ := rd_make hnp ho0 hdv h
  have q := q [] H O .refl he .nil
  exact PySem.W.callWith_K0 I.kIn M.kp (run_makeS (us := []) (vs := []) M F hr hb hd (passAt tk σ) I .nil q)
end
end DL
set_option maxHeartbeats 8000000
/-! DL11: operands (an expression, or a slot that is only looked at), primitive operations by data. -/
namespace DL
open PySem PySem.Spec PyProof.Rows L2

inductive Opd where
  | ex (m : EDen) | pk (i : Nat)
def tOpd (T : Th) : Opd → TE
  | .ex m => tD T m
  | .pk i => tVar i
def evO (a : Opd) (k : Arg → EDen) : EDen := fun env => match a with
  | .ex m => (match m env with
    | .ok w env1 => k (.val w.2) env1
    | .ex x e => .ex x e
    | .st => .st)
  | .pk i => (match env[i]? with
    | some (.fz d) => k (.val d) env
    | some (.ow _) => k (.lend i) env
    | some (.io _) => k (.lend i) env
    | _ => .st)
def ARel (K : PySem.W.Frag) (h : Hp) (σ : L2.St) (v : V) : Arg → Prop
  | .val d => Rep K h v d
  | .lend i => σ[i]? = some (some v)
theorem ARel.mono {K : PySem.W.Frag} {h h' : Hp} {σ : L2.St} {v : V} {a : Arg} (s : Same h h') (r : ARel K h σ v a) : ARel K h' σ v a := by
  cases a with
  | val d => exact Rep.mono s r
  | lend i => exact r
section
variable {T : Th} {P : AS} {σ : L2.St} {H : Hp} {O : AS} {env : SEnv} {Q R : VK}
theorem rd_opd {a : Opd} {k : Arg → EDen} (he : EnvOk (T.cn P) H O σ env) (h : RD T P σ H O Q (evO a k env))
    (hk : ∀ v H1 O1 env1 x, Stp P H O H1 O1 → EnvOk (T.cn P) H1 O1 σ env1 → ARel T.K (hid H1 (Un2 O1 P)) σ v x → RD T P σ H1 O1 Q (k x env1) → R v H1) : tOpd T a σ H R := by
  cases a with
  | ex m =>
    refine ⟨P, O, env, he, ?_⟩
    unfold evO at h
    cases e : m env with
    | st => simp only [e] at h; exact h.elim
    | ex x e' => simp only [e] at h; exact h
    | ok w env1 =>
      simp only [e] at h
      intro v H' O' s e' r
      obtain ⟨O2, s2, e2, r2⟩ := r.frz e'
      exact hk v H' O2 env1 (.val w.2) (s.trans s2) e2 r2 (RD.step h (s.trans s2))
  | pk i =>
    unfold evO at h
    cases g : env[i]? with
    | none => simp only [g] at h; exact h.elim
    | some t =>
      have hi : i < σ.length := by rw [← he.len]; exact (List.getElem?_eq_some_iff.mp g).1
      have hs : σ[i]? = some σ[i] := List.getElem?_eq_getElem hi
      have r := he.ok i _ _ hs g
      simp only [g] at h
      generalize hσ : σ[i] = o at r
      rw [hσ] at hs
      cases r with
      | un => exact h.elim
      | xc _ => exact h.elim
      | fz r => exact ⟨_, hs, hk _ H O env (.val _) .refl he r h⟩
      | ow _ _ => exact ⟨_, hs, hk _ H O env (.lend i) .refl he hs h⟩
      | io _ _ => exact ⟨_, hs, hk _ H O env (.lend i) .refl he hs h⟩
end
/-- what may be looked at: frozen, or owned by a slot -/
inductive Pk (K : PySem.W.Frag) (H h : Hp) : V → D → Prop
  | fz {v : V} {d : D} : Rep K h v d → Pk K H h v d
  | sh {a : Addr} {d : D} : Shal K H h a d → Pk K H h (.ref a) d
def argDat (env : SEnv) (a : Arg) : Option D := (argD env a).map (·.2)
theorem pk_of {C : Cn} {H : Hp} {O : AS} {σ : L2.St} {env : SEnv} {v : V} {a : Arg} {d : D} (e : EnvOk C H O σ env) (r : ARel C.K (hid H (Un2 O C.P)) σ v a) (h : argDat env a = some d) : Pk C.K H (hid H (Un2 O C.P)) v d := by
  cases a with
  | val d' => cases h; exact .fz r
  | lend i =>
    unfold argDat at h
    cases q : argD env (.lend i) with
    | none => rw [q] at h; cases h
    | some f =>
      rw [q] at h
      obtain ⟨b, d'⟩ := f
      cases h
      obtain ⟨x, t, _, _, _, h1, _, h2⟩ := slot_lent e (argD_of q).2
      have r : σ[i]? = some (some v) := r
      rw [h1] at r
      cases r
      exact .sh h2
/-- by data: two operands, one -/
def retF (f : D → D → Option W) (x y : Arg) : EDen := fun env => match argDat env x, argDat env y with
  | some a, some b => retO (f a b) env
  | _, _ => .st
def dP2 (f : D → D → Option W) (a b : Opd) : EDen := evO a fun x => evO b fun y => retF f x y
def retF1 (f : D → Option W) (x : Arg) : EDen := fun env => match argDat env x with
  | some a => retO (f a) env
  | none => .st
def dP1 (f : D → Option W) (a : Opd) : EDen := evO a fun x => retF1 f x
def Prim2 (K : PySem.W.Frag) (f : D → D → Option W) (r : R2) : Prop := ∀ (T : Th) (P : AS) (σ : L2.St) (H : Hp) (O : AS) (env : SEnv) (v1 v2 : V) (d1 d2 : D) (w : W) (Q : VK), T.K = K → EnvOk (T.cn P) H O σ env →
  Pk K H (hid H (Un2 O P)) v1 d1 → Pk K H (hid H (Un2 O P)) v2 d2 → f d1 d2 = some w → RD T P σ H O Q (.ok w env) → r v1 v2 H Q
def Prim1 (K : PySem.W.Frag) (f : D → Option W) (r : V → Hp → VK → Prop) : Prop := ∀ (T : Th) (P : AS) (σ : L2.St) (H : Hp) (O : AS) (env : SEnv) (v1 : V) (d1 : D) (w : W) (Q : VK), T.K = K → EnvOk (T.cn P) H O σ env →
  Pk K H (hid H (Un2 O P)) v1 d1 → f d1 = some w → RD T P σ H O Q (.ok w env) → r v1 H Q
section
variable {X : Cx} {T : Th} {a b : Expr} {ma mb : Opd} {pos : Pos}
theorem rd_p2 {f : D → D → Option W} {r : R2} (hf : Prim2 T.K f r) {σ : L2.St} {H : Hp} {Q : VK} (q : tD T (dP2 f ma mb) σ H Q) : tOp r (tOpd T ma) (tOpd T mb) σ H Q := by
  obtain ⟨P, O, env, he, q⟩ := q
  refine rd_opd he q fun v1 H1 O1 env1 x s1 e1 r1 q1 => ?_
  refine rd_opd e1 q1 fun v2 H2 O2 env2 y s2 e2 r2 q2 => ?_
  unfold retF at q2
  cases g1 : argDat env2 x with
  | none => simp only [g1] at q2; exact q2.elim
  | some d1 =>
    cases g2 : argDat env2 y with
    | none => simp only [g1, g2] at q2; exact q2.elim
    | some d2 =>
      simp only [g1, g2] at q2
      unfold retO at q2
      cases g : f d1 d2 with
      | none => rw [g] at q2; exact q2.elim
      | some w =>
        rw [g] at q2
        exact hf T P σ H2 O2 env2 v1 v2 d1 d2 w Q rfl e2 (pk_of e2 (r1.mono s2.same) g1) (pk_of e2 r2 g2) g q2
theorem rd_p1 {f : D → Option W} {r : V → Hp → VK → Prop} (hf : Prim1 T.K f r) {σ : L2.St} {H : Hp} {Q : VK} (q : tD T (dP1 f ma) σ H Q) : tOpd T ma σ H (fun v H1 => r v H1 Q) := by
  obtain ⟨P, O, env, he, q⟩ := q
  refine rd_opd he q fun v1 H1 O1 env1 x s1 e1 r1 q1 => ?_
  unfold retF1 at q1
  cases g1 : argDat env1 x with
  | none => simp only [g1] at q1; exact q1.elim
  | some d1 =>
    simp only [g1] at q1
    unfold retO at q1
    cases g : f d1 with
    | none => rw [g] at q1; exact q1.elim
    | some w =>
      rw [g] at q1
      exact hf T P σ H1 O1 env1 v1 d1 w Q rfl e1 (pk_of e1 r1 g1) g q1
theorem gp_bin {op : Operator} {f : D → D → Option W} {r : R2} (ho : OpR X (binaryOp op) r) (hf : Prim2 T.K f r) (ha : PE X a (tOpd T ma)) (hb : PE X b (tOpd T mb)) : PE X (.BinOp a op b pos) (tD T (dP2 f ma mb)) := (pe_op ho ha hb).to fun _ _ _ q => rd_p2 hf q
theorem gp_cmp {op : CmpOp} {f : D → D → Option W} {r : R2} (ho : OpR X (compareOp op) r) (hf : Prim2 T.K f r) (hm : behindInMarks op b = false) (ha : PE X a (tOpd T ma)) (hb : PE X b (tOpd T mb)) : PE X (.Compare a [op] [b] pos) (tD T (dP2 f ma mb)) := (pe_cmpR ho ha hb hm).to fun _ _ _ q => rd_p2 hf q
theorem gp_cmpT {op : CmpOp} {f : D → D → Option W} {r : R2} (ho : OpR X (compareOp op) r) (hf : Prim2 T.K f r) (hm : behindInMarks op b = false) (ha : PE X a (tOpd T ma)) (hb : PE X b (tOpd T mb)) : PT X (.Compare a [op] [b] pos) (tDT T (dTest (dP2 f ma mb))) :=
  (pt_cmpR ho ha hb hm).to fun σ H Q ⟨P, O, env, he, q⟩ => rd_p2 hf (rd_test he q)
theorem gp_un {op : UnaryOp} {f : D → Option W} {r : V → Hp → VK → Prop} (ho : UnR X (unaryOp op) r) (hf : Prim1 T.K f r) (ha : PE X a (tOpd T ma)) : PE X (.UnaryOp op a pos) (tD T (dP1 f ma)) := (pe_un ho ha).to fun _ _ _ q => rd_p1 hf q
theorem gp_ix {f : D → D → Option W} {r : R2} (ho : IxR X r) (hf : Prim2 T.K f r) (hs : PlainIx b) (ha : PE X a (tOpd T ma)) (hb : PE X b (tOpd T mb)) : PE X (.Subscript a b pos) (tD T (dP2 f ma mb)) := (pe_ix ho ha hb hs).to fun _ _ _ q => rd_p2 hf q
end

/-! ### an attribute -/
def fldF (ok : Str → Bool) (f : Str) : D → Option W
  | .obj c fs => if ok c then (fs.lookup f).map fun d => (false, d) else none
  | _ => none
theorem prim_fld {K : PySem.W.Frag} {ok : Str → Bool} {f : Str} (hok : ∀ c, ok c = true → Cls K (He.ga K c) ∧ NoAttr K (He.ga K c) f) :
    Prim1 K (fldF ok f) (fun x H1 Q => ∃ a C dx fs v, x = .ref a ∧ H1 a = some (.ins C dx fs) ∧ Cls K C ∧ NoAttr K C f ∧ fs.lookup f = some v ∧ Q v H1) := by
  intro T P σ H O env v1 d1 w Q hK he pk hf q
  subst hK
  have main : ∀ {a dx : Addr} {c : Str} {fs : List (Str × V)} {ds : List (Str × D)}, v1 = .ref a → d1 = .obj c ds → H a = some (.ins (He.ga T.K c) dx fs) → RepF T.K (hid H (Un2 O P)) fs ds →
      ∃ a C dx fs v, v1 = .ref a ∧ H a = some (.ins C dx fs) ∧ Cls T.K C ∧ NoAttr T.K C f ∧ fs.lookup f = some v ∧ Q v H := fun {a dx c fs ds} ev ed ha hr => by
    subst ed
    have hf : (if ok c = true then (ds.lookup f).map fun d => (false, d) else none) = some w := hf
    by_cases hc : ok c = true
    · rw [if_pos hc] at hf
      cases hl : ds.lookup f with
      | none => rw [hl] at hf; cases hf
      | some d =>
        rw [hl] at hf
        cases hf
        obtain ⟨v, h1, h2⟩ := hr.lookup hl
        obtain ⟨k1, k2⟩ := hok c hc
        exact ⟨a, _, dx, fs, v, ev, ha, k1, k2, h1, RD.val q he h2⟩
    · rw [if_neg hc] at hf
      cases hf
  cases pk with
  | fz r =>
    cases r with
    | obj ha hr => exact main rfl rfl (hid_same _ _ ha) hr
    | _ => cases hf
  | sh s =>
    cases s with
    | obj ha hr => exact main rfl rfl ha hr
    | _ => cases hf
theorem gp_fld {X : Cx} {T : Th} {e : Expr} {f : Str} {ma : Opd} {pos : Pos} {ok : Str → Bool} (hK : X.K = T.K) (hok : ∀ c, ok c = true → Cls T.K (He.ga T.K c) ∧ NoAttr T.K (He.ga T.K c) f) (ha : PE X e (tOpd T ma)) (hns : notSuper e = true) :
    PE X (.Attribute e f pos) (tD T (dP1 (fldF ok f) ma)) := (pe_fld ha (abase hns)).to fun σ H Q q => by
  have := rd_p1 (prim_fld hok) q
  rw [hK]
  exact this

/-! ### stores -/
def putFD (f : Str) (d : D) : List (Str × D) → List (Str × D)
  | [] => [(f, d)]
  | (g, x) :: r => if g = f then (g, d) :: r else (g, x) :: putFD f d r
theorem RepF.put {K : PySem.W.Frag} {h : Hp} {f : Str} {v : V} {d : D} (r : Rep K h v d) : ∀ {fs : List (Str × V)} {ds : List (Str × D)}, RepF K h fs ds → RepF K h (putF f v fs) (putFD f d ds)
  | _, _, .nil => .cons r .nil
  | (g, x) :: fs, (_, y) :: ds, .cons a b => by
    unfold putF putFD
    by_cases e : g = f
    · rw [if_pos e, if_pos e]
      exact .cons r b
    · rw [if_neg e, if_neg e]
      exact .cons a (b.put r)
theorem RepF.length {K : PySem.W.Frag} {h : Hp} : ∀ {fs : List (Str × V)} {ds : List (Str × D)}, RepF K h fs ds → fs.length = ds.length
  | _, _, .nil => rfl
  | _, _, .cons _ b => congrArg (· + 1) b.length
section
variable {C : Cn} {H : Hp} {O : AS} {σ : L2.St} {env : SEnv} {i : Nat} {a : Addr} {t : Slot} {o' : HO} {d' : D}
theorem hid_upd {S : AS} (h : S a) : hid (upd H a o') S = hid H S := by
  funext b
  unfold hid
  by_cases hb : S b
  · rw [if_pos hb, if_pos hb]
  · rw [if_neg hb, if_neg hb, upd_ne (show b ≠ a from fun z => hb (by rw [z]; exact h))]
theorem stp_mut {P : AS} (h : O a) (hl : ∃ o, H a = some o) : Stp P H O (upd H a o') O := by
  refine ⟨fun b o e n => ⟨?_, n⟩, fun b o e => ?_⟩
  · rw [upd_ne (show b ≠ a from fun z => n (by rw [z]; exact h))]
    exact e
  · by_cases hb : b = a
    · exact ⟨o', by rw [hb]; exact upd_same⟩
    · exact ⟨o, by rw [upd_ne hb]; exact e⟩
/-- what is owned changes -/
theorem EnvOk.mut (e : EnvOk C H O σ env) (h1 : σ[i]? = some (some (.ref a))) (h2 : env[i]? = some t) (h3 : t.owned = true) (hO : O a) (hs : Shal C.K (upd H a o') (hid H (Un2 O C.P)) a d') : EnvOk C (upd H a o') O σ (env.set i (setData d' t)) := by
  have hi : i < env.length := (List.getElem?_eq_some_iff.mp h2).1
  have hh : hid (upd H a o') (Un2 O C.P) = hid H (Un2 O C.P) := hid_upd (.inl hO)
  have back : ∀ {n : Nat} {c : Addr}, OwnAt σ (env.set i (setData d' t)) n c → OwnAt σ env n c := fun {n c} ⟨x1, s, x2, x3⟩ => by
    by_cases hn : n = i
    · subst hn
      rw [List.getElem?_set_self hi] at x2
      cases x2
      exact ⟨x1, t, h2, h3⟩
    · rw [List.getElem?_set_ne (Ne.symm hn)] at x2
      exact ⟨x1, s, x2, x3⟩
  refine ⟨by rw [List.length_set]; exact e.len, fun j v s g1 g2 => ?_, fun j k b hj hk => e.one j k b (back hj) (back hk), e.dis, fun b hb => ?_, fun b hb => ?_, fun j b h => ?_, e.sz⟩
  · rw [hh]
    by_cases hj : j = i
    · subst hj
      rw [List.getElem?_set_self hi] at g2
      cases g2
      rw [h1] at g1
      cases g1
      cases t with
      | un => cases h3
      | fz _ => cases h3
      | xc _ => cases h3
      | ow _ => exact .ow hO hs
      | io _ => exact .io hO hs
    · rw [List.getElem?_set_ne (Ne.symm hj)] at g2
      have ne : ∀ {b : Addr}, σ[j]? = some (some (.ref b)) → s.owned = true → b ≠ a := fun {b} hb ho z => hj (e.one j i a (z ▸ ⟨hb, s, g2, ho⟩) ⟨h1, t, h2, h3⟩)
      cases e.ok j v s g1 g2 with
      | un => exact .un
      | fz r => exact .fz r
      | xc hx => exact .xc hx
      | ow hO' r => exact .ow hO' (r.mono (upd_ne (ne g1 rfl)) fun _ _ z => z)
      | io hO' r => exact .io hO' (r.mono (upd_ne (ne g1 rfl)) fun _ _ z => z)
  · by_cases hb' : b = a
    · exact ⟨o', by rw [hb']; exact upd_same⟩
    · rw [upd_ne hb']
      exact e.pub b hb
  · by_cases hb' : b = a
    · exact ⟨o', by rw [hb']; exact upd_same⟩
    · rw [upd_ne hb']
      exact e.prv b hb
  · obtain ⟨q1, d, q2⟩ := e.lent j b h
    refine ⟨q1, ?_⟩
    by_cases hj : j = i
    · subst hj
      rw [h2] at q2
      cases q2
      exact ⟨d', by rw [List.getElem?_set_self hi]; rfl⟩
    · exact ⟨d, by rw [List.getElem?_set_ne (Ne.symm hj)]; exact q2⟩
end
/-- a slot's owned object, changed by f -/
def mutS (i : Nat) (f : D → Option D) (env : SEnv) : Out Fl := match env[i]? with
  | some s => (match (slotData s).bind f with
    | some d => .ok .nx (env.set i (setData d s))
    | none => .st)
  | none => .st
section
variable {X : Cx} {T : Th} {m : EDen} {e : Expr} {pos pos' apos cpos : Pos} {E : Ends} {σ : L2.St} {H : Hp} {i : Nat}
/-- self.f = e -/
def setF (ok : Str → Bool) (f : Str) (d : D) : D → Option D
  | .obj c fs => if ok c && fs.length < 1000 then some (.obj c (putFD f d fs)) else none
  | _ => none
def sSetF (i : Nat) (ok : Str → Bool) (f : Str) (m : EDen) : SDen := bindS m fun w env => mutS i (setF ok f w.2) env
theorem gs_fld {o : Expr} {f : Str} {ok : Str → Bool} (hK : X.K = T.K) (hok : ∀ c, ok c = true → Cls T.K (He.ga T.K c) ∧ NoAttr T.K (He.ga T.K c) f) (ho : PE X o (tVar i)) (he : PE X e (tD T m)) (hs : swapsWith e (some (.Attribute o f pos')) pos.line X.env = pure false) :
    PS X (.Assign [.Attribute o f pos'] e pos) (tDS T (sSetF i ok f m)) := (ps_fld ho he hs).to fun E σ H ⟨P, O, env, he, q⟩ => by
  refine rs_bind he q fun v H1 O1 env1 w s1 e1 r1 q1 => ?_
  obtain ⟨O2, s2, e2, r2⟩ := r1.frz e1
  have q2 := RS.step q1 s2
  unfold mutS at q2
  cases g : env1[i]? with
  | none => simp only [g] at q2; exact q2.elim
  | some t =>
    simp only [g] at q2
    cases hd : (slotData t).bind (setF ok f w.2) with
    | none => simp only [hd] at q2; exact q2.elim
    | some d' =>
      simp only [hd] at q2
      cases hsd : slotData t with
      | none => rw [hsd] at hd; cases hd
      | some d =>
        rw [hsd] at hd
        have hd : setF ok f w.2 d = some d' := hd
        obtain ⟨a, t', y1, y2, y3, y4, y5, y6⟩ := slot_lent e2 (i := i) (d := d) (by rw [g]; exact hsd)
        rw [g] at y1
        cases y1
        cases y6 with
        | @obj dx c fs ds ha hr =>
          have hd : (if ok c && ds.length < 1000 then some (.obj c (putFD f w.2 ds)) else none) = some d' := hd
          by_cases hc : (ok c && decide (ds.length < 1000)) = true
          · rw [if_pos hc] at hd
            cases hd
            obtain ⟨c1, c2⟩ := Bool.and_eq_true_iff.mp hc
            obtain ⟨k1, k2⟩ := hok c c1
            refine ⟨.ref a, y4, a, _, dx, fs, rfl, ha, by rw [hK]; exact k1, by rw [hK]; exact k2, by rw [hr.length]; exact of_decide_eq_true c2, ?_⟩
            exact q2 σ _ O2 (stp_mut y5 ⟨_, ha⟩) (e2.mut y4 g y3 y5 (.obj upd_same (hr.put r2)))
          · rw [if_neg hc] at hd
            cases hd
        | lst _ _ => cases hd
/-- xs.append(e) -/
def appF (d : D) : D → Option D
  | .lst ds => if ds.length < sizeLine then some (.lst (ds ++ [d])) else none
  | _ => none
def isLst (env : SEnv) (i : Nat) : Bool := match env[i]?.bind slotData with
  | some (.lst _) => true
  | _ => false
def sApp (i : Nat) (m : EDen) : SDen := fun env => if isLst env i then bindS m (fun w env => mutS i (appF w.2) env) env else .st
theorem isLst_ok {C : Cn} {O : AS} {env : SEnv} (e : EnvOk C H O σ env) (h : isLst env i = true) : ∃ a vs, σ[i]? = some (some (.ref a)) ∧ H a = some (.lst vs) := by
  unfold isLst at h
  split at h
  · rename_i ds g
    obtain ⟨a, t, y1, y2, y3, y4, y5, y6⟩ := slot_lent e g
    cases y6 with
    | lst ha hr => exact ⟨a, _, y4, ha⟩
  · cases h
theorem gs_app {o : Expr} (ho : PE X o (tVar i)) (he : PE X e (tD T m)) (hns : notSuper o = true) (hst : noStar [e] = true) (hline : (apos.endLine == cpos.line) = true) :
    PS X (.Expr (.Call (.Attribute o "append" apos) [e] [] cpos) pos) (tDS T (sApp i m)) := by
  have h1 : PA X [e] (tCons (tD T m) tNil) := pa_cons he pa_nil (starEach_cons hst)
  have h2 := ps_expr (pos := pos) (pe_bm (apos := apos) (cpos := cpos) PySem.F.plainAttrs_list PySem.F.slot_list_append PySem.F.type_list_append mt_append ho h1 (abase hns) (form_plain hst (by simp)) hline (starEach_cons hst) (any_plain (noStar_tail hst))) rfl
  refine h2.to fun E σ H ⟨P, O, env, he, q⟩ => ?_
  unfold sApp at q
  by_cases hl : isLst env i = true
  · rw [if_pos hl] at q
    obtain ⟨a, vs, g1, g2⟩ := isLst_ok he hl
    refine ⟨.ref a, g1, .inl ⟨rfl, vs, .inl (.inl g2)⟩, ?_⟩
    refine rs_bind he q fun v H1 O1 env1 w s1 e1 r1 q1 => ?_
    obtain ⟨O2, s2, e2, r2⟩ := r1.frz e1
    have q2 := RS.step q1 s2
    unfold mutS at q2
    cases g : env1[i]? with
    | none => simp only [g] at q2; exact q2.elim
    | some t =>
      simp only [g] at q2
      cases hd : (slotData t).bind (appF w.2) with
      | none => simp only [hd] at q2; exact q2.elim
      | some d' =>
        simp only [hd] at q2
        cases hsd : slotData t with
        | none => rw [hsd] at hd; cases hd
        | some d =>
          rw [hsd] at hd
          have hd : appF w.2 d = some d' := hd
          obtain ⟨b, t', y1, y2, y3, y4, y5, y6⟩ := slot_lent e2 (i := i) (d := d) (by rw [g]; exact hsd)
          rw [g] at y1
          cases y1
          rw [g1] at y4
          cases y4
          cases y6 with
          | @lst us ds ha hr =>
            have hd : (if ds.length < sizeLine then some (D.lst (ds ++ [w.2])) else none) = some d' := hd
            by_cases hc : ds.length < sizeLine
            · rw [if_pos hc] at hd
              cases hd
              refine ⟨a, us, v, rfl, rfl, ha, by rw [hr.length]; exact hc, ?_⟩
              exact q2 σ _ O2 (stp_mut y5 ⟨_, ha⟩) (e2.mut g1 g y3 y5 (.lst upd_same (hr.append (.cons r2 .nil))))
            · rw [if_neg hc] at hd
              cases hd
          | obj _ _ => cases hd
  · rw [if_neg hl] at q
    exact q.elim
/-- xs[k] = e -/
def setIx (k d : D) : D → Option D
  | .lst ds => (match k with
    | .int n => (ixN ds.length n).map fun j => .lst (ds.set j d)
    | _ => none)
  | _ => none
def sIx (i : Nat) (mk m : EDen) : SDen := bindS m fun w env => if isLst env i then bindS mk (fun k env => mutS i (setIx k.2 w.2) env) env else .st
theorem gs_ix {o k : Expr} {mk : EDen} {spos : Pos} (ho : PE X o (tVar i)) (hk : PE X k (tD T mk)) (he : PE X e (tD T m)) (hs : swapsWithSole [.Subscript o k spos] e pos.line X.env = pure false) (hw : swappedStores [.Subscript o k spos] e X.env = pure none)
    (h1 : (assignEach [.Subscript o k spos] X.env).map (·.2) = [assign (.Subscript o k spos) X.env]) (ha : ∀ v, assign (.Subscript o k spos) X.env v = (do
      let ov ← holding [v] (eval o X.env)
      let iv ← holding [v, ov] (eval k X.env)
      standAt spos
      holding [v, ov, iv] (setItem ov iv v)
      release [v, ov, iv] [])) :
    PS X (.Assign [.Subscript o k spos] e pos) (tDS T (sIx i mk m)) := (ps_asg he (pg_sub ho hk set_list ha) hs hw h1).to fun E σ H ⟨P, O, env, he, q⟩ => by
  refine rs_bind he q fun v H1 O1 env1 w s1 e1 r1 q1 => ?_
  obtain ⟨O2, s2, e2, r2⟩ := r1.frz e1
  have q2 := RS.step q1 s2
  by_cases hl : isLst env1 i = true
  · rw [if_pos hl] at q2
    obtain ⟨a, vs, g1, g2⟩ := isLst_ok e2 hl
    refine ⟨.ref a, g1, ?_⟩
    refine rs_bind e2 q2 fun u H3 O3 env3 kw s3 e3 r3 q3 => ?_
    obtain ⟨O4, s4, e4, r4⟩ := r3.frz e3
    have q4 := RS.step q3 s4
    have r2' := r2.mono (s3.trans s4).same
    unfold mutS at q4
    cases g : env3[i]? with
    | none => simp only [g] at q4; exact q4.elim
    | some t =>
      simp only [g] at q4
      cases hd : (slotData t).bind (setIx kw.2 w.2) with
      | none => simp only [hd] at q4; exact q4.elim
      | some d' =>
        simp only [hd] at q4
        cases hsd : slotData t with
        | none => rw [hsd] at hd; cases hd
        | some d =>
          rw [hsd] at hd
          have hd : setIx kw.2 w.2 d = some d' := hd
          obtain ⟨b, t', y1, y2, y3, y4, y5, y6⟩ := slot_lent e4 (i := i) (d := d) (by rw [g]; exact hsd)
          rw [g] at y1
          cases y1
          rw [g1] at y4
          cases y4
          cases y6 with
          | @lst us ds ha hr =>
            generalize kw.2 = kd at hd r4
            cases r4 with
            | @int n =>
              have hd : (ixN ds.length n).map (fun j => D.lst (ds.set j w.2)) = some d' := hd
              cases hj : ixN ds.length n with
              | none => rw [hj] at hd; cases hd
              | some j =>
                rw [hj] at hd
                cases hd
                refine ⟨a, us, n, j, rfl, rfl, ha, by rw [hr.length]; exact hj, ?_⟩
                exact q4 σ _ O4 (stp_mut y5 ⟨_, ha⟩) (e4.mut g1 g y3 y5 (.lst upd_same (hr.set j r2')))
            | _ => cases hd
          | obj _ _ => cases hd
  · rw [if_neg hl] at q2
    exact q2.elim
end
end DL
set_option maxHeartbeats 8000000
/-! DL11b: == and != of lists of unlike lengths. -/
namespace PySem.SeqAt
open PySem

open MeetsSeq MeetsSeq2 MeetsSeq3 SeqRoads2
variable {prog : Program} {w : World}
theorem list_eqLen (l b : Addr) (xs ys : Array Value) (n n2 : Nat) (dd dd2 : Option Addr) (sl sl2 : Array (Option Value)) (hsz : xs.size ≠ ys.size) :
    MeetsIn prog w (Builtin.«list.__eq__» ⟨[.ref l, .ref b], []⟩) (fun A R s => s.heap.get? l = some { cls := .type "list", dict := dd, data := .seq xs n, slots := sl } ∧ s.heap.get? b = some { cls := .type "list", dict := dd2, data := .seq ys n2, slots := sl2 } ∧ R (.ok (.ret (.bool false))) s) := by
  intro A R s h
  obtain ⟨hp, g, d, tk, os⟩ := s
  obtain ⟨rdL, rdB, h⟩ := h
  have sub := AutoSeq1.sub_list_list
  have hne : (xs.size != ys.size) = true := by simpa using hsz
  wp_walk using PySem.AutoSeq1.wpAny_loadPart' rdL, PySem.AutoSeq1.wpAny_loadPart' rdB
  first | exact h | simpa using h
theorem list_neLen (l b : Addr) (xs ys : Array Value) (n n2 : Nat) (dd dd2 : Option Addr) (sl sl2 : Array (Option Value)) (hsz : xs.size ≠ ys.size) :
    MeetsIn prog w (Builtin.«list.__ne__» ⟨[.ref l, .ref b], []⟩) (fun A R s => s.heap.get? l = some { cls := .type "list", dict := dd, data := .seq xs n, slots := sl } ∧ s.heap.get? b = some { cls := .type "list", dict := dd2, data := .seq ys n2, slots := sl2 } ∧ R (.ok (.ret (.bool true))) s) := by
  intro A R s h
  obtain ⟨hp, g, d, tk, os⟩ := s
  obtain ⟨rdL, rdB, h⟩ := h
  have sub := AutoSeq1.sub_list_list
  have hne : (xs.size != ys.size) = true := by simpa using hsz
  wp_walk using PySem.AutoSeq1.wpAny_loadPart' rdL, PySem.AutoSeq1.wpAny_loadPart' rdB
  first | exact h | simpa using h
theorem rc_eqLen {A : Around} {s : Shared} {l b : Addr} {xs ys : Array Value} (hl : s.heap.IsList l xs) (hb : s.heap.IsList b ys) (hsz : xs.size ≠ ys.size) (hu : A.units < cLine) {E Q : Value → Shared → Prop} (h : Q (.bool false) s) : wpAny (model prog w) A (richCompare .Eq (.ref l) (.ref b)) Q E s := by
  obtain ⟨⟨c1, dd, dt, sl⟩, ho, hc, n, hd⟩ := id hl
  obtain ⟨⟨c2, dd2, dt2, sl2⟩, ho2, hc2, n2, hd2⟩ := id hb
  simp only at hc hd hc2 hd2
  subst hc hd hc2 hd2
  have ta : s.TypeIs (.ref l) "list" := ⟨_, ho, rfl⟩
  exact wpAny_richCompare_same_room (op := .Eq) ta ⟨_, ho2, rfl⟩ F.slot_list_eq (call_meetsIn F.slot_list_eq ta F.entry_list_eq (F.args_list_eq_2 _ _) (list_eqLen l b xs ys n n2 dd dd2 sl sl2 hsz) ⟨ho, ho2, show Value.bool false ≠ Value.notImplemented ∧ Q (.bool false) s from ⟨(fun x => nomatch x), h⟩⟩) hu
theorem rc_neLen {A : Around} {s : Shared} {l b : Addr} {xs ys : Array Value} (hl : s.heap.IsList l xs) (hb : s.heap.IsList b ys) (hsz : xs.size ≠ ys.size) (hu : A.units < cLine) {E Q : Value → Shared → Prop} (h : Q (.bool true) s) : wpAny (model prog w) A (richCompare .NotEq (.ref l) (.ref b)) Q E s := by
  obtain ⟨⟨c1, dd, dt, sl⟩, ho, hc, n, hd⟩ := id hl
  obtain ⟨⟨c2, dd2, dt2, sl2⟩, ho2, hc2, n2, hd2⟩ := id hb
  simp only at hc hd hc2 hd2
  subst hc hd hc2 hd2
  have ta : s.TypeIs (.ref l) "list" := ⟨_, ho, rfl⟩
  exact wpAny_richCompare_same_room (op := .NotEq) ta ⟨_, ho2, rfl⟩ F.slot_list_ne (call_meetsIn F.slot_list_ne ta F.entry_list_ne (F.args_list_ne_2 _ _) (list_neLen l b xs ys n n2 dd dd2 sl sl2 hsz) ⟨ho, ho2, show Value.bool true ≠ Value.notImplemented ∧ Q (.bool true) s from ⟨(fun x => nomatch x), h⟩⟩) hu
end PySem.SeqAt
set_option maxHeartbeats 8000000
/-! DL12: primitive operations by data. -/
namespace DL
open PySem PySem.Spec PyProof.Rows L2

section
variable {K : PySem.W.Frag} {H : Hp} {S : AS} {v : V}
theorem pk_non (p : Pk K H (hid H S) v .non) : v = .non := by cases p with | fz r => cases r; rfl | sh s => cases s
theorem pk_bl {b : Bool} (p : Pk K H (hid H S) v (.bl b)) : v = .bl b := by cases p with | fz r => cases r; rfl | sh s => cases s
theorem pk_int {i : Int} (p : Pk K H (hid H S) v (.int i)) : v = .int i := by cases p with | fz r => cases r; rfl | sh s => cases s
theorem pk_str {x : Str} (p : Pk K H (hid H S) v (.str x)) : v = .str x := by cases p with | fz r => cases r; rfl | sh s => cases s
theorem pk_tup {ds : List D} (p : Pk K H (hid H S) v (.tup ds)) : ∃ a vs, v = .ref a ∧ SqT K H a vs ∧ Reps K (hid H S) vs ds ∧ SqT K (hid H S) a vs := by
  cases p with
  | fz r => cases r with | tup q r => exact ⟨_, _, rfl, hid_sqT q, r, q⟩
  | sh s => cases s
theorem pk_lst {ds : List D} (p : Pk K H (hid H S) v (.lst ds)) : ∃ a vs, v = .ref a ∧ H a = some (.lst vs) ∧ Reps K (hid H S) vs ds := by
  cases p with
  | fz r => cases r with | lst q r => exact ⟨_, _, rfl, hid_same _ _ q, r⟩
  | sh s => cases s with | lst q r => exact ⟨_, _, rfl, q, r⟩
theorem pk_rol {ds : List D} (p : Pk K H (hid H S) v (.rol ds)) : ∃ a vs, v = .ref a ∧ SqL K H a vs ∧ Reps K (hid H S) vs ds := by
  cases p with
  | fz r => cases r with | rol q r => exact ⟨_, _, rfl, hid_sqL q, r⟩
  | sh s => cases s
theorem pk_obj {c : Str} {ds : List (Str × D)} (p : Pk K H (hid H S) v (.obj c ds)) : ∃ a dx fs, v = .ref a ∧ H a = some (.ins (He.ga K c) dx fs) ∧ RepF K (hid H S) fs ds := by
  cases p with
  | fz r => cases r with | obj q r => exact ⟨_, _, _, rfl, hid_same _ _ q, r⟩
  | sh s => cases s with | obj q r => exact ⟨_, _, _, rfl, q, r⟩
end

/-! ### arithmetic, concatenation -/
def addF : D → D → Option W
  | .int i, .int j => some (false, .int (i + j))
  | .str x, .str y => if x.length + y.length ≤ sizeLine then some (false, .str (x ++ y)) else none
  | .lst xs, .lst ys => if xs.length + ys.length ≤ sizeLine then some (true, .lst (xs ++ ys)) else none
  | .tup xs, .tup ys => if xs.length + ys.length ≤ sizeLine then some (false, .tup (xs ++ ys)) else none
  | _, _ => none
def rAdd (K : PySem.W.Frag) : R2 := fun x y H Q => (rI0 fun i j => V.int (i + j)) x y H Q ∨ (∃ i j, x = .str i ∧ y = .str j ∧ i.length + j.length ≤ sizeLine ∧ Q (.str (i ++ j)) H) ∨ rCat x y H Q ∨ rCatA K x y H Q
theorem op_addD {X : Cx} : OpR X (binaryOp .Add) (rAdd X.K) := opR_or op_add (opR_or op_add_str (opR_or op_cat op_catA))
theorem if_some {α : Type} {c : Prop} [Decidable c] {a b : α} (h : (if c then some a else none) = some b) : c ∧ a = b := by
  by_cases hc : c
  · rw [if_pos hc] at h
    exact ⟨hc, Option.some.inj h⟩
  · rw [if_neg hc] at h
    cases h
theorem prim_add {K : PySem.W.Frag} : Prim2 K addF (rAdd K) := by
  intro T P σ H O env v1 v2 d1 d2 w Q hK he p1 p2 hf q
  subst hK
  cases d1 <;> cases d2 <;> try (cases hf; done)
  case int.int i j =>
    cases pk_int p1; cases pk_int p2; cases hf
    exact .inl ⟨_, _, rfl, rfl, RD.val q he .int⟩
  case str.str x y =>
    cases pk_str p1; cases pk_str p2
    obtain ⟨hc, rfl⟩ := if_some hf
    exact .inr (.inl ⟨_, _, rfl, rfl, hc, RD.val q he .str⟩)
  case lst.lst xs ys =>
    obtain ⟨a, vs, rfl, h1, r1⟩ := pk_lst p1
    obtain ⟨b, us, rfl, h2, r2⟩ := pk_lst p2
    obtain ⟨hc, rfl⟩ := if_some hf
    exact .inr (.inr (.inl ⟨_, _, _, _, rfl, rfl, h1, h2, by rw [r1.length, r2.length]; exact hc, fun p hp => RD.newL q he (r1.append r2) hp⟩))
  case tup.tup xs ys =>
    obtain ⟨a, vs, rfl, h1, r1, s1⟩ := pk_tup p1
    obtain ⟨b, us, rfl, h2, r2, s2⟩ := pk_tup p2
    obtain ⟨hc, rfl⟩ := if_some hf
    refine .inr (.inr (.inr ⟨_, _, _, _, rfl, rfl, h1, h2, by rw [r1.length, r2.length]; exact hc, fun e => ?_, fun n e => ?_, fun _ _ p hp => RD.newT q he (r1.append r2) hp⟩))
    · subst e
      cases r1
      exact RD.val q he (.tup s2 r2)
    · subst e
      cases r2
      rw [List.append_nil] at q
      exact RD.val q he (.tup s1 r1)
def subF : D → D → Option W
  | .int i, .int j => some (false, .int (i - j))
  | _, _ => none
theorem prim_sub {K : PySem.W.Frag} : Prim2 K subF (rI0 fun i j => V.int (i - j)) := by
  intro T P σ H O env v1 v2 d1 d2 w Q hK he p1 p2 hf q
  subst hK
  cases d1 <;> cases d2 <;> try (cases hf; done)
  cases pk_int p1; cases pk_int p2; cases hf
  exact ⟨_, _, rfl, rfl, RD.val q he .int⟩
def mulF : D → D → Option W
  | .int i, .int j => if i.natAbs.log2 + j.natAbs.log2 < 1000000 then some (false, .int (i * j)) else none
  | .lst xs, .int k => if -(2 ^ 63) ≤ k ∧ k < 2 ^ 63 ∧ xs.length * k.toNat ≤ sizeLine then some (true, .lst (List.replicate k.toNat xs).flatten) else none
  | _, _ => none
def rMul : R2 := fun x y H Q => rI CMulW (fun i j => V.int (i * j)) x y H Q ∨ rRep x y H Q
theorem op_mulD {X : Cx} : OpR X (binaryOp .Mult) rMul := opR_or op_mulW op_rep
theorem reps_rep {K : PySem.W.Frag} {h : Hp} {vs : List V} {ds : List D} (r : Reps K h vs ds) : ∀ n : Nat, Reps K h (List.replicate n vs).flatten (List.replicate n ds).flatten
  | 0 => .nil
  | n + 1 => by
    rw [List.replicate_succ, List.replicate_succ, List.flatten_cons, List.flatten_cons]
    exact r.append (reps_rep r n)
theorem prim_mul {K : PySem.W.Frag} : Prim2 K mulF rMul := by
  intro T P σ H O env v1 v2 d1 d2 w Q hK he p1 p2 hf q
  subst hK
  cases d1 <;> cases d2 <;> try (cases hf; done)
  case int.int i j =>
    cases pk_int p1; cases pk_int p2
    obtain ⟨hc, rfl⟩ := if_some hf
    exact .inl ⟨_, _, rfl, rfl, hc, RD.val q he .int⟩
  case lst.int xs k =>
    obtain ⟨a, vs, rfl, h1, r1⟩ := pk_lst p1
    cases pk_int p2
    obtain ⟨⟨c1, c2, c3⟩, rfl⟩ := if_some hf
    exact .inr ⟨_, _, _, rfl, rfl, h1, c1, c2, by rw [r1.length]; exact c3, fun p hp => RD.newL q he (reps_rep r1 _) hp⟩
def modF : D → D → Option W
  | .int i, .int j => if 0 < j then some (false, .int (i % j)) else none
  | _, _ => none
theorem prim_mod {K : PySem.W.Frag} : Prim2 K modF (rI (fun _ j => 0 < j) fun i j => V.int (i % j)) := by
  intro T P σ H O env v1 v2 d1 d2 w Q hK he p1 p2 hf q
  subst hK
  cases d1 <;> cases d2 <;> try (cases hf; done)
  cases pk_int p1; cases pk_int p2
  obtain ⟨hc, rfl⟩ := if_some hf
  exact ⟨_, _, rfl, rfl, hc, RD.val q he .int⟩
def fdivF : D → D → Option W
  | .int i, .int j => if 0 < j ∧ j.natAbs.log2 < 9000 then some (false, .int (i / j)) else none
  | _, _ => none
theorem prim_fdiv {K : PySem.W.Frag} : Prim2 K fdivF (rI CDivW fun i j => V.int (i / j)) := by
  intro T P σ H O env v1 v2 d1 d2 w Q hK he p1 p2 hf q
  subst hK
  cases d1 <;> cases d2 <;> try (cases hf; done)
  cases pk_int p1; cases pk_int p2
  obtain ⟨hc, rfl⟩ := if_some hf
  exact ⟨_, _, rfl, rfl, hc, RD.val q he .int⟩
def powF : D → D → Option W
  | .int i, .int j => if 0 ≤ j ∧ j ≤ 1000000 ∧ i.natAbs < 2 ^ 64 then some (false, .int (i ^ j.toNat)) else none
  | _, _ => none
theorem prim_pow {K : PySem.W.Frag} : Prim2 K powF (rI CPow fun i j => V.int (i ^ j.toNat)) := by
  intro T P σ H O env v1 v2 d1 d2 w Q hK he p1 p2 hf q
  subst hK
  cases d1 <;> cases d2 <;> try (cases hf; done)
  cases pk_int p1; cases pk_int p2
  obtain ⟨hc, rfl⟩ := if_some hf
  exact ⟨_, _, rfl, rfl, hc, RD.val q he .int⟩
def negF : D → Option W
  | .int i => some (false, .int (-i))
  | _ => none
theorem prim_neg {K : PySem.W.Frag} : Prim1 K negF (rU fun i => V.int (-i)) := by
  intro T P σ H O env v1 d1 w Q hK he p1 hf q
  subst hK
  cases d1 <;> try (cases hf; done)
  cases pk_int p1; cases hf
  exact ⟨_, rfl, RD.val q he .int⟩
/-! ### order of ints -/
def ordF (p : Int → Int → Bool) : D → D → Option W
  | .int i, .int j => some (false, .bl (p i j))
  | _, _ => none
theorem prim_ord {K : PySem.W.Frag} {p : Int → Int → Bool} : Prim2 K (ordF p) (rI0 fun i j => V.bl (p i j)) := by
  intro T P σ H O env v1 v2 d1 d2 w Q hK he p1 p2 hf q
  subst hK
  cases d1 <;> cases d2 <;> try (cases hf; done)
  cases pk_int p1; cases pk_int p2; cases hf
  exact ⟨_, _, rfl, rfl, RD.val q he .bl⟩
/-! ### is None -/
def isNon : D → Bool
  | .non => true
  | _ => false
def isF (neg : Bool) : D → D → Option W
  | d, .non => some (false, .bl (xor neg (isNon d)))
  | _, _ => none
theorem rep_non {K : PySem.W.Frag} {h : Hp} {v : V} {d : D} (r : Rep K h v d) : decide (v = .non) = isNon d := by cases r <;> rfl
theorem pk_isN {K : PySem.W.Frag} {H h : Hp} {v : V} {d : D} (p : Pk K H h v d) : decide (v = .non) = isNon d := by
  cases p with
  | fz r => exact rep_non r
  | sh s => cases s <;> rfl
theorem prim_is {K : PySem.W.Frag} : Prim2 K (isF false) (fun x y H Q => y = .non ∧ Q (.bl (decide (x = .non))) H) := by
  intro T P σ H O env v1 v2 d1 d2 w Q hK he p1 p2 hf q
  subst hK
  cases d2 <;> try (cases hf; done)
  cases pk_non p2; cases hf
  rw [pk_isN p1]
  refine ⟨rfl, ?_⟩
  simp only [Bool.false_xor] at q
  exact RD.val q he .bl
theorem prim_isNot {K : PySem.W.Frag} : Prim2 K (isF true) (fun x y H Q => y = .non ∧ Q (.bl (!decide (x = .non))) H) := by
  intro T P σ H O env v1 v2 d1 d2 w Q hK he p1 p2 hf q
  subst hK
  cases d2 <;> try (cases hf; done)
  cases pk_non p2; cases hf
  rw [pk_isN p1]
  refine ⟨rfl, ?_⟩
  simp only [Bool.true_xor] at q
  exact RD.val q he .bl
/-! ### equality of data without objects -/
mutual
def toPy : D → Option PyData
  | .non => some .none
  | .bl b => some (.bool b)
  | .int i => some (.int i)
  | .str s => some (.str s)
  | .tup ds => (toPys ds).map .tuple
  | .lst ds => (toPys ds).map .list
  | .rol ds => (toPys ds).map .list
  | .obj _ _ => none
def toPys : List D → Option (List PyData)
  | [] => some []
  | d :: ds => match toPy d, toPys ds with
    | some x, some xs => some (x :: xs)
    | _, _ => none
end
section
variable {K : PySem.W.Frag} {H : Hp} {S : AS}
mutual
theorem dp_of : ∀ {v : V} {d : D} {x : PyData}, Rep K (hid H S) v d → toPy d = some x → Dp K H v x
  | _, _, _, .non, h => by cases h; exact .non
  | _, _, _, .bl, h => by cases h; exact .bl _
  | _, _, _, .int, h => by cases h; exact .int _
  | _, _, _, .str, h => by cases h; exact .str _
  | _, .tup ds, _, .tup q r, h => by
    unfold toPy at h
    cases e : toPys ds with
    | none => rw [e] at h; cases h
    | some xs => rw [e] at h; cases h; exact .tup (hid_sqT q) (dps_of r e)
  | _, .lst ds, _, .lst q r, h => by
    unfold toPy at h
    cases e : toPys ds with
    | none => rw [e] at h; cases h
    | some xs => rw [e] at h; cases h; exact .lst (.inl (.inl (hid_same _ _ q))) (dps_of r e)
  | _, .rol ds, _, .rol q r, h => by
    unfold toPy at h
    cases e : toPys ds with
    | none => rw [e] at h; cases h
    | some xs => rw [e] at h; cases h; exact .lst (hid_sqL q) (dps_of r e)
  | _, .obj c fs, _, .obj q r, h => by unfold toPy at h; cases h
theorem dps_of : ∀ {vs : List V} {ds : List D} {xs : List PyData}, Reps K (hid H S) vs ds → toPys ds = some xs → DpAll K H vs xs
  | _, _, _, .nil, h => by unfold toPys at h; cases h; exact .nil
  | _, d :: ds, _, .cons a b, h => by
    unfold toPys at h
    cases e1 : toPy d with
    | none => rw [e1] at h; cases h
    | some x =>
      cases e2 : toPys ds with
      | none => simp only [e1, e2] at h; cases h
      | some xs =>
        simp only [e1, e2] at h
        cases h
        exact .cons (dp_of a e1) (dps_of b e2)
end
theorem dp_pk {v : V} {d : D} {x : PyData} (p : Pk K H (hid H S) v d) (h : toPy d = some x) : Dp K H v x := by
  cases p with
  | fz r => exact dp_of r h
  | sh s =>
    cases s with
    | @lst vs ds q r =>
      unfold toPy at h
      cases e : toPys ds with
      | none => rw [e] at h; cases h
      | some xs => rw [e] at h; cases h; exact .lst (.inl (.inl q)) (dps_of r e)
    | obj q r => unfold toPy at h; cases h
end
def eqG (neg : Bool) (a b : D) : Option W := match toPy a, toPy b with
  | some x, some y => if SeqAt.shaped x = true ∧ SeqAt.shaped y = true then some (false, .bl (xor neg (PyData.eqv x y))) else none
  | _, _ => none
theorem prim_eqG {K : PySem.W.Frag} : Prim2 K (eqG false) (rEqD K) := by
  intro T P σ H O env v1 v2 d1 d2 w Q hK he p1 p2 hf q
  subst hK
  unfold eqG at hf
  cases e1 : toPy d1 with
  | none => rw [e1] at hf; cases hf
  | some x =>
    cases e2 : toPy d2 with
    | none => simp only [e1, e2] at hf; cases hf
    | some y =>
      simp only [e1, e2] at hf
      obtain ⟨⟨c1, c2⟩, rfl⟩ := if_some hf
      refine ⟨x, y, dp_pk p1 e1, dp_pk p2 e2, c1, c2, ?_⟩
      simp only [Bool.false_xor] at q
      exact RD.val q he .bl
theorem prim_neG {K : PySem.W.Frag} : Prim2 K (eqG true) (rNeD K) := by
  intro T P σ H O env v1 v2 d1 d2 w Q hK he p1 p2 hf q
  subst hK
  unfold eqG at hf
  cases e1 : toPy d1 with
  | none => rw [e1] at hf; cases hf
  | some x =>
    cases e2 : toPy d2 with
    | none => simp only [e1, e2] at hf; cases hf
    | some y =>
      simp only [e1, e2] at hf
      obtain ⟨⟨c1, c2⟩, rfl⟩ := if_some hf
      refine ⟨x, y, dp_pk p1 e1, dp_pk p2 e2, c1, c2, ?_⟩
      simp only [Bool.true_xor] at q
      exact RD.val q he .bl
/-- lists of unlike lengths -/
def rEqLen (K : PySem.W.Frag) (b : Bool) : R2 := fun x y H Q => ∃ a c xs ys, x = .ref a ∧ y = .ref c ∧ SqL K H a xs ∧ SqL K H c ys ∧ xs.length ≠ ys.length ∧ Q (.bl b) H
theorem op_eqLen {X : Cx} (hu : X.A.units + 64 < cLine) : OpR X (compareOp .Eq) (rEqLen X.K false) := by
  intro pins s σ H x y v u Q I rx ry h
  obtain ⟨a, c, xs, ys, rfl, rfl, h1, h2, hn, q⟩ := h
  cases (show v = Value.ref a from rx)
  cases (show u = Value.ref c from ry)
  obtain ⟨us, r1, p1, _⟩ := I.list h1
  obtain ⟨ws, r2, p2, _⟩ := I.list h2
  exact SeqAt.rc_eqLen p1.isList p2.isList (by rw [List.size_toArray, List.size_toArray, ← r1.length, ← r2.length]; exact hn) (by omega) ⟨.bl false, H, I, rfl, q⟩
theorem op_neLen {X : Cx} (hu : X.A.units + 64 < cLine) : OpR X (compareOp .NotEq) (rEqLen X.K true) := by
  intro pins s σ H x y v u Q I rx ry h
  obtain ⟨a, c, xs, ys, rfl, rfl, h1, h2, hn, q⟩ := h
  cases (show v = Value.ref a from rx)
  cases (show u = Value.ref c from ry)
  obtain ⟨us, r1, p1, _⟩ := I.list h1
  obtain ⟨ws, r2, p2, _⟩ := I.list h2
  exact SeqAt.rc_neLen p1.isList p2.isList (by rw [List.size_toArray, List.size_toArray, ← r1.length, ← r2.length]; exact hn) (by omega) ⟨.bl true, H, I, rfl, q⟩
/-- texts are compared, whatever they hold; lists of unlike lengths are unlike -/
def eqF (neg : Bool) (a b : D) : Option W := match a, b with
  | .str x, .str y => some (false, .bl (xor neg (x == y)))
  | .lst xs, .lst ys => if xs.length = ys.length then eqG neg (.lst xs) (.lst ys) else some (false, .bl neg)
  | a, b => eqG neg a b
theorem pk_len {K : PySem.W.Frag} {H h : Hp} {v : V} {ds : List D} (p : Pk K H (hid H S) v (.lst ds)) : ∃ a vs, v = .ref a ∧ SqL K H a vs ∧ vs.length = ds.length := by
  obtain ⟨a, vs, rfl, h1, r1⟩ := pk_lst p
  exact ⟨a, vs, rfl, .inl (.inl h1), r1.length⟩
theorem prim_eq {K : PySem.W.Frag} : Prim2 K (eqF false) (fun x y H Q => rEq x y H Q ∨ rEqLen K false x y H Q ∨ rEqD K x y H Q) := by
  intro T P σ H O env v1 v2 d1 d2 w Q hK he p1 p2 hf q
  unfold eqF at hf
  split at hf
  · subst hK
    cases pk_str p1; cases pk_str p2; cases hf
    refine .inl ⟨rfl, ?_⟩
    rw [dec_str]
    simp only [Bool.false_xor] at q
    exact RD.val q he .bl
  · rename_i xs ys
    by_cases hl : xs.length = ys.length
    · rw [if_pos hl] at hf
      exact .inr (.inr (prim_eqG T P σ H O env v1 v2 _ _ w Q hK he p1 p2 hf q))
    · rw [if_neg hl] at hf
      cases hf
      subst hK
      obtain ⟨a, vs, rfl, h1, l1⟩ := pk_len (h := H) p1
      obtain ⟨c, us, rfl, h2, l2⟩ := pk_len (h := H) p2
      exact .inr (.inl ⟨a, c, vs, us, rfl, rfl, h1, h2, by rw [l1, l2]; exact hl, RD.val q he .bl⟩)
  · exact .inr (.inr (prim_eqG T P σ H O env v1 v2 _ _ w Q hK he p1 p2 hf q))
theorem prim_ne {K : PySem.W.Frag} : Prim2 K (eqF true) (fun x y H Q => rNe x y H Q ∨ rEqLen K true x y H Q ∨ rNeD K x y H Q) := by
  intro T P σ H O env v1 v2 d1 d2 w Q hK he p1 p2 hf q
  unfold eqF at hf
  split at hf
  · subst hK
    cases pk_str p1; cases pk_str p2; cases hf
    refine .inl ⟨rfl, ?_⟩
    rw [dec_str]
    simp only [Bool.true_xor] at q
    exact RD.val q he .bl
  · rename_i xs ys
    by_cases hl : xs.length = ys.length
    · rw [if_pos hl] at hf
      exact .inr (.inr (prim_neG T P σ H O env v1 v2 _ _ w Q hK he p1 p2 hf q))
    · rw [if_neg hl] at hf
      cases hf
      subst hK
      obtain ⟨a, vs, rfl, h1, l1⟩ := pk_len (h := H) p1
      obtain ⟨c, us, rfl, h2, l2⟩ := pk_len (h := H) p2
      exact .inr (.inl ⟨a, c, vs, us, rfl, rfl, h1, h2, by rw [l1, l2]; exact hl, RD.val q he .bl⟩)
  · exact .inr (.inr (prim_neG T P σ H O env v1 v2 _ _ w Q hK he p1 p2 hf q))
end DL
set_option maxHeartbeats 8000000
/-! DL13: subscripts, slices, in; built-in calls by data; what is walked. -/
namespace DL
open PySem PySem.Spec PyProof.Rows L2

/-! ### x[i] -/
def atD (ds : List D) (i : Int) : Option W := (atI ds i).map fun d => (false, d)
def ixF : D → D → Option W
  | .lst ds, .int i => atD ds i
  | .rol ds, .int i => atD ds i
  | .tup ds, .int i => atD ds i
  | .str z, .int i => if z.length ≤ sizeLine then (atI z.cps.toList i).map fun c => (false, .str ⟨#[c]⟩) else none
  | _, _ => none
theorem reps_atI {K : PySem.W.Frag} {h : Hp} {vs : List V} {ds : List D} {i : Int} {d : D} (r : Reps K h vs ds) (e : atI ds i = some d) : ∃ v, atI vs i = some v ∧ Rep K h v d := by
  unfold atI at e ⊢
  rw [r.length]
  cases g : ixN ds.length i with
  | none => rw [g] at e; cases e
  | some j =>
    rw [g] at e
    exact r.get e
theorem prim_ix {K : PySem.W.Frag} : Prim2 K ixF (rIx K) := by
  intro T P σ H O env v1 v2 d1 d2 w Q hK he p1 p2 hf q
  subst hK
  cases d1 <;> cases d2 <;> try (cases hf; done)
  case lst.int ds i =>
    obtain ⟨a, vs, rfl, h1, r1⟩ := pk_lst p1
    cases pk_int p2
    have hf : (atI ds i).map (fun d => (false, d)) = some w := hf
    cases e : atI ds i with
    | none => rw [e] at hf; cases hf
    | some d =>
      rw [e] at hf; cases hf
      obtain ⟨v, h2, r2⟩ := reps_atI r1 e
      exact .inl ⟨_, _, _, _, rfl, rfl, .inl (.inl h1), h2, RD.val q he r2⟩
  case rol.int ds i =>
    obtain ⟨a, vs, rfl, h1, r1⟩ := pk_rol p1
    cases pk_int p2
    have hf : (atI ds i).map (fun d => (false, d)) = some w := hf
    cases e : atI ds i with
    | none => rw [e] at hf; cases hf
    | some d =>
      rw [e] at hf; cases hf
      obtain ⟨v, h2, r2⟩ := reps_atI r1 e
      exact .inl ⟨_, _, _, _, rfl, rfl, h1, h2, RD.val q he r2⟩
  case tup.int ds i =>
    obtain ⟨a, vs, rfl, h1, r1, _⟩ := pk_tup p1
    cases pk_int p2
    have hf : (atI ds i).map (fun d => (false, d)) = some w := hf
    cases e : atI ds i with
    | none => rw [e] at hf; cases hf
    | some d =>
      rw [e] at hf; cases hf
      obtain ⟨v, h2, r2⟩ := reps_atI r1 e
      exact .inr (.inl ⟨_, _, _, _, rfl, rfl, h1, h2, RD.val q he r2⟩)
  case str.int z i =>
    cases pk_str p1
    cases pk_int p2
    have hf : (if z.length ≤ sizeLine then (atI z.cps.toList i).map fun c => (false, D.str ⟨#[c]⟩) else none) = some w := hf
    by_cases hz : z.length ≤ sizeLine
    · rw [if_pos hz] at hf
      cases e : atI z.cps.toList i with
      | none => rw [e] at hf; cases hf
      | some c => rw [e] at hf; cases hf; exact .inr (.inr ⟨_, _, _, rfl, rfl, hz, e, RD.val q he .str⟩)
    · rw [if_neg hz] at hf
      cases hf
/-! ### x in y -/
def flatD : D → Bool
  | .non => true
  | .bl _ => true
  | .int _ => true
  | .str _ => true
  | _ => false
def eqFlat : D → D → Bool
  | .non, .non => true
  | .bl a, .bl b => a == b
  | .bl a, .int b => (if a then 1 else 0) == b
  | .int a, .bl b => a == (if b then 1 else 0)
  | .int a, .int b => a == b
  | .str a, .str b => a == b
  | _, _ => false
theorem rep_flat {K : PySem.W.Frag} {h : Hp} {v : V} {d : D} (r : Rep K h v d) : flatV v = flatD d := by cases r <;> rfl
theorem reps_flat {K : PySem.W.Frag} {h : Hp} : ∀ {vs : List V} {ds : List D}, Reps K h vs ds → vs.all flatV = ds.all flatD
  | _, _, .nil => rfl
  | _, _, .cons a b => by
    rw [List.all_cons, List.all_cons, rep_flat a, reps_flat b]
theorem rep_eqFlat {K : PySem.W.Frag} {h h' : Hp} {v u : V} {d e : D} (r : Rep K h v d) (r' : Rep K h' u e) (f : flatD d = true) (f' : flatD e = true) : eqV v u = eqFlat d e := by
  cases r <;> first | cases f; done | (cases r' <;> first | rfl | (cases f'; done))
theorem reps_in {K : PySem.W.Frag} {h h' : Hp} {u : V} {e : D} (r' : Rep K h' u e) (f' : flatD e = true) : ∀ {vs : List V} {ds : List D}, Reps K h vs ds → ds.all flatD = true → inV u vs = ds.any fun y => eqFlat y e
  | _, _, .nil, _ => rfl
  | _, _, .cons a b, f => by
    rw [List.all_cons, Bool.and_eq_true] at f
    unfold inV
    rw [List.any_cons, List.any_cons, rep_eqFlat a r' f.1 f']
    exact congrArg _ (reps_in r' f' b f.2)
def inF (neg : Bool) : D → D → Option W
  | d, .lst ds => if flatD d && ds.all flatD then some (false, .bl (if neg then !ds.any fun y => eqFlat y d else ds.any fun y => eqFlat y d)) else none
  | d, .tup ds => if flatD d && ds.all flatD then some (false, .bl (if neg then !ds.any fun y => eqFlat y d else ds.any fun y => eqFlat y d)) else none
  | .str i, .str j => some (false, .bl (if neg then !(!(Builtin.Str.occurrences j i 0 j.length 1).isEmpty) else !(Builtin.Str.occurrences j i 0 j.length 1).isEmpty))
  | _, _ => none
def rInD (K : PySem.W.Frag) (neg : Bool) : R2 := fun x y H Q => rIn K neg x y H Q ∨ ∃ i j, x = .str i ∧ y = .str j ∧ Q (.bl (if neg then !(!(Builtin.Str.occurrences j i 0 j.length 1).isEmpty) else !(Builtin.Str.occurrences j i 0 j.length 1).isEmpty)) H
theorem op_inD {X : Cx} : OpR X (compareOp .In) (rInD X.K false) := opR_or op_in_seq op_in_str
theorem op_notInD' {X : Cx} : OpR X (compareOp .NotIn) (rInD X.K true) := opR_or op_notIn_seq op_notIn_str
theorem pk_flat {K : PySem.W.Frag} {H h : Hp} {v : V} {d : D} (p : Pk K H h v d) (f : flatD d = true) : Rep K h v d := by
  cases p with
  | fz r => exact r
  | sh s => cases s <;> cases f
theorem prim_in {K : PySem.W.Frag} {neg : Bool} : Prim2 K (inF neg) (rInD K neg) := by
  intro T P σ H O env v1 v2 d1 d2 w Q hK he p1 p2 hf q
  subst hK
  cases d2 with
  | lst ds =>
    obtain ⟨b, us, rfl, h2, r2⟩ := pk_lst p2
    have hf : (if flatD d1 && ds.all flatD then some (false, D.bl (if neg then !ds.any fun y => eqFlat y d1 else ds.any fun y => eqFlat y d1)) else none) = some w := by cases d1 <;> exact hf
    obtain ⟨hc, rfl⟩ := if_some hf
    obtain ⟨c1, c2⟩ := Bool.and_eq_true_iff.mp hc
    have r1 := pk_flat p1 c1
    refine .inl ⟨_, _, rfl, .inl (.inl (.inl h2)), by rw [rep_flat r1]; exact c1, by rw [reps_flat r2]; exact c2, ?_⟩
    rw [reps_in r1 c1 r2 c2]
    exact RD.val q he .bl
  | tup ds =>
    obtain ⟨b, us, rfl, h2, r2, _⟩ := pk_tup p2
    have hf : (if flatD d1 && ds.all flatD then some (false, D.bl (if neg then !ds.any fun y => eqFlat y d1 else ds.any fun y => eqFlat y d1)) else none) = some w := by cases d1 <;> exact hf
    obtain ⟨hc, rfl⟩ := if_some hf
    obtain ⟨c1, c2⟩ := Bool.and_eq_true_iff.mp hc
    have r1 := pk_flat p1 c1
    refine .inl ⟨_, _, rfl, .inr h2, by rw [rep_flat r1]; exact c1, by rw [reps_flat r2]; exact c2, ?_⟩
    rw [reps_in r1 c1 r2 c2]
    exact RD.val q he .bl
  | str j =>
    cases d1 <;> try (cases hf; done)
    rename_i i
    cases pk_str p1; cases pk_str p2
    cases hf
    exact .inr ⟨_, _, rfl, rfl, RD.val q he .bl⟩
  | _ => cases d1 <;> cases hf
/-! ### slices -/
def cutD (xs : List D) (lo hi : Option Int) : List D := (xs.drop (HT.sIx xs.length 0 lo)).take (HT.sIx xs.length xs.length hi - HT.sIx xs.length 0 lo)
theorem reps_cut {K : PySem.W.Frag} {h : Hp} {vs : List V} {ds : List D} (r : Reps K h vs ds) (lo hi : Option Int) : Reps K h (cutV vs lo hi) (cutD ds lo hi) := by
  unfold cutV cutD
  rw [r.length]
  exact (r.drop _).take _
def sliceF (d : D) (lo hi : Option Int) : Option W := match d with
  | .lst ds => some (true, .lst (cutD ds lo hi))
  | .rol ds => some (true, .lst (cutD ds lo hi))
  | .tup ds => some (false, .tup (cutD ds lo hi))
  | .str z => if z.length ≤ sizeLine then some (false, .str (cutS z lo hi)) else none
  | _ => none
def rSlD (K : PySem.W.Frag) : V → Option Int → Option Int → Hp → VK → Prop := fun x lo hi H Q => rSlL K x lo hi H Q ∨ rSlA K x lo hi H Q ∨ rSlS x lo hi H Q
theorem sl_D {X : Cx} : SlR X (rSlD X.K) := sl_list.or (sl_tupA.or sl_str)
theorem slice_ok {T : Th} {P : AS} {σ : L2.St} {H : Hp} {O : AS} {env : SEnv} {v : V} {d : D} {w : W} {Q : VK} {lo hi : Option Int} (he : EnvOk (T.cn P) H O σ env) (p : Pk T.K H (hid H (Un2 O P)) v d) (hf : sliceF d lo hi = some w) (q : RD T P σ H O Q (.ok w env)) : rSlD T.K v lo hi H Q := by
  cases d with
  | lst ds =>
    obtain ⟨a, vs, rfl, h1, r1⟩ := pk_lst p
    cases hf
    exact .inl ⟨_, _, rfl, .inl (.inl h1), fun p hp => RD.newL q he (reps_cut r1 lo hi) hp⟩
  | rol ds =>
    obtain ⟨a, vs, rfl, h1, r1⟩ := pk_rol p
    cases hf
    exact .inl ⟨_, _, rfl, h1, fun p hp => RD.newL q he (reps_cut r1 lo hi) hp⟩
  | tup ds =>
    obtain ⟨a, vs, rfl, h1, r1, s1⟩ := pk_tup p
    cases hf
    refine .inr (.inl ⟨_, _, rfl, h1, fun hw => ?_, fun _ p hp => RD.newT q he (reps_cut r1 lo hi) hp⟩)
    have e : cutD ds lo hi = ds := by
      unfold cutD
      rw [r1.length] at hw
      rw [hw.1, hw.2, List.drop_zero, Nat.sub_zero, List.take_length]
    rw [e] at q
    exact RD.val q he (.tup s1 r1)
  | str z =>
    cases pk_str p
    obtain ⟨hc, rfl⟩ := if_some hf
    exact .inr (.inr ⟨_, rfl, hc, RD.val q he .str⟩)
  | _ => cases hf
/-- a slice's end -/
abbrev PDen := Option EDen
def intK (k : Option Int → EDen) : D → EDen
  | .int i => k (some i)
  | _ => dSt
def evP (a : PDen) (k : Option Int → EDen) : EDen := match a with
  | none => k none
  | some m => bindE m (intK k)
def tPo (T : Th) : PDen → TO
  | none => tNoPart
  | some m => tPart (tD T m)
theorem rd_po {T : Th} {P : AS} {σ : L2.St} {H : Hp} {O : AS} {env : SEnv} {Q : VK} {a : PDen} {k : Option Int → EDen} {R : Option Int → Hp → Prop} (he : EnvOk (T.cn P) H O σ env) (h : RD T P σ H O Q (evP a k env))
    (hk : ∀ o H1 O1 env1, Stp P H O H1 O1 → EnvOk (T.cn P) H1 O1 σ env1 → RD T P σ H1 O1 Q (k o env1) → R o H1) : tPo T a σ H R := by
  cases a with
  | none => exact hk none H O env .refl he h
  | some m =>
    have h : RD T P σ H O Q (bindE m (intK k) env) := h
    refine rd_bind he h fun v H1 O1 env1 d s1 e1 r1 q1 => ?_
    cases r1 with
    | int => exact ⟨_, rfl, hk _ H1 O1 env1 s1 e1 q1⟩
    | _ => exact q1.elim
def dSlice (a : Opd) (lo hi : PDen) : EDen := evO a fun x => evP lo fun l => evP hi fun u => fun env => match argDat env x with
  | some d => retO (sliceF d l u) env
  | none => .st
theorem gp_slice {X : Cx} {T : Th} {e : Expr} {lo hi : Option Expr} {ma : Opd} {ml mh : PDen} {p2 pos : Pos} (hK : X.K = T.K) (he : PE X e (tOpd T ma)) (hl : PO X lo (tPo T ml)) (hu : PO X hi (tPo T mh)) : PE X (.Subscript e (.Slice lo hi none p2) pos) (tD T (dSlice ma ml mh)) :=
  (pe_slice sl_D he hl hu).to fun σ H Q ⟨P, O, env, he, q⟩ => by
    rw [hK]
    refine rd_opd he q fun v1 H1 O1 env1 x s1 e1 r1 q1 => ?_
    refine rd_po e1 q1 fun l H2 O2 env2 s2 e2 q2 => ?_
    refine rd_po e2 q2 fun u H3 O3 env3 s3 e3 q3 => ?_
    cases g : argDat env3 x with
    | none => simp only [g] at q3; exact q3.elim
    | some d =>
      simp only [g] at q3
      unfold retO at q3
      cases gs : sliceF d l u with
      | none => rw [gs] at q3; exact q3.elim
      | some w =>
        rw [gs] at q3
        exact slice_ok e3 (pk_of e3 (r1.mono (s2.trans s3).same) g) gs q3
theorem po_noneD {X : Cx} {T : Th} : PO X none (tPo T none) := po_none
theorem po_someD {X : Cx} {T : Th} {e : Expr} {m : EDen} (h : PE X e (tD T m)) : PO X (some e) (tPo T (some m)) := po_some h

/-! ### built-in calls -/
def rPk (i : Nat) (k : ArgDen) : ArgDen := fun env => match env[i]? with
  | some (.fz d) => (match k env with
    | .ok as env2 => .ok (.val d :: as) env2
    | .ex x e => .ex x e
    | .st => .st)
  | some (.ow _) => rLend i k env
  | some (.io _) => rLend i k env
  | _ => .st
theorem gr_pk {X : Cx} {T : Th} {k : ArgDen} {e : Expr} {es : List Expr} {i : Nat} (ha : PE X e (tVar i)) (hr : PA X es (tDGa T k)) (hs : starEach (e :: es) X.env = (false, eval e X.env) :: starEach es X.env) : PA X (e :: es) (tDGa T (rPk i k)) := by
  refine (pa_cons ha hr hs).to fun σ H Q ⟨P, O, env, he, q⟩ => ?_
  have lend : RG T P σ H O Q (rLend i k env) → tCons (tVar i) (tDGa T k) σ H Q := fun q => by
    have h2 : PA X (e :: es) (tDGa T (rLend i k)) := gr_lend ha hr hs
    unfold rLend at q
    cases g : env[i]? with
    | none => rw [g] at q; exact q.elim
    | some s =>
      have hi : i < σ.length := by rw [← he.len]; exact (List.getElem?_eq_some_iff.mp g).1
      have hs : σ[i]? = some σ[i] := List.getElem?_eq_getElem hi
      have r := he.ok i _ _ hs g
      rw [g] at q
      have fin : ∀ v, σ[i] = some v → (slotData s).isSome = true → (tCons (tVar i) (tDGa T k)) σ H Q := fun v hv hd => by
        obtain ⟨d, hd⟩ := Option.isSome_iff_exists.mp hd
        refine ⟨v, by rw [hs, hv], P, O, env, he, ?_⟩
        have q : RG T P σ H O Q (match k env with
          | .ok as env2 => .ok (.lend i :: as) env2
          | .ex x e => .ex x e
          | .st => .st) := by
          have : (some s).bind slotData = some d := hd
          simp only [this] at q
          exact q
        cases h2 : k env with
        | st => simp only [h2] at q; exact q
        | ex x e => simp only [h2] at q; exact q
        | ok ds env2 =>
          simp only [h2] at q
          exact fun vs H' O' s' e' r' => q (v :: vs) H' O' s' e' (.lend (by rw [hs, hv]) r')
      generalize hσ : σ[i] = o at r
      cases r with
      | un => exact q.elim
      | xc _ => exact q.elim
      | fz _ => exact q.elim
      | ow _ _ => exact fin _ hσ rfl
      | io _ _ => exact fin _ hσ rfl
  unfold rPk at q
  cases g : env[i]? with
  | none => rw [g] at q; exact q.elim
  | some s =>
    rw [g] at q
    cases s with
    | un => exact q.elim
    | xc _ => exact q.elim
    | ow d => exact lend q
    | io d => exact lend q
    | fz d =>
      have hi : i < σ.length := by rw [← he.len]; exact (List.getElem?_eq_some_iff.mp g).1
      have hs : σ[i]? = some σ[i] := List.getElem?_eq_getElem hi
      have r := he.ok i _ _ hs g
      generalize hσ : σ[i] = o at r
      rw [hσ] at hs
      cases r with
      | @fz v _ r =>
        refine ⟨v, hs, P, O, env, he, ?_⟩
        cases h2 : k env with
        | st => simp only [h2] at q; exact q
        | ex x e => simp only [h2] at q; exact q
        | ok ds env2 =>
          simp only [h2] at q
          exact fun vs H' O' s' e' r' => q (v :: vs) H' O' s' e' (.val (r.mono s'.same) r')
inductive Pks (K : PySem.W.Frag) (H h : Hp) : List V → List D → Prop
  | nil : Pks K H h [] []
  | cons {v : V} {d : D} {vs : List V} {ds : List D} : Pk K H h v d → Pks K H h vs ds → Pks K H h (v :: vs) (d :: ds)
theorem pks_of {C : Cn} {H : Hp} {O : AS} {σ : L2.St} {env : SEnv} (e : EnvOk C H O σ env) : ∀ {vs : List V} {as : List Arg} {ds : List FArg}, ArgsRel C.K (hid H (Un2 O C.P)) σ vs as → argsD env as = some ds → Pks C.K H (hid H (Un2 O C.P)) vs (ds.map (·.2))
  | _, _, _, .nil, h => by cases h; exact .nil
  | _, .val d :: as, ds, .val r t, h => by
    unfold argsD at h
    cases h2 : argsD env as with
    | none => simp only [h2] at h; cases h
    | some r2 =>
      simp only [h2] at h
      cases h
      exact .cons (.fz r) (pks_of e t h2)
  | _, .lend i :: as, ds, .lend r t, h => by
    unfold argsD at h
    cases h1 : argD env (.lend i) with
    | none => rw [h1] at h; cases h
    | some f =>
      cases h2 : argsD env as with
      | none => simp only [h1, h2] at h; cases h
      | some r2 =>
        simp only [h1, h2] at h
        cases h
        exact .cons (pk_of e (show ARel C.K (hid H (Un2 O C.P)) σ _ (.lend i) from r) (by unfold argDat; rw [h1]; rfl)) (pks_of e t h2)
def PrimN (K : PySem.W.Frag) (f : List D → Option W) (r : List V → Hp → VK → Prop) : Prop := ∀ (T : Th) (P : AS) (σ : L2.St) (H : Hp) (O : AS) (env : SEnv) (vs : List V) (ds : List D) (w : W) (Q : VK), T.K = K → EnvOk (T.cn P) H O σ env →
  Pks K H (hid H (Un2 O P)) vs ds → f ds = some w → RD T P σ H O Q (.ok w env) → r vs H Q
def dPN (f : List D → Option W) (m : ArgDen) : EDen := fun env => match m env with
  | .ok as env1 => (match argsD env1 as with
    | some ds => retO (f (ds.map (·.2))) env1
    | none => .st)
  | .ex x e => .ex x e
  | .st => .st
theorem rd_pn {T : Th} {f : List D → Option W} {r : List V → Hp → VK → Prop} (hf : PrimN T.K f r) {m : ArgDen} {σ : L2.St} {H : Hp} {Q : VK} (q : tD T (dPN f m) σ H Q) : tDGa T m σ H (fun vs H1 => r vs H1 Q) := by
  obtain ⟨P, O, env, he, q⟩ := q
  refine ⟨P, O, env, he, ?_⟩
  unfold dPN at q
  cases h : m env with
  | st => simp only [h] at q; exact q
  | ex x e => simp only [h] at q; exact q
  | ok as env1 =>
    simp only [h] at q
    intro vs H1 O1 s1 e1 ar
    cases hd : argsD env1 as with
    | none => simp only [hd] at q; exact q.elim
    | some ds =>
      simp only [hd] at q
      unfold retO at q
      cases g : f (ds.map (·.2)) with
      | none => rw [g] at q; exact q.elim
      | some w =>
        rw [g] at q
        exact hf T P σ H1 O1 env1 vs _ w Q rfl e1 (pks_of e1 ar hd) g (RD.step q s1)
theorem primN1 {K : PySem.W.Frag} {f : D → Option W} {r : V → Hp → VK → Prop} {rn : List V → Hp → VK → Prop} (h : Prim1 K f r) (hr : ∀ v H Q, r v H Q → rn [v] H Q) : PrimN K (fun ds => match ds with
    | [d] => f d
    | _ => none) rn := by
  intro T P σ H O env vs ds w Q hK he p hf q
  cases p with
  | nil => cases hf
  | cons a b =>
    cases b with
    | nil => exact hr _ _ _ (h T P σ H O env _ _ w Q hK he a hf q)
    | cons _ _ => cases hf
section
variable {X : Cx} {T : Th} {x : Str} {id Ty : String} {f : List D → Option W} {r : List V → Hp → VK → Prop} {e : Expr} {es : List Expr} {m : ArgDen} {p pos : Pos}
theorem gp_callB (hc : CallR X (.builtin id) r) (hf : PrimN T.K f r) (hg : Gl X x) (hm : X.mg x = none) (hv : bootBuiltins x = some (.builtin id)) (ha : PA X (e :: es) (tDGa T m)) (hn : x ≠ "__name__") (hdb : (x == ("__debug__" : Str)) = false) (hst : noStar (e :: es) = true) : PE X (.Call (.Name x p) (e :: es) [] pos) (tD T (dPN f m)) :=
  (pe_callB hc hg hm hv ha hn hdb (starEach_cons hst) (any_plain (noStar_tail hst))).to fun σ H Q q => rd_pn hf q
theorem gp_callTy (hc : CallR X (.type Ty) r) (hf : PrimN T.K f r) (hg : Gl X x) (hm : X.mg x = none) (hv : bootBuiltins x = some (.type Ty)) (ha : PA X (e :: es) (tDGa T m)) (hn : x ≠ "__name__") (hdb : (x == ("__debug__" : Str)) = false) (hst : noStar (e :: es) = true) : PE X (.Call (.Name x p) (e :: es) [] pos) (tD T (dPN f m)) :=
  (pe_callTy hc hg hm hv ha hn hdb (starEach_cons hst) (any_plain (noStar_tail hst))).to fun σ H Q q => rd_pn hf q
end
end DL
set_option maxHeartbeats 8000000
/-! DL14: the built-ins; what is walked. -/
namespace DL
open PySem PySem.Spec PyProof.Rows L2

def lenF : List D → Option W
  | [.lst ds] => some (false, .int ds.length)
  | [.rol ds] => some (false, .int ds.length)
  | [.tup ds] => some (false, .int ds.length)
  | [.str z] => if z.length ≤ sizeLine then some (false, .int z.length) else none
  | _ => none
def absF : List D → Option W
  | [.int i] => some (false, .int (if i < 0 then -i else i))
  | _ => none
def intF : List D → Option W
  | [.int i] => some (false, .int i)
  | [.bl k] => some (false, .int (if k then 1 else 0))
  | [.str a] => if a.length ≤ 640 then (PySem.intText? a).map fun n => (false, .int n) else none
  | _ => none
def strF : List D → Option W
  | [.int i] => if i.natAbs.log2 < 1920 then some (false, .str (toString i)) else none
  | [.str a] => some (false, .str a)
  | _ => none
def maxF : List D → Option W
  | [.int i, .int j] => some (false, .int (if j > i then j else i))
  | _ => none
def minF : List D → Option W
  | [.int i, .int j] => some (false, .int (if j < i then j else i))
  | _ => none
def listF : List D → Option W
  | [.lst ds] => some (true, .lst ds)
  | [.rol ds] => some (true, .lst ds)
  | [.tup ds] => some (true, .lst ds)
  | _ => none
def tupleF : List D → Option W
  | [.lst ds] => some (false, .tup ds)
  | [.rol ds] => some (false, .tup ds)
  | [.tup ds] => some (false, .tup ds)
  | _ => none
def allInts : List D → Option (List Int)
  | [] => some []
  | .int i :: r => (allInts r).map (i :: ·)
  | _ => none
def allBls : List D → Option (List Bool)
  | [] => some []
  | .bl b :: r => (allBls r).map (b :: ·)
  | _ => none
def sumF : List D → Option W
  | [.lst ds] => (allInts ds).map fun ns => (false, .int ns.sum)
  | _ => none
def anyF : List D → Option W
  | [.lst ds] => (allBls ds).map fun bs => (false, .bl (bs.any id))
  | _ => none
def allF : List D → Option W
  | [.lst ds] => (allBls ds).map fun bs => (false, .bl (bs.all id))
  | _ => none
theorem ints_of {K : PySem.W.Frag} {h : Hp} : ∀ {vs : List V} {ds : List D} {ns : List Int}, Reps K h vs ds → allInts ds = some ns → vs = ns.map V.int
  | _, _, _, .nil, e => by cases e; rfl
  | _, d :: ds, ns, .cons a b, e => by
    cases a <;> try (cases e; done)
    rename_i i
    have e : (allInts ds).map (i :: ·) = some ns := e
    cases g : allInts ds with
    | none => rw [g] at e; cases e
    | some r => rw [g] at e; cases e; rw [ints_of b g]; rfl
theorem bls_of {K : PySem.W.Frag} {h : Hp} : ∀ {vs : List V} {ds : List D} {ns : List Bool}, Reps K h vs ds → allBls ds = some ns → vs = ns.map V.bl
  | _, _, _, .nil, e => by cases e; rfl
  | _, d :: ds, ns, .cons a b, e => by
    cases a <;> try (cases e; done)
    rename_i i
    have e : (allBls ds).map (i :: ·) = some ns := e
    cases g : allBls ds with
    | none => rw [g] at e; cases e
    | some r => rw [g] at e; cases e; rw [bls_of b g]; rfl
theorem callR_or {X : Cx} {f : Value} {r r' : List V → Hp → VK → Prop} (h : CallR X f r) (h' : CallR X f r') : CallR X f (fun xs H Q => r xs H Q ∨ r' xs H Q) := fun pins s σ H xs us Q I rv q => q.elim (h pins s σ H xs us Q I rv) (h' pins s σ H xs us Q I rv)
/-- repr(x): x without objects of own classes -/
def reprF : List D → Option W
  | [d] => (match toPy d with
    | some x => if x.showable = true ∧ x.hasDict = false ∧ x.depth ≤ 60 ∧ x.shown.length ≤ sizeLine then some (false, .str x.shown) else none
    | none => none)
  | _ => none
theorem call_reprD {X : Cx} (hg : X.A.guards = some []) (hu : X.A.units + 64 < cLine) : CallR X (.builtin "repr") (fun xs H Q => ∃ v d, xs = [v] ∧ Dp X.K H v d ∧ d.showable = true ∧ d.hasDict = false ∧ d.depth ≤ 60 ∧ d.shown.length ≤ sizeLine ∧ Q (.str d.shown) H) := by
  intro pins s σ H xs us Q I r h
  obtain ⟨v, d, rfl, hd, h1, h2, h3, h4, q⟩ := h
  cases r with
  | @cons _ u _ _ rv rn =>
    cases rn
    obtain ⟨as, rd⟩ := Dp.reads I d v u hd rv
    have fin : ∀ (h' : Heap) (t tk : Nat), (∀ b o, s.heap.get? b = some o → h'.get? b = some o) → EP X pins σ Q (.str d.shown t) { s with heap := h', toks := tk } := fun h' t tk hk => ⟨.str d.shown, H, I.kept (t' := tk) hk, ⟨t, rfl⟩, q⟩
    cases rd with
    | none => exact PySem.P.repr_of_none (fin s.heap _ _ fun _ _ e => e)
    | bool b => exact PySem.P.repr_of_bool (fin s.heap _ _ fun _ _ e => e)
    | int i t => exact PySem.P.repr_of_int (of_decide_eq_true h1) (fin s.heap _ _ fun _ _ e => e)
    | str x t => exact PySem.P.repr_of_str (fin s.heap _ _ fun _ _ e => e) h4
    | list a b c d => exact repr_of_reads' (.list a b c d) h1 (fun z => by rw [h2] at z; cases z) hg (by omega) (fun _ _ e => e) (fun h' t tk hk => fin h' t tk hk) h4
    | tuple a b c d => exact repr_of_reads' (.tuple a b c d) h1 (fun z => by rw [h2] at z; cases z) hg (by omega) (fun _ _ e => e) (fun h' t tk hk => fin h' t tk hk) h4
    | dict _ _ _ _ _ => cases h2
inductive Blt where
  | len | abs | int | str | max | min | list | tuple | sum | any | all | repr
  deriving DecidableEq
def Blt.f : Blt → List D → Option W
  | .len => lenF | .abs => absF | .int => intF | .str => strF | .max => maxF | .min => minF | .list => listF | .tuple => tupleF | .sum => sumF | .any => anyF | .all => allF | .repr => reprF
def bltName : Blt → Str
  | .len => "len" | .abs => "abs" | .int => "int" | .str => "str" | .max => "max" | .min => "min" | .list => "list" | .tuple => "tuple" | .sum => "sum" | .any => "any" | .all => "all" | .repr => "repr"
def blts : List Blt := [.len, .abs, .int, .str, .max, .min, .list, .tuple, .sum, .any, .all, .repr]
section
variable {X : Cx} {T : Th} {e : Expr} {es : List Expr} {m : ArgDen} {p pos : Pos} {K : PySem.W.Frag}
theorem n_len : PrimN K lenF (fun xs H Q => (∃ p ys, xs = [.ref p] ∧ (SqL K H p ys ∨ SqT K H p ys) ∧ Q (.int ys.length) H) ∨ ∃ z, xs = [.str z] ∧ z.length ≤ sizeLine ∧ Q (.int z.length) H) := by
  intro T P σ H O env vs ds w Q hK he pk hf q
  subst hK
  cases pk with
  | nil => cases hf
  | @cons v d _ _ a b =>
    cases b with
    | cons _ _ => cases d <;> cases hf
    | nil =>
      cases d <;> try (cases hf; done)
      · rename_i z
        cases pk_str a
        obtain ⟨hc, rfl⟩ := if_some hf
        exact .inr ⟨_, rfl, hc, RD.val q he .int⟩
      · obtain ⟨a, vs, rfl, h1, r1, _⟩ := pk_tup a
        cases hf
        exact .inl ⟨_, _, rfl, .inr h1, by rw [r1.length]; exact RD.val q he .int⟩
      · obtain ⟨a, vs, rfl, h1, r1⟩ := pk_lst a
        cases hf
        exact .inl ⟨_, _, rfl, .inl (.inl (.inl h1)), by rw [r1.length]; exact RD.val q he .int⟩
      · obtain ⟨a, vs, rfl, h1, r1⟩ := pk_rol a
        cases hf
        exact .inl ⟨_, _, rfl, .inl h1, by rw [r1.length]; exact RD.val q he .int⟩
theorem n_abs : PrimN K absF (fun xs H Q => ∃ i, xs = [.int i] ∧ Q (.int (if i < 0 then -i else i)) H) := by
  intro T P σ H O env vs ds w Q hK he pk hf q
  subst hK
  cases pk with
  | nil => cases hf
  | @cons v d _ _ a b =>
    cases b with
    | cons _ _ => cases d <;> cases hf
    | nil =>
      cases d <;> try (cases hf; done)
      cases pk_int a
      cases hf
      exact ⟨_, rfl, RD.val q he .int⟩
theorem n_int : PrimN K intF (fun xs H Q => ((∃ i, xs = [.int i] ∧ Q (.int i) H) ∨ ∃ k, xs = [.bl k] ∧ Q (.int (if k then 1 else 0)) H) ∨ ∃ a n, xs = [.str a] ∧ PySem.intText? a = some n ∧ a.length ≤ 640 ∧ Q (.int n) H) := by
  intro T P σ H O env vs ds w Q hK he pk hf q
  subst hK
  cases pk with
  | nil => cases hf
  | @cons v d _ _ a b =>
    cases b with
    | cons _ _ => cases d <;> cases hf
    | nil =>
      cases d <;> try (cases hf; done)
      · cases pk_bl a; cases hf; exact .inl (.inr ⟨_, rfl, RD.val q he .int⟩)
      · cases pk_int a; cases hf; exact .inl (.inl ⟨_, rfl, RD.val q he .int⟩)
      · rename_i z
        cases pk_str a
        have hf : (if z.length ≤ 640 then (PySem.intText? z).map fun n => (false, D.int n) else none) = some w := hf
        by_cases hz : z.length ≤ 640
        · rw [if_pos hz] at hf
          cases g : PySem.intText? z with
          | none => rw [g] at hf; cases hf
          | some n => rw [g] at hf; cases hf; exact .inr ⟨_, _, rfl, g, hz, RD.val q he .int⟩
        · rw [if_neg hz] at hf
          cases hf
theorem n_str : PrimN K strF (fun xs H Q => (∃ i, xs = [.int i] ∧ i.natAbs.log2 < 1920 ∧ Q (.str (toString i)) H) ∨ ∃ a, xs = [.str a] ∧ Q (.str a) H) := by
  intro T P σ H O env vs ds w Q hK he pk hf q
  subst hK
  cases pk with
  | nil => cases hf
  | @cons v d _ _ a b =>
    cases b with
    | cons _ _ => cases d <;> cases hf
    | nil =>
      cases d <;> try (cases hf; done)
      · cases pk_int a
        obtain ⟨hc, rfl⟩ := if_some hf
        exact .inl ⟨_, rfl, hc, RD.val q he .str⟩
      · cases pk_str a; cases hf; exact .inr ⟨_, rfl, RD.val q he .str⟩
theorem n_max : PrimN K maxF (fun xs H Q => ∃ i j, xs = [.int i, .int j] ∧ Q (.int (if j > i then j else i)) H) := by
  intro T P σ H O env vs ds w Q hK he pk hf q
  subst hK
  cases pk with
  | nil => cases hf
  | @cons v d _ _ a b =>
    cases b with
    | nil => cases d <;> cases hf
    | @cons v2 d2 _ _ a2 b2 =>
      cases b2 with
      | cons _ _ => cases d <;> cases d2 <;> cases hf
      | nil =>
        cases d <;> cases d2 <;> try (cases hf; done)
        cases pk_int a; cases pk_int a2; cases hf
        exact ⟨_, _, rfl, RD.val q he .int⟩
theorem n_min : PrimN K minF (fun xs H Q => ∃ i j, xs = [.int i, .int j] ∧ Q (.int (if j < i then j else i)) H) := by
  intro T P σ H O env vs ds w Q hK he pk hf q
  subst hK
  cases pk with
  | nil => cases hf
  | @cons v d _ _ a b =>
    cases b with
    | nil => cases d <;> cases hf
    | @cons v2 d2 _ _ a2 b2 =>
      cases b2 with
      | cons _ _ => cases d <;> cases d2 <;> cases hf
      | nil =>
        cases d <;> cases d2 <;> try (cases hf; done)
        cases pk_int a; cases pk_int a2; cases hf
        exact ⟨_, _, rfl, RD.val q he .int⟩
theorem n_list : PrimN K listF (fun xs H Q => ∃ p ys, xs = [.ref p] ∧ (SqL K H p ys ∨ SqT K H p ys) ∧ ∀ l, H l = none → Q (.ref l) (upd H l (.lst ys))) := by
  intro T P σ H O env vs ds w Q hK he pk hf q
  subst hK
  cases pk with
  | nil => cases hf
  | @cons v d _ _ a b =>
    cases b with
    | cons _ _ => cases d <;> cases hf
    | nil =>
      cases d <;> try (cases hf; done)
      · obtain ⟨a, vs, rfl, h1, r1, _⟩ := pk_tup a
        cases hf
        exact ⟨_, _, rfl, .inr h1, fun p hp => RD.newL q he r1 hp⟩
      · obtain ⟨a, vs, rfl, h1, r1⟩ := pk_lst a
        cases hf
        exact ⟨_, _, rfl, .inl (.inl (.inl h1)), fun p hp => RD.newL q he r1 hp⟩
      · obtain ⟨a, vs, rfl, h1, r1⟩ := pk_rol a
        cases hf
        exact ⟨_, _, rfl, .inl h1, fun p hp => RD.newL q he r1 hp⟩
theorem n_tuple : PrimN K tupleF (fun xs H Q => ∃ p ys, xs = [.ref p] ∧ ((SqL K H p ys ∧ ∀ l, H l = none → Q (.ref l) (upd H l (.tup ys))) ∨ (SqT K H p ys ∧ Q (.ref p) H))) := by
  intro T P σ H O env vs ds w Q hK he pk hf q
  subst hK
  cases pk with
  | nil => cases hf
  | @cons v d _ _ a b =>
    cases b with
    | cons _ _ => cases d <;> cases hf
    | nil =>
      cases d <;> try (cases hf; done)
      · obtain ⟨a, vs, rfl, h1, r1, s1⟩ := pk_tup a
        cases hf
        exact ⟨_, _, rfl, .inr ⟨h1, RD.val q he (.tup s1 r1)⟩⟩
      · obtain ⟨a, vs, rfl, h1, r1⟩ := pk_lst a
        cases hf
        exact ⟨_, _, rfl, .inl ⟨.inl (.inl h1), fun p hp => RD.newT q he r1 hp⟩⟩
      · obtain ⟨a, vs, rfl, h1, r1⟩ := pk_rol a
        cases hf
        exact ⟨_, _, rfl, .inl ⟨h1, fun p hp => RD.newT q he r1 hp⟩⟩
theorem n_sum : PrimN K sumF (rSum K) := by
  intro T P σ H O env vs ds w Q hK he pk hf q
  subst hK
  cases pk with
  | nil => cases hf
  | @cons v d _ _ a b =>
    cases b with
    | cons _ _ => cases d <;> cases hf
    | nil =>
      cases d <;> try (cases hf; done)
      rename_i ds
      obtain ⟨a, vs, rfl, h1, r1⟩ := pk_lst a
      have hf : (allInts ds).map (fun ns => (false, D.int ns.sum)) = some w := hf
      cases g : allInts ds with
      | none => rw [g] at hf; cases hf
      | some ns => rw [g] at hf; cases hf; exact ⟨_, ns, rfl, .inl (.inl (by rw [h1, ints_of r1 g])), RD.val q he .int⟩
theorem n_any : PrimN K anyF (rAny K) := by
  intro T P σ H O env vs ds w Q hK he pk hf q
  subst hK
  cases pk with
  | nil => cases hf
  | @cons v d _ _ a b =>
    cases b with
    | cons _ _ => cases d <;> cases hf
    | nil =>
      cases d <;> try (cases hf; done)
      rename_i ds
      obtain ⟨a, vs, rfl, h1, r1⟩ := pk_lst a
      have hf : (allBls ds).map (fun bs => (false, D.bl (bs.any id))) = some w := hf
      cases g : allBls ds with
      | none => rw [g] at hf; cases hf
      | some ns => rw [g] at hf; cases hf; exact ⟨_, ns, rfl, .inl (.inl (by rw [h1, bls_of r1 g])), RD.val q he .bl⟩
theorem n_all : PrimN K allF (rAll K) := by
  intro T P σ H O env vs ds w Q hK he pk hf q
  subst hK
  cases pk with
  | nil => cases hf
  | @cons v d _ _ a b =>
    cases b with
    | cons _ _ => cases d <;> cases hf
    | nil =>
      cases d <;> try (cases hf; done)
      rename_i ds
      obtain ⟨a, vs, rfl, h1, r1⟩ := pk_lst a
      have hf : (allBls ds).map (fun bs => (false, D.bl (bs.all id))) = some w := hf
      cases g : allBls ds with
      | none => rw [g] at hf; cases hf
      | some ns => rw [g] at hf; cases hf; exact ⟨_, ns, rfl, .inl (.inl (by rw [h1, bls_of r1 g])), RD.val q he .bl⟩
theorem n_repr : PrimN K reprF (fun xs H Q => ∃ v d, xs = [v] ∧ Dp K H v d ∧ d.showable = true ∧ d.hasDict = false ∧ d.depth ≤ 60 ∧ d.shown.length ≤ sizeLine ∧ Q (.str d.shown) H) := by
  intro T P σ H O env vs ds w Q hK he pk hf q
  subst hK
  cases pk with
  | nil => cases hf
  | @cons v d _ _ a b =>
    cases b with
    | cons _ _ => cases d <;> cases hf
    | nil =>
      unfold reprF at hf
      simp only at hf
      cases e : toPy d with
      | none => rw [e] at hf; cases hf
      | some x =>
        simp only [e] at hf
        obtain ⟨⟨c1, c2, c3, c4⟩, rfl⟩ := if_some hf
        exact ⟨v, x, rfl, dp_pk a e, c1, c2, c3, c4, RD.val q he .str⟩
theorem g_blt (b : Blt) (hgd : X.A.guards = some []) (hu : X.A.units + 64 < cLine) (hK : X.K = T.K) (hc : X.calm = true) (hg : Gl X (bltName b)) (hm : X.mg (bltName b) = none) (ha : PA X (e :: es) (tDGa T m)) (hst : noStar (e :: es) = true) : PE X (.Call (.Name (bltName b) p) (e :: es) [] pos) (tD T (dPN b.f m)) := by
  cases b with
  | len => exact gp_callB (callR_or call_len_seq call_len_str) (by rw [hK]; exact n_len) hg hm (by decide +kernel) ha (by decide +kernel) (by decide +kernel) hst
  | abs => exact gp_callB call_abs n_abs hg hm (by decide +kernel) ha (by decide +kernel) (by decide +kernel) hst
  | int => exact gp_callTy (callR_or call_int1 call_int_str) n_int hg hm (by decide +kernel) ha (by decide +kernel) (by decide +kernel) hst
  | str => exact gp_callTy (callR_or call_str_int SkE.call_str_str) n_str hg hm (by decide +kernel) ha (by decide +kernel) (by decide +kernel) hst
  | max => exact gp_callB (call_max2 hc) n_max hg hm (by decide +kernel) ha (by decide +kernel) (by decide +kernel) hst
  | min => exact gp_callB (call_min2 hc) n_min hg hm (by decide +kernel) ha (by decide +kernel) (by decide +kernel) hst
  | list => exact gp_callTy call_list_of (by rw [hK]; exact n_list) hg hm (by decide +kernel) ha (by decide +kernel) (by decide +kernel) hst
  | tuple => exact gp_callTy call_tuple_of (by rw [hK]; exact n_tuple) hg hm (by decide +kernel) ha (by decide +kernel) (by decide +kernel) hst
  | sum => exact gp_callB (cr_sum hc) (by rw [hK]; exact n_sum) hg hm (by decide +kernel) ha (by decide +kernel) (by decide +kernel) hst
  | any => exact gp_callB (cr_any hc) (by rw [hK]; exact n_any) hg hm (by decide +kernel) ha (by decide +kernel) (by decide +kernel) hst
  | repr => exact gp_callB (call_reprD hgd hu) (by rw [hK]; exact n_repr) hg hm (by decide +kernel) ha (by decide +kernel) (by decide +kernel) hst
  | all => exact gp_callB (cr_all hc) (by rw [hK]; exact n_all) hg hm (by decide +kernel) ha (by decide +kernel) (by decide +kernel) hst
end
end DL
set_option maxHeartbeats 8000000
/-! DL15: what is walked. -/
namespace DL
open PySem PySem.Spec PyProof.Rows L2

theorem _root_.L2.PI.to {X : Cx} {tg e : Expr} {t t' : TI} (h : PI X tg e t) (i : ∀ σ H R, t' σ H R → t σ H R) : PI X tg e t' := ⟨fun pins s σ H R I q => h.run pins s σ H R I (i σ H R q)⟩
theorem pi_or {X : Cx} {tg e : Expr} {t t' : TI} (h : PI X tg e t) (h' : PI X tg e t') : PI X tg e (fun σ H R => t σ H R ∨ t' σ H R) := ⟨fun pins s σ H R I q => q.elim (h.run pins s σ H R I) (h'.run pins s σ H R I)⟩
def iSt : IDen := fun _ => .st
theorem gi_st {X : Cx} {T : Th} {tg e : Expr} : PI X tg e (tDI T iSt) := ⟨fun _ _ _ _ _ _ ⟨_, _, _, _, h⟩ => h.elim⟩
def signs (z : Str) : List D := z.cps.toList.map fun c => .str ⟨#[c]⟩
def seqOf : D → Option (List D)
  | .lst ds => some ds
  | .rol ds => some ds
  | .tup ds => some ds
  | .str z => some (signs z)
  | _ => none
def iSeq (m : EDen) : IDen := fun env => match m env with
  | .ok w env1 => (match seqOf w.2 with
    | some ds => .ok ds env1
    | none => .st)
  | .ex x e => .ex x e
  | .st => .st
section
variable {C : Cn} {H0 : Hp} {O0 : AS} {a b : Addr} {vs us : List V} {ds es : List D}
theorem walkD_of {J : It} {n : Nat} {G : Hp → Prop} (hn : n = ds.length) (w : Walk J n G (YAt vs)) (hG : ∀ H O, Stp C.P H0 O0 H O → G H) (r : Reps C.K (hid H0 (Un2 O0 C.P)) vs ds) : WalkD C J ds H0 O0 := by
  subst hn
  refine ⟨G, YAt vs, w, hG, fun i H x H' hi y => ?_⟩
  obtain ⟨rfl, hx⟩ := y
  have hd : ds[i]? = some ds[i] := List.getElem?_eq_getElem hi
  refine ⟨.inl rfl, ds[i], hd, fun S _ sm => ?_⟩
  obtain ⟨v, h1, h2⟩ := (r.mono sm).get hd
  rw [hx] at h1
  cases h1
  exact h2
theorem walkD_list (h : SqL C.K (hid H0 (Un2 O0 C.P)) a vs) (r : Reps C.K (hid H0 (Un2 O0 C.P)) vs ds) : WalkD C (Itl C.K a) ds H0 O0 :=
  walkD_of (by exact r.length) (walk_list (K := C.K) (a := a) (xs := vs)) (fun H O st => hid_sqL (st.same.seq h)) r
theorem same_sqT {K : PySem.W.Frag} {H H' : Hp} (e : Same H H') (h : SqT K H a vs) : SqT K H' a vs := by
  rcases h with (h | ⟨o, h⟩) | h
  · exact .inl (.inl (e _ _ h))
  · exact .inl (.inr ⟨o, e _ _ h⟩)
  · exact .inr h
theorem walkD_tup (h : SqT C.K (hid H0 (Un2 O0 C.P)) a vs) (r : Reps C.K (hid H0 (Un2 O0 C.P)) vs ds) : WalkD C (Itt C.K a) ds H0 O0 :=
  walkD_of (by exact r.length) (walk_tup (K := C.K) (a := a) (xs := vs)) (fun H O st => hid_sqT (same_sqT st.same h)) r
theorem walkD_fn {J : It} {n : Nat} {f : Nat → V} {g : Nat → D} (w : Walk J n (fun _ => True) (YFn f)) (hr : ∀ i h, Rep C.K h (f i) (g i)) : WalkD C J ((List.range n).map g) H0 O0 := by
  refine ⟨fun _ => True, YFn f, by simpa using w, fun _ _ _ => trivial, fun i H x H' hi y => ?_⟩
  obtain ⟨rfl, rfl⟩ := y
  have hi' : i < n := by simpa using hi
  exact ⟨.inl rfl, g i, by simp [hi'], fun S _ _ => hr i _⟩
theorem walkD_str {z : Str} : WalkD C (Its z) (signs z) H0 O0 := by
  refine ⟨fun _ => True, _, by simpa [signs] using walk_str (z := z), fun _ _ _ => trivial, fun i H x H' hi y => ?_⟩
  obtain ⟨rfl, c, h1, rfl⟩ := y
  refine ⟨.inl rfl, .str ⟨#[c]⟩, ?_, fun S _ _ => .str⟩
  unfold signs
  rw [List.getElem?_map]
  have : z.cps.toList[i]? = some c := by simpa using h1
  rw [this]
  rfl
/-- pairs, new at each turn -/
theorem walkD_pair {J : It} {n : Nat} {G : Hp → Prop} {f g : Nat → Option V} (w : Walk J n G (YPair f g)) (hG : ∀ H O, Stp C.P H0 O0 H O → G H) (hn : n = min ds.length es.length)
    (hf : ∀ i v, f i = some v → ∀ d, ds[i]? = some d → Rep C.K (hid H0 (Un2 O0 C.P)) v d) (hg : ∀ i v, g i = some v → ∀ d, es[i]? = some d → Rep C.K (hid H0 (Un2 O0 C.P)) v d) : WalkD C J (List.zipWith (fun x y => .tup [x, y]) ds es) H0 O0 := by
  have hl : (List.zipWith (fun x y => D.tup [x, y]) ds es).length = n := by simp [hn]
  refine ⟨G, YPair f g, by rw [hl]; exact w, hG, fun i H v H' hi y => ?_⟩
  obtain ⟨q, x, y', rfl, hq, rfl, h1, h2⟩ := y
  have hi' : i < min ds.length es.length := by omega
  have i1 : i < ds.length := by omega
  have i2 : i < es.length := by omega
  have d1 : ds[i]? = some ds[i] := List.getElem?_eq_getElem i1
  have d2 : es[i]? = some es[i] := List.getElem?_eq_getElem i2
  refine ⟨.inr ⟨q, _, hq, rfl⟩, .tup [ds[i], es[i]], ?_, fun S hS sm => ?_⟩
  · rw [List.getElem?_zipWith, d1, d2]
  · have nq : ¬ S q := fun z => by
      obtain ⟨o, ho⟩ := hS q z
      rw [hq] at ho
      cases ho
    have sm2 : Same (hid H S) (hid (upd H q (.tup [x, y'])) S) := same_new hq
    exact .tup (.inl (.inl (hid_some.mpr ⟨nq, upd_same⟩))) (.cons (((hf i x h1 _ d1).mono sm).mono sm2) (.cons (((hg i y' h2 _ d2).mono sm).mono sm2) .nil))
end
section
variable {X : Cx} {T : Th} {tg e : Expr} {m : EDen}
theorem gi_seq (hK : X.K = T.K) (he : PE X e (tD T m)) : PI X tg e (tDI T (iSeq m)) := (pi_or (pi_list he) (pi_or (pi_tup he) (pi_str he))).to fun σ H R ⟨P, O, env, he, q⟩ => by
  unfold iSeq at q
  cases h : m env with
  | st => simp only [h] at q; exact q.elim
  | ex x e' => simp only [h] at q; exact .inl ⟨P, O, env, he, by rw [h]; exact q⟩
  | ok w env1 =>
    simp only [h] at q
    obtain ⟨b, d⟩ := w
    have frz : ∀ {R' : VK}, (∀ v H' O', Stp P H O H' O' → EnvOk (T.cn P) H' O' σ env1 → Rep T.K (hid H' (Un2 O' P)) v d → R' v H') → tD T m σ H R' := fun {R'} k => ⟨P, O, env, he, by
      rw [h]
      intro v H' O' s' e' r'
      obtain ⟨O2, s2, e2, r2⟩ := r'.frz e'
      exact k v H' O2 (s'.trans s2) e2 r2⟩
    cases d with
    | lst ds =>
      refine .inl (frz fun v H' O' s' e' r' => ?_)
      cases r' with
      | @lst a vs _ ha hr => exact ⟨a, rfl, ⟨vs, .inl (.inl (hid_same _ _ ha))⟩, by rw [hK]; exact q _ H' O' s' e' (walkD_list (C := T.cn P) (.inl (.inl ha)) hr)⟩
    | rol ds =>
      refine .inl (frz fun v H' O' s' e' r' => ?_)
      cases r' with
      | @rol a vs _ ha hr => exact ⟨a, rfl, ⟨vs, by rw [hK]; exact hid_sqL ha⟩, by rw [hK]; exact q _ H' O' s' e' (walkD_list (C := T.cn P) ha hr)⟩
    | tup ds =>
      refine .inr (.inl (frz fun v H' O' s' e' r' => ?_))
      cases r' with
      | @tup a vs _ ha hr => exact ⟨a, rfl, ⟨vs, by rw [hK]; exact hid_sqT ha⟩, by rw [hK]; exact q _ H' O' s' e' (walkD_tup (C := T.cn P) ha hr)⟩
    | str z =>
      refine .inr (.inr (frz fun v H' O' s' e' r' => ?_))
      cases r' with
      | str => exact ⟨z, rfl, q _ H' O' s' e' walkD_str⟩
    | _ => exact q.elim
/-- range(..) -/
def rangeL (lo : Int) (c : Int) (n : Nat) : List D := (List.range n).map fun i => .int (lo + (i : Nat) * c)
def range1F : List D → Option (List D)
  | [.int j] => if -(2 ^ 62) ≤ j ∧ j < 2 ^ 62 then some ((List.range j.toNat).map fun i => .int (0 + (i : Nat))) else none
  | _ => none
def range2F : List D → Option (List D)
  | [.int i, .int j] => if -(2 ^ 62) ≤ i ∧ i < 2 ^ 62 ∧ -(2 ^ 62) ≤ j ∧ j < 2 ^ 62 then some ((List.range (j - i).toNat).map fun k => .int (i + (k : Nat))) else none
  | _ => none
def range3F : List D → Option (List D)
  | [.int i, .int j, .int c] => if c = -1 ∧ -(2 ^ 62) ≤ i ∧ i < 2 ^ 62 ∧ -(2 ^ 62) ≤ j ∧ j < 2 ^ 62 then some ((List.range (i - j).toNat).map fun k => .int (i + (k : Nat) * c)) else none
  | _ => none
def zipF : List D → Option (List D)
  | [.lst xs, .lst ys] => some (List.zipWith (fun x y => .tup [x, y]) xs ys)
  | [.rol xs, .lst ys] => some (List.zipWith (fun x y => .tup [x, y]) xs ys)
  | [.lst xs, .rol ys] => some (List.zipWith (fun x y => .tup [x, y]) xs ys)
  | _ => none
def enumF : List D → Option (List D)
  | [.lst xs] => some (List.zipWith (fun x y => .tup [x, y]) ((List.range xs.length).map fun i => .int (i : Nat)) xs)
  | _ => none
def iArgs (f : List D → Option (List D)) (k : ADen) : IDen := fun env => match k env with
  | .ok as env1 => (match f as with
    | some ds => .ok ds env1
    | none => .st)
  | .ex x e => .ex x e
  | .st => .st
theorem rd_iargs {f : List D → Option (List D)} {k : ADen} {σ : L2.St} {H : Hp} {R : It → Hp → Prop} {R' : List V → Hp → Prop} (q : tDI T (iArgs f k) σ H R)
    (hk : ∀ P vs as ds H1 O1 env1, EnvOk (T.cn P) H1 O1 σ env1 → Reps T.K (hid H1 (Un2 O1 P)) vs as → f as = some ds → (∀ J, WalkD (T.cn P) J ds H1 O1 → R J H1) → R' vs H1) : tDA T k σ H R' := by
  obtain ⟨P, O, env, he, q⟩ := q
  refine ⟨P, O, env, he, ?_⟩
  unfold iArgs at q
  cases h : k env with
  | st => simp only [h] at q; exact q
  | ex x e => simp only [h] at q; exact q
  | ok as env1 =>
    simp only [h] at q
    cases g : f as with
    | none => simp only [g] at q; exact q.elim
    | some ds =>
      simp only [g] at q
      exact fun vs H1 O1 s1 e1 r1 => hk P vs as ds H1 O1 env1 e1 r1 g fun J wd => q J H1 O1 s1 e1 wd
theorem gi_range1 {a : Expr} {k : ADen} {p pos : Pos} (hg : Gl X "range") (hm : X.mg "range" = none) (ha : PA X [a] (tDA T k)) (hst : noStar [a] = true) : PI X tg (.Call (.Name "range" p) [a] [] pos) (tDI T (iArgs range1F k)) :=
  (pi_range1 hg hm ha (starEach_cons hst)).to fun σ H R q => rd_iargs q fun P vs as ds H1 O1 env1 e1 r1 g w => by
    cases r1 with
    | nil => cases g
    | cons a b =>
      cases b with
      | cons _ _ => cases a <;> cases g
      | nil =>
        cases a <;> try (cases g; done)
        obtain ⟨hc, rfl⟩ := if_some g
        exact ⟨_, rfl, hc.1, hc.2, w _ (walkD_fn (C := T.cn P) walk_range fun i h => .int)⟩
theorem gi_range2 {a b : Expr} {k : ADen} {p pos : Pos} (hg : Gl X "range") (hm : X.mg "range" = none) (ha : PA X [a, b] (tDA T k)) (hst : noStar [a, b] = true) : PI X tg (.Call (.Name "range" p) [a, b] [] pos) (tDI T (iArgs range2F k)) :=
  (pi_range2 hg hm ha (starEach_plain hst) (starEach_plain (noStar_tail hst))).to fun σ H R q => rd_iargs q fun P vs as ds H1 O1 env1 e1 r1 g w => by
    cases r1 with
    | nil => cases g
    | cons a b =>
      cases b with
      | nil => cases a <;> cases g
      | cons a2 b2 =>
        cases b2 with
        | cons _ _ => cases a <;> cases a2 <;> cases g
        | nil =>
          cases a <;> cases a2 <;> try (cases g; done)
          obtain ⟨hc, rfl⟩ := if_some g
          exact ⟨_, _, rfl, hc, w _ (walkD_fn (C := T.cn P) walk_range fun i h => .int)⟩
theorem gi_range3 {a b c : Expr} {k : ADen} {p pos : Pos} (hg : Gl X "range") (hm : X.mg "range" = none) (ha : PA X [a, b, c] (tDA T k)) (hst : noStar [a, b, c] = true) : PI X tg (.Call (.Name "range" p) [a, b, c] [] pos) (tDI T (iArgs range3F k)) :=
  (pi_range3 hg hm ha (starEach_cons hst) (any_plain (noStar_tail hst))).to fun σ H R q => rd_iargs q fun P vs as ds H1 O1 env1 e1 r1 g w => by
    cases r1 with
    | nil => cases g
    | cons a b =>
      cases b with
      | nil => cases a <;> cases g
      | cons a2 b2 =>
        cases b2 with
        | nil => cases a <;> cases a2 <;> cases g
        | cons a3 b3 =>
          cases b3 with
          | cons _ _ => cases a <;> cases a2 <;> cases a3 <;> cases g
          | nil =>
            cases a <;> cases a2 <;> cases a3 <;> try (cases g; done)
            obtain ⟨⟨rfl, hc1, hc2, hc3, hc4⟩, rfl⟩ := if_some g
            exact ⟨_, _, _, _, rfl, RgC.neg hc1 hc2 hc3 hc4, w _ (walkD_fn (C := T.cn P) walk_rangeC fun i h => .int)⟩
theorem zip_ok {P : AS} {H1 : Hp} {O1 : AS} {a b : Addr} {vs us : List V} {xs ys : List D} (h1 : SqL T.K (hid H1 (Un2 O1 P)) a vs) (r1 : Reps T.K (hid H1 (Un2 O1 P)) vs xs) (h2 : SqL T.K (hid H1 (Un2 O1 P)) b us) (r2 : Reps T.K (hid H1 (Un2 O1 P)) us ys) :
    WalkD (T.cn P) (Itz T.K a b) (List.zipWith (fun x y => .tup [x, y]) xs ys) H1 O1 := by
  refine walkD_pair (C := T.cn P) (walk_zip (K := T.K) (a := a) (b := b) (xs := vs) (ys := us) rfl) (fun H O st => ⟨hid_sqL (st.same.seq h1), hid_sqL (st.same.seq h2)⟩) (by rw [r1.length, r2.length]) (fun i v hv d hd => ?_) (fun i v hv d hd => ?_)
  · obtain ⟨u, g1, g2⟩ := r1.get hd
    rw [hv] at g1
    cases g1
    exact g2
  · obtain ⟨u, g1, g2⟩ := r2.get hd
    rw [hv] at g1
    cases g1
    exact g2
theorem gi_zip {a b : Expr} {elts : List Expr} {kk : Nat} {tpos : Pos} {k : ADen} {p pos : Pos} (hK : X.K = T.K) (hg : Gl X "zip") (hm : X.mg "zip" = none) (ha : PA X [a, b] (tDA T k)) (hst : noStar [a, b] = true) : PI X (.Tuple elts kk tpos) (.Call (.Name "zip" p) [a, b] [] pos) (tDI T (iArgs zipF k)) :=
  (pi_zip hg hm ha (starEach_cons hst) (any_plain (noStar_tail hst))).to fun σ H R q => rd_iargs q fun P vs as ds H1 O1 env1 e1 r1 g w => by
    rw [hK]
    cases r1 with
    | nil => cases g
    | cons a b =>
      cases b with
      | nil => cases a <;> cases g
      | cons a2 b2 =>
        cases b2 with
        | cons _ _ => cases a <;> cases a2 <;> cases g
        | nil =>
          cases a <;> try (cases a2 <;> cases g; done)
          · rename_i a vs xs h1 r1
            cases a2 <;> try (cases g; done)
            · rename_i b us ys h2 r2
              cases g
              exact ⟨_, _, _, _, rfl, .inl (.inl (hid_same _ _ h1)), .inl (.inl (hid_same _ _ h2)), w _ (zip_ok (.inl (.inl h1)) r1 (.inl (.inl h2)) r2)⟩
            · rename_i b us ys h2 r2
              cases g
              exact ⟨_, _, _, _, rfl, .inl (.inl (hid_same _ _ h1)), hid_sqL h2, w _ (zip_ok (.inl (.inl h1)) r1 h2 r2)⟩
          · rename_i a vs xs h1 r1
            cases a2 <;> try (cases g; done)
            rename_i b us ys h2 r2
            cases g
            exact ⟨_, _, _, _, rfl, hid_sqL h1, .inl (.inl (hid_same _ _ h2)), w _ (zip_ok h1 r1 (.inl (.inl h2)) r2)⟩
theorem gi_enum {a : Expr} {elts : List Expr} {kk : Nat} {tpos : Pos} {k : ADen} {p pos : Pos} (hK : X.K = T.K) (hg : Gl X "enumerate") (hm : X.mg "enumerate" = none) (ha : PA X [a] (tDA T k)) (hst : noStar [a] = true) : PI X (.Tuple elts kk tpos) (.Call (.Name "enumerate" p) [a] [] pos) (tDI T (iArgs enumF k)) :=
  (pi_enum hg hm ha (starEach_cons hst)).to fun σ H R q => rd_iargs q fun P vs as ds H1 O1 env1 e1 r1 g w => by
    rw [hK]
    cases r1 with
    | nil => cases g
    | cons a b =>
      cases b with
      | cons _ _ => cases a <;> cases g
      | nil =>
        cases a <;> try (cases g; done)
        rename_i a vs xs h1 r1
        cases g
        refine ⟨_, _, rfl, .inl (.inl (hid_same _ _ h1)), w _ ?_⟩
        refine walkD_pair (C := T.cn P) (walk_enum (K := T.K) (a := a) (xs := vs)) (fun H O st => hid_sqL (st.same.seq (.inl (.inl h1)))) (by simp [r1.length]) (fun i v hv d hd => ?_) (fun i v hv d hd => ?_)
        · cases hv
          rw [List.getElem?_map] at hd
          cases hr : (List.range xs.length)[i]? with
          | none => rw [hr] at hd; cases hd
          | some j =>
            rw [hr] at hd
            cases hd
            have : j = i := by
              obtain ⟨h3, h4⟩ := List.getElem?_eq_some_iff.mp hr
              rw [List.getElem_range] at h4
              exact h4.symm
            rw [this]
            exact .int
        · obtain ⟨u, g1, g2⟩ := r1.get hd
          rw [hv] at g1
          cases g1
          exact g2
end
end DL
set_option maxHeartbeats 8000000
/-! DL15b: isinstance, f-strings, methods of texts. -/
namespace DL
open PySem PySem.Spec PyProof.Rows L2

/-! ### isinstance -/
inductive CRef where
  | ty (n : String) | own (c : Str)
  deriving DecidableEq
def CRef.v (K : PySem.W.Frag) : CRef → V
  | .ty n => .ty n
  | .own c => .ref (He.ga K c)
def CRef.u (K : PySem.W.Frag) : CRef → Value
  | .ty n => .type n
  | .own c => .ref (He.ga K c)
theorem CRef.clsV (K : PySem.W.Frag) : ∀ c : CRef, ClsV (c.v K) (c.u K)
  | .ty n => .ty n
  | .own c => .own _
theorem CRef.all (K : PySem.W.Frag) : ∀ cs : List CRef, Paired ClsV (cs.map (CRef.v K)) (cs.map (CRef.u K))
  | [] => .nil
  | c :: cs => .cons (c.clsV K) (CRef.all K cs)
def tyD : D → CRef
  | .non => .ty "NoneType"
  | .bl _ => .ty "bool"
  | .int _ => .ty "int"
  | .str _ => .ty "str"
  | .tup _ => .ty "tuple"
  | .lst _ => .ty "list"
  | .rol _ => .ty "list"
  | .obj c _ => .own c
def anyC (tab : CRef → CRef → Option Bool) (t : CRef) : List CRef → Option Bool
  | [] => some false
  | c :: r => match tab t c with
    | some true => some true
    | some false => anyC tab t r
    | none => none
theorem anyC_ok {K : PySem.W.Frag} {tab : CRef → CRef → Option Bool} (ht : ∀ a c b, tab a c = some b → PySem.W.kitOne K (a.u K) (c.u K) = some b) {t : CRef} : ∀ {cs : List CRef} {b : Bool}, anyC tab t cs = some b → PySem.W.kitAny K (t.u K) (cs.map (CRef.u K)) = some b
  | [], b, h => by cases h; rfl
  | c :: r, b, h => by
    unfold anyC at h
    cases e : tab t c with
    | none => rw [e] at h; cases h
    | some x =>
      rw [e] at h
      cases x with
      | true =>
        cases h
        exact kitAny_cons (ht _ _ _ e) (fun z => nomatch z) fun _ => rfl
      | false => exact kitAny_cons (ht _ _ _ e) (fun _ => anyC_ok ht h) fun z => nomatch z
/-- built-in types among themselves -/
def ktys : List String := ["NoneType", "bool", "int", "str", "tuple", "list", "dict"]
def isiB (a b : String) : Option Bool := if ktys.contains a && ktys.contains b then some (a == b || (a == "bool" && b == "int")) else none
theorem isiB_all : (ktys.all fun a => ktys.all fun b => decide (kitB a b = isiB a b)) = true := by decide +kernel
theorem isiB_ok {K : PySem.W.Frag} {a b : String} {r : Bool} (h : isiB a b = some r) : PySem.W.kitOne K (.type a) (.type b) = some r := by
  have h0 := h
  unfold isiB at h
  by_cases hc : (ktys.contains a && ktys.contains b) = true
  · rw [Bool.and_eq_true] at hc
    have h1 := List.all_eq_true.mp isiB_all a (by simpa using hc.1)
    have h2 := of_decide_eq_true (List.all_eq_true.mp h1 b (by simpa using hc.2))
    exact kit_ty (h2.trans h0)
  · rw [if_neg hc] at h
    cases h
def isiT (l : List (CRef × CRef × Bool)) (a b : CRef) : Option Bool := match a, b with
  | .ty x, .ty y => isiB x y
  | _, _ => (l.find? fun p => decide (p.1 = a) && decide (p.2.1 = b)).map (·.2.2)
/-- what instances must have -/
structure TyC (K : PySem.W.Frag) (C : Addr) : Prop where
  cl : Cls K C
  ha : PySem.W.findIn K (.ref C) "__class__" = some (some (.builtin "object.__class__"))
  hn : PySem.W.specialIn K (.builtin "object.__class__") "__get__" = some (some (.builtin "getset_descriptor.__get__"))
  ht : PySem.W.takesIn K (.builtin "object.__class__") = some true
  hm : PySem.W.mroIn K C (.type "object") = some true
def okTy (tys : Str → Bool) : D → Bool
  | .obj c _ => tys c
  | _ => true
def isiF (tab : CRef → CRef → Option Bool) (tys : Str → Bool) (cs : List CRef) (d : D) : Option W := if okTy tys d then (anyC tab (tyD d) cs).map fun b => (false, .bl b) else none
section
variable {K : PySem.W.Frag} {H h : Hp} {S : AS}
theorem tyx_of {tys : Str → Bool} (hty : ∀ c, tys c = true → TyC K (He.ga K c)) {v : V} {d : D} (p : Pk K H (hid H S) v d) (hk : okTy tys d = true) : TyX K H v ((tyD d).u K) := by
  cases d with
  | non => cases p with | fz r => cases r; exact .base .non | sh s => cases s
  | bl b => cases p with | fz r => cases r; exact .base (.bl b) | sh s => cases s
  | int i => cases pk_int p; exact .base (.int i)
  | str x => cases pk_str p; exact .base (.str x)
  | tup ds =>
    obtain ⟨a, vs, rfl, q, _, _⟩ := pk_tup p
    rcases q with (q | ⟨o, q⟩) | ⟨o, its, n, q1, q2, _⟩
    · exact .base (.tup q)
    · exact .fTuple q
    · exact .kTuple q1 q2
  | lst ds =>
    obtain ⟨a, vs, rfl, q, _⟩ := pk_lst p
    exact .base (.lst q)
  | rol ds =>
    obtain ⟨a, vs, rfl, q, _⟩ := pk_rol p
    rcases q with (q | ⟨o, q⟩) | ⟨o, its, n, q1, q2, _⟩
    · exact .base (.lst q)
    · exact .base (.frz q)
    · exact .kList q1 q2
  | obj c fs =>
    have t := hty c hk
    have main : ∀ {a dx : Addr} {vs : List (Str × V)}, v = .ref a → H a = some (.ins (He.ga K c) dx vs) → TyX K H v (.ref (He.ga K c)) := fun {a dx vs} e q => by
      subst e
      exact .base (.ins q t.cl t.ha t.hn t.ht t.hm)
    cases p with
    | fz r =>
      cases r with
      | obj q _ => exact main rfl (hid_same _ _ q)
    | sh s =>
      cases s with
      | obj q _ => exact main rfl q
end
theorem prim_isi {K : PySem.W.Frag} {tab : CRef → CRef → Option Bool} {tys : Str → Bool} {c : CRef} (ht : ∀ a c b, tab a c = some b → PySem.W.kitOne K (a.u K) (c.u K) = some b) (hty : ∀ c, tys c = true → TyC K (He.ga K c)) : Prim1 K (isiF tab tys [c]) (fun x H Q => rIsi K [x, c.v K] H Q) := by
  intro T' P σ H O env v1 d1 w Q hK' he pk hf q
  subst hK'
  unfold isiF at hf
  by_cases hk : okTy tys d1 = true
  · rw [if_pos hk] at hf
    cases hb : anyC tab (tyD d1) [c] with
    | none => rw [hb] at hf; cases hf
    | some b =>
      rw [hb] at hf
      cases hf
      refine ⟨v1, _, (tyD d1).u T'.K, c.u T'.K, b, rfl, c.clsV _, tyx_of hty pk hk, ?_, RD.val q he .bl⟩
      unfold anyC at hb
      cases e : tab (tyD d1) c with
      | none => rw [e] at hb; cases hb
      | some x =>
        rw [e] at hb
        cases x with
        | true => cases hb; exact ht _ _ _ e
        | false => cases hb; exact ht _ _ _ e
  · rw [if_neg hk] at hf
    cases hf
theorem prim_isiT {K : PySem.W.Frag} {tab : CRef → CRef → Option Bool} {tys : Str → Bool} {cs : List CRef} (ht : ∀ a c b, tab a c = some b → PySem.W.kitOne K (a.u K) (c.u K) = some b) (hty : ∀ c, tys c = true → TyC K (He.ga K c)) (hl : cs.length ≤ 100) : Prim1 K (isiF tab tys cs) (fun x H Q => (cs.map (CRef.v K)).length ≤ sizeLine ∧ ∀ p, H p = none → rIsiT K [x, .ref p] (upd H p (.tup (cs.map (CRef.v K)))) Q) := by
  intro T' P σ H O env v1 d1 w Q hK' he pk hf q
  subst hK'
  unfold isiF at hf
  refine ⟨by rw [List.length_map, sizeLine_eq]; omega, fun p hp => ?_⟩
  by_cases hk : okTy tys d1 = true
  · rw [if_pos hk] at hf
    cases hb : anyC tab (tyD d1) cs with
    | none => rw [hb] at hf; cases hf
    | some b =>
      rw [hb] at hf
      cases hf
      have ty : TyX T'.K (upd H p (.tup (cs.map (CRef.v T'.K)))) v1 ((tyD d1).u T'.K) := by
        have t0 := tyx_of hty pk hk
        revert t0
        generalize (tyD d1).u T'.K = tv
        intro t0
        cases t0 with
        | base b =>
          cases b with
          | lst e => exact .base (.lst (by rw [upd_ne (ne_of_none e hp)]; exact e))
          | frz e => exact .base (.frz (by rw [upd_ne (ne_of_none e hp)]; exact e))
          | tup e => exact .base (.tup (by rw [upd_ne (ne_of_none e hp)]; exact e))
          | dK e => exact .base (.dK (by rw [upd_ne (ne_of_none e hp)]; exact e))
          | dT e => exact .base (.dT (by rw [upd_ne (ne_of_none e hp)]; exact e))
          | ins e a1 a2 a3 a4 a5 => exact .base (.ins (by rw [upd_ne (ne_of_none e hp)]; exact e) a1 a2 a3 a4 a5)
          | non => exact .base .non
          | bl x => exact .base (.bl x)
          | int x => exact .base (.int x)
          | str x => exact .base (.str x)
          | flt x => exact .base (.flt x)
        | byt x => exact .byt x
        | set e => exact .set (by rw [upd_ne (ne_of_none e hp)]; exact e)
        | kList e c => exact .kList e c
        | kTuple e c => exact .kTuple e c
        | kDict e c => exact .kDict e c
        | fTuple e => exact .fTuple (by rw [upd_ne (ne_of_none e hp)]; exact e)
        | fDict e => exact .fDict (by rw [upd_ne (ne_of_none e hp)]; exact e)
      exact ⟨v1, p, cs.map (CRef.v T'.K), _, cs.map (CRef.u T'.K), b, rfl, upd_same, CRef.all _ cs, ty, anyC_ok ht hb, q _ _ O (stp_new hp) (he.new hp) Rep.bl⟩
  · rw [if_neg hk] at hf
    cases hf
section
variable {X : Cx} {T : Th} {e ce : Expr} {ma : Opd} {p pos : Pos} {tab : CRef → CRef → Option Bool} {tys : Str → Bool}
theorem boot_isi : bootBuiltins ("isinstance" : Str) = some (.builtin "isinstance") := by decide +kernel
theorem g_isi {c : CRef} (hK : X.K = T.K) (ht : ∀ a c b, tab a c = some b → PySem.W.kitOne T.K (a.u T.K) (c.u T.K) = some b) (hty : ∀ c, tys c = true → TyC T.K (He.ga T.K c)) (hg : Gl X "isinstance") (hm : X.mg "isinstance" = none)
    (ha : PE X e (tOpd T ma)) (hc : PE X ce (tC (c.v T.K))) (hst : noStar [e, ce] = true) : PE X (.Call (.Name "isinstance" p) [e, ce] [] pos) (tD T (dP1 (isiF tab tys [c]) ma)) := by
  refine (pe_callB call_isi hg hm boot_isi (pa_cons ha (pa_cons hc pa_nil (starEach_cons (noStar_tail hst))) (starEach_cons hst)) (by decide) (by decide) (starEach_cons hst) (any_plain (noStar_tail hst))).to fun σ H Q q => ?_
  have prim := prim_isi (c := c) ht hty
  have := rd_p1 prim q
  rw [← hK] at this ⊢
  exact this
/-- a tuple of classes -/
inductive CEs (X : Cx) (K : PySem.W.Frag) : List Expr → List CRef → Prop
  | nil : CEs X K [] []
  | cons {e : Expr} {c : CRef} {es : List Expr} {cs : List CRef} : PE X e (tC (c.v K)) → CEs X K es cs → CEs X K (e :: es) (c :: cs)
theorem CEs.pa {X : Cx} {K : PySem.W.Frag} : ∀ {es : List Expr} {cs : List CRef}, CEs X K es cs → noStar es = true → PA X es (fun σ H Q => Q (cs.map (CRef.v K)) H)
  | _, _, .nil, _ => pa_nil
  | _, _, .cons a b, h => pa_cons a (b.pa (noStar_tail h)) (starEach_cons h)
theorem g_isiT {es : List Expr} {cs : List CRef} {k : Nat} {tp : Pos} (hK : X.K = T.K) (ht : ∀ a c b, tab a c = some b → PySem.W.kitOne T.K (a.u T.K) (c.u T.K) = some b) (hty : ∀ c, tys c = true → TyC T.K (He.ga T.K c)) (hg : Gl X "isinstance") (hm : X.mg "isinstance" = none)
    (ha : PE X e (tOpd T ma)) (hc : CEs X T.K es cs) (hse : noStar es = true) (hl : cs.length ≤ 100) (hst : noStar [e, .Tuple es k tp] = true) : PE X (.Call (.Name "isinstance" p) [e, .Tuple es k tp] [] pos) (tD T (dP1 (isiF tab tys cs) ma)) := by
  refine (pe_callB call_isiT hg hm boot_isi (pa_cons ha (pa_cons (pe_tup (hc.pa hse)) pa_nil (starEach_cons (noStar_tail hst))) (starEach_cons hst)) (by decide) (by decide) (starEach_cons hst) (any_plain (noStar_tail hst))).to fun σ H Q q => ?_
  have prim := prim_isiT (cs := cs) ht hty hl
  have := rd_p1 prim q
  rw [← hK] at this ⊢
  exact this
end

/-! ### f-strings -/
def fmtF : D → Option W
  | .str y => if y.length ≤ sizeLine then some (false, .str y) else none
  | .int i => if i.natAbs.log2 < 1920 then some (false, .str (toString i)) else none
  | _ => none
def dFmt (m : EDen) : EDen := bindE m fun d env => retO (fmtF d) env
def joinGo : List EDen → Str → EDen
  | [], acc => fun env => .ok (false, .str acc) env
  | m :: ms, acc => bindE m fun d => match d with
    | .str y => if (acc ++ y).length ≤ sizeLine then joinGo ms (acc ++ y) else dSt
    | _ => dSt
inductive PEs (X : Cx) (T : Th) : List Expr → List EDen → Prop
  | nil : PEs X T [] []
  | cons {e : Expr} {m : EDen} {es : List Expr} {ms : List EDen} : PE X e (tD T m) → PEs X T es ms → PEs X T (e :: es) (m :: ms)
section
variable {X : Cx} {T : Th} {e : Expr} {m : EDen} {pos : Pos}
theorem g_fmt (he : PE X e (tD T m)) : PE X (.FormattedValue e (-1) none pos) (tD T (dFmt m)) := (pe_fmt he).to fun σ H Q ⟨P, O, env, hen, q⟩ => by
  refine rd_bind hen q fun v H1 O1 env1 d s1 e1 r1 q1 => ?_
  unfold retO at q1
  cases r1 with
  | @str y =>
    cases hf : fmtF (.str y) with
    | none => rw [hf] at q1; exact q1.elim
    | some w =>
      rw [hf] at q1
      have hf : (if y.length ≤ sizeLine then some (false, D.str y) else none) = some w := hf
      obtain ⟨hc, rfl⟩ := if_some hf
      exact .inl ⟨y, rfl, hc, RD.val q1 e1 .str⟩
  | @int i =>
    cases hf : fmtF (.int i) with
    | none => rw [hf] at q1; exact q1.elim
    | some w =>
      rw [hf] at q1
      have hf : (if i.natAbs.log2 < 1920 then some (false, D.str (toString i)) else none) = some w := hf
      obtain ⟨hc, rfl⟩ := if_some hf
      exact .inr ⟨i, rfl, hc, RD.val q1 e1 .str⟩
  | _ => exact q1.elim
theorem pj_of : ∀ {es : List Expr} {ms : List EDen}, PEs X T es ms → PJ X es (ms.map (tD T))
  | _, _, .nil => .nil
  | _, _, .cons a b => .cons a (pj_of b)
theorem tjs_of : ∀ {ms : List EDen} {acc : Str} {P : AS} {σ : L2.St} {H : Hp} {O : AS} {env : SEnv} {Q : VK}, EnvOk (T.cn P) H O σ env → RD T P σ H O Q (joinGo ms acc env) → tJs (ms.map (tD T)) acc σ H fun out H1 => Q (.str out) H1
  | [], acc, P, σ, H, O, env, Q, he, q => RD.val q he .str
  | m :: ms, acc, P, σ, H, O, env, Q, he, q => by
    refine rd_bind he q fun v H1 O1 env1 d s1 e1 r1 q1 => ?_
    cases r1 with
    | @str y =>
      by_cases hc : (acc ++ y).length ≤ sizeLine
      · simp only [if_pos hc] at q1
        exact ⟨y, rfl, hc, tjs_of e1 q1⟩
      · simp only [if_neg hc] at q1
        exact q1.elim
    | _ => exact q1.elim
theorem g_joined {v1 v2 : Expr} {rest : List Expr} {ms : List EDen} (h : PEs X T (v1 :: v2 :: rest) ms) : PE X (.JoinedStr (v1 :: v2 :: rest) pos) (tD T (joinGo ms Str.empty)) := (pe_joined (pj_of h)).to fun σ H Q ⟨P, O, env, he, q⟩ => tjs_of he q
theorem g_joined1 (he : PE X e (tD T m)) : PE X (.JoinedStr [e] pos) (tD T m) := pe_joined1 he
end
end DL
set_option maxHeartbeats 8000000
/-! DL15c: special methods of own classes: str(x). -/
namespace DL
open PySem PySem.Spec PyProof.Rows L2

/-- the own special method of x, at the values ds behind it -/
def dSp (tab : MTab) (post : D → Option W) (d : D) (ds : List D) : EDen := fun env => match d with
  | .obj c _ => (match tab c with
    | some ([], f) => (match f ((false, d) :: ds.map fun d => (false, d)) with
      | .ret w [] => retO (post w.2) env
      | .ex x [] => .ex x env
      | _ => .st)
    | _ => .st)
  | _ => .st
theorem lends_vals : ∀ ds : List D, lends (ds.map Arg.val) = []
  | [] => rfl
  | _ :: r => lends_vals r
theorem argsD_vals {env : SEnv} : ∀ ds : List D, argsD env (ds.map Arg.val) = some (ds.map fun d => (false, d))
  | [] => rfl
  | d :: r => by
    show (match argD env (.val d), argsD env (r.map Arg.val) with
      | some x, some xs => some (x :: xs)
      | _, _ => none) = _
    rw [argsD_vals r]
    rfl
section
variable {X : Cx} {T : Th} {P : AS} {σ : L2.St} {H : Hp} {O : AS} {env : SEnv} {Q : VK}
/-- the promise that such a call needs -/
theorem sp_own {n np : Nat} {o : List FArg → FOut} {post : D → Option W} {vs : List V} {ds : List D} (hnp : np ≤ n) (ho0 : ∀ ds, ds.length ≠ np → o ds = .st) (he : EnvOk (T.cn P) H O σ env) (rs : Reps T.K (hid H (Un2 O P)) vs ds)
    (q : RD T P σ H O Q (match o (ds.map fun d => (false, d)) with
      | .ret w [] => retO (post w.2) env
      | .ex x [] => .ex x env
      | _ => .st)) : spD T.K n np o vs H (fun v H1 => ∃ O1 d, Stp P H O H1 O1 ∧ EnvOk (T.cn P) H1 O1 σ env ∧ Rep T.K (hid H1 (Un2 O1 P)) v d ∧ RD T P σ H1 O1 Q (retO (post d) env)) (fun cls dd H' => T.W cls dd σ H') := by
  refine call_sp (as := ds.map Arg.val) he (ArgsRel.vals rs) hnp ho0 ?_
  rw [lends_vals, if_pos List.nodup_nil, argsD_vals]
  show RD T P σ H O _ (match o (ds.map fun d => (false, d)) with
    | .ret w ios => .ok w (putIos [] ios env)
    | .ex x ios => .ex x (putIos [] ios env)
    | .st => .st)
  cases h : o (ds.map fun d => (false, d)) with
  | ret w ios =>
    rw [h] at q
    cases ios with
    | nil =>
      intro v H' O' s' e' r'
      obtain ⟨O2, s2, e2, r2⟩ := r'.frz e'
      exact ⟨O2, w.2, s'.trans s2, e2, r2, RD.step q (s'.trans s2)⟩
    | cons _ _ => exact q.elim
  | ex x ios =>
    rw [h] at q
    cases ios with
    | nil => exact q
    | cons _ _ => exact q.elim
  | st => rw [h] at q; exact q.elim
end
/-! ### str(x) -/
def postStr : D → Option W
  | .str y => some (false, .str y)
  | _ => none
def dStr (tab : MTab) (m : EDen) : EDen := bindE m fun d => match d with
  | .obj c fs => dSp tab postStr (.obj c fs) []
  | d => fun env => retO (strF [d]) env
section
variable {X : Cx} {T : Th} {e : Expr} {m : EDen} {tab : MTab} {p pos : Pos}
theorem boot_str : bootBuiltins ("str" : Str) = some (.type "str") := by decide +kernel
theorem g_str (hK : X.K = T.K) (hm : ∀ c dds f, tab c = some (dds, f) → MOk X T c "__str__" dds f) (tk : Takes X T.W) (hg : Gl X "str") (hmg : X.mg "str" = none) (he : PE X e (tD T m)) (hst : noStar [e] = true) : PE X (.Call (.Name "str" p) [e] [] pos) (tD T (dStr tab m)) := by
  refine ⟨fun pins s σ H Q I h => ?_⟩
  refine wpAny_Call_Name_kw (ld_blt I hg hmg boot_str ?_ (by decide) (by decide))
  have h1 : PA X [e] (tCons (tD T m) tNil) := pa_cons he pa_nil (starEach_cons hst)
  obtain ⟨P, O, env, hen, q⟩ := h
  have rd : tD T m σ H (fun v H1 => ∃ O1 env1 d, Stp P H O H1 O1 ∧ EnvOk (T.cn P) H1 O1 σ env1 ∧ Rep T.K (hid H1 (Un2 O1 P)) v d ∧ RD T P σ H1 O1 Q ((match d with
    | .obj c fs => dSp tab postStr (.obj c fs) []
    | d => fun env => retO (strF [d]) env : EDen) env1)) := rd_bind hen q fun v H1 O1 env1 d s1 e1 r1 q1 => ⟨O1, env1, d, s1, e1, r1, q1⟩
  refine PyProof.Rows.callWith_type1 (thn (h1.run pos pins s σ H (fun vs H1 => ∃ v O1 env1 d, vs = [v] ∧ Stp P H O H1 O1 ∧ EnvOk (T.cn P) H1 O1 σ env1 ∧ Rep T.K (hid H1 (Un2 O1 P)) v d ∧ RD T P σ H1 O1 Q ((match d with
    | .obj c fs => dSp tab postStr (.obj c fs) []
    | d => fun env => retO (strF [d]) env : EDen) env1)) I ?_) fun us s1 ⟨vs, H1, I1, r1, v, O1, env1, d, ev, st1, e1, rep, q1⟩ => ?_) (starEach_cons hst) (any_plain (noStar_tail hst))
  · obtain ⟨P', O', env', he', q'⟩ := rd
    refine ⟨P', O', env', he', ?_⟩
    cases h : m env' with
    | ok w env1 =>
      rw [h] at q'
      exact fun v H' O'' s' e' r' => by
        obtain ⟨a, b, c, x⟩ := q' v H' O'' s' e' r'
        exact ⟨v, a, b, c, rfl, x⟩
    | ex x env1 => rw [h] at q'; exact q'
    | st => rw [h] at q'; exact q'
  subst ev
  obtain ⟨u, eu, rv⟩ : ∃ u, us = [u] ∧ RelV v u := by
    cases r1 with
    | cons rv rn =>
      cases rn
      exact ⟨_, rfl, rv⟩
  subst eu
  have plain : ∀ d, Rep T.K (hid H1 (Un2 O1 P)) v d → RD T P σ H1 O1 Q (retO (strF [d]) env1) → wpAny (model X.prog X.w) X.A (call (.type "str") [u]) (EP X pins σ Q) X.xe s1 := fun d rep q1 => by
    refine (callR_or call_str_int SkE.call_str_str) pins s1 σ H1 [v] [u] Q I1 (.cons rv .nil) ?_
    unfold retO at q1
    cases hf : strF [d] with
    | none => rw [hf] at q1; exact q1.elim
    | some w =>
      rw [hf] at q1
      exact n_str T P σ H1 O1 env1 [v] [d] w Q rfl e1 (.cons (.fz rep) .nil) hf q1
  cases d with
  | obj c dfs =>
    cases rep with
    | @obj a dx _ fs _ ha hf =>
      obtain rfl : u = Value.ref a := rv
      have ea : H1 a = some (.ins (He.ga T.K c) dx fs) := hid_same _ _ ha
      have rep : Rep T.K (hid H1 (Un2 O1 P)) (.ref a) (.obj c dfs) := .obj ha hf
      have q1 : RD T P σ H1 O1 Q (match tab c with
        | some ([], f) => (match f ((false, D.obj c dfs) :: ([] : List D).map fun d => (false, d)) with
          | .ret w [] => retO (postStr w.2) env1
          | .ex x [] => .ex x env1
          | _ => .st)
        | _ => .st) := q1
      cases htab : tab c with
      | none => rw [htab] at q1; exact q1.elim
      | some z =>
        obtain ⟨dds, o'⟩ := z
        rw [htab] at q1
        cases dds with
        | cons _ _ => exact q1.elim
        | nil =>
          obtain ⟨cl, k, f, fd, ps, n, np, dvs, ds, hme, F, hr, hb, hd, hdv, hnp, ho0⟩ := hm c [] o' htab
          have hdv0 : dvs = [] := by
            have := (hdv H1).length
            exact List.length_eq_zero_iff.mp (by simpa using this)
          subst hdv0
          obtain ⟨mA, Ob, _⟩ := ins_get I1.hok ea
          obtain ⟨od, J, _⟩ := Ob.look
          have sp := sp_own (post := postStr) (vs := [.ref a]) (ds := [.obj c dfs]) hnp ho0 e1 (.cons rep .nil) q1
          refine PySem.W.kso_call (f := f) (C := He.ga T.K c) hr.in1.in1.units0 I1.kIn J hme.at_ hme.fn ?_
          refine thn (own_run (vs := [.ref a]) (us := [.ref a]) (E := WE T.W σ) ⟨hr.in1.in1.mono (by omega), rfl⟩ F hb hd (passAt tk σ) I1 (.cons rfl .nil) sp) fun v s2 hv => ?_
          obtain ⟨v', H2, I2, rv2, O2, d2, st2, e2, rep2, q2⟩ := hv
          unfold retO at q2
          cases rep2 with
          | @str y =>
            obtain ⟨t, rfl⟩ := rv2
            exact ⟨.str y, H2, I2, ⟨t, rfl⟩, RD.val q2 e2 .str⟩
          | _ => exact q2.elim
  | non => exact plain _ rep q1
  | bl b => exact plain _ rep q1
  | int i => exact plain _ rep q1
  | str y => exact plain _ rep q1
  | tup ds => exact plain _ rep q1
  | lst ds => exact plain _ rep q1
  | rol ds => exact plain _ rep q1
end
end DL
set_option maxHeartbeats 8000000
/-! DL15d: raise of an own exception. -/
namespace DL
open PySem PySem.Spec PyProof.Rows L2

/-- what the init of such an exception promises -/
def spX (D : Addr) (f : Str) : Sp := fun vs H Q _ => ∃ (a : Addr) (v : V), vs = [.ref a, v] ∧ H a = some (exo a D none) ∧ ∀ dx, H dx = none → dx ≠ a → Q .non (upd (upd H dx (exd dx [(f, v)])) a (exo a D (some dx)))
/-! ### raise -/
def sRaise (c f : Str) (m : EDen) : SDen := bindS m fun w env => .ex ⟨c, [(f, w.2)]⟩ env
structure XFact (X : Cx) (T : Th) (x f : Str) : Prop where
  oex : OexC X.K (He.ga T.K x)
  mg : X.mg x = some (.ref (He.ga T.K x))
  ex : ∃ (fI : Addr) (k : Nat) (fd : FuncData) (ps : List Str), PySem.W.findIn X.K (.ref (He.ga T.K x)) "__init__" = some (some (.ref fI)) ∧ PySem.W.typeIn X.K (.ref fI) = some (.type "function") ∧
    FnOk X.prog X.w X.K X.mg X.base (L2.CX X.prog X.w) k fI fd ps (spX (He.ga T.K x) f) ∧ Room (k + 1) X.A ∧ Binds X.K fd ps []
section
variable {X : Cx} {T : Th} {x f : Str} {e : PySem.Expr} {m : EDen} {p cpos pos : Pos}
theorem gs_raise (F : XFact X T x f) (hc : X.calm = true) (tk : Takes X T.W) (hg : Gl X x) (hdb : (x == ("__debug__" : Str)) = false) (he : PE X e (tD T m)) (hst : noStar [e] = true) :
    PS X (.Raise (some (.Call (.Name x p) [e] [] cpos)) none pos) (tDS T (sRaise x f m)) := by
  obtain ⟨fI, k, fd, ps, f1, f2, f3, f4, f5⟩ := F.ex
  refine (ps_raise hc tk (pmk_oex (dvs := []) F.oex f1 f2 f3 f4 f5 .nil (passes_call (W := T.W) (E := fun _ _ _ => False) tk fun _ _ _ _ z => z.elim) hg F.mg (pa_cons he pa_nil (starEach_cons hst)) hdb (starEach_cons hst) (any_plain (noStar_tail hst)))).to fun E σ H ⟨P, O, env, hen, q⟩ => ?_
  refine rs_bind hen q fun v H1 O1 env1 w s1 e1 r1 q1 => ⟨by simp, fun a ha => ?_⟩
  obtain ⟨O2, s2, e2, r2⟩ := r1.frz e1
  refine ⟨a, v, rfl, upd_same, fun dx h1 h2 => ⟨rfl, dx, [(f, v)], upd_same, by rw [upd_ne h2, upd_same], by rw [upd_ne h2] at h1; exact h1, ?_⟩⟩
  have hd : H1 dx = none := by rw [upd_ne h2] at h1; exact h1
  have eH : upd (del (upd (upd (upd H1 a (exo a (He.ga T.K x) none)) dx (exd dx [(f, v)])) a (exo a (He.ga T.K x) (some dx))) a) dx (.xd [(f, v)]) = upd H1 dx (.xd [(f, v)]) := by
    funext b
    by_cases hb : b = dx
    · rw [hb, upd_same, upd_same]
    · rw [upd_ne hb, upd_ne hb]
      by_cases hba : b = a
      · rw [hba, del_same, ha]
      · rw [del_ne hba, upd_ne hba, upd_ne hb, upd_ne hba]
  rw [eH]
  have hv : ¬ Un2 O2 P dx := fun z => by
    rcases z with z | z
    · obtain ⟨o, h⟩ := e2.pub dx z
      rw [hd] at h
      cases h
    · obtain ⟨o, h⟩ := e2.prv dx z
      rw [hd] at h
      cases h
  exact q1 _ _ σ _ O2 (s2.trans (stp_new hd)) (e2.new hd) ⟨rfl, [(f, v)], hid_some.mpr ⟨hv, upd_same⟩, .cons (r2.mono (same_new hd)) .nil⟩
end
end DL
set_option maxHeartbeats 8000000
/-! DL15e: the exception that a suite holds: its fields, isinstance. -/
namespace DL
open PySem PySem.Spec PySem.Calls PyProof.Rows L2

section
variable {prog : Program} {w : World} {A : Around} {E : Value → Shared → Prop} {s : Shared} {K : PySem.W.Frag} {x D : Addr} {ox : Obj} {od : Option Obj}
open PySem.W in
/-- __class__ of an instance of an own exception class, with its dict or without -/
theorem classX {Q : Option Value → Shared → Prop} (C : ExcC K D) (X : K.In s.heap) (I : InstAt s.heap x ox D od) (h : Q (some (.ref D)) { s with toks := s.toks + 1 }) : wpAny (model prog w) A (getAttr? (.ref x) "__class__") Q E s := by
  have hsome : (clsIn K D).isSome = true := by
    obtain ⟨cd, hc, _⟩ := any_some C.hd
    rw [hc]
    rfl
  have hf : findObj K D od "__class__" = some (.bind (.builtin "getset_descriptor.__get__") (.builtin "object.__class__")) := by
    obtain ⟨cd, hc⟩ := Option.isSome_iff_exists.mp hsome
    cases od with
    | none => exact findObj_dataN hsome C.ha C.hn C.ht
    | some o => exact findObj_data hsome C.ha C.hn C.ht
  obtain ⟨hp, g, d, t, os⟩ := s
  have ty := I.type (M := model prog w)
  have l1 := looks_findIn (M := model prog w) X C.hg
  have l2 := looks_findIn (M := model prog w) X C.hk
  have l3 := looks_find (M := model prog w) X I hf
  have isx : Looks (model prog w) hp (isInstance (.ref x) (.type "BaseException")) true := ty.andThen (looks_subIn X C.hs)
  have n0 : (onTheHeap (Value.ref D) && Value.builtin "BaseException.__getattribute__" == Value.builtin "object.__getattribute__") = false := by
    rw [show (Value.builtin "BaseException.__getattribute__" == Value.builtin "object.__getattribute__") = false from by decide +kernel]; rfl
  unfold getAttr? getAttrBy? getAttrBy
  refine wpAny_bind (wpAny_mkText (wpAny_bind (wpAny_attempt (wpAny_holding (wpAny_bind (ty.at (wpAny_bind (l1.at ?_))))))))
  show wpAny _ _ (if (onTheHeap (Value.ref D) && Value.builtin "BaseException.__getattribute__" == Value.builtin "object.__getattribute__") = true then _ else _) _ _ _
  rw [n0, if_neg Bool.false_ne_true]
  unfold getAttrByItsOwn hookBefore
  refine wpAny_bind ?_
  rw [if_pos (by rfl : onTheHeap (Value.ref D) = true)]
  refine l2.at (wpAny_bind (wpAny_attempt (wpAny_holding ?_)))
  unfold callGetattribute
  rw [(by rfl : (false && onTheHeap (Value.builtin "BaseException.__getattribute__")) = false), if_neg Bool.false_ne_true]
  unfold boundAndCalled
  rw [PySem.F.excAttr_ValueError.ga.bind (.ref x)]
  refine wpAny_bind (wpAny_pure ?_)
  show wpAny _ _ (call (.builtin "BaseException.__getattribute__") [.ref x, .str "__class__" t]) _ _ _
  refine wpAny_call (codeAny_call_builtin PySem.F.excAttr_ValueError.ga.plain PySem.F.entry_bexc_ga (@check_slot (model prog w) _ _ ⟨hp, g, d, t + 1, os⟩ "BaseException.__getattribute__" "BaseException" "__getattribute__" (.ref x) [.str "__class__" t] [] _ (by decide +kernel) (by decide +kernel) isx (PySem.F.args_bexc_ga (.ref x) (.str "__class__" t)) ?_))
  unfold Builtin.«object.__getattribute__»
  refine wpAny_bind (wpAny_of_eq (a := ((Value.ref x : Value), [Value.str "__class__" t])) (by first | rfl | (simp only [slotArgs]; rfl)) (wpAny_bind (wpAny_pure (wpAny_bind (ty.at (wpAny_bind (l3.at ?_)))))))
  show wpAny _ _ (holding [Value.builtin "object.__class__"] (call (.builtin "getset_descriptor.__get__") [.builtin "object.__class__", .ref x, .ref D]) >>= ret) _ _ _
  refine wpAny_bind (wpAny_holding (wpAny_call (class_get (s := ⟨hp, g, d, t + 1, os⟩) (ox := ox) (od := od) X I C.hm (wpAny_pure ?_))))
  show wpAny _ _ (handedOut (.ref D)) _ _ _
  rw [handedOut_of (v := .ref D) rfl]
  first
    | exact wpAny_pure (wpAny_pure h)
    | exact wpAny_pure h
    | exact wpAny_pure (wpAny_bind (wpAny_pure (wpAny_pure h)))
open PySem.W in
theorem kitX (C : ExcC K D) : KitX K (.ref x) (.ref D) (fun h => ∃ od, InstAt h x ox D od) where
  ty := fun _ _ _ ⟨_, I⟩ => I.type
  it := fun _ _ X _ => by
    obtain ⟨_, hc, _⟩ := any_some C.hd
    unfold clsIn at hc
    split at hc
    · rename_i ho
      exact fun A' Q' E' s' k q => by
        unfold isType loadHead
        exact wpAny_bind (wpAny_loadPart (k _ _ (X _ _ ho)) (wpAny_pure q))
    · cases hc
  ne := fun h tp dd its n sl X htp => by
    obtain ⟨_, hc, _⟩ := any_some C.hd
    refine Bool.eq_false_iff.mpr fun q => ?_
    cases Value.ref.inj (beq_iff_eq.mp q)
    unfold clsIn at hc
    split at hc
    · rename_i ho
      cases (X _ _ ho).symm.trans htp
    · cases hc
  ca := fun X ⟨_, I⟩ k => classX C X I k
end
/-- the context of a suite that holds the exception xp -/
def HeldX (X : Cx) (xp : Xp) : Prop := ∃ (X0 : Cx) (oe : Obj) (pn : List (Addr × Obj)), X = X0.suite xp.a ((xp.a, oe) :: pn) ∧ Zc xp.cls xp.d oe ∧ ∃ vs, oe.data = .fields vs
/-- its dict is there -/
def dictX (H : Hp) (d : Option Addr) : Prop := match d with
  | none => True
  | some dd => ∃ fs, H dd = some (.xd fs)
theorem inst_of {X : Cx} {xp : Xp} {D : Addr} {pins : List (Addr × Obj)} {σ : L2.St} {H : Hp} {s : Shared} (hx : HeldX X xp) (I : Inv X pins σ H s) (hc : xp.cls = .ref D) (hd : dictX H xp.d) : ∃ oe, ∃ od, PySem.W.InstAt s.heap xp.a oe D od := by
  obtain ⟨X0, oe, pn, rfl, hz, vs, hf⟩ := hx
  obtain ⟨hget, _⟩ := I.pin (xp.a, oe) (List.mem_append.mpr (.inl List.mem_cons_self))
  have nc : PySem.W.notCls oe = true := by unfold PySem.W.notCls; rw [hf]
  cases e : xp.d with
  | none =>
    refine ⟨oe, none, hget, hz.1.trans hc, nc, ?_⟩
    rw [hz.2, e]
    trivial
  | some dd =>
    rw [e] at hd
    obtain ⟨fs, hdd⟩ := hd
    have hx : ObjOk X0.prog X0.w H s.heap dd (.xd fs) := I.hok dd _ hdd
    obtain ⟨mA, hns, hr⟩ := hx
    obtain ⟨od, ho, hl⟩ := lookIn_ns hns
    refine ⟨oe, some od, hget, hz.1.trans hc, nc, ?_⟩
    rw [hz.2, e]
    exact ho
/-- isinstance(e, c), isinstance(e, (c1, ..)), e the exception that the suite holds -/
def rIsX (K : PySem.W.Frag) (xp : Xp) (D : Addr) : List V → Hp → VK → Prop := fun xs H Q => ∃ (c : V) (u : Value) (b : Bool), xs = [.ref xp.a, c] ∧ ClsV c u ∧ xp.cls = .ref D ∧ dictX H xp.d ∧ PySem.W.kitOne K (.ref D) u = some b ∧ Q (.bl b) H
def rIsXT (K : PySem.W.Frag) (xp : Xp) (D : Addr) : List V → Hp → VK → Prop := fun xs H Q => ∃ (tp : Addr) (cs : List V) (us : List Value) (b : Bool), xs = [.ref xp.a, .ref tp] ∧ H tp = some (.tup cs) ∧ Paired ClsV cs us ∧ xp.cls = .ref D ∧ dictX H xp.d ∧ PySem.W.kitAny K (.ref D) us = some b ∧ Q (.bl b) H
section
variable {X : Cx} {xp : Xp} {D : Addr}
theorem call_isX (hx : HeldX X xp) (C : ExcC X.K D) : CallR X (.builtin "isinstance") (rIsX X.K xp D) := by
  intro pins s σ H xs us Q I r h
  obtain ⟨c, u, b, rfl, k, hc, hd, e, q⟩ := h
  obtain ⟨u1, u2, rfl, r1, r2⟩ := vals2 r
  cases k.eq r2
  cases (show u1 = Value.ref xp.a from r1)
  obtain ⟨oe, J⟩ := inst_of hx I hc hd
  exact PySem.W.kia_one (kitX (ox := oe) C) I.kIn J e (fun z => nomatch z) fun tk => ⟨.bl b, H, I.tok tk, rfl, q⟩
theorem call_isXT (hx : HeldX X xp) (C : ExcC X.K D) : CallR X (.builtin "isinstance") (rIsXT X.K xp D) := by
  intro pins s σ H xs us Q I r h
  obtain ⟨tp, cs, ws, b, rfl, hT, k, hc, hd, e, q⟩ := h
  obtain ⟨u1, u2, rfl, r1, r2⟩ := vals2 r
  cases (show u1 = Value.ref xp.a from r1)
  cases (show u2 = Value.ref tp from r2)
  obtain ⟨oe, J⟩ := inst_of hx I hc hd
  obtain ⟨_, its, rv, o, h1, h2, n, h3⟩ := (show ObjOk X.prog X.w H s.heap tp (.tup cs) from I.hok tp _ hT)
  cases ClsV.all k rv
  obtain ⟨oc, od, dt, sl⟩ := o
  simp only at h2 h3
  subst h2 h3
  exact PySem.W.kia_tup (kitX (ox := oe) C) I.kIn J h1 e (fun z => nomatch z) fun tk => ⟨.bl b, H, I.tok tk, rfl, q⟩
end
end DL
set_option maxHeartbeats 8000000
/-! DL15f: e.f and isinstance(e, ..) of a caught exception; try. -/
namespace DL
open PySem PySem.Spec PyProof.Rows L2

/-! ### the field of a caught exception -/
def dXf (ok : Str → Bool) (i : Nat) (f : Str) (m : EDen) : EDen := fun env => match env[i]? with
  | some (.xc x) => if ok x.c then (match x.fs.lookup f with
    | some d => .ok (false, d) env
    | none => .st) else .st
  | _ => m env
def dXi (ok : Str → Bool) (tab : CRef → CRef → Option Bool) (i : Nat) (cs : List CRef) (m : EDen) : EDen := fun env => match env[i]? with
  | some (.xc x) => if ok x.c then (match anyC tab (.own x.c) cs with
    | some b => .ok (false, .bl b) env
    | none => .st) else .st
  | _ => m env
section
variable {X : Cx} {T : Th} {e : Expr} {f : Str} {m : EDen} {i : Nat} {pos : Pos} {ok : Str → Bool}
/-- the slot of a held exception -/
theorem xc_at {P : AS} {H : Hp} {O : AS} {σ : L2.St} {env : SEnv} {x : Ex} (he : EnvOk (T.cn P) H O σ env) (g : env[i]? = some (.xc x)) : σ[i]? = some (some (.ref T.xp.a)) ∧ ExOk T.K (hid H (Un2 O P)) T.xp.cls T.xp.d x := by
  have hi : i < σ.length := by rw [← he.len]; exact (List.getElem?_eq_some_iff.mp g).1
  have hs : σ[i]? = some σ[i] := List.getElem?_eq_getElem hi
  have r := he.ok i _ _ hs g
  generalize hσ : σ[i] = o at r
  rw [hσ] at hs
  cases r with
  | xc r => exact ⟨hs, r⟩
theorem ExOk.dict {K : PySem.W.Frag} {H h : Hp} {cls : Value} {d : Option Addr} {x : Ex} (q : ExOk K h cls d x) (s : Same h H) : dictX H d := by
  obtain ⟨_, q⟩ := q
  cases d with
  | none => trivial
  | some dd =>
    obtain ⟨fs, a, _⟩ := q
    exact ⟨fs, s _ _ a⟩
theorem g_xf (hK : X.K = T.K) (hx : HeldX X T.xp) (hok : ∀ c, ok c = true → XfC T.K (He.ga T.K c) ∧ PySem.W.findIn T.K (.ref (He.ga T.K c)) f = some none)
    (hv : PE X e (tVar i)) (hb : attributeBase e f X.env (eval e X.env) = eval e X.env) (hm : PE X (.Attribute e f pos) (tD T m)) : PE X (.Attribute e f pos) (tD T (dXf ok i f m)) := by
  refine ⟨fun pins s σ H Q I ⟨P, O, env, he, q⟩ => ?_⟩
  unfold dXf at q
  by_cases hxc : ∃ x, env[i]? = some (.xc x)
  · obtain ⟨x, g⟩ := hxc
    simp only [g] at q
    by_cases ho : ok x.c = true
    · rw [if_pos ho] at q
      cases hl : x.fs.lookup f with
      | none => rw [hl] at q; exact q.elim
      | some d =>
        rw [hl] at q
        obtain ⟨hs, hex⟩ := xc_at he g
        obtain ⟨hc, hd⟩ := hex
        obtain ⟨o1, o2⟩ := hok _ ho
        have key : ∀ dd, T.xp.d = some dd → (∃ fs, hid H (Un2 O P) dd = some (.xd fs) ∧ RepF T.K (hid H (Un2 O P)) fs x.fs) → tXf T.xp.a T.xp.cls T.xp.d (He.ga T.K x.c) f (tVar i) σ H Q := fun dd e ⟨fs, z1, z2⟩ => by
          obtain ⟨v, l1, l2⟩ := z2.lookup hl
          exact ⟨_, hs, rfl, hc, dd, fs, v, e, (hid_some.mp z1).2, l1, q v H O .refl he l2⟩
        have fin : tXf T.xp.a T.xp.cls T.xp.d (He.ga T.K x.c) f (tVar i) σ H Q := by
          cases e : T.xp.d with
          | none =>
            rw [e] at hd
            have hd : x.fs = [] := hd
            rw [hd] at hl
            cases hl
          | some dd =>
            rw [e] at hd
            have := key dd e hd
            rw [e] at this
            exact this
        obtain ⟨X0, oe, pn, rfl, hz, hf⟩ := hx
        have hK : X0.K = T.K := hK
        exact (pe_xf (X := X0) (by rw [hK]; exact o1) (by rw [hK]; exact o2) hz hf hv hb).run pins s σ H Q I fin
    · rw [if_neg ho] at q
      exact q.elim
  · refine hm.run pins s σ H Q I ⟨P, O, env, he, ?_⟩
    split at q
    · rename_i x g
      exact absurd ⟨x, g⟩ hxc
    · exact q
variable {tab : CRef → CRef → Option Bool} {ce : Expr} {p : Pos}
theorem anyC_one {t c : CRef} {b : Bool} (h : anyC tab t [c] = some b) : tab t c = some b := by
  unfold anyC at h
  cases e : tab t c with
  | none => rw [e] at h; cases h
  | some y =>
    rw [e] at h
    cases y with
    | true => cases h; rfl
    | false => cases h; rfl
theorem g_xi {c : CRef} (hK : X.K = T.K) (hx : HeldX X T.xp) (ht : ∀ a c b, tab a c = some b → PySem.W.kitOne T.K (a.u T.K) (c.u T.K) = some b) (hok : ∀ c, ok c = true → ExcC T.K (He.ga T.K c)) (hg : Gl X "isinstance") (hmg : X.mg "isinstance" = none)
    (hv : PE X e (tVar i)) (hc : PE X ce (tC (c.v T.K))) (hst : noStar [e, ce] = true) (hm : PE X (.Call (.Name "isinstance" p) [e, ce] [] pos) (tD T m)) : PE X (.Call (.Name "isinstance" p) [e, ce] [] pos) (tD T (dXi ok tab i [c] m)) := by
  refine ⟨fun pins s σ H Q I ⟨P, O, env, he, q⟩ => ?_⟩
  unfold dXi at q
  by_cases hxc : ∃ x, env[i]? = some (.xc x)
  · obtain ⟨x, g⟩ := hxc
    simp only [g] at q
    by_cases ho : ok x.c = true
    · rw [if_pos ho] at q
      cases hl : anyC tab (.own x.c) [c] with
      | none => rw [hl] at q; exact q.elim
      | some b =>
        rw [hl] at q
        obtain ⟨hs, hex⟩ := xc_at he g
        have C := hok _ ho
        rw [← hK] at C
        refine (pe_callB (call_isX hx C) hg hmg boot_isi (pa_cons hv (pa_cons hc pa_nil (starEach_cons (noStar_tail hst))) (starEach_cons hst)) (by decide) (by decide) (starEach_cons hst) (any_plain (noStar_tail hst))).run pins s σ H Q I ?_
        refine ⟨_, hs, ?_⟩
        exact ⟨_, c.u T.K, b, rfl, c.clsV _, by rw [hex.1, hK], hex.dict hid_same, by rw [hK]; exact ht _ _ _ (anyC_one hl), q (.bl b) H O .refl he Rep.bl⟩
    · rw [if_neg ho] at q
      exact q.elim
  · refine hm.run pins s σ H Q I ⟨P, O, env, he, ?_⟩
    split at q
    · rename_i x g
      exact absurd ⟨x, g⟩ hxc
    · exact q
theorem g_xiT {es : List Expr} {cs : List CRef} {k : Nat} {tp : Pos} (hK : X.K = T.K) (hx : HeldX X T.xp) (ht : ∀ a c b, tab a c = some b → PySem.W.kitOne T.K (a.u T.K) (c.u T.K) = some b) (hok : ∀ c, ok c = true → ExcC T.K (He.ga T.K c)) (hg : Gl X "isinstance") (hmg : X.mg "isinstance" = none)
    (hv : PE X e (tVar i)) (hc : CEs X T.K es cs) (hse : noStar es = true) (hl : cs.length ≤ 100) (hst : noStar [e, .Tuple es k tp] = true) (hm : PE X (.Call (.Name "isinstance" p) [e, .Tuple es k tp] [] pos) (tD T m)) : PE X (.Call (.Name "isinstance" p) [e, .Tuple es k tp] [] pos) (tD T (dXi ok tab i cs m)) := by
  refine ⟨fun pins s σ H Q I ⟨P, O, env, he, q⟩ => ?_⟩
  unfold dXi at q
  by_cases hxc : ∃ x, env[i]? = some (.xc x)
  · obtain ⟨x, g⟩ := hxc
    simp only [g] at q
    by_cases ho : ok x.c = true
    · rw [if_pos ho] at q
      cases hb : anyC tab (.own x.c) cs with
      | none => rw [hb] at q; exact q.elim
      | some b =>
        rw [hb] at q
        obtain ⟨hs, hex⟩ := xc_at he g
        have C := hok _ ho
        rw [← hK] at C
        refine (pe_callB (call_isXT hx C) hg hmg boot_isi (pa_cons hv (pa_cons (pe_tup (hc.pa hse)) pa_nil (starEach_cons (noStar_tail hst))) (starEach_cons hst)) (by decide) (by decide) (starEach_cons hst) (any_plain (noStar_tail hst))).run pins s σ H Q I ?_
        refine ⟨_, hs, by rw [List.length_map, sizeLine_eq]; omega, fun a ha => ?_⟩
        refine ⟨a, _, cs.map (CRef.u T.K), b, rfl, upd_same, CRef.all _ cs, by rw [hex.1, hK], ?_, by rw [hK]; exact anyC_ok ht hb, q (.bl b) _ O (stp_new ha) (he.new ha) Rep.bl⟩
        have hd := hex.dict (hid_same (S := Un2 O P))
        cases e : T.xp.d with
        | none => trivial
        | some dd =>
          rw [e] at hd
          obtain ⟨fs, z⟩ := hd
          exact ⟨fs, by rw [upd_ne (ne_of_none z ha)]; exact z⟩
    · rw [if_neg ho] at q
      exact q.elim
  · refine hm.run pins s σ H Q I ⟨P, O, env, he, ?_⟩
    split at q
    · rename_i x g
      exact absurd ⟨x, g⟩ hxc
    · exact q
end
end DL
set_option maxHeartbeats 8000000
/-! DL15g: try .. except x as n, try .. except x. -/
namespace DL
open PySem PySem.Spec PyProof.Rows L2

/-- no exception is held any more -/
def clrX : Slot → Slot
  | .xc _ => .un
  | s => s
def bareX (i : Nat) (env : SEnv) : SEnv := (env.map clrX).set i .un
/-- behind the suite -/
def outX (g : SEnv → SEnv) : Out Fl → Out Fl
  | .ok f env => .ok f (g env)
  | _ => .st
def sTry (m : SDen) (cat : Str → Option Bool) (i : Option Nat) (h : SDen) : SDen := fun env => match m env with
  | .ex x env1 => (match cat x.c with
    | some true => (match i with
      | none => outX (List.map clrX) (h env1)
      | some i => (match putS i (.xc x) env1 with
        | some env2 => outX (bareX i) (h env2)
        | none => .st))
    | some false => .ex x env1
    | none => .st)
  | o => o
section
variable {T : Th} {P : AS} {H : Hp} {O : AS} {σ : L2.St} {env : SEnv} {i : Nat}
theorem clrX_owned {s : Slot} (h : (clrX s).owned = true) : clrX s = s := by
  cases s <;> first | rfl | cases h
theorem clrX_get {j : Nat} {s : Slot} (h : (env.map clrX)[j]? = some s) : ∃ t, env[j]? = some t ∧ clrX t = s := by
  rw [List.getElem?_map] at h
  exact Option.map_eq_some_iff.mp h
/-- the same slots under another exception, if none holds one -/
theorem EnvOk.clr {C : Cn} {xp : Xp} (e : EnvOk C H O σ env) : EnvOk ⟨C.K, C.P, C.io, C.n, xp⟩ H O σ (env.map clrX) := by
  have back : ∀ {n : Nat} {c : Addr}, OwnAt σ (env.map clrX) n c → OwnAt σ env n c := fun {n c} ⟨x1, s, x2, x3⟩ => by
    obtain ⟨t, h1, h2⟩ := clrX_get x2
    subst h2
    rw [clrX_owned x3] at x3
    exact ⟨x1, t, h1, x3⟩
  refine ⟨by rw [List.length_map]; exact e.len, fun j v s g1 g2 => ?_, fun j k a hj hk => e.one j k a (back hj) (back hk), e.dis, e.pub, e.prv, fun j a hj => ?_, e.sz⟩
  · obtain ⟨t, h1, h2⟩ := clrX_get g2
    subst h2
    cases e.ok j v t g1 h1 with
    | un => exact .un
    | fz r => exact .fz r
    | ow a b => exact .ow a b
    | io a b => exact .io a b
    | xc _ => exact .un
  · obtain ⟨q1, d, q2⟩ := e.lent j a hj
    exact ⟨q1, d, by rw [List.getElem?_map, q2]; rfl⟩
theorem EnvOk.bare {C : Cn} (e : EnvOk C H O σ env) (hi : ∀ a, (i, a) ∉ C.io) : EnvOk C H O (σ.set i none) (env.set i .un) := by
  have back : ∀ {n : Nat} {c : Addr}, OwnAt (σ.set i none) (env.set i .un) n c → OwnAt σ env n c := fun {n c} ⟨x1, s, x2, x3⟩ => by
    by_cases hn : n = i
    · subst hn
      by_cases hl : n < σ.length
      · rw [List.getElem?_set_self hl] at x1
        cases x1
      · rw [List.getElem?_eq_none (by rw [List.length_set]; omega)] at x1
        cases x1
    · rw [List.getElem?_set_ne (Ne.symm hn)] at x1 x2
      exact ⟨x1, s, x2, x3⟩
  refine ⟨by rw [List.length_set, List.length_set]; exact e.len, fun j v s g1 g2 => ?_, fun j k a hj hk => e.one j k a (back hj) (back hk), e.dis, e.pub, e.prv, fun j a hj => ?_, by rw [List.length_set]; exact e.sz⟩
  · by_cases hn : j = i
    · subst hn
      by_cases hl : j < env.length
      · rw [List.getElem?_set_self hl] at g2
        cases g2
        exact .un
      · rw [List.getElem?_eq_none (by rw [List.length_set]; omega)] at g2
        cases g2
    · rw [List.getElem?_set_ne (Ne.symm hn)] at g1 g2
      exact e.ok j v s g1 g2
  · have hn : j ≠ i := fun z => hi a (z ▸ hj)
    obtain ⟨q1, d, q2⟩ := e.lent j a hj
    exact ⟨by rw [List.getElem?_set_ne (Ne.symm hn)]; exact q1, d, by rw [List.getElem?_set_ne (Ne.symm hn)]; exact q2⟩
/-- a caught exception gets its name -/
theorem EnvOk.putX {C : Cn} {xp : Xp} {x : Ex} {env' : SEnv} (e : EnvOk C H O σ env) (hx : C.xp = xp) (r : ExOk C.K (hid H (Un2 O C.P)) xp.cls xp.d x) (h : putS i (.xc x) env = some env') : EnvOk C H O (σ.set i (some (.ref xp.a))) env' ∧ ∀ a, (i, a) ∉ C.io := by
  unfold putS at h
  cases g : env[i]? with
  | none => rw [g] at h; cases h
  | some s =>
    rw [g] at h
    have ns : ∀ d, s ≠ .io d := fun d z => by subst z; cases h
    have h' : env.set i (.xc x) = env' := by cases s <;> first | exact Option.some.inj h | cases h
    subst h'
    have hi : i < env.length := (List.getElem?_eq_some_iff.mp g).1
    have hiσ : i < σ.length := by rw [← e.len]; exact hi
    have nl : ∀ a, (i, a) ∉ C.io := fun a hj => by
      obtain ⟨_, d', q2⟩ := e.lent i a hj
      rw [g] at q2
      cases q2
      exact ns _ rfl
    have back : ∀ {n : Nat} {c : Addr}, OwnAt (σ.set i (some (.ref xp.a))) (env.set i (.xc x)) n c → OwnAt σ env n c := fun {n c} ⟨x1, s, x2, x3⟩ => by
      by_cases hn : n = i
      · subst hn
        rw [List.getElem?_set_self hi] at x2
        cases x2
        cases x3
      · rw [List.getElem?_set_ne (Ne.symm hn)] at x1 x2
        exact ⟨x1, s, x2, x3⟩
    refine ⟨⟨by rw [List.length_set, List.length_set]; exact e.len, fun j v s g1 g2 => ?_, fun j k a hj hk => e.one j k a (back hj) (back hk), e.dis, e.pub, e.prv, fun j a hj => ?_, by rw [List.length_set]; exact e.sz⟩, nl⟩
    · by_cases hn : j = i
      · subst hn
        rw [List.getElem?_set_self hiσ] at g1
        rw [List.getElem?_set_self hi] at g2
        cases g1
        cases g2
        subst hx
        exact .xc r
      · rw [List.getElem?_set_ne (Ne.symm hn)] at g1 g2
        exact e.ok j v s g1 g2
    · have hn : j ≠ i := fun z => nl a (z ▸ hj)
      obtain ⟨q1, d, q2⟩ := e.lent j a hj
      exact ⟨by rw [List.getElem?_set_ne (Ne.symm hn)]; exact q1, d, by rw [List.getElem?_set_ne (Ne.symm hn)]; exact q2⟩
theorem xc_nil {C : Cn} (e : EnvOk C H O σ env) (hx : C.xp = Xp.nil) : env.map clrX = env := by
  apply List.ext_getElem?
  intro j
  rw [List.getElem?_map]
  cases g : env[j]? with
  | none => rfl
  | some s =>
    have hi : j < σ.length := by rw [← e.len]; exact (List.getElem?_eq_some_iff.mp g).1
    have r := e.ok j _ _ (List.getElem?_eq_getElem hi) g
    show some (clrX s) = some s
    generalize σ[j] = o at r
    cases r with
    | xc r =>
      have r := r.1
      rw [hx] at r
      cases r
    | _ => rfl
end
/-- the context of the readings in a suite -/
def Th.hot (T : Th) (xp : Xp) : Th := ⟨T.K, T.io, T.n, fun _ _ _ _ => False, xp⟩
def Th.wi (T : Th) (W : WX) : Th := ⟨T.K, T.io, T.n, W, T.xp⟩
section
variable {X : Cx} {T : Th} {x n : Str} {c : Value} {i : Nat} {body suite : List Stmt} {b₀ : Stmt} {np pos pos' : Pos} {m h : SDen} {cat : Str → Option Bool}
theorem gs_try_as (hxp : T.xp = Xp.nil) (hcat : ∀ y b, cat y = some b → PySem.W.exmOne X.K (.ref (He.ga T.K y)) c = some b) (hs : X.stack = X.env :: X.outer) (hf : X.env.frame = some X.env.locals) (hN : X.N.Nodup) (hi : X.N[i]? = some n) (hln : X.env.kindOf n = some .local) (hc : Names X x c) (tk : Takes X T.W)
    (hb : ∀ (W : WX) (pn : List (Addr × Obj)) (xe : Value → Shared → Prop), Takes (X.tr pn xe) W → PassesOwn (model X.prog X.w) X.A X.env xe → PSs (X.tr pn xe) body (tDS (T.wi W) m))
    (hsu : ∀ (xp : Xp) (oe : Obj) (pn : List (Addr × Obj)), Zc xp.cls xp.d oe → (∃ vs, oe.data = .fields vs) → PSs (X.suite xp.a ((xp.a, oe) :: pn)) (b₀ :: suite) (tDS (T.hot xp) h)) :
    PS X (.Try body [.ExceptHandler (some (.Name x np)) (some n) (b₀ :: suite) pos'] [] [] pos) (tDS T (sTry m cat (some i) h)) := by
  refine (ps_try_as (ts := fun a cls d => tDS (T.hot ⟨a, cls, d⟩) h) hs hf hN hi hln hc tk hb fun a oe cls d pn z1 z2 => hsu ⟨a, cls, d⟩ oe pn z1 z2).to fun D σ H ⟨P, O, env, he, q⟩ => ?_
  refine ⟨P, O, env, he, ?_⟩
  unfold sTry at q
  cases hm : m env with
  | st => rw [hm] at q; exact q
  | ok f env1 =>
    rw [hm] at q
    cases f <;> exact q
  | ex x' env1 =>
    rw [hm] at q
    intro cls dd σ' H' O' s' e' x1
    have e' : EnvOk (T.cn P) H' O' σ' env1 := e'
    have x1 : ExOk T.K (hid H' (Un2 O' P)) cls dd x' := x1
    cases hk : cat x'.c with
    | none => simp only [hk] at q; exact q.elim
    | some b =>
      have hex := hcat _ _ hk
      rw [← x1.1] at hex
      refine ⟨b, hex, fun hb a ha => ?_, fun hb => ?_⟩
      · subst hb
        simp only [hk] at q
        cases hp : putS i (.xc x') env1 with
        | none => simp only [hp] at q; exact q.elim
        | some env2 =>
          simp only [hp] at q
          have e0 : EnvOk ((T.hot ⟨a, cls, dd⟩).cn P) H' O' σ' env1 := by
            have := e'.clr (xp := ⟨a, cls, dd⟩)
            rw [xc_nil e' hxp] at this
            exact this
          obtain ⟨e2, nl⟩ := EnvOk.putX (xp := ⟨a, cls, dd⟩) e0 rfl x1 hp
          refine ⟨P, O', env2, e2, ?_⟩
          cases hh : h env2 with
          | st => rw [hh] at q; exact q.elim
          | ex x3 env3 => rw [hh] at q; exact q.elim
          | ok f env3 =>
            rw [hh] at q
            have key : ∀ {σ'' : L2.St} {H'' : Hp} {O'' : AS}, EnvOk ((T.hot ⟨a, cls, dd⟩).cn P) H'' O'' σ'' env3 → EnvOk (T.cn P) H'' O'' (σ''.set i none) (bareX i env3) := fun e3 => EnvOk.bare (e3.clr (xp := T.xp)) nl
            cases f with
            | nx => exact fun σ'' H'' O'' s'' e3 => q _ H'' O'' (s'.trans s'') (key e3)
            | bk => exact fun σ'' H'' O'' s'' e3 => q _ H'' O'' (s'.trans s'') (key e3)
            | ct => exact fun σ'' H'' O'' s'' e3 => q _ H'' O'' (s'.trans s'') (key e3)
            | rt w =>
              intro v σ'' H'' O'' s'' e3 r3
              refine q v (σ''.set i none) H'' O'' (s'.trans s'') (key e3) ?_
              obtain ⟨b, d⟩ := w
              cases b with
              | false => exact r3
              | true =>
                obtain ⟨p, r1, r2, r4, r5⟩ := r3
                refine ⟨p, r1, r2, r4, fun j ⟨x1, t, x2, x3⟩ => ?_⟩
                unfold bareX at x2
                by_cases hj : j = i
                · subst hj
                  by_cases hl : j < σ''.length
                  · rw [List.getElem?_set_self hl] at x1
                    cases x1
                  · rw [List.getElem?_eq_none (by rw [List.length_set]; omega)] at x1
                    cases x1
                · rw [List.getElem?_set_ne (Ne.symm hj)] at x1 x2
                  obtain ⟨t', h1, h2⟩ := clrX_get x2
                  subst h2
                  rw [clrX_owned x3] at x3
                  exact r5 j ⟨x1, t', h1, x3⟩
      · subst hb
        simp only [hk] at q
        exact q cls dd σ' H' O' s' e' x1
theorem gs_try_only (hxp : T.xp = Xp.nil) (hcat : ∀ y b, cat y = some b → PySem.W.exmOne X.K (.ref (He.ga T.K y)) c = some b) (hs : X.stack = X.env :: X.outer) (hf : X.env.frame = some X.env.locals) (hc : Names X x c) (tk : Takes X T.W)
    (hb : ∀ (W : WX) (pn : List (Addr × Obj)) (xe : Value → Shared → Prop), Takes (X.tr pn xe) W → PassesOwn (model X.prog X.w) X.A X.env xe → PSs (X.tr pn xe) body (tDS (T.wi W) m))
    (hsu : ∀ (xp : Xp) (oe : Obj) (pn : List (Addr × Obj)), Zc xp.cls xp.d oe → (∃ vs, oe.data = .fields vs) → PSs (X.suite xp.a ((xp.a, oe) :: pn)) (b₀ :: suite) (tDS (T.hot xp) h)) :
    PS X (.Try body [.ExceptHandler (some (.Name x np)) none (b₀ :: suite) pos'] [] [] pos) (tDS T (sTry m cat none h)) := by
  refine (ps_try_only (ts := fun a cls d => tDS (T.hot ⟨a, cls, d⟩) h) hs hf hc tk hb fun a oe cls d pn z1 z2 => hsu ⟨a, cls, d⟩ oe pn z1 z2).to fun D σ H ⟨P, O, env, he, q⟩ => ?_
  refine ⟨P, O, env, he, ?_⟩
  unfold sTry at q
  cases hm : m env with
  | st => rw [hm] at q; exact q
  | ok f env1 =>
    rw [hm] at q
    cases f <;> exact q
  | ex x' env1 =>
    rw [hm] at q
    intro cls dd σ' H' O' s' e' x1
    have e' : EnvOk (T.cn P) H' O' σ' env1 := e'
    have x1 : ExOk T.K (hid H' (Un2 O' P)) cls dd x' := x1
    cases hk : cat x'.c with
    | none => simp only [hk] at q; exact q.elim
    | some b =>
      have hex := hcat _ _ hk
      rw [← x1.1] at hex
      refine ⟨b, hex, fun hb a ha => ?_, fun hb => ?_⟩
      · subst hb
        simp only [hk] at q
        have e0 : EnvOk ((T.hot ⟨a, cls, dd⟩).cn P) H' O' σ' env1 := by
          have := e'.clr (xp := ⟨a, cls, dd⟩)
          rw [xc_nil e' hxp] at this
          exact this
        refine ⟨P, O', env1, e0, ?_⟩
        cases hh : h env1 with
        | st => rw [hh] at q; exact q.elim
        | ex x3 env3 => rw [hh] at q; exact q.elim
        | ok f env3 =>
          rw [hh] at q
          have key : ∀ {σ'' : L2.St} {H'' : Hp} {O'' : AS}, EnvOk ((T.hot ⟨a, cls, dd⟩).cn P) H'' O'' σ'' env3 → EnvOk (T.cn P) H'' O'' σ'' (env3.map clrX) := fun e3 => e3.clr (xp := T.xp)
          cases f with
          | nx => exact fun σ'' H'' O'' s'' e3 => q _ H'' O'' (s'.trans s'') (key e3)
          | bk => exact fun σ'' H'' O'' s'' e3 => q _ H'' O'' (s'.trans s'') (key e3)
          | ct => exact fun σ'' H'' O'' s'' e3 => q _ H'' O'' (s'.trans s'') (key e3)
          | rt w =>
            intro v σ'' H'' O'' s'' e3 r3
            refine q v σ'' H'' O'' (s'.trans s'') (key e3) ?_
            obtain ⟨b, d⟩ := w
            cases b with
            | false => exact r3
            | true =>
              obtain ⟨p, r1, r2, r4, r5⟩ := r3
              refine ⟨p, r1, r2, r4, fun j ⟨x1, t, x2, x3⟩ => ?_⟩
              obtain ⟨t', h1, h2⟩ := clrX_get x2
              subst h2
              rw [clrX_owned x3] at x3
              exact r5 j ⟨x1, t', h1, x3⟩
      · subst hb
        simp only [hk] at q
        exact q cls dd σ' H' O' s' e' x1
end
end DL
set_option maxHeartbeats 8000000
/-! DL15h: len(x), x an object of an own class or not. -/
namespace DL
open PySem PySem.Spec PyProof.Rows L2

def postLen : D → Option W
  | .int n => if 0 ≤ n ∧ n < 9223372036854775808 then some (false, .int n) else none
  | _ => none
/-- an own object, frozen -/
def objOf : DL.Arg → Option D → Option (Str × List (Str × D))
  | .val _, some (.obj c fs) => some (c, fs)
  | _, _ => none
def lenK (tab : MTab) (x : DL.Arg) : EDen := fun env => match objOf x (argDat env x) with
  | some (c, fs) => dSp tab postLen (.obj c fs) [] env
  | none => (match argDat env x with
    | some d => retO (lenF [d]) env
    | none => .st)
def dLen (tab : MTab) (a : Opd) : EDen := evO a (lenK tab)
theorem boot_len : bootBuiltins ("len" : Str) = some (.builtin "len") := by decide +kernel
section
variable {X : Cx} {T : Th} {e : Expr} {ma : Opd} {tab : MTab} {p pos : Pos}
/-- a built-in that is called, told with the slots -/
def CallS (X : Cx) (g : Value) (r : L2.St → List V → Hp → VK → Prop) : Prop := ∀ (pins : List (Addr × Obj)) (s : Shared) (σ : L2.St) (H : Hp) (xs : List V) (us : List Value) (Q : VK), Inv X pins σ H s → Vals xs us → r σ xs H Q → wpAny (model X.prog X.w) X.A (call g us) (EP X pins σ Q) X.xe s
theorem pe_callS {id : String} {x : Str} {es : List Expr} {t : TA} {r : L2.St → List V → Hp → VK → Prop} (hc : CallS X (.builtin id) r) (hg : Gl X x) (hm : X.mg x = none) (hv : bootBuiltins x = some (.builtin id)) (ha : PA X (e :: es) t) (hn : x ≠ "__name__") (hdb : (x == ("__debug__" : Str)) = false)
    (he : starEach (e :: es) X.env = (false, eval e X.env) :: starEach es X.env) (hpl : (backTo pos (starEach es X.env)).any (·.1) = false) : PE X (.Call (.Name x p) (e :: es) [] pos) (fun σ H Q => t σ H fun vs H1 => r σ vs H1 Q) := ⟨fun pins s σ H Q I h => by
  exact wpAny_Call_Name_kw (ld_blt I hg hm hv (PyProof.Rows.callWith_builtin1 (thn (ha.run pos pins s σ H _ I h) fun us s1 ⟨vs, H1, I1, r1, q⟩ => hc pins s1 σ H1 vs us Q I1 r1 q) he hpl) hn hdb)⟩
/-- what is wanted of an own special method at values vs -/
def OwnS (X : Cx) (T : Th) (name : Str) (post : D → Option W) (σ : L2.St) (xs : List V) (H : Hp) (Q : VK) : Prop := ∃ (a : Addr) (P : AS) (O : AS) (env : SEnv) (c : Str) (dfs : List (Str × D)) (ws : List V) (ds : List D) (o : List FArg → FOut), xs = .ref a :: ws ∧ EnvOk (T.cn P) H O σ env ∧ Rep T.K (hid H (Un2 O P)) (.ref a) (.obj c dfs) ∧ Reps T.K (hid H (Un2 O P)) ws ds ∧ MOk X T c name [] o ∧
  RD T P σ H O Q (match o ((false, .obj c dfs) :: ds.map fun d => (false, d)) with
    | .ret w [] => retO (post w.2) env
    | .ex x [] => .ex x env
    | _ => .st)
/-- the own method is run, below the running body -/
theorem own_sp {name : Str} {post : D → Option W} {σ : L2.St} {xs : List V} {us : List Value} {H : Hp} {Q : VK} {pins : List (Addr × Obj)} {s : Shared} (tk : Takes X T.W) (I : Inv X pins σ H s) (r : Vals xs us) (h : OwnS X T name post σ xs H Q) :
    ∃ (a C f : Addr) (k : Nat) (ox : Obj) (od : Option Obj), us.head? = some (.ref a) ∧ PySem.W.InstAt s.heap a ox C od ∧ Cls X.K C ∧ Meth X.K C name f ∧ RoomG (k + 3) X.A ∧ ∀ A, SubG X k A → wpAny (model X.prog X.w) A (call (.ref f) us) (fun v s2 => ∃ (v' : V) (H2 : Hp) (P : AS) (O2 : AS) (env : SEnv) (d2 : D), Inv X pins σ H2 s2 ∧ RelV v' v ∧ EnvOk (T.cn P) H2 O2 σ env ∧ Rep T.K (hid H2 (Un2 O2 P)) v' d2 ∧ RD T P σ H2 O2 Q (retO (post d2) env)) X.xe s := by
  obtain ⟨a, P, O, env, c, dfs, ws, ds, o, rfl, e1, rep, reps, hm, q⟩ := h
  obtain ⟨cl, k, f, fd, ps, n, np, dvs, dsv, hme, F, hr, hb, hd, hdv, hnp, ho0⟩ := hm
  have hdv0 : dvs = [] := List.length_eq_zero_iff.mp (by simpa using (hdv H).length)
  subst hdv0
  cases r with
  | @cons _ u _ us rv rr =>
    obtain rfl : u = Value.ref a := rv
    have sp := sp_own (post := post) (vs := .ref a :: ws) (ds := .obj c dfs :: ds) hnp ho0 e1 (.cons rep reps) q
    cases rep with
    | @obj _ dx _ fs _ ha hf =>
      obtain ⟨mA, Ob, _⟩ := ins_get I.hok (hid_same _ _ ha)
      obtain ⟨od, J, _⟩ := Ob.look
      refine ⟨a, _, f, k, _, _, rfl, J, cl, hme, hr, fun A sb => ?_⟩
      refine thn (own_run (vs := .ref a :: ws) (us := .ref a :: us) (E := WE T.W σ) sb F hb hd (passAt tk σ) I (.cons rfl rr) (by rw [List.append_nil]; exact sp)) fun v s2 hv => ?_
      obtain ⟨v', H2, I2, rv2, O2, d2, st2, e2, rep2, q2⟩ := hv
      exact ⟨v', H2, P, O2, env, d2, I2, rv2, e2, rep2, q2⟩
theorem call_lenO (tk : Takes X T.W) : CallS X (.builtin "len") (fun σ xs H Q => xs.length = 1 ∧ OwnS X T "__len__" postLen σ xs H Q) := by
  intro pins s σ H xs us Q I r ⟨h1, h⟩
  obtain ⟨a, C, f, k, ox, od, hh, J, cl, hme, hr, run⟩ := own_sp tk I r h
  obtain rfl : us = [.ref a] := by
    have := r.length
    cases us with
    | nil => cases hh
    | cons u us =>
      cases hh
      have : us = [] := List.length_eq_zero_iff.mp (by simp at this; omega)
      rw [this]
  obtain ⟨m0, F0⟩ := I.fr
  refine PySem.W.len_K F0 I.ok.mod.kin J hme.at_ hme.fn (thn (run X.A.in1 ⟨(hr.mono (j := k + 1) (by omega)).in1, rfl⟩) fun v s2 hv => ?_)
  obtain ⟨v', H2, P, O2, env, d2, I2, rv2, e2, rep2, q2⟩ := hv
  unfold retO at q2
  cases rep2 with
  | @int i =>
    obtain ⟨t, rfl⟩ := rv2
    unfold postLen at q2
    by_cases hb : 0 ≤ i ∧ i < 9223372036854775808
    · simp only [if_pos hb] at q2
      exact ⟨⟨hb.1, by have := hb.2; omega⟩, .int i, H2, I2.tok _, ⟨_, rfl⟩, RD.val q2 e2 .int⟩
    · simp only [if_neg hb] at q2
      exact q2.elim
  | _ => exact q2.elim
theorem CallS.or {g : Value} {r r' : L2.St → List V → Hp → VK → Prop} (h : CallS X g r) (h' : CallS X g r') : CallS X g (fun σ xs H Q => r σ xs H Q ∨ r' σ xs H Q) := fun pins s σ H xs us Q I rv z => z.elim (h pins s σ H xs us Q I rv) (h' pins s σ H xs us Q I rv)
theorem CallS.of {g : Value} {r : List V → Hp → VK → Prop} (h : CallR X g r) : CallS X g (fun _ => r) := fun pins s σ H xs us Q I rv z => h pins s σ H xs us Q I rv z
theorem objOf_ok {x : DL.Arg} {env : SEnv} {c : Str} {fs : List (Str × D)} (h : objOf x (argDat env x) = some (c, fs)) : x = .val (.obj c fs) := by
  cases x with
  | val d =>
    have h : objOf (.val d) (some d) = some (c, fs) := h
    cases d <;> first | (cases h; done) | skip
    unfold objOf at h
    cases h
    rfl
  | lend i =>
    unfold objOf at h
    cases h
theorem g_len (hK : X.K = T.K) (hm : ∀ c dds f, tab c = some (dds, f) → MOk X T c "__len__" dds f) (tk : Takes X T.W) (hg : Gl X "len") (hmg : X.mg "len" = none) (he : PE X e (tOpd T ma)) (hst : noStar [e] = true) : PE X (.Call (.Name "len" p) [e] [] pos) (tD T (dLen tab ma)) := by
  refine (pe_callS (CallS.or (CallS.of (callR_or call_len_seq call_len_str)) (call_lenO (T := T) tk)) hg hmg boot_len (pa_cons he pa_nil (starEach_cons hst)) (by decide) (by decide) (starEach_cons hst) (any_plain (noStar_tail hst))).to fun σ H Q q => ?_
  obtain ⟨P, O, env, hen, q⟩ := q
  refine rd_opd hen q fun v H1 O1 env1 x s1 e1 r1 q1 => ?_
  unfold lenK at q1
  cases ho : objOf x (argDat env1 x) with
  | none =>
    simp only [ho] at q1
    cases hd : argDat env1 x with
    | none => simp only [hd] at q1; exact q1.elim
    | some d =>
      simp only [hd] at q1
      unfold retO at q1
      cases hf : lenF [d] with
      | none => rw [hf] at q1; exact q1.elim
      | some w =>
        rw [hf] at q1
        rw [hK]
        exact .inl (n_len T P σ H1 O1 env1 [v] [d] w Q rfl e1 (.cons (pk_of e1 r1 hd) .nil) hf q1)
  | some z =>
    obtain ⟨c, dfs⟩ := z
    simp only [ho] at q1
    have ex := objOf_ok ho
    subst ex
    have rep : Rep T.K (hid H1 (Un2 O1 P)) v (.obj c dfs) := r1
    refine .inr ⟨rfl, ?_⟩
    have q1 : RD T P σ H1 O1 Q (match tab c with
      | some ([], f) => (match f ((false, D.obj c dfs) :: ([] : List D).map fun d => (false, d)) with
        | .ret w [] => retO (postLen w.2) env1
        | .ex x [] => .ex x env1
        | _ => .st)
      | _ => .st) := q1
    cases htab : tab c with
    | none => rw [htab] at q1; exact q1.elim
    | some z =>
      obtain ⟨dds, o'⟩ := z
      rw [htab] at q1
      cases dds with
      | cons _ _ => exact q1.elim
      | nil =>
        cases rep with
        | @obj a dx _ fs _ ha hf => exact ⟨a, P, O1, env1, c, dfs, [], [], o', rfl, e1, .obj ha hf, .nil, hm c [] o' htab, q1⟩
end
end DL
set_option maxHeartbeats 8000000
/-! DL16: the compiler: from the text to denotations. -/
namespace DL
open PySem PySem.Spec PyProof.Rows L2

structure FSig where
  id : FId
  n : Nat
  np : Nat
  dfl : List D
  io : List Bool
/-- the module: defs and classes by name, methods by name and class, plain fields, constants, built-ins that are free -/
structure Gm where
  fns : List (Str × FSig)
  clss : List (Str × FSig)
  mths : List (Str × List (Str × FSig))
  flds : List (Str × List Str)
  cons : List (Str × D)
  free : List Str
  /-- own classes by name; those whose instances isinstance may look at; its answers -/
  ccs : List Str
  tys : List Str
  isi : List (CRef × CRef × Bool)
  /-- own exceptions that keep one argument: class, field; all own exceptions; which clause takes which -/
  excs : List (Str × Str)
  xcs : List Str
  exm : List (Str × Str × Bool)
  /-- in an except suite -/
  hot : Bool
/-- what an except suite may use -/
def Gm.bare (G : Gm) : Gm := ⟨[], [], [], G.flds, G.cons, G.free, G.ccs, G.tys, G.isi, G.excs, G.xcs, G.exm, true⟩
def exmT (l : List (Str × Str × Bool)) (a b : Str) : Option Bool := (l.find? fun p => decide (p.1 = a) && decide (p.2.1 = b)).map (·.2.2)

def visB (sc : Scope) (x : Str) : Bool := match sc.names.lookup x with
  | some .local => true
  | some .cell => true
  | some .free => true
  | _ => false
def globB (sc : Scope) (x : Str) : Bool := match sc.names.lookup x with
  | some .globalImplicit => true
  | _ => false
def locB (sc : Scope) (x : Str) : Bool := match sc.names.lookup x with
  | some .local => true
  | some .cell => true
  | _ => false
def idxOf (x : Str) : List Str → Nat → Option Nat
  | [], _ => none
  | y :: r, n => if x = y then some n else idxOf x r (n + 1)
theorem idxOf_ok {x : Str} : ∀ {N : List Str} {n i : Nat}, idxOf x N n = some i → n ≤ i ∧ N[i - n]? = some x
  | [], _, _, h => by cases h
  | y :: r, n, i, h => by
    unfold idxOf at h
    by_cases e : x = y
    · rw [if_pos e] at h
      cases h
      exact ⟨Nat.le_refl _, by simp [e]⟩
    · rw [if_neg e] at h
      obtain ⟨h1, h2⟩ := idxOf_ok h
      refine ⟨by omega, ?_⟩
      have : i - n = (i - (n + 1)) + 1 := by omega
      rw [this]
      simpa using h2
/-- names that the model treats by themselves -/
def odd (x : Str) : Bool := x == ("__debug__" : Str) || x == ("__classdict__" : Str) || x == ("__name__" : Str)
/-- the slot of a name that can be read -/
def slotR (N : List Str) (sc : Scope) (x : Str) : Option Nat := if visB sc x && !odd x then idxOf x N 0 else none
/-- the slot of a name that can be stored -/
def slotW (N : List Str) (sc : Scope) (x : Str) : Option Nat := if locB sc x && !odd x then idxOf x N 0 else none

abbrev EC := Scope → Expr → EDen
section
variable (G : Gm) (orc : Orc) (N : List Str) (r : EC) (rt : Scope → Expr → TDen) (sc : Scope)
def cO (e : Expr) : Opd := match e with
  | .Name x _ => (match slotR N sc x with
    | some i => .pk i
    | none => .ex (r sc e))
  | _ => .ex (r sc e)
def cA : List Expr → ADen
  | [] => aNil
  | e :: es => if noStar [e] then aCons (r sc e) (cA es) else aSt
/-- arguments of a built-in: looked at -/
def cR : List Expr → ArgDen
  | [] => rNil
  | e :: es => match e with
    | .Name x _ => (match slotR N sc x with
      | some i => rPk i (cR es)
      | none => rVal (r sc e) (cR es))
    | _ => rVal (r sc e) (cR es)
def rSt : ArgDen := fun _ => .st
/-- arguments of a def: given or lent -/
def cF : List Bool → List Expr → ArgDen
  | _, [] => rNil
  | true :: bs, e :: es => (match e with
    | .Name x _ => (match slotR N sc x with
      | some i => rLend i (cF bs es)
      | none => rSt)
    | _ => rSt)
  | _ :: bs, e :: es => rVal (r sc e) (cF bs es)
  | [], e :: es => rVal (r sc e) (cF [] es)
def binF : Operator → Option (D → D → Option W)
  | .Add => some addF
  | .Sub => some subF
  | .Mult => some mulF
  | .Mod => some modF
  | .FloorDiv => some fdivF
  | .Pow => some powF
  | _ => none
def cmpF : CmpOp → D → D → Option W
  | .Eq => eqF false
  | .NotEq => eqF true
  | .Lt => ordF fun i j => decide (i < j)
  | .LtE => ordF fun i j => decide (i ≤ j)
  | .Gt => ordF fun i j => decide (j < i)
  | .GtE => ordF fun i j => decide (j ≤ i)
  | .Is => isF false
  | .IsNot => isF true
  | .In => inF false
  | .NotIn => inF true
/-- a op b op c -/
def dChain (f g : D → D → Option W) (a b c : Opd) : EDen := evO a fun x => evO b fun y => fun env => match retF f x y env with
  | .ok (_, .bl true) env1 => evO c (fun z => retF g y z) env1
  | .ok (_, .bl false) env1 => .ok (false, .bl false) env1
  | _ => .st
def bltOf (x : Str) : Option Blt := blts.find? fun b => decide (bltName b = x)
/-- the defaults that fill up -/
def fill (s : FSig) (given : Nat) : List D := s.dfl.drop (s.dfl.length - (s.np - given))
def mtab (name : Str) (given : Nat) : MTab := fun c => ((G.mths.lookup name).bind fun l => l.lookup c).map fun s => (fill s (given + 1), orc s.id)
def cCall (x : Str) (es : List Expr) : EDen := if globB sc x && !odd x && noStar es then (match G.fns.lookup x with
    | some s => dCall (orc s.id) (rDfl (cF N r sc s.io es) (fill s es.length))
    | none => (match G.clss.lookup x with
      | some s => dMake x (orc s.id) (rDfl (cF N r sc (s.io.drop 1) es) (fill s (es.length + 1)))
      | none => (match bltOf x with
        | some b => if G.free.contains x && !es.isEmpty && !G.hot then dPN b.f (cR N r sc es) else dSt
        | none => dSt))) else dSt
def tyNames : List (Str × String) := [("int", "int"), ("str", "str"), ("bool", "bool"), ("list", "list"), ("tuple", "tuple"), ("dict", "dict")]
def cCls (e : Expr) : Option CRef := match e with
  | .Name x _ => if globB sc x && !odd x then (if G.ccs.contains x then some (.own x) else if G.free.contains x then (tyNames.lookup x).map .ty else none) else none
  | _ => none
def cClss : List Expr → Option (List CRef)
  | [] => some []
  | e :: es => match cCls G sc e, cClss es with
    | some c, some cs => some (c :: cs)
    | _, _ => none
/-- in a suite: a name that may hold the exception -/
def cXc (e : Expr) (k : Nat → EDen → EDen) (m : EDen) : EDen := match e with
  | .Name x _ => if G.hot then (match slotR N sc x with
    | some i => k i m
    | none => m) else m
  | _ => m
def okXf (f c : Str) : Bool := match G.excs.lookup c with
  | some g => decide (g = f)
  | none => false
def cIsi (e ce : Expr) : EDen := if globB sc "isinstance" && G.free.contains "isinstance" && noStar [e, ce] then (match ce with
    | .Tuple es _ _ => (match cClss G sc es with
      | some cs => if noStar es && decide (cs.length ≤ 100) then cXc G N sc e (fun i => dXi (fun c => G.xcs.contains c) (isiT G.isi) i cs) (dP1 (isiF (isiT G.isi) (fun c => G.tys.contains c) cs) (cO N r sc e)) else dSt
      | none => dSt)
    | ce => (match cCls G sc ce with
      | some c => cXc G N sc e (fun i => dXi (fun c => G.xcs.contains c) (isiT G.isi) i [c]) (dP1 (isiF (isiT G.isi) (fun c => G.tys.contains c) [c]) (cO N r sc e))
      | none => dSt)) else dSt
def cCallX (x : Str) (es : List Expr) : EDen := if x = ("isinstance" : Str) then (match es with
    | [a, b] => cIsi G N r sc a b
    | _ => dSt)
  else if x = ("len" : Str) then (match es with
    | [a] => if globB sc "len" && G.free.contains "len" && noStar [a] then dLen (mtab G orc "__len__" 0) (cO N r sc a) else dSt
    | _ => dSt)
  else if x = ("str" : Str) then (match es with
    | [a] => if globB sc "str" && G.free.contains "str" && noStar [a] then dStr (mtab G orc "__str__" 0) (r sc a) else dSt
    | _ => dSt)
  else cCall G orc N r sc x es
/-- the slots of the comprehension's own names -/
def ownOf (scope : Scope) : List (Str × Nat) := scope.names.filterMap fun (n, k) => match k with
  | .local => (idxOf n N 0).map fun i => (n, i)
  | .cell => (idxOf n N 0).map fun i => (n, i)
  | _ => none
def blkSc (scope : Scope) : Scope := { scope with names := scope.names.map fun (n, k) => if (k == NameKind.free && sc.kind == .function && sc.names.lookup n == some .cell) then (n, NameKind.cell) else (n, k) }
/-- a target -/
def cG : Expr → Option (GDen × List Nat)
  | .Name x _ => (slotW N sc x).map fun i => (gNm i, [i])
  | _ => none
def cGs : List Expr → Option (GsDen × List Nat)
  | [] => some (gsNil, [])
  | e :: es => match cG N sc e, cGs es with
    | some (g, ks), some (k, ks') => some (gsCons g k, ks ++ ks')
    | _, _ => none
def cTg : Expr → Option (GDen × List Nat)
  | .Name x p => cG N sc (.Name x p)
  | .Tuple es _ _ => (cGs N sc es).map fun z => (gTu z.1 es.length, z.2)
  | _ => none
def isTup : Expr → Bool
  | .Tuple _ _ _ => true
  | _ => false
def notSet : Expr → Bool
  | .Set _ _ _ => false
  | _ => true
/-- what is walked -/
def cI (tg : Expr) (e : Expr) : IDen := match e with
  | .Call (.Name x _) es [] _ =>
    if x = ("range" : Str) then (if globB sc x && G.free.contains x && noStar es then (match es with
      | [_] => iArgs range1F (cA r sc es)
      | [_, _] => iArgs range2F (cA r sc es)
      | [_, _, _] => iArgs range3F (cA r sc es)
      | _ => iSt) else iSt)
    else if x = ("zip" : Str) then (if globB sc x && G.free.contains x && noStar es && isTup tg then (match es with
      | [_, _] => iArgs zipF (cA r sc es)
      | _ => iSt) else iSt)
    else if x = ("enumerate" : Str) then (if globB sc x && G.free.contains x && noStar es && isTup tg then (match es with
      | [_] => iArgs enumF (cA r sc es)
      | _ => iSt) else iSt)
    else iSeq (r sc e)
  | _ => if notSet e then iSeq (r sc e) else iSt
def cLc (elt tg iter : Expr) (ifs : List Expr) (scope : Scope) : EDen := match cTg N scope tg with
  | some (g, ks) => if blkC N sc scope (ownOf N scope) && ks.all (fun k => ((ownOf N scope).map (·.2)).contains k) && notSet iter && !G.hot then
      dLc (cI G r sc tg iter) g (match ifs with
        | [] => fun env => .ok true env
        | [c] => rt (blkSc sc scope) c
        | _ => dStT) (r (blkSc sc scope) elt) ((ownOf N scope).map (·.2)) else dSt
  | none => dSt
def cPart : Option Expr → PDen
  | none => none
  | some e => some (r sc e)
/-- one level of an expression -/
def stepE (e : Expr) : EDen := match e with
  | .Constant .none _ _ => dC .non
  | .Constant (.bool b) _ _ => dC (.bl b)
  | .Constant (.int i) _ _ => dC (.int i)
  | .Constant (.str s) _ _ => dC (.str s)
  | .Name x _ => (match slotR N sc x with
    | some i => dVar i
    | none => if globB sc x && !odd x then (match G.cons.lookup x with
      | some d => dC d
      | none => dSt) else dSt)
  | .BinOp a op b _ => (match binF op with
    | some f => dP2 f (cO N r sc a) (cO N r sc b)
    | none => dSt)
  | .Compare a [op] [b] _ => if behindInMarks op b then dSt else dP2 (cmpF op) (cO N r sc a) (cO N r sc b)
  | .Compare a [op, op'] [b, c] _ => if notSet b && notSet c then dChain (cmpF op) (cmpF op') (cO N r sc a) (cO N r sc b) (cO N r sc c) else dSt
  | .UnaryOp .USub a _ => dP1 negF (cO N r sc a)
  | .UnaryOp .Not a _ => dNotV (r sc a)
  | .BoolOp .And [a, b] _ => dAndV (r sc a) (r sc b)
  | .BoolOp .And [a, b, c] _ => dAndV (r sc a) (dAndV (r sc b) (r sc c))
  | .BoolOp .Or [a, b] _ => dOrV (r sc a) (r sc b)
  | .BoolOp .Or [a, b, c] _ => dOrV (r sc a) (dOrV (r sc b) (r sc c))
  | .IfExp c a b _ => dIfE (rt sc c) (r sc a) (r sc b)
  | .Tuple es _ _ => dTup (cA r sc es)
  | .List es _ => dLst (cA r sc es)
  | .Subscript a (.Slice lo hi none _) _ => dSlice (cO N r sc a) (cPart r sc lo) (cPart r sc hi)
  | .Subscript _ (.Slice _ _ _ _) _ => dSt
  | .Subscript a b _ => dP2 ixF (cO N r sc a) (cO N r sc b)
  | .Attribute a f _ => if notSuper a then cXc G N sc a (fun i => dXf (okXf G f) i f) (dP1 (fldF (fun c => ((G.flds.lookup f).getD []).contains c) f) (cO N r sc a)) else dSt
  | .Call (.Name x _) es [] _ => cCallX G orc N r sc x es
  | .FormattedValue e k none _ => if k = -1 then dFmt (r sc e) else dSt
  | .JoinedStr [e] _ => r sc e
  | .JoinedStr (v1 :: v2 :: rest) _ => joinGo (r sc v1 :: r sc v2 :: rest.map (r sc)) Str.empty
  | .Call (.Attribute o m apos) es [] pos => if notSuper o && noStar es && decide (es.length < 30) && (apos.endLine == pos.line) then dMeth m (mtab G orc m es.length) (r sc o) (cF N r sc [] es) else dSt
  | .ListComp elt [⟨tg, iter, ifs, 0⟩] scope _ => cLc G N r rt sc elt tg iter ifs scope
  | _ => dSt
/-- one level of a test -/
def stepT (e : Expr) : TDen := match e with
  | .UnaryOp .Not a _ => dNot (rt sc a)
  | .BoolOp .And [a] _ => rt sc a
  | .BoolOp .And [a, b] _ => dAnd (rt sc a) (rt sc b)
  | .BoolOp .And [a, b, c] _ => dAnd (rt sc a) (dAnd (rt sc b) (rt sc c))
  | .BoolOp .Or [a, b] _ => dOr (rt sc a) (rt sc b)
  | .BoolOp .Or [a, b, c] _ => dOr (rt sc a) (dOr (rt sc b) (rt sc c))
  | .BoolOp _ _ _ => dStT
  | .Compare a [op] [b] _ => if behindInMarks op b then dStT else dTest (dP2 (cmpF op) (cO N r sc a) (cO N r sc b))
  | .Compare a [op, op'] [b, c] _ => if notSet b && notSet c then dTest (dChain (cmpF op) (cmpF op') (cO N r sc a) (cO N r sc b) (cO N r sc c)) else dStT
  | .Compare _ _ _ _ => dStT
  | .IfExp _ _ _ _ => dStT
  | e => dTru (r sc e)
end
/-- n levels -/
def comp (G : Gm) (orc : Orc) (N : List Str) : Nat → (Scope → Expr → EDen) × (Scope → Expr → TDen)
  | 0 => (fun _ _ => dSt, fun _ _ => dStT)
  | n + 1 => (fun sc e => stepE G orc N (comp G orc N n).1 (comp G orc N n).2 sc e, fun sc e => stepT N (comp G orc N n).1 (comp G orc N n).2 sc e)
end DL
set_option maxHeartbeats 8000000
/-! DL17: the compiler of expressions is sound. -/
namespace DL
open PySem PySem.Spec PyProof.Rows L2

/-- what is known of a def that is called -/
def FnFact (X : Cx) (T : Th) (f : Addr) (s : FSig) (o : List FArg → FOut) (up : Nat) : Prop := ∃ (k : Nat) (fd : FuncData) (ps : List Str), FnG X.prog X.w X.K X.mg X.base (L2.CX X.prog X.w) k f fd ps (spD T.K s.n s.np o) ∧ RoomG (k + up) X.A ∧ s.np ≤ s.n ∧
  (∀ ds, ds.length ≠ s.np → o ds = .st) ∧ ∀ j, j ≤ s.dfl.length → ∃ (dvs : List V) (ds : List Value), Binds X.K fd ps ds ∧ Vals dvs ds ∧ ∀ h, Reps T.K h dvs (s.dfl.drop j)
structure CxOk (G : Gm) (orc : Orc) (N : List Str) (X : Cx) (T : Th) (sc : Scope) : Prop where
  K : X.K = T.K
  hN : X.N = N
  sc : X.env.scope = sc
  nd : N.Nodup
  calm : G.hot = false → X.calm = true
  xp : G.hot = false → T.xp = Xp.nil
  held : G.hot = true → HeldX X T.xp
  tk : Takes X T.W
  units : X.A.units + 64 < cLine
  gd : X.A.guards = some []
  fn : ∀ x s, G.fns.lookup x = some s → ∃ f, X.mg x = some (.ref f) ∧ PySem.W.keepIn X.K (.ref f) = true ∧ FnFact X T f s (orc s.id) 0
  cl : ∀ x s, G.clss.lookup x = some s → X.mg x = some (.ref (He.ga T.K x)) ∧ ∃ f, Mk X.K (He.ga T.K x) f ∧ FnFact X T f s (orc s.id) 1
  mt : ∀ name l c s, G.mths.lookup name = some l → l.lookup c = some s → Cls X.K (He.ga T.K c) ∧ ∃ f, Meth X.K (He.ga T.K c) name f ∧ FnFact X T f s (orc s.id) 3
  fl : ∀ f l c, G.flds.lookup f = some l → l.contains c = true → Cls T.K (He.ga T.K c) ∧ NoAttr T.K (He.ga T.K c) f
  cn : ∀ x d, G.cons.lookup x = some d → ∃ v u, X.mg x = some u ∧ RelV v u ∧ ∀ h, Rep T.K h v d
  fr : ∀ x, G.free.contains x = true → X.mg x = none
  cc : ∀ x, G.ccs.contains x = true → X.mg x = some (.ref (He.ga T.K x))
  ty : ∀ c, G.tys.contains c = true → TyC T.K (He.ga T.K c)
  is : ∀ a c b, isiT G.isi a c = some b → PySem.W.kitOne T.K (a.u T.K) (c.u T.K) = some b
  xf : ∀ c f, G.excs.lookup c = some f → XfC T.K (He.ga T.K c) ∧ PySem.W.findIn T.K (.ref (He.ga T.K c)) f = some none
  xi : ∀ c, G.xcs.contains c = true → ExcC T.K (He.ga T.K c)
  em : ∀ a b r, exmT G.exm a b = some r → PySem.W.exmOne T.K (.ref (He.ga T.K a)) (.ref (He.ga T.K b)) = some r
  rs : G.hot = false → ∀ c f, G.excs.lookup c = some f → XFact X T c f

theorem visB_ok {sc : Scope} {x : Str} (h : visB sc x = true) : Vis sc x := by
  unfold visB at h
  split at h
  · exact .inl (by assumption)
  · exact .inr (.inl (by assumption))
  · exact .inr (.inr (by assumption))
  · cases h
theorem locB_ok {sc : Scope} {x : Str} (h : locB sc x = true) : Loc sc x := by
  unfold locB at h
  split at h
  · exact .inl (by assumption)
  · exact .inr (by assumption)
  · cases h
theorem odd_ok {x : Str} (h : odd x = false) : (x == ("__debug__" : Str)) = false ∧ (x == ("__classdict__" : Str)) = false ∧ x ≠ "__name__" := by
  unfold odd at h
  rw [Bool.or_eq_false_iff, Bool.or_eq_false_iff] at h
  exact ⟨h.1.1, h.1.2, by simpa using h.2⟩
section
variable {G : Gm} {orc : Orc} {N : List Str} {X : Cx} {T : Th} {sc : Scope} {r : EC} {rt : Scope → Expr → TDen}
theorem slotR_ok (c : CxOk G orc N X T sc) {x : Str} {i : Nat} {pos : Pos} (h : slotR N sc x = some i) : PE X (.Name x pos) (tVar i) := by
  unfold slotR at h
  by_cases hb : (visB sc x && !odd x) = true
  · rw [if_pos hb] at h
    rw [Bool.and_eq_true] at hb
    have h2 := idxOf_ok h
    obtain ⟨o1, o2, _⟩ := odd_ok (x := x) (by simpa using hb.2)
    exact pe_var (by rw [c.hN]; simpa using h2.2) (by rw [c.sc]; exact visB_ok hb.1) o1 o2
  · rw [if_neg hb] at h
    cases h
theorem glob_ok (c : CxOk G orc N X T sc) {x : Str} (h : globB sc x = true) : Gl X x := by
  unfold globB at h
  split at h
  · show X.env.scope.names.lookup x = _
    rw [c.sc]
    assumption
  · cases h
variable (c : CxOk G orc N X T sc) (hr : ∀ e, PE X e (tD T (r sc e)))
include c hr
theorem sO (e : Expr) : PE X e (tOpd T (cO N r sc e)) := by
  unfold cO
  split
  · rename_i x p
    cases h : slotR N sc x with
    | some i => exact slotR_ok c h
    | none => exact hr _
  · exact hr _
omit c in
theorem sA : ∀ es : List Expr, PA X es (tDA T (cA r sc es))
  | [] => ga_nil
  | e :: es => by
    unfold cA
    by_cases h : noStar [e] = true
    · rw [if_pos h]
      refine ga_cons (hr e) (sA es) ?_
      cases e with
      | Starred _ _ => cases h
      | _ => rfl
    · rw [if_neg h]
      exact ga_st
theorem sR : ∀ es : List Expr, noStar es = true → PA X es (tDGa T (cR N r sc es))
  | [], _ => gr_nil
  | e :: es, hst => by
    have ih := sR es (noStar_tail hst)
    unfold cR
    split
    · rename_i x p
      cases h : slotR N sc x with
      | some i => exact gr_pk (slotR_ok c h) ih (starEach_cons hst)
      | none => exact gr_val (hr _) ih (starEach_cons hst)
    · exact gr_val (hr _) ih (starEach_cons hst)
omit c hr in
theorem gr_st {es : List Expr} : PA X es (tDGa T rSt) := ⟨fun _ _ _ _ _ _ _ ⟨_, _, _, _, h⟩ => h.elim⟩
theorem sF : ∀ (bs : List Bool) (es : List Expr), noStar es = true → PA X es (tDGa T (cF N r sc bs es))
  | [], [], _ => by unfold cF; exact gr_nil
  | b :: bs, [], _ => by unfold cF; exact gr_nil
  | true :: bs, e :: es, hst => by
    have ih := sF bs es (noStar_tail hst)
    unfold cF
    split
    · rename_i x p
      cases h : slotR N sc x with
      | some i => exact gr_lend (slotR_ok c h) ih (starEach_cons hst)
      | none => exact gr_st
    · exact gr_st
  | false :: bs, e :: es, hst => by
    unfold cF
    exact gr_val (hr _) (sF bs es (noStar_tail hst)) (starEach_cons hst)
  | [], e :: es, hst => by
    unfold cF
    exact gr_val (hr _) (sF [] es (noStar_tail hst)) (starEach_cons hst)
theorem s_bin {a b : Expr} {op : Operator} {pos : Pos} {f : D → D → Option W} (h : binF op = some f) : PE X (.BinOp a op b pos) (tD T (dP2 f (cO N r sc a) (cO N r sc b))) := by
  have ha := sO c hr a
  have hb := sO c hr b
  cases op <;> cases h
  · exact gp_bin op_addD (by rw [c.K]; exact prim_add) ha hb
  · exact gp_bin op_sub prim_sub ha hb
  · exact gp_bin op_mulD prim_mul ha hb
  · exact gp_bin op_mod prim_mod ha hb
  · exact gp_bin op_pow prim_pow ha hb
  · exact gp_bin op_fdivW prim_fdiv ha hb
omit hr in
/-- a comparison's rule -/
theorem s_cmp (op : CmpOp) : ∃ rr, OpR X (compareOp op) rr ∧ Prim2 T.K (cmpF op) rr := by
  have hu := c.units
  cases op with
  | Eq => exact ⟨_, opR_or op_eq (opR_or (op_eqLen hu) (op_eqD hu)), by rw [c.K]; exact prim_eq⟩
  | NotEq => exact ⟨_, opR_or op_ne (opR_or (op_neLen hu) (op_neD hu)), by rw [c.K]; exact prim_ne⟩
  | Lt => exact ⟨_, op_lt, prim_ord⟩
  | LtE => exact ⟨_, op_le, prim_ord⟩
  | Gt => exact ⟨_, op_gt, prim_ord⟩
  | GtE => exact ⟨_, op_ge, prim_ord⟩
  | Is => exact ⟨_, op_isN, prim_is⟩
  | IsNot => exact ⟨_, op_notN, prim_isNot⟩
  | In => exact ⟨_, op_inD, by rw [c.K]; exact prim_in⟩
  | NotIn => exact ⟨_, op_notInD', by rw [c.K]; exact prim_in⟩
end
end DL
namespace DL
open PySem PySem.Spec PyProof.Rows L2
section
variable {G : Gm} {orc : Orc} {N : List Str} {X : Cx} {T : Th} {sc : Scope} {r : EC} {rt : Scope → Expr → TDen}
theorem rd_chain {f g : D → D → Option W} {r1 r2 : R2} (hf : Prim2 T.K f r1) (hg : Prim2 T.K g r2) {ma mb mc : Opd} {σ : L2.St} {H : Hp} {Q : VK} (q : tD T (dChain f g ma mb mc) σ H Q) : tChain r1 r2 (tOpd T ma) (tOpd T mb) (tOpd T mc) σ H Q := by
  obtain ⟨P, O, env, he, q⟩ := q
  refine rd_opd he q fun v1 H1 O1 env1 x s1 e1 a1 q1 => ?_
  refine rd_opd e1 q1 fun v2 H2 O2 env2 y s2 e2 a2 q2 => ?_
  have p1 : ∀ d1, argDat env2 x = some d1 → Pk T.K H2 (hid H2 (Un2 O2 P)) v1 d1 := fun d1 g1 => pk_of e2 (a1.mono s2.same) g1
  have p2 : ∀ d2, argDat env2 y = some d2 → Pk T.K H2 (hid H2 (Un2 O2 P)) v2 d2 := fun d2 g2 => pk_of e2 a2 g2
  cases g1 : argDat env2 x with
  | none => simp only [retF, g1] at q2; exact q2.elim
  | some d1 =>
    cases g2 : argDat env2 y with
    | none => simp only [retF, g1, g2] at q2; exact q2.elim
    | some d2 =>
      simp only [retF, g1, g2, retO] at q2
      cases gf : f d1 d2 with
      | none => simp only [gf] at q2; exact q2.elim
      | some w =>
        simp only [gf] at q2
        obtain ⟨bw, dw⟩ := w
        refine hf T P σ H2 O2 env2 v1 v2 d1 d2 (bw, dw) _ rfl e2 (p1 _ g1) (p2 _ g2) gf fun v3 H3 O3 s3 e3 r3 => ?_
        obtain ⟨O4, s4, e4, r4⟩ := r3.frz e3
        have r4 : Rep T.K (hid H3 (Un2 O4 P)) v3 dw := r4
        have s34 := s3.trans s4
        cases dw with
        | bl k =>
          cases r4
          refine ⟨k, rfl, ?_⟩
          cases k with
          | true =>
            rw [if_pos rfl]
            have q3 := RD.step q2 s34
            refine rd_opd e4 q3 fun v5 H5 O5 env5 z s5 e5 a5 q5 => ?_
            unfold retF at q5
            cases h1 : argDat env5 y with
            | none => simp only [h1] at q5; exact q5.elim
            | some d2' =>
              cases h2 : argDat env5 z with
              | none => simp only [h1, h2] at q5; exact q5.elim
              | some d3 =>
                simp only [h1, h2] at q5
                unfold retO at q5
                cases gg : g d2' d3 with
                | none => rw [gg] at q5; exact q5.elim
                | some w5 =>
                  rw [gg] at q5
                  exact hg T P σ H5 O5 env5 v2 v5 d2' d3 w5 Q rfl e5 (pk_of e5 (a2.mono (s34.trans s5).same) h1) (pk_of e5 a5 h2) gg q5
          | false =>
            rw [if_neg Bool.false_ne_true]
            exact RD.val (RD.step q2 s34) e4 .bl
        | _ => exact q2.elim
end
end DL
set_option maxHeartbeats 8000000
/-! DL18: the compiler of expressions is sound, the whole. -/
namespace DL
open PySem PySem.Spec PyProof.Rows L2
section
variable {G : Gm} {orc : Orc} {N : List Str} {X : Cx} {T : Th} {sc : Scope} {r : EC} {rt : Scope → Expr → TDen}
theorem CxOk.blk (c : CxOk G orc N X T sc) (hot : G.hot = false) (s : Shared) (H : Hp) (scope : Scope) (C : Addr) (cl : List (Str × Addr)) (fp : List Addr) : CxOk G orc N (X.blk s H scope (compEnvC scope cl C X.env) fp) T.in0 (blkSc sc scope) where
  K := c.K
  hN := c.hN
  sc := by rw [← c.sc]; rfl
  nd := c.nd
  calm := c.calm
  xp := c.xp
  held := fun z => by rw [hot] at z; cases z
  tk := takes0
  units := c.units
  gd := c.gd
  fn := c.fn
  cl := c.cl
  mt := c.mt
  fl := c.fl
  cn := c.cn
  fr := c.fr
  cc := c.cc
  ty := c.ty
  is := c.is
  xf := c.xf
  xi := c.xi
  em := c.em
  rs := fun h a f z => by
    obtain ⟨h1, h2, h3⟩ := c.rs h a f z
    exact ⟨h1, h2, h3⟩
theorem free_in (c : CxOk G orc N X T sc) {x : Str} (h : G.free.contains x = true) : X.mg x = none := c.fr x h
theorem sI (c : CxOk G orc N X T sc) (hr : ∀ e, PE X e (tD T (r sc e))) (tg e : Expr) (hs : notSet e = true) : PI X tg e (tDI T (cI G r sc tg e)) := by
  unfold cI
  split
  · rename_i x p es pos
    by_cases h1 : x = ("range" : Str)
    · rw [if_pos h1]
      subst h1
      by_cases h2 : (globB sc ("range" : Str) && G.free.contains ("range" : Str) && noStar es) = true
      · rw [if_pos h2]
        rw [Bool.and_eq_true, Bool.and_eq_true] at h2
        have hg := glob_ok c h2.1.1
        have hm := c.fr _ h2.1.2
        split
        · exact gi_range1 hg hm (sA hr _) h2.2
        · exact gi_range2 hg hm (sA hr _) h2.2
        · exact gi_range3 hg hm (sA hr _) h2.2
        · exact gi_st
      · rw [if_neg h2]
        exact gi_st
    · rw [if_neg h1]
      by_cases h3 : x = ("zip" : Str)
      · rw [if_pos h3]
        subst h3
        by_cases h2 : (globB sc ("zip" : Str) && G.free.contains ("zip" : Str) && noStar es && isTup tg) = true
        · rw [if_pos h2]
          rw [Bool.and_eq_true, Bool.and_eq_true, Bool.and_eq_true] at h2
          have hg := glob_ok c h2.1.1.1
          have hm := c.fr _ h2.1.1.2
          cases tg with
          | Tuple elts kk tpos =>
            split
            · exact gi_zip c.K hg hm (sA hr _) h2.1.2
            · exact gi_st
          | _ => cases h2.2
        · rw [if_neg h2]
          exact gi_st
      · rw [if_neg h3]
        by_cases h4 : x = ("enumerate" : Str)
        · rw [if_pos h4]
          subst h4
          by_cases h2 : (globB sc ("enumerate" : Str) && G.free.contains ("enumerate" : Str) && noStar es && isTup tg) = true
          · rw [if_pos h2]
            rw [Bool.and_eq_true, Bool.and_eq_true, Bool.and_eq_true] at h2
            have hg := glob_ok c h2.1.1.1
            have hm := c.fr _ h2.1.1.2
            cases tg with
            | Tuple elts kk tpos =>
              split
              · exact gi_enum c.K hg hm (sA hr _) h2.1.2
              · exact gi_st
            | _ => cases h2.2
          · rw [if_neg h2]
            exact gi_st
        · rw [if_neg h4]
          exact gi_seq c.K (hr _)
  · rw [if_pos hs]
    exact gi_seq c.K (hr _)
theorem notSet_fold {e : Expr} {env : Env} (h : notSet e = true) : ∀ x, foldedSetIterable e env x = pure x := by
  intro x
  cases e with
  | Set _ _ _ => cases h
  | _ => rfl
theorem fill_le {s : FSig} {n : Nat} : s.dfl.length - (s.np - n) ≤ s.dfl.length := Nat.sub_le _ _
theorem bltOf_ok {x : Str} {b : Blt} (h : bltOf x = some b) : bltName b = x := by
  unfold bltOf at h
  have h2 := List.find?_some h
  exact of_decide_eq_true h2
theorem sCall (c : CxOk G orc N X T sc) (hr : ∀ e, PE X e (tD T (r sc e))) (x : Str) (es : List Expr) (p pos : Pos) : PE X (.Call (.Name x p) es [] pos) (tD T (cCall G orc N r sc x es)) := by
  unfold cCall
  by_cases h1 : (globB sc x && !odd x && noStar es) = true
  · rw [if_pos h1]
    rw [Bool.and_eq_true, Bool.and_eq_true] at h1
    have hg := glob_ok c h1.1.1
    obtain ⟨o1, o2, o3⟩ := odd_ok (x := x) (by simpa using h1.1.2)
    cases h2 : G.fns.lookup x with
    | some s =>
      obtain ⟨f, hm, hk, k, fd, ps, F, hro, hnp, ho0, hb⟩ := c.fn x s h2
      obtain ⟨dvs, ds, b, hv, hd⟩ := hb _ (fill_le (s := s) (n := es.length))
      cases es with
      | nil =>
        have := g_call0 (p := p) (pos := pos) F hro hg hm hk b hv hd hnp ho0 c.tk o1
        show PE X _ (tD T (dCall (orc s.id) (rDfl (cF N r sc s.io []) (fill s 0))))
        have e : cF N r sc s.io [] = rNil := by cases s.io <;> rfl
        rw [e]
        exact this
      | cons e es => exact g_call F hro hg hm hk b hv hd hnp ho0 c.tk (sF c hr _ _ h1.2) o1 (starEach_cons h1.2) (any_plain (noStar_tail h1.2))
    | none =>
      cases h3 : G.clss.lookup x with
      | some s =>
        obtain ⟨hm, f, M, k, fd, ps, F, hro, hnp, ho0, hb⟩ := c.cl x s h3
        obtain ⟨dvs, ds, b, hv, hd⟩ := hb _ (fill_le (s := s) (n := es.length + 1))
        cases es with
        | nil =>
          have := g_make0 (p := p) (pos := pos) M F hro hg hm b hv hd hnp ho0 c.tk o1
          show PE X _ (tD T (dMake x (orc s.id) (rDfl (cF N r sc (s.io.drop 1) []) (fill s 1))))
          have e : cF N r sc (s.io.drop 1) [] = rNil := by cases s.io.drop 1 <;> rfl
          rw [e]
          exact this
        | cons e es => exact g_make M F hro hg hm b hv hd hnp ho0 c.tk (sF c hr _ _ h1.2) o1 (starEach_cons h1.2) (any_plain (noStar_tail h1.2))
      | none =>
        cases h4 : bltOf x with
        | none => exact g_st
        | some b =>
          by_cases h5 : (G.free.contains x && !es.isEmpty && !G.hot) = true
          · show PE X _ (tD T (if (G.free.contains x && !es.isEmpty && !G.hot) = true then dPN b.f (cR N r sc es) else dSt))
            rw [if_pos h5]
            rw [Bool.and_eq_true, Bool.and_eq_true] at h5
            obtain ⟨h5, h6⟩ := h5
            have e := bltOf_ok h4
            subst e
            cases es with
            | nil => exact absurd h5.2 (by decide)
            | cons e es => exact g_blt b c.gd c.units c.K (c.calm (by simpa using h6)) hg (c.fr _ h5.1) (sR c hr _ h1.2) h1.2
          · show PE X _ (tD T (if (G.free.contains x && !es.isEmpty && !G.hot) = true then dPN b.f (cR N r sc es) else dSt))
            rw [if_neg h5]
            exact g_st
  · rw [if_neg h1]
    exact g_st
theorem locB_blk {scope : Scope} {x : Str} (h : locB scope x = true) : (blkSc sc scope).names.lookup x = scope.names.lookup x := by
  unfold locB at h
  show List.lookup x (scope.names.map _) = _
  generalize scope.names = l at h ⊢
  induction l with
  | nil => rfl
  | cons y l ih =>
    obtain ⟨n, k⟩ := y
    rw [List.map_cons]
    by_cases e : x = n
    · subst e
      have h0 : List.lookup x ((x, k) :: l) = some k := by simp
      rw [h0] at h ⊢
      cases k with
      | «local» => simp
      | cell => simp
      | free => cases h
      | globalExplicit => cases h
      | globalImplicit => cases h
    · have h1 : List.lookup x ((n, k) :: l) = List.lookup x l := by simp [List.lookup_cons, beq_false_of_ne e]
      rw [h1] at h ⊢
      have ih := ih h
      rw [← ih]
      simp only []
      by_cases hc : (k == NameKind.free && sc.kind == ScopeKind.function && List.lookup n sc.names == some NameKind.cell) = true
      · rw [if_pos hc]
        simp [List.lookup_cons, beq_false_of_ne e]
      · rw [if_neg hc]
        simp [List.lookup_cons, beq_false_of_ne e]
theorem s_tg {X' : Cx} {T' : Th} {scW : Scope} {tg : Expr} {g : GDen} {ks : List Nat} (hK : X'.K = T'.K) (hN : X'.N = N) (nd : N.Nodup) (calm : X'.calm = true) (st : ∀ x, locB scW x = true → Loc X'.env.scope x ∧ (X'.fn x = true ∨ X'.env.scope.names.lookup x = some .local)) (h : cTg N scW tg = some (g, ks)) : PG X' tg (tDG T' g ks) := by
  have name : ∀ {x : Str} {p : Pos} {g : GDen} {ks : List Nat}, cG N scW (.Name x p) = some (g, ks) → PG X' (.Name x p) (tDG T' g ks) := fun {x p g ks} h => by
    unfold cG at h
    cases h1 : slotW N scW x with
    | none => simp only [h1] at h; cases h
    | some i =>
      simp only [h1] at h
      cases h
      unfold slotW at h1
      by_cases hb : (locB scW x && !odd x) = true
      · rw [if_pos hb] at h1
        rw [Bool.and_eq_true] at hb
        have h2 := idxOf_ok h1
        obtain ⟨s1, s2⟩ := st x hb.1
        exact gg_name (by rw [hN]; exact nd) (by rw [hN]; simpa using h2.2) s1 s2
      · rw [if_neg hb] at h1
        cases h1
  have one : ∀ {e : Expr} {g : GDen} {ks : List Nat}, cG N scW e = some (g, ks) → PG X' e (tDG T' g ks) ∧ ∀ es env, assignEach (e :: es) env = (false, assign e env) :: assignEach es env := fun {e g ks} h => by
    cases e with
    | Name x p => exact ⟨name h, fun _ _ => rfl⟩
    | _ => cases h
  have many : ∀ {es : List Expr} {k : GsDen} {ks : List Nat}, cGs N scW es = some (k, ks) → PGs X' es (tDGs T' k ks) ∧ (∀ env, (assignEach es env).length = es.length) ∧ ∀ env, (assignEach es env).findIdx? (·.1) = none := by
    intro es
    induction es with
    | nil =>
      intro k ks h
      cases h
      exact ⟨ggs_nil, fun _ => rfl, fun _ => rfl⟩
    | cons e es ih =>
      intro k ks h
      unfold cGs at h
      cases h1 : cG N scW e with
      | none => simp only [h1] at h; cases h
      | some z1 =>
        cases h2 : cGs N scW es with
        | none => simp only [h1, h2] at h; cases h
        | some z2 =>
          obtain ⟨g1, k1⟩ := z1
          obtain ⟨g2, k2⟩ := z2
          simp only [h1, h2] at h
          cases h
          obtain ⟨a1, a2⟩ := one h1
          obtain ⟨b1, b2, b3⟩ := ih h2
          refine ⟨ggs_cons a1 b1 (by rw [a2]; rfl), fun env => by rw [a2]; simp [b2 env], fun env => ?_⟩
          rw [a2]
          have := b3 env
          simp only [List.findIdx?_cons, this]
          rfl
  cases tg with
  | Name x p => exact name h
  | Tuple es kk p =>
    have h : (cGs N scW es).map (fun z => (gTu z.1 es.length, z.2)) = some (g, ks) := h
    cases h1 : cGs N scW es with
    | none => rw [h1] at h; cases h
    | some z =>
      obtain ⟨k, ks'⟩ := z
      rw [h1] at h
      cases h
      obtain ⟨a1, a2, a3⟩ := many h1
      exact gg_tup hK calm a1 (a2 _) (a3 _)
  | _ => cases h
theorem sLc (c : CxOk G orc N X T sc) (hr : ∀ e, PE X e (tD T (r sc e))) (ih : ∀ (X' : Cx) (T' : Th) (sc' : Scope), CxOk G orc N X' T' sc' → (∀ e, PE X' e (tD T' (r sc' e))) ∧ ∀ e, PT X' e (tDT T' (rt sc' e))) (elt tg iter : Expr) (ifs : List Expr) (scope : Scope) (pos : Pos) :
    PE X (.ListComp elt [⟨tg, iter, ifs, 0⟩] scope pos) (tD T (cLc G N r rt sc elt tg iter ifs scope)) := by
  unfold cLc
  cases h1 : cTg N scope tg with
  | none => exact g_st
  | some z =>
    obtain ⟨g, ks⟩ := z
    by_cases h2 : (blkC N sc scope (ownOf N scope) && ks.all (fun k => ((ownOf N scope).map (·.2)).contains k) && notSet iter && !G.hot) = true
    · show PE X _ (tD T (if (blkC N sc scope (ownOf N scope) && ks.all (fun k => ((ownOf N scope).map (·.2)).contains k) && notSet iter && !G.hot) = true then _ else dSt))
      rw [if_pos h2]
      rw [Bool.and_eq_true, Bool.and_eq_true, Bool.and_eq_true] at h2
      obtain ⟨h2, hh⟩ := h2
      have hot : G.hot = false := by simpa using hh
      have bk : BlkOk X.N X.env.scope scope (ownOf N scope) := by
        rw [c.hN, c.sc]
        exact blkOk_by h2.1.1
      refine g_lc (ks := ks) (fun k hk => ?_) (c.calm hot) (by rw [c.hN]; exact c.nd) (sI c hr tg iter h2.2) bk (fun s H C cl fp => ?_) (fun s H C cl fp => ?_) (fun s H C cl fp => ?_) (notSet_fold h2.2)
      · have := List.all_eq_true.mp h2.1.2 k hk
        simpa using this
      · have cb := c.blk hot s H scope C cl fp
        refine s_tg cb.K cb.hN c.nd (c.calm hot) (fun x hx => ?_) h1
        have e : (X.blk s H scope (compEnvC scope cl C X.env) fp).env.scope.names.lookup x = scope.names.lookup x := by
          rw [cb.sc]
          exact locB_blk hx
        unfold locB at hx
        split at hx
        · rename_i hl
          exact ⟨.inl (e.trans hl), .inr (e.trans hl)⟩
        · rename_i hl
          refine ⟨.inr (e.trans hl), .inl ?_⟩
          show (scope.names.lookup x == some .cell) = true
          rw [hl]
          rfl
        · cases hx
      · split
        · exact ⟨fun pins s σ H Q I q => pts_nil.run pins s σ H Q I (by obtain ⟨P, O, env, he, q⟩ := q; exact q H O .refl he)⟩
        · exact pts_one ((ih _ _ _ (c.blk hot s H scope C cl fp)).2 _)
        · exact ⟨fun _ _ _ _ _ _ ⟨_, _, _, _, h⟩ => h.elim⟩
      · exact (ih _ _ _ (c.blk hot s H scope C cl fp)).1 _
    · show PE X _ (tD T (if (blkC N sc scope (ownOf N scope) && ks.all (fun k => ((ownOf N scope).map (·.2)).contains k) && notSet iter && !G.hot) = true then _ else dSt))
      rw [if_neg h2]
      exact g_st
end
end DL
set_option maxHeartbeats 8000000
/-! DL19: expressions and tests, every level. -/
namespace DL
open PySem PySem.Spec PyProof.Rows L2
section
variable {G : Gm} {orc : Orc} {N : List Str} {X : Cx} {T : Th} {sc : Scope} {r : EC} {rt : Scope → Expr → TDen}
theorem lastMarks_ok {op op' : CmpOp} {b c : Expr} (h : (notSet b && notSet c) = true) : lastMarks [op, op'] [b, c] = false := by
  rw [Bool.and_eq_true] at h
  show behindInMarks op' c = false
  cases c with
  | Set _ _ _ => cases h.2
  | _ => rfl
theorem mtab_ok (c : CxOk G orc N X T sc) {name : Str} {given : Nat} {cl : Str} {dds : List D} {f : List FArg → FOut} (h : mtab G orc name given cl = some (dds, f)) : MOk X T cl name dds f := by
  unfold mtab at h
  cases h1 : G.mths.lookup name with
  | none => rw [h1] at h; cases h
  | some l =>
    rw [h1] at h
    have h : (l.lookup cl).map (fun s => (fill s (given + 1), orc s.id)) = some (dds, f) := h
    cases h2 : l.lookup cl with
    | none => rw [h2] at h; cases h
    | some s =>
      rw [h2] at h
      cases h
      obtain ⟨k1, g, hm, k, fd, ps, F, hro, hnp, ho0, hb⟩ := c.mt name l cl s h1 h2
      obtain ⟨dvs, ds, b, hv, hd⟩ := hb _ (fill_le (s := s) (n := given + 1))
      exact ⟨k1, k, g, fd, ps, s.n, s.np, dvs, ds, hm, F, hro, b, hv, hd, hnp, ho0⟩
theorem pes_of (hr : ∀ e, PE X e (tD T (r sc e))) : ∀ es : List Expr, PEs X T es (es.map (r sc))
  | [] => .nil
  | e :: es => .cons (hr e) (pes_of hr es)
theorem ty_boot {x : Str} {n : String} (h : tyNames.lookup x = some n) : bootBuiltins x = some (.type n) := by
  have all : (tyNames.all fun p => decide (bootBuiltins p.1 = some (.type p.2))) = true := by decide +kernel
  have hm : (x, n) ∈ tyNames := by
    have : ∀ {l : List (Str × String)}, l.lookup x = some n → (x, n) ∈ l := by
      intro l
      induction l with
      | nil => intro h; simp at h
      | cons p l ih =>
        intro h
        obtain ⟨a, b⟩ := p
        rw [List.lookup_cons] at h
        by_cases e : x = a
        · subst e
          simp at h
          rw [h]
          exact List.mem_cons_self
        · rw [beq_false_of_ne e] at h
          exact List.mem_cons_of_mem _ (ih h)
    exact this h
  exact of_decide_eq_true (List.all_eq_true.mp all _ hm)
theorem cCls_ok (c : CxOk G orc N X T sc) {e : Expr} {cr : CRef} (h : cCls G sc e = some cr) : PE X e (tC (cr.v T.K)) := by
  unfold cCls at h
  split at h
  · rename_i x p
    by_cases h1 : (globB sc x && !odd x) = true
    · rw [if_pos h1] at h
      rw [Bool.and_eq_true] at h1
      obtain ⟨o1, o2, o3⟩ := odd_ok (x := x) (by simpa using h1.2)
      by_cases h2 : G.ccs.contains x = true
      · rw [if_pos h2] at h
        cases h
        exact pe_glob (glob_ok c h1.1) (c.cc x h2) rfl o1
      · rw [if_neg h2] at h
        by_cases h3 : G.free.contains x = true
        · rw [if_pos h3] at h
          cases h4 : tyNames.lookup x with
          | none => rw [h4] at h; cases h
          | some n =>
            rw [h4] at h
            cases h
            exact pe_bltn (glob_ok c h1.1) (c.fr x h3) (ty_boot h4) rfl o3 o1
        · rw [if_neg h3] at h
          cases h
    · rw [if_neg h1] at h
      cases h
  · cases h
theorem cClss_ok (c : CxOk G orc N X T sc) : ∀ {es : List Expr} {cs : List CRef}, cClss G sc es = some cs → CEs X T.K es cs
  | [], cs, h => by cases h; exact .nil
  | e :: es, cs, h => by
    unfold cClss at h
    cases h1 : cCls G sc e with
    | none => simp only [h1] at h; cases h
    | some a =>
      cases h2 : cClss G sc es with
      | none => simp only [h1, h2] at h; cases h
      | some b =>
        simp only [h1, h2] at h
        cases h
        exact .cons (cCls_ok c h1) (cClss_ok c h2)
theorem sXc (c : CxOk G orc N X T sc) {e e' : Expr} {k : Nat → EDen → EDen} {m : EDen} (hm : PE X e' (tD T m)) (hk : ∀ i, HeldX X T.xp → PE X e (tVar i) → PE X e' (tD T (k i m))) : PE X e' (tD T (cXc G N sc e k m)) := by
  unfold cXc
  split
  · rename_i x p
    by_cases hh : G.hot = true
    · rw [if_pos hh]
      cases h : slotR N sc x with
      | none => exact hm
      | some i => exact hk i (c.held hh) (slotR_ok c h)
    · rw [if_neg hh]
      exact hm
  · exact hm
theorem sCallX (c : CxOk G orc N X T sc) (hr : ∀ e, PE X e (tD T (r sc e))) (x : Str) (es : List Expr) (p pos : Pos) : PE X (.Call (.Name x p) es [] pos) (tD T (cCallX G orc N r sc x es)) := by
  unfold cCallX
  by_cases h : x = ("isinstance" : Str)
  · subst h
    rw [if_pos rfl]
    split
    · rename_i a b
      unfold cIsi
      by_cases h1 : (globB sc "isinstance" && G.free.contains "isinstance" && noStar [a, b]) = true
      · rw [if_pos h1]
        rw [Bool.and_eq_true, Bool.and_eq_true] at h1
        obtain ⟨⟨g1, g2⟩, g3⟩ := h1
        split
        · rename_i es k tp
          cases h2 : cClss G sc es with
          | none => exact g_st
          | some cs =>
            simp only
            by_cases h3 : (noStar es && decide (cs.length ≤ 100)) = true
            · rw [if_pos h3]
              rw [Bool.and_eq_true, decide_eq_true_eq] at h3
              have hm := g_isiT (p := p) (pos := pos) (k := k) (tp := tp) c.K c.is c.ty (glob_ok c g1) (c.fr _ g2) (sO c hr a) (cClss_ok c h2) h3.1 h3.2 g3
              exact sXc c hm fun i hx hv => g_xiT c.K hx c.is c.xi (glob_ok c g1) (c.fr _ g2) hv (cClss_ok c h2) h3.1 h3.2 g3 hm
            · rw [if_neg h3]
              exact g_st
        · cases h2 : cCls G sc b with
          | none => exact g_st
          | some cr =>
            have hm := g_isi (p := p) (pos := pos) c.K c.is c.ty (glob_ok c g1) (c.fr _ g2) (sO c hr a) (cCls_ok c h2) g3
            exact sXc c hm fun i hx hv => g_xi c.K hx c.is c.xi (glob_ok c g1) (c.fr _ g2) hv (cCls_ok c h2) g3 hm
      · rw [if_neg h1]
        exact g_st
    · exact g_st
  · rw [if_neg h]
    by_cases hlen : x = ("len" : Str)
    · subst hlen
      rw [if_pos rfl]
      split
      · rename_i a
        by_cases h1 : (globB sc "len" && G.free.contains "len" && noStar [a]) = true
        · rw [if_pos h1]
          rw [Bool.and_eq_true, Bool.and_eq_true] at h1
          exact g_len c.K (fun cl dds f h => mtab_ok c h) c.tk (glob_ok c h1.1.1) (c.fr _ h1.1.2) (sO c hr a) h1.2
        · rw [if_neg h1]
          exact g_st
      · exact g_st
    rw [if_neg hlen]
    by_cases h : x = ("str" : Str)
    · subst h
      rw [if_pos rfl]
      split
      · rename_i a
        by_cases h1 : (globB sc "str" && G.free.contains "str" && noStar [a]) = true
        · rw [if_pos h1]
          rw [Bool.and_eq_true, Bool.and_eq_true] at h1
          exact g_str c.K (fun cl dds f h => mtab_ok c h) c.tk (glob_ok c h1.1.1) (c.fr _ h1.1.2) (hr a) h1.2
        · rw [if_neg h1]
          exact g_st
      · exact g_st
    · rw [if_neg h]
      exact sCall c hr x es p pos
theorem plainIx_of {b : Expr} (h : ∀ lo hi st p, b ≠ .Slice lo hi st p) : PlainIx b := by
  intro o i
  cases b with
  | Slice lo hi st p => exact absurd rfl (h lo hi st p)
  | _ => rfl
theorem sE (c : CxOk G orc N X T sc) (ih : ∀ (X' : Cx) (T' : Th) (sc' : Scope), CxOk G orc N X' T' sc' → (∀ e, PE X' e (tD T' (r sc' e))) ∧ ∀ e, PT X' e (tDT T' (rt sc' e))) (e : Expr) : PE X e (tD T (stepE G orc N r rt sc e)) := by
  have hr := (ih X T sc c).1
  have ht := (ih X T sc c).2
  have part : ∀ o : Option Expr, PO X o (tPo T (cPart r sc o)) := fun o => by
    cases o with
    | none => exact po_noneD
    | some e => exact po_someD (hr e)
  unfold stepE
  split
  · exact g_c pe_non fun _ => .non
  · exact g_c pe_bl fun _ => .bl
  · exact g_c pe_int fun _ => .int
  · exact g_c pe_str fun _ => .str
  · rename_i x p
    cases h : slotR N sc x with
    | some i => exact g_var (slotR_ok c h)
    | none =>
      by_cases h2 : (globB sc x && !odd x) = true
      · show PE X _ (tD T (if (globB sc x && !odd x) = true then _ else dSt))
        rw [if_pos h2]
        rw [Bool.and_eq_true] at h2
        obtain ⟨o1, o2, o3⟩ := odd_ok (x := x) (by simpa using h2.2)
        cases h3 : G.cons.lookup x with
        | none => exact g_st
        | some d =>
          obtain ⟨v, u, hm, rv, rp⟩ := c.cn x d h3
          exact g_c (pe_glob (glob_ok c h2.1) hm rv o1) rp
      · show PE X _ (tD T (if (globB sc x && !odd x) = true then _ else dSt))
        rw [if_neg h2]
        exact g_st
  · rename_i a op b p
    cases h : binF op with
    | none => exact g_st
    | some f => exact s_bin c hr h
  · rename_i a op b p
    by_cases h : behindInMarks op b = true
    · rw [if_pos h]
      exact g_st
    · rw [if_neg h]
      obtain ⟨rr, h1, h2⟩ := s_cmp c op
      exact gp_cmp h1 h2 (by simpa using h) (sO c hr a) (sO c hr b)
  · rename_i a op op' b cc p
    by_cases h : (notSet b && notSet cc) = true
    · rw [if_pos h]
      obtain ⟨rr, h1, h2⟩ := s_cmp c op
      obtain ⟨rr', h1', h2'⟩ := s_cmp c op'
      exact (pe_chain h1 h1' (sO c hr a) (sO c hr b) (sO c hr cc) (lastMarks_ok h)).to fun σ H Q q => rd_chain h2 h2' q
    · rw [if_neg h]
      exact g_st
  · exact gp_un un_neg prim_neg (sO c hr _)
  · exact g_notV (hr _)
  · exact g_andV (hr _) (pe_one (hr _))
  · exact g_andV (hr _) (g_andV (hr _) (pe_one (hr _)))
  · exact g_orV (hr _) (pe_one (hr _))
  · exact g_orV (hr _) (g_orV (hr _) (pe_one (hr _)))
  · exact g_ifE (ht _) (hr _) (hr _)
  · exact g_tup (sA hr _)
  · exact g_lst (sA hr _)
  · exact gp_slice c.K (sO c hr _) (part _) (part _)
  · exact g_st
  · rename_i a b p hn
    exact gp_ix ix_seq (by rw [c.K]; exact prim_ix) (plainIx_of fun lo hi st p e => hn lo hi st p e) (sO c hr _) (sO c hr _)
  · rename_i a f p
    by_cases h : notSuper a = true
    · rw [if_pos h]
      have hm : PE X (.Attribute a f p) (tD T (dP1 (fldF (fun c => ((G.flds.lookup f).getD []).contains c) f) (cO N r sc a))) := by
        refine gp_fld c.K (fun cl hcl => ?_) (sO c hr _) h
        cases hl : G.flds.lookup f with
        | none => rw [hl] at hcl; cases hcl
        | some l => rw [hl] at hcl; exact c.fl f l cl hl hcl
      refine sXc c hm fun i hx hv => g_xf c.K hx (fun cl hcl => ?_) hv (abase h) hm
      unfold okXf at hcl
      cases hl : G.excs.lookup cl with
      | none => rw [hl] at hcl; cases hcl
      | some g =>
        rw [hl] at hcl
        have := of_decide_eq_true hcl
        subst this
        exact c.xf cl _ hl
    · rw [if_neg h]
      exact g_st
  · exact sCallX c hr _ _ _ _
  · rename_i e k p
    by_cases h : k = -1
    · subst h
      rw [if_pos rfl]
      exact g_fmt (hr e)
    · rw [if_neg h]
      exact g_st
  · exact g_joined1 (hr _)
  · rename_i v1 v2 rest p
    exact g_joined (.cons (hr _) (.cons (hr _) (pes_of hr rest)))
  · rename_i o m apos es pos
    by_cases h : (notSuper o && noStar es && decide (es.length < 30) && (apos.endLine == pos.line)) = true
    · rw [if_pos h]
      rw [Bool.and_eq_true, Bool.and_eq_true, Bool.and_eq_true] at h
      obtain ⟨⟨⟨h1, h2⟩, h3⟩, h4⟩ := h
      cases es with
      | nil => exact g_meth0 c.K (hr o) (fun cl dds f hf => mtab_ok c hf) c.tk h1 h4
      | cons e es => exact g_meth c.K (hr o) (sF c hr _ _ h2) (fun cl dds f hf => mtab_ok c hf) c.tk h1 h2 (of_decide_eq_true h3) h4
    · rw [if_neg h]
      exact g_st
  · exact sLc c hr ih _ _ _ _ _ _
  · exact g_st
theorem sT (c : CxOk G orc N X T sc) (ih : ∀ (X' : Cx) (T' : Th) (sc' : Scope), CxOk G orc N X' T' sc' → (∀ e, PE X' e (tD T' (r sc' e))) ∧ ∀ e, PT X' e (tDT T' (rt sc' e))) (e : Expr) : PT X e (tDT T (stepT N r rt sc e)) := by
  have hr := (ih X T sc c).1
  have ht := (ih X T sc c).2
  unfold stepT
  split
  · exact g_not (ht _)
  · exact (g_and1 (ht _)).pt
  · exact (g_and (ht _) (g_and1 (ht _))).pt
  · exact (g_and (ht _) (g_and (ht _) (g_and1 (ht _)))).pt
  · exact (g_or (ht _) (g_or1 (ht _))).pt
  · exact (g_or (ht _) (g_or (ht _) (g_or1 (ht _)))).pt
  · exact g_stT
  · rename_i a op b p
    by_cases h : behindInMarks op b = true
    · rw [if_pos h]
      exact g_stT
    · rw [if_neg h]
      obtain ⟨rr, h1, h2⟩ := s_cmp c op
      exact gp_cmpT h1 h2 (by simpa using h) (sO c hr a) (sO c hr b)
  · rename_i a op op' b cc p
    by_cases h : (notSet b && notSet cc) = true
    · rw [if_pos h]
      obtain ⟨rr, h1, h2⟩ := s_cmp c op
      obtain ⟨rr', h1', h2'⟩ := s_cmp c op'
      exact (pt_chain h1 h1' (sO c hr a) (sO c hr b) (sO c hr cc) (lastMarks_ok h)).to fun σ H Q ⟨P, O, env, he, q⟩ => rd_chain h2 h2' (rd_test he q)
    · rw [if_neg h]
      exact g_stT
  · exact g_stT
  · exact g_stT
  · rename_i n1 n2 n3 n4 n5 n6 n7 n8 n9 n10 n11
    refine g_tru c.K (hr e) fun whole => ?_
    cases e with
    | UnaryOp op a p =>
      cases op with
      | Not => exact absurd rfl (n1 a p)
      | _ => rfl
    | BoolOp op vs p => exact absurd rfl (n7 op vs p)
    | Compare a ops cs p => exact absurd rfl (n10 a ops cs p)
    | IfExp a b cc p => exact absurd rfl (n11 a b cc p)
    | _ => rfl
end
theorem comp_ok {G : Gm} {orc : Orc} {N : List Str} : ∀ (n : Nat) (X : Cx) (T : Th) (sc : Scope), CxOk G orc N X T sc → (∀ e, PE X e (tD T ((comp G orc N n).1 sc e))) ∧ ∀ e, PT X e (tDT T ((comp G orc N n).2 sc e))
  | 0, _, _, _, _ => ⟨fun _ => g_st, fun _ => g_stT⟩
  | n + 1, X, T, sc, c => ⟨fun e => sE c (comp_ok n) e, fun e => sT c (comp_ok n) e⟩
end DL
set_option maxHeartbeats 8000000
/-! DL20: statements: the compiler and its soundness. -/
namespace DL
open PySem PySem.Spec PyProof.Rows L2

/-! ### return x: what the slot owns is given away -/
def sRetV (i : Nat) : SDen := fun env => match env[i]? with
  | some (.fz d) => .ok (.rt (false, d)) env
  | some (.ow d) => .ok (.rt (true, d)) (env.set i .un)
  | _ => .st
section
variable {X : Cx} {T : Th} {e : Expr} {pos : Pos} {i : Nat}
theorem EnvOk.unset {C : Cn} {H : Hp} {O : AS} {σ : L2.St} {env : SEnv} {d : D} (e : EnvOk C H O σ env) (h2 : env[i]? = some (.ow d)) : EnvOk C H O σ (env.set i .un) := by
  have hi : i < env.length := (List.getElem?_eq_some_iff.mp h2).1
  have back : ∀ {n : Nat} {c : Addr}, OwnAt σ (env.set i .un) n c → OwnAt σ env n c := fun {n c} ⟨x1, s, x2, x3⟩ => by
    by_cases hn : n = i
    · subst hn
      rw [List.getElem?_set_self hi] at x2
      cases x2
      cases x3
    · rw [List.getElem?_set_ne (Ne.symm hn)] at x2
      exact ⟨x1, s, x2, x3⟩
  refine ⟨by rw [List.length_set]; exact e.len, fun j o s g1 g2 => ?_, fun j k b hj hk => e.one j k b (back hj) (back hk), e.dis, e.pub, e.prv, fun j b h => ?_, e.sz⟩
  · by_cases hj : j = i
    · subst hj
      rw [List.getElem?_set_self hi] at g2
      cases g2
      exact .un
    · rw [List.getElem?_set_ne (Ne.symm hj)] at g2
      exact e.ok j o s g1 g2
  · obtain ⟨q1, d', q2⟩ := e.lent j b h
    have hj : j ≠ i := fun z => by
      rw [z, h2] at q2
      cases q2
    exact ⟨q1, d', by rw [List.getElem?_set_ne (Ne.symm hj)]; exact q2⟩
theorem gs_retV (h : PE X e (tVar i)) : PS X (.Return (some e) pos) (tDS T (sRetV i)) := (ps_ret h).to fun E σ H ⟨P, O, env, he, q⟩ => by
  unfold sRetV at q
  cases g : env[i]? with
  | none => simp only [g] at q; exact q.elim
  | some s =>
    simp only [g] at q
    have hi : i < σ.length := by rw [← he.len]; exact (List.getElem?_eq_some_iff.mp g).1
    have hs : σ[i]? = some σ[i] := List.getElem?_eq_getElem hi
    have r := he.ok i _ _ hs g
    generalize hσ : σ[i] = o at r
    rw [hσ] at hs
    cases r with
    | un => exact q.elim
    | xc _ => exact q.elim
    | io _ _ => exact q.elim
    | fz r => exact ⟨_, hs, q _ σ H O .refl he r⟩
    | @ow a d hO sh =>
      refine ⟨_, hs, q _ σ H O .refl (he.unset g) ⟨a, rfl, hO, sh, fun j ⟨x1, s, x2, x3⟩ => ?_⟩⟩
      have hil : i < env.length := (List.getElem?_eq_some_iff.mp g).1
      by_cases hj : j = i
      · subst hj
        rw [List.getElem?_set_self hil] at x2
        cases x2
        cases x3
      · rw [List.getElem?_set_ne (Ne.symm hj)] at x2
        exact hj (he.one j i a ⟨x1, s, x2, x3⟩ ⟨hs, _, g, rfl⟩)
/-! ### a, b = x, y -/
def sPar2 (i j : Nat) (k : ADen) : SDen := fun env => match k env with
  | .ok [a, b] env1 => (match putS i (.fz a) env1 with
    | some env2 => nxO (putS j (.fz b) env2)
    | none => .st)
  | .ok _ _ => .st
  | .ex x e => .ex x e
  | .st => .st
theorem rs_par2 {j : Nat} {k : ADen} {E : Ends} {σ : L2.St} {H : Hp} (q : tDS T (sPar2 i j k) E σ H) : tPar i j (tDA T k) E σ H := by
  obtain ⟨P, O, env, he, q⟩ := q
  refine ⟨P, O, env, he, ?_⟩
  unfold sPar2 at q
  cases h : k env with
  | st => simp only [h] at q; exact q
  | ex x e => simp only [h] at q; exact fun c d H' O' s' e' x' => q c d σ H' O' s' e' x'
  | ok ds env1 =>
    intro vs H1 O1 s1 e1 r1
    match ds, h, r1 with
    | [a, b], h, .cons ra (.cons rb .nil) =>
      simp only [h] at q
      cases g1 : putS i (.fz a) env1 with
      | none => simp only [g1] at q; exact q.elim
      | some env2 =>
        simp only [g1] at q
        cases g2 : putS j (.fz b) env2 with
        | none => simp only [g2] at q; exact q.elim
        | some env3 =>
          simp only [g2] at q
          have e2 := e1.put (w := (false, a)) ra g1
          have e3 := e2.put (w := (false, b)) rb g2
          exact ⟨_, _, rfl, q _ H1 O1 s1 e3⟩
    | [], h, _ => simp only [h] at q; exact q.elim
    | [_], h, _ => simp only [h] at q; exact q.elim
    | _ :: _ :: _ :: _, h, _ => simp only [h] at q; exact q.elim
/-! ### x += e of ints -/
def augF : Operator → Option (Int → Int → Int)
  | .Add => some (· + ·)
  | .Sub => some (· - ·)
  | _ => none
def sAug (i : Nat) (f : Int → Int → Int) (m : EDen) : SDen := fun env => match env[i]? with
  | some (.fz (.int a)) => bindS m (fun w env1 => match w.2 with
    | .int b => nxO (putS i (.fz (.int (f a b))) env1)
    | _ => .st) env
  | _ => .st
theorem gs_aug {x : Str} {op : Operator} {f : Int → Int → Int} {m : EDen} {pos' : Pos} (hf : augF op = some f) (hN : X.N.Nodup) (hi : X.N[i]? = some x) (hx : Loc X.env.scope x) (he : PE X e (tD T m)) (hfn : X.fn x = true ∨ X.env.scope.names.lookup x = some .local) :
    PS X (.AugAssign (.Name x pos') op e pos) (tDS T (sAug i f m)) := by
  have main : ∀ {g : Int → Int → Int}, PIp X op (ipI g) → PS X (.AugAssign (.Name x pos') op e pos) (tDS T (sAug i g m)) := fun {g} ho => (ps_aug hN hi hx he ho hfn).to fun E σ H ⟨P, O, env, hen, q⟩ => by
    unfold sAug at q
    split at q
    · rename_i a hg
      have hil : i < σ.length := by rw [← hen.len]; exact (List.getElem?_eq_some_iff.mp hg).1
      have hs : σ[i]? = some σ[i] := List.getElem?_eq_getElem hil
      have r := hen.ok i _ _ hs hg
      generalize hσ : σ[i] = o at r
      rw [hσ] at hs
      cases r with
      | fz r =>
        cases r
        refine ⟨_, hs, ?_⟩
        refine rs_bind hen q fun v H1 O1 env1 w s1 e1 r1 q1 => ?_
        obtain ⟨O2, s2, e2, r2⟩ := r1.frz e1
        have q2 := RS.step q1 s2
        obtain ⟨bw, dw⟩ := w
        have r2 : Rep T.K (hid H1 (Un2 O2 P)) v dw := r2
        cases r2 with
        | @int b =>
          have q2 : RS T P H1 O2 E (nxO (putS i (.fz (.int (g a b))) env1)) := q2
          cases g2 : putS i (.fz (.int (g a b))) env1 with
          | none => rw [g2] at q2; exact q2.elim
          | some env3 =>
            rw [g2] at q2
            exact ⟨a, b, rfl, rfl, q2 _ H1 O2 .refl (e2.put (w := (false, .int (g a b))) .int g2)⟩
        | _ => exact q2.elim
    · exact q.elim
  cases op <;> cases hf
  · exact main ip_add
  · exact main ip_sub
end

/-! ### the stores of a tuple onto a tuple -/
def isStar : Expr → Bool
  | .Starred .. => true
  | _ => false
def parNames (sc : Scope) (line : Nat) (ts : List Expr) : List Str := ts.filterMap fun
    | .Name id pos => if sc.names.lookup id == some .local && pos.line == line then some id else none
    | _ => none
/-- what swappedStores answers: none if it asks what is not served -/
def swsP (sc : Scope) (ts vs : List Expr) : Option (Option (List Str)) :=
  if !(ts.length == 2 || ts.length == 3) || vs.length != ts.length || (if sc.kind.isAnnotationScope then ScopeKind.function else sc.kind) != .function then some none
  else if vs.any isStar then some none
  else if (parNames sc ((ts.head?.map (·.pos.line)).getD 0) ts).length != ts.length || (parNames sc ((ts.head?.map (·.pos.line)).getD 0) ts).eraseDups.length != (parNames sc ((ts.head?.map (·.pos.line)).getD 0) ts).length then some none
  else if vs.all (foldedForSure 8) then some none
  else if vs.all (constantsAlone 8) then none
  else some (some (parNames sc ((ts.head?.map (·.pos.line)).getD 0) ts))
theorem swsP_ok {env : Env} {ts vs : List Expr} {k k2 : Nat} {p p2 : Pos} {r : Option (List Str)} (h : swsP env.scope ts vs = some r) : swappedStores [.Tuple ts k p] (.Tuple vs k2 p2) env = pure r := by
  have e1 : (vs.any fun | .Starred .. => true | _ => false) = vs.any isStar := by
    congr 1
  unfold swsP at h
  unfold swappedStores
  simp only []
  by_cases h1 : (!(ts.length == 2 || ts.length == 3) || vs.length != ts.length || env.blockKind != .function) = true
  · have h1' : (!(ts.length == 2 || ts.length == 3) || vs.length != ts.length || (if env.scope.kind.isAnnotationScope then ScopeKind.function else env.scope.kind) != .function) = true := h1
    rw [if_pos h1'] at h
    cases h
    rw [if_pos h1]
  · have h1' : ¬ (!(ts.length == 2 || ts.length == 3) || vs.length != ts.length || (if env.scope.kind.isAnnotationScope then ScopeKind.function else env.scope.kind) != .function) = true := h1
    rw [if_neg h1'] at h
    rw [if_neg h1]
    show (if vs.any isStar = true then (pure none : Sem (Option (List Str))) else if ((parNames env.scope ((ts.head?.map (·.pos.line)).getD 0) ts).length != ts.length || (parNames env.scope ((ts.head?.map (·.pos.line)).getD 0) ts).eraseDups.length != (parNames env.scope ((ts.head?.map (·.pos.line)).getD 0) ts).length) = true then pure none
      else if vs.all (foldedForSure 8) = true then pure none else if vs.all (constantsAlone 8) = true then _ else pure (some (parNames env.scope ((ts.head?.map (·.pos.line)).getD 0) ts))) = pure r
    by_cases h2 : vs.any isStar = true
    · rw [if_pos h2] at h ⊢
      cases h
      rfl
    · rw [if_neg h2] at h ⊢
      split
      · rename_i h3
        rw [if_pos h3] at h
        cases h
        rfl
      · rename_i h3
        rw [if_neg h3] at h
        split
        · rename_i h4
          rw [if_pos h4] at h
          cases h
          rfl
        · rename_i h4
          rw [if_neg h4] at h
          split
          · rename_i h5
            rw [if_pos h5] at h
            cases h
          · rename_i h5
            rw [if_neg h5] at h
            cases h
            rfl

/-! ### the compiler of statements -/
def wFuel : Nat := 4000
def isComp : Expr → Bool
  | .ListComp .. => true
  | .SetComp .. => true
  | .DictComp .. => true
  | _ => false
theorem noComp {e : Expr} {t : Option Expr} {l : Nat} {env : Env} (h : isComp e = false) : swapsWith e t l env = pure false := by
  cases e with
  | ListComp _ _ _ _ => cases h
  | SetComp _ _ _ _ => cases h
  | DictComp _ _ _ _ _ => cases h
  | _ => rfl
section
variable (G : Gm) (orc : Orc) (N : List Str) (E : Expr → EDen) (Te : Expr → TDen) (It : Expr → Expr → IDen) (rec recH : Stmt → SDen) (sc : Scope)
def cSs : List Stmt → SDen
  | [] => sNx
  | s :: r => sSeq (rec s) (cSs r)
/-- y = [..]: does the store come within the comprehension? -/
def swLc (y : Str) (py : Pos) (scope : Scope) (pos : Pos) : Bool := (match sc.names.lookup y with
  | some .local => true
  | _ => false) && (py.line == pos.line) && !(scope.names.any fun (n, k) => n == y && (k == .local || k == .cell)) && (match sc.kind with
  | .function => true
  | _ => false)
def notLoc (y : Str) : Bool := match sc.names.lookup y with
  | some .local => false
  | _ => true
def fldOk (f : Str) : Str → Bool := fun c => ((G.flds.lookup f).getD []).contains c
def stepC (st : Stmt) : SDen := match st with
  | .Return (some (.Name x p)) _ => (match slotR N sc x with
    | some i => sRetV i
    | none => sRet (E (.Name x p)))
  | .Return (some e) _ => sRet (E e)
  | .Return none _ => sRetN
  | .Pass _ => sNx
  | .Break _ => sBk
  | .Continue _ => sCt
  | .Expr (.Call (.Attribute (.Name x p) m apos) [e] [] cpos) pos => if m = ("append" : Str) then (match slotR N sc x with
      | some i => if noStar [e] && (apos.endLine == cpos.line) then sApp i (E e) else sSt
      | none => sSt) else sExpr (E (.Call (.Attribute (.Name x p) m apos) [e] [] cpos))
  | .Expr e _ => if isComp e then sSt else sExpr (E e)
  | .Assign [.Name x p] e pos => (match slotW N sc x with
    | none => sSt
    | some i => (match e with
      | .ListComp elt [⟨tg, iter, ifs, 0⟩] scope cpos => if swLc sc x p scope cpos || notLoc sc x then sAsg i (E e) else sSt
      | _ => if isComp e then sSt else sAsg i (E e)))
  | .Assign [.Attribute (.Name x p) f p'] e _ => (match slotR N sc x with
    | some i => if isComp e then sSt else sSetF i (fldOk G f) f (E e)
    | none => sSt)
  | .Assign [.Subscript (.Name x p) (.Slice _ _ _ _) p'] e _ => sSt
  | .Assign [.Subscript (.Name x p) k p'] e _ => (match slotR N sc x with
    | some i => if isComp e then sSt else sIx i (E k) (E e)
    | none => sSt)
  | .Assign [.Tuple ts kt pt] e _ => (match e with
    | .Tuple vs k2 p2 => (match swsP sc ts vs with
      | some none => (match cTg N sc (.Tuple ts kt pt) with
        | some (g, _) => sUnp g (E e)
        | none => sSt)
      | some (some [x, y]) => (match ts, vs with
        | [.Name x' _, .Name y' _], [a, b] => (match slotW N sc x, slotW N sc y with
          | some i, some j => if x = x' && y = y' && decide (i ≠ j) && noStar [a, b] && notLoc2 sc x y then sPar2 i j (aCons (E a) (aCons (E b) aNil)) else sSt
          | _, _ => sSt)
        | _, _ => sSt)
      | _ => sSt)
    | _ => if isComp e then sSt else (match cTg N sc (.Tuple ts kt pt) with
      | some (g, _) => sUnp g (E e)
      | none => sSt))
  | .AugAssign (.Name x _) op e _ => (match slotW N sc x, augF op with
    | some i, some f => sAug i f (E e)
    | _, _ => sSt)
  | .If c a b _ => sIf (Te c) (cSs rec a) (cSs rec b)
  | .While c b [] _ => sWhile (Te c) (cSs rec b) wFuel
  | .For tg iter b [] _ => (match cTg N sc tg with
    | some (g, _) => if notSet iter then sFor (It tg iter) g (cSs rec b) else sSt
    | none => sSt)
  | .Raise (some (.Call (.Name x _) [e] [] _)) none _ => (match G.excs.lookup x with
    | some f => if globB sc x && !odd x && noStar [e] then sRaise x f (E e) else sSt
    | none => sSt)
  | .Try body [.ExceptHandler (some (.Name x _)) nm (b :: suite) _] [] [] _ => if globB sc x && !odd x && G.ccs.contains x then (match nm with
      | none => sTry (cSs rec body) (fun y => exmT G.exm y x) none (cSs recH (b :: suite))
      | some n => (match slotW N sc n with
        | some i => if notLoc sc n then sSt else sTry (cSs rec body) (fun y => exmT G.exm y x) (some i) (cSs recH (b :: suite))
        | none => sSt)) else sSt
  | _ => sSt
where notLoc2 (sc : Scope) (x y : Str) : Bool := (match sc.names.lookup x with
    | some .local => true
    | _ => false) && (match sc.names.lookup y with
    | some .local => true
    | _ => false)
/-- in a suite -/
def stepH (st : Stmt) : SDen := match st with
  | .Return (some e) _ => sRet (E e)
  | .Return none _ => sRetN
  | .Pass _ => sNx
  | .Assign [.Name x p] e pos => (match slotW N sc x with
    | none => sSt
    | some i => if isComp e then sSt else sAsg i (E e))
  | .If c a b _ => sIf (Te c) (cSs rec a) (cSs rec b)
  | _ => sSt
def stepS (st : Stmt) : SDen := if G.hot then stepH N E Te rec sc st else stepC G N E Te It rec recH sc st
end
/-- n levels of statements over L levels of expressions -/
def compS (orc : Orc) (N : List Str) (L : Nat) (sc : Scope) : Nat → Gm → Stmt → SDen
  | 0, _ => fun _ => sSt
  | n + 1, G => stepS G N ((comp G orc N L).1 sc) ((comp G orc N L).2 sc) (cI G (comp G orc N L).1 sc) (compS orc N L sc n G) (compS orc N L sc n G.bare) sc
def compB (G : Gm) (orc : Orc) (N : List Str) (L n : Nat) (sc : Scope) (b : List Stmt) : SDen := cSs (compS orc N L sc n G) b
end DL
set_option maxHeartbeats 8000000
/-! DL21: the compiler of statements is sound. -/
namespace DL
open PySem PySem.Spec PyProof.Rows L2
section
variable {G : Gm} {orc : Orc} {N : List Str} {X : Cx} {T : Th} {sc : Scope} {L : Nat} {rec recH : Stmt → SDen}
theorem sSs (hrec : ∀ s, PS X s (tDS T (rec s))) : ∀ b : List Stmt, PSs X b (tDS T (cSs rec b))
  | [] => gss_nil
  | s :: r => gss_cons (hrec s) (sSs hrec r)
theorem slotW_ok (c : CxOk G orc N X T sc) {x : Str} {i : Nat} (h : slotW N sc x = some i) : X.N[i]? = some x ∧ Loc X.env.scope x := by
  unfold slotW at h
  by_cases hb : (locB sc x && !odd x) = true
  · rw [if_pos hb] at h
    rw [Bool.and_eq_true] at hb
    have h2 := idxOf_ok h
    exact ⟨by rw [c.hN]; simpa using h2.2, by rw [c.sc]; exact locB_ok hb.1⟩
  · rw [if_neg hb] at h
    cases h
theorem noComp1 {e t : Expr} {l : Nat} {env : Env} (h : isComp e = false) : swapsWithSole [t] e l env = pure false := noComp (t := some t) h
theorem swaps_cell {elt : Expr} {gs : List Comprehension} {scope : Scope} {pos py : Pos} {y : Str} {l : Nat} {env : Env} (h : notLoc env.scope y = true) : swapsWith (.ListComp elt gs scope pos) (some (.Name y py)) l env = pure false := by
  have ky : (env.kindOf y == some .local) = false := by
    unfold notLoc at h
    show (env.scope.names.lookup y == some .local) = false
    split at h
    · cases h
    · rename_i hn
      cases hl : env.scope.names.lookup y with
      | none => rfl
      | some k =>
        cases k with
        | «local» => exact absurd hl hn
        | _ => rfl
  unfold swapsWith
  simp only [ky, Bool.and_false, Bool.false_and]
theorem sLcS {r : EC} {rt : Scope → Expr → TDen} (c : CxOk G orc N X T sc) (hr : ∀ e, PE X e (tD T (r sc e))) (ih : ∀ (X' : Cx) (T' : Th) (sc' : Scope), CxOk G orc N X' T' sc' → (∀ e, PE X' e (tD T' (r sc' e))) ∧ ∀ e, PT X' e (tDT T' (rt sc' e))) (elt tg iter : Expr) (ifs : List Expr) (scope : Scope) (pos : Pos)
    {y : Str} {py spos : Pos} {i : Nat} (hy : X.N[i]? = some y) (hsw : swLc sc y py scope pos = true) :
    PS X (.Assign [.Name y py] (.ListComp elt [⟨tg, iter, ifs, 0⟩] scope pos) spos) (tDS T (sAsg i (cLc G N r rt sc elt tg iter ifs scope))) := by
  have stuck : PS X (.Assign [.Name y py] (.ListComp elt [⟨tg, iter, ifs, 0⟩] scope pos) spos) (tDS T (sAsg i dSt)) := ⟨fun _ _ _ _ _ _ ⟨_, _, _, _, h⟩ => h.elim⟩
  unfold swLc at hsw
  rw [Bool.and_eq_true, Bool.and_eq_true, Bool.and_eq_true] at hsw
  obtain ⟨⟨⟨w1, w2⟩, w3⟩, w4⟩ := hsw
  have l1 : X.env.scope.names.lookup y = some .local := by
    rw [c.sc]
    split at w1
    · assumption
    · cases w1
  have l2 : X.env.scope.kind = .function := by
    rw [c.sc]
    split at w4
    · assumption
    · cases w4
  have sw := sw_true (elt := elt) (gs := [⟨tg, iter, ifs, 0⟩]) (scope := scope) (pos := pos) (py := py) (l := spos.line) l2 l1 w2 (by simpa using w3)
  unfold cLc
  cases h1 : cTg N scope tg with
  | none => exact stuck
  | some z =>
    obtain ⟨g, ks⟩ := z
    by_cases h2 : (blkC N sc scope (ownOf N scope) && ks.all (fun k => ((ownOf N scope).map (·.2)).contains k) && notSet iter && !G.hot) = true
    · simp only [h2, if_true]
      rw [Bool.and_eq_true, Bool.and_eq_true, Bool.and_eq_true] at h2
      obtain ⟨h2, hh⟩ := h2
      have hot : G.hot = false := by simpa using hh
      have bk : BlkOk X.N X.env.scope scope (ownOf N scope) := by
        rw [c.hN, c.sc]
        exact blkOk_by h2.1.1
      refine gs_setLc (ks := ks) (fun k hk => ?_) (c.calm hot) (by rw [c.hN]; exact c.nd) hy l1 sw (sI c hr tg iter h2.2) bk (fun s H C cl fp => ?_) (fun s H C cl fp => ?_) (fun s H C cl fp => ?_) (notSet_fold h2.2)
      · have := List.all_eq_true.mp h2.1.2 k hk
        simpa using this
      · have cb := c.blk hot s H scope C cl fp
        refine s_tg cb.K cb.hN c.nd (c.calm hot) (fun x hx => ?_) h1
        have e : (X.blk s H scope (compEnvC scope cl C X.env) fp).env.scope.names.lookup x = scope.names.lookup x := by
          rw [cb.sc]
          exact locB_blk hx
        unfold locB at hx
        split at hx
        · rename_i hl
          exact ⟨.inl (e.trans hl), .inr (e.trans hl)⟩
        · rename_i hl
          refine ⟨.inr (e.trans hl), .inl ?_⟩
          show (scope.names.lookup x == some .cell) = true
          rw [hl]
          rfl
        · cases hx
      · split
        · exact ⟨fun pins s σ H Q I q => pts_nil.run pins s σ H Q I (by obtain ⟨P, O, env, he, q⟩ := q; exact q H O .refl he)⟩
        · exact pts_one ((ih _ _ _ (c.blk hot s H scope C cl fp)).2 _)
        · exact ⟨fun _ _ _ _ _ _ ⟨_, _, _, _, h⟩ => h.elim⟩
      · exact (ih _ _ _ (c.blk hot s H scope C cl fp)).1 _
    · simp only [h2]
      exact stuck
theorem assignEach_tup {ts : List Expr} {kt : Nat} {pt : Pos} {env : Env} : (assignEach [.Tuple ts kt pt] env).map (·.2) = [assign (.Tuple ts kt pt) env] := rfl
/-- what statements want of a context -/
structure StOk (X : Cx) : Prop where
  fn : ∀ x, Loc X.env.scope x → X.fn x = true ∨ X.env.scope.names.lookup x = some .local
  stk : X.stack = X.env :: X.outer
  frm : X.env.frame = some X.env.locals
abbrev RecOk (G : Gm) (orc : Orc) (N : List Str) (sc : Scope) (rec : Stmt → SDen) : Prop := ∀ (X : Cx) (T : Th), CxOk G orc N X T sc → StOk X → (G.hot = false → PassesOwn (model X.prog X.w) X.A X.env X.xe) → ∀ s, PS X s (tDS T (rec s))
theorem CxOk.tr (c : CxOk G orc N X T sc) (hot : G.hot = false) {pn : List (Addr × Obj)} {xe : Value → Shared → Prop} {W : WX} (tk : Takes (X.tr pn xe) W) : CxOk G orc N (X.tr pn xe) (T.wi W) sc where
  K := c.K
  hN := c.hN
  sc := c.sc
  nd := c.nd
  calm := c.calm
  xp := c.xp
  held := fun z => by rw [hot] at z; cases z
  tk := tk
  units := c.units
  gd := c.gd
  fn := c.fn
  cl := c.cl
  mt := c.mt
  fl := c.fl
  cn := c.cn
  fr := c.fr
  cc := c.cc
  ty := c.ty
  is := c.is
  xf := c.xf
  xi := c.xi
  em := c.em
  rs := fun h a f z => by
    obtain ⟨h1, h2, h3⟩ := c.rs h a f z
    exact ⟨h1, h2, h3⟩
theorem CxOk.suite (c : CxOk G orc N X T sc) (xp : Xp) {oe : Obj} {pn : List (Addr × Obj)} (hz : Zc xp.cls xp.d oe) (hf : ∃ vs, oe.data = .fields vs) : CxOk G.bare orc N (X.suite xp.a ((xp.a, oe) :: pn)) (T.hot xp) sc where
  K := c.K
  hN := c.hN
  sc := c.sc
  nd := c.nd
  calm := fun z => by cases z
  xp := fun z => by cases z
  held := fun _ => ⟨X, oe, pn, rfl, hz, hf⟩
  tk := takes0
  units := c.units
  gd := c.gd
  fn := fun x s h => by cases h
  cl := fun x s h => by cases h
  mt := fun x s c s' h => by cases h
  fl := c.fl
  cn := c.cn
  fr := c.fr
  cc := c.cc
  ty := c.ty
  is := c.is
  xf := c.xf
  xi := c.xi
  em := c.em
  rs := fun z => by cases z
theorem sH (c : CxOk G orc N X T sc) (so : StOk X) (hrec : ∀ s, PS X s (tDS T (rec s))) (st : Stmt) : PS X st (tDS T (stepH N ((comp G orc N L).1 sc) ((comp G orc N L).2 sc) rec sc st)) := by
  have hr := (comp_ok L X T sc c).1
  have ht := (comp_ok L X T sc c).2
  have nd : X.N.Nodup := by rw [c.hN]; exact c.nd
  unfold stepH
  split
  · exact gs_ret (hr _)
  · exact gs_retN
  · exact gs_pass
  · rename_i x p e pos
    cases h : slotW N sc x with
    | none => exact gs_st
    | some i =>
      obtain ⟨h1, h2⟩ := slotW_ok c h
      by_cases h3 : isComp e = true
      · simp only [h3, if_true]
        exact gs_st
      · simp only [h3]
        exact gs_set nd h1 h2 (hr _) (noComp (by simpa using h3)) (so.fn x h2)
  · exact gs_if (ht _) (sSs hrec _) (sSs hrec _)
  · exact gs_st
theorem sC (c : CxOk G orc N X T sc) (hot : G.hot = false) (so : StOk X) (hp : PassesOwn (model X.prog X.w) X.A X.env X.xe) (hrecA : RecOk G orc N sc rec) (hrecH : RecOk G.bare orc N sc recH) (st : Stmt) :
    PS X st (tDS T (stepC G N ((comp G orc N L).1 sc) ((comp G orc N L).2 sc) (cI G (comp G orc N L).1 sc) rec recH sc st)) := by
  have hfn := so.fn
  have calm := c.calm hot
  have hrec := hrecA X T c so fun _ => hp
  have hr := (comp_ok L X T sc c).1
  have ht := (comp_ok L X T sc c).2
  have nd : X.N.Nodup := by rw [c.hN]; exact c.nd
  have tgt : ∀ {tg : Expr} {g : GDen} {ks : List Nat}, cTg N sc tg = some (g, ks) → PG X tg (tDG T g ks) := fun h => s_tg c.K c.hN c.nd calm (fun x hx => ⟨by rw [c.sc]; exact locB_ok hx, hfn x (by rw [c.sc]; exact locB_ok hx)⟩) h
  have fld : ∀ f c', fldOk G f c' = true → Cls T.K (He.ga T.K c') ∧ NoAttr T.K (He.ga T.K c') f := fun f c' hc => by
    unfold fldOk at hc
    cases hl : G.flds.lookup f with
    | none => rw [hl] at hc; cases hc
    | some l => rw [hl] at hc; exact c.fl f l c' hl hc
  unfold stepC
  split
  · rename_i x p pos
    cases h : slotR N sc x with
    | some i => exact gs_retV (slotR_ok c h)
    | none => exact gs_ret (hr _)
  · exact gs_ret (hr _)
  · exact gs_retN
  · exact gs_pass
  · exact gs_break
  · exact gs_continue
  · rename_i x p m apos e cpos pos
    by_cases hm : m = ("append" : Str)
    · rw [if_pos hm]
      subst hm
      cases h : slotR N sc x with
      | none => exact gs_st
      | some i =>
        by_cases h2 : (noStar [e] && (apos.endLine == cpos.line)) = true
        · show PS X _ (tDS T (if (noStar [e] && (apos.endLine == cpos.line)) = true then _ else sSt))
          rw [if_pos h2]
          rw [Bool.and_eq_true] at h2
          exact gs_app (slotR_ok c h) (hr _) rfl h2.1 h2.2
        · show PS X _ (tDS T (if (noStar [e] && (apos.endLine == cpos.line)) = true then _ else sSt))
          rw [if_neg h2]
          exact gs_st
    · rw [if_neg hm]
      exact gs_expr (hr _) rfl
  · rename_i e pos hne
    by_cases h : isComp e = true
    · rw [if_pos h]
      exact gs_st
    · rw [if_neg h]
      exact gs_expr (hr _) (noComp (by simpa using h))
  · rename_i x p e pos
    cases h : slotW N sc x with
    | none => exact gs_st
    | some i =>
      obtain ⟨h1, h2⟩ := slotW_ok c h
      simp only
      split
      · rename_i elt tg iter ifs scope cpos
        by_cases h3 : (swLc sc x p scope cpos || notLoc sc x) = true
        · rw [if_pos h3]
          by_cases h4 : swLc sc x p scope cpos = true
          · cases L with
            | zero => exact ⟨fun _ _ _ _ _ _ ⟨_, _, _, _, h⟩ => h.elim⟩
            | succ L => exact sLcS c (comp_ok L X T sc c).1 (comp_ok L) elt tg iter ifs scope cpos h1 h4
          · have h5 : notLoc sc x = true := by
              rw [Bool.or_eq_true] at h3
              exact h3.resolve_left h4
            exact gs_set nd h1 h2 (hr _) (swaps_cell (by rw [c.sc]; exact h5)) (hfn x h2)
        · rw [if_neg h3]
          exact gs_st
      · rename_i hne
        by_cases h3 : isComp e = true
        · rw [if_pos h3]
          exact gs_st
        · rw [if_neg h3]
          exact gs_set nd h1 h2 (hr _) (noComp (by simpa using h3)) (hfn x h2)
  · rename_i x p f p' e pos
    cases h : slotR N sc x with
    | none => exact gs_st
    | some i =>
      by_cases h3 : isComp e = true
      · simp only [h3, if_true]
        exact gs_st
      · simp only [h3]
        exact gs_fld c.K (fld f) (slotR_ok c h) (hr _) (noComp (by simpa using h3))
  · exact gs_st
  · rename_i x p k p' e pos hns
    cases h : slotR N sc x with
    | none => exact gs_st
    | some i =>
      by_cases h3 : isComp e = true
      · simp only [h3, if_true]
        exact gs_st
      · simp only [h3]
        refine gs_ix (slotR_ok c h) (hr _) (hr _) (noComp1 (by simpa using h3)) ?_ rfl fun v => ?_
        · cases e <;> rfl
        · cases k with
          | Slice lo hi st p => exact absurd rfl (hns lo hi st p)
          | _ => rfl
  · rename_i ts kt pt e pos
    split
    · rename_i vs k2 p2
      split
      · rename_i h1
        cases h2 : cTg N sc (.Tuple ts kt pt) with
        | none => exact gs_st
        | some z =>
          obtain ⟨g, ks⟩ := z
          exact gs_unp (hr _) (tgt h2) rfl (swsP_ok (by rw [c.sc]; exact h1)) rfl
      · rename_i x y h1
        split
        · rename_i x' px y' py a b
          cases h2 : slotW N sc x with
          | none => exact gs_st
          | some i =>
            cases h3 : slotW N sc y with
            | none => exact gs_st
            | some j =>
              obtain ⟨i1, i2⟩ := slotW_ok c h2
              obtain ⟨j1, j2⟩ := slotW_ok c h3
              by_cases h4 : (x = x' && y = y' && decide (i ≠ j) && noStar [a, b] && stepC.notLoc2 sc x y) = true
              · simp only [h4, if_true]
                simp only [Bool.and_eq_true, decide_eq_true_eq] at h4
                obtain ⟨⟨⟨⟨e1, e2⟩, hij⟩, hst⟩, hl⟩ := h4
                subst e1 e2
                unfold stepC.notLoc2 at hl
                rw [Bool.and_eq_true] at hl
                have lx : X.env.scope.names.lookup x = some .local := by
                  have := hl.1
                  rw [c.sc]
                  split at this
                  · assumption
                  · cases this
                have ly : X.env.scope.names.lookup y = some .local := by
                  have := hl.2
                  rw [c.sc]
                  split at this
                  · assumption
                  · cases this
                have pa : PA X [a, b] (tDA T (aCons ((comp G orc N L).1 sc a) (aCons ((comp G orc N L).1 sc b) aNil))) := ga_cons (hr a) (ga_cons (hr b) ga_nil (starEach_cons (noStar_tail hst))) (starEach_cons hst)
                exact (ps_par calm nd i1 j1 hij lx ly pa (swsP_ok (by rw [c.sc]; exact h1)) rfl).to fun E σ H q => rs_par2 q
              · simp only [h4]
                exact gs_st
        · exact gs_st
      · exact gs_st
    · rename_i hne
      by_cases h3 : isComp e = true
      · simp only [h3, if_true]
        exact gs_st
      · simp only [h3]
        cases h2 : cTg N sc (.Tuple ts kt pt) with
        | none => exact gs_st
        | some z =>
          obtain ⟨g, ks⟩ := z
          refine gs_unp (hr _) (tgt h2) (noComp1 (by simpa using h3)) ?_ rfl
          cases e with
          | Tuple vs k2 p2 => exact absurd rfl (hne vs k2 p2)
          | _ => rfl
  · rename_i x p op e pos
    cases h : slotW N sc x with
    | none => exact gs_st
    | some i =>
      obtain ⟨h1, h2⟩ := slotW_ok c h
      cases hf : augF op with
      | none => exact gs_st
      | some f => exact gs_aug hf nd h1 h2 (hr _) (hfn x h2)
  · exact gs_if (ht _) (sSs hrec _) (sSs hrec _)
  · exact gs_while wFuel hp (ht _) (sSs hrec _)
  · rename_i tg iter b pos
    cases h : cTg N sc tg with
    | none => exact gs_st
    | some z =>
      obtain ⟨g, ks⟩ := z
      by_cases h2 : notSet iter = true
      · simp only [h2, if_true]
        exact gs_for hp calm (sI c hr tg iter h2) (tgt h) (sSs hrec _) (notSet_fold h2)
      · simp only [h2]
        exact gs_st
  · rename_i x p e cpos pos
    cases h : G.excs.lookup x with
    | none => exact gs_st
    | some f =>
      by_cases h2 : (globB sc x && !odd x && noStar [e]) = true
      · simp only [h2, if_true]
        rw [Bool.and_eq_true, Bool.and_eq_true] at h2
        exact gs_raise (c.rs hot x f h) calm c.tk (glob_ok c h2.1.1) (odd_ok (x := x) (by simpa using h2.1.2)).1 (hr _) h2.2
      · simp only [h2]
        exact gs_st
  · rename_i body x np nm b suite hpos pos
    by_cases h2 : (globB sc x && !odd x && G.ccs.contains x) = true
    · rw [if_pos h2]
      rw [Bool.and_eq_true, Bool.and_eq_true] at h2
      have hn : Names X x (.ref (He.ga T.K x)) := ⟨glob_ok c h2.1.1, (odd_ok (x := x) (by simpa using h2.1.2)).1, .inl (c.cc x h2.2)⟩
      have hcat : ∀ y b, exmT G.exm y x = some b → PySem.W.exmOne X.K (.ref (He.ga T.K y)) (.ref (He.ga T.K x)) = some b := fun y b h => by rw [c.K]; exact c.em y x b h
      have hbd : ∀ (W : WX) (pn : List (Addr × Obj)) (xe : Value → Shared → Prop), Takes (X.tr pn xe) W → PassesOwn (model X.prog X.w) X.A X.env xe → PSs (X.tr pn xe) body (tDS (T.wi W) (cSs rec body)) := fun W pn xe tk po =>
        sSs (hrecA (X.tr pn xe) (T.wi W) (c.tr hot tk) ⟨so.fn, so.stk, so.frm⟩ fun _ => po) body
      have hsu : ∀ (xp : Xp) (oe : Obj) (pn : List (Addr × Obj)), Zc xp.cls xp.d oe → (∃ vs, oe.data = .fields vs) → PSs (X.suite xp.a ((xp.a, oe) :: pn)) (b :: suite) (tDS (T.hot xp) (cSs recH (b :: suite))) := fun xp oe pn z1 z2 =>
        sSs (hrecH _ _ (c.suite xp z1 z2) ⟨so.fn, so.stk, so.frm⟩ fun z => by cases z) (b :: suite)
      cases nm with
      | none => exact gs_try_only (c.xp hot) hcat so.stk so.frm hn c.tk hbd hsu
      | some n =>
        simp only []
        cases h3 : slotW N sc n with
        | none => exact gs_st
        | some i =>
          by_cases h4 : notLoc sc n = true
          · simp only [h4, if_true]
            exact gs_st
          · simp only [h4]
            obtain ⟨i1, i2⟩ := slotW_ok c h3
            refine gs_try_as (c.xp hot) hcat so.stk so.frm nd i1 ?_ hn c.tk hbd hsu
            show X.env.scope.names.lookup n = some .local
            rw [c.sc]
            unfold notLoc at h4
            split at h4
            · assumption
            · exact absurd rfl h4
    · rw [if_neg h2]
      exact gs_st
  · exact gs_st
theorem sS (so : StOk X) (c : CxOk G orc N X T sc) (hp : G.hot = false → PassesOwn (model X.prog X.w) X.A X.env X.xe) (hrec : RecOk G orc N sc rec) (hrecH : RecOk G.bare orc N sc recH) (st : Stmt) :
    PS X st (tDS T (stepS G N ((comp G orc N L).1 sc) ((comp G orc N L).2 sc) (cI G (comp G orc N L).1 sc) rec recH sc st)) := by
  unfold stepS
  by_cases h : G.hot = true
  · rw [if_pos h]
    exact sH c so (hrec X T c so hp) st
  · rw [if_neg h]
    have h : G.hot = false := by simpa using h
    exact sC c h so (hp h) hrec hrecH st
theorem compS_ok : ∀ (n : Nat) (G : Gm), RecOk G orc N sc (compS orc N L sc n G)
  | 0, _ => fun X T c so hp st => gs_st
  | n + 1, G => fun X T c so hp st => sS so c hp (compS_ok n G) (compS_ok n G.bare) st
theorem compB_ok (c : CxOk G orc N X T sc) (so : StOk X) (hp : G.hot = false → PassesOwn (model X.prog X.w) X.A X.env X.xe) (n : Nat) (b : List Stmt) : PSs X b (tDS T (compB G orc N L n sc b)) := sSs (compS_ok n G X T c so hp) b
end
end DL
set_option maxHeartbeats 8000000
/-! DL22: the table of defs: binding, levels, all promises at once. -/
namespace DL
open PySem PySem.Spec PyProof.Rows L2

def plainP (p : Arguments) (ps : List Str) : Bool := p.posonlyargs.isEmpty && p.vararg.isNone && p.kwonlyargs.isEmpty && p.kwarg.isNone && decide (p.args.map (·.arg) = ps) && decide ps.Nodup
theorem zip_look {α : Type} {n : Str} : ∀ {ps : List Str} {vs : List α}, n ∉ ps → (ps.zip vs).lookup n = none
  | [], _, _ => rfl
  | _ :: _, [], _ => rfl
  | p :: ps, v :: vs, h => by
    rw [List.zip_cons_cons, List.lookup_cons, beq_false_of_ne fun z => h (by rw [z]; exact List.mem_cons_self)]
    exact zip_look fun z => h (List.mem_cons_of_mem _ z)
theorem zip_look_some {α : Type} {n : Str} : ∀ {ps : List Str} {vs : List α}, n ∈ ps → ps.length ≤ vs.length → ((ps.zip vs).lookup n).isSome = true
  | [], _, h, _ => nomatch h
  | p :: ps, [], _, h => by simp at h
  | p :: ps, v :: vs, h, hl => by
    rw [List.zip_cons_cons, List.lookup_cons]
    by_cases e : n = p
    · simp [e]
    · rw [beq_false_of_ne e]
      exact zip_look_some ((List.mem_cons.mp h).resolve_left e) (by simpa using hl)
theorem zip_all {α : Type} {pre : List (Str × α)} : ∀ {ps : List Str} {vs : List α}, ps.Nodup → (∀ n ∈ ps, pre.lookup n = none) → vs.length = ps.length → ps.filterMap (fun n => ((pre ++ ps.zip vs).lookup n).map (n, ·)) = ps.zip vs
  | [], _, _, _, _ => rfl
  | p :: ps, [], _, _, h => by simp at h
  | p :: ps, v :: vs, nd, hp, hl => by
    rw [List.nodup_cons] at nd
    have h1 : (pre ++ (p :: ps).zip (v :: vs)).lookup p = some v := by
      rw [List.lookup_append, hp p List.mem_cons_self]
      simp
    have ih := zip_all (pre := pre ++ [(p, v)]) (ps := ps) (vs := vs) nd.2 (fun n hn => by
      rw [List.lookup_append, hp n (List.mem_cons_of_mem _ hn)]
      have : n ≠ p := fun z => nd.1 (z ▸ hn)
      simp [List.lookup_cons, beq_false_of_ne this]) (by simpa using hl)
    rw [List.append_assoc] at ih
    rw [List.filterMap_cons, h1]
    simp only [Option.map_some, List.zip_cons_cons]
    exact congrArg _ ih
def addSlots {α : Type} : List (Str × α) → List (Str × α) → List (Str × α)
  | [], s => s
  | (n, d) :: r, s => addSlots r (if (s.lookup n).isNone = true then s ++ [(n, d)] else s)
theorem loop_slots (l : List (Str × Value)) : ∀ (s : List (Str × Value)), (forIn l s fun x __s => if (List.lookup x.fst __s).isNone = true then pure (ForInStep.yield (__s ++ [(x.fst, x.snd)])) else pure (ForInStep.yield __s) : Sem (List (Str × Value))) = pure (addSlots l s) := by
  induction l with
  | nil => intro s; rfl
  | cons x l ih =>
    intro s
    rw [List.forIn_cons]
    unfold addSlots
    by_cases h : (List.lookup x.1 s).isNone = true
    · rw [if_pos h, if_pos h, pure_bind]
      exact ih _
    · rw [if_neg h, if_neg h, pure_bind]
      exact ih _
theorem add_old {α : Type} : ∀ {l s : List (Str × α)}, (∀ x ∈ l, (s.lookup x.1).isSome = true) → addSlots l s = s
  | [], _, _ => rfl
  | x :: l, s, h => by
    unfold addSlots
    have h1 := h x List.mem_cons_self
    rw [if_neg (by
      rw [Option.isNone_iff_eq_none]
      intro z
      rw [z] at h1
      cases h1)]
    exact add_old fun y hy => h y (List.mem_cons_of_mem _ hy)
theorem add_new {α : Type} : ∀ {l s : List (Str × α)}, (l.map (·.1)).Nodup → (∀ x ∈ l, s.lookup x.1 = none) → addSlots l s = s ++ l
  | [], s, _, _ => by unfold addSlots; simp
  | x :: l, s, nd, h => by
    unfold addSlots
    rw [if_pos (by rw [h x List.mem_cons_self]; rfl)]
    rw [List.map_cons, List.nodup_cons] at nd
    rw [add_new nd.2 fun y hy => by
      rw [List.lookup_append, h y (List.mem_cons_of_mem _ hy)]
      have : y.1 ≠ x.1 := fun z => nd.1 (by rw [← z]; exact List.mem_map_of_mem hy)
      simp [List.lookup_cons, beq_false_of_ne this]]
    simp
theorem add_app {α : Type} : ∀ {l l' s : List (Str × α)}, addSlots (l ++ l') s = addSlots l' (addSlots l s)
  | [], _, _ => rfl
  | x :: l, l', s => by
    obtain ⟨n, d⟩ := x
    show addSlots (l ++ l') (if (List.lookup n s).isNone = true then s ++ [(n, d)] else s) = addSlots l' (addSlots l (if (List.lookup n s).isNone = true then s ++ [(n, d)] else s))
    exact add_app
theorem fst_zip {α β : Type} : ∀ (a : List α) (b : List β), (a.zip b).map (·.1) = a.take b.length
  | [], _ => by simp
  | _ :: _, [] => by simp
  | a :: as, b :: bs => by simp [fst_zip as bs]
theorem zip_cut {α β : Type} : ∀ (n : Nat) (a : List α) (b : List β), a.zip b = (a.take n).zip (b.take n) ++ (a.drop n).zip (b.drop n)
  | 0, a, b => by simp
  | n + 1, [], b => by simp
  | n + 1, a :: as, [] => by simp
  | n + 1, a :: as, b :: bs => by simp [← zip_cut n as bs]
theorem zip_right {α β : Type} : ∀ (us r : List β) (ps : List α), us.length ≤ ps.length → ps.zip (us ++ r) = (ps.take us.length).zip us ++ (ps.drop us.length).zip r
  | [], r, ps, _ => by simp
  | u :: us, r, [], h => by simp at h
  | u :: us, r, p :: ps, h => by
    have := zip_right us r ps (by simpa using h)
    simp [this]
theorem bind_gen {fd : FuncData} {ps : List Str} {us : List Value} (h : plainP fd.params ps = true) (hl : us.length ≤ ps.length) :
    ∃ k, bindArgs fd ⟨us, []⟩ = seqItems? fd.defaults >>= k ∧ ∀ o, us.length + ((o.getD #[]).toList.length) ≥ ps.length → (o.getD #[]).toList.length ≤ ps.length → k o = pure (ps.zip (us ++ (o.getD #[]).toList.drop (us.length + (o.getD #[]).toList.length - ps.length))) := by
  unfold plainP at h
  simp only [Bool.and_eq_true, List.isEmpty_iff, Option.isNone_iff_eq_none, decide_eq_true_eq] at h
  obtain ⟨⟨⟨⟨⟨h1, h2⟩, h3⟩, h4⟩, h5⟩, h6⟩ := h
  unfold bindArgs
  simp only [h1, h2, h3, h4, h5, List.map_nil, List.nil_append, List.append_nil, Option.isNone_none, Bool.and_true, List.forIn_nil, pure_bind]
  refine ⟨_, rfl, fun o ho1 ho2 => ?_⟩
  generalize (o.getD #[]).toList = its at ho1 ho2 ⊢
  have d0 : its.drop (its.length - ps.length) = its := by
    rw [show its.length - ps.length = 0 by omega]
    rfl
  have pz : ps.zip us = (ps.take us.length).zip us ++ [] := by
    have := zip_right us [] ps hl
    simpa using this
  have m0 : ((ps.take (ps.length - its.length)).filter fun n => ((ps.zip us).lookup n).isNone) = [] := by
    rw [List.filter_eq_nil_iff]
    intro n hn
    have : ((ps.zip us).lookup n).isSome = true := by
      rw [pz, List.append_nil] at *
      refine zip_look_some ?_ (by rw [List.length_take]; omega)
      have : ps.take (ps.length - its.length) = (ps.take us.length).take (ps.length - its.length) := by rw [List.take_take, Nat.min_eq_left (by omega)]
      rw [this] at hn
      exact List.mem_of_mem_take hn
    simp [Option.isNone_iff_eq_none, Option.isSome_iff_ne_none] at this ⊢
    exact this
  simp only [d0, m0]
  rw [if_neg (by simp; omega), if_neg (by simp)]
  rw [loop_slots, pure_bind]
  have sl : addSlots ((ps.drop (ps.length - its.length)).zip its) (ps.zip us) = ps.zip (us ++ its.drop (us.length + its.length - ps.length)) := by
    have e0 : us.length + its.length - ps.length = us.length - (ps.length - its.length) := by omega
    rw [zip_cut (us.length - (ps.length - its.length)) (ps.drop (ps.length - its.length)) its, add_app, zip_right us _ ps hl, e0]
    have old : ∀ x ∈ ((ps.drop (ps.length - its.length)).take (us.length - (ps.length - its.length))).zip (its.take (us.length - (ps.length - its.length))), ((ps.zip us).lookup x.1).isSome = true := fun x hx => by
      have h1 := (List.of_mem_zip hx).1
      rw [pz, List.append_nil]
      refine zip_look_some ?_ (by rw [List.length_take]; omega)
      have e1 : (ps.drop (ps.length - its.length)).take (us.length - (ps.length - its.length)) = (ps.take us.length).drop (ps.length - its.length) := by rw [List.drop_take]
      rw [e1] at h1
      exact List.mem_of_mem_drop h1
    rw [add_old old, List.drop_drop, show ps.length - its.length + (us.length - (ps.length - its.length)) = us.length by omega]
    have nd2 : (ps.drop us.length).Nodup := List.Nodup.sublist (List.drop_sublist _ _) h6
    have apart : ∀ n ∈ ps.drop us.length, n ∉ ps.take us.length := fun n hn hm => by
      have : (ps.take us.length ++ ps.drop us.length).Nodup := by rw [List.take_append_drop]; exact h6
      exact (List.nodup_append.mp this).2.2 n hm n hn rfl
    rw [add_new (by
      refine List.Nodup.sublist ?_ nd2
      rw [fst_zip]
      exact List.take_sublist _ _) fun x hx => by
        rw [pz, List.append_nil]
        exact zip_look (apart _ (List.of_mem_zip hx).1)]
    rw [pz, List.append_nil]
  rw [sl]
  simp only [List.isEmpty_nil, Bool.not_true, Bool.false_eq_true, if_false]
  have fin := zip_all (pre := []) (ps := ps) (vs := us ++ its.drop (us.length + its.length - ps.length)) h6 (fun _ _ => rfl) (by
    rw [List.length_append, List.length_drop]
    omega)
  rw [List.nil_append] at fin
  rw [fin]

theorem binds_gen {K : PySem.W.Frag} {x qual : Str} {params : Arguments} {body : List Stmt} {scope : Scope} {dvs : List V} {f : Addr} {fd : FuncData} {ps : List Str} (F : FunD K x qual params body scope dvs [] f fd) (hp : plainP params ps = true) (hd : dvs.length ≤ ps.length) (j : Nat) (hj : j ≤ dvs.length) :
    ∃ ds, Vals (dvs.drop j) ds ∧ Binds K fd ps ds := by
  by_cases h0 : dvs = []
  · subst h0
    refine ⟨[], by simpa using Paired.nil, F.bindsN fun kV doc pm an cdv ct us hl => ?_⟩
    obtain ⟨k, e1, e2⟩ := bind_gen (fd := PySem.W.fnOf x qual params body scope .none kV doc pm an cdv ct) (ps := ps) (us := us) hp (Nat.le_of_eq hl)
    rw [e1]
    have e3 : (seqItems? (PySem.W.fnOf x qual params body scope .none kV doc pm an cdv ct).defaults : Sem (Option (Array Value))) = pure none := rfl
    rw [e3, pure_bind, e2 none (by simp; omega) (by simp)]
    simp
  · obtain ⟨ds, h1, h2⟩ := F.binds1 (ps := ps) (ps.length - (dvs.length - j)) j h0 (by omega) fun T kV doc pm an cdv ct us its hu hi => by
      obtain ⟨k, e1, e2⟩ := bind_gen (fd := PySem.W.fnOf x qual params body scope (.ref T) kV doc pm an cdv ct) (ps := ps) (us := us) hp (by omega)
      refine ⟨k, e1, ?_⟩
      have := e2 (some its.toArray) (by simp; omega) (by simp; omega)
      rw [this]
      have e4 : us.length + its.length - ps.length = j := by omega
      simp [e4]
    exact ⟨ds, h1, h2⟩

/-! ### constants of the written part -/
mutual
def repU (K : PySem.W.Frag) : D → Value → Bool
  | .non, .none => true
  | .bl b, .bool c => b == c
  | .int i, .int j _ => decide (i = j)
  | .str x, .str y _ => decide (x = y)
  | .tup ds, .ref a => (match K.lookup a with
    | some ⟨.type c, _, .seq its _, _⟩ => decide (c = "tuple") && decide (its.size ≤ sizeLine) && repUs K ds its.toList
    | _ => false)
  | _, _ => false
def repUs (K : PySem.W.Frag) : List D → List Value → Bool
  | [], [] => true
  | d :: ds, u :: us => repU K d u && repUs K ds us
  | _, _ => false
end
mutual
theorem repU_ok {K : PySem.W.Frag} : ∀ {d : D} {u : Value}, repU K d u = true → ∃ v, RelV v u ∧ ∀ h, Rep K h v d
  | .non, u, h => by
    cases u <;> first | exact ⟨.non, rfl, fun _ => .non⟩ | (unfold repU at h; cases h)
  | .bl b, u, h => by
    cases u with
    | bool c => 
      have h : (b == c) = true := by unfold repU at h; exact h
      rw [beq_iff_eq] at h
      exact ⟨.bl b, by rw [h]; rfl, fun _ => .bl⟩
    | _ => unfold repU at h; cases h
  | .int i, u, h => by
    cases u with
    | int j t =>
      have h : decide (i = j) = true := by unfold repU at h; exact h
      exact ⟨.int i, ⟨t, by rw [of_decide_eq_true h]⟩, fun _ => .int⟩
    | _ => unfold repU at h; cases h
  | .str x, u, h => by
    cases u with
    | str y t =>
      have h : decide (x = y) = true := by unfold repU at h; exact h
      exact ⟨.str x, ⟨t, by rw [of_decide_eq_true h]⟩, fun _ => .str⟩
    | _ => unfold repU at h; cases h
  | .tup ds, u, h => by
    cases u with
    | ref a =>
      have h : (match K.lookup a with
        | some ⟨.type c, _, .seq its _, _⟩ => decide (c = "tuple") && decide (its.size ≤ sizeLine) && repUs K ds its.toList
        | _ => false) = true := by unfold repU at h; exact h
      split at h
      · rename_i c od its n osl q
        rw [Bool.and_eq_true, Bool.and_eq_true] at h
        obtain ⟨vs, r1, r2⟩ := repUs_ok h.2
        exact ⟨.ref a, rfl, fun H => .tup (.inr ⟨_, its, n, q, congrArg Value.type (of_decide_eq_true h.1.1), rfl, of_decide_eq_true h.1.2, r1⟩) (r2 H)⟩
      · cases h
    | _ => unfold repU at h; cases h
  | .lst _, u, h => by cases u <;> (unfold repU at h; cases h)
  | .rol _, u, h => by cases u <;> (unfold repU at h; cases h)
  | .obj _ _, u, h => by cases u <;> (unfold repU at h; cases h)
theorem repUs_ok {K : PySem.W.Frag} : ∀ {ds : List D} {us : List Value}, repUs K ds us = true → ∃ vs, Vals vs us ∧ ∀ h, Reps K h vs ds
  | [], [], _ => ⟨[], .nil, fun _ => .nil⟩
  | [], _ :: _, h => by unfold repUs at h; cases h
  | _ :: _, [], h => by unfold repUs at h; cases h
  | d :: ds, u :: us, h => by
    unfold repUs at h
    rw [Bool.and_eq_true] at h
    obtain ⟨v, r1, r2⟩ := repU_ok h.1
    obtain ⟨vs, s1, s2⟩ := repUs_ok h.2
    exact ⟨v :: vs, .cons r1 s1, fun H => .cons (r2 H) (s2 H)⟩
end
theorem relV_abs {v : V} {u : Value} (a : L2.RelV v u) : absV u = some v := by
  cases v with
  | non => cases (show u = _ from a); rfl
  | bl b => cases (show u = _ from a); rfl
  | int i => obtain ⟨t, rfl⟩ := a; rfl
  | str x => obtain ⟨t, rfl⟩ := a; rfl
  | byt b => obtain ⟨t, rfl⟩ := a; rfl
  | flt b => obtain ⟨t, rfl⟩ := a; rfl
  | ref p => cases (show u = _ from a); rfl
  | ty n => cases (show u = _ from a); rfl
theorem relV_inj {v w : V} {u : Value} (a : L2.RelV v u) (b : L2.RelV w u) : v = w := Option.some.inj ((relV_abs a).symm.trans (relV_abs b))
theorem vals_inj : ∀ {vs ws : List V} {us : List Value}, Vals vs us → Vals ws us → vs = ws
  | _, _, _, .nil, .nil => rfl
  | _, _, _, .cons a b, .cons c d => by rw [relV_inj a c, vals_inj b d]
end DL
set_option maxHeartbeats 8000000
/-! DL25: a def that says super().__init__(..) at its own level. -/
namespace DL
open PySem PySem.Spec PyProof.Rows L2

/-- at a def's own level, its code being the top -/
structure PSsA (X : Cx) (b0 : List Stmt) (b : List Stmt) (t : TS) : Prop where
  run : ∀ (pins : List (Addr × Obj)) (s : Shared) (σ : L2.St) (H : Hp) (D : Ends), Inv X pins σ H s → t D σ H → PySem.wpAt (model X.prog X.w) X.A (.func b0 X.env) (execs b X.env) (SP X pins D) X.xe s
structure PSA (X : Cx) (b0 : List Stmt) (st : Stmt) (t : TS) : Prop where
  run : ∀ (pins : List (Addr × Obj)) (s : Shared) (σ : L2.St) (H : Hp) (D : Ends), Inv X pins σ H s → t D σ H → PySem.wpAt (model X.prog X.w) X.A (.func b0 X.env) (exec st X.env) (SP X pins D) X.xe s
section
variable {X : Cx} {b0 b : List Stmt} {st : Stmt} {t u : TS}
theorem PSs.atA (h : PSs X b t) : PSsA X b0 b t := ⟨fun pins s σ H D I q => wpAt_of_wpAny (h.run pins s σ H D I q)⟩
theorem PS.atA (h : PS X st t) : PSA X b0 st t := ⟨fun pins s σ H D I q => wpAt_of_wpAny (h.run pins s σ H D I q)⟩
theorem PSA.to {t' : TS} (h : PSA X b0 st t) (f : ∀ D σ H, t' D σ H → t D σ H) : PSA X b0 st t' := ⟨fun pins s σ H D I q => h.run pins s σ H D I (f D σ H q)⟩
theorem PSsA.to {t' : TS} (h : PSsA X b0 b t) (f : ∀ D σ H, t' D σ H → t D σ H) : PSsA X b0 b t' := ⟨fun pins s σ H D I q => h.run pins s σ H D I (f D σ H q)⟩
theorem pssa_cons (h1 : PSA X b0 st t) (h2 : PSsA X b0 b u) : PSsA X b0 (st :: b) (tSeq t u) := ⟨fun pins s σ H D I q => by
  refine ks_wpAt_execs_cons (ks_wpAt_mono (h1.run pins s σ H _ I q) (fun f s' hs => ?_) fun _ _ x => x)
  cases f with
  | next =>
    obtain ⟨σ', H', J, q'⟩ := hs
    exact h2.run pins s' σ' H' D J q'
  | brk => exact hs
  | cont => exact hs
  | ret v => exact hs⟩
theorem gssa_cons {T : Th} {m k : SDen} (h1 : PSA X b0 st (tDS T m)) (h2 : PSsA X b0 b (tDS T k)) : PSsA X b0 (st :: b) (tDS T (sSeq m k)) := (pssa_cons h1 h2).to fun E σ H ⟨P, O, env, he, q⟩ => by
  refine ⟨P, O, env, he, ?_⟩
  unfold sSeq at q
  cases e : m env with
  | ok w env1 =>
    rw [e] at q
    cases w with
    | nx => exact fun σ' H' O' s e' => ⟨P, O', env1, e', RS.step q s⟩
    | rt w => exact q
    | bk => exact q
    | ct => exact q
  | ex x env1 => rw [e] at q; exact q
  | st => rw [e] at q; exact q
end

/-! ### the activation of such a def -/
structure ScS (N ps : List Str) (sc : Scope) : Prop where
  kind : sc.kind = .function
  co : sc.isCoroutine = false
  gen : sc.isGenerator = false
  nd : N.Nodup
  pre : N.take ps.length = ps
  par : ∀ x ∈ ps, sc.names.lookup x = some .local
  nocell : ∀ y ∈ sc.names, y.2 ≠ .cell
  cls : sc.names.lookup ("__class__" : Str) = some .free
  sup : sc.names.lookup ("super" : Str) = some .globalImplicit
  only : ∀ y, sc.names.lookup y = some .free → y = ("__class__" : Str)
def cxS (CX : CXT) (P : Program) (w : World) (K : PySem.W.Frag) (mg : Str → Option Value) (base : Heap) (N : List Str) (qual : Str) (scope : Scope) (f : Addr) (cd : Value) (cc : Addr) (A : Around) (outer : List Env) (s : Shared) (H : Hp) (E : XK) : Cx where
  prog := P
  w := w
  K := K
  mg := mg
  base := base
  A := A.deeper (PySem.W.ksEnv qual scope s.heap.objs.size f cd cc)
  N := N
  s_0 := s
  H_0 := H
  env := PySem.W.ksEnv qual scope s.heap.objs.size f cd cc
  outer := outer
  stack := PySem.W.ksEnv qual scope s.heap.objs.size f cd cc :: outer
  ex := []
  calm := true
  fn := fun _ => false
  pn := []
  xe := fun e s' => wpAny (model P w) (A.deeper (PySem.W.ksEnv qual scope s.heap.objs.size f cd cc)) (leaving (PySem.W.ksEnv qual scope s.heap.objs.size f cd cc) e) (fun _ s'' => CX outer H s E e s'') (fun e' s'' => CX outer H s E e' s'') s'
theorem lookup_uniq {y : Str} {u : Value} : ∀ {l : List (Str × Value)}, (y, u) ∈ l → (∀ v, (y, v) ∈ l → v = u) → l.lookup y = some u
  | [], h, _ => by cases h
  | (a, b) :: l, h, hu => by
    rw [List.lookup_cons]
    by_cases e : y = a
    · subst e
      rw [beq_self_eq_true]
      show some b = some u
      rw [hu b List.mem_cons_self]
    · rw [beq_false_of_ne e]
      rcases List.mem_cons.mp h with h | h
      · cases h
        exact absurd rfl e
      · exact lookup_uniq h fun v hv => hu v (List.mem_cons_of_mem _ hv)
theorem zip_get {y : Str} {v : Value} : ∀ {ps : List Str} {us : List Value}, (y, v) ∈ ps.zip us → ∃ i : Nat, ps[i]? = some y ∧ us[i]? = some v
  | [], _, h => by simp at h
  | _ :: _, [], h => by simp at h
  | p :: ps, u :: us, h => by
    rw [List.zip_cons_cons] at h
    rcases List.mem_cons.mp h with h | h
    · cases h
      exact ⟨0, rfl, rfl⟩
    · obtain ⟨i, h1, h2⟩ := zip_get h
      exact ⟨i + 1, by simpa using h1, by simpa using h2⟩
theorem get_zip {y : Str} {v : Value} : ∀ {ps : List Str} {us : List Value} {i : Nat}, ps[i]? = some y → us[i]? = some v → (y, v) ∈ ps.zip us
  | [], _, i, h, _ => by simp at h
  | _ :: _, [], i, _, h => by simp at h
  | p :: ps, u :: us, 0, h1, h2 => by simp at h1 h2; subst h1 h2; simp
  | p :: ps, u :: us, i + 1, h1, h2 => by
    rw [List.zip_cons_cons]
    exact List.mem_cons_of_mem _ (get_zip (i := i) (by simpa using h1) (by simpa using h2))
section
variable {CX : CXT} {P : Program} {w : World} {K : PySem.W.Frag} {mg : Str → Option Value} {base : Heap} {N ps : List Str} {qual : Str} {scope : Scope} {f cc : Addr} {cd : Value} {A : Around} {outer : List Env} {s : Shared} {h1 : Heap} {H : Hp} {E : XK} {us : List Value} {vs : List V}
theorem inv_startS {cv : Value} {tk : Nat} (S : ScS N ps scope) (hd : A.handled = none) (e0 : Env0 P w K mg base A outer s H) (hl : vs.length = ps.length) (r : Vals vs us) (hc : ∃ o, base.get? cc = some o ∧ o.data = .cell (some cv))
    (hns : h1.Ns s.heap.objs.size (fun x => (ps.zip us).reverse.lookup x)) (hk : ∀ b o, s.heap.get? b = some o → h1.get? b = some o) :
    Inv (cxS CX P w K mg base N qual scope f cd cc A outer s H E) [] (start N vs) H { s with heap := h1, toks := tk } := by
  have hpl : ps.length ≤ N.length := by have := congrArg List.length S.pre; rw [List.length_take] at this; omega
  obtain ⟨oc, hc1, hc2⟩ := hc
  have noA : ∀ b : Addr, b ∉ (cxS CX P w K mg base N qual scope f cd cc A outer s H E).ex := fun b z => absurd (show b ∈ ([] : List Addr) from z) (by simp)
  have cls : ∀ {y : Str} {c : Addr}, (cxS CX P w K mg base N qual scope f cd cc A outer s H E).env.cells.lookup y = some c → y = ("__class__" : Str) ∧ c = cc := fun {y c} h => by
    have h : ([(("__class__" : Str), cc)] : List (Str × Addr)).lookup y = some c := h
    rw [List.lookup_cons] at h
    by_cases e : y = ("__class__" : Str)
    · subst e
      rw [beq_self_eq_true] at h
      exact ⟨rfl, (Option.some.inj h).symm⟩
    · rw [beq_false_of_ne e] at h
      cases h
  refine ⟨⟨e0.mod, S.kind, rfl, rfl, Nat.le_refl _, fun y z c h1 h2 => ?_, fun y hy => ?_, fun y c h _ => ?_, fun _ => hd, Around.frames_deeper e0.frames, .inr ⟨rfl, rfl⟩, fun b z => absurd z (noA b), e0.bs, e0.bsz, fun b _ _ => noA b, fun b z => absurd z (noA b), e0.funs, e0.frf⟩,
    rfl, e0.bare, Un.kept hk, ⟨_, hns, fun i y v h1 h2 h3 => ?_⟩, fun y c h => ?_, e0.hok.fresh (Nat.le_refl _), fun y c h => ?_, fun p hp => absurd (show p ∈ ([] : List (Addr × Obj)) from hp) (by simp), e0.hok.kept hk, ?_⟩
  · rw [(cls h1).1, (cls h2).1]
  · have hy : scope.names.lookup y = some .cell ∨ scope.names.lookup y = some .free := hy
    rcases hy with hy | hy
    · exact absurd rfl (S.nocell _ (PySem.mem_of_lookup hy))
    · exact ⟨cc, by rw [S.only y hy]; rfl⟩
  · cases h
  · have hi : i < vs.length := by
      unfold L2.start at h2
      by_cases hi : i < vs.length
      · exact hi
      · rw [List.getElem?_append_right (by simpa using hi)] at h2
        rw [List.getElem?_replicate] at h2
        split at h2 <;> cases h2
    have ha : vs[i]? = some v := by
      unfold L2.start at h2
      rw [List.getElem?_append_left (by simpa using hi), List.getElem?_map] at h2
      cases e : vs[i]? with
      | none => rw [e] at h2; cases h2
      | some a => rw [e] at h2; cases h2; rfl
    obtain ⟨u, hu, rv⟩ := r.get ha
    have hp : ps[i]? = some y := by
      rw [← S.pre, List.getElem?_take_of_lt (by omega)]; exact h1
    have ndP : ps.Nodup := by rw [← S.pre]; exact S.nd.sublist (List.take_sublist _ _)
    refine ⟨u, rv, .inl ⟨S.par y (List.mem_of_getElem? hp), ?_⟩⟩
    refine lookup_uniq (List.mem_reverse.mpr (get_zip hp hu)) fun v' hv' => ?_
    obtain ⟨j, j1, j2⟩ := zip_get (List.mem_reverse.mp hv')
    have := nodup_ix ndP hp j1
    subst this
    rw [hu] at j2
    exact (Option.some.inj j2).symm
  · rw [(cls h).2]
    exact ⟨some cv, oc, hk _ _ (e0.bs _ _ hc1).1, hc2⟩
  · rw [(cls h).2]
    exact (e0.bs _ _ hc1).2
  · unfold L2.start
    show _ = N.length
    rw [List.length_append, List.length_map, List.length_replicate]
    omega
/-- such a def's body is run -/
theorem run_bodyS {k : Nat} {name : Str} {params : Arguments} {body : List Stmt} {dV kV doc pm cdv ct oc : Value} {an od : Option Addr} {osl : Array (Option Value)} {cv : Value}
    (lk : K.lookup f = some ⟨oc, od, .func (PySem.W.ksFn name qual params body scope dV kV doc pm an cdv ct cc), osl⟩) (hcd : PySem.W.codeIn K cdv qual = true) (hcell : ∃ o, K.lookup cc = some o ∧ o.data = .cell (some cv)) (S : ScS N ps scope)
    {A : Around} {outer : List Env} {s : Shared} {H : Hp} {args : Args} {us : List Value} {vs : List V} {Q : VK} {E : XK} (hr : Room (k + 1) A) (e0 : Env0 P w K mg base A outer s H) (hb : BindsTo s (PySem.W.ksFn name qual params body scope dV kV doc pm an cdv ct cc) args (ps.zip us)) (r : Vals vs us) (hl : vs.length = ps.length)
    (hbody : ∃ t, PSsA (cxS CX P w K mg base N qual scope f cdv cc A outer s H E) body body t ∧ t { nx := fun _ H' => Q .non H', rt := Q } (start N vs) H) :
    codeAny (model P w) A (.call (.ref f) args) (CR CX outer P w H s Q E) s := by
  have KX : K.In s.heap := e0.mod.kin.keeps fun b o e => (e0.bs b o e).1
  have lim : s.heap.NoLimit := e0.mod.nolimit.keeps fun b o e => (e0.bs b o e).1
  obtain ⟨oC, hC1, hC2⟩ := hcell
  refine ks_codeAny_call_defAt (fd := PySem.W.ksFn name qual params body scope dV kV doc pm an cdv ct cc) (body := body) (binds := ps.zip us) hr.depth (KX _ _ lk) rfl lim (PySem.W.codeRec_of KX hcd) rfl hb S.nocell (fun x hx => S.par x.1 (List.of_mem_zip hx).1) (fun h1 hns hk => ?_) S.co S.gen S.kind
  obtain ⟨t, ht, hq⟩ := hbody
  have I : Inv (cxS CX P w K mg base N qual scope f cdv cc A outer s H E) [] (start N vs) H { s with heap := h1, toks := s.toks + (ps.zip us).length } := inv_startS S hr.hd e0 hl r ⟨oC, e0.mod.kin _ _ hC1, hC2⟩ hns hk
  refine ks_wpAt_mono (ht.run [] _ (start N vs) H _ I hq) (fun fl s' hs => ?_) fun e s' hs => hs
  have fin : ∀ {σ' : L2.St} {H' : Hp} {v : V} {u : Value}, Inv (cxS CX P w K mg base N qual scope f cdv cc A outer s H E) [] σ' H' s' → RelV v u → Q v H' → CE outer P w H s Q u s' :=
    fun {σ' H' v u} J rv q => ⟨v, H', J.os, J.bare, J.base, J.hok, rv, q⟩
  cases fl with
  | ret u =>
    obtain ⟨v, σ', H', J, rv, q⟩ := hs
    exact fin J rv q
  | next =>
    obtain ⟨σ', H', J, q⟩ := hs
    exact fin (v := V.non) (u := Value.none) J rfl q
  | brk =>
    obtain ⟨_, _, _, q⟩ := hs
    exact False.elim q
  | cont =>
    obtain ⟨_, _, _, q⟩ := hs
    exact False.elim q
/-- THE RULE for such a def -/
theorem fn_ofX {k : Nat} {name : Str} {params : Arguments} {body : List Stmt} {dV kV doc pm cdv ct oc : Value} {an od : Option Addr} {osl : Array (Option Value)} {sp : Sp} {cv : Value}
    (lk : K.lookup f = some ⟨oc, od, .func (PySem.W.ksFn name qual params body scope dV kV doc pm an cdv ct cc), osl⟩) (hcd : PySem.W.codeIn K cdv qual = true) (hcell : ∃ o, K.lookup cc = some o ∧ o.data = .cell (some cv)) (S : ScS N ps scope)
    (len : ∀ vs H Q E, sp vs H Q E → vs.length = ps.length)
    (hbody : ∀ (A : Around) (outer : List Env) (s : Shared) (H : Hp) (vs : List V) (Q : VK) (E : XK), Room k (A.deeper (PySem.W.ksEnv qual scope s.heap.objs.size f cdv cc)) → sp vs H Q E →
      ∃ t, PSsA (cxS CX P w K mg base N qual scope f cdv cc A outer s H E) body body t ∧ t { nx := fun _ H' => Q .non H', rt := Q } (start N vs) H) :
    FnOk P w K mg base CX (k + 1) f (PySem.W.ksFn name qual params body scope dV kV doc pm an cdv ct cc) ps sp := by
  exact ⟨len, fun A outer s H args us vs Q E hr e0 hb r hsp => run_bodyS lk hcd hcell S hr e0 hb r (len _ _ _ _ hsp) (hbody A outer s H vs Q E (hr.deeper _) hsp)⟩
theorem fn_ofS {k : Nat} {name : Str} {params : Arguments} {body : List Stmt} {dV kV doc pm cdv ct oc : Value} {an od : Option Addr} {osl : Array (Option Value)} {sp : Sp} {cv : Value}
    (lk : K.lookup f = some ⟨oc, od, .func (PySem.W.ksFn name qual params body scope dV kV doc pm an cdv ct cc), osl⟩) (hcd : PySem.W.codeIn K cdv qual = true) (hcell : ∃ o, K.lookup cc = some o ∧ o.data = .cell (some cv)) (S : ScS N ps scope)
    (len : ∀ vs H Q E, sp vs H Q E → vs.length = ps.length)
    (hbody : ∀ (A : Around) (outer : List Env) (s : Shared) (H : Hp) (vs : List V) (Q : VK) (E : XK), RoomG k (A.deeper (PySem.W.ksEnv qual scope s.heap.objs.size f cdv cc)) → sp vs H Q E →
      ∃ t, PSsA (cxS CX P w K mg base N qual scope f cdv cc A outer s H E) body body t ∧ t { nx := fun _ H' => Q .non H', rt := Q } (start N vs) H) :
    FnG P w K mg base CX (k + 1) f (PySem.W.ksFn name qual params body scope dV kV doc pm an cdv ct cc) ps sp := by
  exact ⟨len, fun A outer s H args us vs Q E hr e0 hb r hsp => run_bodyS lk hcd hcell S hr.room e0 hb r (len _ _ _ _ hsp) (hbody A outer s H vs Q E (hr.deeper _) hsp)⟩
end
end DL
set_option maxHeartbeats 8000000
/-! DL26: super().__init__(..) as a statement. -/
namespace DL
open PySem PySem.Spec PyProof.Rows L2

/-- what is known of the running def and of its class D -/
structure SupC (X : Cx) (D : Addr) (x0 : Str) : Prop where
  ks : X.env.kindOf ("super" : Str) = some .globalImplicit
  kc : X.env.kindOf ("__class__" : Str) = some .free
  ka : X.env.kindOf x0 = some .local
  n0 : X.N[0]? = some x0
  fu : ∃ (f : Addr) (oc : Value) (od : Option Addr) (fd : FuncData) (osl : Array (Option Value)) (ar : PySem.Arg), X.env.func = some f ∧ X.K.lookup f = some ⟨oc, od, .func fd, osl⟩ ∧ (fd.params.posonlyargs ++ fd.params.args).head? = some ar ∧ ar.arg = x0
  co : ∃ (cda : Addr) (o : Obj) (vs : Array Value) (file : Str) (tf : Tok), X.env.code = .ref cda ∧ X.K.lookup cda = some o ∧ o.data = .fields vs ∧ vs[2]? = some (.str file tf) ∧ ((X.prog.main.file : Str) == file) = true
  top : (X.prog.main.scope.names.lookup ("super" : Str)).isSome = false
  ce : ∃ (cc : Addr) (o : Obj), X.env.cells.lookup ("__class__" : Str) = some cc ∧ X.K.lookup cc = some o ∧ o.data = .cell (some (.ref D))
  cd : ∃ cd, PySem.W.clsIn X.K D = some cd
  su : PySem.W.mroIn X.K D (.ref D) = some true
  mg : X.mg ("super" : Str) = none
section
variable {X : Cx} {D x : Addr} {x0 : Str} {pins : List (Addr × Obj)} {σ : L2.St} {H : Hp} {s : Shared} {ox : Obj} {odx : Option Obj}
theorem boot_super : bootBuiltins ("super" : Str) = some (.type "super") := by decide +kernel
theorem sup_base {b0 : List Stmt} {p0 p1 : Pos} {whole : Sem Value} {Q : Value → Shared → Prop} {E : Value → Shared → Prop} {attr : Str} (hat : (attr == ("__class__" : Str)) = false) (S : SupC X D x0) (I : Inv X pins σ H s) (h0 : σ[0]? = some (some (.ref x))) (J : PySem.W.InstAt s.heap x ox D odx)
    (h : ∀ h', h'.get? s.heap.objs.size = some (PySem.W.ks_superObj D x D) → (∀ b o, s.heap.get? b = some o → h'.get? b = some o) → Q (.ref s.heap.objs.size) { s with heap := h' }) :
    PySem.wpAt (model X.prog X.w) X.A (.func b0 X.env) (attributeBase (.Call (.Name "super" p0) [] [] p1) attr X.env whole) Q E s := by
  have KX := I.kIn
  obtain ⟨f, oc, od, fd, osl, ar, f1, f2, f3, f4⟩ := S.fu
  obtain ⟨cda, ocd, vs, file, tf, c1, c2, c3, c4, c5⟩ := S.co
  obtain ⟨cc, oce, e1, e2, e3⟩ := S.ce
  obtain ⟨cd, d1⟩ := S.cd
  obtain ⟨oD, hD1, hD2⟩ : ∃ oD, s.heap.get? D = some oD ∧ oD.data = .cls cd := by
    unfold PySem.W.clsIn at d1
    split at d1
    · rename_i c d cd' sl ho
      cases d1
      exact ⟨_, KX _ _ ho, rfl⟩
    · cases d1
  obtain ⟨m, hns, hloc⟩ := I.loc
  obtain ⟨u, ru, lk⟩ := hloc 0 x0 (.ref x) S.n0 h0 (.inl S.ka)
  obtain rfl : u = Value.ref x := ru
  have hm : m x0 = some (.ref x) := by
    rcases lk with ⟨_, h⟩ | ⟨h, _⟩
    · exact h
    · rw [S.ka] at h
      rcases h with h | h <;> cases h
  obtain ⟨mb, b1, b2⟩ := I.mod.blt
  refine ks_wpAt_super_base S.ks S.kc hat f1 (KX _ _ f2) rfl f3 c1 (KX _ _ c2) c3 c4 c5 S.top ?_
  refine PySem.W.ks_loadName_global I.ok.kind S.ks (Calls.loadGlobal_builtin (by rw [I.ok.glob]; exact I.mod.glob.keeps I.bk) S.mg (by rw [I.ok.blt]; exact b1.keeps I.bk) ((b2 _ (by decide +kernel)).trans boot_super) ⟨rfl, ?_⟩)
  refine wpAny_loadName_free I.ok.kind S.kc e1 ⟨_, KX _ _ e2, e3⟩ ?_
  rw [f4]
  refine wpAny_loadName_local I.ok.kind S.ka hns hm ?_
  obtain ⟨hh, g, d, t, os⟩ := s
  refine ks_wpAny_isType_cls hD1 hD2 ⟨rfl, ?_⟩
  refine ks_wpAny_call_super hD1 hD2 J.at_ J.cls (fun c e => ?_) (PySem.W.looks_mroIn KX S.su) fun h' e k => h h' e k
  have := J.no
  unfold PySem.W.notCls at this
  rw [e] at this
  exact Bool.noConfusion this
/-- the method of the class above, bound -/
theorem sup_get {f2 so : Addr} {pl : Sem Bool} {Q : Value × List Value → Shared → Prop} {E : Value → Shared → Prop} (KX : X.K.In s.heap) (hso : s.heap.get? so = some (PySem.W.ks_superObj D x D)) (J : PySem.W.InstAt s.heap x ox D odx)
    (ho : PySem.W.nsIn X.K cStatics "thirdparty.any" = some none) {name : Str} (hm : PySem.W.ks_superIn X.K D D name = some (some (.ref f2))) (ht : PySem.W.typeIn X.K (.ref f2) = some (.type "function")) (hn : (name == ("__class__" : Str)) = false)
    (h : Q (.ref s.heap.objs.size, []) { s with heap := s.heap.push (PySem.W.methodObj (.ref f2) (.ref x)), toks := s.toks + 1 }) : wpAny (model X.prog X.w) X.A (getMethod (.ref so) name pl) Q E s := by
  obtain ⟨hh, g, d, t, os⟩ := s
  cases hc : PySem.W.clsIn X.K D with
  | none => unfold PySem.W.ks_superIn at hm; rw [hc] at hm; cases hm
  | some cd =>
    unfold PySem.W.ks_superIn at hm
    rw [hc] at hm
    obtain ⟨of, hof, hofc⟩ : ∃ of, hh.get? f2 = some of ∧ of.cls = .type "function" := by
      have ht' : (X.K.lookup f2).map (·.cls) = some (.type "function") := ht
      cases z : X.K.lookup f2 with
      | none => rw [z] at ht'; cases ht'
      | some of => rw [z] at ht'; exact ⟨of, KX _ _ z, Option.some.inj ht'⟩
    refine ks_wpAny_getMethod_super hso (PySem.W.looks_opaque KX ho) (l₀ := cd.mro) ?_ rfl KX hm hof hofc (PySem.W.ks_ne KX J hc) hn h
    exact fun A Q E s k q => wpAny_bind ((PySem.W.looks_clsIn KX hc) A _ E s k (wpAny_pure q))
/-- a pinned new object -/
theorem Inv.pinNew {o : Obj} {k : Nat} (I : Inv X pins σ H s) (hfr : o.isFreed = false) (hd : ∀ v, o.data ≠ .cell v) : Inv X ((s.heap.objs.size, o) :: pins) σ H { s with heap := s.heap.push o, toks := k } := by
  have I1 : Inv X pins σ H { s with heap := s.heap.push o, toks := k } := I.kept fun b u e => Heap.get?_push_of_some _ e
  refine I1.pins_of fun p hp => ?_
  rcases List.mem_cons.mp hp with rfl | hp
  · refine ⟨Heap.get?_push_at rfl hfr, I.hok.fresh (Nat.le_refl _), fun z => ?_, I.nofs (Nat.le_refl _), hd⟩
    obtain ⟨m, ⟨ol, es, ep, h1, _⟩, _⟩ := I.loc
    rw [← z] at h1
    exact absurd (Heap.lt_size h1) (Nat.lt_irrefl _)
  · exact I1.pin p (List.mem_append_right _ hp)
theorem Inv.unpin {p : Addr × Obj} (I : Inv X (p :: pins) σ H s) : Inv X pins σ H s := I.pins_of fun q hq => I.pin q (List.mem_append_right _ (List.mem_cons_of_mem _ hq))
theorem mcall_sup {o : Expr} {m : Str} {apos pos : Pos} {args : List Expr} {env : Env} (hst : noStar args = true) (hl : args.length < 30) (hline : (apos.endLine == pos.line) = true) :
    eval (.Call (.Attribute o m apos) args [] pos) env = (do
      let ov ← attributeBase o m env (eval o env)
      standAt apos.atName
      let (f, first) ← holding [ov] (getMethod ov m (plainOf o env))
      callWith pos f first (backTo pos (starEach args env)) []) := by
  rw [arm_eval_Call]
  have e : (fun ov => methodCall o m apos pos env ov (args.length + ([] : List Keyword).length) (backTo pos (starEach args env)) (backToKw pos (keywordEach [] env))) = fun ov => (do
      let (f, first) ← holding [ov] (getMethod ov m (plainOf o env))
      callWith pos f first (backTo pos (starEach args env)) (backToKw pos (keywordEach [] env))) := funext fun ov => mcall_line (form_plain hst hl) hline
  have e2 : backToKw pos (keywordEach [] env) = [] := rfl
  rw [e2] at e
  have e3 := fun ov => congrFun e ov
  show (do
      let ov ← attributeBase o m env (eval o env)
      standAt apos.atName
      methodCall o m apos pos env ov (args.length + ([] : List Keyword).length) (backTo pos (starEach args env)) []) = _
  simp only [e3]
end
/-- super().__init__(e, ..): the instance in slot 0, of the class D itself -/
def tSup (D : Addr) (sp : Sp) (dvs : List V) (E : L2.St → XK) (ta : TA) : TS := fun Dn σ H => ∃ (x dx : Addr) (fs : List (Str × V)), σ[0]? = some (some (.ref x)) ∧ H x = some (.ins D dx fs) ∧ ta σ H fun vs H1 => sp (.ref x :: (vs ++ dvs)) H1 (fun _ H2 => Dn.nx σ H2) (E σ)
section
variable {X : Cx} {D f2 : Addr} {x0 : Str} {b0 : List Stmt} {e : PySem.Expr} {es : List PySem.Expr} {p0 p1 apos cpos pos : Pos} {CX : CXT} {k : Nat} {fd : FuncData} {ps : List Str} {sp : Sp} {ds : List Value} {dvs : List V} {E : L2.St → XK} {ta : TA}
theorem psa_super (S : SupC X D x0) (ho : PySem.W.nsIn X.K cStatics "thirdparty.any" = some none) (hm : PySem.W.ks_superIn X.K D D "__init__" = some (some (.ref f2))) (ht : PySem.W.typeIn X.K (.ref f2) = some (.type "function")) (hfn : PySem.W.fnIn X.K f2 = true)
    (F : FnG X.prog X.w X.K X.mg X.base CX k f2 fd ps sp) (hr : RoomG k X.A) (hb : Binds X.K fd ps ds) (hd : Vals dvs ds) (hx : ∀ σ, PassesAt CX X σ (E σ)) (ha : PA X (e :: es) ta) (hst : noStar (e :: es) = true) (hl : (e :: es).length < 30) (hline : (apos.endLine == cpos.line) = true) :
    PSA X b0 (.Expr (.Call (.Attribute (.Call (.Name "super" p0) [] [] p1) "__init__" apos) (e :: es) [] cpos) pos) (tSup D sp dvs E ta) := by
  refine ⟨fun pins s σ H Dn I ⟨x, dx, fs, g0, hx0, q⟩ => ?_⟩
  refine ks_wpAt_Expr_any (ks_wpAt_MethodCall (pl := plainOf (.Call (.Name "super" p0) [] [] p1) X.env) ?_ (mcall_sup hst hl hline)) I.quiet (noComp rfl)
  obtain ⟨mA, O, _⟩ := ins_get I.hok hx0
  obtain ⟨od, J, _⟩ := O.look
  refine sup_base (by decide) S I g0 J fun h' e1 k1 => ?_
  have I1 : Inv X pins σ H { s with heap := h' } := I.kept (t' := s.toks) k1
  obtain ⟨mA1, O1, _⟩ := ins_get I1.hok hx0
  obtain ⟨od1, J1, _⟩ := O1.look
  refine sup_get (X := X) (s := { s with heap := h' }) I1.kIn e1 J1 ho hm ht (by decide) ?_
  have I2 : Inv X ((h'.objs.size, PySem.W.methodObj (.ref f2) (.ref x)) :: pins) σ H { s with heap := h'.push (PySem.W.methodObj (.ref f2) (.ref x)), toks := s.toks + 1 } := Inv.pinNew (s := { s with heap := h' }) I1 rfl fun v z => by cases z
  show wpAny _ _ (callWith cpos (.ref h'.objs.size) [] (backTo cpos (starEach (e :: es) X.env)) []) _ _ _
  have hrun := ha.run cpos _ _ σ H _ I2 q
  rw [starEach_cons hst] at hrun ⊢
  refine PySem.W.callWith_of (P := PySem.W.MethP X.K h'.objs.size f2 (.ref x)) (by show ((false || (backTo cpos (starEach es X.env)).any (·.1)) || false) = false; rw [any_plain (noStar_tail hst)]; rfl) (PySem.W.keeps_M hfn) (Calls.evalArgs_plain ?_)
  refine thn hrun fun us s1 ⟨vs, H1, I3, r, q1⟩ => ⟨⟨(I3.pin _ (List.mem_append_right _ List.mem_cons_self)).1, I3.kIn⟩, ?_⟩
  have hb1 := (I3.pin _ (List.mem_append_right _ List.mem_cons_self)).1
  have I4 := Inv.unpin I3
  have r2 : Vals (.ref x :: (vs ++ dvs)) (.ref x :: (us ++ ds)) := .cons rfl (r.append hd)
  have hlen : (Value.ref x :: (us ++ ds)).length = ps.length := by rw [← r2.length]; exact F.len _ _ _ _ q1
  refine wpAny_call (ks_codeAny_call_bound hb1 (codeAny_mono (F.run X.A X.stack s1 H1 ⟨.ref x :: us, []⟩ (.ref x :: (us ++ ds)) (.ref x :: (vs ++ dvs)) _ (E σ) hr I4.env0 (hb s1 (.ref x :: us) I4.kIn (by simpa using hlen)) r2 q1) fun rr s' hq => ?_))
  cases rr with
  | error e => exact hx σ pins H1 s1 e s' I4 hq
  | ok fl =>
    cases fl with
    | ret u =>
      obtain ⟨v, H2, I5, rv, q5⟩ := I4.after hq
      exact ⟨σ, H2, I5, q5⟩
    | next => exact False.elim hq
    | brk => exact False.elim hq
    | cont => exact False.elim hq
end
end DL
set_option maxHeartbeats 8000000
/-! DL27: super().__init__(..) by data; a def's own level. -/
namespace DL
open PySem PySem.Spec PyProof.Rows L2

def isCls0 (c : Str) (env : SEnv) : Bool := match env[0]?.bind slotData with
  | some (.obj c' _) => decide (c' = c)
  | _ => false
def sSup (c : Str) (o : List FArg → FOut) (m : ArgDen) (dds : List D) : SDen := fun env => if isCls0 c env then sExpr (dCall o (rDfl (rLend 0 m) dds)) env else .st
theorem rs_expr {T : Th} {P : AS} {σ : L2.St} {H : Hp} {O : AS} {E : Ends} {m : EDen} {env : SEnv} (h : RS T P H O E (sExpr m env)) : RD T P σ H O (fun _ H2 => E.nx σ H2) (m env) := by
  unfold sExpr bindS at h
  cases e : m env with
  | ok w env1 =>
    rw [e] at h
    exact fun v H' O' s e' r => h σ H' O' s e'
  | ex x env1 =>
    rw [e] at h
    exact fun c d H' O' => h c d σ H' O'
  | st => rw [e] at h; exact h
section
variable {X : Cx} {T : Th} {f2 : Addr} {x0 c : Str} {b0 : List Stmt} {e : PySem.Expr} {es : List PySem.Expr} {p0 p1 apos cpos pos : Pos} {k n np : Nat} {fd : FuncData} {ps : List Str} {ds : List Value} {dvs : List V} {dds : List D} {o : List FArg → FOut} {m : ArgDen}
theorem gs_sup (S : SupC X (He.ga T.K c) x0) (ho : PySem.W.nsIn X.K cStatics "thirdparty.any" = some none) (hm : PySem.W.ks_superIn X.K (He.ga T.K c) (He.ga T.K c) "__init__" = some (some (.ref f2))) (ht : PySem.W.typeIn X.K (.ref f2) = some (.type "function")) (hfn : PySem.W.fnIn X.K f2 = true)
    (F : FnG X.prog X.w X.K X.mg X.base (L2.CX X.prog X.w) k f2 fd ps (spD T.K n np o)) (hr : RoomG k X.A) (hb : Binds X.K fd ps ds) (hd : Vals dvs ds) (hdv : ∀ h, Reps T.K h dvs dds) (hnp : np ≤ n) (ho0 : ∀ ds, ds.length ≠ np → o ds = .st) (tk : Takes X T.W)
    (ha : PA X (e :: es) (tDGa T m)) (hst : noStar (e :: es) = true) (hl : (e :: es).length < 30) (hline : (apos.endLine == cpos.line) = true) :
    PSA X b0 (.Expr (.Call (.Attribute (.Call (.Name "super" p0) [] [] p1) "__init__" apos) (e :: es) [] cpos) pos) (tDS T (sSup c o m dds)) :=
  (psa_super (E := WE T.W) S ho hm ht hfn F hr hb hd (fun σ => passAt tk σ) ha hst hl hline).to fun Dn σ H ⟨P, O, env, he, q⟩ => by
  unfold sSup at q
  by_cases hc : isCls0 c env = true
  · rw [if_pos hc] at q
    have q := rs_expr (σ := σ) q
    unfold isCls0 at hc
    split at hc
    · rename_i c' fs hs
      have e0 := of_decide_eq_true hc
      subst e0
      obtain ⟨a, sl, y1, y2, y3, y4, y5, y6⟩ := slot_lent he hs
      cases y6 with
      | @obj dx _ fsv _ hA hR =>
        refine ⟨a, dx, fsv, y4, hA, P, O, env, he, ?_⟩
        unfold dCall rDfl rLend at q
        rw [hs] at q
        cases h : m env with
        | st => simp only [h] at q; exact q
        | ex x e => simp only [h] at q; exact q
        | ok as env1 =>
          simp only [h] at q
          exact fun vs H1 O1 s1 e1 ar => call_sp (vs := .ref a :: (vs ++ dvs)) (as := .lend 0 :: (as ++ dds.map .val)) e1 (.lend y4 (ar.append (.vals (hdv _)))) hnp ho0 (RD.step q s1)
    · cases hc
  · rw [if_neg hc] at q
    exact q.elim
end

/-! ### the compiler at a def's own level -/
def supF (G : Gm) (orc : Orc) (N : List Str) (L : Nat) (sc : Scope) (spr : Option (Str × FSig)) (other : Stmt → SDen) (st : Stmt) : SDen := match spr with
  | none => other st
  | some (c, s) => (match st with
    | .Expr (.Call (.Attribute (.Call (.Name x p0) [] [] p1) m apos) (e :: es) [] cpos) pos => if decide (x = ("super" : Str)) && decide (m = ("__init__" : Str)) && noStar (e :: es) && decide ((e :: es).length < 30) && (apos.endLine == cpos.line) then
        sSup c (orc s.id) (cF N (comp G orc N L).1 sc (s.io.drop 1) (e :: es)) (fill s (es.length + 2)) else other st
    | _ => other st)
def compTop (G : Gm) (orc : Orc) (N : List Str) (L n : Nat) (sc : Scope) (spr : Option (Str × FSig)) : List Stmt → SDen
  | [] => sNx
  | st :: r => sSeq (supF G orc N L sc spr (compS orc N L sc n G) st) (compTop G orc N L n sc spr r)
/-- what is known of the init above -/
def SupOk (X : Cx) (T : Th) (orc : Orc) (spr : Option (Str × FSig)) : Prop := ∀ c s, spr = some (c, s) → ∃ x0 f2, SupC X (He.ga T.K c) x0 ∧ PySem.W.nsIn X.K cStatics "thirdparty.any" = some none ∧ PySem.W.ks_superIn X.K (He.ga T.K c) (He.ga T.K c) "__init__" = some (some (.ref f2)) ∧
  PySem.W.typeIn X.K (.ref f2) = some (.type "function") ∧ PySem.W.fnIn X.K f2 = true ∧ FnFact X T f2 s (orc s.id) 0
section
variable {G : Gm} {orc : Orc} {N : List Str} {X : Cx} {T : Th} {sc : Scope} {L : Nat} {b0 : List Stmt} {spr : Option (Str × FSig)}
theorem supF_ok (c : CxOk G orc N X T sc) (hs : SupOk X T orc spr) {other : Stmt → SDen} (ho : ∀ st, PS X st (tDS T (other st))) (st : Stmt) : PSA X b0 st (tDS T (supF G orc N L sc spr other st)) := by
  unfold supF
  split
  · exact PS.atA (ho _)
  · rename_i cn s
    split
    · rename_i x p0 p1 m apos e es cpos pos
      by_cases hc : (decide (x = ("super" : Str)) && decide (m = ("__init__" : Str)) && noStar (e :: es) && decide ((e :: es).length < 30) && (apos.endLine == cpos.line)) = true
      · rw [if_pos hc]
        simp only [Bool.and_eq_true, decide_eq_true_eq] at hc
        obtain ⟨⟨⟨⟨rfl, rfl⟩, h3⟩, h4⟩, h5⟩ := hc
        obtain ⟨x0, f2, S, s1, s2, s3, s4, k, fd, ps, F, hr, hnp, ho0, hb⟩ := hs cn s rfl
        obtain ⟨dvs, ds, b, hv, hd⟩ := hb _ (fill_le (s := s) (n := es.length + 2))
        exact gs_sup S s1 s2 s3 s4 F hr b hv hd hnp ho0 c.tk (sF c (comp_ok L X T sc c).1 _ _ h3) h3 h4 h5
      · rw [if_neg hc]
        exact PS.atA (ho _)
    · exact PS.atA (ho _)
theorem compTop_ok (c : CxOk G orc N X T sc) (so : StOk X) (hp : G.hot = false → PassesOwn (model X.prog X.w) X.A X.env X.xe) (hs : SupOk X T orc spr) (n : Nat) : ∀ b : List Stmt, PSsA X b0 b (tDS T (compTop G orc N L n sc spr b))
  | [] => PSs.atA gss_nil
  | st :: r => gssa_cons (supF_ok c hs (fun st => compS_ok n G X T c so hp st) st) (compTop_ok c so hp hs n r)
theorem compTop_ok0 (c : CxOk G orc N X T sc) (so : StOk X) (hp : G.hot = false → PassesOwn (model X.prog X.w) X.A X.env X.xe) (n : Nat) : ∀ b : List Stmt, PSs X b (tDS T (compTop G orc N L n sc none b))
  | [] => gss_nil
  | st :: r => gss_cons (compS_ok n G X T c so hp st) (compTop_ok0 c so hp n r)
theorem PSsA.any {b : List Stmt} {t : TS} (h : ∀ b0, PSsA X b0 b t) (b0 : List Stmt) : PSsA X b0 b t := h b0
end
end DL
set_option maxHeartbeats 8000000
/-! DL28: an own exception over ValueError: super().__init__(x); self.f = x. -/
namespace DL
open PySem PySem.Spec PyProof.Rows L2

/-- super().__init__(e, ..) in the init of an exception of the class D itself -/
def tSupX (D : Addr) (ta : TA) : TS := fun Dn σ H => ∃ x : Addr, σ[0]? = some (some (.ref x)) ∧ H x = some (exo x D none) ∧ ta σ H fun vs H1 => vs.length ≤ 1000 ∧ H1 x = some (exo x D none) ∧ Dn.nx σ H1
section
variable {X : Cx} {D : Addr} {x0 : Str} {pins : List (Addr × Obj)} {σ : L2.St} {H : Hp} {s : Shared}
theorem exo_inst {x : Addr} (I : Inv X pins σ H s) (h : H x = some (exo x D none)) : ∃ t1 : Addr, s.heap.get? x = some ({ cls := .ref D, dict := none, data := .fields #[.ref t1, .none, .none, .none, .bool false, .none] } : Obj) ∧
    PySem.W.InstAt s.heap x ({ cls := .ref D, dict := none, data := .fields #[.ref t1, .none, .none, .none, .bool false, .none] } : Obj) D none := by
  obtain ⟨t1, e⟩ := exo_at I.hok h
  exact ⟨t1, e, ⟨e, rfl, rfl, trivial⟩⟩
/-- the bound init of the built-in class above is called -/
theorem mw_call {A : Around} {E : Value → Shared → Prop} {u x : Addr} {us : List Value} {Q : Value → Shared → Prop} (T : OexC X.K D) (I : Inv X pins σ H s) (e : H x = some (exo x D none)) (hu : s.heap.get? u = some (PySem.W.kxs_mw "ValueError.__init__" x)) (hl : us.length ≤ sizeLine)
    (h : ∀ s', Inv X pins σ H s' → Q .none s') : wpAny (model X.prog X.w) A (call (.ref u) us) Q E s := by
  obtain ⟨nm, q, N, bs, bm, sn, sub, ab, col, dd, k0, k1, k2, k3, k5, hC, hbm⟩ := T.cls
  obtain ⟨t1, ho⟩ := exo_at I.hok e
  obtain ⟨hp, g, d, t, os⟩ := s
  refine wpAny_call (codeAny_of_tree ?_)
  show wpAny _ A.in1 (callAny (.ref u) ⟨us, []⟩) _ _ _
  simp only [callAny]
  refine wpAny_bind (wpAny_load hu ?_)
  simp only [PySem.W.kxs_mw, show (Value.type "method-wrapper" == Value.type "method" || Value.type "method-wrapper" == Value.type "builtin_function_or_method" || Value.type "method-wrapper" == Value.type "method-wrapper") = true by decide, if_true]
  refine PySem.W.KFB.if_so (by decide) ?_
  refine wpAny_bind (PySem.W.check_bound_init F.excBase_ValueError.toExcCallFacts (I.kIn _ _ hC) ho rfl ?_)
  refine wpAny_bind (wpAny_pure (wpAny_pure ?_))
  refine ⟨plainId_quiet F.excBase_ValueError.init.plain _, codeAny_builtin F.excBase_ValueError.initEntry ?_⟩
  refine PySem.W.exc_init_tree (cls := .ref D) (t0 := t1) (dv := none) (c2 := .none) (c3 := .none) (b4 := .bool false) ho hl fun h' k hx _ => ?_
  have J := I.write (t' := t) (x := x) (e := x) (o := exo x D none) (by rw [e]; exact True.intro) (.inl rfl) k ⟨_, hx⟩ (exo_ok hx)
  have eu : upd H x (exo x D none) = H := by
    funext b
    by_cases hb : b = x
    · rw [hb, upd_same, e]
    · rw [upd_ne hb]
  rw [eu] at J
  exact h _ J
end
section
variable {X : Cx} {D : Addr} {x0 : Str} {b0 : List Stmt} {e : PySem.Expr} {es : List PySem.Expr} {p0 p1 apos cpos pos : Pos} {ta : TA}
theorem psa_superX (T : OexC X.K D) (S : SupC X D x0) (ho : PySem.W.nsIn X.K cStatics "thirdparty.any" = some none) (hm : PySem.W.ks_superIn X.K D D "__init__" = some (some (.builtin "ValueError.__init__"))) (hve : PySem.W.mroIn X.K D (.type "ValueError") = some true)
    (ha : PA X (e :: es) ta) (hst : noStar (e :: es) = true) (hl : (e :: es).length < 30) (hline : (apos.endLine == cpos.line) = true) :
    PSA X b0 (.Expr (.Call (.Attribute (.Call (.Name "super" p0) [] [] p1) "__init__" apos) (e :: es) [] cpos) pos) (tSupX D ta) := by
  refine ⟨fun pins s σ H Dn I ⟨x, g0, hx0, q⟩ => ?_⟩
  refine ks_wpAt_Expr_any (ks_wpAt_MethodCall (pl := plainOf (.Call (.Name "super" p0) [] [] p1) X.env) ?_ (mcall_sup hst hl hline)) I.quiet (noComp rfl)
  obtain ⟨t1, _, J⟩ := exo_inst I hx0
  refine sup_base (by decide) S I g0 J fun h' e1 k1 => ?_
  have I1 : Inv X pins σ H { s with heap := h' } := I.kept (t' := s.toks) k1
  obtain ⟨t2, _, J1⟩ := exo_inst I1 hx0
  have KX := I1.kIn
  cases hc : PySem.W.clsIn X.K D with
  | none => unfold PySem.W.ks_superIn at hm; rw [hc] at hm; cases hm
  | some cd =>
    unfold PySem.W.ks_superIn at hm
    rw [hc] at hm
    obtain ⟨hp, g, d, t, os⟩ := s
    refine PySem.W.kxs_getMethod PySem.W.kxs_ValueError e1 (PySem.W.looks_opaque KX ho) (l₀ := cd.mro) (fun A Q E s k q => wpAny_bind ((PySem.W.looks_clsIn KX hc) A _ E s k (wpAny_pure q))) rfl KX hm (J1.type.andThen (PySem.W.looks_mroIn KX hve)) (PySem.W.ks_ne KX J1 hc) (by decide) ?_
    have I2 : Inv X ((h'.objs.size, PySem.W.kxs_mw "ValueError.__init__" x) :: pins) σ H ⟨h'.push (PySem.W.kxs_mw "ValueError.__init__" x), g, d, t + 1, os⟩ := Inv.pinNew (s := ⟨h', g, d, t, os⟩) I1 rfl fun v z => by cases z
    show wpAny _ _ (callWith cpos (.ref h'.objs.size) [] (backTo cpos (starEach (e :: es) X.env)) []) _ _ _
    have hrun := ha.run cpos _ _ σ H _ I2 q
    rw [starEach_cons hst] at hrun ⊢
    refine PySem.W.kxs_callWith (i := "ValueError.__init__") (x := x) (by show (false || (backTo cpos (starEach es X.env)).any (·.1)) = false; rw [any_plain (noStar_tail hst)]; rfl) (Calls.evalArgs_plain ?_)
    refine thn hrun fun us s1 ⟨vs, H1, I3, r, hz, ex, q1⟩ => ?_
    have hb1 := (I3.pin _ (List.mem_append_right _ List.mem_cons_self)).1
    refine ⟨hb1, ?_⟩
    have I4 := Inv.unpin I3
    have hlen : us.length ≤ sizeLine := by
      rw [← Paired.length r, sizeLine_eq]
      omega
    exact mw_call T I4 ex hb1 hlen fun s' I5 => ⟨σ, H1, I5, q1⟩
end
end DL
set_option maxHeartbeats 8000000
/-! DL29: raise C(e), C an own exception with one field. -/
namespace DL
open PySem PySem.Spec PyProof.Rows L2

section
variable {X : Cx} {D : Addr} {x0 x1 f : Str} {b0 : List Stmt} {p0 p1 p2 p3 p4 p5 apos cpos pos pos' : Pos}
theorem exc_body (T : OexC X.K D) (S : SupC X D x0) (ho : PySem.W.nsIn X.K cStatics "thirdparty.any" = some none) (hm : PySem.W.ks_superIn X.K D D "__init__" = some (some (.builtin "ValueError.__init__"))) (hve : PySem.W.mroIn X.K D (.type "ValueError") = some true)
    (h0 : PE X (.Name x0 p3) (tVar 0)) (h1 : PE X (.Name x1 p2) (tVar 1)) (h1' : PE X (.Name x1 p5) (tVar 1)) (hline : (apos.endLine == cpos.line) = true) :
    PSsA X b0 [.Expr (.Call (.Attribute (.Call (.Name "super" p0) [] [] p1) "__init__" apos) [.Name x1 p2] [] cpos) pos, .Assign [.Attribute (.Name x0 p3) f p4] (.Name x1 p5) pos']
      (tSeq (tSupX D (tCons (tVar 1) tNil)) (tSeq (tOst X.K f (tVar 0) (tVar 1)) tNext)) :=
  pssa_cons (psa_superX T S ho hm hve (pa_cons h1 pa_nil rfl) rfl (by simp) hline) (pssa_cons (PS.atA (ps_ost h0 h1' (noComp rfl))) (PSs.atA pss_nil))
theorem exc_read {K : PySem.W.Frag} {N : List Str} (T : OexC K D) (hf : PySem.W.findIn K (.ref D) f = some none) (hN : 2 ≤ N.length) {vs : List V} {H : Hp} {Q : VK} {E : XK} (h : spX D f vs H Q E) :
    tSeq (tSupX D (tCons (tVar 1) tNil)) (tSeq (tOst K f (tVar 0) (tVar 1)) tNext) { nx := fun _ H' => Q .non H', rt := Q } (L2.start N vs) H := by
  obtain ⟨a, v, rfl, ha, q⟩ := h
  have e0 : (L2.start N [V.ref a, v])[0]? = some (some (V.ref a)) := rfl
  have e1 : (L2.start N [V.ref a, v])[1]? = some (some v) := rfl
  exact ⟨a, e0, ha, v, e1, by simp, ha, v, e1, .ref a, e0, a, D, rfl, T, hf, .inl ⟨ha, fun dx h1 h2 => q dx h1 h2⟩⟩
end
end DL
set_option maxHeartbeats 8000000
/-! DL23: the table of defs: all promises at once. -/
namespace DL
open PySem PySem.Spec PyProof.Rows L2

structure Df where
  id : FId
  name : Str
  qual : Str
  params : Arguments
  body : List Stmt
  scope : Scope
  ps : List Str
  N : List Str
  dds : List D
  dfl : List He.Dv
  io : List Bool
  /-- says super().__init__: of which class, the init above -/
  spr : Option (Str × FSig)
  /-- the init of an own exception that keeps one argument in this field -/
  exf : Option Str
def Df.sig (d : Df) : FSig := ⟨d.id, d.N.length, d.ps.length, d.dds, d.io⟩
def Df.cls (d : Df) : List Str := if d.spr.isSome || d.exf.isSome then ["__class__"] else []
/-- denotations by name -/
abbrev Dens := FId → Option (Nat × Nat × (Orc → SDen))
def callD (dens : Dens) : Nat → Orc
  | 0 => fun _ _ => .st
  | m + 1 => fun id ds => match dens id with
    | some (n, np, den) => runFn n np (den (callD dens m)) ds
    | none => .st
/-- levels of expressions, of statements -/
def lvE : Nat := 24
def lvS : Nat := 12
def Df.den (G : Gm) (d : Df) (orc : Orc) : SDen := if d.exf.isSome then fun _ => .st else compTop G orc d.N lvE lvS d.scope d.spr d.body
def densOf (G : Gm) (tbl : List Df) : Dens := fun id => (tbl.find? fun d => decide (d.id = id)).map fun d => (d.N.length, d.ps.length, d.den G)
theorem callD_len {dens : Dens} {m : Nat} {id : FId} {n np : Nat} {den : Orc → SDen} (h : dens id = some (n, np, den)) {ds : List FArg} (hl : ds.length ≠ np) : callD dens m id ds = .st := by
  cases m with
  | zero => rfl
  | succ m =>
    unfold callD
    rw [h]
    show runFn n np _ ds = .st
    unfold runFn
    rw [if_neg hl]
/-- what a def's own text must show -/
def scopeB (N ps : List Str) (sc : Scope) : Bool := (match sc.kind with
    | .function => true
    | _ => false) && !sc.isCoroutine && !sc.isGenerator && decide N.Nodup && decide (N.take ps.length = ps) && (ps.all fun x => locB sc x) && (sc.names.all fun y => match y.2 with
    | .free => false
    | _ => true)
theorem scopeB_ok {N ps : List Str} {sc : Scope} (h : scopeB N ps sc = true) : FnScope N ps sc := by
  unfold scopeB at h
  simp only [Bool.and_eq_true, Bool.not_eq_true', decide_eq_true_eq, List.all_eq_true] at h
  obtain ⟨⟨⟨⟨⟨⟨h1, h2⟩, h3⟩, h4⟩, h5⟩, h6⟩, h7⟩ := h
  refine ⟨?_, h2, h3, h4, h5, fun x hx => locB_ok (h6 x hx), fun y hy e => ?_⟩
  · split at h1
    · assumption
    · cases h1
  · have := h7 y hy
    rw [e] at this
    cases this
def scopeS (N ps : List Str) (sc : Scope) : Bool := (match sc.kind with
    | .function => true
    | _ => false) && !sc.isCoroutine && !sc.isGenerator && decide N.Nodup && decide (N.take ps.length = ps) && (ps.all fun x => decide (sc.names.lookup x = some .local)) && (sc.names.all fun y => match y.2 with
    | .cell => false
    | .free => decide (y.1 = ("__class__" : Str))
    | _ => true) && decide (sc.names.lookup ("__class__" : Str) = some .free) && decide (sc.names.lookup ("super" : Str) = some .globalImplicit) && !ps.isEmpty
theorem lookup_mem {β : Type} {x : Str} {y : β} : ∀ {l : List (Str × β)}, l.lookup x = some y → (x, y) ∈ l
  | [], h => by simp at h
  | (a, b) :: l, h => by
    rw [List.lookup_cons] at h
    by_cases e : x = a
    · subst e
      simp at h
      rw [h]
      exact List.mem_cons_self
    · rw [beq_false_of_ne e] at h
      exact List.mem_cons_of_mem _ (lookup_mem h)
theorem scopeS_ok {N ps : List Str} {sc : Scope} (h : scopeS N ps sc = true) : ScS N ps sc ∧ ps ≠ [] := by
  unfold scopeS at h
  simp only [Bool.and_eq_true, Bool.not_eq_true', decide_eq_true_eq, List.all_eq_true] at h
  obtain ⟨⟨⟨⟨⟨⟨⟨⟨⟨h1, h2⟩, h3⟩, h4⟩, h5⟩, h6⟩, h7⟩, h8⟩, h9⟩, h10⟩ := h
  refine ⟨⟨?_, h2, h3, h4, h5, h6, fun y hy e => ?_, h8, h9, fun y hy => ?_⟩, fun z => by rw [z] at h10; cases h10⟩
  · split at h1
    · assumption
    · cases h1
  · have := h7 y hy
    rw [e] at this
    cases this
  · have := h7 _ (lookup_mem hy)
    simpa using this
/-- the text of the init of an own exception -/
def xBody (d : Df) (f : Str) : Bool := match d.ps, d.body with
  | [x0, x1], [.Expr (.Call (.Attribute (.Call (.Name su _) [] [] _) ini apos) [.Name y1 _] [] cpos) _, .Assign [.Attribute (.Name y0 _) g _] (.Name z1 _) _] =>
    decide (su = ("super" : Str)) && decide (ini = ("__init__" : Str)) && decide (y1 = x1) && decide (y0 = x0) && decide (z1 = x1) && decide (g = f) && (apos.endLine == cpos.line) && !odd x0 && !odd x1 && decide (2 ≤ d.N.length)
  | _, _ => false
def Df.okB (d : Df) : Bool := plainP d.params d.ps && (match d.spr with
  | none => (match d.exf with
    | none => scopeB d.N d.ps d.scope
    | some f => scopeS d.N d.ps d.scope && xBody d f && d.dds.isEmpty)
  | some _ => scopeS d.N d.ps d.scope && d.exf.isNone) && decide (d.dfl.length = d.dds.length) && decide (d.dds.length ≤ d.ps.length)
/-! ### a def in the written part -/
structure FunG (K : PySem.W.Frag) (d : Df) (dvs : List V) (f : Addr) (fd : FuncData) : Prop where
  ex : ∃ (oc : Value) (od : Option Addr) (dV kV doc pm : Value) (an : Option Addr) (cdv ct : Value) (osl : Array (Option Value)) (cl : List (Str × Addr)),
    fd = PySem.W.fnX d.name d.qual d.params d.body d.scope cl dV kV doc pm an cdv ct ∧ K.lookup f = some ⟨oc, od, .func fd, osl⟩ ∧ PySem.W.codeIn K cdv d.qual = true ∧ DflV K dV dvs ∧ cl.map (·.1) = d.cls
  kp : PySem.W.keepIn K (.ref f) = true
abbrev FnY : Type := Option (Str × Str × Arguments × FuncBody × Scope × Addr × List Str × Addr)
def fnY (K : PySem.W.Frag) (p : FId) : FnY := match K.lookup (He.fAd K p) with
  | some ⟨_, _, .func fd, _⟩ => some (fd.name, fd.qualname, fd.params, fd.body, fd.scope, fd.globals, fd.closure.map (·.1), fd.builtins)
  | _ => none
def Df.val (d : Df) : FnY := some (d.name, d.qual, d.params, .stmts d.body, d.scope, mainGlobals, d.cls, builtinsNs)
def Df.okK (K : PySem.W.Frag) (d : Df) : Bool := PySem.W.keepIn K (.ref (He.fAd K d.id)) && (match K.lookup (He.fAd K d.id) with
  | some ⟨_, _, .func fd, _⟩ => PySem.W.codeIn K fd.code d.qual && He.dflB K fd.defaults (d.dfl.map (He.Dv.v K))
  | _ => false)
theorem Df.funG {K : PySem.W.Frag} {d : Df} (e : fnY K d.id = d.val) (c : d.okK K = true) : ∃ fd, FunG K d (d.dfl.map (He.Dv.v K)) (He.fAd K d.id) fd := by
  unfold Df.okK at c
  rw [Bool.and_eq_true] at c
  obtain ⟨kp, c2⟩ := c
  unfold fnY at e
  cases q : K.lookup (He.fAd K d.id) with
  | none => rw [q] at c2; cases c2
  | some o =>
    obtain ⟨oc, od, dt, osl⟩ := o
    rw [q] at c2 e
    cases dt with
    | func fd =>
      obtain ⟨n1, n2, n3, n4, n5, n6, n7, n8, n9, n10, n11, n12, n13, n14, n15⟩ := fd
      have e2 : (some (n1, n2, n3, n4, n5, n6, n7.map (·.1), n15) : FnY) = some (d.name, d.qual, d.params, .stmts d.body, d.scope, mainGlobals, d.cls, builtinsNs) := e
      simp only [Option.some.injEq, Prod.mk.injEq] at e2
      obtain ⟨h1, h2, h3, h4, h5, h6, h7, h8⟩ := e2
      subst h1 h2 h3 h4 h5 h6 h8
      have c3 : (PySem.W.codeIn K n13 d.qual && He.dflB K n8 (d.dfl.map (He.Dv.v K))) = true := c2
      rw [Bool.and_eq_true] at c3
      exact ⟨_, ⟨oc, od, n8, n9, n10, n11, n12, n13, n14, osl, n7, rfl, q, c3.1, He.dflB_ok c3.2, h7⟩, kp⟩
    | _ => cases c2
theorem binds_G {K : PySem.W.Frag} {d : Df} {dvs : List V} {f : Addr} {fd : FuncData} {ps : List Str} (F : FunG K d dvs f fd) (hp : plainP d.params ps = true) (hd : dvs.length ≤ ps.length) (j : Nat) (hj : j ≤ dvs.length) : ∃ ds, Vals (dvs.drop j) ds ∧ Binds K fd ps ds := by
  obtain ⟨oc, od, dV, kV, doc, pm, an, cdv, ct, osl, cl, rfl, lk, hcd, hD, hcl⟩ := F.ex
  rcases hD with ⟨rfl, rfl⟩ | ⟨h0, T, o, its, m, rfl, lT, oT, rT⟩
  · refine ⟨[], by simpa using Paired.nil, fun s us X hl => ?_⟩
    have hl : us.length = ps.length := by simpa using hl
    obtain ⟨k, e1, e2⟩ := bind_gen (fd := PySem.W.fnX d.name d.qual d.params d.body d.scope cl .none kV doc pm an cdv ct) (ps := ps) (us := us) hp (Nat.le_of_eq hl)
    refine BindsTo.of_eq ?_
    rw [e1]
    have e3 : (seqItems? (PySem.W.fnX d.name d.qual d.params d.body d.scope cl .none kV doc pm an cdv ct).defaults : Sem (Option (Array Value))) = pure none := rfl
    rw [e3, pure_bind, e2 none (by simp; omega) (by simp)]
    simp
  · refine ⟨its.drop j, rT.drop j, fun s us X hlen => ?_⟩
    have l1 : its.length = dvs.length := rT.length.symm
    have l2 : us.length + (its.length - j) = ps.length := by
      rw [List.length_append, List.length_drop] at hlen
      omega
    obtain ⟨k, e1, e2⟩ := bind_gen (fd := PySem.W.fnX d.name d.qual d.params d.body d.scope cl (.ref T) kV doc pm an cdv ct) (ps := ps) (us := us) hp (by omega)
    refine BindsTo.of_looks fun M => ?_
    rw [e1]
    refine looks_items X lT oT (.of_pure ?_)
    have := e2 (some its.toArray) (by simp; omega) (by simp; omega)
    rw [this]
    have e4 : us.length + its.length - ps.length = j := by omega
    simp [e4]
/-- the defaults in the written part -/
def seqK (K : PySem.W.Frag) (dds : List D) : Option Obj → Bool
  | some ⟨_, _, .seq its _, _⟩ => repUs K dds its.toList
  | _ => false
def dflV (K : PySem.W.Frag) (dds : List D) : Value → Bool
  | .ref T => seqK K dds (K.lookup T)
  | _ => false
def dflF (K : PySem.W.Frag) (dds : List D) : Option Obj → Bool
  | some ⟨_, _, .func fd, _⟩ => dflV K dds fd.defaults
  | _ => false
def dflK (K : PySem.W.Frag) (d : Df) : Bool := d.dds.isEmpty || dflF K d.dds (K.lookup (He.fAd K d.id))
/-- a constant of the module -/
def conK (K : PySem.W.Frag) (x : Str) (d : D) : Bool := match PySem.W.nsIn K mainGlobals x with
  | some (some u) => repU K d u
  | _ => false
def faOf (G : Gm) : List He.Fa := (G.fns.map fun p => He.Fa.glo p.1) ++ (G.clss.flatMap fun p => [He.Fa.glo p.1, He.Fa.mkr p.1]) ++ (G.mths.flatMap fun p => p.2.flatMap fun q => [He.Fa.cls q.1, He.Fa.meth q.1 p.1]) ++
  (G.flds.flatMap fun p => p.2.flatMap fun c => [He.Fa.cls c, He.Fa.noat c p.1]) ++ G.free.map He.Fa.free ++ G.ccs.map He.Fa.glo ++ G.tys.map He.Fa.cls ++ (G.exm.map fun p => He.Fa.exm p.1 p.2.1 p.2.2) ++ G.excs.map fun p => He.Fa.glo p.1
/-! ### own exceptions in the written part -/
def isTy (n : String) : Value → Bool
  | .type m => decide (m = n)
  | _ => false
def oexO (C : Addr) : Option Obj → Bool
  | some ⟨oc, _, .cls cd, sl⟩ => isTy "type" oc && (match cd.mro with
    | .ref C' :: bm => decide (C' = C) && PySem.HandSPX.refsVE bm
    | _ => false) && (match sl.toList with
    | [_, _, _, _, some (.builtin n), _] => decide (n = "ValueError.__new__")
    | _ => false) && !cd.hasDel && cd.hasDict
  | _ => false
def oexB (K : PySem.W.Frag) (C : Addr) : Bool := oexO C (K.lookup C) && He.eqO (PySem.W.findIn K (.ref C) "__setattr__") (some (some (.builtin "object.__setattr__"))) && decide (PySem.W.subIn K (.ref C) (.type "BaseException") = some true) && decide (PySem.W.typeIn K (.ref C) = some (.type "type")) && PySem.W.keepIn K (.ref C)
theorem oexB_ok {K : PySem.W.Frag} {C : Addr} (h : oexB K C = true) : OexC K C := by
  unfold oexB at h
  simp only [Bool.and_eq_true, decide_eq_true_eq] at h
  obtain ⟨⟨⟨⟨h1, h2⟩, h3⟩, h4⟩, h5⟩ := h
  refine ⟨?_, He.eqO_ok h2, h3, h4, h5⟩
  cases e : K.lookup C with
  | none => rw [e] at h1; cases h1
  | some o =>
    rw [e] at h1
    obtain ⟨oc, od, dt, sl⟩ := o
    cases dt with
    | cls cd =>
      unfold oexO at h1
      simp only [Bool.and_eq_true, Bool.not_eq_true'] at h1
      obtain ⟨⟨⟨⟨g1, g2⟩, g3⟩, g4⟩, g5⟩ := h1
      have e1 : oc = .type "type" := by
        unfold isTy at g1
        split at g1
        · rw [of_decide_eq_true g1]
        · cases g1
      obtain ⟨nm, bs, mro, ns, qn, hd, sn, sub, ab, col, del⟩ := cd
      simp only at g2 g4 g5
      split at g2
      · rename_i C' bm
        rw [Bool.and_eq_true, decide_eq_true_eq] at g2
        split at g3
        · rename_i k0 k1 k2 k3 n k5 hs
          have e2 : sl = #[k0, k1, k2, k3, some (.builtin n), k5] := by
            obtain ⟨l⟩ := sl
            simp only at hs
            rw [hs]
          have e3 := of_decide_eq_true g3
          subst e1 e2 e3 g4 g5
          rw [← g2.1]
          exact ⟨nm, qn, ns, bs, bm, sn, sub, ab, col, od, k0, k1, k2, k3, k5, by rw [g2.1]; rw [← g2.1] at *, g2.2⟩
        · cases g3
      · cases g2
    | _ => cases h1
def excB (K : PySem.W.Frag) (C : Addr) : Bool := He.eqO (PySem.W.findIn K (.ref C) "__getattribute__") (some (some (.builtin "BaseException.__getattribute__"))) && He.eqO (PySem.W.findIn K (.ref C) "__getattr__") (some none) && decide (PySem.W.subIn K (.ref C) (.type "BaseException") = some true) && PySem.W.hasDictIn K C &&
  He.eqO (PySem.W.findIn K (.ref C) "__class__") (some (some (.builtin "object.__class__"))) && He.eqO (PySem.W.specialIn K (.builtin "object.__class__") "__get__") (some (some (.builtin "getset_descriptor.__get__"))) &&
  decide (PySem.W.takesIn K (.builtin "object.__class__") = some true) && decide (PySem.W.mroIn K C (.type "object") = some true)
theorem excB_ok {K : PySem.W.Frag} {C : Addr} (h : excB K C = true) : ExcC K C := by
  unfold excB at h
  simp only [Bool.and_eq_true, decide_eq_true_eq] at h
  obtain ⟨⟨⟨⟨⟨⟨⟨h1, h2⟩, h3⟩, h4⟩, h5⟩, h6⟩, h7⟩, h8⟩ := h
  exact ⟨He.eqO_ok h1, He.eqO_ok h2, h3, h4, He.eqO_ok h5, He.eqO_ok h6, h7, h8⟩
def xfK (K : PySem.W.Frag) (p : Str × Str) : Bool := xfB K (He.ga K p.1) && He.eqO (PySem.W.findIn K (.ref (He.ga K p.1)) p.2) (some none)
/-- super().__init__ in the written part -/
def cellB (K : PySem.W.Frag) (cl : List (Str × Addr)) (D : Addr) : Bool := match cl with
  | [(_, cc)] => (match K.lookup cc with
    | some ⟨_, _, .cell (some v), _⟩ => decide (v = .ref D)
    | _ => false)
  | _ => false
def codeFileB (K : PySem.W.Frag) (code : Value) (file : Str) : Bool := match code with
  | .ref c => (match K.lookup c with
    | some ⟨_, _, .fields vs, _⟩ => (match (vs[2]? : Option Value) with
      | some (.str f _) => decide (f = file)
      | _ => false)
    | _ => false)
  | _ => false
def supB (K : PySem.W.Frag) (file : Str) (d : Df) : Bool := match d.spr with
  | none => true
  | some (c, s) => (match K.lookup (He.fAd K d.id) with
    | some ⟨_, _, .func fd, _⟩ => cellB K fd.closure (He.ga K c) && codeFileB K fd.code file
    | _ => false) && (PySem.W.clsIn K (He.ga K c)).isSome && decide (PySem.W.mroIn K (He.ga K c) (.ref (He.ga K c)) = some true) && He.eqO (PySem.W.ks_superIn K (He.ga K c) (He.ga K c) "__init__") (some (some (.ref (He.fAd K s.id)))) &&
      decide (PySem.W.typeIn K (.ref (He.fAd K s.id)) = some (.type "function")) && PySem.W.fnIn K (He.fAd K s.id) && He.eqO (PySem.W.nsIn K cStatics "thirdparty.any") (some none) && He.eqO (PySem.W.nsIn K mainGlobals "super") (some none)
/-- the init of an own exception in the written part -/
def exfB (K : PySem.W.Frag) (file : Str) (d : Df) : Bool := match d.exf with
  | none => true
  | some f => (match K.lookup (He.fAd K d.id) with
    | some ⟨_, _, .func fd, _⟩ => cellB K fd.closure (He.ga K d.id.1) && codeFileB K fd.code file
    | _ => false) && (PySem.W.clsIn K (He.ga K d.id.1)).isSome && decide (PySem.W.mroIn K (He.ga K d.id.1) (.ref (He.ga K d.id.1)) = some true) && He.eqO (PySem.W.ks_superIn K (He.ga K d.id.1) (He.ga K d.id.1) "__init__") (some (some (.builtin "ValueError.__init__"))) &&
      decide (PySem.W.mroIn K (He.ga K d.id.1) (.type "ValueError") = some true) && He.eqO (PySem.W.nsIn K cStatics "thirdparty.any") (some none) && He.eqO (PySem.W.nsIn K mainGlobals "super") (some none) && oexB K (He.ga K d.id.1) && He.eqO (PySem.W.findIn K (.ref (He.ga K d.id.1)) f) (some none) &&
      He.eqO (PySem.W.findIn K (.ref (He.ga K d.id.1)) "__init__") (some (some (.ref (He.fAd K d.id)))) && decide (PySem.W.typeIn K (.ref (He.fAd K d.id)) = some (.type "function"))
theorem cellB_ok {K : PySem.W.Frag} {cl : List (Str × Addr)} {D : Addr} (h : cellB K cl D = true) (hc : cl.map (·.1) = [("__class__" : Str)]) : ∃ (cc : Addr) (o : Obj), cl = [(("__class__" : Str), cc)] ∧ K.lookup cc = some o ∧ o.data = .cell (some (.ref D)) := by
  unfold cellB at h
  split at h
  · rename_i x cc
    split at h
    · rename_i oc od v sl hl
      simp only [List.map_cons, List.map_nil, List.cons.injEq, and_true] at hc
      exact ⟨cc, _, by rw [hc], hl, by rw [of_decide_eq_true h]⟩
    · cases h
  · cases h
theorem codeFileB_ok {K : PySem.W.Frag} {code : Value} {file : Str} (h : codeFileB K code file = true) : ∃ (cda : Addr) (o : Obj) (vs : Array Value) (tf : Tok), code = .ref cda ∧ K.lookup cda = some o ∧ o.data = .fields vs ∧ vs[2]? = some (.str file tf) := by
  unfold codeFileB at h
  split at h
  · split at h
    · split at h
      · rename_i c _ _ _ vs sl hl _ f t hv
        exact ⟨c, _, vs, t, rfl, hl, rfl, by rw [hv, of_decide_eq_true h]⟩
      · cases h
    · cases h
  · cases h
/-- what isinstance asks of a class -/
def tyB (K : PySem.W.Frag) (C : Addr) : Bool := He.eqO (PySem.W.findIn K (.ref C) "__class__") (some (some (.builtin "object.__class__"))) && He.eqO (PySem.W.specialIn K (.builtin "object.__class__") "__get__") (some (some (.builtin "getset_descriptor.__get__"))) &&
  decide (PySem.W.takesIn K (.builtin "object.__class__") = some true) && decide (PySem.W.mroIn K C (.type "object") = some true)
theorem tyB_ok {K : PySem.W.Frag} {C : Addr} (cl : Cls K C) (h : tyB K C = true) : TyC K C := by
  unfold tyB at h
  simp only [Bool.and_eq_true, decide_eq_true_eq] at h
  obtain ⟨⟨⟨h1, h2⟩, h3⟩, h4⟩ := h
  exact ⟨cl, He.eqO_ok h1, He.eqO_ok h2, h3, h4⟩
theorem isi_ok {K : PySem.W.Frag} {l : List (CRef × CRef × Bool)} (h : ∀ p ∈ l, PySem.W.kitOne K (p.1.u K) (p.2.1.u K) = some p.2.2) (a c : CRef) (b : Bool) (e : isiT l a c = some b) : PySem.W.kitOne K (a.u K) (c.u K) = some b := by
  have main : (l.find? fun p => decide (p.1 = a) && decide (p.2.1 = c)).map (·.2.2) = some b → PySem.W.kitOne K (a.u K) (c.u K) = some b := fun e => by
    obtain ⟨p, hp, rfl⟩ := Option.map_eq_some_iff.mp e
    have h1 := List.find?_some hp
    simp only [Bool.and_eq_true, decide_eq_true_eq] at h1
    rw [← h1.1, ← h1.2]
    exact h p (List.mem_of_find?_eq_some hp)
  unfold isiT at e
  split at e
  · exact isiB_ok e
  · exact main e
/-- the signatures are those of the table -/
def sigIn (tbl : List Df) (s : FSig) : Prop := ∃ d ∈ tbl, s = d.sig ∧ (tbl.find? fun e => decide (e.id = d.id)) = some d
structure GS (G : Gm) (tbl : List Df) : Prop where
  fns : ∀ p ∈ G.fns, p.2.id = (p.1, none) ∧ sigIn tbl p.2
  clss : ∀ p ∈ G.clss, sigIn tbl p.2
  mths : ∀ p ∈ G.mths, ∀ q ∈ p.2, sigIn tbl q.2
  ok : ∀ d ∈ tbl, d.okB = true
  spr : ∀ d ∈ tbl, ∀ c s, d.spr = some (c, s) → sigIn tbl s
  hot : G.hot = false
  exs : ∀ p ∈ G.excs, ∃ d ∈ tbl, d.id = (p.1, some ("__init__" : Str)) ∧ d.exf = some p.2
structure KS (G : Gm) (tbl : List Df) (file : Str) (K : PySem.W.Frag) : Prop where
  fa : ∀ f ∈ faOf G, f.ok K = true
  fn : ∀ d ∈ tbl, ∃ fd, FunG K d (d.dfl.map (He.Dv.v K)) (He.fAd K d.id) fd
  dfl : ∀ d ∈ tbl, dflK K d = true
  con : ∀ p ∈ G.cons, conK K p.1 p.2 = true
  idc : ∀ p ∈ G.clss, He.fAd K p.2.id = He.ma K (He.ga K p.1) "__init__"
  idm : ∀ p ∈ G.mths, ∀ q ∈ p.2, He.fAd K q.2.id = He.ma K (He.ga K q.1) p.1
  sup : ∀ d ∈ tbl, supB K file d = true
  tys : ∀ c ∈ G.tys, tyB K (He.ga K c) = true
  isi : ∀ p ∈ G.isi, PySem.W.kitOne K (p.1.u K) (p.2.1.u K) = some p.2.2
  exf : ∀ d ∈ tbl, exfB K file d = true
  xfs : ∀ p ∈ G.excs, xfK K p = true
  xcs : ∀ c ∈ G.xcs, excB K (He.ga K c) = true
/-- what the program's text must be -/
structure PrOk (P : Program) (file : Str) : Prop where
  file : (P.main.file == file) = true
  top : (P.main.scope.names.lookup ("super" : Str)).isSome = false
section
variable {P : Program} {w : World} {K : PySem.W.Frag} {mg : Str → Option Value} {base : Heap} {G : Gm} {tbl : List Df} {h0 : Heap} {file : Str}
/-- the defaults as data -/
theorem dfl_reps {d : Df} {dvs : List V} {fd : FuncData} (F : FunG K d dvs (He.fAd K d.id) fd) (hl : dvs.length = d.dds.length) (h : dflK K d = true) : ∀ H, Reps K H dvs d.dds := by
  unfold dflK at h
  rw [Bool.or_eq_true] at h
  rcases h with h | h
  · rw [List.isEmpty_iff] at h
    rw [h] at hl ⊢
    have : dvs = [] := List.length_eq_zero_iff.mp hl
    rw [this]
    exact fun _ => .nil
  · obtain ⟨oc, od, dV, kV, doc, pm, an, cdv, ct, osl, cl, rfl, lk, hcd, hD, hcl⟩ := F.ex
    rw [lk] at h
    have h : dflV K d.dds dV = true := h
    rcases hD with ⟨e, e2⟩ | ⟨_, T, o, its, m, e, lT, oT, rT⟩
    · rw [e2] at h
      cases h
    · rw [e] at h
      have h : seqK K d.dds (K.lookup T) = true := h
      rw [lT] at h
      obtain ⟨oc', od', dt', sl'⟩ := o
      have oT : dt' = .seq its.toArray m := oT
      subst oT
      have h : repUs K d.dds its.toArray.toList = true := h
      obtain ⟨vs, r1, r2⟩ := repUs_ok h
      have : dvs = vs := vals_inj rT (by simpa using r1)
      rw [this]
      exact r2


theorem sigIn_np {d : Df} (gs : GS G tbl) (hd : d ∈ tbl) : plainP d.params d.ps = true ∧ d.ps.length ≤ d.N.length ∧ d.dfl.length = d.dds.length ∧ d.dds.length ≤ d.ps.length := by
  have okd := gs.ok d hd
  unfold Df.okB at okd
  simp only [Bool.and_eq_true, decide_eq_true_eq] at okd
  obtain ⟨⟨⟨p1, p2⟩, p3⟩, p4⟩ := okd
  refine ⟨p1, ?_, p3, p4⟩
  have pre : d.N.take d.ps.length = d.ps := by
    cases e : d.spr with
    | none =>
      rw [e] at p2
      cases e2 : d.exf with
      | none => simp only [e2] at p2; exact (scopeB_ok p2).pre
      | some f =>
        simp only [e2, Bool.and_eq_true] at p2
        exact (scopeS_ok p2.1.1).1.pre
    | some z =>
      rw [e] at p2
      simp only [Bool.and_eq_true] at p2
      exact (scopeS_ok p2.1).1.pre
  have := congrArg List.length pre
  rw [List.length_take] at this
  omega
/-- a body's context, the callees being known at level m -/
theorem mk_cx (gs : GS G tbl) (ks : KS G tbl file K) (KX : K.In h0) (GN : h0.Ns mainGlobals mg) {orc : Orc} {N : List Str} {X : Cx} {T : Th} {sc : Scope} (e1 : X.prog = P) (e2 : X.w = w) (e3 : X.K = K) (e4 : X.mg = mg) (e5 : X.base = base) (e6 : T.K = K)
    (hN : X.N = N) (hsc : X.env.scope = sc) (nd : N.Nodup) (calm : X.calm = true) (tk : Takes X T.W) (un : X.A.units + 64 < cLine) (gd : X.A.guards = some []) (hot : G.hot = false) (hxp : T.xp = Xp.nil) (xfact : ∀ d ∈ tbl, ∀ f, d.exf = some f → d.id = (d.id.1, some ("__init__" : Str)) → He.Fa.glo d.id.1 ∈ faOf G → XFact X T d.id.1 f)
    (fact : ∀ s : FSig, sigIn tbl s → ∀ up, up ≤ 3 → FnFact X T (He.fAd K s.id) s (orc s.id) up) : CxOk G orc N X T sc := by
  have inFa : ∀ f, f ∈ faOf G → f.ok K = true := ks.fa
  unfold faOf at inFa
  simp only [List.mem_append, List.mem_map, List.mem_flatMap] at inFa
  refine ⟨by rw [e3, e6], hN, hsc, nd, fun _ => calm, fun _ => hxp, (fun z => by rw [hot] at z; cases z), tk, un, gd, fun x sg hx => ?_, fun x sg hx => ?_, fun name l c' sg hn hc => ?_, fun f l c' hf' hc => ?_, fun x dd hx => ?_, fun x hx => ?_, fun x hx => ?_, fun cn hc => ?_, ?_, fun cn f hc => ?_, fun cn hc => ?_, fun a b r h => ?_, fun _ cn f hc => ?_⟩
  · have hm := lookup_mem hx
    obtain ⟨i1, i2⟩ := gs.fns _ hm
    have i1 : sg.id = (x, none) := i1
    have hfa := inFa (.glo x) (.inl (.inl (.inl (.inl (.inl (.inl (.inl (.inl ⟨_, hm, rfl⟩))))))))
    have ff := fact sg i2 0 (by omega)
    have ea : He.fAd K sg.id = He.ga K x := by rw [i1]; rfl
    rw [ea] at ff
    refine ⟨He.ga K x, by rw [e4]; exact He.glo_ok KX GN hfa, ?_, ff⟩
    obtain ⟨d', hd', rfl, hf'⟩ := i2
    obtain ⟨fd', F'⟩ := ks.fn d' hd'
    have kp := F'.kp
    have ea : He.fAd K d'.id = He.ga K x := ea
    rw [ea] at kp
    rw [e3]
    exact kp
  · have hm := lookup_mem hx
    have i2 := gs.clss _ hm
    have h1 := inFa (.glo x) (.inl (.inl (.inl (.inl (.inl (.inl (.inl (.inr ⟨_, hm, List.mem_cons_self⟩))))))))
    have h2 := inFa (.mkr x) (.inl (.inl (.inl (.inl (.inl (.inl (.inl (.inr ⟨_, hm, List.mem_cons_of_mem _ List.mem_cons_self⟩))))))))
    have ff := fact sg i2 1 (by omega)
    have ea : He.fAd K sg.id = He.ma K (He.ga K x) "__init__" := ks.idc _ hm
    rw [ea] at ff
    rw [e4, e3, e6]
    exact ⟨He.glo_ok KX GN h1, _, He.mkr_ok h2, ff⟩
  · have hm := lookup_mem hn
    have hm2 := lookup_mem hc
    have i2 := gs.mths _ hm _ hm2
    have h1 := inFa (.cls c') (.inl (.inl (.inl (.inl (.inl (.inl (.inr ⟨_, hm, _, hm2, List.mem_cons_self⟩)))))))
    have h2 := inFa (.meth c' name) (.inl (.inl (.inl (.inl (.inl (.inl (.inr ⟨_, hm, _, hm2, List.mem_cons_of_mem _ List.mem_cons_self⟩)))))))
    have ff := fact sg i2 3 (by omega)
    have ea : He.fAd K sg.id = He.ma K (He.ga K c') name := ks.idm _ hm _ hm2
    rw [ea] at ff
    rw [e3, e6]
    exact ⟨He.cls_ok h1, _, He.meth_ok h2, ff⟩
  · have hm := lookup_mem hf'
    have hm2 : c' ∈ l := by simpa using hc
    have h1 := inFa (.cls c') (.inl (.inl (.inl (.inl (.inl (.inr ⟨_, hm, _, hm2, List.mem_cons_self⟩))))))
    have h2 := inFa (.noat c' f) (.inl (.inl (.inl (.inl (.inl (.inr ⟨_, hm, _, hm2, List.mem_cons_of_mem _ List.mem_cons_self⟩))))))
    rw [e6]
    exact ⟨He.cls_ok h1, He.noat_ok h2⟩
  · have hk := ks.con _ (lookup_mem hx)
    unfold conK at hk
    split at hk
    · rename_i u hu
      obtain ⟨v, r1, r2⟩ := repU_ok hk
      rw [e4, e6]
      exact ⟨v, u, PySem.W.mg_of KX GN hu, r1, r2⟩
    · cases hk
  · have hm : x ∈ G.free := by simpa using hx
    rw [e4]
    exact He.free_ok KX GN (inFa (.free x) (.inl (.inl (.inl (.inl (.inr ⟨_, hm, rfl⟩))))))
  · have hm : x ∈ G.ccs := by simpa using hx
    rw [e4, e6]
    exact He.glo_ok KX GN (inFa (.glo x) (.inl (.inl (.inl (.inr ⟨_, hm, rfl⟩)))))
  · have hm : cn ∈ G.tys := by simpa using hc
    rw [e6]
    exact tyB_ok (He.cls_ok (inFa (.cls cn) (.inl (.inl (.inr ⟨_, hm, rfl⟩))))) (ks.tys cn hm)
  · rw [e6]
    exact isi_ok ks.isi
  · have h := ks.xfs _ (lookup_mem hc)
    unfold xfK at h
    rw [Bool.and_eq_true] at h
    rw [e6]
    exact ⟨xfB_ok h.1, He.eqO_ok h.2⟩
  · have hm : cn ∈ G.xcs := by simpa using hc
    rw [e6]
    exact excB_ok (ks.xcs cn hm)
  · unfold exmT at h
    obtain ⟨q, hq, rfl⟩ := Option.map_eq_some_iff.mp h
    have h1 := List.find?_some hq
    simp only [Bool.and_eq_true, decide_eq_true_eq] at h1
    have := inFa (.exm q.1 q.2.1 q.2.2) (.inl (.inr ⟨q, List.mem_of_find?_eq_some hq, rfl⟩))
    rw [← h1.1, ← h1.2, e6]
    exact of_decide_eq_true this
  · have hm := lookup_mem hc
    obtain ⟨d, hd, i1, i2⟩ := gs.exs _ hm
    have hg : He.Fa.glo d.id.1 ∈ faOf G := by
      rw [i1]
      unfold faOf
      exact List.mem_append_right _ (List.mem_map.mpr ⟨_, hm, rfl⟩)
    have := xfact d hd f i2 (by rw [i1]) hg
    rw [i1] at this
    exact this
/-- what supB and exfB give for super() -/
theorem sup_c {A : Around} {outer : List Env} {s : Shared} {H : Hp} {E : XK} {d : Df} {cc : Addr} {oce : Obj} {Dc cda : Addr} {oca : Obj} {vsc : Array Value} {tf : Tok} {oc : Value} {od : Option Addr} {dV kV doc pm : Value} {an : Option Addr} {ct : Value} {osl : Array (Option Value)} (pr : PrOk P file) (KX : K.In h0) (GN : h0.Ns mainGlobals mg)
    (o1 : plainP d.params d.ps = true) (S : ScS d.N d.ps d.scope) (hps : d.ps ≠ []) (lk : K.lookup (He.fAd K d.id) = some ⟨oc, od, .func (PySem.W.ksFn d.name d.qual d.params d.body d.scope dV kV doc pm an (.ref cda) ct cc), osl⟩)
    (k1 : K.lookup cc = some oce) (k2 : oce.data = .cell (some (.ref Dc))) (c2 : K.lookup cda = some oca) (c3 : oca.data = .fields vsc) (c4 : vsc[2]? = some (.str file tf)) (s3 : (PySem.W.clsIn K Dc).isSome = true) (s4 : PySem.W.mroIn K Dc (.ref Dc) = some true) (s9 : PySem.W.nsIn K mainGlobals "super" = some none) :
    ∃ x0, d.ps.head? = some x0 ∧ SupC (cxS (L2.CX P w) P w K mg base d.N d.qual d.scope (He.fAd K d.id) (.ref cda) cc A outer s H E) Dc x0 := by
  obtain ⟨x0, hx0⟩ : ∃ x0, d.ps.head? = some x0 := by
    cases e : d.ps with
    | nil => exact absurd e hps
    | cons a l => exact ⟨a, rfl⟩
  have hx1 : x0 ∈ d.ps := List.mem_of_mem_head? hx0
  have hN0 : d.N[0]? = some x0 := by
    have : (d.N.take d.ps.length)[0]? = some x0 := by
      rw [S.pre, ← List.head?_eq_getElem?]
      exact hx0
    rw [List.getElem?_take_of_lt (by
      cases e : d.ps with
      | nil => exact absurd e hps
      | cons a l => simp)] at this
    exact this
  have hpar : (d.params.posonlyargs ++ d.params.args).head?.map (·.arg) = some x0 := by
    unfold plainP at o1
    simp only [Bool.and_eq_true, List.isEmpty_iff, decide_eq_true_eq] at o1
    obtain ⟨⟨⟨⟨⟨h1, _⟩, _⟩, _⟩, h5⟩, _⟩ := o1
    rw [h1, List.nil_append, ← List.head?_map, h5]
    exact hx0
  obtain ⟨ar, ha1, ha2⟩ := Option.map_eq_some_iff.mp hpar
  exact ⟨x0, hx0, ⟨S.sup, S.cls, S.par x0 hx1, hN0, ⟨_, _, _, _, _, ar, rfl, lk, ha1, ha2⟩, ⟨cda, oca, vsc, file, tf, rfl, c2, c3, c4, pr.file⟩, pr.top, ⟨cc, oce, rfl, k1, k2⟩, Option.isSome_iff_exists.mp s3, s4, PySem.W.mg_none_of KX GN s9⟩⟩
theorem xBody_ok {d : Df} {f : Str} (h : xBody d f = true) : ∃ (x0 x1 : Str) (p0 p1 p2 p3 p4 p5 apos cpos pos pos' : Pos), d.ps = [x0, x1] ∧ d.body = [.Expr (.Call (.Attribute (.Call (.Name "super" p0) [] [] p1) "__init__" apos) [.Name x1 p2] [] cpos) pos, .Assign [.Attribute (.Name x0 p3) f p4] (.Name x1 p5) pos'] ∧ (apos.endLine == cpos.line) = true ∧ odd x0 = false ∧ odd x1 = false ∧ 2 ≤ d.N.length := by
  unfold xBody at h
  split at h
  · rename_i x0 x1 su p0 p1 ini apos y1 p2 cpos pos y0 p3 g p4 z1 p5 pos' e1 e2
    simp only [Bool.and_eq_true, decide_eq_true_eq, Bool.not_eq_true'] at h
    obtain ⟨⟨⟨⟨⟨⟨⟨⟨⟨h1, h2⟩, h3⟩, h4⟩, h5⟩, h6⟩, h7⟩, h8⟩, h9⟩, h10⟩ := h
    subst h1 h2 h3 h4 h5 h6
    exact ⟨_, _, p0, p1, p2, p3, p4, p5, apos, cpos, pos, pos', e1, e2, h7, h8, h9, h10⟩
  · cases h
/-- the inits of own exceptions -/
theorem xtb_ok (pr : PrOk P file) (gs : GS G tbl) (ks : KS G tbl file K) (KX : K.In h0) (GN : h0.Ns mainGlobals mg) (d : Df) (hd : d ∈ tbl) (f : Str) (hf : d.exf = some f) : ∃ fd, FunG K d (d.dfl.map (He.Dv.v K)) (He.fAd K d.id) fd ∧ OexC K (He.ga K d.id.1) ∧
    PySem.W.findIn K (.ref (He.ga K d.id.1)) "__init__" = some (some (.ref (He.fAd K d.id))) ∧ PySem.W.typeIn K (.ref (He.fAd K d.id)) = some (.type "function") ∧ FnOk P w K mg base (L2.CX P w) 1 (He.fAd K d.id) fd d.ps (spX (He.ga K d.id.1) f) ∧ Binds K fd d.ps [] := by
  obtain ⟨fd, F⟩ := ks.fn d hd
  have okd := gs.ok d hd
  unfold Df.okB at okd
  simp only [Bool.and_eq_true, decide_eq_true_eq] at okd
  obtain ⟨⟨⟨o1, o2⟩, o3⟩, o4⟩ := okd
  cases hs : d.spr with
  | some z => rw [hs, hf] at o2; simp at o2
  | none =>
    rw [hs] at o2
    simp only [hf, Bool.and_eq_true] at o2
    obtain ⟨⟨q1, q2⟩, q3⟩ := o2
    obtain ⟨S, hps⟩ := scopeS_ok q1
    obtain ⟨x0, x1, p0, p1, p2, p3, p4, p5, apos, cpos, pos, pos', b1, b2, b3, b4, b5, b6⟩ := xBody_ok q2
    have hx := ks.exf d hd
    unfold exfB at hx
    rw [hf] at hx
    have F0 := F
    obtain ⟨oc, od, dV, kV, doc, pm, an, cdv, ct, osl, cl, rfl, lk, hcd, hD, hcl⟩ := F.ex
    simp only [lk, Bool.and_eq_true, decide_eq_true_eq] at hx
    obtain ⟨⟨⟨⟨⟨⟨⟨⟨⟨⟨⟨s1, s2⟩, s3⟩, s4⟩, s5⟩, s6⟩, s7⟩, s8⟩, s9⟩, s10⟩, s11⟩, s12⟩ := hx
    have hcl2 : cl.map (·.1) = [("__class__" : Str)] := by
      unfold Df.cls at hcl
      rw [hf] at hcl
      simpa using hcl
    obtain ⟨cc, oce, rfl, k1, k2⟩ := cellB_ok s1 hcl2
    obtain ⟨cda, oca, vsc, tf, rfl, c2, c3, c4⟩ := codeFileB_ok s2
    have T := oexB_ok s9
    refine ⟨_, F0, T, He.eqO_ok s11, s12, ?_, ?_⟩
    · refine fn_ofX (k := 0) (name := d.name) (params := d.params) (dV := dV) (kV := kV) (doc := doc) (pm := pm) (ct := ct) (an := an) lk hcd ⟨oce, k1, k2⟩ S (fun vs H Q E ⟨a, v, e, _⟩ => by rw [e, b1]; rfl) fun A outer s H vs Q E hro hsp => ?_
      obtain ⟨y0, hy0, SC⟩ := sup_c (P := P) (w := w) (base := base) (A := A) (outer := outer) (s := s) (H := H) (E := E) pr KX GN o1 S hps lk k1 k2 c2 c3 c4 s3 s4 (He.eqO_ok s8)
      have ey : y0 = x0 := by rw [b1] at hy0; simpa using hy0.symm
      subst ey
      have n0 : d.N[0]? = some y0 := SC.n0
      have n1 : d.N[1]? = some x1 := by
        have : (d.N.take d.ps.length)[1]? = some x1 := by
          rw [S.pre, b1]
          rfl
        rw [List.getElem?_take_of_lt (by rw [b1]; simp)] at this
        exact this
      have vis : ∀ x ∈ d.ps, Vis d.scope x := fun x hx => .inl (S.par x hx)
      obtain ⟨u0, w0, _⟩ := odd_ok b4
      obtain ⟨u1, w1, _⟩ := odd_ok b5
      have v0 : Vis d.scope y0 := vis _ (by rw [b1]; simp)
      have v1 : Vis d.scope x1 := vis _ (by rw [b1]; simp)
      refine ⟨_, ?_, exc_read (N := d.N) T (He.eqO_ok s10) b6 hsp⟩
      have := exc_body (X := cxS (L2.CX P w) P w K mg base d.N d.qual d.scope (He.fAd K d.id) (.ref cda) cc A outer s H E) (f := f) (b0 := d.body) (p0 := p0) (p1 := p1) (p2 := p2) (p3 := p3) (p4 := p4) (p5 := p5) (apos := apos) (cpos := cpos) (pos := pos) (pos' := pos') T SC (He.eqO_ok s7) (He.eqO_ok s5) s6 (pe_var n0 v0 u0 w0) (pe_var n1 v1 u1 w1) (pe_var n1 v1 u1 w1) b3
      rw [← b2] at this
      exact this
    · have dd0 : d.dds = [] := List.isEmpty_iff.mp q3
      have dl0 : d.dfl = [] := List.length_eq_zero_iff.mp (by rw [o3, dd0]; rfl)
      obtain ⟨ds, v1, b⟩ := binds_G F0 o1 (by rw [dl0]; simp) 0 (by simp)
      rw [dl0] at v1
      cases v1
      exact b
/-- THE TABLE: every def keeps its promise at every level -/
theorem tbl_ok (pr : PrOk P file) (gs : GS G tbl) (ks : KS G tbl file K) (KX : K.In h0) (GN : h0.Ns mainGlobals mg) : ∀ (m : Nat), ∀ d ∈ tbl, (tbl.find? fun e => decide (e.id = d.id)) = some d → ∃ fd, FunG K d (d.dfl.map (He.Dv.v K)) (He.fAd K d.id) fd ∧
    FnG P w K mg base (L2.CX P w) (4 * m) (He.fAd K d.id) fd d.ps (spD K d.N.length d.ps.length (callD (densOf G tbl) m d.id)) := by
  intro m
  induction m with
  | zero =>
    intro d hd hf
    obtain ⟨fd, F⟩ := ks.fn d hd
    refine ⟨fd, F, ⟨fun vs H Q E h => h.1, fun A outer s H args us vs Q E hr e0 hb hv hsp => ?_⟩⟩
    obtain ⟨_, _, _, _, _, _, h⟩ := hsp
    exact h.elim
  | succ m ih =>
    intro d hd hf
    obtain ⟨fd, F⟩ := ks.fn d hd
    have okd := gs.ok d hd
    unfold Df.okB at okd
    simp only [Bool.and_eq_true, decide_eq_true_eq] at okd
    obtain ⟨⟨⟨o1, o2⟩, o3⟩, o4⟩ := okd
    have hden : densOf G tbl d.id = some (d.N.length, d.ps.length, d.den G) := by
      unfold densOf
      rw [hf]
      rfl
    -- what is known of a def at level m, in a body
    have fact : ∀ (X : Cx) (T : Th), X.prog = P → X.w = w → X.K = K → X.mg = mg → X.base = base → T.K = K → RoomG (4 * m + 3) X.A → ∀ s : FSig, sigIn tbl s → ∀ up, up ≤ 3 → FnFact X T (He.fAd K s.id) s (callD (densOf G tbl) m s.id) up := fun X T e1 e2 e3 e4 e5 e6 hro s hs up hup => by
      obtain ⟨d', hd', rfl, hf'⟩ := hs
      obtain ⟨fd', F', ok'⟩ := ih d' hd' hf'
      obtain ⟨p1, hle, p3, p4⟩ := sigIn_np gs hd'
      have hden' : densOf G tbl d'.id = some (d'.N.length, d'.ps.length, d'.den G) := by
        unfold densOf
        rw [hf']
        rfl
      refine ⟨4 * m, fd', d'.ps, ?_, hro.mono (by omega), hle, fun ds hl => callD_len hden' hl, fun j hj => ?_⟩
      · rw [e1, e2, e3, e4, e5, e6]
        exact ok'
      · have hj : j ≤ d'.dds.length := hj
        obtain ⟨ds, v1, b1⟩ := binds_G F' p1 (by rw [List.length_map, p3]; exact p4) j (by rw [List.length_map, p3]; exact hj)
        refine ⟨_, ds, by rw [e3]; exact b1, v1, fun H => ?_⟩
        rw [e6]
        exact (dfl_reps F' (by rw [List.length_map]; exact p3) (ks.dfl d' hd') H).drop j
    have hlv : 4 * (m + 1) = (4 * m + 3) + 1 := by omega
    have hrun : callD (densOf G tbl) (m + 1) d.id = runFn d.N.length d.ps.length (d.den G (callD (densOf G tbl) m)) := by
      funext ds
      show (match densOf G tbl d.id with
        | some (n, np, den) => runFn n np (den (callD (densOf G tbl) m)) ds
        | none => .st) = _
      rw [hden]
    refine ⟨fd, F, ?_⟩
    by_cases hex : d.exf.isSome = true
    · refine ⟨fun vs H Q E h => h.1, fun A outer s H args us vs Q E hr e0 hb hv hsp => ?_⟩
      obtain ⟨_, _, _, ds, _, _, h⟩ := hsp
      rw [hrun] at h
      unfold runFn Df.den at h
      rw [if_pos hex] at h
      split at h
      · rename_i hq
        split at hq
        · cases hq
        · cases hq
      · rename_i hq
        split at hq
        · cases hq
        · cases hq
      · exact h.elim
    have hex : d.exf = none := by
      cases e : d.exf with
      | none => rfl
      | some f => rw [e] at hex; exact absurd rfl hex
    have hdn : d.den G (callD (densOf G tbl) m) = compTop G (callD (densOf G tbl) m) d.N lvE lvS d.scope d.spr d.body := by
      unfold Df.den
      rw [hex]
      rfl
    have xfact : ∀ (X : Cx) (T : Th), X.prog = P → X.w = w → X.K = K → X.mg = mg → X.base = base → T.K = K → RoomG (4 * m + 3) X.A → ∀ d ∈ tbl, ∀ f, d.exf = some f → d.id = (d.id.1, some ("__init__" : Str)) → He.Fa.glo d.id.1 ∈ faOf G → XFact X T d.id.1 f := fun X T e1 e2 e3 e4 e5 e6 hro d hd f hf hid hg => by
      obtain ⟨fdx, F', T1, T2, T3, T4, T5⟩ := xtb_ok (P := P) (w := w) (base := base) pr gs ks KX GN d hd f hf
      refine ⟨by rw [e3, e6]; exact T1, by rw [e4, e6]; exact He.glo_ok KX GN (ks.fa _ hg), He.fAd K d.id, 1, fdx, d.ps, by rw [e3, e6]; exact T2, by rw [e3]; exact T3, ?_, hro.room.mono (by omega), by rw [e3]; exact T5⟩
      rw [e1, e2, e3, e4, e5, e6]
      exact T4
    obtain ⟨oc, od, dV, kV, doc, pm, an, cdv, ct, osl, cl, rfl, lk, hcd, hD, hcl⟩ := F.ex
    rw [hlv, hrun, hdn]
    cases hs : d.spr with
    | none =>
      rw [hs] at o2
      simp only [hex] at o2
      have S := scopeB_ok o2
      have hc0 : cl = [] := by
        unfold Df.cls at hcl
        rw [hs, hex] at hcl
        simpa using hcl
      subst hc0
      refine fn_ofG (name := d.name) (params := d.params) (dV := dV) (kV := kV) (doc := doc) (pm := pm) (ct := ct) (an := an) lk hcd S (fun vs H Q E h => h.1) fun A outer s H vs Q E hro hsp => ?_
      obtain ⟨io, q⟩ := run_ok (T := ⟨K, [], 0, fun _ _ _ _ => False, Xp.nil⟩) (P0 := ()) hsp
      have c := mk_cx (P := P) (w := w) (base := base) (orc := callD (densOf G tbl) m) (N := d.N) (X := cxOf (L2.CX P w) P w K mg base d.N d.qual d.scope (He.fAd K d.id) cdv A outer s H E) (T := ⟨K, io, d.N.length, fun cls dd _ H => E cls dd H, Xp.nil⟩) gs ks KX GN rfl rfl rfl rfl rfl rfl rfl rfl S.nd rfl (takes_of rfl rfl rfl rfl) hro.units hro.gd gs.hot rfl (xfact _ _ rfl rfl rfl rfl rfl rfl hro) (fact _ _ rfl rfl rfl rfl rfl rfl hro)

      exact ⟨_, compTop_ok0 c ⟨fun _ _ => .inl rfl, rfl, rfl⟩ (fun _ => passes_of rfl) lvS d.body, q⟩
    | some z =>
      obtain ⟨c, sg⟩ := z
      rw [hs] at o2
      simp only [Bool.and_eq_true] at o2
      obtain ⟨S, hps⟩ := scopeS_ok o2.1
      have hcl2 : cl.map (·.1) = [("__class__" : Str)] := by
        unfold Df.cls at hcl
        rw [hs] at hcl
        simpa using hcl
      have hsup := ks.sup d hd
      unfold supB at hsup
      rw [hs] at hsup
      simp only [lk, Bool.and_eq_true, decide_eq_true_eq] at hsup
      obtain ⟨⟨⟨⟨⟨⟨⟨⟨s1, s2⟩, s3⟩, s4⟩, s5⟩, s6⟩, s7⟩, s8⟩, s9⟩ := hsup
      obtain ⟨cc, oce, rfl, k1, k2⟩ := cellB_ok s1 hcl2
      obtain ⟨cda, oca, vsc, tf, rfl, c2, c3, c4⟩ := codeFileB_ok s2
      refine fn_ofS (name := d.name) (params := d.params) (dV := dV) (kV := kV) (doc := doc) (pm := pm) (ct := ct) (an := an) lk hcd ⟨oce, k1, k2⟩ S (fun vs H Q E h => h.1) fun A outer s H vs Q E hro hsp => ?_
      obtain ⟨io, q⟩ := run_ok (T := ⟨K, [], 0, fun _ _ _ _ => False, Xp.nil⟩) (P0 := ()) hsp
      have cx := mk_cx (P := P) (w := w) (base := base) (orc := callD (densOf G tbl) m) (N := d.N) (X := cxS (L2.CX P w) P w K mg base d.N d.qual d.scope (He.fAd K d.id) (.ref cda) cc A outer s H E) (T := ⟨K, io, d.N.length, fun cls dd _ H => E cls dd H, Xp.nil⟩) gs ks KX GN rfl rfl rfl rfl rfl rfl rfl rfl S.nd rfl (takes_of rfl rfl rfl rfl) hro.units hro.gd gs.hot rfl (xfact _ _ rfl rfl rfl rfl rfl rfl hro) (fact _ _ rfl rfl rfl rfl rfl rfl hro)
      refine ⟨_, compTop_ok (b0 := d.body) cx ⟨fun x hx => .inr (hx.resolve_right fun z => absurd rfl (S.nocell _ (PySem.mem_of_lookup z))), rfl, rfl⟩ (fun _ => passes_of rfl) (fun c' s' z => ?_) lvS d.body, q⟩
      cases z
      obtain ⟨x0, hx0⟩ : ∃ x0, d.ps.head? = some x0 := by
        cases e : d.ps with
        | nil => exact absurd e hps
        | cons a l => exact ⟨a, rfl⟩
      have hx1 : x0 ∈ d.ps := List.mem_of_mem_head? hx0
      have hN0 : d.N[0]? = some x0 := by
        have : (d.N.take d.ps.length)[0]? = some x0 := by
          rw [S.pre, ← List.head?_eq_getElem?]
          exact hx0
        rw [List.getElem?_take_of_lt (by
          cases e : d.ps with
          | nil => exact absurd e hps
          | cons a l => simp)] at this
        exact this
      have hpar : (d.params.posonlyargs ++ d.params.args).head?.map (·.arg) = some x0 := by
        unfold plainP at o1
        simp only [Bool.and_eq_true, List.isEmpty_iff, decide_eq_true_eq] at o1
        obtain ⟨⟨⟨⟨⟨h1, _⟩, _⟩, _⟩, h5⟩, _⟩ := o1
        rw [h1, List.nil_append, ← List.head?_map, h5]
        exact hx0
      obtain ⟨ar, ha1, ha2⟩ := Option.map_eq_some_iff.mp hpar
      refine ⟨x0, He.fAd K sg.id, ⟨S.sup, S.cls, S.par x0 hx1, hN0, ⟨_, _, _, _, _, ar, rfl, lk, ha1, ha2⟩, ⟨cda, oca, vsc, file, tf, rfl, c2, c3, c4, pr.file⟩, pr.top, ⟨cc, oce, rfl, k1, k2⟩, Option.isSome_iff_exists.mp s3, s4, PySem.W.mg_none_of KX GN (He.eqO_ok s9)⟩, He.eqO_ok s8, He.eqO_ok s5, s6, s7, fact _ _ rfl rfl rfl rfl rfl rfl hro sg (gs.spr d hd c sg hs) 0 (by omega)⟩
end
end DL
set_option maxHeartbeats 8000000
/-! DL24: a law's end. -/
namespace DL
open PySem PySem.Spec PyProof.Rows L2

theorem walk_ofW {l : PySem.W.OpenLaw} {n k : Nat} {q : Program} {loose : List Str} {XP : (Str → Option Value) → Heap → Prop} {YP : World → Heap → Prop} {d : DefRec} {CX : World → CXT} {x : Str}
    (hn : l.most = some n) (hn2 : n ≤ sizeLine) (hdf : d.params.defaults = []) (hr : RoomG k callerA)
    (F : ∀ (w : World) (mg : Str → Option Value) (fa : Addr) (h : Heap), YP w h → h.Ns mainGlobals mg → mg d.name = some (.ref fa) →
      ∃ (K : PySem.W.Frag) (fd : FuncData) (sp : Sp), K.In h ∧ (∀ (s : Shared) (u : Value), BindsTo s fd ⟨[u], []⟩ [(x, u)]) ∧
        (∀ (H : Hp) (a : Addr) (ns : List Int), ns.length ≤ n → Only H → SqL K H a (ns.map V.int) → sp [.ref a] H (fun v _ => v = .bl true) fun _ _ _ => False) ∧
        ∀ base : Heap, K.In base → base.Ns mainGlobals mg → FnG l.prog w K mg base (CX w) k fa fd [x] sp)
    (hCX : ∀ (w : World) (H : Hp) (s : Shared) (e : Value) (s' : Shared), CX w [] H s (fun _ _ _ => False) e s' → False) :
    PySem.W.WalkO q loose XP YP l.row.toRowW d [] (fun f vs => PySem.call f vs) := by
  refine Att.attach_call hn hdf fun w s₀ s₁ mg mb fa o pm cd doc a vs ns G Y ho hd hcd hmg hobj hints hlen hg => ?_
  obtain ⟨K, fd, sp, KX, hb, hsp, hF⟩ := F w mg fa _ Y G.T.g hmg
  exact law_callG KX G.T.g G.T.b G.T.builtins G.T.nolimit hg hobj hints (Nat.le_trans hlen hn2) hr hF hb (fun H hO hS => hsp H a ns hlen hO hS) fun H e s' => hCX w H s₁ e s'
theorem cx_false {P : Program} {w : World} {H : Hp} {s : Shared} {e : Value} {s' : Shared} (h : L2.CX P w [] H s (fun _ _ _ => False) e s') : False := by
  obtain ⟨_, _, _, _, _, _, _, _, _, _, _, _, z⟩ := h
  exact z
/-- the script as data -/
def scr (ns : List Int) : D := .rol (ns.map D.int)
theorem reps_ints {K : PySem.W.Frag} {h : Hp} : ∀ ns : List Int, Reps K h (ns.map V.int) (ns.map D.int)
  | [] => .nil
  | _ :: r => .cons .int (reps_ints r)
theorem script_sp {K : PySem.W.Frag} {n : Nat} {o : List FArg → FOut} {H : Hp} {a : Addr} {ns : List Int} {b : Bool} {ios : List D} (hn : 1 ≤ n) (hS : SqL K H a (ns.map V.int)) (h : o [(false, scr ns)] = .ret (b, .bl true) ios) :
    spD K n 1 o [.ref a] H (fun v _ => v = .bl true) fun _ _ _ => False := by
  have e0 : EnvOk ⟨K, fun _ => False, ioAddrs [(false, scr ns)] [.ref a] 0, n, Xp.nil⟩ H (fun _ => False) ([V.ref a].map some ++ List.replicate (n - [V.ref a].length) none) (startE n [(false, scr ns)]) := by
    have hh : hid H (Un2 (fun _ => False) fun _ => False) = H := by
      funext b
      unfold hid
      rw [if_neg]
      exact fun z => z.elim id id
    refine ⟨by unfold startE; simp, fun i o s h1 h2 => ?_, fun i j a ⟨x1, s, x2, x3⟩ _ => ?_, fun _ z => z.elim, fun _ z => z.elim, fun _ z => z.elim, fun i a h => ?_, by simp; omega⟩
    · show SlotOk K Xp.nil H (hid H (Un2 (fun _ => False) fun _ => False)) (fun _ => False) o s
      rw [hh]
      rcases startE_get h2 with ⟨d, g1, rfl⟩ | ⟨_, rfl⟩
      · cases i with
        | zero =>
          simp at g1 h1
          subst g1 h1
          exact .fz (.rol hS (reps_ints ns))
        | succ i => simp at g1
      · exact .un
    · rcases startE_get x2 with ⟨d, g1, rfl⟩ | ⟨_, rfl⟩
      · cases i with
        | zero =>
          simp at g1
          subst g1
          cases x3
        | succ i => simp at g1
      · cases x3
    · obtain ⟨j, d, _, g, _⟩ := ioAddrs_mem.mp h
      cases j with
      | zero => simp at g
      | succ j => simp at g
  refine ⟨rfl, fun _ => False, fun _ => False, [(false, scr ns)], e0, rfl, ?_⟩
  rw [h]
  intro v σ' env' H' O' _ _ _ r
  cases b with
  | false => cases (show Rep _ _ v (.bl true) from r); rfl
  | true =>
    obtain ⟨p, _, _, sh, _⟩ := r
    cases sh
/-! ### the static checks -/
mutual
def eqB : D → D → Bool
  | .non, .non => true
  | .bl a, .bl b => a == b
  | .int a, .int b => decide (a = b)
  | .str a, .str b => decide (a = b)
  | .tup a, .tup b => eqBs a b
  | _, _ => false
def eqBs : List D → List D → Bool
  | [], [] => true
  | a :: as, b :: bs => eqB a b && eqBs as bs
  | _, _ => false
end
mutual
theorem eqB_ok : ∀ {a b : D}, eqB a b = true → a = b
  | .non, b, h => by cases b <;> first | rfl | (unfold eqB at h; cases h)
  | .bl x, b, h => by
    cases b with
    | bl y => unfold eqB at h; rw [beq_iff_eq.mp h]
    | _ => unfold eqB at h; cases h
  | .int x, b, h => by
    cases b with
    | int y => unfold eqB at h; rw [of_decide_eq_true h]
    | _ => unfold eqB at h; cases h
  | .str x, b, h => by
    cases b with
    | str y => unfold eqB at h; rw [of_decide_eq_true h]
    | _ => unfold eqB at h; cases h
  | .tup x, b, h => by
    cases b with
    | tup y => unfold eqB at h; rw [eqBs_ok h]
    | _ => unfold eqB at h; cases h
  | .lst _, b, h => by cases b <;> (unfold eqB at h; cases h)
  | .rol _, b, h => by cases b <;> (unfold eqB at h; cases h)
  | .obj _ _, b, h => by cases b <;> (unfold eqB at h; cases h)
theorem eqBs_ok : ∀ {a b : List D}, eqBs a b = true → a = b
  | [], [], _ => rfl
  | [], _ :: _, h => by unfold eqBs at h; cases h
  | _ :: _, [], h => by unfold eqBs at h; cases h
  | a :: as, b :: bs, h => by
    unfold eqBs at h
    rw [Bool.and_eq_true] at h
    rw [eqB_ok h.1, eqBs_ok h.2]
end
def sigB (s : FSig) (d : Df) : Bool := decide (s.id = d.id) && decide (s.n = d.N.length) && decide (s.np = d.ps.length) && eqBs s.dfl d.dds && decide (s.io = d.io)
theorem sigB_ok {s : FSig} {d : Df} (h : sigB s d = true) : s = d.sig := by
  unfold sigB at h
  simp only [Bool.and_eq_true, decide_eq_true_eq] at h
  obtain ⟨⟨⟨⟨h1, h2⟩, h3⟩, h4⟩, h5⟩ := h
  obtain ⟨a, b, c, e, f⟩ := s
  have h4' := eqBs_ok h4
  clear h4
  simp only at h1 h2 h3 h4' h5
  subst h1 h2 h3 h4' h5
  rfl
def inTbl (tbl : List Df) (s : FSig) : Bool := match tbl.find? fun e => decide (e.id = s.id) with
  | some d => sigB s d
  | none => false
theorem inTbl_ok {tbl : List Df} {s : FSig} (h : inTbl tbl s = true) : sigIn tbl s := by
  unfold inTbl at h
  split at h
  · rename_i d hf
    have e := sigB_ok h
    refine ⟨d, List.mem_of_find?_eq_some hf, e, ?_⟩
    rw [e] at hf
    exact hf
  · cases h
def sprB (tbl : List Df) (d : Df) : Bool := match d.spr with
  | none => true
  | some (_, s) => inTbl tbl s
def gsB (G : Gm) (tbl : List Df) : Bool := ((G.fns.all fun p => decide (p.2.id = (p.1, none)) && inTbl tbl p.2) && (G.clss.all fun p => inTbl tbl p.2) && (G.mths.all fun p => p.2.all fun q => inTbl tbl q.2) && tbl.all Df.okB && tbl.all (sprB tbl)) && !G.hot && G.excs.all fun p => tbl.any fun d => decide (d.id = (p.1, some ("__init__" : Str))) && decide (d.exf = some p.2)
theorem gsB_ok {G : Gm} {tbl : List Df} (h : gsB G tbl = true) : GS G tbl := by
  unfold gsB at h
  simp only [Bool.and_eq_true, List.all_eq_true, decide_eq_true_eq] at h
  obtain ⟨⟨⟨⟨⟨⟨h1, h2⟩, h3⟩, h4⟩, h5⟩, h6⟩, h7⟩ := h
  refine ⟨fun p hp => ⟨(h1 p hp).1, inTbl_ok (h1 p hp).2⟩, fun p hp => inTbl_ok (h2 p hp), fun p hp q hq => inTbl_ok (h3 p hp q hq), h4, fun d hd c s e => ?_, by simpa using h6, fun p hp => ?_⟩
  · have := h5 d hd
    unfold sprB at this
    rw [e] at this
    exact inTbl_ok this
  · obtain ⟨d, hd, e⟩ := List.any_eq_true.mp (h7 p hp)
    rw [Bool.and_eq_true, decide_eq_true_eq, decide_eq_true_eq] at e
    exact ⟨d, hd, e.1, e.2⟩
/-! ### the head's Hook -/
def exY (G : Gm) (tbl : List Df) (file : Str) (K : PySem.W.Frag) : Bool := ((faOf G).all fun f => f.ok K) && (tbl.all fun d => d.okK K) && (tbl.all fun d => dflK K d) && (G.cons.all fun p => conK K p.1 p.2) && (G.clss.all fun p => decide (He.fAd K p.2.id = He.ma K (He.ga K p.1) "__init__")) &&
  (G.mths.all fun p => p.2.all fun q => decide (He.fAd K q.2.id = He.ma K (He.ga K q.1) p.1)) && (tbl.all fun d => supB K file d) && (G.tys.all fun c => tyB K (He.ga K c)) && (G.isi.all fun p => decide (PySem.W.kitOne K (p.1.u K) (p.2.1.u K) = some p.2.2)) && (tbl.all fun d => exfB K file d) && (G.excs.all fun p => xfK K p) && G.xcs.all fun c => excB K (He.ga K c)
abbrev AlY : Type := List FnY × Bool
def obsK (G : Gm) (tbl : List Df) (file : Str) (K : PySem.W.Frag) : AlY := (tbl.map fun d => fnY K d.id, exY G tbl file K)
def frY (g : Addr → Option Obj) (n : Nat) : PySem.W.Frag := He.frT g (cStatics :: He.asD g n)
def valY (tbl : List Df) : AlY := (tbl.map Df.val, true)
def hkOf (G : Gm) (tbl : List Df) (file : Str) : PySem.W.Hook where
  α := AlY
  obs := fun s => obsK G tbl file (frY s.heap.get? 5)
  val := fun _ => valY tbl
  says := fun _ h => ∃ K : PySem.W.Frag, K.In h ∧ obsK G tbl file K = valY tbl
  of := fun _ s e => ⟨_, He.frT_in, e⟩
  keeps := fun _ _ _ ⟨K, hK, c⟩ k => ⟨K, PySem.W.Frag.In.keeps hK k, c⟩
def obOf (G : Gm) (tbl : List Df) (file : Str) (s : PySem.W.SharedT) : AlY := obsK G tbl file (frY (HandSHeadRun.getT s) 5)
theorem obOf_eq (G : Gm) (tbl : List Df) (file : Str) (s : PySem.W.SharedT) : obOf G tbl file s = (hkOf G tbl file).obs s.abs := by
  have e : HandSHeadRun.getT s = s.abs.heap.get? := funext (HandSHeadRun.getT_eq s)
  unfold obOf
  rw [e]
  rfl
theorem map_val {K : PySem.W.Frag} : ∀ {tbl : List Df}, (tbl.map fun d => fnY K d.id) = tbl.map Df.val → ∀ d ∈ tbl, fnY K d.id = d.val
  | [], _, _, h => by cases h
  | a :: t, e, d, h => by
    rw [List.map_cons, List.map_cons] at e
    injection e with e1 e2
    rcases List.mem_cons.mp h with rfl | h
    · exact e1
    · exact map_val e2 d h
theorem ks_of {G : Gm} {tbl : List Df} {file : Str} {K : PySem.W.Frag} (c : obsK G tbl file K = valY tbl) : KS G tbl file K := by
  have e1 : (tbl.map fun d => fnY K d.id) = tbl.map Df.val := congrArg (fun z : AlY => z.1) c
  have e2 : exY G tbl file K = true := congrArg (fun z : AlY => z.2) c
  unfold exY at e2
  simp only [Bool.and_eq_true, List.all_eq_true, decide_eq_true_eq] at e2
  obtain ⟨⟨⟨⟨⟨⟨⟨⟨⟨⟨⟨h1, h2⟩, h3⟩, h4⟩, h5⟩, h6⟩, h7⟩, h8⟩, h9⟩, h10⟩, h11⟩, h12⟩ := e2
  exact ⟨h1, fun d hd => Df.funG (map_val e1 d hd) (h2 d hd), h3, h4, h5, h6, h7, h8, h9, h10, h11, h12⟩
/-- THE END: from the data to the walk -/
theorem walk_data {l : PySem.W.OpenLaw} {G : Gm} {tbl : List Df} {q : Program} {loose : List Str} {XP : (Str → Option Value) → Heap → Prop} {d : DefRec} {dl : Df} {x file : Str} (m : Nat) (pr : PrOk l.prog file)
    (gs : GS G tbl) (hdl : dl ∈ tbl) (hfind : (tbl.find? fun e => decide (e.id = dl.id)) = some dl) (hid : dl.id = (d.name, none)) (hglo : He.Fa.glo d.name ∈ faOf G) (hps : dl.ps = [x]) (hdds : dl.dfl = [])
    (hn : l.most = some 63) (hdf : d.params.defaults = []) (hr : RoomG (4 * m) callerA)
    (data : ∀ ns : List Int, ns.length ≤ 63 → ∃ b ios, callD (densOf G tbl) m dl.id [(false, scr ns)] = .ret (b, .bl true) ios) :
    PySem.W.WalkO q loose XP (hkOf G tbl file).says l.row.toRowW d [] (fun f vs => PySem.call f vs) := by
  refine walk_ofW (n := 63) (k := 4 * m) (x := x) (CX := fun w => L2.CX l.prog w) hn (by decide) hdf hr ?_ (fun w H s e s' z => cx_false z)
  intro w mg fa h Y GN hmg
  obtain ⟨K, KX, c⟩ := Y
  have ks := ks_of c
  obtain ⟨fd, F⟩ := ks.fn dl hdl
  obtain ⟨o1, hle, o3, o4⟩ := sigIn_np gs hdl
  have efa : He.fAd K dl.id = fa := by
    rw [hid]
    show He.ga K d.name = fa
    have := He.glo_ok KX GN (ks.fa _ hglo)
    rw [hmg] at this
    exact (Value.ref.inj (Option.some.inj this)).symm
  refine ⟨K, fd, spD K dl.N.length dl.ps.length (callD (densOf G tbl) m dl.id), KX, ?_, fun H a ns hl hO hS => ?_, fun base KB GB => ?_⟩
  · intro s u
    rw [hdds] at F
    obtain ⟨oc, od, dV, kV, doc, pm, an, cdv, ct, osl, cl, rfl, lk, hcd, hD, hcl⟩ := F.ex
    rcases hD with ⟨_, rfl⟩ | ⟨e, _⟩
    · obtain ⟨k, e1, e2⟩ := bind_gen (fd := PySem.W.fnX dl.name dl.qual dl.params dl.body dl.scope cl .none kV doc pm an cdv ct) (ps := dl.ps) (us := [u]) o1 (by rw [hps]; exact Nat.le_refl _)
      refine BindsTo.of_eq ?_
      rw [e1]
      have e3 : (seqItems? (PySem.W.fnX dl.name dl.qual dl.params dl.body dl.scope cl .none kV doc pm an cdv ct).defaults : Sem (Option (Array Value))) = pure none := rfl
      rw [e3, pure_bind, e2 none (by rw [hps]; simp) (by simp)]
      rw [hps]
      simp
    · exact absurd rfl e
  · obtain ⟨b, ios, hdat⟩ := data ns hl
    rw [hps]
    exact script_sp (by rw [hps] at hle; exact hle) hS hdat
  · obtain ⟨fd', F', ok⟩ := tbl_ok (P := l.prog) (w := w) (base := base) pr gs ks KX GN m dl hdl hfind
    have ef : fd' = fd := by
      obtain ⟨_, _, _, _, _, _, _, _, _, _, _, e1, l1, _⟩ := F.ex
      obtain ⟨_, _, _, _, _, _, _, _, _, _, _, e2, l2, _⟩ := F'.ex
      rw [l1] at l2
      injection l2 with l2
      injection l2 with _ _ l2
      injection l2 with l2
      exact l2.symm
    rw [ef, efa] at ok
    rw [hps] at ok ⊢
    exact ok
def gloB (G : Gm) (x : Str) : Bool := G.fns.any fun p => decide (p.1 = x)
theorem gloB_ok {G : Gm} {x : Str} (h : gloB G x = true) : He.Fa.glo x ∈ faOf G := by
  unfold gloB at h
  obtain ⟨p, hp, e⟩ := List.any_eq_true.mp h
  have e := of_decide_eq_true e
  subst e
  unfold faOf
  simp only [List.mem_append, List.mem_map]
  exact .inl (.inl (.inl (.inl (.inl (.inl (.inl (.inl ⟨p, hp, rfl⟩)))))))
theorem room_m {m : Nat} (hm : m ≤ 40) : RoomG (4 * m) callerA := by
  have h1 : callerA.depth + 3 * 160 + 5 < recursionLimit := by decide +kernel
  have h2 : callerA.units + 16 * 160 + 200 < cLine := by decide +kernel
  exact ⟨⟨rfl, by omega, by omega⟩, rfl⟩
end DL
set_option maxHeartbeats 8000000
/-! DW: what a denotation comes to, step by step (for simp). What comes behind is held in instance places, so that simp does not enter it. -/
namespace DL
open PySem L2
class Kt (α : Type) where
  run : α → SEnv → Prop
class Kc (α : Type) where
  run : α → List D → Prop
class Ks (α : Type) where
  run : α → Prop
class Kp where
  run : Prop
namespace M
def wp {α : Type} (o : Out α) [q : Kt α] [x : Kt Ex] : Prop := match o with
  | .ok a e => q.run a e
  | .ex y e => x.run y e
  | .st => False
end M
namespace M
def wpC (o : FOut) [q : Kc W] [x : Kc Ex] : Prop := match o with
  | .ret w ios => q.run w ios
  | .ex y ios => x.run y ios
  | .st => False
end M
/-- the same, but closed to plain unfolding -/
def wp {α : Type} (o : Out α) [q : Kt α] [x : Kt Ex] : Prop := ∃ p, o = p ∧ @M.wp _ p q x
def wpC (o : FOut) [q : Kc W] [x : Kc Ex] : Prop := ∃ p, o = p ∧ @M.wpC p q x
theorem wp_eq : @wp = @M.wp := by
  funext α o q x
  exact propext ⟨fun ⟨p, e, h⟩ => e ▸ h, fun h => ⟨o, rfl, h⟩⟩
theorem wpC_eq : @wpC = @M.wpC := by
  funext o q x
  exact propext ⟨fun ⟨p, e, h⟩ => e ▸ h, fun h => ⟨o, rfl, h⟩⟩
def sat {α : Type} (o : Option α) [p : Ks α] : Prop := match o with
  | some a => p.run a
  | none => False
/-- a choice -/
def sel (b : Bool) [p : Kp] [q : Kp] : Prop := (b = true → p.run) ∧ (b = false → q.run)
/-- a choice by what is there -/
def selO {α : Type} (o : Option α) [p : Ks α] [q : Kp] : Prop := match o with
  | some a => p.run a
  | none => q.run
theorem selO_some {α : Type} {a : α} {p : Ks α} {q : Kp} : @selO _ (some a) p q = p.run a := rfl
theorem selO_none {α : Type} {p : Ks α} {q : Kp} : @selO α none p q = q.run := rfl
theorem sel_in {b : Bool} {p q : Kp} (h1 : b = true → p.run) (h2 : b = false → q.run) : @sel b p q := ⟨h1, h2⟩
section
variable {α : Type} {env : SEnv} {q1 : Kt α} {x1 : Kt Ex}
theorem sat_some {a : α} {p1 : Ks α} : @sat _ (some a) p1 = p1.run a := rfl
theorem sat_none {p1 : Ks α} : @sat _ (none : Option α) p1 = False := rfl
theorem sat_ite {c : Prop} [Decidable c] {o : Option α} {p1 : Ks α} : @sat _ (if c then o else none) p1 = (c ∧ @sat _ o p1) := by
  by_cases h : c
  · rw [if_pos h]; simp [h]
  · rw [if_neg h]; simp [h, sat]
theorem sat_map {β : Type} {o : Option β} {f : β → α} {p1 : Ks α} : @sat _ (o.map f) p1 = @sat _ o ⟨fun b => p1.run (f b)⟩ := by cases o <;> rfl
theorem sat_bind {β : Type} {o : Option β} {f : β → Option α} {p1 : Ks α} : @sat _ (o.bind f) p1 = @sat _ o ⟨fun b => @sat _ (f b) p1⟩ := by cases o <;> rfl
theorem sel_true {p1 q1 : Kp} : @sel true p1 q1 = p1.run := by simp [sel]
theorem sel_false {p1 q1 : Kp} : @sel false p1 q1 = q1.run := by simp [sel]
theorem sel_not {b : Bool} {p1 q1 : Kp} : @sel (!b) p1 q1 = @sel b q1 p1 := by cases b <;> simp [sel]
namespace M
theorem wp_ok {a : α} : @wp _ (.ok a env) q1 x1 = q1.run a env := rfl
end M
theorem wp_ok {a : α} : @wp _ (.ok a env) q1 x1 = q1.run a env := by
  try rw [wp_eq]
  try rw [wpC_eq]
  exact M.wp_ok
namespace M
theorem wp_ex {x : Ex} : @wp _ (.ex x env : Out α) q1 x1 = x1.run x env := rfl
end M
theorem wp_ex {x : Ex} : @wp _ (.ex x env : Out α) q1 x1 = x1.run x env := by
  try rw [wp_eq]
  try rw [wpC_eq]
  exact M.wp_ex
namespace M
theorem wp_st : @wp _ (.st : Out α) q1 x1 = False := rfl
end M
theorem wp_st : @wp _ (.st : Out α) q1 x1 = False := by
  try rw [wp_eq]
  try rw [wpC_eq]
  exact M.wp_st
namespace M
theorem wp_ite {c : Prop} [Decidable c] {a : Out α} : @wp _ (if c then a else .st) q1 x1 = (c ∧ @wp _ a q1 x1) := by
  by_cases h : c
  · rw [if_pos h]; simp [h]
  · rw [if_neg h]; simp [h, wp]
end M
theorem wp_ite {c : Prop} [Decidable c] {a : Out α} : @wp _ (if c then a else .st) q1 x1 = (c ∧ @wp _ a q1 x1) := by
  try rw [wp_eq]
  try rw [wpC_eq]
  exact M.wp_ite
end
section
variable {env : SEnv} {q1 : Kt W} {x1 : Kt Ex}
/-! ### expressions -/
namespace M
theorem w_C {d : D} : @wp _ (dC d env) q1 x1 = q1.run (false, d) env := rfl
end M
theorem w_C {d : D} : @wp _ (dC d env) q1 x1 = q1.run (false, d) env := by
  try rw [wp_eq]
  try rw [wpC_eq]
  exact M.w_C
namespace M
theorem w_Var {i : Nat} : @wp _ (dVar i env) q1 x1 = match env[i]? with
  | some (.fz d) => q1.run (false, d) env
  | some (.ow d) => q1.run (false, d) (env.set i (.fz d))
  | _ => False := by
  unfold dVar
  cases env[i]? with
  | none => rfl
  | some s => cases s <;> rfl
end M
theorem w_Var {i : Nat} : @wp _ (dVar i env) q1 x1 = match env[i]? with
  | some (.fz d) => q1.run (false, d) env
  | some (.ow d) => q1.run (false, d) (env.set i (.fz d))
  | _ => False := by
  try rw [wp_eq]
  try rw [wpC_eq]
  exact M.w_Var
namespace M
theorem w_retO {o : Option W} : @wp _ (retO o env) q1 x1 = @sat _ o ⟨fun w => q1.run w env⟩ := by cases o <;> rfl
end M
theorem w_retO {o : Option W} : @wp _ (retO o env) q1 x1 = @sat _ o ⟨fun w => q1.run w env⟩ := by
  try rw [wp_eq]
  try rw [wpC_eq]
  exact M.w_retO
namespace M
theorem w_bindE {m : EDen} {k : D → EDen} : @wp _ (bindE m k env) q1 x1 = @wp _ (m env) ⟨fun w e => @wp _ (k w.2 e) q1 x1⟩ x1 := by
  unfold bindE
  cases m env <;> rfl
end M
theorem w_bindE {m : EDen} {k : D → EDen} : @wp _ (bindE m k env) q1 x1 = @wp _ (m env) ⟨fun w e => @wp _ (k w.2 e) q1 x1⟩ x1 := by
  try rw [wp_eq]
  try rw [wpC_eq]
  exact M.w_bindE
namespace M
theorem w_evEx {m : EDen} {k : Arg → EDen} : @wp _ (evO (.ex m) k env) q1 x1 = @wp _ (m env) ⟨fun w e => @wp _ (k (.val w.2) e) q1 x1⟩ x1 := by
  unfold evO
  simp only []
  cases m env <;> rfl
end M
theorem w_evEx {m : EDen} {k : Arg → EDen} : @wp _ (evO (.ex m) k env) q1 x1 = @wp _ (m env) ⟨fun w e => @wp _ (k (.val w.2) e) q1 x1⟩ x1 := by
  try rw [wp_eq]
  try rw [wpC_eq]
  exact M.w_evEx
namespace M
theorem w_evPk {i : Nat} {k : Arg → EDen} : @wp _ (evO (.pk i) k env) q1 x1 = match env[i]? with
  | some (.fz d) => @wp _ (k (.val d) env) q1 x1
  | some (.ow _) => @wp _ (k (.lend i) env) q1 x1
  | some (.io _) => @wp _ (k (.lend i) env) q1 x1
  | _ => False := by
  unfold evO
  simp only []
  cases env[i]? with
  | none => rfl
  | some s => cases s <;> rfl
end M
theorem w_evPk {i : Nat} {k : Arg → EDen} : @wp _ (evO (.pk i) k env) q1 x1 = match env[i]? with
  | some (.fz d) => @wp _ (k (.val d) env) q1 x1
  | some (.ow _) => @wp _ (k (.lend i) env) q1 x1
  | some (.io _) => @wp _ (k (.lend i) env) q1 x1
  | _ => False := by
  try rw [wp_eq]
  try rw [wpC_eq]
  exact M.w_evPk
theorem argDat_val {d : D} : argDat env (.val d) = some d := rfl
theorem argDat_lend {i : Nat} : argDat env (.lend i) = env[i]?.bind slotData := by
  show ((env[i]?.bind slotData).map fun d => (true, d)).map (·.2) = _
  cases env[i]?.bind slotData <;> rfl
namespace M
theorem w_retF {f : D → D → Option W} {x y : Arg} : @wp _ (retF f x y env) q1 x1 = @sat _ (argDat env x) ⟨fun a => @sat _ (argDat env y) ⟨fun b => @sat _ (f a b) ⟨fun w => q1.run w env⟩⟩⟩ := by
  unfold retF
  cases argDat env x <;> cases argDat env y <;> simp only [w_retO, sat_some, sat_none, wp_st] <;> rfl
end M
theorem w_retF {f : D → D → Option W} {x y : Arg} : @wp _ (retF f x y env) q1 x1 = @sat _ (argDat env x) ⟨fun a => @sat _ (argDat env y) ⟨fun b => @sat _ (f a b) ⟨fun w => q1.run w env⟩⟩⟩ := by
  try rw [wp_eq]
  try rw [wpC_eq]
  exact M.w_retF
namespace M
theorem w_retF1 {f : D → Option W} {x : Arg} : @wp _ (retF1 f x env) q1 x1 = @sat _ (argDat env x) ⟨fun a => @sat _ (f a) ⟨fun w => q1.run w env⟩⟩ := by
  unfold retF1
  cases argDat env x <;> simp only [w_retO, sat_some, sat_none, wp_st] <;> rfl
end M
theorem w_retF1 {f : D → Option W} {x : Arg} : @wp _ (retF1 f x env) q1 x1 = @sat _ (argDat env x) ⟨fun a => @sat _ (f a) ⟨fun w => q1.run w env⟩⟩ := by
  try rw [wp_eq]
  try rw [wpC_eq]
  exact M.w_retF1
namespace M
theorem w_P2 {f : D → D → Option W} {a b : Opd} : @wp _ (dP2 f a b env) q1 x1 = @wp _ (evO a (fun x => evO b fun y => retF f x y) env) q1 x1 := rfl
end M
theorem w_P2 {f : D → D → Option W} {a b : Opd} : @wp _ (dP2 f a b env) q1 x1 = @wp _ (evO a (fun x => evO b fun y => retF f x y) env) q1 x1 := by
  try rw [wp_eq]
  try rw [wpC_eq]
  exact M.w_P2
namespace M
theorem w_P1 {f : D → Option W} {a : Opd} : @wp _ (dP1 f a env) q1 x1 = @wp _ (evO a (fun x => retF1 f x) env) q1 x1 := rfl
end M
theorem w_P1 {f : D → Option W} {a : Opd} : @wp _ (dP1 f a env) q1 x1 = @wp _ (evO a (fun x => retF1 f x) env) q1 x1 := by
  try rw [wp_eq]
  try rw [wpC_eq]
  exact M.w_P1
namespace M
theorem w_Chain {f g : D → D → Option W} {a b c : Opd} : @wp _ (dChain f g a b c env) q1 x1 = @wp _ (evO a (fun x => evO b fun y => fun e => match retF f x y e with
  | .ok (_, .bl true) e1 => evO c (fun z => retF g y z) e1
  | .ok (_, .bl false) e1 => .ok (false, .bl false) e1
  | _ => .st) env) q1 x1 := rfl
end M
theorem w_Chain {f g : D → D → Option W} {a b c : Opd} : @wp _ (dChain f g a b c env) q1 x1 = @wp _ (evO a (fun x => evO b fun y => fun e => match retF f x y e with
  | .ok (_, .bl true) e1 => evO c (fun z => retF g y z) e1
  | .ok (_, .bl false) e1 => .ok (false, .bl false) e1
  | _ => .st) env) q1 x1 := by
  try rw [wp_eq]
  try rw [wpC_eq]
  exact M.w_Chain
/-- the middle of a chain -/
def asB : D → Option Bool
  | .bl b => some b
  | _ => none
namespace M
theorem w_ChainM {f g : D → D → Option W} {x y : Arg} {c : Opd} : @wp _ (match retF f x y env with
  | .ok (_, .bl true) e1 => evO c (fun z => retF g y z) e1
  | .ok (_, .bl false) e1 => .ok (false, .bl false) e1
  | _ => .st) q1 x1 = @sat _ (argDat env x) ⟨fun a => @sat _ (argDat env y) ⟨fun b => @sat _ (f a b) ⟨fun w => @sat _ (asB w.2) ⟨fun t => @sel t ⟨@wp _ (evO c (fun z => retF g y z) env) q1 x1⟩ ⟨q1.run (false, .bl false) env⟩⟩⟩⟩⟩ := by
  unfold retF
  cases argDat env x with
  | none => rfl
  | some a =>
    cases argDat env y with
    | none => rfl
    | some b =>
      simp only [sat_some]
      cases f a b with
      | none => rfl
      | some w =>
        obtain ⟨v, d⟩ := w
        simp only [retO, sat_some]
        cases d <;> try rfl
        rename_i t
        cases t <;> simp only [asB, sat_some, sel_true, sel_false] <;> rfl
end M
theorem w_ChainM {f g : D → D → Option W} {x y : Arg} {c : Opd} : @wp _ (match retF f x y env with
  | .ok (_, .bl true) e1 => evO c (fun z => retF g y z) e1
  | .ok (_, .bl false) e1 => .ok (false, .bl false) e1
  | _ => .st) q1 x1 = @sat _ (argDat env x) ⟨fun a => @sat _ (argDat env y) ⟨fun b => @sat _ (f a b) ⟨fun w => @sat _ (asB w.2) ⟨fun t => @sel t ⟨@wp _ (evO c (fun z => retF g y z) env) q1 x1⟩ ⟨q1.run (false, .bl false) env⟩⟩⟩⟩⟩ := by
  try rw [wp_eq]
  try rw [wpC_eq]
  exact M.w_ChainM
namespace M
theorem w_IfE {c : TDen} {m k : EDen} : @wp _ (dIfE c m k env) q1 x1 = @wp _ (c env) ⟨fun b e => @sel b ⟨@wp _ (m e) q1 x1⟩ ⟨@wp _ (k e) q1 x1⟩⟩ x1 := by
  unfold dIfE
  cases c env with
  | ok b e => cases b <;> simp [wp, sel]
  | ex x e => rfl
  | st => rfl
end M
theorem w_IfE {c : TDen} {m k : EDen} : @wp _ (dIfE c m k env) q1 x1 = @wp _ (c env) ⟨fun b e => @sel b ⟨@wp _ (m e) q1 x1⟩ ⟨@wp _ (k e) q1 x1⟩⟩ x1 := by
  try rw [wp_eq]
  try rw [wpC_eq]
  exact M.w_IfE
namespace M
theorem w_AndV {m k : EDen} : @wp _ (dAndV m k env) q1 x1 = @wp _ (m env) ⟨fun w e => @sat _ (asB w.2) ⟨fun b => @sel b ⟨@wp _ (k e) q1 x1⟩ ⟨q1.run (false, .bl false) e⟩⟩⟩ x1 := by
  unfold dAndV
  rw [w_bindE]
  congr
  funext w e
  obtain ⟨v, d⟩ := w
  cases d <;> try rfl
  rename_i b
  cases b <;> simp [asB, sat, sel, wp, dC]
end M
theorem w_AndV {m k : EDen} : @wp _ (dAndV m k env) q1 x1 = @wp _ (m env) ⟨fun w e => @sat _ (asB w.2) ⟨fun b => @sel b ⟨@wp _ (k e) q1 x1⟩ ⟨q1.run (false, .bl false) e⟩⟩⟩ x1 := by
  try rw [wp_eq]
  try rw [wpC_eq]
  exact M.w_AndV
namespace M
theorem w_OrV {m k : EDen} : @wp _ (dOrV m k env) q1 x1 = @wp _ (m env) ⟨fun w e => @sat _ (asB w.2) ⟨fun b => @sel b ⟨q1.run (false, .bl true) e⟩ ⟨@wp _ (k e) q1 x1⟩⟩⟩ x1 := by
  unfold dOrV
  rw [w_bindE]
  congr
  funext w e
  obtain ⟨v, d⟩ := w
  cases d <;> try rfl
  rename_i b
  cases b <;> simp [asB, sat, sel, wp, dC]
end M
theorem w_OrV {m k : EDen} : @wp _ (dOrV m k env) q1 x1 = @wp _ (m env) ⟨fun w e => @sat _ (asB w.2) ⟨fun b => @sel b ⟨q1.run (false, .bl true) e⟩ ⟨@wp _ (k e) q1 x1⟩⟩⟩ x1 := by
  try rw [wp_eq]
  try rw [wpC_eq]
  exact M.w_OrV
namespace M
theorem w_NotV {m : EDen} : @wp _ (dNotV m env) q1 x1 = @wp _ (m env) ⟨fun w e => @sat _ (asB w.2) ⟨fun b => q1.run (false, .bl (!b)) e⟩⟩ x1 := by
  unfold dNotV
  rw [w_bindE]
  congr
  funext w e
  obtain ⟨v, d⟩ := w
  cases d <;> rfl
end M
theorem w_NotV {m : EDen} : @wp _ (dNotV m env) q1 x1 = @wp _ (m env) ⟨fun w e => @sat _ (asB w.2) ⟨fun b => q1.run (false, .bl (!b)) e⟩⟩ x1 := by
  try rw [wp_eq]
  try rw [wpC_eq]
  exact M.w_NotV
namespace M
theorem w_Tup {k : ADen} : @wp _ (dTup k env) q1 x1 = @wp _ (k env) ⟨fun ds e => ds.length ≤ sizeLine ∧ q1.run (false, .tup ds) e⟩ x1 := by
  unfold dTup
  cases k env with
  | ok ds e => simp only [wp_ite, wp_ok]
  | ex x e => rfl
  | st => rfl
end M
theorem w_Tup {k : ADen} : @wp _ (dTup k env) q1 x1 = @wp _ (k env) ⟨fun ds e => ds.length ≤ sizeLine ∧ q1.run (false, .tup ds) e⟩ x1 := by
  try rw [wp_eq]
  try rw [wpC_eq]
  exact M.w_Tup
namespace M
theorem w_Lst {k : ADen} : @wp _ (dLst k env) q1 x1 = @wp _ (k env) ⟨fun ds e => ds.length ≤ sizeLine ∧ q1.run (true, .lst ds) e⟩ x1 := by
  unfold dLst
  cases k env with
  | ok ds e => simp only [wp_ite, wp_ok]
  | ex x e => rfl
  | st => rfl
end M
theorem w_Lst {k : ADen} : @wp _ (dLst k env) q1 x1 = @wp _ (k env) ⟨fun ds e => ds.length ≤ sizeLine ∧ q1.run (true, .lst ds) e⟩ x1 := by
  try rw [wp_eq]
  try rw [wpC_eq]
  exact M.w_Lst
namespace M
theorem w_Slice {a : Opd} {lo hi : PDen} : @wp _ (dSlice a lo hi env) q1 x1 = @wp _ (evO a (fun x => evP lo fun l => evP hi fun u => fun env => match argDat env x with
  | some d => retO (sliceF d l u) env
  | none => .st) env) q1 x1 := rfl
end M
theorem w_Slice {a : Opd} {lo hi : PDen} : @wp _ (dSlice a lo hi env) q1 x1 = @wp _ (evO a (fun x => evP lo fun l => evP hi fun u => fun env => match argDat env x with
  | some d => retO (sliceF d l u) env
  | none => .st) env) q1 x1 := by
  try rw [wp_eq]
  try rw [wpC_eq]
  exact M.w_Slice
namespace M
theorem w_SliceM {x : Arg} {l u : Option Int} : @wp _ (match argDat env x with
  | some d => retO (sliceF d l u) env
  | none => .st) q1 x1 = @sat _ (argDat env x) ⟨fun d => @sat _ (sliceF d l u) ⟨fun w => q1.run w env⟩⟩ := by
  cases argDat env x <;> simp only [w_retO, sat_some, sat_none, wp_st]
end M
theorem w_SliceM {x : Arg} {l u : Option Int} : @wp _ (match argDat env x with
  | some d => retO (sliceF d l u) env
  | none => .st) q1 x1 = @sat _ (argDat env x) ⟨fun d => @sat _ (sliceF d l u) ⟨fun w => q1.run w env⟩⟩ := by
  try rw [wp_eq]
  try rw [wpC_eq]
  exact M.w_SliceM
namespace M
theorem w_evPn {k : Option Int → EDen} : @wp _ (evP none k env) q1 x1 = @wp _ (k none env) q1 x1 := rfl
end M
theorem w_evPn {k : Option Int → EDen} : @wp _ (evP none k env) q1 x1 = @wp _ (k none env) q1 x1 := by
  try rw [wp_eq]
  try rw [wpC_eq]
  exact M.w_evPn
def asI : D → Option Int
  | .int i => some i
  | _ => none
namespace M
theorem w_evPs {m : EDen} {k : Option Int → EDen} : @wp _ (evP (some m) k env) q1 x1 = @wp _ (m env) ⟨fun w e => @sat _ (asI w.2) ⟨fun i => @wp _ (k (some i) e) q1 x1⟩⟩ x1 := by
  show @wp _ (bindE m (intK k) env) q1 x1 = _
  rw [w_bindE]
  congr
  funext w e
  obtain ⟨v, d⟩ := w
  cases d <;> rfl
end M
theorem w_evPs {m : EDen} {k : Option Int → EDen} : @wp _ (evP (some m) k env) q1 x1 = @wp _ (m env) ⟨fun w e => @sat _ (asI w.2) ⟨fun i => @wp _ (k (some i) e) q1 x1⟩⟩ x1 := by
  try rw [wp_eq]
  try rw [wpC_eq]
  exact M.w_evPs
namespace M
theorem w_PN {f : List D → Option W} {m : ArgDen} : @wp _ (dPN f m env) q1 x1 = @wp _ (m env) ⟨fun as e => @sat _ (argsD e as) ⟨fun ds => @sat _ (f (ds.map (·.2))) ⟨fun w => q1.run w e⟩⟩⟩ x1 := by
  unfold dPN
  cases m env with
  | ok as e =>
    simp only [wp_ok]
    cases argsD e as <;> simp only [w_retO, sat_some, sat_none, wp_st]
  | ex x e => rfl
  | st => rfl
end M
theorem w_PN {f : List D → Option W} {m : ArgDen} : @wp _ (dPN f m env) q1 x1 = @wp _ (m env) ⟨fun as e => @sat _ (argsD e as) ⟨fun ds => @sat _ (f (ds.map (·.2))) ⟨fun w => q1.run w e⟩⟩⟩ x1 := by
  try rw [wp_eq]
  try rw [wpC_eq]
  exact M.w_PN
namespace M
theorem w_Call {o : List FArg → FOut} {m : ArgDen} : @wp _ (dCall o m env) q1 x1 = @wp _ (m env) ⟨fun as e => (lends as).Nodup ∧ @sat _ (argsD e as) ⟨fun ds => @wpC (o ds) ⟨fun w ios => q1.run w (putIos (lends as) ios e)⟩ ⟨fun x ios => x1.run x (putIos (lends as) ios e)⟩⟩⟩ x1 := by
  unfold dCall
  cases m env with
  | ok as e =>
    simp only [wp_ok, wp_ite]
    congr 1
    cases argsD e as with
    | none => rfl
    | some ds =>
      simp only [sat_some]
      cases o ds <;> rfl
  | ex x e => rfl
  | st => rfl
end M
theorem w_Call {o : List FArg → FOut} {m : ArgDen} : @wp _ (dCall o m env) q1 x1 = @wp _ (m env) ⟨fun as e => (lends as).Nodup ∧ @sat _ (argsD e as) ⟨fun ds => @wpC (o ds) ⟨fun w ios => q1.run w (putIos (lends as) ios e)⟩ ⟨fun x ios => x1.run x (putIos (lends as) ios e)⟩⟩⟩ x1 := by
  try rw [wp_eq]
  try rw [wpC_eq]
  exact M.w_Call
namespace M
theorem w_Make {c : Str} {o : List FArg → FOut} {m : ArgDen} : @wp _ (dMake c o m env) q1 x1 = @wp _ (dCall (makeO c o) m env) q1 x1 := rfl
end M
theorem w_Make {c : Str} {o : List FArg → FOut} {m : ArgDen} : @wp _ (dMake c o m env) q1 x1 = @wp _ (dCall (makeO c o) m env) q1 x1 := by
  try rw [wp_eq]
  try rw [wpC_eq]
  exact M.w_Make
class Kn where
  run : D → List D → Prop
/-- the instance is made -/
def newO (w : W) (ios : List D) [k : Kn] : Prop := match w, ios with
  | (_, .non), d :: r => k.run d r
  | _, _ => False
theorem newO_ok {b : Bool} {d : D} {r : List D} {k : Kn} : @newO (b, .non) (d :: r) k = k.run d r := rfl
def newX (ios : List D) [k : Ks (List D)] : Prop := match ios with
  | _ :: r => k.run r
  | [] => False
theorem newX_ok {d : D} {r : List D} {k : Ks (List D)} : @newX (d :: r) k = k.run r := rfl
namespace M
theorem w_makeO {c : Str} {o : List FArg → FOut} {ds : List FArg} {q1 : Kc W} {x1 : Kc Ex} : @wpC (makeO c o ds) q1 x1 = @wpC (o ((true, .obj c []) :: ds)) ⟨fun w ios => @newO w ios ⟨fun d r => q1.run (true, d) r⟩⟩ ⟨fun x ios => @newX ios ⟨fun r => x1.run x r⟩⟩ := by
  unfold makeO
  cases o ((true, .obj c []) :: ds) with
  | ret w ios =>
    obtain ⟨v, d⟩ := w
    cases d <;> cases ios <;> rfl
  | ex x ios => cases ios <;> rfl
  | st => rfl
end M
theorem w_makeO {c : Str} {o : List FArg → FOut} {ds : List FArg} {q1 : Kc W} {x1 : Kc Ex} : @wpC (makeO c o ds) q1 x1 = @wpC (o ((true, .obj c []) :: ds)) ⟨fun w ios => @newO w ios ⟨fun d r => q1.run (true, d) r⟩⟩ ⟨fun x ios => @newX ios ⟨fun r => x1.run x r⟩⟩ := by
  try rw [wp_eq]
  try rw [wpC_eq]
  exact M.w_makeO
def asObj : D → Option (Str × List (Str × D))
  | .obj c fs => some (c, fs)
  | _ => none
namespace M
theorem w_Meth {name : Str} {o : MTab} {mo : EDen} {m : ArgDen} : @wp _ (dMeth name o mo m env) q1 x1 = @wp _ (mo env) ⟨fun w e => @sat _ (asObj w.2) ⟨fun p => p.2.lookup name = none ∧ @sat _ (o p.1) ⟨fun q => @wp _ (dCall q.2 (rDfl (rSelf (.val w.2) m) q.1) e) q1 x1⟩⟩⟩ x1 := by
  unfold dMeth
  rw [w_bindE]
  congr
  funext w e
  obtain ⟨v, d⟩ := w
  cases d <;> try rfl
  rename_i c fs
  simp only [asObj, sat_some]
  by_cases h : fs.lookup name = none
  · rw [if_pos h]
    simp only [h, true_and]
    cases o c with
    | none => rfl
    | some q => obtain ⟨a, b⟩ := q; rfl
  · rw [if_neg h]
    simp only [h, false_and]
    rfl
end M
theorem w_Meth {name : Str} {o : MTab} {mo : EDen} {m : ArgDen} : @wp _ (dMeth name o mo m env) q1 x1 = @wp _ (mo env) ⟨fun w e => @sat _ (asObj w.2) ⟨fun p => p.2.lookup name = none ∧ @sat _ (o p.1) ⟨fun q => @wp _ (dCall q.2 (rDfl (rSelf (.val w.2) m) q.1) e) q1 x1⟩⟩⟩ x1 := by
  try rw [wp_eq]
  try rw [wpC_eq]
  exact M.w_Meth
namespace M
theorem w_Str {tab : MTab} {m : EDen} : @wp _ (dStr tab m env) q1 x1 = @wp _ (m env) ⟨fun w e => match w.2 with
  | .obj c fs => @wp _ (dSp tab postStr (.obj c fs) [] e) q1 x1
  | d => @sat _ (strF [d]) ⟨fun w => q1.run w e⟩⟩ x1 := by
  unfold dStr
  rw [w_bindE]
  congr
  funext w e
  obtain ⟨v, d⟩ := w
  cases d <;> first | rfl | exact w_retO
end M
theorem w_Str {tab : MTab} {m : EDen} : @wp _ (dStr tab m env) q1 x1 = @wp _ (m env) ⟨fun w e => match w.2 with
  | .obj c fs => @wp _ (dSp tab postStr (.obj c fs) [] e) q1 x1
  | d => @sat _ (strF [d]) ⟨fun w => q1.run w e⟩⟩ x1 := by
  try rw [wp_eq]
  try rw [wpC_eq]
  exact M.w_Str
namespace M
theorem w_Len {tab : MTab} {a : Opd} : @wp _ (dLen tab a env) q1 x1 = @wp _ (evO a (lenK tab) env) q1 x1 := rfl
end M
theorem w_Len {tab : MTab} {a : Opd} : @wp _ (dLen tab a env) q1 x1 = @wp _ (evO a (lenK tab) env) q1 x1 := by
  try rw [wp_eq]
  try rw [wpC_eq]
  exact M.w_Len
namespace M
theorem w_lenK {tab : MTab} {x : DL.Arg} : @wp _ (lenK tab x env) q1 x1 = @selO _ (objOf x (argDat env x)) ⟨fun p => @wp _ (dSp tab postLen (.obj p.1 p.2) [] env) q1 x1⟩ ⟨@sat _ (argDat env x) ⟨fun d => @sat _ (lenF [d]) ⟨fun w => q1.run w env⟩⟩⟩ := by
  unfold lenK
  cases objOf x (argDat env x) with
  | some p => rfl
  | none =>
    rw [selO_none]
    cases argDat env x with
    | none => rfl
    | some d => simp only [w_retO, sat_some]
end M
theorem w_lenK {tab : MTab} {x : DL.Arg} : @wp _ (lenK tab x env) q1 x1 = @selO _ (objOf x (argDat env x)) ⟨fun p => @wp _ (dSp tab postLen (.obj p.1 p.2) [] env) q1 x1⟩ ⟨@sat _ (argDat env x) ⟨fun d => @sat _ (lenF [d]) ⟨fun w => q1.run w env⟩⟩⟩ := by
  try rw [wp_eq]
  try rw [wpC_eq]
  exact M.w_lenK
def asNil : List D → Option Unit
  | [] => some ()
  | _ => none
namespace M
theorem w_Sp {tab : MTab} {post : D → Option W} {c : Str} {fs : List (Str × D)} {ds : List D} {f : List FArg → FOut} (h : tab c = some ([], f)) : @wp _ (dSp tab post (.obj c fs) ds env) q1 x1 = @wpC (f ((false, .obj c fs) :: ds.map fun d => (false, d))) ⟨fun w ios => @sat _ (asNil ios) ⟨fun _ => @sat _ (post w.2) ⟨fun w => q1.run w env⟩⟩⟩ ⟨fun x ios => @sat _ (asNil ios) ⟨fun _ => x1.run x env⟩⟩ := by
  unfold dSp
  simp only [h]
  cases f ((false, .obj c fs) :: ds.map fun d => (false, d)) with
  | ret w ios => cases ios <;> first | rfl | (simp only [wpC, asNil, sat_some, w_retO])
  | ex x ios => cases ios <;> rfl
  | st => rfl
end M
theorem w_Sp {tab : MTab} {post : D → Option W} {c : Str} {fs : List (Str × D)} {ds : List D} {f : List FArg → FOut} (h : tab c = some ([], f)) : @wp _ (dSp tab post (.obj c fs) ds env) q1 x1 = @wpC (f ((false, .obj c fs) :: ds.map fun d => (false, d))) ⟨fun w ios => @sat _ (asNil ios) ⟨fun _ => @sat _ (post w.2) ⟨fun w => q1.run w env⟩⟩⟩ ⟨fun x ios => @sat _ (asNil ios) ⟨fun _ => x1.run x env⟩⟩ := by
  try rw [wp_eq]
  try rw [wpC_eq]
  exact M.w_Sp h
namespace M
theorem w_Fmt {m : EDen} : @wp _ (dFmt m env) q1 x1 = @wp _ (m env) ⟨fun w e => @sat _ (fmtF w.2) ⟨fun w => q1.run w e⟩⟩ x1 := by
  unfold dFmt
  rw [w_bindE]
  congr
  funext w e
  exact w_retO
end M
theorem w_Fmt {m : EDen} : @wp _ (dFmt m env) q1 x1 = @wp _ (m env) ⟨fun w e => @sat _ (fmtF w.2) ⟨fun w => q1.run w e⟩⟩ x1 := by
  try rw [wp_eq]
  try rw [wpC_eq]
  exact M.w_Fmt
def asS : D → Option Str
  | .str y => some y
  | _ => none
namespace M
theorem w_Join0 {acc : Str} : @wp _ (joinGo [] acc env) q1 x1 = q1.run (false, .str acc) env := rfl
end M
theorem w_Join0 {acc : Str} : @wp _ (joinGo [] acc env) q1 x1 = q1.run (false, .str acc) env := by
  try rw [wp_eq]
  try rw [wpC_eq]
  exact M.w_Join0
namespace M
theorem w_Join {m : EDen} {ms : List EDen} {acc : Str} : @wp _ (joinGo (m :: ms) acc env) q1 x1 = @wp _ (m env) ⟨fun w e => @sat _ (asS w.2) ⟨fun y => (acc ++ y).length ≤ sizeLine ∧ @wp _ (joinGo ms (acc ++ y) e) q1 x1⟩⟩ x1 := by
  show @wp _ (bindE m _ env) q1 x1 = _
  rw [w_bindE]
  congr
  funext w e
  obtain ⟨v, d⟩ := w
  cases d <;> try rfl
  rename_i y
  simp only [asS, sat_some]
  by_cases h : (acc ++ y).length ≤ sizeLine
  · rw [if_pos h]
    simp [h]
  · rw [if_neg h]
    simp only [h, false_and]
    rfl
end M
theorem w_Join {m : EDen} {ms : List EDen} {acc : Str} : @wp _ (joinGo (m :: ms) acc env) q1 x1 = @wp _ (m env) ⟨fun w e => @sat _ (asS w.2) ⟨fun y => (acc ++ y).length ≤ sizeLine ∧ @wp _ (joinGo ms (acc ++ y) e) q1 x1⟩⟩ x1 := by
  try rw [wp_eq]
  try rw [wpC_eq]
  exact M.w_Join
namespace M
theorem w_Xf {ok : Str → Bool} {i : Nat} {f : Str} {m : EDen} : @wp _ (dXf ok i f m env) q1 x1 = match env[i]? with
  | some (.xc x) => ok x.c = true ∧ @sat _ (x.fs.lookup f) ⟨fun d => q1.run (false, d) env⟩
  | _ => @wp _ (m env) q1 x1 := by
  unfold dXf
  cases env[i]? with
  | none => rfl
  | some s =>
    cases s <;> try rfl
    rename_i x
    simp only [wp_ite]
    congr 1
    cases x.fs.lookup f <;> rfl
end M
theorem w_Xf {ok : Str → Bool} {i : Nat} {f : Str} {m : EDen} : @wp _ (dXf ok i f m env) q1 x1 = match env[i]? with
  | some (.xc x) => ok x.c = true ∧ @sat _ (x.fs.lookup f) ⟨fun d => q1.run (false, d) env⟩
  | _ => @wp _ (m env) q1 x1 := by
  try rw [wp_eq]
  try rw [wpC_eq]
  exact M.w_Xf
namespace M
theorem w_Xi {ok : Str → Bool} {tab : CRef → CRef → Option Bool} {i : Nat} {cs : List CRef} {m : EDen} : @wp _ (dXi ok tab i cs m env) q1 x1 = match env[i]? with
  | some (.xc x) => ok x.c = true ∧ @sat _ (anyC tab (.own x.c) cs) ⟨fun b => q1.run (false, .bl b) env⟩
  | _ => @wp _ (m env) q1 x1 := by
  unfold dXi
  cases env[i]? with
  | none => rfl
  | some s =>
    cases s <;> try rfl
    rename_i x
    simp only [wp_ite]
    congr 1
    cases anyC tab (.own x.c) cs <;> rfl
end M
theorem w_Xi {ok : Str → Bool} {tab : CRef → CRef → Option Bool} {i : Nat} {cs : List CRef} {m : EDen} : @wp _ (dXi ok tab i cs m env) q1 x1 = match env[i]? with
  | some (.xc x) => ok x.c = true ∧ @sat _ (anyC tab (.own x.c) cs) ⟨fun b => q1.run (false, .bl b) env⟩
  | _ => @wp _ (m env) q1 x1 := by
  try rw [wp_eq]
  try rw [wpC_eq]
  exact M.w_Xi
namespace M
theorem w_Lc {mi : IDen} {g : GDen} {tt : TDen} {el : EDen} {own : List Nat} : @wp _ (dLc mi g tt el own env) q1 x1 = @wp _ (mi env) ⟨fun ds e => ownFree e own = true ∧ @wp _ (lcLoop g tt el own ds [] (wipeE e own)) ⟨fun acc e2 => q1.run (true, .lst acc) (backE e e2 own)⟩ ⟨fun _ _ => False⟩⟩ x1 := by
  unfold dLc
  cases mi env with
  | ok ds e =>
    simp only [wp_ok, wp_ite]
    congr 1
    cases lcLoop g tt el own ds [] (wipeE e own) <;> rfl
  | ex x e => rfl
  | st => rfl
end M
theorem w_Lc {mi : IDen} {g : GDen} {tt : TDen} {el : EDen} {own : List Nat} : @wp _ (dLc mi g tt el own env) q1 x1 = @wp _ (mi env) ⟨fun ds e => ownFree e own = true ∧ @wp _ (lcLoop g tt el own ds [] (wipeE e own)) ⟨fun acc e2 => q1.run (true, .lst acc) (backE e e2 own)⟩ ⟨fun _ _ => False⟩⟩ x1 := by
  try rw [wp_eq]
  try rw [wpC_eq]
  exact M.w_Lc
end
/-! ### tests -/
section
variable {env : SEnv} {q1 : Kt Bool} {x1 : Kt Ex}
namespace M
theorem w_Tru {m : EDen} : @wp _ (dTru m env) q1 x1 = @wp _ (m env) ⟨fun w e => @sat _ (tru w.2) ⟨fun b => q1.run b e⟩⟩ x1 := by
  unfold dTru bindT
  cases m env with
  | ok w e =>
    simp only [wp_ok, retB]
    cases tru w.2 <;> rfl
  | ex x e => rfl
  | st => rfl
end M
theorem w_Tru {m : EDen} : @wp _ (dTru m env) q1 x1 = @wp _ (m env) ⟨fun w e => @sat _ (tru w.2) ⟨fun b => q1.run b e⟩⟩ x1 := by
  try rw [wp_eq]
  try rw [wpC_eq]
  exact M.w_Tru
namespace M
theorem w_Test {m : EDen} : @wp _ (dTest m env) q1 x1 = @wp _ (m env) ⟨fun w e => @sat _ (asB w.2) ⟨fun b => q1.run b e⟩⟩ x1 := by
  unfold dTest bindT
  cases m env with
  | ok w e =>
    obtain ⟨v, d⟩ := w
    cases d <;> rfl
  | ex x e => rfl
  | st => rfl
end M
theorem w_Test {m : EDen} : @wp _ (dTest m env) q1 x1 = @wp _ (m env) ⟨fun w e => @sat _ (asB w.2) ⟨fun b => q1.run b e⟩⟩ x1 := by
  try rw [wp_eq]
  try rw [wpC_eq]
  exact M.w_Test
namespace M
theorem w_And {m k : TDen} : @wp _ (dAnd m k env) q1 x1 = @wp _ (m env) ⟨fun b e => @sel b ⟨@wp _ (k e) q1 x1⟩ ⟨q1.run false e⟩⟩ x1 := by
  unfold dAnd
  cases m env with
  | ok b e => cases b <;> simp [wp, sel]
  | ex x e => rfl
  | st => rfl
end M
theorem w_And {m k : TDen} : @wp _ (dAnd m k env) q1 x1 = @wp _ (m env) ⟨fun b e => @sel b ⟨@wp _ (k e) q1 x1⟩ ⟨q1.run false e⟩⟩ x1 := by
  try rw [wp_eq]
  try rw [wpC_eq]
  exact M.w_And
namespace M
theorem w_Or {m k : TDen} : @wp _ (dOr m k env) q1 x1 = @wp _ (m env) ⟨fun b e => @sel b ⟨q1.run true e⟩ ⟨@wp _ (k e) q1 x1⟩⟩ x1 := by
  unfold dOr
  cases m env with
  | ok b e => cases b <;> simp [wp, sel]
  | ex x e => rfl
  | st => rfl
end M
theorem w_Or {m k : TDen} : @wp _ (dOr m k env) q1 x1 = @wp _ (m env) ⟨fun b e => @sel b ⟨q1.run true e⟩ ⟨@wp _ (k e) q1 x1⟩⟩ x1 := by
  try rw [wp_eq]
  try rw [wpC_eq]
  exact M.w_Or
namespace M
theorem w_Not {m : TDen} : @wp _ (dNot m env) q1 x1 = @wp _ (m env) ⟨fun b e => q1.run (!b) e⟩ x1 := by
  unfold dNot
  cases m env <;> rfl
end M
theorem w_Not {m : TDen} : @wp _ (dNot m env) q1 x1 = @wp _ (m env) ⟨fun b e => q1.run (!b) e⟩ x1 := by
  try rw [wp_eq]
  try rw [wpC_eq]
  exact M.w_Not
end
/-! ### arguments, iterables -/
section
variable {env : SEnv} {x1 : Kt Ex}
namespace M
theorem w_aNil {q1 : Kt (List D)} : @wp _ (aNil env) q1 x1 = q1.run [] env := rfl
end M
theorem w_aNil {q1 : Kt (List D)} : @wp _ (aNil env) q1 x1 = q1.run [] env := by
  try rw [wp_eq]
  try rw [wpC_eq]
  exact M.w_aNil
namespace M
theorem w_aCons {q1 : Kt (List D)} {m : EDen} {k : ADen} : @wp _ (aCons m k env) q1 x1 = @wp _ (m env) ⟨fun w e => @wp _ (k e) ⟨fun ds e2 => q1.run (w.2 :: ds) e2⟩ x1⟩ x1 := by
  unfold aCons
  cases m env with
  | ok w e => simp only [wp_ok]; cases k e <;> rfl
  | ex x e => rfl
  | st => rfl
end M
theorem w_aCons {q1 : Kt (List D)} {m : EDen} {k : ADen} : @wp _ (aCons m k env) q1 x1 = @wp _ (m env) ⟨fun w e => @wp _ (k e) ⟨fun ds e2 => q1.run (w.2 :: ds) e2⟩ x1⟩ x1 := by
  try rw [wp_eq]
  try rw [wpC_eq]
  exact M.w_aCons
namespace M
theorem w_rNil {q1 : Kt (List DL.Arg)} : @wp _ (rNil env) q1 x1 = q1.run [] env := rfl
end M
theorem w_rNil {q1 : Kt (List DL.Arg)} : @wp _ (rNil env) q1 x1 = q1.run [] env := by
  try rw [wp_eq]
  try rw [wpC_eq]
  exact M.w_rNil
namespace M
theorem w_rVal {q1 : Kt (List DL.Arg)} {m : EDen} {k : ArgDen} : @wp _ (rVal m k env) q1 x1 = @wp _ (m env) ⟨fun w e => @wp _ (k e) ⟨fun as e2 => q1.run (.val w.2 :: as) e2⟩ x1⟩ x1 := by
  unfold rVal
  cases m env with
  | ok w e => simp only [wp_ok]; cases k e <;> rfl
  | ex x e => rfl
  | st => rfl
end M
theorem w_rVal {q1 : Kt (List DL.Arg)} {m : EDen} {k : ArgDen} : @wp _ (rVal m k env) q1 x1 = @wp _ (m env) ⟨fun w e => @wp _ (k e) ⟨fun as e2 => q1.run (.val w.2 :: as) e2⟩ x1⟩ x1 := by
  try rw [wp_eq]
  try rw [wpC_eq]
  exact M.w_rVal
namespace M
theorem w_rLend {q1 : Kt (List DL.Arg)} {i : Nat} {k : ArgDen} : @wp _ (rLend i k env) q1 x1 = @sat _ (env[i]?.bind slotData) ⟨fun _ => @wp _ (k env) ⟨fun as e2 => q1.run (.lend i :: as) e2⟩ x1⟩ := by
  unfold rLend
  cases env[i]?.bind slotData with
  | none => rfl
  | some d => simp only [sat_some]; cases k env <;> rfl
end M
theorem w_rLend {q1 : Kt (List DL.Arg)} {i : Nat} {k : ArgDen} : @wp _ (rLend i k env) q1 x1 = @sat _ (env[i]?.bind slotData) ⟨fun _ => @wp _ (k env) ⟨fun as e2 => q1.run (.lend i :: as) e2⟩ x1⟩ := by
  try rw [wp_eq]
  try rw [wpC_eq]
  exact M.w_rLend
namespace M
theorem w_rPk {q1 : Kt (List DL.Arg)} {i : Nat} {k : ArgDen} : @wp _ (rPk i k env) q1 x1 = match env[i]? with
  | some (.fz d) => @wp _ (k env) ⟨fun as e2 => q1.run (.val d :: as) e2⟩ x1
  | some (.ow _) => @wp _ (k env) ⟨fun as e2 => q1.run (.lend i :: as) e2⟩ x1
  | some (.io _) => @wp _ (k env) ⟨fun as e2 => q1.run (.lend i :: as) e2⟩ x1
  | _ => False := by
  unfold rPk
  cases h : env[i]? with
  | none => rfl
  | some s =>
    cases s with
    | fz d => simp only []; cases k env <;> rfl
    | ow d => simp only [w_rLend, h]; rfl
    | io d => simp only [w_rLend, h]; rfl
    | un => rfl
    | xc _ => rfl
end M
theorem w_rPk {q1 : Kt (List DL.Arg)} {i : Nat} {k : ArgDen} : @wp _ (rPk i k env) q1 x1 = match env[i]? with
  | some (.fz d) => @wp _ (k env) ⟨fun as e2 => q1.run (.val d :: as) e2⟩ x1
  | some (.ow _) => @wp _ (k env) ⟨fun as e2 => q1.run (.lend i :: as) e2⟩ x1
  | some (.io _) => @wp _ (k env) ⟨fun as e2 => q1.run (.lend i :: as) e2⟩ x1
  | _ => False := by
  try rw [wp_eq]
  try rw [wpC_eq]
  exact M.w_rPk
namespace M
theorem w_rDfl {q1 : Kt (List DL.Arg)} {m : ArgDen} {dds : List D} : @wp _ (rDfl m dds env) q1 x1 = @wp _ (m env) ⟨fun as e => q1.run (as ++ dds.map .val) e⟩ x1 := by
  unfold rDfl
  cases m env <;> rfl
end M
theorem w_rDfl {q1 : Kt (List DL.Arg)} {m : ArgDen} {dds : List D} : @wp _ (rDfl m dds env) q1 x1 = @wp _ (m env) ⟨fun as e => q1.run (as ++ dds.map .val) e⟩ x1 := by
  try rw [wp_eq]
  try rw [wpC_eq]
  exact M.w_rDfl
namespace M
theorem w_rSelf {q1 : Kt (List DL.Arg)} {m : ArgDen} {a : DL.Arg} : @wp _ (rSelf a m env) q1 x1 = @wp _ (m env) ⟨fun as e => q1.run (a :: as) e⟩ x1 := by
  unfold rSelf
  cases m env <;> rfl
end M
theorem w_rSelf {q1 : Kt (List DL.Arg)} {m : ArgDen} {a : DL.Arg} : @wp _ (rSelf a m env) q1 x1 = @wp _ (m env) ⟨fun as e => q1.run (a :: as) e⟩ x1 := by
  try rw [wp_eq]
  try rw [wpC_eq]
  exact M.w_rSelf
namespace M
theorem w_iArgs {q1 : Kt (List D)} {f : List D → Option (List D)} {k : ADen} : @wp _ (iArgs f k env) q1 x1 = @wp _ (k env) ⟨fun as e => @sat _ (f as) ⟨fun ds => q1.run ds e⟩⟩ x1 := by
  unfold iArgs
  cases k env with
  | ok as e => simp only [wp_ok]; cases f as <;> rfl
  | ex x e => rfl
  | st => rfl
end M
theorem w_iArgs {q1 : Kt (List D)} {f : List D → Option (List D)} {k : ADen} : @wp _ (iArgs f k env) q1 x1 = @wp _ (k env) ⟨fun as e => @sat _ (f as) ⟨fun ds => q1.run ds e⟩⟩ x1 := by
  try rw [wp_eq]
  try rw [wpC_eq]
  exact M.w_iArgs
namespace M
theorem w_iSeq {q1 : Kt (List D)} {m : EDen} : @wp _ (iSeq m env) q1 x1 = @wp _ (m env) ⟨fun w e => @sat _ (seqOf w.2) ⟨fun ds => q1.run ds e⟩⟩ x1 := by
  unfold iSeq
  cases m env with
  | ok w e => simp only [wp_ok]; cases seqOf w.2 <;> rfl
  | ex x e => rfl
  | st => rfl
end M
theorem w_iSeq {q1 : Kt (List D)} {m : EDen} : @wp _ (iSeq m env) q1 x1 = @wp _ (m env) ⟨fun w e => @sat _ (seqOf w.2) ⟨fun ds => q1.run ds e⟩⟩ x1 := by
  try rw [wp_eq]
  try rw [wpC_eq]
  exact M.w_iSeq
end
/-! ### statements -/
section
variable {env : SEnv} {q1 : Kt Fl} {x1 : Kt Ex}
/-- the next statement comes -/
def thenS (k : SEnv → Prop) (q : Kt Fl) : Fl → SEnv → Prop
  | .nx, e => k e
  | f, e => q.run f e
namespace M
theorem w_Seq {m k : SDen} : @wp _ (sSeq m k env) q1 x1 = @wp _ (m env) ⟨thenS (fun e => @wp _ (k e) q1 x1) q1⟩ x1 := by
  unfold sSeq
  cases m env with
  | ok f e => cases f <;> rfl
  | ex x e => rfl
  | st => rfl
end M
theorem w_Seq {m k : SDen} : @wp _ (sSeq m k env) q1 x1 = @wp _ (m env) ⟨thenS (fun e => @wp _ (k e) q1 x1) q1⟩ x1 := by
  try rw [wp_eq]
  try rw [wpC_eq]
  exact M.w_Seq
theorem thenS_nx {k : SEnv → Prop} {e : SEnv} : thenS k q1 .nx e = k e := rfl
theorem thenS_rt {k : SEnv → Prop} {e : SEnv} {w : W} : thenS k q1 (.rt w) e = q1.run (.rt w) e := rfl
theorem thenS_bk {k : SEnv → Prop} {e : SEnv} : thenS k q1 .bk e = q1.run .bk e := rfl
theorem thenS_ct {k : SEnv → Prop} {e : SEnv} : thenS k q1 .ct e = q1.run .ct e := rfl
namespace M
theorem w_Nx : @wp _ (sNx env) q1 x1 = q1.run .nx env := rfl
end M
theorem w_Nx : @wp _ (sNx env) q1 x1 = q1.run .nx env := by
  try rw [wp_eq]
  try rw [wpC_eq]
  exact M.w_Nx
namespace M
theorem w_bindS {m : EDen} {k : W → SDen} : @wp _ (bindS m k env) q1 x1 = @wp _ (m env) ⟨fun w e => @wp _ (k w e) q1 x1⟩ x1 := by
  unfold bindS
  cases m env <;> rfl
end M
theorem w_bindS {m : EDen} {k : W → SDen} : @wp _ (bindS m k env) q1 x1 = @wp _ (m env) ⟨fun w e => @wp _ (k w e) q1 x1⟩ x1 := by
  try rw [wp_eq]
  try rw [wpC_eq]
  exact M.w_bindS
namespace M
theorem w_Ret {m : EDen} : @wp _ (sRet m env) q1 x1 = @wp _ (m env) ⟨fun w e => q1.run (.rt w) e⟩ x1 := by
  unfold sRet
  rw [w_bindS]
  rfl
end M
theorem w_Ret {m : EDen} : @wp _ (sRet m env) q1 x1 = @wp _ (m env) ⟨fun w e => q1.run (.rt w) e⟩ x1 := by
  try rw [wp_eq]
  try rw [wpC_eq]
  exact M.w_Ret
namespace M
theorem w_RetN : @wp _ (sRetN env) q1 x1 = q1.run (.rt (false, .non)) env := rfl
end M
theorem w_RetN : @wp _ (sRetN env) q1 x1 = q1.run (.rt (false, .non)) env := by
  try rw [wp_eq]
  try rw [wpC_eq]
  exact M.w_RetN
namespace M
theorem w_RetV {i : Nat} : @wp _ (sRetV i env) q1 x1 = match env[i]? with
  | some (.fz d) => q1.run (.rt (false, d)) env
  | some (.ow d) => q1.run (.rt (true, d)) (env.set i .un)
  | _ => False := by
  unfold sRetV
  cases env[i]? with
  | none => rfl
  | some s => cases s <;> rfl
end M
theorem w_RetV {i : Nat} : @wp _ (sRetV i env) q1 x1 = match env[i]? with
  | some (.fz d) => q1.run (.rt (false, d)) env
  | some (.ow d) => q1.run (.rt (true, d)) (env.set i .un)
  | _ => False := by
  try rw [wp_eq]
  try rw [wpC_eq]
  exact M.w_RetV
namespace M
theorem w_Expr {m : EDen} : @wp _ (sExpr m env) q1 x1 = @wp _ (m env) ⟨fun _ e => q1.run .nx e⟩ x1 := by
  unfold sExpr
  rw [w_bindS]
  rfl
end M
theorem w_Expr {m : EDen} : @wp _ (sExpr m env) q1 x1 = @wp _ (m env) ⟨fun _ e => q1.run .nx e⟩ x1 := by
  try rw [wp_eq]
  try rw [wpC_eq]
  exact M.w_Expr
namespace M
theorem w_nxO {o : Option SEnv} : @wp _ (nxO o) q1 x1 = @sat _ o ⟨fun e => q1.run .nx e⟩ := by cases o <;> rfl
end M
theorem w_nxO {o : Option SEnv} : @wp _ (nxO o) q1 x1 = @sat _ o ⟨fun e => q1.run .nx e⟩ := by
  try rw [wp_eq]
  try rw [wpC_eq]
  exact M.w_nxO
namespace M
theorem w_Asg {i : Nat} {m : EDen} : @wp _ (sAsg i m env) q1 x1 = @wp _ (m env) ⟨fun w e => @sat _ (putS i (slotOf w) e) ⟨fun e2 => q1.run .nx e2⟩⟩ x1 := by
  unfold sAsg
  rw [w_bindS]
  congr
  funext w e
  exact w_nxO
end M
theorem w_Asg {i : Nat} {m : EDen} : @wp _ (sAsg i m env) q1 x1 = @wp _ (m env) ⟨fun w e => @sat _ (putS i (slotOf w) e) ⟨fun e2 => q1.run .nx e2⟩⟩ x1 := by
  try rw [wp_eq]
  try rw [wpC_eq]
  exact M.w_Asg
namespace M
theorem w_If {c : TDen} {m k : SDen} : @wp _ (sIf c m k env) q1 x1 = @wp _ (c env) ⟨fun b e => @sel b ⟨@wp _ (m e) q1 x1⟩ ⟨@wp _ (k e) q1 x1⟩⟩ x1 := by
  unfold sIf
  cases c env with
  | ok b e => cases b <;> simp [wp, sel]
  | ex x e => rfl
  | st => rfl
end M
theorem w_If {c : TDen} {m k : SDen} : @wp _ (sIf c m k env) q1 x1 = @wp _ (c env) ⟨fun b e => @sel b ⟨@wp _ (m e) q1 x1⟩ ⟨@wp _ (k e) q1 x1⟩⟩ x1 := by
  try rw [wp_eq]
  try rw [wpC_eq]
  exact M.w_If
namespace M
theorem w_Unp {g : GDen} {m : EDen} : @wp _ (sUnp g m env) q1 x1 = @wp _ (m env) ⟨fun w e => @sat _ (g w.2 e) ⟨fun e2 => q1.run .nx e2⟩⟩ x1 := by
  unfold sUnp
  rw [w_bindS]
  congr
  funext w e
  exact w_nxO
end M
theorem w_Unp {g : GDen} {m : EDen} : @wp _ (sUnp g m env) q1 x1 = @wp _ (m env) ⟨fun w e => @sat _ (g w.2 e) ⟨fun e2 => q1.run .nx e2⟩⟩ x1 := by
  try rw [wp_eq]
  try rw [wpC_eq]
  exact M.w_Unp
namespace M
theorem w_mutS {i : Nat} {f : D → Option D} : @wp _ (mutS i f env) q1 x1 = @sat _ env[i]? ⟨fun s => @sat _ (slotData s) ⟨fun d => @sat _ (f d) ⟨fun d' => q1.run .nx (env.set i (setData d' s))⟩⟩⟩ := by
  unfold mutS
  cases env[i]? with
  | none => rfl
  | some s =>
    simp only [sat_some]
    cases slotData s with
    | none => rfl
    | some d =>
      simp only [sat_some, Option.bind_some]
      cases f d <;> rfl
end M
theorem w_mutS {i : Nat} {f : D → Option D} : @wp _ (mutS i f env) q1 x1 = @sat _ env[i]? ⟨fun s => @sat _ (slotData s) ⟨fun d => @sat _ (f d) ⟨fun d' => q1.run .nx (env.set i (setData d' s))⟩⟩⟩ := by
  try rw [wp_eq]
  try rw [wpC_eq]
  exact M.w_mutS
namespace M
theorem w_SetF {i : Nat} {ok : Str → Bool} {f : Str} {m : EDen} : @wp _ (sSetF i ok f m env) q1 x1 = @wp _ (m env) ⟨fun w e => @sat _ e[i]? ⟨fun s => @sat _ (slotData s) ⟨fun d => @sat _ (setF ok f w.2 d) ⟨fun d' => q1.run .nx (e.set i (setData d' s))⟩⟩⟩⟩ x1 := by
  unfold sSetF
  rw [w_bindS]
  congr
  funext w e
  exact w_mutS
end M
theorem w_SetF {i : Nat} {ok : Str → Bool} {f : Str} {m : EDen} : @wp _ (sSetF i ok f m env) q1 x1 = @wp _ (m env) ⟨fun w e => @sat _ e[i]? ⟨fun s => @sat _ (slotData s) ⟨fun d => @sat _ (setF ok f w.2 d) ⟨fun d' => q1.run .nx (e.set i (setData d' s))⟩⟩⟩⟩ x1 := by
  try rw [wp_eq]
  try rw [wpC_eq]
  exact M.w_SetF
namespace M
theorem w_App {i : Nat} {m : EDen} : @wp _ (sApp i m env) q1 x1 = (isLst env i = true ∧ @wp _ (m env) ⟨fun w e => @sat _ e[i]? ⟨fun s => @sat _ (slotData s) ⟨fun d => @sat _ (appF w.2 d) ⟨fun d' => q1.run .nx (e.set i (setData d' s))⟩⟩⟩⟩ x1) := by
  unfold sApp
  rw [wp_ite, w_bindS]
  congr
  funext w e
  exact w_mutS
end M
theorem w_App {i : Nat} {m : EDen} : @wp _ (sApp i m env) q1 x1 = (isLst env i = true ∧ @wp _ (m env) ⟨fun w e => @sat _ e[i]? ⟨fun s => @sat _ (slotData s) ⟨fun d => @sat _ (appF w.2 d) ⟨fun d' => q1.run .nx (e.set i (setData d' s))⟩⟩⟩⟩ x1) := by
  try rw [wp_eq]
  try rw [wpC_eq]
  exact M.w_App
namespace M
theorem w_Ix {i : Nat} {mk m : EDen} : @wp _ (sIx i mk m env) q1 x1 = @wp _ (m env) ⟨fun w e => isLst e i = true ∧ @wp _ (mk e) ⟨fun k e2 => @sat _ e2[i]? ⟨fun s => @sat _ (slotData s) ⟨fun d => @sat _ (setIx k.2 w.2 d) ⟨fun d' => q1.run .nx (e2.set i (setData d' s))⟩⟩⟩⟩ x1⟩ x1 := by
  unfold sIx
  rw [w_bindS]
  congr
  funext w e
  rw [wp_ite, w_bindS]
  congr
  funext k e2
  exact w_mutS
end M
theorem w_Ix {i : Nat} {mk m : EDen} : @wp _ (sIx i mk m env) q1 x1 = @wp _ (m env) ⟨fun w e => isLst e i = true ∧ @wp _ (mk e) ⟨fun k e2 => @sat _ e2[i]? ⟨fun s => @sat _ (slotData s) ⟨fun d => @sat _ (setIx k.2 w.2 d) ⟨fun d' => q1.run .nx (e2.set i (setData d' s))⟩⟩⟩⟩ x1⟩ x1 := by
  try rw [wp_eq]
  try rw [wpC_eq]
  exact M.w_Ix
namespace M
theorem w_Par2 {i j : Nat} {a b : EDen} : @wp _ (sPar2 i j (aCons a (aCons b aNil)) env) q1 x1 = @wp _ (a env) ⟨fun x e => @wp _ (b e) ⟨fun y e2 => @sat _ (putS i (.fz x.2) e2) ⟨fun e3 => @sat _ (putS j (.fz y.2) e3) ⟨fun e4 => q1.run .nx e4⟩⟩⟩ x1⟩ x1 := by
  unfold sPar2 aCons
  cases a env with
  | ok w e =>
    simp only [wp_ok]
    unfold aNil
    cases b e with
    | ok w2 e2 =>
      simp only [wp_ok]
      cases putS i (.fz w.2) e2 with
      | none => rfl
      | some e3 => simp only [sat_some, w_nxO]
    | ex x e => rfl
    | st => rfl
  | ex x e => rfl
  | st => rfl
end M
theorem w_Par2 {i j : Nat} {a b : EDen} : @wp _ (sPar2 i j (aCons a (aCons b aNil)) env) q1 x1 = @wp _ (a env) ⟨fun x e => @wp _ (b e) ⟨fun y e2 => @sat _ (putS i (.fz x.2) e2) ⟨fun e3 => @sat _ (putS j (.fz y.2) e3) ⟨fun e4 => q1.run .nx e4⟩⟩⟩ x1⟩ x1 := by
  try rw [wp_eq]
  try rw [wpC_eq]
  exact M.w_Par2
namespace M
theorem w_Raise {c f : Str} {m : EDen} : @wp _ (sRaise c f m env) q1 x1 = @wp _ (m env) ⟨fun w e => x1.run ⟨c, [(f, w.2)]⟩ e⟩ x1 := by
  unfold sRaise
  rw [w_bindS]
  rfl
end M
theorem w_Raise {c f : Str} {m : EDen} : @wp _ (sRaise c f m env) q1 x1 = @wp _ (m env) ⟨fun w e => x1.run ⟨c, [(f, w.2)]⟩ e⟩ x1 := by
  try rw [wp_eq]
  try rw [wpC_eq]
  exact M.w_Raise
namespace M
theorem w_Try {m h : SDen} {cat : Str → Option Bool} {i : Nat} : @wp _ (sTry m cat (some i) h env) q1 x1 = @wp _ (m env) q1 ⟨fun x e => @sat _ (cat x.c) ⟨fun b => @sel b ⟨@sat _ (putS i (.xc x) e) ⟨fun e2 => @wp _ (h e2) ⟨fun f e' => q1.run f (bareX i e')⟩ ⟨fun _ _ => False⟩⟩⟩ ⟨x1.run x e⟩⟩⟩ := by
  unfold sTry
  cases m env with
  | ok f e => rfl
  | st => rfl
  | ex x e =>
    simp only [wp_ex]
    cases cat x.c with
    | none => rfl
    | some b =>
      cases b with
      | false => simp only [sat_some, sel_false]; rfl
      | true =>
        simp only [sat_some, sel_true]
        cases putS i (.xc x) e with
        | none => rfl
        | some e2 =>
          simp only [sat_some]
          cases h e2 <;> rfl
end M
theorem w_Try {m h : SDen} {cat : Str → Option Bool} {i : Nat} : @wp _ (sTry m cat (some i) h env) q1 x1 = @wp _ (m env) q1 ⟨fun x e => @sat _ (cat x.c) ⟨fun b => @sel b ⟨@sat _ (putS i (.xc x) e) ⟨fun e2 => @wp _ (h e2) ⟨fun f e' => q1.run f (bareX i e')⟩ ⟨fun _ _ => False⟩⟩⟩ ⟨x1.run x e⟩⟩⟩ := by
  try rw [wp_eq]
  try rw [wpC_eq]
  exact M.w_Try
namespace M
theorem w_Try0 {m h : SDen} {cat : Str → Option Bool} : @wp _ (sTry m cat none h env) q1 x1 = @wp _ (m env) q1 ⟨fun x e => @sat _ (cat x.c) ⟨fun b => @sel b ⟨@wp _ (h e) ⟨fun f e' => q1.run f (e'.map clrX)⟩ ⟨fun _ _ => False⟩⟩ ⟨x1.run x e⟩⟩⟩ := by
  unfold sTry
  cases m env with
  | ok f e => rfl
  | st => rfl
  | ex x e =>
    simp only [wp_ex]
    cases cat x.c with
    | none => rfl
    | some b =>
      cases b with
      | false => simp only [sat_some, sel_false]; rfl
      | true =>
        simp only [sat_some, sel_true]
        cases h e <;> rfl
end M
theorem w_Try0 {m h : SDen} {cat : Str → Option Bool} : @wp _ (sTry m cat none h env) q1 x1 = @wp _ (m env) q1 ⟨fun x e => @sat _ (cat x.c) ⟨fun b => @sel b ⟨@wp _ (h e) ⟨fun f e' => q1.run f (e'.map clrX)⟩ ⟨fun _ _ => False⟩⟩ ⟨x1.run x e⟩⟩⟩ := by
  try rw [wp_eq]
  try rw [wpC_eq]
  exact M.w_Try0
namespace M
theorem w_For {m : IDen} {g : GDen} {b : SDen} : @wp _ (sFor m g b env) q1 x1 = @wp _ (m env) ⟨fun ds e => @wp _ (sLoop g b ds e) q1 x1⟩ x1 := by
  unfold sFor
  cases m env <;> rfl
end M
theorem w_For {m : IDen} {g : GDen} {b : SDen} : @wp _ (sFor m g b env) q1 x1 = @wp _ (m env) ⟨fun ds e => @wp _ (sLoop g b ds e) q1 x1⟩ x1 := by
  try rw [wp_eq]
  try rw [wpC_eq]
  exact M.w_For
namespace M
theorem w_Sup {c : Str} {o : List FArg → FOut} {m : ArgDen} {dds : List D} : @wp _ (sSup c o m dds env) q1 x1 = (isCls0 c env = true ∧ @wp _ (sExpr (dCall o (rDfl (rLend 0 m) dds)) env) q1 x1) := by
  unfold sSup
  rw [wp_ite]
end M
theorem w_Sup {c : Str} {o : List FArg → FOut} {m : ArgDen} {dds : List D} : @wp _ (sSup c o m dds env) q1 x1 = (isCls0 c env = true ∧ @wp _ (sExpr (dCall o (rDfl (rLend 0 m) dds)) env) q1 x1) := by
  try rw [wp_eq]
  try rw [wpC_eq]
  exact M.w_Sup
end
/-- the end of a body -/
def endQ (ds : List FArg) (q1 : Kc W) : Fl → SEnv → Prop
  | .nx, e => q1.run (false, .non) (iosOf ds e)
  | .rt w, e => q1.run w (iosOf ds e)
  | _, _ => False
theorem endQ_nx {ds : List FArg} {q1 : Kc W} {e : SEnv} : endQ ds q1 .nx e = q1.run (false, .non) (iosOf ds e) := rfl
theorem endQ_rt {ds : List FArg} {q1 : Kc W} {e : SEnv} {w : W} : endQ ds q1 (.rt w) e = q1.run w (iosOf ds e) := rfl
namespace M
theorem w_run {dens : Dens} {m : Nat} {id : FId} {n np : Nat} {den : Orc → SDen} (h : dens id = some (n, np, den)) {ds : List FArg} (hl : ds.length = np) {q1 : Kc W} {x1 : Kc Ex} :
    @wpC (callD dens (m + 1) id ds) q1 x1 = @wp _ (den (callD dens m) (startE n ds)) ⟨endQ ds q1⟩ ⟨fun x e => x1.run x (iosOf ds e)⟩ := by
  show @wpC (match dens id with
    | some (n, np, den) => runFn n np (den (callD dens m)) ds
    | none => .st) q1 x1 = _
  rw [h]
  show @wpC (runFn n np (den (callD dens m)) ds) q1 x1 = _
  unfold runFn
  rw [if_pos hl]
  cases den (callD dens m) (startE n ds) with
  | ok f e => cases f <;> rfl
  | ex x e => rfl
  | st => rfl
end M
theorem w_run {dens : Dens} {m : Nat} {id : FId} {n np : Nat} {den : Orc → SDen} (h : dens id = some (n, np, den)) {ds : List FArg} (hl : ds.length = np) {q1 : Kc W} {x1 : Kc Ex} :
    @wpC (callD dens (m + 1) id ds) q1 x1 = @wp _ (den (callD dens m) (startE n ds)) ⟨endQ ds q1⟩ ⟨fun x e => x1.run x (iosOf ds e)⟩ := by
  try rw [wp_eq]
  try rw [wpC_eq]
  exact M.w_run h hl
namespace M
theorem loop_inv {g : GDen} {b : SDen} {q1 : Kt Fl} {x1 : Kt Ex} (I : List D → SEnv → Prop) (h0 : ∀ e, I [] e → q1.run .nx e)
    (h1 : ∀ d r e, I (d :: r) e → @sat _ (g d e) ⟨fun e1 => @wp _ (b e1) ⟨fun f e2 => match f with
      | .nx => I r e2
      | .ct => I r e2
      | .bk => q1.run .nx e2
      | .rt w => q1.run (.rt w) e2⟩ x1⟩) : ∀ ds e, I ds e → @wp _ (sLoop g b ds e) q1 x1
  | [], e, h => h0 e h
  | d :: r, e, h => by
    have := h1 d r e h
    unfold sLoop
    cases hg : g d e with
    | none => rw [hg] at this; exact this
    | some e1 =>
      rw [hg] at this
      simp only [sat_some] at this
      simp only []
      cases hb : b e1 with
      | st => rw [hb] at this; exact this
      | ex x e2 => rw [hb] at this; exact this
      | ok f e2 =>
        rw [hb] at this
        cases f with
        | nx => exact loop_inv I h0 h1 r e2 this
        | ct => exact loop_inv I h0 h1 r e2 this
        | bk => exact this
        | rt w => exact this
end M
theorem loop_inv {g : GDen} {b : SDen} {q1 : Kt Fl} {x1 : Kt Ex} (I : List D → SEnv → Prop) (h0 : ∀ e, I [] e → q1.run .nx e)
    (h1 : ∀ d r e, I (d :: r) e → @sat _ (g d e) ⟨fun e1 => @wp _ (b e1) ⟨fun f e2 => match f with
      | .nx => I r e2
      | .ct => I r e2
      | .bk => q1.run .nx e2
      | .rt w => q1.run (.rt w) e2⟩ x1⟩) : ∀ ds e, I ds e → @wp _ (sLoop g b ds e) q1 x1 := by
  rw [wp_eq] at h1 ⊢
  exact M.loop_inv I h0 h1
namespace M
theorem lc_inv {g : GDen} {tt : TDen} {el : EDen} {own : List Nat} {q1 : Kt (List D)} (I : List D → List D → SEnv → Prop) (h0 : ∀ acc e, I [] acc e → q1.run acc e)
    (h1 : ∀ d r acc e, I (d :: r) acc e → @sat _ (g d e) ⟨fun e1 => @wp _ (tt e1) ⟨fun b e2 => @sel b ⟨@wp _ (el e2) ⟨fun w e3 => acc.length < sizeLine ∧ I r (acc ++ [w.2]) (wipeE e3 own)⟩ ⟨fun _ _ => False⟩⟩ ⟨I r acc (wipeE e2 own)⟩⟩ ⟨fun _ _ => False⟩⟩) :
    ∀ ds acc e, I ds acc e → @wp _ (lcLoop g tt el own ds acc e) q1 ⟨fun _ _ => False⟩
  | [], acc, e, h => h0 acc e h
  | d :: r, acc, e, h => by
    have := h1 d r acc e h
    unfold lcLoop
    cases hg : g d e with
    | none => rw [hg] at this; exact this
    | some e1 =>
      rw [hg] at this
      simp only [sat_some] at this
      simp only []
      cases ht : tt e1 with
      | st => rw [ht] at this; exact this
      | ex x e2 => rw [ht] at this; exact this
      | ok b e2 =>
        rw [ht] at this
        cases b with
        | false =>
          simp only [wp_ok, sel_false] at this
          exact lc_inv I h0 h1 r acc _ this
        | true =>
          simp only [wp_ok, sel_true] at this
          simp only []
          cases hl : el e2 with
          | st => rw [hl] at this; exact this
          | ex x e3 => rw [hl] at this; exact this
          | ok w e3 =>
            rw [hl] at this
            simp only [wp_ok] at this
            simp only []
            rw [if_pos this.1]
            exact lc_inv I h0 h1 r _ _ this.2
end M
theorem lc_inv {g : GDen} {tt : TDen} {el : EDen} {own : List Nat} {q1 : Kt (List D)} (I : List D → List D → SEnv → Prop) (h0 : ∀ acc e, I [] acc e → q1.run acc e)
    (h1 : ∀ d r acc e, I (d :: r) acc e → @sat _ (g d e) ⟨fun e1 => @wp _ (tt e1) ⟨fun b e2 => @sel b ⟨@wp _ (el e2) ⟨fun w e3 => acc.length < sizeLine ∧ I r (acc ++ [w.2]) (wipeE e3 own)⟩ ⟨fun _ _ => False⟩⟩ ⟨I r acc (wipeE e2 own)⟩⟩ ⟨fun _ _ => False⟩⟩) :
    ∀ ds acc e, I ds acc e → @wp _ (lcLoop g tt el own ds acc e) q1 ⟨fun _ _ => False⟩ := by
  rw [wp_eq] at h1 ⊢
  exact M.lc_inv I h0 h1
def isIo : Slot → Bool
  | .io _ => true
  | _ => false
theorem putS_eq {i : Nat} {s : Slot} {env : SEnv} : putS i s env = env[i]?.bind fun t => if isIo t = true then none else some (env.set i s) := by
  unfold putS
  cases env[i]? with
  | none => rfl
  | some t => cases t <;> rfl
theorem isIo_un : isIo .un = false := rfl
theorem isIo_fz {d : D} : isIo (.fz d) = false := rfl
theorem isIo_ow {d : D} : isIo (.ow d) = false := rfl
theorem isIo_xc {x : Ex} : isIo (.xc x) = false := rfl
theorem isIo_io {d : D} : isIo (.io d) = true := rfl
namespace M
theorem wpC_true {o : FOut} (h : @wpC o ⟨fun w _ => w = (false, .bl true)⟩ ⟨fun _ _ => False⟩) : ∃ b ios, o = .ret (b, .bl true) ios := by
  cases o with
  | ret w ios =>
    have : w = (false, .bl true) := h
    subst this
    exact ⟨false, ios, rfl⟩
  | ex x ios => exact h.elim
  | st => exact h.elim
end M
theorem wpC_true {o : FOut} (h : @wpC o ⟨fun w _ => w = (false, .bl true)⟩ ⟨fun _ _ => False⟩) : ∃ b ios, o = .ret (b, .bl true) ios := by
  rw [wpC_eq] at h
  exact M.wpC_true h
namespace M
theorem lc_fm {g : GDen} {tt : TDen} {el : EDen} {own : List Nat} {p : D → Bool} {f : D → D} {e : SEnv} {q1 : Kt (List D)} :
    ∀ {ds acc : List D}, acc.length + ds.length ≤ 1000000 → (∀ d ∈ ds, @sat _ (g d e) ⟨fun e1 => @wp _ (tt e1) ⟨fun b e2 => b = p d ∧ (p d = true → @wp _ (el e2) ⟨fun w e3 => w.2 = f d ∧ wipeE e3 own = e⟩ ⟨fun _ _ => False⟩) ∧ (p d = false → wipeE e2 own = e)⟩ ⟨fun _ _ => False⟩⟩) →
    q1.run (acc ++ (ds.filter p).map f) e → @wp _ (lcLoop g tt el own ds acc e) q1 ⟨fun _ _ => False⟩
  | [], acc, _, _, h => by
    have h' : q1.run acc e := by simpa using h
    exact h'
  | d :: r, acc, hl, hd, h => by
    have := hd d List.mem_cons_self
    unfold lcLoop
    cases hg : g d e with
    | none => rw [hg] at this; exact this
    | some e1 =>
      rw [hg] at this
      simp only [sat_some] at this
      simp only []
      cases ht : tt e1 with
      | st => rw [ht] at this; exact this
      | ex x e2 => rw [ht] at this; exact this
      | ok b e2 =>
        rw [ht] at this
        simp only [wp_ok] at this
        obtain ⟨hb, h1, h2⟩ := this
        cases hp : p d with
        | false =>
          rw [hp] at hb
          subst hb
          simp only []
          rw [h2 hp]
          refine lc_fm (by simp at hl ⊢; omega) (fun d' hd' => hd d' (List.mem_cons_of_mem _ hd')) ?_
          rw [List.filter_cons_of_neg (by rw [hp]; simp)] at h
          exact h
        | true =>
          rw [hp] at hb
          subst hb
          have h1 := h1 hp
          simp only []
          cases hl' : el e2 with
          | st => rw [hl'] at h1; exact h1
          | ex x e3 => rw [hl'] at h1; exact h1
          | ok w e3 =>
            rw [hl'] at h1
            simp only [wp_ok] at h1
            simp only []
            rw [if_pos (by have : sizeLine = 16777216 := rfl; simp at hl; omega), h1.1, h1.2]
            refine lc_fm (by simp at hl ⊢; omega) (fun d' hd' => hd d' (List.mem_cons_of_mem _ hd')) ?_
            rw [List.filter_cons_of_pos hp] at h
            simpa using h
end M
theorem lc_fm {g : GDen} {tt : TDen} {el : EDen} {own : List Nat} {p : D → Bool} {f : D → D} {e : SEnv} {q1 : Kt (List D)} :
    ∀ {ds acc : List D}, acc.length + ds.length ≤ 1000000 → (∀ d ∈ ds, @sat _ (g d e) ⟨fun e1 => @wp _ (tt e1) ⟨fun b e2 => b = p d ∧ (p d = true → @wp _ (el e2) ⟨fun w e3 => w.2 = f d ∧ wipeE e3 own = e⟩ ⟨fun _ _ => False⟩) ∧ (p d = false → wipeE e2 own = e)⟩ ⟨fun _ _ => False⟩⟩) →
    q1.run (acc ++ (ds.filter p).map f) e → @wp _ (lcLoop g tt el own ds acc e) q1 ⟨fun _ _ => False⟩ := by
  rw [wp_eq]
  exact M.lc_fm
theorem o_lend {i : Nat} {o : Option D} : objOf (.lend i) o = none := rfl
theorem o_lst {d : D} {ds : List D} : objOf (.val d) (some (.lst ds)) = none := rfl
theorem o_tup {d : D} {ds : List D} : objOf (.val d) (some (.tup ds)) = none := rfl
theorem o_rol {d : D} {ds : List D} : objOf (.val d) (some (.rol ds)) = none := rfl
theorem o_str {d : D} {s : Str} : objOf (.val d) (some (.str s)) = none := rfl
theorem o_obj {d : D} {c : Str} {fs : List (Str × D)} : objOf (.val d) (some (.obj c fs)) = some (c, fs) := rfl
end DL
set_option maxHeartbeats 8000000
/-! DV: what the primitives answer. -/
namespace DL
open PySem L2
def okF (G : Gm) (f : Str) : Str → Bool := fun c => ((G.flds.lookup f).getD []).contains c
def okX (G : Gm) : Str → Bool := fun c => G.xcs.contains c
def okT (G : Gm) : Str → Bool := fun c => G.tys.contains c
def tabI (G : Gm) : CRef → CRef → Option Bool := isiT G.isi
def catX (G : Gm) (x : Str) : Str → Option Bool := fun y => exmT G.exm y x
def dYes : TDen := fun env => .ok true env
def ltF : D → D → Option W := ordF fun i j => decide (i < j)
def leF : D → D → Option W := ordF fun i j => decide (i ≤ j)
def gtF : D → D → Option W := ordF fun i j => decide (j < i)
def geF : D → D → Option W := ordF fun i j => decide (j ≤ i)
theorem sz : sizeLine = 16777216 := rfl
theorem w_Yes {env : SEnv} {q1 : Kt Bool} {x1 : Kt Ex} : @wp _ (dYes env) q1 x1 = q1.run true env := by
  rw [wp_eq]
  rfl
section
variable {a b c d : D} {i j : Int} {ds : List D}
theorem f_lt : ltF (.int i) (.int j) = some (false, .bl (decide (i < j))) := rfl
theorem f_le : leF (.int i) (.int j) = some (false, .bl (decide (i ≤ j))) := rfl
theorem f_gt : gtF (.int i) (.int j) = some (false, .bl (decide (j < i))) := rfl
theorem f_ge : geF (.int i) (.int j) = some (false, .bl (decide (j ≤ i))) := rfl
theorem f_add : addF (.int i) (.int j) = some (false, .int (i + j)) := rfl
theorem f_sub : subF (.int i) (.int j) = some (false, .int (i - j)) := rfl
theorem f_mul : mulF (.int i) (.int j) = if i.natAbs.log2 + j.natAbs.log2 < 1000000 then some (false, .int (i * j)) else none := rfl
theorem f_mod : modF (.int i) (.int j) = if 0 < j then some (false, .int (i % j)) else none := rfl
theorem f_fdiv : fdivF (.int i) (.int j) = if 0 < j ∧ j.natAbs.log2 < 9000 then some (false, .int (i / j)) else none := rfl
theorem f_p6 : powF (.int 10) (.int 6) = some (false, .int 1000000) := rfl
theorem f_p9 : powF (.int 10) (.int 9) = some (false, .int 1000000000) := rfl
theorem f_p12 : powF (.int 10) (.int 12) = some (false, .int 1000000000000) := rfl
theorem f_p18 : powF (.int 10) (.int 18) = some (false, .int 1000000000000000000) := rfl
theorem f_p20 : powF (.int 10) (.int 20) = some (false, .int 100000000000000000000) := rfl
theorem f_p30 : powF (.int 10) (.int 30) = some (false, .int 1000000000000000000000000000000) := rfl
theorem f_neg : negF (.int i) = some (false, .int (-i)) := rfl
theorem f_int : intF [.int i] = some (false, .int i) := rfl
theorem f_abs : absF [.int i] = some (false, .int (if i < 0 then -i else i)) := rfl
theorem f_max : maxF [.int i, .int j] = some (false, .int (if j > i then j else i)) := rfl
theorem f_min : minF [.int i, .int j] = some (false, .int (if j < i then j else i)) := rfl
theorem f_sqL : seqOf (.lst ds) = some ds := rfl
theorem f_sqT : seqOf (.tup ds) = some ds := rfl
theorem f_sqR : seqOf (.rol ds) = some ds := rfl
theorem f_lenL : lenF [.lst ds] = some (false, .int ds.length) := rfl
theorem f_lenT : lenF [.tup ds] = some (false, .int ds.length) := rfl
theorem f_lenR : lenF [.rol ds] = some (false, .int ds.length) := rfl
theorem f_at20 : ixF (.lst [a, b]) (.int 0) = some (false, a) := rfl
theorem f_at21 : ixF (.lst [a, b]) (.int 1) = some (false, b) := rfl
theorem f_set20 : setIx (.int 0) d (.lst [a, b]) = some (.lst [d, b]) := rfl
theorem f_set21 : setIx (.int 1) d (.lst [a, b]) = some (.lst [a, d]) := rfl
theorem f_t10 {x0 : D} : ixF (.tup [x0]) (.int 0) = some (false, x0) := rfl
theorem f_t20 {x0 x1 : D} : ixF (.tup [x0, x1]) (.int 0) = some (false, x0) := rfl
theorem f_t21 {x0 x1 : D} : ixF (.tup [x0, x1]) (.int 1) = some (false, x1) := rfl
theorem f_t30 {x0 x1 x2 : D} : ixF (.tup [x0, x1, x2]) (.int 0) = some (false, x0) := rfl
theorem f_t31 {x0 x1 x2 : D} : ixF (.tup [x0, x1, x2]) (.int 1) = some (false, x1) := rfl
theorem f_t32 {x0 x1 x2 : D} : ixF (.tup [x0, x1, x2]) (.int 2) = some (false, x2) := rfl
theorem f_t40 {x0 x1 x2 x3 : D} : ixF (.tup [x0, x1, x2, x3]) (.int 0) = some (false, x0) := rfl
theorem f_t41 {x0 x1 x2 x3 : D} : ixF (.tup [x0, x1, x2, x3]) (.int 1) = some (false, x1) := rfl
theorem f_t42 {x0 x1 x2 x3 : D} : ixF (.tup [x0, x1, x2, x3]) (.int 2) = some (false, x2) := rfl
theorem f_t43 {x0 x1 x2 x3 : D} : ixF (.tup [x0, x1, x2, x3]) (.int 3) = some (false, x3) := rfl
theorem atD_ok (h0 : 0 ≤ i) (h1 : i < ds.length) : atD ds i = some (false, ds[i.toNat]'(by omega)) := by
  unfold atD atI ixN
  rw [if_pos h0, if_pos h1]
  simp only [Option.bind_some]
  rw [List.getElem?_eq_getElem (by omega)]
  rfl
theorem f_atL (h0 : 0 ≤ i) (h1 : i < ds.length) : ixF (.lst ds) (.int i) = some (false, ds[i.toNat]'(by omega)) := atD_ok h0 h1
theorem f_atT (h0 : 0 ≤ i) (h1 : i < ds.length) : ixF (.tup ds) (.int i) = some (false, ds[i.toNat]'(by omega)) := atD_ok h0 h1
theorem f_atR (h0 : 0 ≤ i) (h1 : i < ds.length) : ixF (.rol ds) (.int i) = some (false, ds[i.toNat]'(by omega)) := atD_ok h0 h1
theorem f_eqI {n : Bool} : eqF n (.int i) (.int j) = some (false, .bl (xor n (i == j))) := rfl
theorem f_eqS {n : Bool} {x y : Str} : eqF n (.str x) (.str y) = some (false, .bl (xor n (x == y))) := rfl
theorem f_isN {n : Bool} : isF n d .non = some (false, .bl (xor n (isNon d))) := by cases d <;> rfl
theorem f_range {n : Int} (h0 : 0 ≤ n) (h1 : n < 2 ^ 62) : range1F [.int n] = some ((List.range n.toNat).map fun i => .int (0 + (i : Nat))) := by
  show (if _ then _ else _) = _
  rw [if_pos ⟨by omega, h1⟩]
theorem log2_lt {n : Nat} {k : Nat} (h : n < 2 ^ k) (hk : 0 < k) : n.log2 < k := by
  by_cases h0 : n = 0
  · subst h0; simpa using hk
  · exact (Nat.log2_lt h0).mpr h
end
end DL
namespace DL
open PySem L2
theorem lg64 {x : Int} (h0 : -18446744073709551616 < x) (h1 : x < 18446744073709551616) : x.natAbs.log2 < 64 := log2_lt (by omega) (by omega)
theorem mul_ok {x y : Int} (h0 : -18446744073709551616 < x) (h1 : x < 18446744073709551616) (h2 : -18446744073709551616 < y) (h3 : y < 18446744073709551616) : x.natAbs.log2 + y.natAbs.log2 < 1000000 := by
  have := lg64 h0 h1
  have := lg64 h2 h3
  omega
theorem div_ok {x : Int} (h0 : 0 < x) (h1 : x < 18446744073709551616) : 0 < x ∧ x.natAbs.log2 < 9000 := ⟨h0, by have := lg64 (by omega) h1; omega⟩
theorem f_postLen {n : Nat} (h1 : n < 1000000) : postLen (.int n) = some (false, .int n) := by
  show (if 0 ≤ (n : Int) ∧ (n : Int) < 9223372036854775808 then some (false, D.int n) else none) = _
  rw [if_pos ⟨by omega, by omega⟩]
end DL
set_option maxHeartbeats 8000000
namespace DL
open PySem PySem.Spec PyProof.Rows L2
/-! ### the draws -/
abbrev bx (a b : Int) : D := .lst [.int a, .int b]
def BxOk (a b : Int) : Prop := 0 ≤ a ∧ 0 ≤ b ∧ b ≤ 2147483629
def n__law_choose (G : Gm) (orc : Orc) : SDen :=
 (sSeq (sIf (dTest (dP2 gtF (.ex (dP2 ixF (.pk 0) (.ex (dC (.int 0))))) (.ex (dC (.int 0)))))
 (sSeq (sAsg 3 (dP2 modF (.ex (dPN intF (rVal (dP2 ixF (.pk 0) (.ex (dC (.int 0)))) rNil))) (.pk 1)))
 (sSeq (sIx 0 (dC (.int 0)) (dP2 fdivF (.ex (dP2 ixF (.pk 0) (.ex (dC (.int 0))))) (.pk 1)))
 (sSeq (sRetV 3)
 sNx)))
 sNx)
 (sSeq (sAsg 2 (dP2 modF (.ex (dPN intF (rVal (dP2 addF (.ex (dP2 mulF (.ex (dP2 ixF (.pk 0) (.ex (dC (.int 1))))) (.ex (dC (.int 40014))))) (.ex (dC (.int 11)))) rNil))) (.ex (dC (.int 2147483563)))))
 (sSeq (sIx 0 (dC (.int 1)) (dP2 addF (.ex (dP2 modF (.ex (dPN intF (rVal (dP2 addF (.ex (dP2 mulF (.pk 2) (.ex (dC (.int 40692))))) (.ex (dC (.int 2903)))) rNil))) (.ex (dC (.int 2147483629))))) (.ex (dC (.int 1)))))
 (sSeq (sRet (dP2 modF (.ex (dPN intF (rVal (dP2 fdivF (.ex (dP2 addF (.ex (dP2 mulF (.pk 2) (.ex (dC (.int 2147483647))))) (.ex (dP2 ixF (.pk 0) (.ex (dC (.int 1))))))) (.ex (dC (.int 8191)))) rNil))) (.pk 1)))
 sNx))))
def n__law_one_of (G : Gm) (orc : Orc) : SDen :=
 (sSeq (sRet (dP2 ixF (.pk 1) (.ex (dCall (orc (("_law_choose" : PySem.Str), none)) (rDfl (rLend 0 (rVal (dLen (mtab G orc "__len__" 0) (.pk 1)) rNil)) [])))))
 sNx)
def n__law_seed (G : Gm) (orc : Orc) : SDen :=
 (sSeq (sAsg 2 (dP2 addF (.ex (dP2 mulF (.ex (dC (.int 7411))) (.pk 1))) (.ex (dC (.int 29)))))
 (sSeq (sIf (dTest (dP2 ltF (.pk 1) (.ex (dLen (mtab G orc "__len__" 0) (.pk 0)))))
 (sSeq (sAsg 2 (dPN absF (rVal (dP2 ixF (.pk 0) (.pk 1)) rNil)))
 sNx)
 (sSeq (sIf (dTest (dP2 gtF (.ex (dLen (mtab G orc "__len__" 0) (.pk 0))) (.ex (dC (.int 0)))))
 (sSeq (sAsg 2 (dP2 addF (.pk 2) (.ex (dP2 mulF (.ex (dP2 modF (.ex (dPN intF (rVal (dPN absF (rVal (dP2 ixF (.pk 0) (.ex (dP2 modF (.ex (dPN intF (rPk 1 rNil))) (.ex (dLen (mtab G orc "__len__" 0) (.pk 0)))))) rNil)) rNil))) (.ex (dC (.int 2147483629))))) (.ex (dC (.int 40093)))))))
 sNx)
 sNx)
 sNx))
 (sSeq (sRet (dLst (aCons (dIfE (dTest (dP2 geF (.pk 2) (.ex (dP2 powF (.ex (dC (.int 10))) (.ex (dC (.int 18))))))) (dVar 2) (dC (.int 0))) (aCons (dP2 addF (.ex (dP2 modF (.ex (dPN intF (rVal (dP2 addF (.ex (dP2 mulF (.ex (dP2 modF (.ex (dPN intF (rPk 2 rNil))) (.ex (dC (.int 2147483629))))) (.ex (dC (.int 48271))))) (.ex (dP2 mulF (.ex (dC (.int 20021))) (.pk 1)))) rNil))) (.ex (dC (.int 2147483629))))) (.ex (dC (.int 1)))) aNil))))
 sNx)))
structure Draws (G : Gm) (dens : Dens) : Prop where
  choose : dens (("_law_choose" : PySem.Str), none) = some (4, 2, n__law_choose G)
  one : dens (("_law_one_of" : PySem.Str), none) = some (2, 2, n__law_one_of G)
  seed : dens (("_law_seed" : PySem.Str), none) = some (3, 2, n__law_seed G)
section
variable {G : Gm} {dens : Dens}
theorem choose_ok (R : Draws G dens) {m : Nat} {a b n : Int} {q : Kc W} {x : Kc Ex} (hx : BxOk a b) (hn : 0 < n) (hn2 : n < 18446744073709551616)
   (h : ∀ r a' b' : Int, BxOk a' b' → 0 ≤ r → r < n → q.run (false, .int r) [bx a' b']) :
   wpC (callD dens (m + 1) (("_law_choose" : PySem.Str), none) [(true, bx a b), (false, .int n)]) := by
  obtain ⟨ha, hb, hb2⟩ := hx
  rw [w_run R.choose rfl]
  unfold n__law_choose
  simp only [w_C, w_Var, w_retO, w_bindE, w_evEx, w_evPk, argDat_val, argDat_lend, w_retF, w_retF1, w_P2, w_P1, w_Chain, w_ChainM, w_IfE, w_AndV, w_OrV, w_NotV, w_Tup, w_Lst, w_Slice, w_SliceM, w_evPn, w_evPs, w_PN, w_Call, w_Make, w_makeO, w_Meth, w_Len, w_lenK, w_Str, w_Fmt, w_Join0, w_Join, w_Xf, w_Xi, w_Lc, w_Tru, w_Test, w_And, w_Or, w_Not, w_aNil, w_aCons, w_rNil, w_rVal, w_rLend, w_rPk, w_rDfl, w_rSelf, w_iArgs, w_iSeq, w_Seq, thenS_nx, thenS_rt, thenS_bk, thenS_ct, w_Nx, w_Ret, w_RetN, w_RetV, w_Expr, w_nxO, w_Asg, w_If, w_Unp, w_mutS, w_SetF, w_App, w_Ix, w_Par2, w_Raise, w_Try, w_Try0, w_For, w_Sup, endQ_nx, endQ_rt, sat_some, sat_none, sat_ite, sat_map, sat_bind, selO_some, selO_none, sel_true, sel_false, sel_not, wp_ok, wp_ex, wp_st, wp_ite, f_lt, f_le, f_gt, f_ge, f_add, f_sub, f_mul, f_mod, f_fdiv, f_neg, f_p6, f_p9, f_p12, f_p18, f_p20, f_p30, f_int, f_abs, f_max, f_min, f_sqL, f_sqT, f_sqR, f_lenL, f_lenT, f_lenR, f_at20, f_at21, f_set20, f_set21, f_t10, f_t20, f_t21, f_t30, f_t31, f_t32, f_t40, f_t41, f_t42, f_t43, f_eqI, f_eqS, f_isN, w_Yes, o_lend, o_lst, o_tup, o_rol, o_str, o_obj, startE, pslot, putS_eq, isIo_un, isIo_fz, isIo_ow, isIo_xc, isIo_io, slotOf, slotData, setData, putIos, iosOf, lends, argsD, argD, isLst, asB, asI, newO_ok, newX_ok, asObj, asNil, asS, gNm, gsNil, gsCons, gTu, wipeE, backE, ownFree, isCls0, appF, bareX, clrX, List.map_cons, List.map_nil, List.length_cons, List.length_nil, List.replicate_succ, List.replicate_zero, List.cons_append, List.nil_append, List.append_nil, List.getElem?_cons_zero, List.getElem?_cons_succ, List.getElem?_nil, List.set_cons_zero, List.set_cons_succ, Option.bind_some, Option.bind_none, Option.map_some, Option.map_none, Option.getD_some, Option.getD_none, sz, Nat.reduceLeDiff, Int.reduceLT, Int.reduceLE, decide_true, decide_false, Int.reduceBEq, Int.reduceBNe, Bool.false_eq_true, if_false, if_true, Bool.false_xor, Bool.true_xor, Bool.not_true, Bool.not_false, Bool.not_not, Nat.reduceSub, Nat.reduceAdd, List.nodup_cons, List.nodup_nil, List.not_mem_nil, List.mem_cons, not_false_eq_true, and_self, true_and, and_true, List.all_cons, List.all_nil, Bool.and_true, Bool.true_and]
  refine sel_in (fun h1 => ?_) (fun h1 => ?_)
  · simp only [w_C, w_Var, w_retO, w_bindE, w_evEx, w_evPk, argDat_val, argDat_lend, w_retF, w_retF1, w_P2, w_P1, w_Chain, w_ChainM, w_IfE, w_AndV, w_OrV, w_NotV, w_Tup, w_Lst, w_Slice, w_SliceM, w_evPn, w_evPs, w_PN, w_Call, w_Make, w_makeO, w_Meth, w_Len, w_lenK, w_Str, w_Fmt, w_Join0, w_Join, w_Xf, w_Xi, w_Lc, w_Tru, w_Test, w_And, w_Or, w_Not, w_aNil, w_aCons, w_rNil, w_rVal, w_rLend, w_rPk, w_rDfl, w_rSelf, w_iArgs, w_iSeq, w_Seq, thenS_nx, thenS_rt, thenS_bk, thenS_ct, w_Nx, w_Ret, w_RetN, w_RetV, w_Expr, w_nxO, w_Asg, w_If, w_Unp, w_mutS, w_SetF, w_App, w_Ix, w_Par2, w_Raise, w_Try, w_Try0, w_For, w_Sup, endQ_nx, endQ_rt, sat_some, sat_none, sat_ite, sat_map, sat_bind, selO_some, selO_none, sel_true, sel_false, sel_not, wp_ok, wp_ex, wp_st, wp_ite, f_lt, f_le, f_gt, f_ge, f_add, f_sub, f_mul, f_mod, f_fdiv, f_neg, f_p6, f_p9, f_p12, f_p18, f_p20, f_p30, f_int, f_abs, f_max, f_min, f_sqL, f_sqT, f_sqR, f_lenL, f_lenT, f_lenR, f_at20, f_at21, f_set20, f_set21, f_t10, f_t20, f_t21, f_t30, f_t31, f_t32, f_t40, f_t41, f_t42, f_t43, f_eqI, f_eqS, f_isN, w_Yes, o_lend, o_lst, o_tup, o_rol, o_str, o_obj, startE, pslot, putS_eq, isIo_un, isIo_fz, isIo_ow, isIo_xc, isIo_io, slotOf, slotData, setData, putIos, iosOf, lends, argsD, argD, isLst, asB, asI, newO_ok, newX_ok, asObj, asNil, asS, gNm, gsNil, gsCons, gTu, wipeE, backE, ownFree, isCls0, appF, bareX, clrX, List.map_cons, List.map_nil, List.length_cons, List.length_nil, List.replicate_succ, List.replicate_zero, List.cons_append, List.nil_append, List.append_nil, List.getElem?_cons_zero, List.getElem?_cons_succ, List.getElem?_nil, List.set_cons_zero, List.set_cons_succ, Option.bind_some, Option.bind_none, Option.map_some, Option.map_none, Option.getD_some, Option.getD_none, sz, Nat.reduceLeDiff, Int.reduceLT, Int.reduceLE, decide_true, decide_false, Int.reduceBEq, Int.reduceBNe, Bool.false_eq_true, if_false, if_true, Bool.false_xor, Bool.true_xor, Bool.not_true, Bool.not_false, Bool.not_not, Nat.reduceSub, Nat.reduceAdd, List.nodup_cons, List.nodup_nil, List.not_mem_nil, List.mem_cons, not_false_eq_true, and_self, true_and, and_true, List.all_cons, List.all_nil, Bool.and_true, Bool.true_and]
    refine ⟨hn, div_ok hn hn2, h _ _ _ ⟨Int.ediv_nonneg ha (by omega), hb, hb2⟩ (Int.emod_nonneg _ (by omega)) (Int.emod_lt_of_pos _ hn)⟩
  · simp only [w_C, w_Var, w_retO, w_bindE, w_evEx, w_evPk, argDat_val, argDat_lend, w_retF, w_retF1, w_P2, w_P1, w_Chain, w_ChainM, w_IfE, w_AndV, w_OrV, w_NotV, w_Tup, w_Lst, w_Slice, w_SliceM, w_evPn, w_evPs, w_PN, w_Call, w_Make, w_makeO, w_Meth, w_Len, w_lenK, w_Str, w_Fmt, w_Join0, w_Join, w_Xf, w_Xi, w_Lc, w_Tru, w_Test, w_And, w_Or, w_Not, w_aNil, w_aCons, w_rNil, w_rVal, w_rLend, w_rPk, w_rDfl, w_rSelf, w_iArgs, w_iSeq, w_Seq, thenS_nx, thenS_rt, thenS_bk, thenS_ct, w_Nx, w_Ret, w_RetN, w_RetV, w_Expr, w_nxO, w_Asg, w_If, w_Unp, w_mutS, w_SetF, w_App, w_Ix, w_Par2, w_Raise, w_Try, w_Try0, w_For, w_Sup, endQ_nx, endQ_rt, sat_some, sat_none, sat_ite, sat_map, sat_bind, selO_some, selO_none, sel_true, sel_false, sel_not, wp_ok, wp_ex, wp_st, wp_ite, f_lt, f_le, f_gt, f_ge, f_add, f_sub, f_mul, f_mod, f_fdiv, f_neg, f_p6, f_p9, f_p12, f_p18, f_p20, f_p30, f_int, f_abs, f_max, f_min, f_sqL, f_sqT, f_sqR, f_lenL, f_lenT, f_lenR, f_at20, f_at21, f_set20, f_set21, f_t10, f_t20, f_t21, f_t30, f_t31, f_t32, f_t40, f_t41, f_t42, f_t43, f_eqI, f_eqS, f_isN, w_Yes, o_lend, o_lst, o_tup, o_rol, o_str, o_obj, startE, pslot, putS_eq, isIo_un, isIo_fz, isIo_ow, isIo_xc, isIo_io, slotOf, slotData, setData, putIos, iosOf, lends, argsD, argD, isLst, asB, asI, newO_ok, newX_ok, asObj, asNil, asS, gNm, gsNil, gsCons, gTu, wipeE, backE, ownFree, isCls0, appF, bareX, clrX, List.map_cons, List.map_nil, List.length_cons, List.length_nil, List.replicate_succ, List.replicate_zero, List.cons_append, List.nil_append, List.append_nil, List.getElem?_cons_zero, List.getElem?_cons_succ, List.getElem?_nil, List.set_cons_zero, List.set_cons_succ, Option.bind_some, Option.bind_none, Option.map_some, Option.map_none, Option.getD_some, Option.getD_none, sz, Nat.reduceLeDiff, Int.reduceLT, Int.reduceLE, decide_true, decide_false, Int.reduceBEq, Int.reduceBNe, Bool.false_eq_true, if_false, if_true, Bool.false_xor, Bool.true_xor, Bool.not_true, Bool.not_false, Bool.not_not, Nat.reduceSub, Nat.reduceAdd, List.nodup_cons, List.nodup_nil, List.not_mem_nil, List.mem_cons, not_false_eq_true, and_self, true_and, and_true, List.all_cons, List.all_nil, Bool.and_true, Bool.true_and]
    have h1 := Int.emod_nonneg (b * 40014 + 11) (b := 2147483563) (by omega)
    have h2 := Int.emod_lt_of_pos (b * 40014 + 11) (b := 2147483563) (by omega)
    refine ⟨mul_ok (by omega) (by omega) (by omega) (by omega), mul_ok (by omega) (by omega) (by omega) (by omega), mul_ok (by omega) (by omega) (by omega) (by omega), (div_ok (x := 8191) (by omega) (by omega)).2, hn, h _ _ _ ⟨ha, by omega, by omega⟩ (Int.emod_nonneg _ (by omega)) (Int.emod_lt_of_pos _ hn)⟩
theorem one_ok (R : Draws G dens) {m : Nat} {a b : Int} {ds : List D} {q : Kc W} {x : Kc Ex} (hx : BxOk a b) (h0 : 0 < ds.length) (h1 : ds.length < 1000000)
   (h : ∀ d a' b', d ∈ ds → BxOk a' b' → q.run (false, d) [bx a' b']) :
   wpC (callD dens (m + 2) (("_law_one_of" : PySem.Str), none) [(true, bx a b), (false, .lst ds)]) := by
  rw [w_run R.one rfl]
  unfold n__law_one_of
  simp only [w_C, w_Var, w_retO, w_bindE, w_evEx, w_evPk, argDat_val, argDat_lend, w_retF, w_retF1, w_P2, w_P1, w_Chain, w_ChainM, w_IfE, w_AndV, w_OrV, w_NotV, w_Tup, w_Lst, w_Slice, w_SliceM, w_evPn, w_evPs, w_PN, w_Call, w_Make, w_makeO, w_Meth, w_Len, w_lenK, w_Str, w_Fmt, w_Join0, w_Join, w_Xf, w_Xi, w_Lc, w_Tru, w_Test, w_And, w_Or, w_Not, w_aNil, w_aCons, w_rNil, w_rVal, w_rLend, w_rPk, w_rDfl, w_rSelf, w_iArgs, w_iSeq, w_Seq, thenS_nx, thenS_rt, thenS_bk, thenS_ct, w_Nx, w_Ret, w_RetN, w_RetV, w_Expr, w_nxO, w_Asg, w_If, w_Unp, w_mutS, w_SetF, w_App, w_Ix, w_Par2, w_Raise, w_Try, w_Try0, w_For, w_Sup, endQ_nx, endQ_rt, sat_some, sat_none, sat_ite, sat_map, sat_bind, selO_some, selO_none, sel_true, sel_false, sel_not, wp_ok, wp_ex, wp_st, wp_ite, f_lt, f_le, f_gt, f_ge, f_add, f_sub, f_mul, f_mod, f_fdiv, f_neg, f_p6, f_p9, f_p12, f_p18, f_p20, f_p30, f_int, f_abs, f_max, f_min, f_sqL, f_sqT, f_sqR, f_lenL, f_lenT, f_lenR, f_at20, f_at21, f_set20, f_set21, f_t10, f_t20, f_t21, f_t30, f_t31, f_t32, f_t40, f_t41, f_t42, f_t43, f_eqI, f_eqS, f_isN, w_Yes, o_lend, o_lst, o_tup, o_rol, o_str, o_obj, startE, pslot, putS_eq, isIo_un, isIo_fz, isIo_ow, isIo_xc, isIo_io, slotOf, slotData, setData, putIos, iosOf, lends, argsD, argD, isLst, asB, asI, newO_ok, newX_ok, asObj, asNil, asS, gNm, gsNil, gsCons, gTu, wipeE, backE, ownFree, isCls0, appF, bareX, clrX, List.map_cons, List.map_nil, List.length_cons, List.length_nil, List.replicate_succ, List.replicate_zero, List.cons_append, List.nil_append, List.append_nil, List.getElem?_cons_zero, List.getElem?_cons_succ, List.getElem?_nil, List.set_cons_zero, List.set_cons_succ, Option.bind_some, Option.bind_none, Option.map_some, Option.map_none, Option.getD_some, Option.getD_none, sz, Nat.reduceLeDiff, Int.reduceLT, Int.reduceLE, decide_true, decide_false, Int.reduceBEq, Int.reduceBNe, Bool.false_eq_true, if_false, if_true, Bool.false_xor, Bool.true_xor, Bool.not_true, Bool.not_false, Bool.not_not, Nat.reduceSub, Nat.reduceAdd, List.nodup_cons, List.nodup_nil, List.not_mem_nil, List.mem_cons, not_false_eq_true, and_self, true_and, and_true, List.all_cons, List.all_nil, Bool.and_true, Bool.true_and]
  refine choose_ok R hx (by omega) (by omega) fun r a' b' hx' h2 h3 => ?_
  simp only [w_C, w_Var, w_retO, w_bindE, w_evEx, w_evPk, argDat_val, argDat_lend, w_retF, w_retF1, w_P2, w_P1, w_Chain, w_ChainM, w_IfE, w_AndV, w_OrV, w_NotV, w_Tup, w_Lst, w_Slice, w_SliceM, w_evPn, w_evPs, w_PN, w_Call, w_Make, w_makeO, w_Meth, w_Len, w_lenK, w_Str, w_Fmt, w_Join0, w_Join, w_Xf, w_Xi, w_Lc, w_Tru, w_Test, w_And, w_Or, w_Not, w_aNil, w_aCons, w_rNil, w_rVal, w_rLend, w_rPk, w_rDfl, w_rSelf, w_iArgs, w_iSeq, w_Seq, thenS_nx, thenS_rt, thenS_bk, thenS_ct, w_Nx, w_Ret, w_RetN, w_RetV, w_Expr, w_nxO, w_Asg, w_If, w_Unp, w_mutS, w_SetF, w_App, w_Ix, w_Par2, w_Raise, w_Try, w_Try0, w_For, w_Sup, endQ_nx, endQ_rt, sat_some, sat_none, sat_ite, sat_map, sat_bind, selO_some, selO_none, sel_true, sel_false, sel_not, wp_ok, wp_ex, wp_st, wp_ite, f_lt, f_le, f_gt, f_ge, f_add, f_sub, f_mul, f_mod, f_fdiv, f_neg, f_p6, f_p9, f_p12, f_p18, f_p20, f_p30, f_int, f_abs, f_max, f_min, f_sqL, f_sqT, f_sqR, f_lenL, f_lenT, f_lenR, f_at20, f_at21, f_set20, f_set21, f_t10, f_t20, f_t21, f_t30, f_t31, f_t32, f_t40, f_t41, f_t42, f_t43, f_eqI, f_eqS, f_isN, w_Yes, o_lend, o_lst, o_tup, o_rol, o_str, o_obj, startE, pslot, putS_eq, isIo_un, isIo_fz, isIo_ow, isIo_xc, isIo_io, slotOf, slotData, setData, putIos, iosOf, lends, argsD, argD, isLst, asB, asI, newO_ok, newX_ok, asObj, asNil, asS, gNm, gsNil, gsCons, gTu, wipeE, backE, ownFree, isCls0, appF, bareX, clrX, List.map_cons, List.map_nil, List.length_cons, List.length_nil, List.replicate_succ, List.replicate_zero, List.cons_append, List.nil_append, List.append_nil, List.getElem?_cons_zero, List.getElem?_cons_succ, List.getElem?_nil, List.set_cons_zero, List.set_cons_succ, Option.bind_some, Option.bind_none, Option.map_some, Option.map_none, Option.getD_some, Option.getD_none, sz, Nat.reduceLeDiff, Int.reduceLT, Int.reduceLE, decide_true, decide_false, Int.reduceBEq, Int.reduceBNe, Bool.false_eq_true, if_false, if_true, Bool.false_xor, Bool.true_xor, Bool.not_true, Bool.not_false, Bool.not_not, Nat.reduceSub, Nat.reduceAdd, List.nodup_cons, List.nodup_nil, List.not_mem_nil, List.mem_cons, not_false_eq_true, and_self, true_and, and_true, List.all_cons, List.all_nil, Bool.and_true, Bool.true_and]
  rw [f_atL h2 h3]
  simp only [w_C, w_Var, w_retO, w_bindE, w_evEx, w_evPk, argDat_val, argDat_lend, w_retF, w_retF1, w_P2, w_P1, w_Chain, w_ChainM, w_IfE, w_AndV, w_OrV, w_NotV, w_Tup, w_Lst, w_Slice, w_SliceM, w_evPn, w_evPs, w_PN, w_Call, w_Make, w_makeO, w_Meth, w_Len, w_lenK, w_Str, w_Fmt, w_Join0, w_Join, w_Xf, w_Xi, w_Lc, w_Tru, w_Test, w_And, w_Or, w_Not, w_aNil, w_aCons, w_rNil, w_rVal, w_rLend, w_rPk, w_rDfl, w_rSelf, w_iArgs, w_iSeq, w_Seq, thenS_nx, thenS_rt, thenS_bk, thenS_ct, w_Nx, w_Ret, w_RetN, w_RetV, w_Expr, w_nxO, w_Asg, w_If, w_Unp, w_mutS, w_SetF, w_App, w_Ix, w_Par2, w_Raise, w_Try, w_Try0, w_For, w_Sup, endQ_nx, endQ_rt, sat_some, sat_none, sat_ite, sat_map, sat_bind, selO_some, selO_none, sel_true, sel_false, sel_not, wp_ok, wp_ex, wp_st, wp_ite, f_lt, f_le, f_gt, f_ge, f_add, f_sub, f_mul, f_mod, f_fdiv, f_neg, f_p6, f_p9, f_p12, f_p18, f_p20, f_p30, f_int, f_abs, f_max, f_min, f_sqL, f_sqT, f_sqR, f_lenL, f_lenT, f_lenR, f_at20, f_at21, f_set20, f_set21, f_t10, f_t20, f_t21, f_t30, f_t31, f_t32, f_t40, f_t41, f_t42, f_t43, f_eqI, f_eqS, f_isN, w_Yes, o_lend, o_lst, o_tup, o_rol, o_str, o_obj, startE, pslot, putS_eq, isIo_un, isIo_fz, isIo_ow, isIo_xc, isIo_io, slotOf, slotData, setData, putIos, iosOf, lends, argsD, argD, isLst, asB, asI, newO_ok, newX_ok, asObj, asNil, asS, gNm, gsNil, gsCons, gTu, wipeE, backE, ownFree, isCls0, appF, bareX, clrX, List.map_cons, List.map_nil, List.length_cons, List.length_nil, List.replicate_succ, List.replicate_zero, List.cons_append, List.nil_append, List.append_nil, List.getElem?_cons_zero, List.getElem?_cons_succ, List.getElem?_nil, List.set_cons_zero, List.set_cons_succ, Option.bind_some, Option.bind_none, Option.map_some, Option.map_none, Option.getD_some, Option.getD_none, sz, Nat.reduceLeDiff, Int.reduceLT, Int.reduceLE, decide_true, decide_false, Int.reduceBEq, Int.reduceBNe, Bool.false_eq_true, if_false, if_true, Bool.false_xor, Bool.true_xor, Bool.not_true, Bool.not_false, Bool.not_not, Nat.reduceSub, Nat.reduceAdd, List.nodup_cons, List.nodup_nil, List.not_mem_nil, List.mem_cons, not_false_eq_true, and_self, true_and, and_true, List.all_cons, List.all_nil, Bool.and_true, Bool.true_and]
  exact h _ _ _ (List.getElem_mem _) hx'
theorem seed_ok (R : Draws G dens) {m : Nat} {ns : List Int} {k : Int} {q : Kc W} {x : Kc Ex} (h0 : 0 ≤ k) (h1 : k < 1000) (hl : ns.length ≤ 63)
   (h : ∀ a b, BxOk a b → q.run (true, bx a b) []) :
   wpC (callD dens (m + 1) (("_law_seed" : PySem.Str), none) [(false, scr ns), (false, .int k)]) := by
  rw [w_run R.seed rfl]
  unfold n__law_seed scr
  simp only [w_C, w_Var, w_retO, w_bindE, w_evEx, w_evPk, argDat_val, argDat_lend, w_retF, w_retF1, w_P2, w_P1, w_Chain, w_ChainM, w_IfE, w_AndV, w_OrV, w_NotV, w_Tup, w_Lst, w_Slice, w_SliceM, w_evPn, w_evPs, w_PN, w_Call, w_Make, w_makeO, w_Meth, w_Len, w_lenK, w_Str, w_Fmt, w_Join0, w_Join, w_Xf, w_Xi, w_Lc, w_Tru, w_Test, w_And, w_Or, w_Not, w_aNil, w_aCons, w_rNil, w_rVal, w_rLend, w_rPk, w_rDfl, w_rSelf, w_iArgs, w_iSeq, w_Seq, thenS_nx, thenS_rt, thenS_bk, thenS_ct, w_Nx, w_Ret, w_RetN, w_RetV, w_Expr, w_nxO, w_Asg, w_If, w_Unp, w_mutS, w_SetF, w_App, w_Ix, w_Par2, w_Raise, w_Try, w_Try0, w_For, w_Sup, endQ_nx, endQ_rt, sat_some, sat_none, sat_ite, sat_map, sat_bind, selO_some, selO_none, sel_true, sel_false, sel_not, wp_ok, wp_ex, wp_st, wp_ite, f_lt, f_le, f_gt, f_ge, f_add, f_sub, f_mul, f_mod, f_fdiv, f_neg, f_p6, f_p9, f_p12, f_p18, f_p20, f_p30, f_int, f_abs, f_max, f_min, f_sqL, f_sqT, f_sqR, f_lenL, f_lenT, f_lenR, f_at20, f_at21, f_set20, f_set21, f_t10, f_t20, f_t21, f_t30, f_t31, f_t32, f_t40, f_t41, f_t42, f_t43, f_eqI, f_eqS, f_isN, w_Yes, o_lend, o_lst, o_tup, o_rol, o_str, o_obj, startE, pslot, putS_eq, isIo_un, isIo_fz, isIo_ow, isIo_xc, isIo_io, slotOf, slotData, setData, putIos, iosOf, lends, argsD, argD, isLst, asB, asI, newO_ok, newX_ok, asObj, asNil, asS, gNm, gsNil, gsCons, gTu, wipeE, backE, ownFree, isCls0, appF, bareX, clrX, List.map_cons, List.map_nil, List.length_cons, List.length_nil, List.replicate_succ, List.replicate_zero, List.cons_append, List.nil_append, List.append_nil, List.getElem?_cons_zero, List.getElem?_cons_succ, List.getElem?_nil, List.set_cons_zero, List.set_cons_succ, Option.bind_some, Option.bind_none, Option.map_some, Option.map_none, Option.getD_some, Option.getD_none, sz, Nat.reduceLeDiff, Int.reduceLT, Int.reduceLE, decide_true, decide_false, Int.reduceBEq, Int.reduceBNe, Bool.false_eq_true, if_false, if_true, Bool.false_xor, Bool.true_xor, Bool.not_true, Bool.not_false, Bool.not_not, Nat.reduceSub, Nat.reduceAdd, List.nodup_cons, List.nodup_nil, List.not_mem_nil, List.mem_cons, not_false_eq_true, and_self, true_and, and_true, List.all_cons, List.all_nil, Bool.and_true, Bool.true_and]
  refine ⟨mul_ok (by omega) (by omega) (by omega) (by omega), ?_⟩
  have m1 := fun c : Int => Int.emod_nonneg c (b := 2147483629) (by omega)
  have m2 := fun c : Int => Int.emod_lt_of_pos c (b := 2147483629) (by omega)
  have tl : ∀ c : Int, 0 ≤ c → ((0 : Int) < 2147483629 ∧ (c % 2147483629).natAbs.log2 + (Int.natAbs 48271).log2 < 1000000 ∧ (Int.natAbs 20021).log2 + k.natAbs.log2 < 1000000 ∧ (0 : Int) < 2147483629) ∧ ∀ a, a = c ∨ a = 0 → BxOk a ((c % 2147483629 * 48271 + 20021 * k) % 2147483629 + 1) := fun c hc => by
    have p1 := m1 c
    have p2 := m2 c
    refine ⟨⟨by omega, mul_ok (by omega) (by omega) (by omega) (by omega), mul_ok (by omega) (by omega) (by omega) (by omega), by omega⟩, fun a ha => ⟨by omega, ?_, ?_⟩⟩
    · have := m1 (c % 2147483629 * 48271 + 20021 * k)
      omega
    · have := m2 (c % 2147483629 * 48271 + 20021 * k)
      omega
  refine sel_in (fun h2 => ?_) (fun h2 => ?_)
  · have h2 := of_decide_eq_true h2
    simp only [w_C, w_Var, w_retO, w_bindE, w_evEx, w_evPk, argDat_val, argDat_lend, w_retF, w_retF1, w_P2, w_P1, w_Chain, w_ChainM, w_IfE, w_AndV, w_OrV, w_NotV, w_Tup, w_Lst, w_Slice, w_SliceM, w_evPn, w_evPs, w_PN, w_Call, w_Make, w_makeO, w_Meth, w_Len, w_lenK, w_Str, w_Fmt, w_Join0, w_Join, w_Xf, w_Xi, w_Lc, w_Tru, w_Test, w_And, w_Or, w_Not, w_aNil, w_aCons, w_rNil, w_rVal, w_rLend, w_rPk, w_rDfl, w_rSelf, w_iArgs, w_iSeq, w_Seq, thenS_nx, thenS_rt, thenS_bk, thenS_ct, w_Nx, w_Ret, w_RetN, w_RetV, w_Expr, w_nxO, w_Asg, w_If, w_Unp, w_mutS, w_SetF, w_App, w_Ix, w_Par2, w_Raise, w_Try, w_Try0, w_For, w_Sup, endQ_nx, endQ_rt, sat_some, sat_none, sat_ite, sat_map, sat_bind, selO_some, selO_none, sel_true, sel_false, sel_not, wp_ok, wp_ex, wp_st, wp_ite, f_lt, f_le, f_gt, f_ge, f_add, f_sub, f_mul, f_mod, f_fdiv, f_neg, f_p6, f_p9, f_p12, f_p18, f_p20, f_p30, f_int, f_abs, f_max, f_min, f_sqL, f_sqT, f_sqR, f_lenL, f_lenT, f_lenR, f_at20, f_at21, f_set20, f_set21, f_t10, f_t20, f_t21, f_t30, f_t31, f_t32, f_t40, f_t41, f_t42, f_t43, f_eqI, f_eqS, f_isN, w_Yes, o_lend, o_lst, o_tup, o_rol, o_str, o_obj, startE, pslot, putS_eq, isIo_un, isIo_fz, isIo_ow, isIo_xc, isIo_io, slotOf, slotData, setData, putIos, iosOf, lends, argsD, argD, isLst, asB, asI, newO_ok, newX_ok, asObj, asNil, asS, gNm, gsNil, gsCons, gTu, wipeE, backE, ownFree, isCls0, appF, bareX, clrX, List.map_cons, List.map_nil, List.length_cons, List.length_nil, List.replicate_succ, List.replicate_zero, List.cons_append, List.nil_append, List.append_nil, List.getElem?_cons_zero, List.getElem?_cons_succ, List.getElem?_nil, List.set_cons_zero, List.set_cons_succ, Option.bind_some, Option.bind_none, Option.map_some, Option.map_none, Option.getD_some, Option.getD_none, sz, Nat.reduceLeDiff, Int.reduceLT, Int.reduceLE, decide_true, decide_false, Int.reduceBEq, Int.reduceBNe, Bool.false_eq_true, if_false, if_true, Bool.false_xor, Bool.true_xor, Bool.not_true, Bool.not_false, Bool.not_not, Nat.reduceSub, Nat.reduceAdd, List.nodup_cons, List.nodup_nil, List.not_mem_nil, List.mem_cons, not_false_eq_true, and_self, true_and, and_true, List.all_cons, List.all_nil, Bool.and_true, Bool.true_and]
    rw [f_atR h0 h2]
    simp only [w_C, w_Var, w_retO, w_bindE, w_evEx, w_evPk, argDat_val, argDat_lend, w_retF, w_retF1, w_P2, w_P1, w_Chain, w_ChainM, w_IfE, w_AndV, w_OrV, w_NotV, w_Tup, w_Lst, w_Slice, w_SliceM, w_evPn, w_evPs, w_PN, w_Call, w_Make, w_makeO, w_Meth, w_Len, w_lenK, w_Str, w_Fmt, w_Join0, w_Join, w_Xf, w_Xi, w_Lc, w_Tru, w_Test, w_And, w_Or, w_Not, w_aNil, w_aCons, w_rNil, w_rVal, w_rLend, w_rPk, w_rDfl, w_rSelf, w_iArgs, w_iSeq, w_Seq, thenS_nx, thenS_rt, thenS_bk, thenS_ct, w_Nx, w_Ret, w_RetN, w_RetV, w_Expr, w_nxO, w_Asg, w_If, w_Unp, w_mutS, w_SetF, w_App, w_Ix, w_Par2, w_Raise, w_Try, w_Try0, w_For, w_Sup, endQ_nx, endQ_rt, sat_some, sat_none, sat_ite, sat_map, sat_bind, selO_some, selO_none, sel_true, sel_false, sel_not, wp_ok, wp_ex, wp_st, wp_ite, f_lt, f_le, f_gt, f_ge, f_add, f_sub, f_mul, f_mod, f_fdiv, f_neg, f_p6, f_p9, f_p12, f_p18, f_p20, f_p30, f_int, f_abs, f_max, f_min, f_sqL, f_sqT, f_sqR, f_lenL, f_lenT, f_lenR, f_at20, f_at21, f_set20, f_set21, f_t10, f_t20, f_t21, f_t30, f_t31, f_t32, f_t40, f_t41, f_t42, f_t43, f_eqI, f_eqS, f_isN, w_Yes, o_lend, o_lst, o_tup, o_rol, o_str, o_obj, startE, pslot, putS_eq, isIo_un, isIo_fz, isIo_ow, isIo_xc, isIo_io, slotOf, slotData, setData, putIos, iosOf, lends, argsD, argD, isLst, asB, asI, newO_ok, newX_ok, asObj, asNil, asS, gNm, gsNil, gsCons, gTu, wipeE, backE, ownFree, isCls0, appF, bareX, clrX, List.map_cons, List.map_nil, List.length_cons, List.length_nil, List.replicate_succ, List.replicate_zero, List.cons_append, List.nil_append, List.append_nil, List.getElem?_cons_zero, List.getElem?_cons_succ, List.getElem?_nil, List.set_cons_zero, List.set_cons_succ, Option.bind_some, Option.bind_none, Option.map_some, Option.map_none, Option.getD_some, Option.getD_none, sz, Nat.reduceLeDiff, Int.reduceLT, Int.reduceLE, decide_true, decide_false, Int.reduceBEq, Int.reduceBNe, Bool.false_eq_true, if_false, if_true, Bool.false_xor, Bool.true_xor, Bool.not_true, Bool.not_false, Bool.not_not, Nat.reduceSub, Nat.reduceAdd, List.nodup_cons, List.nodup_nil, List.not_mem_nil, List.mem_cons, not_false_eq_true, and_self, true_and, and_true, List.all_cons, List.all_nil, Bool.and_true, Bool.true_and, List.getElem_map]
    obtain ⟨t1, t2⟩ := tl (if ns[k.toNat]'(by simp at h2; omega) < 0 then -ns[k.toNat]'(by simp at h2; omega) else ns[k.toNat]'(by simp at h2; omega)) (by split <;> omega)
    refine sel_in (fun h4 => ?_) (fun h4 => ?_)
    · simp only [w_C, w_Var, w_retO, w_bindE, w_evEx, w_evPk, argDat_val, argDat_lend, w_retF, w_retF1, w_P2, w_P1, w_Chain, w_ChainM, w_IfE, w_AndV, w_OrV, w_NotV, w_Tup, w_Lst, w_Slice, w_SliceM, w_evPn, w_evPs, w_PN, w_Call, w_Make, w_makeO, w_Meth, w_Len, w_lenK, w_Str, w_Fmt, w_Join0, w_Join, w_Xf, w_Xi, w_Lc, w_Tru, w_Test, w_And, w_Or, w_Not, w_aNil, w_aCons, w_rNil, w_rVal, w_rLend, w_rPk, w_rDfl, w_rSelf, w_iArgs, w_iSeq, w_Seq, thenS_nx, thenS_rt, thenS_bk, thenS_ct, w_Nx, w_Ret, w_RetN, w_RetV, w_Expr, w_nxO, w_Asg, w_If, w_Unp, w_mutS, w_SetF, w_App, w_Ix, w_Par2, w_Raise, w_Try, w_Try0, w_For, w_Sup, endQ_nx, endQ_rt, sat_some, sat_none, sat_ite, sat_map, sat_bind, selO_some, selO_none, sel_true, sel_false, sel_not, wp_ok, wp_ex, wp_st, wp_ite, f_lt, f_le, f_gt, f_ge, f_add, f_sub, f_mul, f_mod, f_fdiv, f_neg, f_p6, f_p9, f_p12, f_p18, f_p20, f_p30, f_int, f_abs, f_max, f_min, f_sqL, f_sqT, f_sqR, f_lenL, f_lenT, f_lenR, f_at20, f_at21, f_set20, f_set21, f_t10, f_t20, f_t21, f_t30, f_t31, f_t32, f_t40, f_t41, f_t42, f_t43, f_eqI, f_eqS, f_isN, w_Yes, o_lend, o_lst, o_tup, o_rol, o_str, o_obj, startE, pslot, putS_eq, isIo_un, isIo_fz, isIo_ow, isIo_xc, isIo_io, slotOf, slotData, setData, putIos, iosOf, lends, argsD, argD, isLst, asB, asI, newO_ok, newX_ok, asObj, asNil, asS, gNm, gsNil, gsCons, gTu, wipeE, backE, ownFree, isCls0, appF, bareX, clrX, List.map_cons, List.map_nil, List.length_cons, List.length_nil, List.replicate_succ, List.replicate_zero, List.cons_append, List.nil_append, List.append_nil, List.getElem?_cons_zero, List.getElem?_cons_succ, List.getElem?_nil, List.set_cons_zero, List.set_cons_succ, Option.bind_some, Option.bind_none, Option.map_some, Option.map_none, Option.getD_some, Option.getD_none, sz, Nat.reduceLeDiff, Int.reduceLT, Int.reduceLE, decide_true, decide_false, Int.reduceBEq, Int.reduceBNe, Bool.false_eq_true, if_false, if_true, Bool.false_xor, Bool.true_xor, Bool.not_true, Bool.not_false, Bool.not_not, Nat.reduceSub, Nat.reduceAdd, List.nodup_cons, List.nodup_nil, List.not_mem_nil, List.mem_cons, not_false_eq_true, and_self, true_and, and_true, List.all_cons, List.all_nil, Bool.and_true, Bool.true_and]
      exact ⟨t1.2.1, t1.2.2.1, h _ _ (t2 _ (.inl rfl))⟩
    · simp only [w_C, w_Var, w_retO, w_bindE, w_evEx, w_evPk, argDat_val, argDat_lend, w_retF, w_retF1, w_P2, w_P1, w_Chain, w_ChainM, w_IfE, w_AndV, w_OrV, w_NotV, w_Tup, w_Lst, w_Slice, w_SliceM, w_evPn, w_evPs, w_PN, w_Call, w_Make, w_makeO, w_Meth, w_Len, w_lenK, w_Str, w_Fmt, w_Join0, w_Join, w_Xf, w_Xi, w_Lc, w_Tru, w_Test, w_And, w_Or, w_Not, w_aNil, w_aCons, w_rNil, w_rVal, w_rLend, w_rPk, w_rDfl, w_rSelf, w_iArgs, w_iSeq, w_Seq, thenS_nx, thenS_rt, thenS_bk, thenS_ct, w_Nx, w_Ret, w_RetN, w_RetV, w_Expr, w_nxO, w_Asg, w_If, w_Unp, w_mutS, w_SetF, w_App, w_Ix, w_Par2, w_Raise, w_Try, w_Try0, w_For, w_Sup, endQ_nx, endQ_rt, sat_some, sat_none, sat_ite, sat_map, sat_bind, selO_some, selO_none, sel_true, sel_false, sel_not, wp_ok, wp_ex, wp_st, wp_ite, f_lt, f_le, f_gt, f_ge, f_add, f_sub, f_mul, f_mod, f_fdiv, f_neg, f_p6, f_p9, f_p12, f_p18, f_p20, f_p30, f_int, f_abs, f_max, f_min, f_sqL, f_sqT, f_sqR, f_lenL, f_lenT, f_lenR, f_at20, f_at21, f_set20, f_set21, f_t10, f_t20, f_t21, f_t30, f_t31, f_t32, f_t40, f_t41, f_t42, f_t43, f_eqI, f_eqS, f_isN, w_Yes, o_lend, o_lst, o_tup, o_rol, o_str, o_obj, startE, pslot, putS_eq, isIo_un, isIo_fz, isIo_ow, isIo_xc, isIo_io, slotOf, slotData, setData, putIos, iosOf, lends, argsD, argD, isLst, asB, asI, newO_ok, newX_ok, asObj, asNil, asS, gNm, gsNil, gsCons, gTu, wipeE, backE, ownFree, isCls0, appF, bareX, clrX, List.map_cons, List.map_nil, List.length_cons, List.length_nil, List.replicate_succ, List.replicate_zero, List.cons_append, List.nil_append, List.append_nil, List.getElem?_cons_zero, List.getElem?_cons_succ, List.getElem?_nil, List.set_cons_zero, List.set_cons_succ, Option.bind_some, Option.bind_none, Option.map_some, Option.map_none, Option.getD_some, Option.getD_none, sz, Nat.reduceLeDiff, Int.reduceLT, Int.reduceLE, decide_true, decide_false, Int.reduceBEq, Int.reduceBNe, Bool.false_eq_true, if_false, if_true, Bool.false_xor, Bool.true_xor, Bool.not_true, Bool.not_false, Bool.not_not, Nat.reduceSub, Nat.reduceAdd, List.nodup_cons, List.nodup_nil, List.not_mem_nil, List.mem_cons, not_false_eq_true, and_self, true_and, and_true, List.all_cons, List.all_nil, Bool.and_true, Bool.true_and]
      exact ⟨t1.2.1, t1.2.2.1, h _ _ (t2 _ (.inr rfl))⟩
  · simp only [w_C, w_Var, w_retO, w_bindE, w_evEx, w_evPk, argDat_val, argDat_lend, w_retF, w_retF1, w_P2, w_P1, w_Chain, w_ChainM, w_IfE, w_AndV, w_OrV, w_NotV, w_Tup, w_Lst, w_Slice, w_SliceM, w_evPn, w_evPs, w_PN, w_Call, w_Make, w_makeO, w_Meth, w_Len, w_lenK, w_Str, w_Fmt, w_Join0, w_Join, w_Xf, w_Xi, w_Lc, w_Tru, w_Test, w_And, w_Or, w_Not, w_aNil, w_aCons, w_rNil, w_rVal, w_rLend, w_rPk, w_rDfl, w_rSelf, w_iArgs, w_iSeq, w_Seq, thenS_nx, thenS_rt, thenS_bk, thenS_ct, w_Nx, w_Ret, w_RetN, w_RetV, w_Expr, w_nxO, w_Asg, w_If, w_Unp, w_mutS, w_SetF, w_App, w_Ix, w_Par2, w_Raise, w_Try, w_Try0, w_For, w_Sup, endQ_nx, endQ_rt, sat_some, sat_none, sat_ite, sat_map, sat_bind, selO_some, selO_none, sel_true, sel_false, sel_not, wp_ok, wp_ex, wp_st, wp_ite, f_lt, f_le, f_gt, f_ge, f_add, f_sub, f_mul, f_mod, f_fdiv, f_neg, f_p6, f_p9, f_p12, f_p18, f_p20, f_p30, f_int, f_abs, f_max, f_min, f_sqL, f_sqT, f_sqR, f_lenL, f_lenT, f_lenR, f_at20, f_at21, f_set20, f_set21, f_t10, f_t20, f_t21, f_t30, f_t31, f_t32, f_t40, f_t41, f_t42, f_t43, f_eqI, f_eqS, f_isN, w_Yes, o_lend, o_lst, o_tup, o_rol, o_str, o_obj, startE, pslot, putS_eq, isIo_un, isIo_fz, isIo_ow, isIo_xc, isIo_io, slotOf, slotData, setData, putIos, iosOf, lends, argsD, argD, isLst, asB, asI, newO_ok, newX_ok, asObj, asNil, asS, gNm, gsNil, gsCons, gTu, wipeE, backE, ownFree, isCls0, appF, bareX, clrX, List.map_cons, List.map_nil, List.length_cons, List.length_nil, List.replicate_succ, List.replicate_zero, List.cons_append, List.nil_append, List.append_nil, List.getElem?_cons_zero, List.getElem?_cons_succ, List.getElem?_nil, List.set_cons_zero, List.set_cons_succ, Option.bind_some, Option.bind_none, Option.map_some, Option.map_none, Option.getD_some, Option.getD_none, sz, Nat.reduceLeDiff, Int.reduceLT, Int.reduceLE, decide_true, decide_false, Int.reduceBEq, Int.reduceBNe, Bool.false_eq_true, if_false, if_true, Bool.false_xor, Bool.true_xor, Bool.not_true, Bool.not_false, Bool.not_not, Nat.reduceSub, Nat.reduceAdd, List.nodup_cons, List.nodup_nil, List.not_mem_nil, List.mem_cons, not_false_eq_true, and_self, true_and, and_true, List.all_cons, List.all_nil, Bool.and_true, Bool.true_and]
    refine sel_in (fun h3 => ?_) (fun h3 => ?_)
    · have h3 := of_decide_eq_true h3
      simp only [w_C, w_Var, w_retO, w_bindE, w_evEx, w_evPk, argDat_val, argDat_lend, w_retF, w_retF1, w_P2, w_P1, w_Chain, w_ChainM, w_IfE, w_AndV, w_OrV, w_NotV, w_Tup, w_Lst, w_Slice, w_SliceM, w_evPn, w_evPs, w_PN, w_Call, w_Make, w_makeO, w_Meth, w_Len, w_lenK, w_Str, w_Fmt, w_Join0, w_Join, w_Xf, w_Xi, w_Lc, w_Tru, w_Test, w_And, w_Or, w_Not, w_aNil, w_aCons, w_rNil, w_rVal, w_rLend, w_rPk, w_rDfl, w_rSelf, w_iArgs, w_iSeq, w_Seq, thenS_nx, thenS_rt, thenS_bk, thenS_ct, w_Nx, w_Ret, w_RetN, w_RetV, w_Expr, w_nxO, w_Asg, w_If, w_Unp, w_mutS, w_SetF, w_App, w_Ix, w_Par2, w_Raise, w_Try, w_Try0, w_For, w_Sup, endQ_nx, endQ_rt, sat_some, sat_none, sat_ite, sat_map, sat_bind, selO_some, selO_none, sel_true, sel_false, sel_not, wp_ok, wp_ex, wp_st, wp_ite, f_lt, f_le, f_gt, f_ge, f_add, f_sub, f_mul, f_mod, f_fdiv, f_neg, f_p6, f_p9, f_p12, f_p18, f_p20, f_p30, f_int, f_abs, f_max, f_min, f_sqL, f_sqT, f_sqR, f_lenL, f_lenT, f_lenR, f_at20, f_at21, f_set20, f_set21, f_t10, f_t20, f_t21, f_t30, f_t31, f_t32, f_t40, f_t41, f_t42, f_t43, f_eqI, f_eqS, f_isN, w_Yes, o_lend, o_lst, o_tup, o_rol, o_str, o_obj, startE, pslot, putS_eq, isIo_un, isIo_fz, isIo_ow, isIo_xc, isIo_io, slotOf, slotData, setData, putIos, iosOf, lends, argsD, argD, isLst, asB, asI, newO_ok, newX_ok, asObj, asNil, asS, gNm, gsNil, gsCons, gTu, wipeE, backE, ownFree, isCls0, appF, bareX, clrX, List.map_cons, List.map_nil, List.length_cons, List.length_nil, List.replicate_succ, List.replicate_zero, List.cons_append, List.nil_append, List.append_nil, List.getElem?_cons_zero, List.getElem?_cons_succ, List.getElem?_nil, List.set_cons_zero, List.set_cons_succ, Option.bind_some, Option.bind_none, Option.map_some, Option.map_none, Option.getD_some, Option.getD_none, sz, Nat.reduceLeDiff, Int.reduceLT, Int.reduceLE, decide_true, decide_false, Int.reduceBEq, Int.reduceBNe, Bool.false_eq_true, if_false, if_true, Bool.false_xor, Bool.true_xor, Bool.not_true, Bool.not_false, Bool.not_not, Nat.reduceSub, Nat.reduceAdd, List.nodup_cons, List.nodup_nil, List.not_mem_nil, List.mem_cons, not_false_eq_true, and_self, true_and, and_true, List.all_cons, List.all_nil, Bool.and_true, Bool.true_and]
      refine ⟨h3, ?_⟩
      have g1 := Int.emod_nonneg k (b := ((ns.map D.int).length : Int)) (by omega)
      have g2 := Int.emod_lt_of_pos k h3
      rw [f_atR g1 g2]
      simp only [w_C, w_Var, w_retO, w_bindE, w_evEx, w_evPk, argDat_val, argDat_lend, w_retF, w_retF1, w_P2, w_P1, w_Chain, w_ChainM, w_IfE, w_AndV, w_OrV, w_NotV, w_Tup, w_Lst, w_Slice, w_SliceM, w_evPn, w_evPs, w_PN, w_Call, w_Make, w_makeO, w_Meth, w_Len, w_lenK, w_Str, w_Fmt, w_Join0, w_Join, w_Xf, w_Xi, w_Lc, w_Tru, w_Test, w_And, w_Or, w_Not, w_aNil, w_aCons, w_rNil, w_rVal, w_rLend, w_rPk, w_rDfl, w_rSelf, w_iArgs, w_iSeq, w_Seq, thenS_nx, thenS_rt, thenS_bk, thenS_ct, w_Nx, w_Ret, w_RetN, w_RetV, w_Expr, w_nxO, w_Asg, w_If, w_Unp, w_mutS, w_SetF, w_App, w_Ix, w_Par2, w_Raise, w_Try, w_Try0, w_For, w_Sup, endQ_nx, endQ_rt, sat_some, sat_none, sat_ite, sat_map, sat_bind, selO_some, selO_none, sel_true, sel_false, sel_not, wp_ok, wp_ex, wp_st, wp_ite, f_lt, f_le, f_gt, f_ge, f_add, f_sub, f_mul, f_mod, f_fdiv, f_neg, f_p6, f_p9, f_p12, f_p18, f_p20, f_p30, f_int, f_abs, f_max, f_min, f_sqL, f_sqT, f_sqR, f_lenL, f_lenT, f_lenR, f_at20, f_at21, f_set20, f_set21, f_t10, f_t20, f_t21, f_t30, f_t31, f_t32, f_t40, f_t41, f_t42, f_t43, f_eqI, f_eqS, f_isN, w_Yes, o_lend, o_lst, o_tup, o_rol, o_str, o_obj, startE, pslot, putS_eq, isIo_un, isIo_fz, isIo_ow, isIo_xc, isIo_io, slotOf, slotData, setData, putIos, iosOf, lends, argsD, argD, isLst, asB, asI, newO_ok, newX_ok, asObj, asNil, asS, gNm, gsNil, gsCons, gTu, wipeE, backE, ownFree, isCls0, appF, bareX, clrX, List.map_cons, List.map_nil, List.length_cons, List.length_nil, List.replicate_succ, List.replicate_zero, List.cons_append, List.nil_append, List.append_nil, List.getElem?_cons_zero, List.getElem?_cons_succ, List.getElem?_nil, List.set_cons_zero, List.set_cons_succ, Option.bind_some, Option.bind_none, Option.map_some, Option.map_none, Option.getD_some, Option.getD_none, sz, Nat.reduceLeDiff, Int.reduceLT, Int.reduceLE, decide_true, decide_false, Int.reduceBEq, Int.reduceBNe, Bool.false_eq_true, if_false, if_true, Bool.false_xor, Bool.true_xor, Bool.not_true, Bool.not_false, Bool.not_not, Nat.reduceSub, Nat.reduceAdd, List.nodup_cons, List.nodup_nil, List.not_mem_nil, List.mem_cons, not_false_eq_true, and_self, true_and, and_true, List.all_cons, List.all_nil, Bool.and_true, Bool.true_and, List.getElem_map]
      have g3 : (k % ((ns.map D.int).length : Int)).toNat < ns.length := by
        have : (k % ((ns.map D.int).length : Int)).toNat < (ns.map D.int).length := by omega
        simpa using this
      generalize hv : ns[(k % ((ns.map D.int).length : Int)).toNat] = v
      have p1 := m1 (if v < 0 then -v else v)
      have p2 := m2 (if v < 0 then -v else v)
      obtain ⟨t1, t2⟩ := tl (7411 * k + 29 + (if v < 0 then -v else v) % 2147483629 * 40093) (by omega)
      refine ⟨mul_ok (by omega) (by omega) (by omega) (by omega), ?_⟩
      refine sel_in (fun h4 => ?_) (fun h4 => ?_)
      · simp only [w_C, w_Var, w_retO, w_bindE, w_evEx, w_evPk, argDat_val, argDat_lend, w_retF, w_retF1, w_P2, w_P1, w_Chain, w_ChainM, w_IfE, w_AndV, w_OrV, w_NotV, w_Tup, w_Lst, w_Slice, w_SliceM, w_evPn, w_evPs, w_PN, w_Call, w_Make, w_makeO, w_Meth, w_Len, w_lenK, w_Str, w_Fmt, w_Join0, w_Join, w_Xf, w_Xi, w_Lc, w_Tru, w_Test, w_And, w_Or, w_Not, w_aNil, w_aCons, w_rNil, w_rVal, w_rLend, w_rPk, w_rDfl, w_rSelf, w_iArgs, w_iSeq, w_Seq, thenS_nx, thenS_rt, thenS_bk, thenS_ct, w_Nx, w_Ret, w_RetN, w_RetV, w_Expr, w_nxO, w_Asg, w_If, w_Unp, w_mutS, w_SetF, w_App, w_Ix, w_Par2, w_Raise, w_Try, w_Try0, w_For, w_Sup, endQ_nx, endQ_rt, sat_some, sat_none, sat_ite, sat_map, sat_bind, selO_some, selO_none, sel_true, sel_false, sel_not, wp_ok, wp_ex, wp_st, wp_ite, f_lt, f_le, f_gt, f_ge, f_add, f_sub, f_mul, f_mod, f_fdiv, f_neg, f_p6, f_p9, f_p12, f_p18, f_p20, f_p30, f_int, f_abs, f_max, f_min, f_sqL, f_sqT, f_sqR, f_lenL, f_lenT, f_lenR, f_at20, f_at21, f_set20, f_set21, f_t10, f_t20, f_t21, f_t30, f_t31, f_t32, f_t40, f_t41, f_t42, f_t43, f_eqI, f_eqS, f_isN, w_Yes, o_lend, o_lst, o_tup, o_rol, o_str, o_obj, startE, pslot, putS_eq, isIo_un, isIo_fz, isIo_ow, isIo_xc, isIo_io, slotOf, slotData, setData, putIos, iosOf, lends, argsD, argD, isLst, asB, asI, newO_ok, newX_ok, asObj, asNil, asS, gNm, gsNil, gsCons, gTu, wipeE, backE, ownFree, isCls0, appF, bareX, clrX, List.map_cons, List.map_nil, List.length_cons, List.length_nil, List.replicate_succ, List.replicate_zero, List.cons_append, List.nil_append, List.append_nil, List.getElem?_cons_zero, List.getElem?_cons_succ, List.getElem?_nil, List.set_cons_zero, List.set_cons_succ, Option.bind_some, Option.bind_none, Option.map_some, Option.map_none, Option.getD_some, Option.getD_none, sz, Nat.reduceLeDiff, Int.reduceLT, Int.reduceLE, decide_true, decide_false, Int.reduceBEq, Int.reduceBNe, Bool.false_eq_true, if_false, if_true, Bool.false_xor, Bool.true_xor, Bool.not_true, Bool.not_false, Bool.not_not, Nat.reduceSub, Nat.reduceAdd, List.nodup_cons, List.nodup_nil, List.not_mem_nil, List.mem_cons, not_false_eq_true, and_self, true_and, and_true, List.all_cons, List.all_nil, Bool.and_true, Bool.true_and]
        exact ⟨t1.2.1, t1.2.2.1, h _ _ (t2 _ (.inl rfl))⟩
      · simp only [w_C, w_Var, w_retO, w_bindE, w_evEx, w_evPk, argDat_val, argDat_lend, w_retF, w_retF1, w_P2, w_P1, w_Chain, w_ChainM, w_IfE, w_AndV, w_OrV, w_NotV, w_Tup, w_Lst, w_Slice, w_SliceM, w_evPn, w_evPs, w_PN, w_Call, w_Make, w_makeO, w_Meth, w_Len, w_lenK, w_Str, w_Fmt, w_Join0, w_Join, w_Xf, w_Xi, w_Lc, w_Tru, w_Test, w_And, w_Or, w_Not, w_aNil, w_aCons, w_rNil, w_rVal, w_rLend, w_rPk, w_rDfl, w_rSelf, w_iArgs, w_iSeq, w_Seq, thenS_nx, thenS_rt, thenS_bk, thenS_ct, w_Nx, w_Ret, w_RetN, w_RetV, w_Expr, w_nxO, w_Asg, w_If, w_Unp, w_mutS, w_SetF, w_App, w_Ix, w_Par2, w_Raise, w_Try, w_Try0, w_For, w_Sup, endQ_nx, endQ_rt, sat_some, sat_none, sat_ite, sat_map, sat_bind, selO_some, selO_none, sel_true, sel_false, sel_not, wp_ok, wp_ex, wp_st, wp_ite, f_lt, f_le, f_gt, f_ge, f_add, f_sub, f_mul, f_mod, f_fdiv, f_neg, f_p6, f_p9, f_p12, f_p18, f_p20, f_p30, f_int, f_abs, f_max, f_min, f_sqL, f_sqT, f_sqR, f_lenL, f_lenT, f_lenR, f_at20, f_at21, f_set20, f_set21, f_t10, f_t20, f_t21, f_t30, f_t31, f_t32, f_t40, f_t41, f_t42, f_t43, f_eqI, f_eqS, f_isN, w_Yes, o_lend, o_lst, o_tup, o_rol, o_str, o_obj, startE, pslot, putS_eq, isIo_un, isIo_fz, isIo_ow, isIo_xc, isIo_io, slotOf, slotData, setData, putIos, iosOf, lends, argsD, argD, isLst, asB, asI, newO_ok, newX_ok, asObj, asNil, asS, gNm, gsNil, gsCons, gTu, wipeE, backE, ownFree, isCls0, appF, bareX, clrX, List.map_cons, List.map_nil, List.length_cons, List.length_nil, List.replicate_succ, List.replicate_zero, List.cons_append, List.nil_append, List.append_nil, List.getElem?_cons_zero, List.getElem?_cons_succ, List.getElem?_nil, List.set_cons_zero, List.set_cons_succ, Option.bind_some, Option.bind_none, Option.map_some, Option.map_none, Option.getD_some, Option.getD_none, sz, Nat.reduceLeDiff, Int.reduceLT, Int.reduceLE, decide_true, decide_false, Int.reduceBEq, Int.reduceBNe, Bool.false_eq_true, if_false, if_true, Bool.false_xor, Bool.true_xor, Bool.not_true, Bool.not_false, Bool.not_not, Nat.reduceSub, Nat.reduceAdd, List.nodup_cons, List.nodup_nil, List.not_mem_nil, List.mem_cons, not_false_eq_true, and_self, true_and, and_true, List.all_cons, List.all_nil, Bool.and_true, Bool.true_and]
        exact ⟨t1.2.1, t1.2.2.1, h _ _ (t2 _ (.inr rfl))⟩
    · simp only [w_C, w_Var, w_retO, w_bindE, w_evEx, w_evPk, argDat_val, argDat_lend, w_retF, w_retF1, w_P2, w_P1, w_Chain, w_ChainM, w_IfE, w_AndV, w_OrV, w_NotV, w_Tup, w_Lst, w_Slice, w_SliceM, w_evPn, w_evPs, w_PN, w_Call, w_Make, w_makeO, w_Meth, w_Len, w_lenK, w_Str, w_Fmt, w_Join0, w_Join, w_Xf, w_Xi, w_Lc, w_Tru, w_Test, w_And, w_Or, w_Not, w_aNil, w_aCons, w_rNil, w_rVal, w_rLend, w_rPk, w_rDfl, w_rSelf, w_iArgs, w_iSeq, w_Seq, thenS_nx, thenS_rt, thenS_bk, thenS_ct, w_Nx, w_Ret, w_RetN, w_RetV, w_Expr, w_nxO, w_Asg, w_If, w_Unp, w_mutS, w_SetF, w_App, w_Ix, w_Par2, w_Raise, w_Try, w_Try0, w_For, w_Sup, endQ_nx, endQ_rt, sat_some, sat_none, sat_ite, sat_map, sat_bind, selO_some, selO_none, sel_true, sel_false, sel_not, wp_ok, wp_ex, wp_st, wp_ite, f_lt, f_le, f_gt, f_ge, f_add, f_sub, f_mul, f_mod, f_fdiv, f_neg, f_p6, f_p9, f_p12, f_p18, f_p20, f_p30, f_int, f_abs, f_max, f_min, f_sqL, f_sqT, f_sqR, f_lenL, f_lenT, f_lenR, f_at20, f_at21, f_set20, f_set21, f_t10, f_t20, f_t21, f_t30, f_t31, f_t32, f_t40, f_t41, f_t42, f_t43, f_eqI, f_eqS, f_isN, w_Yes, o_lend, o_lst, o_tup, o_rol, o_str, o_obj, startE, pslot, putS_eq, isIo_un, isIo_fz, isIo_ow, isIo_xc, isIo_io, slotOf, slotData, setData, putIos, iosOf, lends, argsD, argD, isLst, asB, asI, newO_ok, newX_ok, asObj, asNil, asS, gNm, gsNil, gsCons, gTu, wipeE, backE, ownFree, isCls0, appF, bareX, clrX, List.map_cons, List.map_nil, List.length_cons, List.length_nil, List.replicate_succ, List.replicate_zero, List.cons_append, List.nil_append, List.append_nil, List.getElem?_cons_zero, List.getElem?_cons_succ, List.getElem?_nil, List.set_cons_zero, List.set_cons_succ, Option.bind_some, Option.bind_none, Option.map_some, Option.map_none, Option.getD_some, Option.getD_none, sz, Nat.reduceLeDiff, Int.reduceLT, Int.reduceLE, decide_true, decide_false, Int.reduceBEq, Int.reduceBNe, Bool.false_eq_true, if_false, if_true, Bool.false_xor, Bool.true_xor, Bool.not_true, Bool.not_false, Bool.not_not, Nat.reduceSub, Nat.reduceAdd, List.nodup_cons, List.nodup_nil, List.not_mem_nil, List.mem_cons, not_false_eq_true, and_self, true_and, and_true, List.all_cons, List.all_nil, Bool.and_true, Bool.true_and]
      obtain ⟨t1, t2⟩ := tl (7411 * k + 29) (by omega)
      refine sel_in (fun h4 => ?_) (fun h4 => ?_)
      · simp only [w_C, w_Var, w_retO, w_bindE, w_evEx, w_evPk, argDat_val, argDat_lend, w_retF, w_retF1, w_P2, w_P1, w_Chain, w_ChainM, w_IfE, w_AndV, w_OrV, w_NotV, w_Tup, w_Lst, w_Slice, w_SliceM, w_evPn, w_evPs, w_PN, w_Call, w_Make, w_makeO, w_Meth, w_Len, w_lenK, w_Str, w_Fmt, w_Join0, w_Join, w_Xf, w_Xi, w_Lc, w_Tru, w_Test, w_And, w_Or, w_Not, w_aNil, w_aCons, w_rNil, w_rVal, w_rLend, w_rPk, w_rDfl, w_rSelf, w_iArgs, w_iSeq, w_Seq, thenS_nx, thenS_rt, thenS_bk, thenS_ct, w_Nx, w_Ret, w_RetN, w_RetV, w_Expr, w_nxO, w_Asg, w_If, w_Unp, w_mutS, w_SetF, w_App, w_Ix, w_Par2, w_Raise, w_Try, w_Try0, w_For, w_Sup, endQ_nx, endQ_rt, sat_some, sat_none, sat_ite, sat_map, sat_bind, selO_some, selO_none, sel_true, sel_false, sel_not, wp_ok, wp_ex, wp_st, wp_ite, f_lt, f_le, f_gt, f_ge, f_add, f_sub, f_mul, f_mod, f_fdiv, f_neg, f_p6, f_p9, f_p12, f_p18, f_p20, f_p30, f_int, f_abs, f_max, f_min, f_sqL, f_sqT, f_sqR, f_lenL, f_lenT, f_lenR, f_at20, f_at21, f_set20, f_set21, f_t10, f_t20, f_t21, f_t30, f_t31, f_t32, f_t40, f_t41, f_t42, f_t43, f_eqI, f_eqS, f_isN, w_Yes, o_lend, o_lst, o_tup, o_rol, o_str, o_obj, startE, pslot, putS_eq, isIo_un, isIo_fz, isIo_ow, isIo_xc, isIo_io, slotOf, slotData, setData, putIos, iosOf, lends, argsD, argD, isLst, asB, asI, newO_ok, newX_ok, asObj, asNil, asS, gNm, gsNil, gsCons, gTu, wipeE, backE, ownFree, isCls0, appF, bareX, clrX, List.map_cons, List.map_nil, List.length_cons, List.length_nil, List.replicate_succ, List.replicate_zero, List.cons_append, List.nil_append, List.append_nil, List.getElem?_cons_zero, List.getElem?_cons_succ, List.getElem?_nil, List.set_cons_zero, List.set_cons_succ, Option.bind_some, Option.bind_none, Option.map_some, Option.map_none, Option.getD_some, Option.getD_none, sz, Nat.reduceLeDiff, Int.reduceLT, Int.reduceLE, decide_true, decide_false, Int.reduceBEq, Int.reduceBNe, Bool.false_eq_true, if_false, if_true, Bool.false_xor, Bool.true_xor, Bool.not_true, Bool.not_false, Bool.not_not, Nat.reduceSub, Nat.reduceAdd, List.nodup_cons, List.nodup_nil, List.not_mem_nil, List.mem_cons, not_false_eq_true, and_self, true_and, and_true, List.all_cons, List.all_nil, Bool.and_true, Bool.true_and]
        exact ⟨t1.2.1, t1.2.2.1, h _ _ (t2 _ (.inl rfl))⟩
      · simp only [w_C, w_Var, w_retO, w_bindE, w_evEx, w_evPk, argDat_val, argDat_lend, w_retF, w_retF1, w_P2, w_P1, w_Chain, w_ChainM, w_IfE, w_AndV, w_OrV, w_NotV, w_Tup, w_Lst, w_Slice, w_SliceM, w_evPn, w_evPs, w_PN, w_Call, w_Make, w_makeO, w_Meth, w_Len, w_lenK, w_Str, w_Fmt, w_Join0, w_Join, w_Xf, w_Xi, w_Lc, w_Tru, w_Test, w_And, w_Or, w_Not, w_aNil, w_aCons, w_rNil, w_rVal, w_rLend, w_rPk, w_rDfl, w_rSelf, w_iArgs, w_iSeq, w_Seq, thenS_nx, thenS_rt, thenS_bk, thenS_ct, w_Nx, w_Ret, w_RetN, w_RetV, w_Expr, w_nxO, w_Asg, w_If, w_Unp, w_mutS, w_SetF, w_App, w_Ix, w_Par2, w_Raise, w_Try, w_Try0, w_For, w_Sup, endQ_nx, endQ_rt, sat_some, sat_none, sat_ite, sat_map, sat_bind, selO_some, selO_none, sel_true, sel_false, sel_not, wp_ok, wp_ex, wp_st, wp_ite, f_lt, f_le, f_gt, f_ge, f_add, f_sub, f_mul, f_mod, f_fdiv, f_neg, f_p6, f_p9, f_p12, f_p18, f_p20, f_p30, f_int, f_abs, f_max, f_min, f_sqL, f_sqT, f_sqR, f_lenL, f_lenT, f_lenR, f_at20, f_at21, f_set20, f_set21, f_t10, f_t20, f_t21, f_t30, f_t31, f_t32, f_t40, f_t41, f_t42, f_t43, f_eqI, f_eqS, f_isN, w_Yes, o_lend, o_lst, o_tup, o_rol, o_str, o_obj, startE, pslot, putS_eq, isIo_un, isIo_fz, isIo_ow, isIo_xc, isIo_io, slotOf, slotData, setData, putIos, iosOf, lends, argsD, argD, isLst, asB, asI, newO_ok, newX_ok, asObj, asNil, asS, gNm, gsNil, gsCons, gTu, wipeE, backE, ownFree, isCls0, appF, bareX, clrX, List.map_cons, List.map_nil, List.length_cons, List.length_nil, List.replicate_succ, List.replicate_zero, List.cons_append, List.nil_append, List.append_nil, List.getElem?_cons_zero, List.getElem?_cons_succ, List.getElem?_nil, List.set_cons_zero, List.set_cons_succ, Option.bind_some, Option.bind_none, Option.map_some, Option.map_none, Option.getD_some, Option.getD_none, sz, Nat.reduceLeDiff, Int.reduceLT, Int.reduceLE, decide_true, decide_false, Int.reduceBEq, Int.reduceBNe, Bool.false_eq_true, if_false, if_true, Bool.false_xor, Bool.true_xor, Bool.not_true, Bool.not_false, Bool.not_not, Nat.reduceSub, Nat.reduceAdd, List.nodup_cons, List.nodup_nil, List.not_mem_nil, List.mem_cons, not_false_eq_true, and_self, true_and, and_true, List.all_cons, List.all_nil, Bool.and_true, Bool.true_and]
        exact ⟨t1.2.1, t1.2.2.1, h _ _ (t2 _ (.inr rfl))⟩
end
end DL
set_option maxHeartbeats 8000000
namespace DL
open PySem PySem.Spec PyProof.Rows L2
/-! DM: words and moves of the program. -/
def n_is_integer (G : Gm) (orc : Orc) : SDen :=
 (sSeq (sRet (dAndV (dP1 (isiF (tabI G) (okT G) [.ty "int"]) (.pk 0)) (dNotV (dP1 (isiF (tabI G) (okT G) [.ty "bool"]) (.pk 0)))))
 sNx)
def n_is_number (G : Gm) (orc : Orc) : SDen :=
 (sSeq (sRet (dAndV (dCall (orc (("is_integer" : PySem.Str), none)) (rDfl (rVal (dVar 0) rNil) [])) (dP2 geF (.pk 0) (.ex (dC (.int 0))))))
 sNx)
def n_is_amount (G : Gm) (orc : Orc) : SDen :=
 (sSeq (sRet (dAndV (dCall (orc (("is_integer" : PySem.Str), none)) (rDfl (rVal (dVar 0) rNil) [])) (dP2 geF (.pk 0) (.ex (dC (.int 1))))))
 sNx)
def n_Move_init (G : Gm) (orc : Orc) : SDen :=
 (sSeq (sSetF 0 (okF G "script") "script" (dVar 1))
 sNx)
def n_Move_eq (G : Gm) (orc : Orc) : SDen :=
 (sSeq (sRet (dAndV (dP1 (isiF (tabI G) (okT G) [.own "Move"]) (.pk 1)) (dP2 (eqF false) (.ex (dP1 (fldF (okF G "script") "script") (.pk 0))) (.ex (dP1 (fldF (okF G "script") "script") (.pk 1))))))
 sNx)
def n_Move_str (G : Gm) (orc : Orc) : SDen :=
 (sSeq (sRet (dFmt (dP1 (fldF (okF G "script") "script") (.pk 0))))
 sNx)
def n_Begin_init (G : Gm) (orc : Orc) : SDen :=
 (sSeq (sIf (dNot (dTru (dCall (orc (("is_amount" : PySem.Str), none)) (rDfl (rVal (dVar 1) rNil) []))))
 (sSeq (sRaise "InvalidMove" "word" (dC (.str "amount")))
 sNx)
 sNx)
 (sSeq (sSup "Begin" (orc (("Move" : PySem.Str), some ("__init__" : PySem.Str))) (rVal (joinGo [(dC (.str "begin ")), (dFmt (dVar 1))] Str.empty) rNil) [])
 (sSeq (sSetF 0 (okF G "amount") "amount" (dVar 1))
 sNx)))
def n_Take_init (G : Gm) (orc : Orc) : SDen :=
 (sSeq (sIf (dNot (dTru (dCall (orc (("is_number" : PySem.Str), none)) (rDfl (rVal (dVar 1) rNil) []))))
 (sSeq (sRaise "InvalidMove" "word" (dC (.str "at")))
 sNx)
 sNx)
 (sSeq (sIf (dAnd (dTest (dP2 (isF true) (.pk 2) (.ex (dC .non)))) (dNot (dTru (dCall (orc (("is_amount" : PySem.Str), none)) (rDfl (rVal (dVar 2) rNil) [])))))
 (sSeq (sRaise "InvalidMove" "word" (dC (.str "amount")))
 sNx)
 sNx)
 (sSeq (sSup "Take" (orc (("Move" : PySem.Str), some ("__init__" : PySem.Str))) (rVal (dIfE (dTest (dP2 (isF false) (.pk 2) (.ex (dC .non)))) (joinGo [(dC (.str "take ")), (dFmt (dVar 1))] Str.empty) (joinGo [(dC (.str "take ")), (dFmt (dVar 1)), (dC (.str " by ")), (dFmt (dVar 2))] Str.empty)) rNil) [])
 (sSeq (sSetF 0 (okF G "at") "at" (dVar 1))
 (sSeq (sSetF 0 (okF G "amount") "amount" (dVar 2))
 sNx)))))
def n_Right_init (G : Gm) (orc : Orc) : SDen :=
 (sSeq (sIf (dNot (dTru (dCall (orc (("is_number" : PySem.Str), none)) (rDfl (rVal (dVar 1) rNil) []))))
 (sSeq (sRaise "InvalidMove" "word" (dC (.str "at")))
 sNx)
 sNx)
 (sSeq (sIf (dNot (dTru (dCall (orc (("is_amount" : PySem.Str), none)) (rDfl (rVal (dVar 2) rNil) []))))
 (sSeq (sRaise "InvalidMove" "word" (dC (.str "amount")))
 sNx)
 sNx)
 (sSeq (sSup "Right" (orc (("Move" : PySem.Str), some ("__init__" : PySem.Str))) (rVal (joinGo [(dC (.str "right ")), (dFmt (dVar 1)), (dC (.str " to ")), (dFmt (dVar 2))] Str.empty) rNil) [])
 (sSeq (sSetF 0 (okF G "at") "at" (dVar 1))
 (sSeq (sSetF 0 (okF G "amount") "amount" (dVar 2))
 sNx)))))
def n_Shut_init (G : Gm) (orc : Orc) : SDen :=
 (sSeq (sSup "Shut" (orc (("Move" : PySem.Str), some ("__init__" : PySem.Str))) (rVal (dC (.str "shut")) rNil) [])
 sNx)
/-! ### numbers -/
/-- any value but an object of a class -/
def plain : D → Bool
  | .obj _ _ => false
  | .rol _ => false
  | _ => true
def isInt : D → Bool
  | .int _ => true
  | _ => false
def atLeast (n : Int) : D → Bool
  | .int i => decide (n ≤ i)
  | _ => false
theorem isi_int {G : Gm} {d : D} (h : plain d = true) : isiF (tabI G) (okT G) [.ty "int"] d = some (false, .bl (match d with
  | .int _ => true
  | .bl _ => true
  | _ => false)) := by cases d <;> first | rfl | cases h
theorem isi_bool {G : Gm} {d : D} (h : plain d = true) : isiF (tabI G) (okT G) [.ty "bool"] d = some (false, .bl (match d with
  | .bl _ => true
  | _ => false)) := by cases d <;> first | rfl | cases h
structure Words (G : Gm) (dens : Dens) : Prop where
  integer : dens (("is_integer" : PySem.Str), none) = some (1, 1, n_is_integer G)
  number : dens (("is_number" : PySem.Str), none) = some (1, 1, n_is_number G)
  amount : dens (("is_amount" : PySem.Str), none) = some (1, 1, n_is_amount G)
section
variable {G : Gm} {dens : Dens} {m : Nat} {q : Kc W} {x : Kc Ex} {d : D}
theorem integer_ok (R : Words G dens) (hd : plain d = true) (h : q.run (false, .bl (isInt d)) []) : wpC (callD dens (m + 1) (("is_integer" : PySem.Str), none) [(false, d)]) := by
  rw [w_run R.integer rfl]
  unfold n_is_integer
  simp only [w_C, w_Var, w_retO, w_bindE, w_evEx, w_evPk, argDat_val, argDat_lend, w_retF, w_retF1, w_P2, w_P1, w_Chain, w_ChainM, w_IfE, w_AndV, w_OrV, w_NotV, w_Tup, w_Lst, w_Slice, w_SliceM, w_evPn, w_evPs, w_PN, w_Call, w_Make, w_makeO, w_Meth, w_Len, w_lenK, w_Str, w_Fmt, w_Join0, w_Join, w_Xf, w_Xi, w_Lc, w_Tru, w_Test, w_And, w_Or, w_Not, w_aNil, w_aCons, w_rNil, w_rVal, w_rLend, w_rPk, w_rDfl, w_rSelf, w_iArgs, w_iSeq, w_Seq, thenS_nx, thenS_rt, thenS_bk, thenS_ct, w_Nx, w_Ret, w_RetN, w_RetV, w_Expr, w_nxO, w_Asg, w_If, w_Unp, w_mutS, w_SetF, w_App, w_Ix, w_Par2, w_Raise, w_Try, w_Try0, w_For, w_Sup, endQ_nx, endQ_rt, sat_some, sat_none, sat_ite, sat_map, sat_bind, selO_some, selO_none, sel_true, sel_false, sel_not, wp_ok, wp_ex, wp_st, wp_ite, f_lt, f_le, f_gt, f_ge, f_add, f_sub, f_mul, f_mod, f_fdiv, f_neg, f_p6, f_p9, f_p12, f_p18, f_p20, f_p30, f_int, f_abs, f_max, f_min, f_sqL, f_sqT, f_sqR, f_lenL, f_lenT, f_lenR, f_at20, f_at21, f_set20, f_set21, f_t10, f_t20, f_t21, f_t30, f_t31, f_t32, f_t40, f_t41, f_t42, f_t43, f_eqI, f_eqS, f_isN, w_Yes, o_lend, o_lst, o_tup, o_rol, o_str, o_obj, startE, pslot, putS_eq, isIo_un, isIo_fz, isIo_ow, isIo_xc, isIo_io, slotOf, slotData, setData, putIos, iosOf, lends, argsD, argD, isLst, asB, asI, newO_ok, newX_ok, asObj, asNil, asS, gNm, gsNil, gsCons, gTu, wipeE, backE, ownFree, isCls0, appF, bareX, clrX, List.map_cons, List.map_nil, List.length_cons, List.length_nil, List.replicate_succ, List.replicate_zero, List.cons_append, List.nil_append, List.append_nil, List.getElem?_cons_zero, List.getElem?_cons_succ, List.getElem?_nil, List.set_cons_zero, List.set_cons_succ, Option.bind_some, Option.bind_none, Option.map_some, Option.map_none, Option.getD_some, Option.getD_none, sz, Nat.reduceLeDiff, Int.reduceLT, Int.reduceLE, decide_true, decide_false, Int.reduceBEq, Int.reduceBNe, Bool.false_eq_true, if_false, if_true, Bool.false_xor, Bool.true_xor, Bool.not_true, Bool.not_false, Bool.not_not, Nat.reduceSub, Nat.reduceAdd, List.nodup_cons, List.nodup_nil, List.not_mem_nil, List.mem_cons, not_false_eq_true, and_self, true_and, and_true, List.all_cons, List.all_nil, Bool.and_true, Bool.true_and]
  rw [isi_int hd]
  simp only [w_C, w_Var, w_retO, w_bindE, w_evEx, w_evPk, argDat_val, argDat_lend, w_retF, w_retF1, w_P2, w_P1, w_Chain, w_ChainM, w_IfE, w_AndV, w_OrV, w_NotV, w_Tup, w_Lst, w_Slice, w_SliceM, w_evPn, w_evPs, w_PN, w_Call, w_Make, w_makeO, w_Meth, w_Len, w_lenK, w_Str, w_Fmt, w_Join0, w_Join, w_Xf, w_Xi, w_Lc, w_Tru, w_Test, w_And, w_Or, w_Not, w_aNil, w_aCons, w_rNil, w_rVal, w_rLend, w_rPk, w_rDfl, w_rSelf, w_iArgs, w_iSeq, w_Seq, thenS_nx, thenS_rt, thenS_bk, thenS_ct, w_Nx, w_Ret, w_RetN, w_RetV, w_Expr, w_nxO, w_Asg, w_If, w_Unp, w_mutS, w_SetF, w_App, w_Ix, w_Par2, w_Raise, w_Try, w_Try0, w_For, w_Sup, endQ_nx, endQ_rt, sat_some, sat_none, sat_ite, sat_map, sat_bind, selO_some, selO_none, sel_true, sel_false, sel_not, wp_ok, wp_ex, wp_st, wp_ite, f_lt, f_le, f_gt, f_ge, f_add, f_sub, f_mul, f_mod, f_fdiv, f_neg, f_p6, f_p9, f_p12, f_p18, f_p20, f_p30, f_int, f_abs, f_max, f_min, f_sqL, f_sqT, f_sqR, f_lenL, f_lenT, f_lenR, f_at20, f_at21, f_set20, f_set21, f_t10, f_t20, f_t21, f_t30, f_t31, f_t32, f_t40, f_t41, f_t42, f_t43, f_eqI, f_eqS, f_isN, w_Yes, o_lend, o_lst, o_tup, o_rol, o_str, o_obj, startE, pslot, putS_eq, isIo_un, isIo_fz, isIo_ow, isIo_xc, isIo_io, slotOf, slotData, setData, putIos, iosOf, lends, argsD, argD, isLst, asB, asI, newO_ok, newX_ok, asObj, asNil, asS, gNm, gsNil, gsCons, gTu, wipeE, backE, ownFree, isCls0, appF, bareX, clrX, List.map_cons, List.map_nil, List.length_cons, List.length_nil, List.replicate_succ, List.replicate_zero, List.cons_append, List.nil_append, List.append_nil, List.getElem?_cons_zero, List.getElem?_cons_succ, List.getElem?_nil, List.set_cons_zero, List.set_cons_succ, Option.bind_some, Option.bind_none, Option.map_some, Option.map_none, Option.getD_some, Option.getD_none, sz, Nat.reduceLeDiff, Int.reduceLT, Int.reduceLE, decide_true, decide_false, Int.reduceBEq, Int.reduceBNe, Bool.false_eq_true, if_false, if_true, Bool.false_xor, Bool.true_xor, Bool.not_true, Bool.not_false, Bool.not_not, Nat.reduceSub, Nat.reduceAdd, List.nodup_cons, List.nodup_nil, List.not_mem_nil, List.mem_cons, not_false_eq_true, and_self, true_and, and_true, List.all_cons, List.all_nil, Bool.and_true, Bool.true_and]
  cases d <;> first | (simp only [w_C, w_Var, w_retO, w_bindE, w_evEx, w_evPk, argDat_val, argDat_lend, w_retF, w_retF1, w_P2, w_P1, w_Chain, w_ChainM, w_IfE, w_AndV, w_OrV, w_NotV, w_Tup, w_Lst, w_Slice, w_SliceM, w_evPn, w_evPs, w_PN, w_Call, w_Make, w_makeO, w_Meth, w_Len, w_lenK, w_Str, w_Fmt, w_Join0, w_Join, w_Xf, w_Xi, w_Lc, w_Tru, w_Test, w_And, w_Or, w_Not, w_aNil, w_aCons, w_rNil, w_rVal, w_rLend, w_rPk, w_rDfl, w_rSelf, w_iArgs, w_iSeq, w_Seq, thenS_nx, thenS_rt, thenS_bk, thenS_ct, w_Nx, w_Ret, w_RetN, w_RetV, w_Expr, w_nxO, w_Asg, w_If, w_Unp, w_mutS, w_SetF, w_App, w_Ix, w_Par2, w_Raise, w_Try, w_Try0, w_For, w_Sup, endQ_nx, endQ_rt, sat_some, sat_none, sat_ite, sat_map, sat_bind, selO_some, selO_none, sel_true, sel_false, sel_not, wp_ok, wp_ex, wp_st, wp_ite, f_lt, f_le, f_gt, f_ge, f_add, f_sub, f_mul, f_mod, f_fdiv, f_neg, f_p6, f_p9, f_p12, f_p18, f_p20, f_p30, f_int, f_abs, f_max, f_min, f_sqL, f_sqT, f_sqR, f_lenL, f_lenT, f_lenR, f_at20, f_at21, f_set20, f_set21, f_t10, f_t20, f_t21, f_t30, f_t31, f_t32, f_t40, f_t41, f_t42, f_t43, f_eqI, f_eqS, f_isN, w_Yes, o_lend, o_lst, o_tup, o_rol, o_str, o_obj, startE, pslot, putS_eq, isIo_un, isIo_fz, isIo_ow, isIo_xc, isIo_io, slotOf, slotData, setData, putIos, iosOf, lends, argsD, argD, isLst, asB, asI, newO_ok, newX_ok, asObj, asNil, asS, gNm, gsNil, gsCons, gTu, wipeE, backE, ownFree, isCls0, appF, bareX, clrX, List.map_cons, List.map_nil, List.length_cons, List.length_nil, List.replicate_succ, List.replicate_zero, List.cons_append, List.nil_append, List.append_nil, List.getElem?_cons_zero, List.getElem?_cons_succ, List.getElem?_nil, List.set_cons_zero, List.set_cons_succ, Option.bind_some, Option.bind_none, Option.map_some, Option.map_none, Option.getD_some, Option.getD_none, sz, Nat.reduceLeDiff, Int.reduceLT, Int.reduceLE, decide_true, decide_false, Int.reduceBEq, Int.reduceBNe, Bool.false_eq_true, if_false, if_true, Bool.false_xor, Bool.true_xor, Bool.not_true, Bool.not_false, Bool.not_not, Nat.reduceSub, Nat.reduceAdd, List.nodup_cons, List.nodup_nil, List.not_mem_nil, List.mem_cons, not_false_eq_true, and_self, true_and, and_true, List.all_cons, List.all_nil, Bool.and_true, Bool.true_and, isi_bool hd]; exact h) | cases hd
theorem number_ok (R : Words G dens) (hd : plain d = true) (h : q.run (false, .bl (atLeast 0 d)) []) : wpC (callD dens (m + 2) (("is_number" : PySem.Str), none) [(false, d)]) := by
  rw [w_run R.number rfl]
  unfold n_is_number
  simp only [w_C, w_Var, w_retO, w_bindE, w_evEx, w_evPk, argDat_val, argDat_lend, w_retF, w_retF1, w_P2, w_P1, w_Chain, w_ChainM, w_IfE, w_AndV, w_OrV, w_NotV, w_Tup, w_Lst, w_Slice, w_SliceM, w_evPn, w_evPs, w_PN, w_Call, w_Make, w_makeO, w_Meth, w_Len, w_lenK, w_Str, w_Fmt, w_Join0, w_Join, w_Xf, w_Xi, w_Lc, w_Tru, w_Test, w_And, w_Or, w_Not, w_aNil, w_aCons, w_rNil, w_rVal, w_rLend, w_rPk, w_rDfl, w_rSelf, w_iArgs, w_iSeq, w_Seq, thenS_nx, thenS_rt, thenS_bk, thenS_ct, w_Nx, w_Ret, w_RetN, w_RetV, w_Expr, w_nxO, w_Asg, w_If, w_Unp, w_mutS, w_SetF, w_App, w_Ix, w_Par2, w_Raise, w_Try, w_Try0, w_For, w_Sup, endQ_nx, endQ_rt, sat_some, sat_none, sat_ite, sat_map, sat_bind, selO_some, selO_none, sel_true, sel_false, sel_not, wp_ok, wp_ex, wp_st, wp_ite, f_lt, f_le, f_gt, f_ge, f_add, f_sub, f_mul, f_mod, f_fdiv, f_neg, f_p6, f_p9, f_p12, f_p18, f_p20, f_p30, f_int, f_abs, f_max, f_min, f_sqL, f_sqT, f_sqR, f_lenL, f_lenT, f_lenR, f_at20, f_at21, f_set20, f_set21, f_t10, f_t20, f_t21, f_t30, f_t31, f_t32, f_t40, f_t41, f_t42, f_t43, f_eqI, f_eqS, f_isN, w_Yes, o_lend, o_lst, o_tup, o_rol, o_str, o_obj, startE, pslot, putS_eq, isIo_un, isIo_fz, isIo_ow, isIo_xc, isIo_io, slotOf, slotData, setData, putIos, iosOf, lends, argsD, argD, isLst, asB, asI, newO_ok, newX_ok, asObj, asNil, asS, gNm, gsNil, gsCons, gTu, wipeE, backE, ownFree, isCls0, appF, bareX, clrX, List.map_cons, List.map_nil, List.length_cons, List.length_nil, List.replicate_succ, List.replicate_zero, List.cons_append, List.nil_append, List.append_nil, List.getElem?_cons_zero, List.getElem?_cons_succ, List.getElem?_nil, List.set_cons_zero, List.set_cons_succ, Option.bind_some, Option.bind_none, Option.map_some, Option.map_none, Option.getD_some, Option.getD_none, sz, Nat.reduceLeDiff, Int.reduceLT, Int.reduceLE, decide_true, decide_false, Int.reduceBEq, Int.reduceBNe, Bool.false_eq_true, if_false, if_true, Bool.false_xor, Bool.true_xor, Bool.not_true, Bool.not_false, Bool.not_not, Nat.reduceSub, Nat.reduceAdd, List.nodup_cons, List.nodup_nil, List.not_mem_nil, List.mem_cons, not_false_eq_true, and_self, true_and, and_true, List.all_cons, List.all_nil, Bool.and_true, Bool.true_and]
  refine integer_ok R hd ?_
  simp only [w_C, w_Var, w_retO, w_bindE, w_evEx, w_evPk, argDat_val, argDat_lend, w_retF, w_retF1, w_P2, w_P1, w_Chain, w_ChainM, w_IfE, w_AndV, w_OrV, w_NotV, w_Tup, w_Lst, w_Slice, w_SliceM, w_evPn, w_evPs, w_PN, w_Call, w_Make, w_makeO, w_Meth, w_Len, w_lenK, w_Str, w_Fmt, w_Join0, w_Join, w_Xf, w_Xi, w_Lc, w_Tru, w_Test, w_And, w_Or, w_Not, w_aNil, w_aCons, w_rNil, w_rVal, w_rLend, w_rPk, w_rDfl, w_rSelf, w_iArgs, w_iSeq, w_Seq, thenS_nx, thenS_rt, thenS_bk, thenS_ct, w_Nx, w_Ret, w_RetN, w_RetV, w_Expr, w_nxO, w_Asg, w_If, w_Unp, w_mutS, w_SetF, w_App, w_Ix, w_Par2, w_Raise, w_Try, w_Try0, w_For, w_Sup, endQ_nx, endQ_rt, sat_some, sat_none, sat_ite, sat_map, sat_bind, selO_some, selO_none, sel_true, sel_false, sel_not, wp_ok, wp_ex, wp_st, wp_ite, f_lt, f_le, f_gt, f_ge, f_add, f_sub, f_mul, f_mod, f_fdiv, f_neg, f_p6, f_p9, f_p12, f_p18, f_p20, f_p30, f_int, f_abs, f_max, f_min, f_sqL, f_sqT, f_sqR, f_lenL, f_lenT, f_lenR, f_at20, f_at21, f_set20, f_set21, f_t10, f_t20, f_t21, f_t30, f_t31, f_t32, f_t40, f_t41, f_t42, f_t43, f_eqI, f_eqS, f_isN, w_Yes, o_lend, o_lst, o_tup, o_rol, o_str, o_obj, startE, pslot, putS_eq, isIo_un, isIo_fz, isIo_ow, isIo_xc, isIo_io, slotOf, slotData, setData, putIos, iosOf, lends, argsD, argD, isLst, asB, asI, newO_ok, newX_ok, asObj, asNil, asS, gNm, gsNil, gsCons, gTu, wipeE, backE, ownFree, isCls0, appF, bareX, clrX, List.map_cons, List.map_nil, List.length_cons, List.length_nil, List.replicate_succ, List.replicate_zero, List.cons_append, List.nil_append, List.append_nil, List.getElem?_cons_zero, List.getElem?_cons_succ, List.getElem?_nil, List.set_cons_zero, List.set_cons_succ, Option.bind_some, Option.bind_none, Option.map_some, Option.map_none, Option.getD_some, Option.getD_none, sz, Nat.reduceLeDiff, Int.reduceLT, Int.reduceLE, decide_true, decide_false, Int.reduceBEq, Int.reduceBNe, Bool.false_eq_true, if_false, if_true, Bool.false_xor, Bool.true_xor, Bool.not_true, Bool.not_false, Bool.not_not, Nat.reduceSub, Nat.reduceAdd, List.nodup_cons, List.nodup_nil, List.not_mem_nil, List.mem_cons, not_false_eq_true, and_self, true_and, and_true, List.all_cons, List.all_nil, Bool.and_true, Bool.true_and]
  cases d <;> first | (simp only [w_C, w_Var, w_retO, w_bindE, w_evEx, w_evPk, argDat_val, argDat_lend, w_retF, w_retF1, w_P2, w_P1, w_Chain, w_ChainM, w_IfE, w_AndV, w_OrV, w_NotV, w_Tup, w_Lst, w_Slice, w_SliceM, w_evPn, w_evPs, w_PN, w_Call, w_Make, w_makeO, w_Meth, w_Len, w_lenK, w_Str, w_Fmt, w_Join0, w_Join, w_Xf, w_Xi, w_Lc, w_Tru, w_Test, w_And, w_Or, w_Not, w_aNil, w_aCons, w_rNil, w_rVal, w_rLend, w_rPk, w_rDfl, w_rSelf, w_iArgs, w_iSeq, w_Seq, thenS_nx, thenS_rt, thenS_bk, thenS_ct, w_Nx, w_Ret, w_RetN, w_RetV, w_Expr, w_nxO, w_Asg, w_If, w_Unp, w_mutS, w_SetF, w_App, w_Ix, w_Par2, w_Raise, w_Try, w_Try0, w_For, w_Sup, endQ_nx, endQ_rt, sat_some, sat_none, sat_ite, sat_map, sat_bind, selO_some, selO_none, sel_true, sel_false, sel_not, wp_ok, wp_ex, wp_st, wp_ite, f_lt, f_le, f_gt, f_ge, f_add, f_sub, f_mul, f_mod, f_fdiv, f_neg, f_p6, f_p9, f_p12, f_p18, f_p20, f_p30, f_int, f_abs, f_max, f_min, f_sqL, f_sqT, f_sqR, f_lenL, f_lenT, f_lenR, f_at20, f_at21, f_set20, f_set21, f_t10, f_t20, f_t21, f_t30, f_t31, f_t32, f_t40, f_t41, f_t42, f_t43, f_eqI, f_eqS, f_isN, w_Yes, o_lend, o_lst, o_tup, o_rol, o_str, o_obj, startE, pslot, putS_eq, isIo_un, isIo_fz, isIo_ow, isIo_xc, isIo_io, slotOf, slotData, setData, putIos, iosOf, lends, argsD, argD, isLst, asB, asI, newO_ok, newX_ok, asObj, asNil, asS, gNm, gsNil, gsCons, gTu, wipeE, backE, ownFree, isCls0, appF, bareX, clrX, List.map_cons, List.map_nil, List.length_cons, List.length_nil, List.replicate_succ, List.replicate_zero, List.cons_append, List.nil_append, List.append_nil, List.getElem?_cons_zero, List.getElem?_cons_succ, List.getElem?_nil, List.set_cons_zero, List.set_cons_succ, Option.bind_some, Option.bind_none, Option.map_some, Option.map_none, Option.getD_some, Option.getD_none, sz, Nat.reduceLeDiff, Int.reduceLT, Int.reduceLE, decide_true, decide_false, Int.reduceBEq, Int.reduceBNe, Bool.false_eq_true, if_false, if_true, Bool.false_xor, Bool.true_xor, Bool.not_true, Bool.not_false, Bool.not_not, Nat.reduceSub, Nat.reduceAdd, List.nodup_cons, List.nodup_nil, List.not_mem_nil, List.mem_cons, not_false_eq_true, and_self, true_and, and_true, List.all_cons, List.all_nil, Bool.and_true, Bool.true_and, isInt]; exact h) | cases hd
theorem amount_ok (R : Words G dens) (hd : plain d = true) (h : q.run (false, .bl (atLeast 1 d)) []) : wpC (callD dens (m + 2) (("is_amount" : PySem.Str), none) [(false, d)]) := by
  rw [w_run R.amount rfl]
  unfold n_is_amount
  simp only [w_C, w_Var, w_retO, w_bindE, w_evEx, w_evPk, argDat_val, argDat_lend, w_retF, w_retF1, w_P2, w_P1, w_Chain, w_ChainM, w_IfE, w_AndV, w_OrV, w_NotV, w_Tup, w_Lst, w_Slice, w_SliceM, w_evPn, w_evPs, w_PN, w_Call, w_Make, w_makeO, w_Meth, w_Len, w_lenK, w_Str, w_Fmt, w_Join0, w_Join, w_Xf, w_Xi, w_Lc, w_Tru, w_Test, w_And, w_Or, w_Not, w_aNil, w_aCons, w_rNil, w_rVal, w_rLend, w_rPk, w_rDfl, w_rSelf, w_iArgs, w_iSeq, w_Seq, thenS_nx, thenS_rt, thenS_bk, thenS_ct, w_Nx, w_Ret, w_RetN, w_RetV, w_Expr, w_nxO, w_Asg, w_If, w_Unp, w_mutS, w_SetF, w_App, w_Ix, w_Par2, w_Raise, w_Try, w_Try0, w_For, w_Sup, endQ_nx, endQ_rt, sat_some, sat_none, sat_ite, sat_map, sat_bind, selO_some, selO_none, sel_true, sel_false, sel_not, wp_ok, wp_ex, wp_st, wp_ite, f_lt, f_le, f_gt, f_ge, f_add, f_sub, f_mul, f_mod, f_fdiv, f_neg, f_p6, f_p9, f_p12, f_p18, f_p20, f_p30, f_int, f_abs, f_max, f_min, f_sqL, f_sqT, f_sqR, f_lenL, f_lenT, f_lenR, f_at20, f_at21, f_set20, f_set21, f_t10, f_t20, f_t21, f_t30, f_t31, f_t32, f_t40, f_t41, f_t42, f_t43, f_eqI, f_eqS, f_isN, w_Yes, o_lend, o_lst, o_tup, o_rol, o_str, o_obj, startE, pslot, putS_eq, isIo_un, isIo_fz, isIo_ow, isIo_xc, isIo_io, slotOf, slotData, setData, putIos, iosOf, lends, argsD, argD, isLst, asB, asI, newO_ok, newX_ok, asObj, asNil, asS, gNm, gsNil, gsCons, gTu, wipeE, backE, ownFree, isCls0, appF, bareX, clrX, List.map_cons, List.map_nil, List.length_cons, List.length_nil, List.replicate_succ, List.replicate_zero, List.cons_append, List.nil_append, List.append_nil, List.getElem?_cons_zero, List.getElem?_cons_succ, List.getElem?_nil, List.set_cons_zero, List.set_cons_succ, Option.bind_some, Option.bind_none, Option.map_some, Option.map_none, Option.getD_some, Option.getD_none, sz, Nat.reduceLeDiff, Int.reduceLT, Int.reduceLE, decide_true, decide_false, Int.reduceBEq, Int.reduceBNe, Bool.false_eq_true, if_false, if_true, Bool.false_xor, Bool.true_xor, Bool.not_true, Bool.not_false, Bool.not_not, Nat.reduceSub, Nat.reduceAdd, List.nodup_cons, List.nodup_nil, List.not_mem_nil, List.mem_cons, not_false_eq_true, and_self, true_and, and_true, List.all_cons, List.all_nil, Bool.and_true, Bool.true_and]
  refine integer_ok R hd ?_
  simp only [w_C, w_Var, w_retO, w_bindE, w_evEx, w_evPk, argDat_val, argDat_lend, w_retF, w_retF1, w_P2, w_P1, w_Chain, w_ChainM, w_IfE, w_AndV, w_OrV, w_NotV, w_Tup, w_Lst, w_Slice, w_SliceM, w_evPn, w_evPs, w_PN, w_Call, w_Make, w_makeO, w_Meth, w_Len, w_lenK, w_Str, w_Fmt, w_Join0, w_Join, w_Xf, w_Xi, w_Lc, w_Tru, w_Test, w_And, w_Or, w_Not, w_aNil, w_aCons, w_rNil, w_rVal, w_rLend, w_rPk, w_rDfl, w_rSelf, w_iArgs, w_iSeq, w_Seq, thenS_nx, thenS_rt, thenS_bk, thenS_ct, w_Nx, w_Ret, w_RetN, w_RetV, w_Expr, w_nxO, w_Asg, w_If, w_Unp, w_mutS, w_SetF, w_App, w_Ix, w_Par2, w_Raise, w_Try, w_Try0, w_For, w_Sup, endQ_nx, endQ_rt, sat_some, sat_none, sat_ite, sat_map, sat_bind, selO_some, selO_none, sel_true, sel_false, sel_not, wp_ok, wp_ex, wp_st, wp_ite, f_lt, f_le, f_gt, f_ge, f_add, f_sub, f_mul, f_mod, f_fdiv, f_neg, f_p6, f_p9, f_p12, f_p18, f_p20, f_p30, f_int, f_abs, f_max, f_min, f_sqL, f_sqT, f_sqR, f_lenL, f_lenT, f_lenR, f_at20, f_at21, f_set20, f_set21, f_t10, f_t20, f_t21, f_t30, f_t31, f_t32, f_t40, f_t41, f_t42, f_t43, f_eqI, f_eqS, f_isN, w_Yes, o_lend, o_lst, o_tup, o_rol, o_str, o_obj, startE, pslot, putS_eq, isIo_un, isIo_fz, isIo_ow, isIo_xc, isIo_io, slotOf, slotData, setData, putIos, iosOf, lends, argsD, argD, isLst, asB, asI, newO_ok, newX_ok, asObj, asNil, asS, gNm, gsNil, gsCons, gTu, wipeE, backE, ownFree, isCls0, appF, bareX, clrX, List.map_cons, List.map_nil, List.length_cons, List.length_nil, List.replicate_succ, List.replicate_zero, List.cons_append, List.nil_append, List.append_nil, List.getElem?_cons_zero, List.getElem?_cons_succ, List.getElem?_nil, List.set_cons_zero, List.set_cons_succ, Option.bind_some, Option.bind_none, Option.map_some, Option.map_none, Option.getD_some, Option.getD_none, sz, Nat.reduceLeDiff, Int.reduceLT, Int.reduceLE, decide_true, decide_false, Int.reduceBEq, Int.reduceBNe, Bool.false_eq_true, if_false, if_true, Bool.false_xor, Bool.true_xor, Bool.not_true, Bool.not_false, Bool.not_not, Nat.reduceSub, Nat.reduceAdd, List.nodup_cons, List.nodup_nil, List.not_mem_nil, List.mem_cons, not_false_eq_true, and_self, true_and, and_true, List.all_cons, List.all_nil, Bool.and_true, Bool.true_and]
  cases d <;> first | (simp only [w_C, w_Var, w_retO, w_bindE, w_evEx, w_evPk, argDat_val, argDat_lend, w_retF, w_retF1, w_P2, w_P1, w_Chain, w_ChainM, w_IfE, w_AndV, w_OrV, w_NotV, w_Tup, w_Lst, w_Slice, w_SliceM, w_evPn, w_evPs, w_PN, w_Call, w_Make, w_makeO, w_Meth, w_Len, w_lenK, w_Str, w_Fmt, w_Join0, w_Join, w_Xf, w_Xi, w_Lc, w_Tru, w_Test, w_And, w_Or, w_Not, w_aNil, w_aCons, w_rNil, w_rVal, w_rLend, w_rPk, w_rDfl, w_rSelf, w_iArgs, w_iSeq, w_Seq, thenS_nx, thenS_rt, thenS_bk, thenS_ct, w_Nx, w_Ret, w_RetN, w_RetV, w_Expr, w_nxO, w_Asg, w_If, w_Unp, w_mutS, w_SetF, w_App, w_Ix, w_Par2, w_Raise, w_Try, w_Try0, w_For, w_Sup, endQ_nx, endQ_rt, sat_some, sat_none, sat_ite, sat_map, sat_bind, selO_some, selO_none, sel_true, sel_false, sel_not, wp_ok, wp_ex, wp_st, wp_ite, f_lt, f_le, f_gt, f_ge, f_add, f_sub, f_mul, f_mod, f_fdiv, f_neg, f_p6, f_p9, f_p12, f_p18, f_p20, f_p30, f_int, f_abs, f_max, f_min, f_sqL, f_sqT, f_sqR, f_lenL, f_lenT, f_lenR, f_at20, f_at21, f_set20, f_set21, f_t10, f_t20, f_t21, f_t30, f_t31, f_t32, f_t40, f_t41, f_t42, f_t43, f_eqI, f_eqS, f_isN, w_Yes, o_lend, o_lst, o_tup, o_rol, o_str, o_obj, startE, pslot, putS_eq, isIo_un, isIo_fz, isIo_ow, isIo_xc, isIo_io, slotOf, slotData, setData, putIos, iosOf, lends, argsD, argD, isLst, asB, asI, newO_ok, newX_ok, asObj, asNil, asS, gNm, gsNil, gsCons, gTu, wipeE, backE, ownFree, isCls0, appF, bareX, clrX, List.map_cons, List.map_nil, List.length_cons, List.length_nil, List.replicate_succ, List.replicate_zero, List.cons_append, List.nil_append, List.append_nil, List.getElem?_cons_zero, List.getElem?_cons_succ, List.getElem?_nil, List.set_cons_zero, List.set_cons_succ, Option.bind_some, Option.bind_none, Option.map_some, Option.map_none, Option.getD_some, Option.getD_none, sz, Nat.reduceLeDiff, Int.reduceLT, Int.reduceLE, decide_true, decide_false, Int.reduceBEq, Int.reduceBNe, Bool.false_eq_true, if_false, if_true, Bool.false_xor, Bool.true_xor, Bool.not_true, Bool.not_false, Bool.not_not, Nat.reduceSub, Nat.reduceAdd, List.nodup_cons, List.nodup_nil, List.not_mem_nil, List.mem_cons, not_false_eq_true, and_self, true_and, and_true, List.all_cons, List.all_nil, Bool.and_true, Bool.true_and, isInt]; exact h) | cases hd
end
/-! ### moves -/
structure MovesG (G : Gm) : Prop where
  sB : okF G "script" "Begin" = true
  sT : okF G "script" "Take" = true
  sR : okF G "script" "Right" = true
  aB : okF G "amount" "Begin" = true
  aT : okF G "amount" "Take" = true
  aR : okF G "amount" "Right" = true
  tT : okF G "at" "Take" = true
  tR : okF G "at" "Right" = true
  sS : okF G "script" "Shut" = true
  xS : ∀ orc, mtab G orc "__str__" 0 "Shut" = some ([], orc (("Move" : PySem.Str), some ("__str__" : PySem.Str)))
  xB : ∀ orc, mtab G orc "__str__" 0 "Begin" = some ([], orc (("Move" : PySem.Str), some ("__str__" : PySem.Str)))
  xT : ∀ orc, mtab G orc "__str__" 0 "Take" = some ([], orc (("Move" : PySem.Str), some ("__str__" : PySem.Str)))
  xR : ∀ orc, mtab G orc "__str__" 0 "Right" = some ([], orc (("Move" : PySem.Str), some ("__str__" : PySem.Str)))
structure Moves3 (G : Gm) (dens : Dens) : Prop extends Words G dens, MovesG G where
  mInit : dens (("Move" : PySem.Str), some ("__init__" : PySem.Str)) = some (2, 2, n_Move_init G)
  mStr : dens (("Move" : PySem.Str), some ("__str__" : PySem.Str)) = some (1, 1, n_Move_str G)
  begin : dens (("Begin" : PySem.Str), some ("__init__" : PySem.Str)) = some (3, 2, n_Begin_init G)
  take : dens (("Take" : PySem.Str), some ("__init__" : PySem.Str)) = some (4, 3, n_Take_init G)
  right : dens (("Right" : PySem.Str), some ("__init__" : PySem.Str)) = some (4, 3, n_Right_init G)
section
variable {G : Gm} {dens : Dens} {m : Nat} {q : Kc W} {x : Kc Ex} {d : D}
theorem set_0 {f c : Str} {v : D} (h : okF G f c = true) : setF (okF G f) f v (.obj c []) = some (.obj c [(f, v)]) := by
  show (if (okF G f c && decide (([] : List (Str × D)).length < 1000)) = true then _ else _) = _
  rw [h]
  rfl
theorem mInit_ok (R : Moves3 G dens) {c s : Str} (hc : okF G "script" c = true) (h : q.run (false, .non) [.obj c [("script", .str s)]]) : wpC (callD dens (m + 1) (("Move" : PySem.Str), some ("__init__" : PySem.Str)) [(true, .obj c []), (false, .str s)]) := by
  rw [w_run R.mInit rfl]
  unfold n_Move_init
  simp only [w_C, w_Var, w_retO, w_bindE, w_evEx, w_evPk, argDat_val, argDat_lend, w_retF, w_retF1, w_P2, w_P1, w_Chain, w_ChainM, w_IfE, w_AndV, w_OrV, w_NotV, w_Tup, w_Lst, w_Slice, w_SliceM, w_evPn, w_evPs, w_PN, w_Call, w_Make, w_makeO, w_Meth, w_Len, w_lenK, w_Str, w_Fmt, w_Join0, w_Join, w_Xf, w_Xi, w_Lc, w_Tru, w_Test, w_And, w_Or, w_Not, w_aNil, w_aCons, w_rNil, w_rVal, w_rLend, w_rPk, w_rDfl, w_rSelf, w_iArgs, w_iSeq, w_Seq, thenS_nx, thenS_rt, thenS_bk, thenS_ct, w_Nx, w_Ret, w_RetN, w_RetV, w_Expr, w_nxO, w_Asg, w_If, w_Unp, w_mutS, w_SetF, w_App, w_Ix, w_Par2, w_Raise, w_Try, w_Try0, w_For, w_Sup, endQ_nx, endQ_rt, sat_some, sat_none, sat_ite, sat_map, sat_bind, selO_some, selO_none, sel_true, sel_false, sel_not, wp_ok, wp_ex, wp_st, wp_ite, f_lt, f_le, f_gt, f_ge, f_add, f_sub, f_mul, f_mod, f_fdiv, f_neg, f_p6, f_p9, f_p12, f_p18, f_p20, f_p30, f_int, f_abs, f_max, f_min, f_sqL, f_sqT, f_sqR, f_lenL, f_lenT, f_lenR, f_at20, f_at21, f_set20, f_set21, f_t10, f_t20, f_t21, f_t30, f_t31, f_t32, f_t40, f_t41, f_t42, f_t43, f_eqI, f_eqS, f_isN, w_Yes, o_lend, o_lst, o_tup, o_rol, o_str, o_obj, startE, pslot, putS_eq, isIo_un, isIo_fz, isIo_ow, isIo_xc, isIo_io, slotOf, slotData, setData, putIos, iosOf, lends, argsD, argD, isLst, asB, asI, newO_ok, newX_ok, asObj, asNil, asS, gNm, gsNil, gsCons, gTu, wipeE, backE, ownFree, isCls0, appF, bareX, clrX, List.map_cons, List.map_nil, List.length_cons, List.length_nil, List.replicate_succ, List.replicate_zero, List.cons_append, List.nil_append, List.append_nil, List.getElem?_cons_zero, List.getElem?_cons_succ, List.getElem?_nil, List.set_cons_zero, List.set_cons_succ, Option.bind_some, Option.bind_none, Option.map_some, Option.map_none, Option.getD_some, Option.getD_none, sz, Nat.reduceLeDiff, Int.reduceLT, Int.reduceLE, decide_true, decide_false, Int.reduceBEq, Int.reduceBNe, Bool.false_eq_true, if_false, if_true, Bool.false_xor, Bool.true_xor, Bool.not_true, Bool.not_false, Bool.not_not, Nat.reduceSub, Nat.reduceAdd, List.nodup_cons, List.nodup_nil, List.not_mem_nil, List.mem_cons, not_false_eq_true, and_self, true_and, and_true, List.all_cons, List.all_nil, Bool.and_true, Bool.true_and, set_0 hc]
  exact h
theorem set_1 {f g c : Str} {v u : D} (h : okF G f c = true) (hn : g ≠ f) : setF (okF G f) f v (.obj c [(g, u)]) = some (.obj c [(g, u), (f, v)]) := by
  show (if (okF G f c && decide (([(g, u)] : List (Str × D)).length < 1000)) = true then _ else _) = _
  rw [h]
  show some (D.obj c (if g = f then _ else _)) = _
  rw [if_neg hn]
  rfl
theorem set_2 {f g g' c : Str} {v u u' : D} (h : okF G f c = true) (hn : g ≠ f) (hn' : g' ≠ f) : setF (okF G f) f v (.obj c [(g, u), (g', u')]) = some (.obj c [(g, u), (g', u'), (f, v)]) := by
  show (if (okF G f c && decide (([(g, u), (g', u')] : List (Str × D)).length < 1000)) = true then _ else _) = _
  rw [h]
  show some (D.obj c (if g = f then _ else (g, u) :: if g' = f then _ else _)) = _
  rw [if_neg hn, if_neg hn']
  rfl
abbrev itx (i : Int) : Str := Str.ofString (toString i)
theorem itx_len {i : Int} (h : i.natAbs.log2 < 1920) : (itx i).length ≤ 1921 := int_text_len_1921 h
theorem cat_le {a b : Str} {n k : Nat} (h1 : a.length ≤ n) (h2 : b.length ≤ k) (h3 : n + k ≤ 16777216) : (a ++ b).length ≤ sizeLine := by
  rw [Str.length_append, show sizeLine = 16777216 from rfl]
  omega
/-- any value whose text is short -/
def fit : D → Bool
  | .int i => decide (i.natAbs < 18446744073709551616)
  | .obj _ _ => false
  | .rol _ => false
  | _ => true
theorem fit_plain (h : fit d = true) : plain d = true := by cases d <;> first | rfl | cases h
theorem f_fmtI {i : Int} (h : i.natAbs < 18446744073709551616) : fmtF (.int i) = some (false, .str (itx i)) := by
  show (if _ then _ else _) = _
  rw [if_pos (by have := lg64 (x := i) (by omega) (by omega); omega)]
theorem itx_le {i : Int} (h : i.natAbs < 18446744073709551616) : (itx i).length ≤ 1921 := itx_len (by have := lg64 (x := i) (by omega) (by omega); omega)
abbrev tBegin (a : Int) : Str := Str.empty ++ "begin " ++ itx a
abbrev oBegin (a : Int) : D := .obj "Begin" [("script", .str (tBegin a)), ("amount", .int a)]
theorem begin_ok (R : Moves3 G dens) (hd : fit d = true) (h1 : ∀ a, d = .int a → 1 ≤ a → q.run (false, .non) [oBegin a]) (h2 : atLeast 1 d = false → x.run ⟨"InvalidMove", [("word", .str "amount")]⟩ [.obj "Begin" []]) :
    wpC (callD dens (m + 3) (("Begin" : PySem.Str), some ("__init__" : PySem.Str)) [(true, .obj "Begin" []), (false, d)]) := by
  rw [w_run R.begin rfl]
  unfold n_Begin_init
  simp only [w_C, w_Var, w_retO, w_bindE, w_evEx, w_evPk, argDat_val, argDat_lend, w_retF, w_retF1, w_P2, w_P1, w_Chain, w_ChainM, w_IfE, w_AndV, w_OrV, w_NotV, w_Tup, w_Lst, w_Slice, w_SliceM, w_evPn, w_evPs, w_PN, w_Call, w_Make, w_makeO, w_Meth, w_Len, w_lenK, w_Str, w_Fmt, w_Join0, w_Join, w_Xf, w_Xi, w_Lc, w_Tru, w_Test, w_And, w_Or, w_Not, w_aNil, w_aCons, w_rNil, w_rVal, w_rLend, w_rPk, w_rDfl, w_rSelf, w_iArgs, w_iSeq, w_Seq, thenS_nx, thenS_rt, thenS_bk, thenS_ct, w_Nx, w_Ret, w_RetN, w_RetV, w_Expr, w_nxO, w_Asg, w_If, w_Unp, w_mutS, w_SetF, w_App, w_Ix, w_Par2, w_Raise, w_Try, w_Try0, w_For, w_Sup, endQ_nx, endQ_rt, sat_some, sat_none, sat_ite, sat_map, sat_bind, selO_some, selO_none, sel_true, sel_false, sel_not, wp_ok, wp_ex, wp_st, wp_ite, f_lt, f_le, f_gt, f_ge, f_add, f_sub, f_mul, f_mod, f_fdiv, f_neg, f_p6, f_p9, f_p12, f_p18, f_p20, f_p30, f_int, f_abs, f_max, f_min, f_sqL, f_sqT, f_sqR, f_lenL, f_lenT, f_lenR, f_at20, f_at21, f_set20, f_set21, f_t10, f_t20, f_t21, f_t30, f_t31, f_t32, f_t40, f_t41, f_t42, f_t43, f_eqI, f_eqS, f_isN, w_Yes, o_lend, o_lst, o_tup, o_rol, o_str, o_obj, startE, pslot, putS_eq, isIo_un, isIo_fz, isIo_ow, isIo_xc, isIo_io, slotOf, slotData, setData, putIos, iosOf, lends, argsD, argD, isLst, asB, asI, newO_ok, newX_ok, asObj, asNil, asS, gNm, gsNil, gsCons, gTu, wipeE, backE, ownFree, isCls0, appF, bareX, clrX, List.map_cons, List.map_nil, List.length_cons, List.length_nil, List.replicate_succ, List.replicate_zero, List.cons_append, List.nil_append, List.append_nil, List.getElem?_cons_zero, List.getElem?_cons_succ, List.getElem?_nil, List.set_cons_zero, List.set_cons_succ, Option.bind_some, Option.bind_none, Option.map_some, Option.map_none, Option.getD_some, Option.getD_none, sz, Nat.reduceLeDiff, Int.reduceLT, Int.reduceLE, decide_true, decide_false, Int.reduceBEq, Int.reduceBNe, Bool.false_eq_true, if_false, if_true, Bool.false_xor, Bool.true_xor, Bool.not_true, Bool.not_false, Bool.not_not, Nat.reduceSub, Nat.reduceAdd, List.nodup_cons, List.nodup_nil, List.not_mem_nil, List.mem_cons, not_false_eq_true, and_self, true_and, and_true, List.all_cons, List.all_nil, Bool.and_true, Bool.true_and]
  refine amount_ok R.toWords (fit_plain hd) ?_
  simp only [w_C, w_Var, w_retO, w_bindE, w_evEx, w_evPk, argDat_val, argDat_lend, w_retF, w_retF1, w_P2, w_P1, w_Chain, w_ChainM, w_IfE, w_AndV, w_OrV, w_NotV, w_Tup, w_Lst, w_Slice, w_SliceM, w_evPn, w_evPs, w_PN, w_Call, w_Make, w_makeO, w_Meth, w_Len, w_lenK, w_Str, w_Fmt, w_Join0, w_Join, w_Xf, w_Xi, w_Lc, w_Tru, w_Test, w_And, w_Or, w_Not, w_aNil, w_aCons, w_rNil, w_rVal, w_rLend, w_rPk, w_rDfl, w_rSelf, w_iArgs, w_iSeq, w_Seq, thenS_nx, thenS_rt, thenS_bk, thenS_ct, w_Nx, w_Ret, w_RetN, w_RetV, w_Expr, w_nxO, w_Asg, w_If, w_Unp, w_mutS, w_SetF, w_App, w_Ix, w_Par2, w_Raise, w_Try, w_Try0, w_For, w_Sup, endQ_nx, endQ_rt, sat_some, sat_none, sat_ite, sat_map, sat_bind, selO_some, selO_none, sel_true, sel_false, sel_not, wp_ok, wp_ex, wp_st, wp_ite, f_lt, f_le, f_gt, f_ge, f_add, f_sub, f_mul, f_mod, f_fdiv, f_neg, f_p6, f_p9, f_p12, f_p18, f_p20, f_p30, f_int, f_abs, f_max, f_min, f_sqL, f_sqT, f_sqR, f_lenL, f_lenT, f_lenR, f_at20, f_at21, f_set20, f_set21, f_t10, f_t20, f_t21, f_t30, f_t31, f_t32, f_t40, f_t41, f_t42, f_t43, f_eqI, f_eqS, f_isN, w_Yes, o_lend, o_lst, o_tup, o_rol, o_str, o_obj, startE, pslot, putS_eq, isIo_un, isIo_fz, isIo_ow, isIo_xc, isIo_io, slotOf, slotData, setData, putIos, iosOf, lends, argsD, argD, isLst, asB, asI, newO_ok, newX_ok, asObj, asNil, asS, gNm, gsNil, gsCons, gTu, wipeE, backE, ownFree, isCls0, appF, bareX, clrX, List.map_cons, List.map_nil, List.length_cons, List.length_nil, List.replicate_succ, List.replicate_zero, List.cons_append, List.nil_append, List.append_nil, List.getElem?_cons_zero, List.getElem?_cons_succ, List.getElem?_nil, List.set_cons_zero, List.set_cons_succ, Option.bind_some, Option.bind_none, Option.map_some, Option.map_none, Option.getD_some, Option.getD_none, sz, Nat.reduceLeDiff, Int.reduceLT, Int.reduceLE, decide_true, decide_false, Int.reduceBEq, Int.reduceBNe, Bool.false_eq_true, if_false, if_true, Bool.false_xor, Bool.true_xor, Bool.not_true, Bool.not_false, Bool.not_not, Nat.reduceSub, Nat.reduceAdd, List.nodup_cons, List.nodup_nil, List.not_mem_nil, List.mem_cons, not_false_eq_true, and_self, true_and, and_true, List.all_cons, List.all_nil, Bool.and_true, Bool.true_and, tru]
  refine sel_in (fun ha => ?_) (fun ha => ?_)
  · cases d with
    | int a =>
      have hd := of_decide_eq_true hd
      simp only [w_C, w_Var, w_retO, w_bindE, w_evEx, w_evPk, argDat_val, argDat_lend, w_retF, w_retF1, w_P2, w_P1, w_Chain, w_ChainM, w_IfE, w_AndV, w_OrV, w_NotV, w_Tup, w_Lst, w_Slice, w_SliceM, w_evPn, w_evPs, w_PN, w_Call, w_Make, w_makeO, w_Meth, w_Len, w_lenK, w_Str, w_Fmt, w_Join0, w_Join, w_Xf, w_Xi, w_Lc, w_Tru, w_Test, w_And, w_Or, w_Not, w_aNil, w_aCons, w_rNil, w_rVal, w_rLend, w_rPk, w_rDfl, w_rSelf, w_iArgs, w_iSeq, w_Seq, thenS_nx, thenS_rt, thenS_bk, thenS_ct, w_Nx, w_Ret, w_RetN, w_RetV, w_Expr, w_nxO, w_Asg, w_If, w_Unp, w_mutS, w_SetF, w_App, w_Ix, w_Par2, w_Raise, w_Try, w_Try0, w_For, w_Sup, endQ_nx, endQ_rt, sat_some, sat_none, sat_ite, sat_map, sat_bind, selO_some, selO_none, sel_true, sel_false, sel_not, wp_ok, wp_ex, wp_st, wp_ite, f_lt, f_le, f_gt, f_ge, f_add, f_sub, f_mul, f_mod, f_fdiv, f_neg, f_p6, f_p9, f_p12, f_p18, f_p20, f_p30, f_int, f_abs, f_max, f_min, f_sqL, f_sqT, f_sqR, f_lenL, f_lenT, f_lenR, f_at20, f_at21, f_set20, f_set21, f_t10, f_t20, f_t21, f_t30, f_t31, f_t32, f_t40, f_t41, f_t42, f_t43, f_eqI, f_eqS, f_isN, w_Yes, o_lend, o_lst, o_tup, o_rol, o_str, o_obj, startE, pslot, putS_eq, isIo_un, isIo_fz, isIo_ow, isIo_xc, isIo_io, slotOf, slotData, setData, putIos, iosOf, lends, argsD, argD, isLst, asB, asI, newO_ok, newX_ok, asObj, asNil, asS, gNm, gsNil, gsCons, gTu, wipeE, backE, ownFree, isCls0, appF, bareX, clrX, List.map_cons, List.map_nil, List.length_cons, List.length_nil, List.replicate_succ, List.replicate_zero, List.cons_append, List.nil_append, List.append_nil, List.getElem?_cons_zero, List.getElem?_cons_succ, List.getElem?_nil, List.set_cons_zero, List.set_cons_succ, Option.bind_some, Option.bind_none, Option.map_some, Option.map_none, Option.getD_some, Option.getD_none, sz, Nat.reduceLeDiff, Int.reduceLT, Int.reduceLE, decide_true, decide_false, Int.reduceBEq, Int.reduceBNe, Bool.false_eq_true, if_false, if_true, Bool.false_xor, Bool.true_xor, Bool.not_true, Bool.not_false, Bool.not_not, Nat.reduceSub, Nat.reduceAdd, List.nodup_cons, List.nodup_nil, List.not_mem_nil, List.mem_cons, not_false_eq_true, and_self, true_and, and_true, List.all_cons, List.all_nil, Bool.and_true, Bool.true_and, f_fmtI hd, decide_true]
      refine ⟨by decide, cat_le (n := 6) (by decide) (itx_le hd) (by omega), ?_⟩
      refine mInit_ok R R.sB ?_
      simp only [w_C, w_Var, w_retO, w_bindE, w_evEx, w_evPk, argDat_val, argDat_lend, w_retF, w_retF1, w_P2, w_P1, w_Chain, w_ChainM, w_IfE, w_AndV, w_OrV, w_NotV, w_Tup, w_Lst, w_Slice, w_SliceM, w_evPn, w_evPs, w_PN, w_Call, w_Make, w_makeO, w_Meth, w_Len, w_lenK, w_Str, w_Fmt, w_Join0, w_Join, w_Xf, w_Xi, w_Lc, w_Tru, w_Test, w_And, w_Or, w_Not, w_aNil, w_aCons, w_rNil, w_rVal, w_rLend, w_rPk, w_rDfl, w_rSelf, w_iArgs, w_iSeq, w_Seq, thenS_nx, thenS_rt, thenS_bk, thenS_ct, w_Nx, w_Ret, w_RetN, w_RetV, w_Expr, w_nxO, w_Asg, w_If, w_Unp, w_mutS, w_SetF, w_App, w_Ix, w_Par2, w_Raise, w_Try, w_Try0, w_For, w_Sup, endQ_nx, endQ_rt, sat_some, sat_none, sat_ite, sat_map, sat_bind, selO_some, selO_none, sel_true, sel_false, sel_not, wp_ok, wp_ex, wp_st, wp_ite, f_lt, f_le, f_gt, f_ge, f_add, f_sub, f_mul, f_mod, f_fdiv, f_neg, f_p6, f_p9, f_p12, f_p18, f_p20, f_p30, f_int, f_abs, f_max, f_min, f_sqL, f_sqT, f_sqR, f_lenL, f_lenT, f_lenR, f_at20, f_at21, f_set20, f_set21, f_t10, f_t20, f_t21, f_t30, f_t31, f_t32, f_t40, f_t41, f_t42, f_t43, f_eqI, f_eqS, f_isN, w_Yes, o_lend, o_lst, o_tup, o_rol, o_str, o_obj, startE, pslot, putS_eq, isIo_un, isIo_fz, isIo_ow, isIo_xc, isIo_io, slotOf, slotData, setData, putIos, iosOf, lends, argsD, argD, isLst, asB, asI, newO_ok, newX_ok, asObj, asNil, asS, gNm, gsNil, gsCons, gTu, wipeE, backE, ownFree, isCls0, appF, bareX, clrX, List.map_cons, List.map_nil, List.length_cons, List.length_nil, List.replicate_succ, List.replicate_zero, List.cons_append, List.nil_append, List.append_nil, List.getElem?_cons_zero, List.getElem?_cons_succ, List.getElem?_nil, List.set_cons_zero, List.set_cons_succ, Option.bind_some, Option.bind_none, Option.map_some, Option.map_none, Option.getD_some, Option.getD_none, sz, Nat.reduceLeDiff, Int.reduceLT, Int.reduceLE, decide_true, decide_false, Int.reduceBEq, Int.reduceBNe, Bool.false_eq_true, if_false, if_true, Bool.false_xor, Bool.true_xor, Bool.not_true, Bool.not_false, Bool.not_not, Nat.reduceSub, Nat.reduceAdd, List.nodup_cons, List.nodup_nil, List.not_mem_nil, List.mem_cons, not_false_eq_true, and_self, true_and, and_true, List.all_cons, List.all_nil, Bool.and_true, Bool.true_and, set_1 (g := "script") R.aB (by decide)]
      exact h1 a rfl (of_decide_eq_true ha)
    | _ => cases ha
  · simp only [w_C, w_Var, w_retO, w_bindE, w_evEx, w_evPk, argDat_val, argDat_lend, w_retF, w_retF1, w_P2, w_P1, w_Chain, w_ChainM, w_IfE, w_AndV, w_OrV, w_NotV, w_Tup, w_Lst, w_Slice, w_SliceM, w_evPn, w_evPs, w_PN, w_Call, w_Make, w_makeO, w_Meth, w_Len, w_lenK, w_Str, w_Fmt, w_Join0, w_Join, w_Xf, w_Xi, w_Lc, w_Tru, w_Test, w_And, w_Or, w_Not, w_aNil, w_aCons, w_rNil, w_rVal, w_rLend, w_rPk, w_rDfl, w_rSelf, w_iArgs, w_iSeq, w_Seq, thenS_nx, thenS_rt, thenS_bk, thenS_ct, w_Nx, w_Ret, w_RetN, w_RetV, w_Expr, w_nxO, w_Asg, w_If, w_Unp, w_mutS, w_SetF, w_App, w_Ix, w_Par2, w_Raise, w_Try, w_Try0, w_For, w_Sup, endQ_nx, endQ_rt, sat_some, sat_none, sat_ite, sat_map, sat_bind, selO_some, selO_none, sel_true, sel_false, sel_not, wp_ok, wp_ex, wp_st, wp_ite, f_lt, f_le, f_gt, f_ge, f_add, f_sub, f_mul, f_mod, f_fdiv, f_neg, f_p6, f_p9, f_p12, f_p18, f_p20, f_p30, f_int, f_abs, f_max, f_min, f_sqL, f_sqT, f_sqR, f_lenL, f_lenT, f_lenR, f_at20, f_at21, f_set20, f_set21, f_t10, f_t20, f_t21, f_t30, f_t31, f_t32, f_t40, f_t41, f_t42, f_t43, f_eqI, f_eqS, f_isN, w_Yes, o_lend, o_lst, o_tup, o_rol, o_str, o_obj, startE, pslot, putS_eq, isIo_un, isIo_fz, isIo_ow, isIo_xc, isIo_io, slotOf, slotData, setData, putIos, iosOf, lends, argsD, argD, isLst, asB, asI, newO_ok, newX_ok, asObj, asNil, asS, gNm, gsNil, gsCons, gTu, wipeE, backE, ownFree, isCls0, appF, bareX, clrX, List.map_cons, List.map_nil, List.length_cons, List.length_nil, List.replicate_succ, List.replicate_zero, List.cons_append, List.nil_append, List.append_nil, List.getElem?_cons_zero, List.getElem?_cons_succ, List.getElem?_nil, List.set_cons_zero, List.set_cons_succ, Option.bind_some, Option.bind_none, Option.map_some, Option.map_none, Option.getD_some, Option.getD_none, sz, Nat.reduceLeDiff, Int.reduceLT, Int.reduceLE, decide_true, decide_false, Int.reduceBEq, Int.reduceBNe, Bool.false_eq_true, if_false, if_true, Bool.false_xor, Bool.true_xor, Bool.not_true, Bool.not_false, Bool.not_not, Nat.reduceSub, Nat.reduceAdd, List.nodup_cons, List.nodup_nil, List.not_mem_nil, List.mem_cons, not_false_eq_true, and_self, true_and, and_true, List.all_cons, List.all_nil, Bool.and_true, Bool.true_and]
    exact h2 ha
abbrev tTake (t : Int) : Str := Str.empty ++ "take " ++ itx t
abbrev tTakeBy (t a : Int) : Str := Str.empty ++ "take " ++ itx t ++ " by " ++ itx a
abbrev oTake (t : Int) : D := .obj "Take" [("script", .str (tTake t)), ("at", .int t), ("amount", .non)]
abbrev oTakeBy (t a : Int) : D := .obj "Take" [("script", .str (tTakeBy t a)), ("at", .int t), ("amount", .int a)]
theorem cat_n {a b : Str} {n k : Nat} (h1 : a.length ≤ n) (h2 : b.length ≤ k) : (a ++ b).length ≤ n + k := by
  rw [Str.length_append]
  omega
theorem le_line {a : Str} {n : Nat} (h : a.length ≤ n) (h2 : n ≤ 16777216) : a.length ≤ sizeLine := by
  rw [show sizeLine = 16777216 from rfl]
  omega
theorem take_ok (R : Moves3 G dens) {e : D} (hd : fit d = true) (he : fit e = true) (h1 : ∀ t, d = .int t → 0 ≤ t → e = .non → q.run (false, .non) [oTake t]) (h2 : ∀ t a, d = .int t → 0 ≤ t → e = .int a → 1 ≤ a → q.run (false, .non) [oTakeBy t a])
    (h3 : atLeast 0 d = false → x.run ⟨"InvalidMove", [("word", .str "at")]⟩ [.obj "Take" []]) (h4 : atLeast 0 d = true → e ≠ .non → atLeast 1 e = false → x.run ⟨"InvalidMove", [("word", .str "amount")]⟩ [.obj "Take" []]) :
    wpC (callD dens (m + 3) (("Take" : PySem.Str), some ("__init__" : PySem.Str)) [(true, .obj "Take" []), (false, d), (false, e)]) := by
  rw [w_run R.take rfl]
  unfold n_Take_init
  simp only [w_C, w_Var, w_retO, w_bindE, w_evEx, w_evPk, argDat_val, argDat_lend, w_retF, w_retF1, w_P2, w_P1, w_Chain, w_ChainM, w_IfE, w_AndV, w_OrV, w_NotV, w_Tup, w_Lst, w_Slice, w_SliceM, w_evPn, w_evPs, w_PN, w_Call, w_Make, w_makeO, w_Meth, w_Len, w_lenK, w_Str, w_Fmt, w_Join0, w_Join, w_Xf, w_Xi, w_Lc, w_Tru, w_Test, w_And, w_Or, w_Not, w_aNil, w_aCons, w_rNil, w_rVal, w_rLend, w_rPk, w_rDfl, w_rSelf, w_iArgs, w_iSeq, w_Seq, thenS_nx, thenS_rt, thenS_bk, thenS_ct, w_Nx, w_Ret, w_RetN, w_RetV, w_Expr, w_nxO, w_Asg, w_If, w_Unp, w_mutS, w_SetF, w_App, w_Ix, w_Par2, w_Raise, w_Try, w_Try0, w_For, w_Sup, endQ_nx, endQ_rt, sat_some, sat_none, sat_ite, sat_map, sat_bind, selO_some, selO_none, sel_true, sel_false, sel_not, wp_ok, wp_ex, wp_st, wp_ite, f_lt, f_le, f_gt, f_ge, f_add, f_sub, f_mul, f_mod, f_fdiv, f_neg, f_p6, f_p9, f_p12, f_p18, f_p20, f_p30, f_int, f_abs, f_max, f_min, f_sqL, f_sqT, f_sqR, f_lenL, f_lenT, f_lenR, f_at20, f_at21, f_set20, f_set21, f_t10, f_t20, f_t21, f_t30, f_t31, f_t32, f_t40, f_t41, f_t42, f_t43, f_eqI, f_eqS, f_isN, w_Yes, o_lend, o_lst, o_tup, o_rol, o_str, o_obj, startE, pslot, putS_eq, isIo_un, isIo_fz, isIo_ow, isIo_xc, isIo_io, slotOf, slotData, setData, putIos, iosOf, lends, argsD, argD, isLst, asB, asI, newO_ok, newX_ok, asObj, asNil, asS, gNm, gsNil, gsCons, gTu, wipeE, backE, ownFree, isCls0, appF, bareX, clrX, List.map_cons, List.map_nil, List.length_cons, List.length_nil, List.replicate_succ, List.replicate_zero, List.cons_append, List.nil_append, List.append_nil, List.getElem?_cons_zero, List.getElem?_cons_succ, List.getElem?_nil, List.set_cons_zero, List.set_cons_succ, Option.bind_some, Option.bind_none, Option.map_some, Option.map_none, Option.getD_some, Option.getD_none, sz, Nat.reduceLeDiff, Int.reduceLT, Int.reduceLE, decide_true, decide_false, Int.reduceBEq, Int.reduceBNe, Bool.false_eq_true, if_false, if_true, Bool.false_xor, Bool.true_xor, Bool.not_true, Bool.not_false, Bool.not_not, Nat.reduceSub, Nat.reduceAdd, List.nodup_cons, List.nodup_nil, List.not_mem_nil, List.mem_cons, not_false_eq_true, and_self, true_and, and_true, List.all_cons, List.all_nil, Bool.and_true, Bool.true_and]
  refine number_ok R.toWords (fit_plain hd) ?_
  simp only [w_C, w_Var, w_retO, w_bindE, w_evEx, w_evPk, argDat_val, argDat_lend, w_retF, w_retF1, w_P2, w_P1, w_Chain, w_ChainM, w_IfE, w_AndV, w_OrV, w_NotV, w_Tup, w_Lst, w_Slice, w_SliceM, w_evPn, w_evPs, w_PN, w_Call, w_Make, w_makeO, w_Meth, w_Len, w_lenK, w_Str, w_Fmt, w_Join0, w_Join, w_Xf, w_Xi, w_Lc, w_Tru, w_Test, w_And, w_Or, w_Not, w_aNil, w_aCons, w_rNil, w_rVal, w_rLend, w_rPk, w_rDfl, w_rSelf, w_iArgs, w_iSeq, w_Seq, thenS_nx, thenS_rt, thenS_bk, thenS_ct, w_Nx, w_Ret, w_RetN, w_RetV, w_Expr, w_nxO, w_Asg, w_If, w_Unp, w_mutS, w_SetF, w_App, w_Ix, w_Par2, w_Raise, w_Try, w_Try0, w_For, w_Sup, endQ_nx, endQ_rt, sat_some, sat_none, sat_ite, sat_map, sat_bind, selO_some, selO_none, sel_true, sel_false, sel_not, wp_ok, wp_ex, wp_st, wp_ite, f_lt, f_le, f_gt, f_ge, f_add, f_sub, f_mul, f_mod, f_fdiv, f_neg, f_p6, f_p9, f_p12, f_p18, f_p20, f_p30, f_int, f_abs, f_max, f_min, f_sqL, f_sqT, f_sqR, f_lenL, f_lenT, f_lenR, f_at20, f_at21, f_set20, f_set21, f_t10, f_t20, f_t21, f_t30, f_t31, f_t32, f_t40, f_t41, f_t42, f_t43, f_eqI, f_eqS, f_isN, w_Yes, o_lend, o_lst, o_tup, o_rol, o_str, o_obj, startE, pslot, putS_eq, isIo_un, isIo_fz, isIo_ow, isIo_xc, isIo_io, slotOf, slotData, setData, putIos, iosOf, lends, argsD, argD, isLst, asB, asI, newO_ok, newX_ok, asObj, asNil, asS, gNm, gsNil, gsCons, gTu, wipeE, backE, ownFree, isCls0, appF, bareX, clrX, List.map_cons, List.map_nil, List.length_cons, List.length_nil, List.replicate_succ, List.replicate_zero, List.cons_append, List.nil_append, List.append_nil, List.getElem?_cons_zero, List.getElem?_cons_succ, List.getElem?_nil, List.set_cons_zero, List.set_cons_succ, Option.bind_some, Option.bind_none, Option.map_some, Option.map_none, Option.getD_some, Option.getD_none, sz, Nat.reduceLeDiff, Int.reduceLT, Int.reduceLE, decide_true, decide_false, Int.reduceBEq, Int.reduceBNe, Bool.false_eq_true, if_false, if_true, Bool.false_xor, Bool.true_xor, Bool.not_true, Bool.not_false, Bool.not_not, Nat.reduceSub, Nat.reduceAdd, List.nodup_cons, List.nodup_nil, List.not_mem_nil, List.mem_cons, not_false_eq_true, and_self, true_and, and_true, List.all_cons, List.all_nil, Bool.and_true, Bool.true_and, tru]
  refine sel_in (fun ha => ?_) (fun ha => ?_)
  · cases d with
    | int t =>
      have hd := of_decide_eq_true hd
      have ht := of_decide_eq_true ha
      have l1 := itx_le hd
      by_cases hn : e = .non
      · subst hn
        simp only [w_C, w_Var, w_retO, w_bindE, w_evEx, w_evPk, argDat_val, argDat_lend, w_retF, w_retF1, w_P2, w_P1, w_Chain, w_ChainM, w_IfE, w_AndV, w_OrV, w_NotV, w_Tup, w_Lst, w_Slice, w_SliceM, w_evPn, w_evPs, w_PN, w_Call, w_Make, w_makeO, w_Meth, w_Len, w_lenK, w_Str, w_Fmt, w_Join0, w_Join, w_Xf, w_Xi, w_Lc, w_Tru, w_Test, w_And, w_Or, w_Not, w_aNil, w_aCons, w_rNil, w_rVal, w_rLend, w_rPk, w_rDfl, w_rSelf, w_iArgs, w_iSeq, w_Seq, thenS_nx, thenS_rt, thenS_bk, thenS_ct, w_Nx, w_Ret, w_RetN, w_RetV, w_Expr, w_nxO, w_Asg, w_If, w_Unp, w_mutS, w_SetF, w_App, w_Ix, w_Par2, w_Raise, w_Try, w_Try0, w_For, w_Sup, endQ_nx, endQ_rt, sat_some, sat_none, sat_ite, sat_map, sat_bind, selO_some, selO_none, sel_true, sel_false, sel_not, wp_ok, wp_ex, wp_st, wp_ite, f_lt, f_le, f_gt, f_ge, f_add, f_sub, f_mul, f_mod, f_fdiv, f_neg, f_p6, f_p9, f_p12, f_p18, f_p20, f_p30, f_int, f_abs, f_max, f_min, f_sqL, f_sqT, f_sqR, f_lenL, f_lenT, f_lenR, f_at20, f_at21, f_set20, f_set21, f_t10, f_t20, f_t21, f_t30, f_t31, f_t32, f_t40, f_t41, f_t42, f_t43, f_eqI, f_eqS, f_isN, w_Yes, o_lend, o_lst, o_tup, o_rol, o_str, o_obj, startE, pslot, putS_eq, isIo_un, isIo_fz, isIo_ow, isIo_xc, isIo_io, slotOf, slotData, setData, putIos, iosOf, lends, argsD, argD, isLst, asB, asI, newO_ok, newX_ok, asObj, asNil, asS, gNm, gsNil, gsCons, gTu, wipeE, backE, ownFree, isCls0, appF, bareX, clrX, List.map_cons, List.map_nil, List.length_cons, List.length_nil, List.replicate_succ, List.replicate_zero, List.cons_append, List.nil_append, List.append_nil, List.getElem?_cons_zero, List.getElem?_cons_succ, List.getElem?_nil, List.set_cons_zero, List.set_cons_succ, Option.bind_some, Option.bind_none, Option.map_some, Option.map_none, Option.getD_some, Option.getD_none, sz, Nat.reduceLeDiff, Int.reduceLT, Int.reduceLE, decide_true, decide_false, Int.reduceBEq, Int.reduceBNe, Bool.false_eq_true, if_false, if_true, Bool.false_xor, Bool.true_xor, Bool.not_true, Bool.not_false, Bool.not_not, Nat.reduceSub, Nat.reduceAdd, List.nodup_cons, List.nodup_nil, List.not_mem_nil, List.mem_cons, not_false_eq_true, and_self, true_and, and_true, List.all_cons, List.all_nil, Bool.and_true, Bool.true_and, isNon, Bool.true_xor, Bool.false_xor, Bool.not_true, Bool.not_false, f_fmtI hd, decide_true]
        refine ⟨by decide, cat_le (n := 5) (by decide) l1 (by omega), ?_⟩
        refine mInit_ok R R.sT ?_
        simp only [w_C, w_Var, w_retO, w_bindE, w_evEx, w_evPk, argDat_val, argDat_lend, w_retF, w_retF1, w_P2, w_P1, w_Chain, w_ChainM, w_IfE, w_AndV, w_OrV, w_NotV, w_Tup, w_Lst, w_Slice, w_SliceM, w_evPn, w_evPs, w_PN, w_Call, w_Make, w_makeO, w_Meth, w_Len, w_lenK, w_Str, w_Fmt, w_Join0, w_Join, w_Xf, w_Xi, w_Lc, w_Tru, w_Test, w_And, w_Or, w_Not, w_aNil, w_aCons, w_rNil, w_rVal, w_rLend, w_rPk, w_rDfl, w_rSelf, w_iArgs, w_iSeq, w_Seq, thenS_nx, thenS_rt, thenS_bk, thenS_ct, w_Nx, w_Ret, w_RetN, w_RetV, w_Expr, w_nxO, w_Asg, w_If, w_Unp, w_mutS, w_SetF, w_App, w_Ix, w_Par2, w_Raise, w_Try, w_Try0, w_For, w_Sup, endQ_nx, endQ_rt, sat_some, sat_none, sat_ite, sat_map, sat_bind, selO_some, selO_none, sel_true, sel_false, sel_not, wp_ok, wp_ex, wp_st, wp_ite, f_lt, f_le, f_gt, f_ge, f_add, f_sub, f_mul, f_mod, f_fdiv, f_neg, f_p6, f_p9, f_p12, f_p18, f_p20, f_p30, f_int, f_abs, f_max, f_min, f_sqL, f_sqT, f_sqR, f_lenL, f_lenT, f_lenR, f_at20, f_at21, f_set20, f_set21, f_t10, f_t20, f_t21, f_t30, f_t31, f_t32, f_t40, f_t41, f_t42, f_t43, f_eqI, f_eqS, f_isN, w_Yes, o_lend, o_lst, o_tup, o_rol, o_str, o_obj, startE, pslot, putS_eq, isIo_un, isIo_fz, isIo_ow, isIo_xc, isIo_io, slotOf, slotData, setData, putIos, iosOf, lends, argsD, argD, isLst, asB, asI, newO_ok, newX_ok, asObj, asNil, asS, gNm, gsNil, gsCons, gTu, wipeE, backE, ownFree, isCls0, appF, bareX, clrX, List.map_cons, List.map_nil, List.length_cons, List.length_nil, List.replicate_succ, List.replicate_zero, List.cons_append, List.nil_append, List.append_nil, List.getElem?_cons_zero, List.getElem?_cons_succ, List.getElem?_nil, List.set_cons_zero, List.set_cons_succ, Option.bind_some, Option.bind_none, Option.map_some, Option.map_none, Option.getD_some, Option.getD_none, sz, Nat.reduceLeDiff, Int.reduceLT, Int.reduceLE, decide_true, decide_false, Int.reduceBEq, Int.reduceBNe, Bool.false_eq_true, if_false, if_true, Bool.false_xor, Bool.true_xor, Bool.not_true, Bool.not_false, Bool.not_not, Nat.reduceSub, Nat.reduceAdd, List.nodup_cons, List.nodup_nil, List.not_mem_nil, List.mem_cons, not_false_eq_true, and_self, true_and, and_true, List.all_cons, List.all_nil, Bool.and_true, Bool.true_and, set_1 (g := "script") R.tT (by decide), set_2 (g := "script") (g' := "at") R.aT (by decide) (by decide)]
        exact h1 t rfl ht rfl
      · have hi : isNon e = false := by cases e <;> first | rfl | exact absurd rfl hn
        simp only [w_C, w_Var, w_retO, w_bindE, w_evEx, w_evPk, argDat_val, argDat_lend, w_retF, w_retF1, w_P2, w_P1, w_Chain, w_ChainM, w_IfE, w_AndV, w_OrV, w_NotV, w_Tup, w_Lst, w_Slice, w_SliceM, w_evPn, w_evPs, w_PN, w_Call, w_Make, w_makeO, w_Meth, w_Len, w_lenK, w_Str, w_Fmt, w_Join0, w_Join, w_Xf, w_Xi, w_Lc, w_Tru, w_Test, w_And, w_Or, w_Not, w_aNil, w_aCons, w_rNil, w_rVal, w_rLend, w_rPk, w_rDfl, w_rSelf, w_iArgs, w_iSeq, w_Seq, thenS_nx, thenS_rt, thenS_bk, thenS_ct, w_Nx, w_Ret, w_RetN, w_RetV, w_Expr, w_nxO, w_Asg, w_If, w_Unp, w_mutS, w_SetF, w_App, w_Ix, w_Par2, w_Raise, w_Try, w_Try0, w_For, w_Sup, endQ_nx, endQ_rt, sat_some, sat_none, sat_ite, sat_map, sat_bind, selO_some, selO_none, sel_true, sel_false, sel_not, wp_ok, wp_ex, wp_st, wp_ite, f_lt, f_le, f_gt, f_ge, f_add, f_sub, f_mul, f_mod, f_fdiv, f_neg, f_p6, f_p9, f_p12, f_p18, f_p20, f_p30, f_int, f_abs, f_max, f_min, f_sqL, f_sqT, f_sqR, f_lenL, f_lenT, f_lenR, f_at20, f_at21, f_set20, f_set21, f_t10, f_t20, f_t21, f_t30, f_t31, f_t32, f_t40, f_t41, f_t42, f_t43, f_eqI, f_eqS, f_isN, w_Yes, o_lend, o_lst, o_tup, o_rol, o_str, o_obj, startE, pslot, putS_eq, isIo_un, isIo_fz, isIo_ow, isIo_xc, isIo_io, slotOf, slotData, setData, putIos, iosOf, lends, argsD, argD, isLst, asB, asI, newO_ok, newX_ok, asObj, asNil, asS, gNm, gsNil, gsCons, gTu, wipeE, backE, ownFree, isCls0, appF, bareX, clrX, List.map_cons, List.map_nil, List.length_cons, List.length_nil, List.replicate_succ, List.replicate_zero, List.cons_append, List.nil_append, List.append_nil, List.getElem?_cons_zero, List.getElem?_cons_succ, List.getElem?_nil, List.set_cons_zero, List.set_cons_succ, Option.bind_some, Option.bind_none, Option.map_some, Option.map_none, Option.getD_some, Option.getD_none, sz, Nat.reduceLeDiff, Int.reduceLT, Int.reduceLE, decide_true, decide_false, Int.reduceBEq, Int.reduceBNe, Bool.false_eq_true, if_false, if_true, Bool.false_xor, Bool.true_xor, Bool.not_true, Bool.not_false, Bool.not_not, Nat.reduceSub, Nat.reduceAdd, List.nodup_cons, List.nodup_nil, List.not_mem_nil, List.mem_cons, not_false_eq_true, and_self, true_and, and_true, List.all_cons, List.all_nil, Bool.and_true, Bool.true_and, hi, Bool.true_xor, Bool.false_xor, Bool.not_true, Bool.not_false]
        refine amount_ok R.toWords (fit_plain he) ?_
        simp only [w_C, w_Var, w_retO, w_bindE, w_evEx, w_evPk, argDat_val, argDat_lend, w_retF, w_retF1, w_P2, w_P1, w_Chain, w_ChainM, w_IfE, w_AndV, w_OrV, w_NotV, w_Tup, w_Lst, w_Slice, w_SliceM, w_evPn, w_evPs, w_PN, w_Call, w_Make, w_makeO, w_Meth, w_Len, w_lenK, w_Str, w_Fmt, w_Join0, w_Join, w_Xf, w_Xi, w_Lc, w_Tru, w_Test, w_And, w_Or, w_Not, w_aNil, w_aCons, w_rNil, w_rVal, w_rLend, w_rPk, w_rDfl, w_rSelf, w_iArgs, w_iSeq, w_Seq, thenS_nx, thenS_rt, thenS_bk, thenS_ct, w_Nx, w_Ret, w_RetN, w_RetV, w_Expr, w_nxO, w_Asg, w_If, w_Unp, w_mutS, w_SetF, w_App, w_Ix, w_Par2, w_Raise, w_Try, w_Try0, w_For, w_Sup, endQ_nx, endQ_rt, sat_some, sat_none, sat_ite, sat_map, sat_bind, selO_some, selO_none, sel_true, sel_false, sel_not, wp_ok, wp_ex, wp_st, wp_ite, f_lt, f_le, f_gt, f_ge, f_add, f_sub, f_mul, f_mod, f_fdiv, f_neg, f_p6, f_p9, f_p12, f_p18, f_p20, f_p30, f_int, f_abs, f_max, f_min, f_sqL, f_sqT, f_sqR, f_lenL, f_lenT, f_lenR, f_at20, f_at21, f_set20, f_set21, f_t10, f_t20, f_t21, f_t30, f_t31, f_t32, f_t40, f_t41, f_t42, f_t43, f_eqI, f_eqS, f_isN, w_Yes, o_lend, o_lst, o_tup, o_rol, o_str, o_obj, startE, pslot, putS_eq, isIo_un, isIo_fz, isIo_ow, isIo_xc, isIo_io, slotOf, slotData, setData, putIos, iosOf, lends, argsD, argD, isLst, asB, asI, newO_ok, newX_ok, asObj, asNil, asS, gNm, gsNil, gsCons, gTu, wipeE, backE, ownFree, isCls0, appF, bareX, clrX, List.map_cons, List.map_nil, List.length_cons, List.length_nil, List.replicate_succ, List.replicate_zero, List.cons_append, List.nil_append, List.append_nil, List.getElem?_cons_zero, List.getElem?_cons_succ, List.getElem?_nil, List.set_cons_zero, List.set_cons_succ, Option.bind_some, Option.bind_none, Option.map_some, Option.map_none, Option.getD_some, Option.getD_none, sz, Nat.reduceLeDiff, Int.reduceLT, Int.reduceLE, decide_true, decide_false, Int.reduceBEq, Int.reduceBNe, Bool.false_eq_true, if_false, if_true, Bool.false_xor, Bool.true_xor, Bool.not_true, Bool.not_false, Bool.not_not, Nat.reduceSub, Nat.reduceAdd, List.nodup_cons, List.nodup_nil, List.not_mem_nil, List.mem_cons, not_false_eq_true, and_self, true_and, and_true, List.all_cons, List.all_nil, Bool.and_true, Bool.true_and, tru]
        refine sel_in (fun hb => ?_) (fun hb => ?_)
        · cases e with
          | int a =>
            have he := of_decide_eq_true he
            have l2 := itx_le he
            simp only [w_C, w_Var, w_retO, w_bindE, w_evEx, w_evPk, argDat_val, argDat_lend, w_retF, w_retF1, w_P2, w_P1, w_Chain, w_ChainM, w_IfE, w_AndV, w_OrV, w_NotV, w_Tup, w_Lst, w_Slice, w_SliceM, w_evPn, w_evPs, w_PN, w_Call, w_Make, w_makeO, w_Meth, w_Len, w_lenK, w_Str, w_Fmt, w_Join0, w_Join, w_Xf, w_Xi, w_Lc, w_Tru, w_Test, w_And, w_Or, w_Not, w_aNil, w_aCons, w_rNil, w_rVal, w_rLend, w_rPk, w_rDfl, w_rSelf, w_iArgs, w_iSeq, w_Seq, thenS_nx, thenS_rt, thenS_bk, thenS_ct, w_Nx, w_Ret, w_RetN, w_RetV, w_Expr, w_nxO, w_Asg, w_If, w_Unp, w_mutS, w_SetF, w_App, w_Ix, w_Par2, w_Raise, w_Try, w_Try0, w_For, w_Sup, endQ_nx, endQ_rt, sat_some, sat_none, sat_ite, sat_map, sat_bind, selO_some, selO_none, sel_true, sel_false, sel_not, wp_ok, wp_ex, wp_st, wp_ite, f_lt, f_le, f_gt, f_ge, f_add, f_sub, f_mul, f_mod, f_fdiv, f_neg, f_p6, f_p9, f_p12, f_p18, f_p20, f_p30, f_int, f_abs, f_max, f_min, f_sqL, f_sqT, f_sqR, f_lenL, f_lenT, f_lenR, f_at20, f_at21, f_set20, f_set21, f_t10, f_t20, f_t21, f_t30, f_t31, f_t32, f_t40, f_t41, f_t42, f_t43, f_eqI, f_eqS, f_isN, w_Yes, o_lend, o_lst, o_tup, o_rol, o_str, o_obj, startE, pslot, putS_eq, isIo_un, isIo_fz, isIo_ow, isIo_xc, isIo_io, slotOf, slotData, setData, putIos, iosOf, lends, argsD, argD, isLst, asB, asI, newO_ok, newX_ok, asObj, asNil, asS, gNm, gsNil, gsCons, gTu, wipeE, backE, ownFree, isCls0, appF, bareX, clrX, List.map_cons, List.map_nil, List.length_cons, List.length_nil, List.replicate_succ, List.replicate_zero, List.cons_append, List.nil_append, List.append_nil, List.getElem?_cons_zero, List.getElem?_cons_succ, List.getElem?_nil, List.set_cons_zero, List.set_cons_succ, Option.bind_some, Option.bind_none, Option.map_some, Option.map_none, Option.getD_some, Option.getD_none, sz, Nat.reduceLeDiff, Int.reduceLT, Int.reduceLE, decide_true, decide_false, Int.reduceBEq, Int.reduceBNe, Bool.false_eq_true, if_false, if_true, Bool.false_xor, Bool.true_xor, Bool.not_true, Bool.not_false, Bool.not_not, Nat.reduceSub, Nat.reduceAdd, List.nodup_cons, List.nodup_nil, List.not_mem_nil, List.mem_cons, not_false_eq_true, and_self, true_and, and_true, List.all_cons, List.all_nil, Bool.and_true, Bool.true_and, isNon, Bool.true_xor, Bool.false_xor, Bool.not_true, Bool.not_false, f_fmtI hd, f_fmtI he, decide_true]
            have k1 : (Str.empty ++ "take " : Str).length ≤ 5 := by decide
            have k2 := cat_n k1 l1
            have k3 := cat_n k2 (show (" by " : Str).length ≤ 4 by decide)
            refine ⟨le_line k1 (by omega), le_line k2 (by omega), le_line k3 (by omega), le_line (cat_n k3 l2) (by omega), ?_⟩
            refine mInit_ok R R.sT ?_
            simp only [w_C, w_Var, w_retO, w_bindE, w_evEx, w_evPk, argDat_val, argDat_lend, w_retF, w_retF1, w_P2, w_P1, w_Chain, w_ChainM, w_IfE, w_AndV, w_OrV, w_NotV, w_Tup, w_Lst, w_Slice, w_SliceM, w_evPn, w_evPs, w_PN, w_Call, w_Make, w_makeO, w_Meth, w_Len, w_lenK, w_Str, w_Fmt, w_Join0, w_Join, w_Xf, w_Xi, w_Lc, w_Tru, w_Test, w_And, w_Or, w_Not, w_aNil, w_aCons, w_rNil, w_rVal, w_rLend, w_rPk, w_rDfl, w_rSelf, w_iArgs, w_iSeq, w_Seq, thenS_nx, thenS_rt, thenS_bk, thenS_ct, w_Nx, w_Ret, w_RetN, w_RetV, w_Expr, w_nxO, w_Asg, w_If, w_Unp, w_mutS, w_SetF, w_App, w_Ix, w_Par2, w_Raise, w_Try, w_Try0, w_For, w_Sup, endQ_nx, endQ_rt, sat_some, sat_none, sat_ite, sat_map, sat_bind, selO_some, selO_none, sel_true, sel_false, sel_not, wp_ok, wp_ex, wp_st, wp_ite, f_lt, f_le, f_gt, f_ge, f_add, f_sub, f_mul, f_mod, f_fdiv, f_neg, f_p6, f_p9, f_p12, f_p18, f_p20, f_p30, f_int, f_abs, f_max, f_min, f_sqL, f_sqT, f_sqR, f_lenL, f_lenT, f_lenR, f_at20, f_at21, f_set20, f_set21, f_t10, f_t20, f_t21, f_t30, f_t31, f_t32, f_t40, f_t41, f_t42, f_t43, f_eqI, f_eqS, f_isN, w_Yes, o_lend, o_lst, o_tup, o_rol, o_str, o_obj, startE, pslot, putS_eq, isIo_un, isIo_fz, isIo_ow, isIo_xc, isIo_io, slotOf, slotData, setData, putIos, iosOf, lends, argsD, argD, isLst, asB, asI, newO_ok, newX_ok, asObj, asNil, asS, gNm, gsNil, gsCons, gTu, wipeE, backE, ownFree, isCls0, appF, bareX, clrX, List.map_cons, List.map_nil, List.length_cons, List.length_nil, List.replicate_succ, List.replicate_zero, List.cons_append, List.nil_append, List.append_nil, List.getElem?_cons_zero, List.getElem?_cons_succ, List.getElem?_nil, List.set_cons_zero, List.set_cons_succ, Option.bind_some, Option.bind_none, Option.map_some, Option.map_none, Option.getD_some, Option.getD_none, sz, Nat.reduceLeDiff, Int.reduceLT, Int.reduceLE, decide_true, decide_false, Int.reduceBEq, Int.reduceBNe, Bool.false_eq_true, if_false, if_true, Bool.false_xor, Bool.true_xor, Bool.not_true, Bool.not_false, Bool.not_not, Nat.reduceSub, Nat.reduceAdd, List.nodup_cons, List.nodup_nil, List.not_mem_nil, List.mem_cons, not_false_eq_true, and_self, true_and, and_true, List.all_cons, List.all_nil, Bool.and_true, Bool.true_and, set_1 (g := "script") R.tT (by decide), set_2 (g := "script") (g' := "at") R.aT (by decide) (by decide)]
            exact h2 t a rfl ht rfl (of_decide_eq_true hb)
          | _ => cases hb
        · simp only [w_C, w_Var, w_retO, w_bindE, w_evEx, w_evPk, argDat_val, argDat_lend, w_retF, w_retF1, w_P2, w_P1, w_Chain, w_ChainM, w_IfE, w_AndV, w_OrV, w_NotV, w_Tup, w_Lst, w_Slice, w_SliceM, w_evPn, w_evPs, w_PN, w_Call, w_Make, w_makeO, w_Meth, w_Len, w_lenK, w_Str, w_Fmt, w_Join0, w_Join, w_Xf, w_Xi, w_Lc, w_Tru, w_Test, w_And, w_Or, w_Not, w_aNil, w_aCons, w_rNil, w_rVal, w_rLend, w_rPk, w_rDfl, w_rSelf, w_iArgs, w_iSeq, w_Seq, thenS_nx, thenS_rt, thenS_bk, thenS_ct, w_Nx, w_Ret, w_RetN, w_RetV, w_Expr, w_nxO, w_Asg, w_If, w_Unp, w_mutS, w_SetF, w_App, w_Ix, w_Par2, w_Raise, w_Try, w_Try0, w_For, w_Sup, endQ_nx, endQ_rt, sat_some, sat_none, sat_ite, sat_map, sat_bind, selO_some, selO_none, sel_true, sel_false, sel_not, wp_ok, wp_ex, wp_st, wp_ite, f_lt, f_le, f_gt, f_ge, f_add, f_sub, f_mul, f_mod, f_fdiv, f_neg, f_p6, f_p9, f_p12, f_p18, f_p20, f_p30, f_int, f_abs, f_max, f_min, f_sqL, f_sqT, f_sqR, f_lenL, f_lenT, f_lenR, f_at20, f_at21, f_set20, f_set21, f_t10, f_t20, f_t21, f_t30, f_t31, f_t32, f_t40, f_t41, f_t42, f_t43, f_eqI, f_eqS, f_isN, w_Yes, o_lend, o_lst, o_tup, o_rol, o_str, o_obj, startE, pslot, putS_eq, isIo_un, isIo_fz, isIo_ow, isIo_xc, isIo_io, slotOf, slotData, setData, putIos, iosOf, lends, argsD, argD, isLst, asB, asI, newO_ok, newX_ok, asObj, asNil, asS, gNm, gsNil, gsCons, gTu, wipeE, backE, ownFree, isCls0, appF, bareX, clrX, List.map_cons, List.map_nil, List.length_cons, List.length_nil, List.replicate_succ, List.replicate_zero, List.cons_append, List.nil_append, List.append_nil, List.getElem?_cons_zero, List.getElem?_cons_succ, List.getElem?_nil, List.set_cons_zero, List.set_cons_succ, Option.bind_some, Option.bind_none, Option.map_some, Option.map_none, Option.getD_some, Option.getD_none, sz, Nat.reduceLeDiff, Int.reduceLT, Int.reduceLE, decide_true, decide_false, Int.reduceBEq, Int.reduceBNe, Bool.false_eq_true, if_false, if_true, Bool.false_xor, Bool.true_xor, Bool.not_true, Bool.not_false, Bool.not_not, Nat.reduceSub, Nat.reduceAdd, List.nodup_cons, List.nodup_nil, List.not_mem_nil, List.mem_cons, not_false_eq_true, and_self, true_and, and_true, List.all_cons, List.all_nil, Bool.and_true, Bool.true_and]
          exact h4 ha hn hb
    | _ => cases ha
  · simp only [w_C, w_Var, w_retO, w_bindE, w_evEx, w_evPk, argDat_val, argDat_lend, w_retF, w_retF1, w_P2, w_P1, w_Chain, w_ChainM, w_IfE, w_AndV, w_OrV, w_NotV, w_Tup, w_Lst, w_Slice, w_SliceM, w_evPn, w_evPs, w_PN, w_Call, w_Make, w_makeO, w_Meth, w_Len, w_lenK, w_Str, w_Fmt, w_Join0, w_Join, w_Xf, w_Xi, w_Lc, w_Tru, w_Test, w_And, w_Or, w_Not, w_aNil, w_aCons, w_rNil, w_rVal, w_rLend, w_rPk, w_rDfl, w_rSelf, w_iArgs, w_iSeq, w_Seq, thenS_nx, thenS_rt, thenS_bk, thenS_ct, w_Nx, w_Ret, w_RetN, w_RetV, w_Expr, w_nxO, w_Asg, w_If, w_Unp, w_mutS, w_SetF, w_App, w_Ix, w_Par2, w_Raise, w_Try, w_Try0, w_For, w_Sup, endQ_nx, endQ_rt, sat_some, sat_none, sat_ite, sat_map, sat_bind, selO_some, selO_none, sel_true, sel_false, sel_not, wp_ok, wp_ex, wp_st, wp_ite, f_lt, f_le, f_gt, f_ge, f_add, f_sub, f_mul, f_mod, f_fdiv, f_neg, f_p6, f_p9, f_p12, f_p18, f_p20, f_p30, f_int, f_abs, f_max, f_min, f_sqL, f_sqT, f_sqR, f_lenL, f_lenT, f_lenR, f_at20, f_at21, f_set20, f_set21, f_t10, f_t20, f_t21, f_t30, f_t31, f_t32, f_t40, f_t41, f_t42, f_t43, f_eqI, f_eqS, f_isN, w_Yes, o_lend, o_lst, o_tup, o_rol, o_str, o_obj, startE, pslot, putS_eq, isIo_un, isIo_fz, isIo_ow, isIo_xc, isIo_io, slotOf, slotData, setData, putIos, iosOf, lends, argsD, argD, isLst, asB, asI, newO_ok, newX_ok, asObj, asNil, asS, gNm, gsNil, gsCons, gTu, wipeE, backE, ownFree, isCls0, appF, bareX, clrX, List.map_cons, List.map_nil, List.length_cons, List.length_nil, List.replicate_succ, List.replicate_zero, List.cons_append, List.nil_append, List.append_nil, List.getElem?_cons_zero, List.getElem?_cons_succ, List.getElem?_nil, List.set_cons_zero, List.set_cons_succ, Option.bind_some, Option.bind_none, Option.map_some, Option.map_none, Option.getD_some, Option.getD_none, sz, Nat.reduceLeDiff, Int.reduceLT, Int.reduceLE, decide_true, decide_false, Int.reduceBEq, Int.reduceBNe, Bool.false_eq_true, if_false, if_true, Bool.false_xor, Bool.true_xor, Bool.not_true, Bool.not_false, Bool.not_not, Nat.reduceSub, Nat.reduceAdd, List.nodup_cons, List.nodup_nil, List.not_mem_nil, List.mem_cons, not_false_eq_true, and_self, true_and, and_true, List.all_cons, List.all_nil, Bool.and_true, Bool.true_and]
    exact h3 ha
abbrev tRight (t a : Int) : Str := Str.empty ++ "right " ++ itx t ++ " to " ++ itx a
abbrev oRight (t a : Int) : D := .obj "Right" [("script", .str (tRight t a)), ("at", .int t), ("amount", .int a)]
theorem right_ok (R : Moves3 G dens) {e : D} (hd : fit d = true) (he : fit e = true) (h2 : ∀ t a, d = .int t → 0 ≤ t → e = .int a → 1 ≤ a → q.run (false, .non) [oRight t a])
    (h3 : atLeast 0 d = false → x.run ⟨"InvalidMove", [("word", .str "at")]⟩ [.obj "Right" []]) (h4 : atLeast 0 d = true → atLeast 1 e = false → x.run ⟨"InvalidMove", [("word", .str "amount")]⟩ [.obj "Right" []]) :
    wpC (callD dens (m + 3) (("Right" : PySem.Str), some ("__init__" : PySem.Str)) [(true, .obj "Right" []), (false, d), (false, e)]) := by
  rw [w_run R.right rfl]
  unfold n_Right_init
  simp only [w_C, w_Var, w_retO, w_bindE, w_evEx, w_evPk, argDat_val, argDat_lend, w_retF, w_retF1, w_P2, w_P1, w_Chain, w_ChainM, w_IfE, w_AndV, w_OrV, w_NotV, w_Tup, w_Lst, w_Slice, w_SliceM, w_evPn, w_evPs, w_PN, w_Call, w_Make, w_makeO, w_Meth, w_Len, w_lenK, w_Str, w_Fmt, w_Join0, w_Join, w_Xf, w_Xi, w_Lc, w_Tru, w_Test, w_And, w_Or, w_Not, w_aNil, w_aCons, w_rNil, w_rVal, w_rLend, w_rPk, w_rDfl, w_rSelf, w_iArgs, w_iSeq, w_Seq, thenS_nx, thenS_rt, thenS_bk, thenS_ct, w_Nx, w_Ret, w_RetN, w_RetV, w_Expr, w_nxO, w_Asg, w_If, w_Unp, w_mutS, w_SetF, w_App, w_Ix, w_Par2, w_Raise, w_Try, w_Try0, w_For, w_Sup, endQ_nx, endQ_rt, sat_some, sat_none, sat_ite, sat_map, sat_bind, selO_some, selO_none, sel_true, sel_false, sel_not, wp_ok, wp_ex, wp_st, wp_ite, f_lt, f_le, f_gt, f_ge, f_add, f_sub, f_mul, f_mod, f_fdiv, f_neg, f_p6, f_p9, f_p12, f_p18, f_p20, f_p30, f_int, f_abs, f_max, f_min, f_sqL, f_sqT, f_sqR, f_lenL, f_lenT, f_lenR, f_at20, f_at21, f_set20, f_set21, f_t10, f_t20, f_t21, f_t30, f_t31, f_t32, f_t40, f_t41, f_t42, f_t43, f_eqI, f_eqS, f_isN, w_Yes, o_lend, o_lst, o_tup, o_rol, o_str, o_obj, startE, pslot, putS_eq, isIo_un, isIo_fz, isIo_ow, isIo_xc, isIo_io, slotOf, slotData, setData, putIos, iosOf, lends, argsD, argD, isLst, asB, asI, newO_ok, newX_ok, asObj, asNil, asS, gNm, gsNil, gsCons, gTu, wipeE, backE, ownFree, isCls0, appF, bareX, clrX, List.map_cons, List.map_nil, List.length_cons, List.length_nil, List.replicate_succ, List.replicate_zero, List.cons_append, List.nil_append, List.append_nil, List.getElem?_cons_zero, List.getElem?_cons_succ, List.getElem?_nil, List.set_cons_zero, List.set_cons_succ, Option.bind_some, Option.bind_none, Option.map_some, Option.map_none, Option.getD_some, Option.getD_none, sz, Nat.reduceLeDiff, Int.reduceLT, Int.reduceLE, decide_true, decide_false, Int.reduceBEq, Int.reduceBNe, Bool.false_eq_true, if_false, if_true, Bool.false_xor, Bool.true_xor, Bool.not_true, Bool.not_false, Bool.not_not, Nat.reduceSub, Nat.reduceAdd, List.nodup_cons, List.nodup_nil, List.not_mem_nil, List.mem_cons, not_false_eq_true, and_self, true_and, and_true, List.all_cons, List.all_nil, Bool.and_true, Bool.true_and]
  refine number_ok R.toWords (fit_plain hd) ?_
  simp only [w_C, w_Var, w_retO, w_bindE, w_evEx, w_evPk, argDat_val, argDat_lend, w_retF, w_retF1, w_P2, w_P1, w_Chain, w_ChainM, w_IfE, w_AndV, w_OrV, w_NotV, w_Tup, w_Lst, w_Slice, w_SliceM, w_evPn, w_evPs, w_PN, w_Call, w_Make, w_makeO, w_Meth, w_Len, w_lenK, w_Str, w_Fmt, w_Join0, w_Join, w_Xf, w_Xi, w_Lc, w_Tru, w_Test, w_And, w_Or, w_Not, w_aNil, w_aCons, w_rNil, w_rVal, w_rLend, w_rPk, w_rDfl, w_rSelf, w_iArgs, w_iSeq, w_Seq, thenS_nx, thenS_rt, thenS_bk, thenS_ct, w_Nx, w_Ret, w_RetN, w_RetV, w_Expr, w_nxO, w_Asg, w_If, w_Unp, w_mutS, w_SetF, w_App, w_Ix, w_Par2, w_Raise, w_Try, w_Try0, w_For, w_Sup, endQ_nx, endQ_rt, sat_some, sat_none, sat_ite, sat_map, sat_bind, selO_some, selO_none, sel_true, sel_false, sel_not, wp_ok, wp_ex, wp_st, wp_ite, f_lt, f_le, f_gt, f_ge, f_add, f_sub, f_mul, f_mod, f_fdiv, f_neg, f_p6, f_p9, f_p12, f_p18, f_p20, f_p30, f_int, f_abs, f_max, f_min, f_sqL, f_sqT, f_sqR, f_lenL, f_lenT, f_lenR, f_at20, f_at21, f_set20, f_set21, f_t10, f_t20, f_t21, f_t30, f_t31, f_t32, f_t40, f_t41, f_t42, f_t43, f_eqI, f_eqS, f_isN, w_Yes, o_lend, o_lst, o_tup, o_rol, o_str, o_obj, startE, pslot, putS_eq, isIo_un, isIo_fz, isIo_ow, isIo_xc, isIo_io, slotOf, slotData, setData, putIos, iosOf, lends, argsD, argD, isLst, asB, asI, newO_ok, newX_ok, asObj, asNil, asS, gNm, gsNil, gsCons, gTu, wipeE, backE, ownFree, isCls0, appF, bareX, clrX, List.map_cons, List.map_nil, List.length_cons, List.length_nil, List.replicate_succ, List.replicate_zero, List.cons_append, List.nil_append, List.append_nil, List.getElem?_cons_zero, List.getElem?_cons_succ, List.getElem?_nil, List.set_cons_zero, List.set_cons_succ, Option.bind_some, Option.bind_none, Option.map_some, Option.map_none, Option.getD_some, Option.getD_none, sz, Nat.reduceLeDiff, Int.reduceLT, Int.reduceLE, decide_true, decide_false, Int.reduceBEq, Int.reduceBNe, Bool.false_eq_true, if_false, if_true, Bool.false_xor, Bool.true_xor, Bool.not_true, Bool.not_false, Bool.not_not, Nat.reduceSub, Nat.reduceAdd, List.nodup_cons, List.nodup_nil, List.not_mem_nil, List.mem_cons, not_false_eq_true, and_self, true_and, and_true, List.all_cons, List.all_nil, Bool.and_true, Bool.true_and, tru]
  refine sel_in (fun ha => ?_) (fun ha => ?_)
  · cases d with
    | int t =>
      have hd := of_decide_eq_true hd
      have ht := of_decide_eq_true ha
      have l1 := itx_le hd
      simp only [w_C, w_Var, w_retO, w_bindE, w_evEx, w_evPk, argDat_val, argDat_lend, w_retF, w_retF1, w_P2, w_P1, w_Chain, w_ChainM, w_IfE, w_AndV, w_OrV, w_NotV, w_Tup, w_Lst, w_Slice, w_SliceM, w_evPn, w_evPs, w_PN, w_Call, w_Make, w_makeO, w_Meth, w_Len, w_lenK, w_Str, w_Fmt, w_Join0, w_Join, w_Xf, w_Xi, w_Lc, w_Tru, w_Test, w_And, w_Or, w_Not, w_aNil, w_aCons, w_rNil, w_rVal, w_rLend, w_rPk, w_rDfl, w_rSelf, w_iArgs, w_iSeq, w_Seq, thenS_nx, thenS_rt, thenS_bk, thenS_ct, w_Nx, w_Ret, w_RetN, w_RetV, w_Expr, w_nxO, w_Asg, w_If, w_Unp, w_mutS, w_SetF, w_App, w_Ix, w_Par2, w_Raise, w_Try, w_Try0, w_For, w_Sup, endQ_nx, endQ_rt, sat_some, sat_none, sat_ite, sat_map, sat_bind, selO_some, selO_none, sel_true, sel_false, sel_not, wp_ok, wp_ex, wp_st, wp_ite, f_lt, f_le, f_gt, f_ge, f_add, f_sub, f_mul, f_mod, f_fdiv, f_neg, f_p6, f_p9, f_p12, f_p18, f_p20, f_p30, f_int, f_abs, f_max, f_min, f_sqL, f_sqT, f_sqR, f_lenL, f_lenT, f_lenR, f_at20, f_at21, f_set20, f_set21, f_t10, f_t20, f_t21, f_t30, f_t31, f_t32, f_t40, f_t41, f_t42, f_t43, f_eqI, f_eqS, f_isN, w_Yes, o_lend, o_lst, o_tup, o_rol, o_str, o_obj, startE, pslot, putS_eq, isIo_un, isIo_fz, isIo_ow, isIo_xc, isIo_io, slotOf, slotData, setData, putIos, iosOf, lends, argsD, argD, isLst, asB, asI, newO_ok, newX_ok, asObj, asNil, asS, gNm, gsNil, gsCons, gTu, wipeE, backE, ownFree, isCls0, appF, bareX, clrX, List.map_cons, List.map_nil, List.length_cons, List.length_nil, List.replicate_succ, List.replicate_zero, List.cons_append, List.nil_append, List.append_nil, List.getElem?_cons_zero, List.getElem?_cons_succ, List.getElem?_nil, List.set_cons_zero, List.set_cons_succ, Option.bind_some, Option.bind_none, Option.map_some, Option.map_none, Option.getD_some, Option.getD_none, sz, Nat.reduceLeDiff, Int.reduceLT, Int.reduceLE, decide_true, decide_false, Int.reduceBEq, Int.reduceBNe, Bool.false_eq_true, if_false, if_true, Bool.false_xor, Bool.true_xor, Bool.not_true, Bool.not_false, Bool.not_not, Nat.reduceSub, Nat.reduceAdd, List.nodup_cons, List.nodup_nil, List.not_mem_nil, List.mem_cons, not_false_eq_true, and_self, true_and, and_true, List.all_cons, List.all_nil, Bool.and_true, Bool.true_and]
      refine amount_ok R.toWords (fit_plain he) ?_
      simp only [w_C, w_Var, w_retO, w_bindE, w_evEx, w_evPk, argDat_val, argDat_lend, w_retF, w_retF1, w_P2, w_P1, w_Chain, w_ChainM, w_IfE, w_AndV, w_OrV, w_NotV, w_Tup, w_Lst, w_Slice, w_SliceM, w_evPn, w_evPs, w_PN, w_Call, w_Make, w_makeO, w_Meth, w_Len, w_lenK, w_Str, w_Fmt, w_Join0, w_Join, w_Xf, w_Xi, w_Lc, w_Tru, w_Test, w_And, w_Or, w_Not, w_aNil, w_aCons, w_rNil, w_rVal, w_rLend, w_rPk, w_rDfl, w_rSelf, w_iArgs, w_iSeq, w_Seq, thenS_nx, thenS_rt, thenS_bk, thenS_ct, w_Nx, w_Ret, w_RetN, w_RetV, w_Expr, w_nxO, w_Asg, w_If, w_Unp, w_mutS, w_SetF, w_App, w_Ix, w_Par2, w_Raise, w_Try, w_Try0, w_For, w_Sup, endQ_nx, endQ_rt, sat_some, sat_none, sat_ite, sat_map, sat_bind, selO_some, selO_none, sel_true, sel_false, sel_not, wp_ok, wp_ex, wp_st, wp_ite, f_lt, f_le, f_gt, f_ge, f_add, f_sub, f_mul, f_mod, f_fdiv, f_neg, f_p6, f_p9, f_p12, f_p18, f_p20, f_p30, f_int, f_abs, f_max, f_min, f_sqL, f_sqT, f_sqR, f_lenL, f_lenT, f_lenR, f_at20, f_at21, f_set20, f_set21, f_t10, f_t20, f_t21, f_t30, f_t31, f_t32, f_t40, f_t41, f_t42, f_t43, f_eqI, f_eqS, f_isN, w_Yes, o_lend, o_lst, o_tup, o_rol, o_str, o_obj, startE, pslot, putS_eq, isIo_un, isIo_fz, isIo_ow, isIo_xc, isIo_io, slotOf, slotData, setData, putIos, iosOf, lends, argsD, argD, isLst, asB, asI, newO_ok, newX_ok, asObj, asNil, asS, gNm, gsNil, gsCons, gTu, wipeE, backE, ownFree, isCls0, appF, bareX, clrX, List.map_cons, List.map_nil, List.length_cons, List.length_nil, List.replicate_succ, List.replicate_zero, List.cons_append, List.nil_append, List.append_nil, List.getElem?_cons_zero, List.getElem?_cons_succ, List.getElem?_nil, List.set_cons_zero, List.set_cons_succ, Option.bind_some, Option.bind_none, Option.map_some, Option.map_none, Option.getD_some, Option.getD_none, sz, Nat.reduceLeDiff, Int.reduceLT, Int.reduceLE, decide_true, decide_false, Int.reduceBEq, Int.reduceBNe, Bool.false_eq_true, if_false, if_true, Bool.false_xor, Bool.true_xor, Bool.not_true, Bool.not_false, Bool.not_not, Nat.reduceSub, Nat.reduceAdd, List.nodup_cons, List.nodup_nil, List.not_mem_nil, List.mem_cons, not_false_eq_true, and_self, true_and, and_true, List.all_cons, List.all_nil, Bool.and_true, Bool.true_and, tru]
      refine sel_in (fun hb => ?_) (fun hb => ?_)
      · cases e with
        | int a =>
          have he := of_decide_eq_true he
          have l2 := itx_le he
          simp only [w_C, w_Var, w_retO, w_bindE, w_evEx, w_evPk, argDat_val, argDat_lend, w_retF, w_retF1, w_P2, w_P1, w_Chain, w_ChainM, w_IfE, w_AndV, w_OrV, w_NotV, w_Tup, w_Lst, w_Slice, w_SliceM, w_evPn, w_evPs, w_PN, w_Call, w_Make, w_makeO, w_Meth, w_Len, w_lenK, w_Str, w_Fmt, w_Join0, w_Join, w_Xf, w_Xi, w_Lc, w_Tru, w_Test, w_And, w_Or, w_Not, w_aNil, w_aCons, w_rNil, w_rVal, w_rLend, w_rPk, w_rDfl, w_rSelf, w_iArgs, w_iSeq, w_Seq, thenS_nx, thenS_rt, thenS_bk, thenS_ct, w_Nx, w_Ret, w_RetN, w_RetV, w_Expr, w_nxO, w_Asg, w_If, w_Unp, w_mutS, w_SetF, w_App, w_Ix, w_Par2, w_Raise, w_Try, w_Try0, w_For, w_Sup, endQ_nx, endQ_rt, sat_some, sat_none, sat_ite, sat_map, sat_bind, selO_some, selO_none, sel_true, sel_false, sel_not, wp_ok, wp_ex, wp_st, wp_ite, f_lt, f_le, f_gt, f_ge, f_add, f_sub, f_mul, f_mod, f_fdiv, f_neg, f_p6, f_p9, f_p12, f_p18, f_p20, f_p30, f_int, f_abs, f_max, f_min, f_sqL, f_sqT, f_sqR, f_lenL, f_lenT, f_lenR, f_at20, f_at21, f_set20, f_set21, f_t10, f_t20, f_t21, f_t30, f_t31, f_t32, f_t40, f_t41, f_t42, f_t43, f_eqI, f_eqS, f_isN, w_Yes, o_lend, o_lst, o_tup, o_rol, o_str, o_obj, startE, pslot, putS_eq, isIo_un, isIo_fz, isIo_ow, isIo_xc, isIo_io, slotOf, slotData, setData, putIos, iosOf, lends, argsD, argD, isLst, asB, asI, newO_ok, newX_ok, asObj, asNil, asS, gNm, gsNil, gsCons, gTu, wipeE, backE, ownFree, isCls0, appF, bareX, clrX, List.map_cons, List.map_nil, List.length_cons, List.length_nil, List.replicate_succ, List.replicate_zero, List.cons_append, List.nil_append, List.append_nil, List.getElem?_cons_zero, List.getElem?_cons_succ, List.getElem?_nil, List.set_cons_zero, List.set_cons_succ, Option.bind_some, Option.bind_none, Option.map_some, Option.map_none, Option.getD_some, Option.getD_none, sz, Nat.reduceLeDiff, Int.reduceLT, Int.reduceLE, decide_true, decide_false, Int.reduceBEq, Int.reduceBNe, Bool.false_eq_true, if_false, if_true, Bool.false_xor, Bool.true_xor, Bool.not_true, Bool.not_false, Bool.not_not, Nat.reduceSub, Nat.reduceAdd, List.nodup_cons, List.nodup_nil, List.not_mem_nil, List.mem_cons, not_false_eq_true, and_self, true_and, and_true, List.all_cons, List.all_nil, Bool.and_true, Bool.true_and, f_fmtI hd, f_fmtI he, decide_true]
          have k1 : (Str.empty ++ "right " : Str).length ≤ 6 := by decide
          have k2 := cat_n k1 l1
          have k3 := cat_n k2 (show (" to " : Str).length ≤ 4 by decide)
          refine ⟨le_line k1 (by omega), le_line k2 (by omega), le_line k3 (by omega), le_line (cat_n k3 l2) (by omega), ?_⟩
          refine mInit_ok R R.sR ?_
          simp only [w_C, w_Var, w_retO, w_bindE, w_evEx, w_evPk, argDat_val, argDat_lend, w_retF, w_retF1, w_P2, w_P1, w_Chain, w_ChainM, w_IfE, w_AndV, w_OrV, w_NotV, w_Tup, w_Lst, w_Slice, w_SliceM, w_evPn, w_evPs, w_PN, w_Call, w_Make, w_makeO, w_Meth, w_Len, w_lenK, w_Str, w_Fmt, w_Join0, w_Join, w_Xf, w_Xi, w_Lc, w_Tru, w_Test, w_And, w_Or, w_Not, w_aNil, w_aCons, w_rNil, w_rVal, w_rLend, w_rPk, w_rDfl, w_rSelf, w_iArgs, w_iSeq, w_Seq, thenS_nx, thenS_rt, thenS_bk, thenS_ct, w_Nx, w_Ret, w_RetN, w_RetV, w_Expr, w_nxO, w_Asg, w_If, w_Unp, w_mutS, w_SetF, w_App, w_Ix, w_Par2, w_Raise, w_Try, w_Try0, w_For, w_Sup, endQ_nx, endQ_rt, sat_some, sat_none, sat_ite, sat_map, sat_bind, selO_some, selO_none, sel_true, sel_false, sel_not, wp_ok, wp_ex, wp_st, wp_ite, f_lt, f_le, f_gt, f_ge, f_add, f_sub, f_mul, f_mod, f_fdiv, f_neg, f_p6, f_p9, f_p12, f_p18, f_p20, f_p30, f_int, f_abs, f_max, f_min, f_sqL, f_sqT, f_sqR, f_lenL, f_lenT, f_lenR, f_at20, f_at21, f_set20, f_set21, f_t10, f_t20, f_t21, f_t30, f_t31, f_t32, f_t40, f_t41, f_t42, f_t43, f_eqI, f_eqS, f_isN, w_Yes, o_lend, o_lst, o_tup, o_rol, o_str, o_obj, startE, pslot, putS_eq, isIo_un, isIo_fz, isIo_ow, isIo_xc, isIo_io, slotOf, slotData, setData, putIos, iosOf, lends, argsD, argD, isLst, asB, asI, newO_ok, newX_ok, asObj, asNil, asS, gNm, gsNil, gsCons, gTu, wipeE, backE, ownFree, isCls0, appF, bareX, clrX, List.map_cons, List.map_nil, List.length_cons, List.length_nil, List.replicate_succ, List.replicate_zero, List.cons_append, List.nil_append, List.append_nil, List.getElem?_cons_zero, List.getElem?_cons_succ, List.getElem?_nil, List.set_cons_zero, List.set_cons_succ, Option.bind_some, Option.bind_none, Option.map_some, Option.map_none, Option.getD_some, Option.getD_none, sz, Nat.reduceLeDiff, Int.reduceLT, Int.reduceLE, decide_true, decide_false, Int.reduceBEq, Int.reduceBNe, Bool.false_eq_true, if_false, if_true, Bool.false_xor, Bool.true_xor, Bool.not_true, Bool.not_false, Bool.not_not, Nat.reduceSub, Nat.reduceAdd, List.nodup_cons, List.nodup_nil, List.not_mem_nil, List.mem_cons, not_false_eq_true, and_self, true_and, and_true, List.all_cons, List.all_nil, Bool.and_true, Bool.true_and, set_1 (g := "script") R.tR (by decide), set_2 (g := "script") (g' := "at") R.aR (by decide) (by decide)]
          exact h2 t a rfl ht rfl (of_decide_eq_true hb)
        | _ => cases hb
      · simp only [w_C, w_Var, w_retO, w_bindE, w_evEx, w_evPk, argDat_val, argDat_lend, w_retF, w_retF1, w_P2, w_P1, w_Chain, w_ChainM, w_IfE, w_AndV, w_OrV, w_NotV, w_Tup, w_Lst, w_Slice, w_SliceM, w_evPn, w_evPs, w_PN, w_Call, w_Make, w_makeO, w_Meth, w_Len, w_lenK, w_Str, w_Fmt, w_Join0, w_Join, w_Xf, w_Xi, w_Lc, w_Tru, w_Test, w_And, w_Or, w_Not, w_aNil, w_aCons, w_rNil, w_rVal, w_rLend, w_rPk, w_rDfl, w_rSelf, w_iArgs, w_iSeq, w_Seq, thenS_nx, thenS_rt, thenS_bk, thenS_ct, w_Nx, w_Ret, w_RetN, w_RetV, w_Expr, w_nxO, w_Asg, w_If, w_Unp, w_mutS, w_SetF, w_App, w_Ix, w_Par2, w_Raise, w_Try, w_Try0, w_For, w_Sup, endQ_nx, endQ_rt, sat_some, sat_none, sat_ite, sat_map, sat_bind, selO_some, selO_none, sel_true, sel_false, sel_not, wp_ok, wp_ex, wp_st, wp_ite, f_lt, f_le, f_gt, f_ge, f_add, f_sub, f_mul, f_mod, f_fdiv, f_neg, f_p6, f_p9, f_p12, f_p18, f_p20, f_p30, f_int, f_abs, f_max, f_min, f_sqL, f_sqT, f_sqR, f_lenL, f_lenT, f_lenR, f_at20, f_at21, f_set20, f_set21, f_t10, f_t20, f_t21, f_t30, f_t31, f_t32, f_t40, f_t41, f_t42, f_t43, f_eqI, f_eqS, f_isN, w_Yes, o_lend, o_lst, o_tup, o_rol, o_str, o_obj, startE, pslot, putS_eq, isIo_un, isIo_fz, isIo_ow, isIo_xc, isIo_io, slotOf, slotData, setData, putIos, iosOf, lends, argsD, argD, isLst, asB, asI, newO_ok, newX_ok, asObj, asNil, asS, gNm, gsNil, gsCons, gTu, wipeE, backE, ownFree, isCls0, appF, bareX, clrX, List.map_cons, List.map_nil, List.length_cons, List.length_nil, List.replicate_succ, List.replicate_zero, List.cons_append, List.nil_append, List.append_nil, List.getElem?_cons_zero, List.getElem?_cons_succ, List.getElem?_nil, List.set_cons_zero, List.set_cons_succ, Option.bind_some, Option.bind_none, Option.map_some, Option.map_none, Option.getD_some, Option.getD_none, sz, Nat.reduceLeDiff, Int.reduceLT, Int.reduceLE, decide_true, decide_false, Int.reduceBEq, Int.reduceBNe, Bool.false_eq_true, if_false, if_true, Bool.false_xor, Bool.true_xor, Bool.not_true, Bool.not_false, Bool.not_not, Nat.reduceSub, Nat.reduceAdd, List.nodup_cons, List.nodup_nil, List.not_mem_nil, List.mem_cons, not_false_eq_true, and_self, true_and, and_true, List.all_cons, List.all_nil, Bool.and_true, Bool.true_and]
        exact h4 ha hb
    | _ => cases ha
  · simp only [w_C, w_Var, w_retO, w_bindE, w_evEx, w_evPk, argDat_val, argDat_lend, w_retF, w_retF1, w_P2, w_P1, w_Chain, w_ChainM, w_IfE, w_AndV, w_OrV, w_NotV, w_Tup, w_Lst, w_Slice, w_SliceM, w_evPn, w_evPs, w_PN, w_Call, w_Make, w_makeO, w_Meth, w_Len, w_lenK, w_Str, w_Fmt, w_Join0, w_Join, w_Xf, w_Xi, w_Lc, w_Tru, w_Test, w_And, w_Or, w_Not, w_aNil, w_aCons, w_rNil, w_rVal, w_rLend, w_rPk, w_rDfl, w_rSelf, w_iArgs, w_iSeq, w_Seq, thenS_nx, thenS_rt, thenS_bk, thenS_ct, w_Nx, w_Ret, w_RetN, w_RetV, w_Expr, w_nxO, w_Asg, w_If, w_Unp, w_mutS, w_SetF, w_App, w_Ix, w_Par2, w_Raise, w_Try, w_Try0, w_For, w_Sup, endQ_nx, endQ_rt, sat_some, sat_none, sat_ite, sat_map, sat_bind, selO_some, selO_none, sel_true, sel_false, sel_not, wp_ok, wp_ex, wp_st, wp_ite, f_lt, f_le, f_gt, f_ge, f_add, f_sub, f_mul, f_mod, f_fdiv, f_neg, f_p6, f_p9, f_p12, f_p18, f_p20, f_p30, f_int, f_abs, f_max, f_min, f_sqL, f_sqT, f_sqR, f_lenL, f_lenT, f_lenR, f_at20, f_at21, f_set20, f_set21, f_t10, f_t20, f_t21, f_t30, f_t31, f_t32, f_t40, f_t41, f_t42, f_t43, f_eqI, f_eqS, f_isN, w_Yes, o_lend, o_lst, o_tup, o_rol, o_str, o_obj, startE, pslot, putS_eq, isIo_un, isIo_fz, isIo_ow, isIo_xc, isIo_io, slotOf, slotData, setData, putIos, iosOf, lends, argsD, argD, isLst, asB, asI, newO_ok, newX_ok, asObj, asNil, asS, gNm, gsNil, gsCons, gTu, wipeE, backE, ownFree, isCls0, appF, bareX, clrX, List.map_cons, List.map_nil, List.length_cons, List.length_nil, List.replicate_succ, List.replicate_zero, List.cons_append, List.nil_append, List.append_nil, List.getElem?_cons_zero, List.getElem?_cons_succ, List.getElem?_nil, List.set_cons_zero, List.set_cons_succ, Option.bind_some, Option.bind_none, Option.map_some, Option.map_none, Option.getD_some, Option.getD_none, sz, Nat.reduceLeDiff, Int.reduceLT, Int.reduceLE, decide_true, decide_false, Int.reduceBEq, Int.reduceBNe, Bool.false_eq_true, if_false, if_true, Bool.false_xor, Bool.true_xor, Bool.not_true, Bool.not_false, Bool.not_not, Nat.reduceSub, Nat.reduceAdd, List.nodup_cons, List.nodup_nil, List.not_mem_nil, List.mem_cons, not_false_eq_true, and_self, true_and, and_true, List.all_cons, List.all_nil, Bool.and_true, Bool.true_and]
    exact h3 ha
theorem get_0 {f c : Str} {v : D} {r : List (Str × D)} (h : okF G f c = true) : fldF (okF G f) f (.obj c ((f, v) :: r)) = some (false, v) := by
  show (if okF G f c = true then _ else _) = _
  rw [if_pos h, List.lookup_cons_self]
  rfl
theorem f_fmtS {s : Str} (h : s.length ≤ sizeLine) : fmtF (.str s) = some (false, .str s) := if_pos h
theorem mStr_ok (R : Moves3 G dens) {c s : Str} {r : List (Str × D)} (hc : okF G "script" c = true) (hs : s.length ≤ sizeLine) (h : q.run (false, .str s) []) : wpC (callD dens (m + 1) (("Move" : PySem.Str), some ("__str__" : PySem.Str)) [(false, .obj c (("script", .str s) :: r))]) := by
  rw [w_run R.mStr rfl]
  unfold n_Move_str
  simp only [w_C, w_Var, w_retO, w_bindE, w_evEx, w_evPk, argDat_val, argDat_lend, w_retF, w_retF1, w_P2, w_P1, w_Chain, w_ChainM, w_IfE, w_AndV, w_OrV, w_NotV, w_Tup, w_Lst, w_Slice, w_SliceM, w_evPn, w_evPs, w_PN, w_Call, w_Make, w_makeO, w_Meth, w_Len, w_lenK, w_Str, w_Fmt, w_Join0, w_Join, w_Xf, w_Xi, w_Lc, w_Tru, w_Test, w_And, w_Or, w_Not, w_aNil, w_aCons, w_rNil, w_rVal, w_rLend, w_rPk, w_rDfl, w_rSelf, w_iArgs, w_iSeq, w_Seq, thenS_nx, thenS_rt, thenS_bk, thenS_ct, w_Nx, w_Ret, w_RetN, w_RetV, w_Expr, w_nxO, w_Asg, w_If, w_Unp, w_mutS, w_SetF, w_App, w_Ix, w_Par2, w_Raise, w_Try, w_Try0, w_For, w_Sup, endQ_nx, endQ_rt, sat_some, sat_none, sat_ite, sat_map, sat_bind, selO_some, selO_none, sel_true, sel_false, sel_not, wp_ok, wp_ex, wp_st, wp_ite, f_lt, f_le, f_gt, f_ge, f_add, f_sub, f_mul, f_mod, f_fdiv, f_neg, f_p6, f_p9, f_p12, f_p18, f_p20, f_p30, f_int, f_abs, f_max, f_min, f_sqL, f_sqT, f_sqR, f_lenL, f_lenT, f_lenR, f_at20, f_at21, f_set20, f_set21, f_t10, f_t20, f_t21, f_t30, f_t31, f_t32, f_t40, f_t41, f_t42, f_t43, f_eqI, f_eqS, f_isN, w_Yes, o_lend, o_lst, o_tup, o_rol, o_str, o_obj, startE, pslot, putS_eq, isIo_un, isIo_fz, isIo_ow, isIo_xc, isIo_io, slotOf, slotData, setData, putIos, iosOf, lends, argsD, argD, isLst, asB, asI, newO_ok, newX_ok, asObj, asNil, asS, gNm, gsNil, gsCons, gTu, wipeE, backE, ownFree, isCls0, appF, bareX, clrX, List.map_cons, List.map_nil, List.length_cons, List.length_nil, List.replicate_succ, List.replicate_zero, List.cons_append, List.nil_append, List.append_nil, List.getElem?_cons_zero, List.getElem?_cons_succ, List.getElem?_nil, List.set_cons_zero, List.set_cons_succ, Option.bind_some, Option.bind_none, Option.map_some, Option.map_none, Option.getD_some, Option.getD_none, sz, Nat.reduceLeDiff, Int.reduceLT, Int.reduceLE, decide_true, decide_false, Int.reduceBEq, Int.reduceBNe, Bool.false_eq_true, if_false, if_true, Bool.false_xor, Bool.true_xor, Bool.not_true, Bool.not_false, Bool.not_not, Nat.reduceSub, Nat.reduceAdd, List.nodup_cons, List.nodup_nil, List.not_mem_nil, List.mem_cons, not_false_eq_true, and_self, true_and, and_true, List.all_cons, List.all_nil, Bool.and_true, Bool.true_and, get_0 hc, f_fmtS hs]
  exact h
abbrev oShut : D := .obj "Shut" [("script", .str "shut")]
structure Moves (G : Gm) (dens : Dens) : Prop extends Moves3 G dens where
  shut : dens (("Shut" : PySem.Str), some ("__init__" : PySem.Str)) = some (2, 1, n_Shut_init G)
theorem shut_ok (R : Moves G dens) (h : q.run (false, .non) [oShut]) : wpC (callD dens (m + 2) (("Shut" : PySem.Str), some ("__init__" : PySem.Str)) [(true, .obj "Shut" [])]) := by
  rw [w_run R.shut rfl]
  unfold n_Shut_init
  simp only [w_C, w_Var, w_retO, w_bindE, w_evEx, w_evPk, argDat_val, argDat_lend, w_retF, w_retF1, w_P2, w_P1, w_Chain, w_ChainM, w_IfE, w_AndV, w_OrV, w_NotV, w_Tup, w_Lst, w_Slice, w_SliceM, w_evPn, w_evPs, w_PN, w_Call, w_Make, w_makeO, w_Meth, w_Len, w_lenK, w_Str, w_Fmt, w_Join0, w_Join, w_Xf, w_Xi, w_Lc, w_Tru, w_Test, w_And, w_Or, w_Not, w_aNil, w_aCons, w_rNil, w_rVal, w_rLend, w_rPk, w_rDfl, w_rSelf, w_iArgs, w_iSeq, w_Seq, thenS_nx, thenS_rt, thenS_bk, thenS_ct, w_Nx, w_Ret, w_RetN, w_RetV, w_Expr, w_nxO, w_Asg, w_If, w_Unp, w_mutS, w_SetF, w_App, w_Ix, w_Par2, w_Raise, w_Try, w_Try0, w_For, w_Sup, endQ_nx, endQ_rt, sat_some, sat_none, sat_ite, sat_map, sat_bind, selO_some, selO_none, sel_true, sel_false, sel_not, wp_ok, wp_ex, wp_st, wp_ite, f_lt, f_le, f_gt, f_ge, f_add, f_sub, f_mul, f_mod, f_fdiv, f_neg, f_p6, f_p9, f_p12, f_p18, f_p20, f_p30, f_int, f_abs, f_max, f_min, f_sqL, f_sqT, f_sqR, f_lenL, f_lenT, f_lenR, f_at20, f_at21, f_set20, f_set21, f_t10, f_t20, f_t21, f_t30, f_t31, f_t32, f_t40, f_t41, f_t42, f_t43, f_eqI, f_eqS, f_isN, w_Yes, o_lend, o_lst, o_tup, o_rol, o_str, o_obj, startE, pslot, putS_eq, isIo_un, isIo_fz, isIo_ow, isIo_xc, isIo_io, slotOf, slotData, setData, putIos, iosOf, lends, argsD, argD, isLst, asB, asI, newO_ok, newX_ok, asObj, asNil, asS, gNm, gsNil, gsCons, gTu, wipeE, backE, ownFree, isCls0, appF, bareX, clrX, List.map_cons, List.map_nil, List.length_cons, List.length_nil, List.replicate_succ, List.replicate_zero, List.cons_append, List.nil_append, List.append_nil, List.getElem?_cons_zero, List.getElem?_cons_succ, List.getElem?_nil, List.set_cons_zero, List.set_cons_succ, Option.bind_some, Option.bind_none, Option.map_some, Option.map_none, Option.getD_some, Option.getD_none, sz, Nat.reduceLeDiff, Int.reduceLT, Int.reduceLE, decide_true, decide_false, Int.reduceBEq, Int.reduceBNe, Bool.false_eq_true, if_false, if_true, Bool.false_xor, Bool.true_xor, Bool.not_true, Bool.not_false, Bool.not_not, Nat.reduceSub, Nat.reduceAdd, List.nodup_cons, List.nodup_nil, List.not_mem_nil, List.mem_cons, not_false_eq_true, and_self, true_and, and_true, List.all_cons, List.all_nil, Bool.and_true, Bool.true_and]
  refine mInit_ok R.toMoves3 R.sS ?_
  simp only [w_C, w_Var, w_retO, w_bindE, w_evEx, w_evPk, argDat_val, argDat_lend, w_retF, w_retF1, w_P2, w_P1, w_Chain, w_ChainM, w_IfE, w_AndV, w_OrV, w_NotV, w_Tup, w_Lst, w_Slice, w_SliceM, w_evPn, w_evPs, w_PN, w_Call, w_Make, w_makeO, w_Meth, w_Len, w_lenK, w_Str, w_Fmt, w_Join0, w_Join, w_Xf, w_Xi, w_Lc, w_Tru, w_Test, w_And, w_Or, w_Not, w_aNil, w_aCons, w_rNil, w_rVal, w_rLend, w_rPk, w_rDfl, w_rSelf, w_iArgs, w_iSeq, w_Seq, thenS_nx, thenS_rt, thenS_bk, thenS_ct, w_Nx, w_Ret, w_RetN, w_RetV, w_Expr, w_nxO, w_Asg, w_If, w_Unp, w_mutS, w_SetF, w_App, w_Ix, w_Par2, w_Raise, w_Try, w_Try0, w_For, w_Sup, endQ_nx, endQ_rt, sat_some, sat_none, sat_ite, sat_map, sat_bind, selO_some, selO_none, sel_true, sel_false, sel_not, wp_ok, wp_ex, wp_st, wp_ite, f_lt, f_le, f_gt, f_ge, f_add, f_sub, f_mul, f_mod, f_fdiv, f_neg, f_p6, f_p9, f_p12, f_p18, f_p20, f_p30, f_int, f_abs, f_max, f_min, f_sqL, f_sqT, f_sqR, f_lenL, f_lenT, f_lenR, f_at20, f_at21, f_set20, f_set21, f_t10, f_t20, f_t21, f_t30, f_t31, f_t32, f_t40, f_t41, f_t42, f_t43, f_eqI, f_eqS, f_isN, w_Yes, o_lend, o_lst, o_tup, o_rol, o_str, o_obj, startE, pslot, putS_eq, isIo_un, isIo_fz, isIo_ow, isIo_xc, isIo_io, slotOf, slotData, setData, putIos, iosOf, lends, argsD, argD, isLst, asB, asI, newO_ok, newX_ok, asObj, asNil, asS, gNm, gsNil, gsCons, gTu, wipeE, backE, ownFree, isCls0, appF, bareX, clrX, List.map_cons, List.map_nil, List.length_cons, List.length_nil, List.replicate_succ, List.replicate_zero, List.cons_append, List.nil_append, List.append_nil, List.getElem?_cons_zero, List.getElem?_cons_succ, List.getElem?_nil, List.set_cons_zero, List.set_cons_succ, Option.bind_some, Option.bind_none, Option.map_some, Option.map_none, Option.getD_some, Option.getD_none, sz, Nat.reduceLeDiff, Int.reduceLT, Int.reduceLE, decide_true, decide_false, Int.reduceBEq, Int.reduceBNe, Bool.false_eq_true, if_false, if_true, Bool.false_xor, Bool.true_xor, Bool.not_true, Bool.not_false, Bool.not_not, Nat.reduceSub, Nat.reduceAdd, List.nodup_cons, List.nodup_nil, List.not_mem_nil, List.mem_cons, not_false_eq_true, and_self, true_and, and_true, List.all_cons, List.all_nil, Bool.and_true, Bool.true_and]
  exact h
/-! ### moves as such -/
inductive Mv where
  | begin (a : Int) | take (t : Int) | takeBy (t a : Int) | right (t a : Int) | shut
def Mv.ok : Mv → Prop
  | .begin a => 1 ≤ a ∧ a ≤ 1000000000000
  | .take t => 0 ≤ t ∧ t < 1000000000
  | .takeBy t a => 0 ≤ t ∧ t < 1000000000 ∧ 1 ≤ a ∧ a ≤ 1000000000000
  | .right t a => 0 ≤ t ∧ t < 1000000000 ∧ 1 ≤ a ∧ a ≤ 1000000000000
  | .shut => True
/-- as the laws draw it -/
def Mv.tup : Mv → D
  | .begin a => .tup [.str "begin", .int a]
  | .take t => .tup [.str "take", .int t, .int 0]
  | .takeBy t a => .tup [.str "take", .int t, .int a]
  | .right t a => .tup [.str "right", .int t, .int a]
  | .shut => .tup [.str "shut"]
def Mv.txt : Mv → Str
  | .begin a => tBegin a
  | .take t => tTake t
  | .takeBy t a => tTakeBy t a
  | .right t a => tRight t a
  | .shut => "shut"
/-- the object -/
def Mv.obj : Mv → D
  | .begin a => oBegin a
  | .take t => oTake t
  | .takeBy t a => oTakeBy t a
  | .right t a => oRight t a
  | .shut => oShut
end
end DL
set_option maxHeartbeats 8000000
namespace DL
open PySem PySem.Spec PyProof.Rows L2
/-! DR: drawn moves. -/
def n__law_any_move (G : Gm) (orc : Orc) : SDen :=
 (sSeq (sPar2 2 3 (aCons (dCall (orc (("_law_choose" : PySem.Str), none)) (rDfl (rLend 0 (rVal (dC (.int 5)) rNil)) [])) (aCons (dCall (orc (("_law_choose" : PySem.Str), none)) (rDfl (rLend 0 (rVal (dP2 ixF (.ex (dLst (aCons (dC (.int 3)) (aCons (dC (.int 12)) (aCons (dP2 powF (.ex (dC (.int 10))) (.ex (dC (.int 9)))) aNil))))) (.ex (dCall (orc (("_law_choose" : PySem.Str), none)) (rDfl (rLend 0 (rVal (dC (.int 3)) rNil)) [])))) rNil)) [])) aNil)))
 (sSeq (sAsg 1 (dP2 addF (.ex (dC (.int 1))) (.ex (dCall (orc (("_law_choose" : PySem.Str), none)) (rDfl (rLend 0 (rVal (dP2 ixF (.ex (dLst (aCons (dC (.int 3)) (aCons (dC (.int 99)) (aCons (dP2 powF (.ex (dC (.int 10))) (.ex (dC (.int 12)))) aNil))))) (.ex (dCall (orc (("_law_choose" : PySem.Str), none)) (rDfl (rLend 0 (rVal (dC (.int 3)) rNil)) [])))) rNil)) [])))))
 (sSeq (sRet (dP2 ixF (.ex (dLst (aCons (dTup (aCons (dC (.str "begin")) (aCons (dVar 1) aNil))) (aCons (dTup (aCons (dC (.str "take")) (aCons (dVar 3) (aCons (dC (.int 0)) aNil)))) (aCons (dTup (aCons (dC (.str "take")) (aCons (dVar 3) (aCons (dVar 1) aNil)))) (aCons (dTup (aCons (dC (.str "right")) (aCons (dVar 3) (aCons (dVar 1) aNil)))) (aCons (dTup (aCons (dC (.str "shut")) aNil)) aNil))))))) (.pk 2)))
 sNx)))
def n__law_made (G : Gm) (orc : Orc) : SDen :=
 (sSeq (sIf (dTest (dP2 (eqF false) (.ex (dP2 ixF (.pk 0) (.ex (dC (.int 0))))) (.ex (dC (.str "begin")))))
 (sSeq (sRet (dMake "Begin" (orc (("Begin" : PySem.Str), some ("__init__" : PySem.Str))) (rDfl (rVal (dP2 ixF (.pk 0) (.ex (dC (.int 1)))) rNil) [])))
 sNx)
 sNx)
 (sSeq (sIf (dTest (dP2 (eqF false) (.ex (dP2 ixF (.pk 0) (.ex (dC (.int 0))))) (.ex (dC (.str "shut")))))
 (sSeq (sRet (dMake "Shut" (orc (("Shut" : PySem.Str), some ("__init__" : PySem.Str))) (rDfl rNil [])))
 sNx)
 sNx)
 (sSeq (sIf (dTest (dP2 (eqF false) (.ex (dP2 ixF (.pk 0) (.ex (dC (.int 0))))) (.ex (dC (.str "right")))))
 (sSeq (sRet (dMake "Right" (orc (("Right" : PySem.Str), some ("__init__" : PySem.Str))) (rDfl (rVal (dP2 ixF (.pk 0) (.ex (dC (.int 1)))) (rVal (dP2 ixF (.pk 0) (.ex (dC (.int 2)))) rNil)) [])))
 sNx)
 sNx)
 (sSeq (sRet (dIfE (dTest (dP2 (eqF false) (.ex (dP2 ixF (.pk 0) (.ex (dC (.int 2))))) (.ex (dC (.int 0))))) (dMake "Take" (orc (("Take" : PySem.Str), some ("__init__" : PySem.Str))) (rDfl (rVal (dP2 ixF (.pk 0) (.ex (dC (.int 1)))) rNil) [.non])) (dMake "Take" (orc (("Take" : PySem.Str), some ("__init__" : PySem.Str))) (rDfl (rVal (dP2 ixF (.pk 0) (.ex (dC (.int 1)))) (rVal (dP2 ixF (.pk 0) (.ex (dC (.int 2)))) rNil)) []))))
 sNx))))
structure DrawM (G : Gm) (dens : Dens) : Prop extends Draws G dens, Moves G dens where
  anym : dens (("_law_any_move" : PySem.Str), none) = some (4, 1, n__law_any_move G)
  made : dens (("_law_made" : PySem.Str), none) = some (1, 1, n__law_made G)
section
variable {G : Gm} {dens : Dens} {m : Nat} {q : Kc W} {x : Kc Ex} {d : D}
theorem pick3 {r n1 n2 n3 : Int} (h0 : 0 ≤ r) (h1 : r < 3) (p1 : 0 < n1) (p2 : 0 < n2) (p3 : 0 < n3) : ∃ n, ixF (.lst [.int n1, .int n2, .int n3]) (.int r) = some (false, .int n) ∧ 0 < n ∧ (n = n1 ∨ n = n2 ∨ n = n3) := by
  obtain rfl | rfl | rfl : r = 0 ∨ r = 1 ∨ r = 2 := by omega
  · exact ⟨n1, rfl, p1, .inl rfl⟩
  · exact ⟨n2, rfl, p2, .inr (.inl rfl)⟩
  · exact ⟨n3, rfl, p3, .inr (.inr rfl)⟩
theorem anymove_ok (R : DrawM G dens) {a b : Int} (hx : BxOk a b) (h : ∀ (mv : Mv) a' b', mv.ok → BxOk a' b' → q.run (false, mv.tup) [bx a' b']) : wpC (callD dens (m + 2) (("_law_any_move" : PySem.Str), none) [(true, bx a b)]) := by
  rw [w_run R.anym rfl]
  unfold n__law_any_move
  simp only [w_C, w_Var, w_retO, w_bindE, w_evEx, w_evPk, argDat_val, argDat_lend, w_retF, w_retF1, w_P2, w_P1, w_Chain, w_ChainM, w_IfE, w_AndV, w_OrV, w_NotV, w_Tup, w_Lst, w_Slice, w_SliceM, w_evPn, w_evPs, w_PN, w_Call, w_Make, w_makeO, w_Meth, w_Len, w_lenK, w_Str, w_Fmt, w_Join0, w_Join, w_Xf, w_Xi, w_Lc, w_Tru, w_Test, w_And, w_Or, w_Not, w_aNil, w_aCons, w_rNil, w_rVal, w_rLend, w_rPk, w_rDfl, w_rSelf, w_iArgs, w_iSeq, w_Seq, thenS_nx, thenS_rt, thenS_bk, thenS_ct, w_Nx, w_Ret, w_RetN, w_RetV, w_Expr, w_nxO, w_Asg, w_If, w_Unp, w_mutS, w_SetF, w_App, w_Ix, w_Par2, w_Raise, w_Try, w_Try0, w_For, w_Sup, endQ_nx, endQ_rt, sat_some, sat_none, sat_ite, sat_map, sat_bind, selO_some, selO_none, sel_true, sel_false, sel_not, wp_ok, wp_ex, wp_st, wp_ite, f_lt, f_le, f_gt, f_ge, f_add, f_sub, f_mul, f_mod, f_fdiv, f_neg, f_p6, f_p9, f_p12, f_p18, f_p20, f_p30, f_int, f_abs, f_max, f_min, f_sqL, f_sqT, f_sqR, f_lenL, f_lenT, f_lenR, f_at20, f_at21, f_set20, f_set21, f_t10, f_t20, f_t21, f_t30, f_t31, f_t32, f_t40, f_t41, f_t42, f_t43, f_eqI, f_eqS, f_isN, w_Yes, o_lend, o_lst, o_tup, o_rol, o_str, o_obj, startE, pslot, putS_eq, isIo_un, isIo_fz, isIo_ow, isIo_xc, isIo_io, slotOf, slotData, setData, putIos, iosOf, lends, argsD, argD, isLst, asB, asI, newO_ok, newX_ok, asObj, asNil, asS, gNm, gsNil, gsCons, gTu, wipeE, backE, ownFree, isCls0, appF, bareX, clrX, List.map_cons, List.map_nil, List.length_cons, List.length_nil, List.replicate_succ, List.replicate_zero, List.cons_append, List.nil_append, List.append_nil, List.getElem?_cons_zero, List.getElem?_cons_succ, List.getElem?_nil, List.set_cons_zero, List.set_cons_succ, Option.bind_some, Option.bind_none, Option.map_some, Option.map_none, Option.getD_some, Option.getD_none, sz, Nat.reduceLeDiff, Int.reduceLT, Int.reduceLE, decide_true, decide_false, Int.reduceBEq, Int.reduceBNe, Bool.false_eq_true, if_false, if_true, Bool.false_xor, Bool.true_xor, Bool.not_true, Bool.not_false, Bool.not_not, Nat.reduceSub, Nat.reduceAdd, List.nodup_cons, List.nodup_nil, List.not_mem_nil, List.mem_cons, not_false_eq_true, and_self, true_and, and_true, List.all_cons, List.all_nil, Bool.and_true, Bool.true_and]
  refine choose_ok R.toDraws hx (by omega) (by omega) fun r1 a b hx r10 r11 => ?_
  simp only [w_C, w_Var, w_retO, w_bindE, w_evEx, w_evPk, argDat_val, argDat_lend, w_retF, w_retF1, w_P2, w_P1, w_Chain, w_ChainM, w_IfE, w_AndV, w_OrV, w_NotV, w_Tup, w_Lst, w_Slice, w_SliceM, w_evPn, w_evPs, w_PN, w_Call, w_Make, w_makeO, w_Meth, w_Len, w_lenK, w_Str, w_Fmt, w_Join0, w_Join, w_Xf, w_Xi, w_Lc, w_Tru, w_Test, w_And, w_Or, w_Not, w_aNil, w_aCons, w_rNil, w_rVal, w_rLend, w_rPk, w_rDfl, w_rSelf, w_iArgs, w_iSeq, w_Seq, thenS_nx, thenS_rt, thenS_bk, thenS_ct, w_Nx, w_Ret, w_RetN, w_RetV, w_Expr, w_nxO, w_Asg, w_If, w_Unp, w_mutS, w_SetF, w_App, w_Ix, w_Par2, w_Raise, w_Try, w_Try0, w_For, w_Sup, endQ_nx, endQ_rt, sat_some, sat_none, sat_ite, sat_map, sat_bind, selO_some, selO_none, sel_true, sel_false, sel_not, wp_ok, wp_ex, wp_st, wp_ite, f_lt, f_le, f_gt, f_ge, f_add, f_sub, f_mul, f_mod, f_fdiv, f_neg, f_p6, f_p9, f_p12, f_p18, f_p20, f_p30, f_int, f_abs, f_max, f_min, f_sqL, f_sqT, f_sqR, f_lenL, f_lenT, f_lenR, f_at20, f_at21, f_set20, f_set21, f_t10, f_t20, f_t21, f_t30, f_t31, f_t32, f_t40, f_t41, f_t42, f_t43, f_eqI, f_eqS, f_isN, w_Yes, o_lend, o_lst, o_tup, o_rol, o_str, o_obj, startE, pslot, putS_eq, isIo_un, isIo_fz, isIo_ow, isIo_xc, isIo_io, slotOf, slotData, setData, putIos, iosOf, lends, argsD, argD, isLst, asB, asI, newO_ok, newX_ok, asObj, asNil, asS, gNm, gsNil, gsCons, gTu, wipeE, backE, ownFree, isCls0, appF, bareX, clrX, List.map_cons, List.map_nil, List.length_cons, List.length_nil, List.replicate_succ, List.replicate_zero, List.cons_append, List.nil_append, List.append_nil, List.getElem?_cons_zero, List.getElem?_cons_succ, List.getElem?_nil, List.set_cons_zero, List.set_cons_succ, Option.bind_some, Option.bind_none, Option.map_some, Option.map_none, Option.getD_some, Option.getD_none, sz, Nat.reduceLeDiff, Int.reduceLT, Int.reduceLE, decide_true, decide_false, Int.reduceBEq, Int.reduceBNe, Bool.false_eq_true, if_false, if_true, Bool.false_xor, Bool.true_xor, Bool.not_true, Bool.not_false, Bool.not_not, Nat.reduceSub, Nat.reduceAdd, List.nodup_cons, List.nodup_nil, List.not_mem_nil, List.mem_cons, not_false_eq_true, and_self, true_and, and_true, List.all_cons, List.all_nil, Bool.and_true, Bool.true_and]
  refine choose_ok R.toDraws hx (by omega) (by omega) fun r2 a b hx r20 r21 => ?_
  obtain ⟨n, e1, n0, n1⟩ := pick3 (n1 := 3) (n2 := 12) (n3 := 1000000000) r20 r21 (by omega) (by omega) (by omega)
  simp only [w_C, w_Var, w_retO, w_bindE, w_evEx, w_evPk, argDat_val, argDat_lend, w_retF, w_retF1, w_P2, w_P1, w_Chain, w_ChainM, w_IfE, w_AndV, w_OrV, w_NotV, w_Tup, w_Lst, w_Slice, w_SliceM, w_evPn, w_evPs, w_PN, w_Call, w_Make, w_makeO, w_Meth, w_Len, w_lenK, w_Str, w_Fmt, w_Join0, w_Join, w_Xf, w_Xi, w_Lc, w_Tru, w_Test, w_And, w_Or, w_Not, w_aNil, w_aCons, w_rNil, w_rVal, w_rLend, w_rPk, w_rDfl, w_rSelf, w_iArgs, w_iSeq, w_Seq, thenS_nx, thenS_rt, thenS_bk, thenS_ct, w_Nx, w_Ret, w_RetN, w_RetV, w_Expr, w_nxO, w_Asg, w_If, w_Unp, w_mutS, w_SetF, w_App, w_Ix, w_Par2, w_Raise, w_Try, w_Try0, w_For, w_Sup, endQ_nx, endQ_rt, sat_some, sat_none, sat_ite, sat_map, sat_bind, selO_some, selO_none, sel_true, sel_false, sel_not, wp_ok, wp_ex, wp_st, wp_ite, f_lt, f_le, f_gt, f_ge, f_add, f_sub, f_mul, f_mod, f_fdiv, f_neg, f_p6, f_p9, f_p12, f_p18, f_p20, f_p30, f_int, f_abs, f_max, f_min, f_sqL, f_sqT, f_sqR, f_lenL, f_lenT, f_lenR, f_at20, f_at21, f_set20, f_set21, f_t10, f_t20, f_t21, f_t30, f_t31, f_t32, f_t40, f_t41, f_t42, f_t43, f_eqI, f_eqS, f_isN, w_Yes, o_lend, o_lst, o_tup, o_rol, o_str, o_obj, startE, pslot, putS_eq, isIo_un, isIo_fz, isIo_ow, isIo_xc, isIo_io, slotOf, slotData, setData, putIos, iosOf, lends, argsD, argD, isLst, asB, asI, newO_ok, newX_ok, asObj, asNil, asS, gNm, gsNil, gsCons, gTu, wipeE, backE, ownFree, isCls0, appF, bareX, clrX, List.map_cons, List.map_nil, List.length_cons, List.length_nil, List.replicate_succ, List.replicate_zero, List.cons_append, List.nil_append, List.append_nil, List.getElem?_cons_zero, List.getElem?_cons_succ, List.getElem?_nil, List.set_cons_zero, List.set_cons_succ, Option.bind_some, Option.bind_none, Option.map_some, Option.map_none, Option.getD_some, Option.getD_none, sz, Nat.reduceLeDiff, Int.reduceLT, Int.reduceLE, decide_true, decide_false, Int.reduceBEq, Int.reduceBNe, Bool.false_eq_true, if_false, if_true, Bool.false_xor, Bool.true_xor, Bool.not_true, Bool.not_false, Bool.not_not, Nat.reduceSub, Nat.reduceAdd, List.nodup_cons, List.nodup_nil, List.not_mem_nil, List.mem_cons, not_false_eq_true, and_self, true_and, and_true, List.all_cons, List.all_nil, Bool.and_true, Bool.true_and, e1]
  refine choose_ok R.toDraws hx n0 (by omega) fun t a b hx t0 t1 => ?_
  simp only [w_C, w_Var, w_retO, w_bindE, w_evEx, w_evPk, argDat_val, argDat_lend, w_retF, w_retF1, w_P2, w_P1, w_Chain, w_ChainM, w_IfE, w_AndV, w_OrV, w_NotV, w_Tup, w_Lst, w_Slice, w_SliceM, w_evPn, w_evPs, w_PN, w_Call, w_Make, w_makeO, w_Meth, w_Len, w_lenK, w_Str, w_Fmt, w_Join0, w_Join, w_Xf, w_Xi, w_Lc, w_Tru, w_Test, w_And, w_Or, w_Not, w_aNil, w_aCons, w_rNil, w_rVal, w_rLend, w_rPk, w_rDfl, w_rSelf, w_iArgs, w_iSeq, w_Seq, thenS_nx, thenS_rt, thenS_bk, thenS_ct, w_Nx, w_Ret, w_RetN, w_RetV, w_Expr, w_nxO, w_Asg, w_If, w_Unp, w_mutS, w_SetF, w_App, w_Ix, w_Par2, w_Raise, w_Try, w_Try0, w_For, w_Sup, endQ_nx, endQ_rt, sat_some, sat_none, sat_ite, sat_map, sat_bind, selO_some, selO_none, sel_true, sel_false, sel_not, wp_ok, wp_ex, wp_st, wp_ite, f_lt, f_le, f_gt, f_ge, f_add, f_sub, f_mul, f_mod, f_fdiv, f_neg, f_p6, f_p9, f_p12, f_p18, f_p20, f_p30, f_int, f_abs, f_max, f_min, f_sqL, f_sqT, f_sqR, f_lenL, f_lenT, f_lenR, f_at20, f_at21, f_set20, f_set21, f_t10, f_t20, f_t21, f_t30, f_t31, f_t32, f_t40, f_t41, f_t42, f_t43, f_eqI, f_eqS, f_isN, w_Yes, o_lend, o_lst, o_tup, o_rol, o_str, o_obj, startE, pslot, putS_eq, isIo_un, isIo_fz, isIo_ow, isIo_xc, isIo_io, slotOf, slotData, setData, putIos, iosOf, lends, argsD, argD, isLst, asB, asI, newO_ok, newX_ok, asObj, asNil, asS, gNm, gsNil, gsCons, gTu, wipeE, backE, ownFree, isCls0, appF, bareX, clrX, List.map_cons, List.map_nil, List.length_cons, List.length_nil, List.replicate_succ, List.replicate_zero, List.cons_append, List.nil_append, List.append_nil, List.getElem?_cons_zero, List.getElem?_cons_succ, List.getElem?_nil, List.set_cons_zero, List.set_cons_succ, Option.bind_some, Option.bind_none, Option.map_some, Option.map_none, Option.getD_some, Option.getD_none, sz, Nat.reduceLeDiff, Int.reduceLT, Int.reduceLE, decide_true, decide_false, Int.reduceBEq, Int.reduceBNe, Bool.false_eq_true, if_false, if_true, Bool.false_xor, Bool.true_xor, Bool.not_true, Bool.not_false, Bool.not_not, Nat.reduceSub, Nat.reduceAdd, List.nodup_cons, List.nodup_nil, List.not_mem_nil, List.mem_cons, not_false_eq_true, and_self, true_and, and_true, List.all_cons, List.all_nil, Bool.and_true, Bool.true_and]
  refine choose_ok R.toDraws hx (by omega) (by omega) fun r3 a b hx r30 r31 => ?_
  obtain ⟨k, e2, k0, k1⟩ := pick3 (n1 := 3) (n2 := 99) (n3 := 1000000000000) r30 r31 (by omega) (by omega) (by omega)
  simp only [w_C, w_Var, w_retO, w_bindE, w_evEx, w_evPk, argDat_val, argDat_lend, w_retF, w_retF1, w_P2, w_P1, w_Chain, w_ChainM, w_IfE, w_AndV, w_OrV, w_NotV, w_Tup, w_Lst, w_Slice, w_SliceM, w_evPn, w_evPs, w_PN, w_Call, w_Make, w_makeO, w_Meth, w_Len, w_lenK, w_Str, w_Fmt, w_Join0, w_Join, w_Xf, w_Xi, w_Lc, w_Tru, w_Test, w_And, w_Or, w_Not, w_aNil, w_aCons, w_rNil, w_rVal, w_rLend, w_rPk, w_rDfl, w_rSelf, w_iArgs, w_iSeq, w_Seq, thenS_nx, thenS_rt, thenS_bk, thenS_ct, w_Nx, w_Ret, w_RetN, w_RetV, w_Expr, w_nxO, w_Asg, w_If, w_Unp, w_mutS, w_SetF, w_App, w_Ix, w_Par2, w_Raise, w_Try, w_Try0, w_For, w_Sup, endQ_nx, endQ_rt, sat_some, sat_none, sat_ite, sat_map, sat_bind, selO_some, selO_none, sel_true, sel_false, sel_not, wp_ok, wp_ex, wp_st, wp_ite, f_lt, f_le, f_gt, f_ge, f_add, f_sub, f_mul, f_mod, f_fdiv, f_neg, f_p6, f_p9, f_p12, f_p18, f_p20, f_p30, f_int, f_abs, f_max, f_min, f_sqL, f_sqT, f_sqR, f_lenL, f_lenT, f_lenR, f_at20, f_at21, f_set20, f_set21, f_t10, f_t20, f_t21, f_t30, f_t31, f_t32, f_t40, f_t41, f_t42, f_t43, f_eqI, f_eqS, f_isN, w_Yes, o_lend, o_lst, o_tup, o_rol, o_str, o_obj, startE, pslot, putS_eq, isIo_un, isIo_fz, isIo_ow, isIo_xc, isIo_io, slotOf, slotData, setData, putIos, iosOf, lends, argsD, argD, isLst, asB, asI, newO_ok, newX_ok, asObj, asNil, asS, gNm, gsNil, gsCons, gTu, wipeE, backE, ownFree, isCls0, appF, bareX, clrX, List.map_cons, List.map_nil, List.length_cons, List.length_nil, List.replicate_succ, List.replicate_zero, List.cons_append, List.nil_append, List.append_nil, List.getElem?_cons_zero, List.getElem?_cons_succ, List.getElem?_nil, List.set_cons_zero, List.set_cons_succ, Option.bind_some, Option.bind_none, Option.map_some, Option.map_none, Option.getD_some, Option.getD_none, sz, Nat.reduceLeDiff, Int.reduceLT, Int.reduceLE, decide_true, decide_false, Int.reduceBEq, Int.reduceBNe, Bool.false_eq_true, if_false, if_true, Bool.false_xor, Bool.true_xor, Bool.not_true, Bool.not_false, Bool.not_not, Nat.reduceSub, Nat.reduceAdd, List.nodup_cons, List.nodup_nil, List.not_mem_nil, List.mem_cons, not_false_eq_true, and_self, true_and, and_true, List.all_cons, List.all_nil, Bool.and_true, Bool.true_and, e2]
  refine choose_ok R.toDraws hx k0 (by omega) fun c a b hx c0 c1 => ?_
  simp only [w_C, w_Var, w_retO, w_bindE, w_evEx, w_evPk, argDat_val, argDat_lend, w_retF, w_retF1, w_P2, w_P1, w_Chain, w_ChainM, w_IfE, w_AndV, w_OrV, w_NotV, w_Tup, w_Lst, w_Slice, w_SliceM, w_evPn, w_evPs, w_PN, w_Call, w_Make, w_makeO, w_Meth, w_Len, w_lenK, w_Str, w_Fmt, w_Join0, w_Join, w_Xf, w_Xi, w_Lc, w_Tru, w_Test, w_And, w_Or, w_Not, w_aNil, w_aCons, w_rNil, w_rVal, w_rLend, w_rPk, w_rDfl, w_rSelf, w_iArgs, w_iSeq, w_Seq, thenS_nx, thenS_rt, thenS_bk, thenS_ct, w_Nx, w_Ret, w_RetN, w_RetV, w_Expr, w_nxO, w_Asg, w_If, w_Unp, w_mutS, w_SetF, w_App, w_Ix, w_Par2, w_Raise, w_Try, w_Try0, w_For, w_Sup, endQ_nx, endQ_rt, sat_some, sat_none, sat_ite, sat_map, sat_bind, selO_some, selO_none, sel_true, sel_false, sel_not, wp_ok, wp_ex, wp_st, wp_ite, f_lt, f_le, f_gt, f_ge, f_add, f_sub, f_mul, f_mod, f_fdiv, f_neg, f_p6, f_p9, f_p12, f_p18, f_p20, f_p30, f_int, f_abs, f_max, f_min, f_sqL, f_sqT, f_sqR, f_lenL, f_lenT, f_lenR, f_at20, f_at21, f_set20, f_set21, f_t10, f_t20, f_t21, f_t30, f_t31, f_t32, f_t40, f_t41, f_t42, f_t43, f_eqI, f_eqS, f_isN, w_Yes, o_lend, o_lst, o_tup, o_rol, o_str, o_obj, startE, pslot, putS_eq, isIo_un, isIo_fz, isIo_ow, isIo_xc, isIo_io, slotOf, slotData, setData, putIos, iosOf, lends, argsD, argD, isLst, asB, asI, newO_ok, newX_ok, asObj, asNil, asS, gNm, gsNil, gsCons, gTu, wipeE, backE, ownFree, isCls0, appF, bareX, clrX, List.map_cons, List.map_nil, List.length_cons, List.length_nil, List.replicate_succ, List.replicate_zero, List.cons_append, List.nil_append, List.append_nil, List.getElem?_cons_zero, List.getElem?_cons_succ, List.getElem?_nil, List.set_cons_zero, List.set_cons_succ, Option.bind_some, Option.bind_none, Option.map_some, Option.map_none, Option.getD_some, Option.getD_none, sz, Nat.reduceLeDiff, Int.reduceLT, Int.reduceLE, decide_true, decide_false, Int.reduceBEq, Int.reduceBNe, Bool.false_eq_true, if_false, if_true, Bool.false_xor, Bool.true_xor, Bool.not_true, Bool.not_false, Bool.not_not, Nat.reduceSub, Nat.reduceAdd, List.nodup_cons, List.nodup_nil, List.not_mem_nil, List.mem_cons, not_false_eq_true, and_self, true_and, and_true, List.all_cons, List.all_nil, Bool.and_true, Bool.true_and]
  obtain rfl | rfl | rfl | rfl | rfl : r1 = 0 ∨ r1 = 1 ∨ r1 = 2 ∨ r1 = 3 ∨ r1 = 4 := by omega
  · exact h (.begin (1 + c)) a b ⟨by omega, by omega⟩ hx
  · exact h (.take t) a b ⟨by omega, by omega⟩ hx
  · exact h (.takeBy t (1 + c)) a b ⟨by omega, by omega, by omega, by omega⟩ hx
  · exact h (.right t (1 + c)) a b ⟨by omega, by omega, by omega, by omega⟩ hx
  · exact h .shut a b trivial hx
theorem s1 : (("begin" : Str) == "begin") = true := by decide
theorem s2 : (("shut" : Str) == "begin") = false := by decide
theorem s3 : (("shut" : Str) == "shut") = true := by decide
theorem s4 : (("right" : Str) == "begin") = false := by decide
theorem s5 : (("right" : Str) == "shut") = false := by decide
theorem s6 : (("right" : Str) == "right") = true := by decide
theorem s7 : (("take" : Str) == "begin") = false := by decide
theorem s8 : (("take" : Str) == "shut") = false := by decide
theorem s9 : (("take" : Str) == "right") = false := by decide
theorem fitI {i : Int} (h0 : 0 ≤ i) (h1 : i ≤ 1000000000000) : fit (.int i) = true := decide_eq_true (by omega)
theorem made_ok (R : DrawM G dens) {mv : Mv} (hm : mv.ok) (h : q.run (true, mv.obj) []) : wpC (callD dens (m + 4) (("_law_made" : PySem.Str), none) [(false, mv.tup)]) := by
  rw [w_run R.made rfl]
  unfold n__law_made
  cases mv with
  | begin a =>
    obtain ⟨h0, h1⟩ := hm
    simp only [w_C, w_Var, w_retO, w_bindE, w_evEx, w_evPk, argDat_val, argDat_lend, w_retF, w_retF1, w_P2, w_P1, w_Chain, w_ChainM, w_IfE, w_AndV, w_OrV, w_NotV, w_Tup, w_Lst, w_Slice, w_SliceM, w_evPn, w_evPs, w_PN, w_Call, w_Make, w_makeO, w_Meth, w_Len, w_lenK, w_Str, w_Fmt, w_Join0, w_Join, w_Xf, w_Xi, w_Lc, w_Tru, w_Test, w_And, w_Or, w_Not, w_aNil, w_aCons, w_rNil, w_rVal, w_rLend, w_rPk, w_rDfl, w_rSelf, w_iArgs, w_iSeq, w_Seq, thenS_nx, thenS_rt, thenS_bk, thenS_ct, w_Nx, w_Ret, w_RetN, w_RetV, w_Expr, w_nxO, w_Asg, w_If, w_Unp, w_mutS, w_SetF, w_App, w_Ix, w_Par2, w_Raise, w_Try, w_Try0, w_For, w_Sup, endQ_nx, endQ_rt, sat_some, sat_none, sat_ite, sat_map, sat_bind, selO_some, selO_none, sel_true, sel_false, sel_not, wp_ok, wp_ex, wp_st, wp_ite, f_lt, f_le, f_gt, f_ge, f_add, f_sub, f_mul, f_mod, f_fdiv, f_neg, f_p6, f_p9, f_p12, f_p18, f_p20, f_p30, f_int, f_abs, f_max, f_min, f_sqL, f_sqT, f_sqR, f_lenL, f_lenT, f_lenR, f_at20, f_at21, f_set20, f_set21, f_t10, f_t20, f_t21, f_t30, f_t31, f_t32, f_t40, f_t41, f_t42, f_t43, f_eqI, f_eqS, f_isN, w_Yes, o_lend, o_lst, o_tup, o_rol, o_str, o_obj, startE, pslot, putS_eq, isIo_un, isIo_fz, isIo_ow, isIo_xc, isIo_io, slotOf, slotData, setData, putIos, iosOf, lends, argsD, argD, isLst, asB, asI, newO_ok, newX_ok, asObj, asNil, asS, gNm, gsNil, gsCons, gTu, wipeE, backE, ownFree, isCls0, appF, bareX, clrX, List.map_cons, List.map_nil, List.length_cons, List.length_nil, List.replicate_succ, List.replicate_zero, List.cons_append, List.nil_append, List.append_nil, List.getElem?_cons_zero, List.getElem?_cons_succ, List.getElem?_nil, List.set_cons_zero, List.set_cons_succ, Option.bind_some, Option.bind_none, Option.map_some, Option.map_none, Option.getD_some, Option.getD_none, sz, Nat.reduceLeDiff, Int.reduceLT, Int.reduceLE, decide_true, decide_false, Int.reduceBEq, Int.reduceBNe, Bool.false_eq_true, if_false, if_true, Bool.false_xor, Bool.true_xor, Bool.not_true, Bool.not_false, Bool.not_not, Nat.reduceSub, Nat.reduceAdd, List.nodup_cons, List.nodup_nil, List.not_mem_nil, List.mem_cons, not_false_eq_true, and_self, true_and, and_true, List.all_cons, List.all_nil, Bool.and_true, Bool.true_and, Mv.tup, s1]
    refine begin_ok R.toMoves3 (fitI (by omega) h1) (fun a' e ha => ?_) (fun z => absurd z (by simp [atLeast]; omega))
    cases e
    simp only [w_C, w_Var, w_retO, w_bindE, w_evEx, w_evPk, argDat_val, argDat_lend, w_retF, w_retF1, w_P2, w_P1, w_Chain, w_ChainM, w_IfE, w_AndV, w_OrV, w_NotV, w_Tup, w_Lst, w_Slice, w_SliceM, w_evPn, w_evPs, w_PN, w_Call, w_Make, w_makeO, w_Meth, w_Len, w_lenK, w_Str, w_Fmt, w_Join0, w_Join, w_Xf, w_Xi, w_Lc, w_Tru, w_Test, w_And, w_Or, w_Not, w_aNil, w_aCons, w_rNil, w_rVal, w_rLend, w_rPk, w_rDfl, w_rSelf, w_iArgs, w_iSeq, w_Seq, thenS_nx, thenS_rt, thenS_bk, thenS_ct, w_Nx, w_Ret, w_RetN, w_RetV, w_Expr, w_nxO, w_Asg, w_If, w_Unp, w_mutS, w_SetF, w_App, w_Ix, w_Par2, w_Raise, w_Try, w_Try0, w_For, w_Sup, endQ_nx, endQ_rt, sat_some, sat_none, sat_ite, sat_map, sat_bind, selO_some, selO_none, sel_true, sel_false, sel_not, wp_ok, wp_ex, wp_st, wp_ite, f_lt, f_le, f_gt, f_ge, f_add, f_sub, f_mul, f_mod, f_fdiv, f_neg, f_p6, f_p9, f_p12, f_p18, f_p20, f_p30, f_int, f_abs, f_max, f_min, f_sqL, f_sqT, f_sqR, f_lenL, f_lenT, f_lenR, f_at20, f_at21, f_set20, f_set21, f_t10, f_t20, f_t21, f_t30, f_t31, f_t32, f_t40, f_t41, f_t42, f_t43, f_eqI, f_eqS, f_isN, w_Yes, o_lend, o_lst, o_tup, o_rol, o_str, o_obj, startE, pslot, putS_eq, isIo_un, isIo_fz, isIo_ow, isIo_xc, isIo_io, slotOf, slotData, setData, putIos, iosOf, lends, argsD, argD, isLst, asB, asI, newO_ok, newX_ok, asObj, asNil, asS, gNm, gsNil, gsCons, gTu, wipeE, backE, ownFree, isCls0, appF, bareX, clrX, List.map_cons, List.map_nil, List.length_cons, List.length_nil, List.replicate_succ, List.replicate_zero, List.cons_append, List.nil_append, List.append_nil, List.getElem?_cons_zero, List.getElem?_cons_succ, List.getElem?_nil, List.set_cons_zero, List.set_cons_succ, Option.bind_some, Option.bind_none, Option.map_some, Option.map_none, Option.getD_some, Option.getD_none, sz, Nat.reduceLeDiff, Int.reduceLT, Int.reduceLE, decide_true, decide_false, Int.reduceBEq, Int.reduceBNe, Bool.false_eq_true, if_false, if_true, Bool.false_xor, Bool.true_xor, Bool.not_true, Bool.not_false, Bool.not_not, Nat.reduceSub, Nat.reduceAdd, List.nodup_cons, List.nodup_nil, List.not_mem_nil, List.mem_cons, not_false_eq_true, and_self, true_and, and_true, List.all_cons, List.all_nil, Bool.and_true, Bool.true_and]
    exact h
  | shut =>
    simp only [w_C, w_Var, w_retO, w_bindE, w_evEx, w_evPk, argDat_val, argDat_lend, w_retF, w_retF1, w_P2, w_P1, w_Chain, w_ChainM, w_IfE, w_AndV, w_OrV, w_NotV, w_Tup, w_Lst, w_Slice, w_SliceM, w_evPn, w_evPs, w_PN, w_Call, w_Make, w_makeO, w_Meth, w_Len, w_lenK, w_Str, w_Fmt, w_Join0, w_Join, w_Xf, w_Xi, w_Lc, w_Tru, w_Test, w_And, w_Or, w_Not, w_aNil, w_aCons, w_rNil, w_rVal, w_rLend, w_rPk, w_rDfl, w_rSelf, w_iArgs, w_iSeq, w_Seq, thenS_nx, thenS_rt, thenS_bk, thenS_ct, w_Nx, w_Ret, w_RetN, w_RetV, w_Expr, w_nxO, w_Asg, w_If, w_Unp, w_mutS, w_SetF, w_App, w_Ix, w_Par2, w_Raise, w_Try, w_Try0, w_For, w_Sup, endQ_nx, endQ_rt, sat_some, sat_none, sat_ite, sat_map, sat_bind, selO_some, selO_none, sel_true, sel_false, sel_not, wp_ok, wp_ex, wp_st, wp_ite, f_lt, f_le, f_gt, f_ge, f_add, f_sub, f_mul, f_mod, f_fdiv, f_neg, f_p6, f_p9, f_p12, f_p18, f_p20, f_p30, f_int, f_abs, f_max, f_min, f_sqL, f_sqT, f_sqR, f_lenL, f_lenT, f_lenR, f_at20, f_at21, f_set20, f_set21, f_t10, f_t20, f_t21, f_t30, f_t31, f_t32, f_t40, f_t41, f_t42, f_t43, f_eqI, f_eqS, f_isN, w_Yes, o_lend, o_lst, o_tup, o_rol, o_str, o_obj, startE, pslot, putS_eq, isIo_un, isIo_fz, isIo_ow, isIo_xc, isIo_io, slotOf, slotData, setData, putIos, iosOf, lends, argsD, argD, isLst, asB, asI, newO_ok, newX_ok, asObj, asNil, asS, gNm, gsNil, gsCons, gTu, wipeE, backE, ownFree, isCls0, appF, bareX, clrX, List.map_cons, List.map_nil, List.length_cons, List.length_nil, List.replicate_succ, List.replicate_zero, List.cons_append, List.nil_append, List.append_nil, List.getElem?_cons_zero, List.getElem?_cons_succ, List.getElem?_nil, List.set_cons_zero, List.set_cons_succ, Option.bind_some, Option.bind_none, Option.map_some, Option.map_none, Option.getD_some, Option.getD_none, sz, Nat.reduceLeDiff, Int.reduceLT, Int.reduceLE, decide_true, decide_false, Int.reduceBEq, Int.reduceBNe, Bool.false_eq_true, if_false, if_true, Bool.false_xor, Bool.true_xor, Bool.not_true, Bool.not_false, Bool.not_not, Nat.reduceSub, Nat.reduceAdd, List.nodup_cons, List.nodup_nil, List.not_mem_nil, List.mem_cons, not_false_eq_true, and_self, true_and, and_true, List.all_cons, List.all_nil, Bool.and_true, Bool.true_and, Mv.tup, s2, s3]
    refine shut_ok R.toMoves ?_
    simp only [w_C, w_Var, w_retO, w_bindE, w_evEx, w_evPk, argDat_val, argDat_lend, w_retF, w_retF1, w_P2, w_P1, w_Chain, w_ChainM, w_IfE, w_AndV, w_OrV, w_NotV, w_Tup, w_Lst, w_Slice, w_SliceM, w_evPn, w_evPs, w_PN, w_Call, w_Make, w_makeO, w_Meth, w_Len, w_lenK, w_Str, w_Fmt, w_Join0, w_Join, w_Xf, w_Xi, w_Lc, w_Tru, w_Test, w_And, w_Or, w_Not, w_aNil, w_aCons, w_rNil, w_rVal, w_rLend, w_rPk, w_rDfl, w_rSelf, w_iArgs, w_iSeq, w_Seq, thenS_nx, thenS_rt, thenS_bk, thenS_ct, w_Nx, w_Ret, w_RetN, w_RetV, w_Expr, w_nxO, w_Asg, w_If, w_Unp, w_mutS, w_SetF, w_App, w_Ix, w_Par2, w_Raise, w_Try, w_Try0, w_For, w_Sup, endQ_nx, endQ_rt, sat_some, sat_none, sat_ite, sat_map, sat_bind, selO_some, selO_none, sel_true, sel_false, sel_not, wp_ok, wp_ex, wp_st, wp_ite, f_lt, f_le, f_gt, f_ge, f_add, f_sub, f_mul, f_mod, f_fdiv, f_neg, f_p6, f_p9, f_p12, f_p18, f_p20, f_p30, f_int, f_abs, f_max, f_min, f_sqL, f_sqT, f_sqR, f_lenL, f_lenT, f_lenR, f_at20, f_at21, f_set20, f_set21, f_t10, f_t20, f_t21, f_t30, f_t31, f_t32, f_t40, f_t41, f_t42, f_t43, f_eqI, f_eqS, f_isN, w_Yes, o_lend, o_lst, o_tup, o_rol, o_str, o_obj, startE, pslot, putS_eq, isIo_un, isIo_fz, isIo_ow, isIo_xc, isIo_io, slotOf, slotData, setData, putIos, iosOf, lends, argsD, argD, isLst, asB, asI, newO_ok, newX_ok, asObj, asNil, asS, gNm, gsNil, gsCons, gTu, wipeE, backE, ownFree, isCls0, appF, bareX, clrX, List.map_cons, List.map_nil, List.length_cons, List.length_nil, List.replicate_succ, List.replicate_zero, List.cons_append, List.nil_append, List.append_nil, List.getElem?_cons_zero, List.getElem?_cons_succ, List.getElem?_nil, List.set_cons_zero, List.set_cons_succ, Option.bind_some, Option.bind_none, Option.map_some, Option.map_none, Option.getD_some, Option.getD_none, sz, Nat.reduceLeDiff, Int.reduceLT, Int.reduceLE, decide_true, decide_false, Int.reduceBEq, Int.reduceBNe, Bool.false_eq_true, if_false, if_true, Bool.false_xor, Bool.true_xor, Bool.not_true, Bool.not_false, Bool.not_not, Nat.reduceSub, Nat.reduceAdd, List.nodup_cons, List.nodup_nil, List.not_mem_nil, List.mem_cons, not_false_eq_true, and_self, true_and, and_true, List.all_cons, List.all_nil, Bool.and_true, Bool.true_and]
    exact h
  | right t a =>
    obtain ⟨h0, h1, h2, h3⟩ := hm
    simp only [w_C, w_Var, w_retO, w_bindE, w_evEx, w_evPk, argDat_val, argDat_lend, w_retF, w_retF1, w_P2, w_P1, w_Chain, w_ChainM, w_IfE, w_AndV, w_OrV, w_NotV, w_Tup, w_Lst, w_Slice, w_SliceM, w_evPn, w_evPs, w_PN, w_Call, w_Make, w_makeO, w_Meth, w_Len, w_lenK, w_Str, w_Fmt, w_Join0, w_Join, w_Xf, w_Xi, w_Lc, w_Tru, w_Test, w_And, w_Or, w_Not, w_aNil, w_aCons, w_rNil, w_rVal, w_rLend, w_rPk, w_rDfl, w_rSelf, w_iArgs, w_iSeq, w_Seq, thenS_nx, thenS_rt, thenS_bk, thenS_ct, w_Nx, w_Ret, w_RetN, w_RetV, w_Expr, w_nxO, w_Asg, w_If, w_Unp, w_mutS, w_SetF, w_App, w_Ix, w_Par2, w_Raise, w_Try, w_Try0, w_For, w_Sup, endQ_nx, endQ_rt, sat_some, sat_none, sat_ite, sat_map, sat_bind, selO_some, selO_none, sel_true, sel_false, sel_not, wp_ok, wp_ex, wp_st, wp_ite, f_lt, f_le, f_gt, f_ge, f_add, f_sub, f_mul, f_mod, f_fdiv, f_neg, f_p6, f_p9, f_p12, f_p18, f_p20, f_p30, f_int, f_abs, f_max, f_min, f_sqL, f_sqT, f_sqR, f_lenL, f_lenT, f_lenR, f_at20, f_at21, f_set20, f_set21, f_t10, f_t20, f_t21, f_t30, f_t31, f_t32, f_t40, f_t41, f_t42, f_t43, f_eqI, f_eqS, f_isN, w_Yes, o_lend, o_lst, o_tup, o_rol, o_str, o_obj, startE, pslot, putS_eq, isIo_un, isIo_fz, isIo_ow, isIo_xc, isIo_io, slotOf, slotData, setData, putIos, iosOf, lends, argsD, argD, isLst, asB, asI, newO_ok, newX_ok, asObj, asNil, asS, gNm, gsNil, gsCons, gTu, wipeE, backE, ownFree, isCls0, appF, bareX, clrX, List.map_cons, List.map_nil, List.length_cons, List.length_nil, List.replicate_succ, List.replicate_zero, List.cons_append, List.nil_append, List.append_nil, List.getElem?_cons_zero, List.getElem?_cons_succ, List.getElem?_nil, List.set_cons_zero, List.set_cons_succ, Option.bind_some, Option.bind_none, Option.map_some, Option.map_none, Option.getD_some, Option.getD_none, sz, Nat.reduceLeDiff, Int.reduceLT, Int.reduceLE, decide_true, decide_false, Int.reduceBEq, Int.reduceBNe, Bool.false_eq_true, if_false, if_true, Bool.false_xor, Bool.true_xor, Bool.not_true, Bool.not_false, Bool.not_not, Nat.reduceSub, Nat.reduceAdd, List.nodup_cons, List.nodup_nil, List.not_mem_nil, List.mem_cons, not_false_eq_true, and_self, true_and, and_true, List.all_cons, List.all_nil, Bool.and_true, Bool.true_and, Mv.tup, s4, s5, s6]
    refine right_ok R.toMoves3 (fitI h0 (by omega)) (fitI (by omega) h3) (fun t' a' e ht e' ha => ?_) (fun z => absurd z (by simp [atLeast]; omega)) (fun _ z => absurd z (by simp [atLeast]; omega))
    cases e
    cases e'
    simp only [w_C, w_Var, w_retO, w_bindE, w_evEx, w_evPk, argDat_val, argDat_lend, w_retF, w_retF1, w_P2, w_P1, w_Chain, w_ChainM, w_IfE, w_AndV, w_OrV, w_NotV, w_Tup, w_Lst, w_Slice, w_SliceM, w_evPn, w_evPs, w_PN, w_Call, w_Make, w_makeO, w_Meth, w_Len, w_lenK, w_Str, w_Fmt, w_Join0, w_Join, w_Xf, w_Xi, w_Lc, w_Tru, w_Test, w_And, w_Or, w_Not, w_aNil, w_aCons, w_rNil, w_rVal, w_rLend, w_rPk, w_rDfl, w_rSelf, w_iArgs, w_iSeq, w_Seq, thenS_nx, thenS_rt, thenS_bk, thenS_ct, w_Nx, w_Ret, w_RetN, w_RetV, w_Expr, w_nxO, w_Asg, w_If, w_Unp, w_mutS, w_SetF, w_App, w_Ix, w_Par2, w_Raise, w_Try, w_Try0, w_For, w_Sup, endQ_nx, endQ_rt, sat_some, sat_none, sat_ite, sat_map, sat_bind, selO_some, selO_none, sel_true, sel_false, sel_not, wp_ok, wp_ex, wp_st, wp_ite, f_lt, f_le, f_gt, f_ge, f_add, f_sub, f_mul, f_mod, f_fdiv, f_neg, f_p6, f_p9, f_p12, f_p18, f_p20, f_p30, f_int, f_abs, f_max, f_min, f_sqL, f_sqT, f_sqR, f_lenL, f_lenT, f_lenR, f_at20, f_at21, f_set20, f_set21, f_t10, f_t20, f_t21, f_t30, f_t31, f_t32, f_t40, f_t41, f_t42, f_t43, f_eqI, f_eqS, f_isN, w_Yes, o_lend, o_lst, o_tup, o_rol, o_str, o_obj, startE, pslot, putS_eq, isIo_un, isIo_fz, isIo_ow, isIo_xc, isIo_io, slotOf, slotData, setData, putIos, iosOf, lends, argsD, argD, isLst, asB, asI, newO_ok, newX_ok, asObj, asNil, asS, gNm, gsNil, gsCons, gTu, wipeE, backE, ownFree, isCls0, appF, bareX, clrX, List.map_cons, List.map_nil, List.length_cons, List.length_nil, List.replicate_succ, List.replicate_zero, List.cons_append, List.nil_append, List.append_nil, List.getElem?_cons_zero, List.getElem?_cons_succ, List.getElem?_nil, List.set_cons_zero, List.set_cons_succ, Option.bind_some, Option.bind_none, Option.map_some, Option.map_none, Option.getD_some, Option.getD_none, sz, Nat.reduceLeDiff, Int.reduceLT, Int.reduceLE, decide_true, decide_false, Int.reduceBEq, Int.reduceBNe, Bool.false_eq_true, if_false, if_true, Bool.false_xor, Bool.true_xor, Bool.not_true, Bool.not_false, Bool.not_not, Nat.reduceSub, Nat.reduceAdd, List.nodup_cons, List.nodup_nil, List.not_mem_nil, List.mem_cons, not_false_eq_true, and_self, true_and, and_true, List.all_cons, List.all_nil, Bool.and_true, Bool.true_and]
    exact h
  | take t =>
    obtain ⟨h0, h1⟩ := hm
    simp only [w_C, w_Var, w_retO, w_bindE, w_evEx, w_evPk, argDat_val, argDat_lend, w_retF, w_retF1, w_P2, w_P1, w_Chain, w_ChainM, w_IfE, w_AndV, w_OrV, w_NotV, w_Tup, w_Lst, w_Slice, w_SliceM, w_evPn, w_evPs, w_PN, w_Call, w_Make, w_makeO, w_Meth, w_Len, w_lenK, w_Str, w_Fmt, w_Join0, w_Join, w_Xf, w_Xi, w_Lc, w_Tru, w_Test, w_And, w_Or, w_Not, w_aNil, w_aCons, w_rNil, w_rVal, w_rLend, w_rPk, w_rDfl, w_rSelf, w_iArgs, w_iSeq, w_Seq, thenS_nx, thenS_rt, thenS_bk, thenS_ct, w_Nx, w_Ret, w_RetN, w_RetV, w_Expr, w_nxO, w_Asg, w_If, w_Unp, w_mutS, w_SetF, w_App, w_Ix, w_Par2, w_Raise, w_Try, w_Try0, w_For, w_Sup, endQ_nx, endQ_rt, sat_some, sat_none, sat_ite, sat_map, sat_bind, selO_some, selO_none, sel_true, sel_false, sel_not, wp_ok, wp_ex, wp_st, wp_ite, f_lt, f_le, f_gt, f_ge, f_add, f_sub, f_mul, f_mod, f_fdiv, f_neg, f_p6, f_p9, f_p12, f_p18, f_p20, f_p30, f_int, f_abs, f_max, f_min, f_sqL, f_sqT, f_sqR, f_lenL, f_lenT, f_lenR, f_at20, f_at21, f_set20, f_set21, f_t10, f_t20, f_t21, f_t30, f_t31, f_t32, f_t40, f_t41, f_t42, f_t43, f_eqI, f_eqS, f_isN, w_Yes, o_lend, o_lst, o_tup, o_rol, o_str, o_obj, startE, pslot, putS_eq, isIo_un, isIo_fz, isIo_ow, isIo_xc, isIo_io, slotOf, slotData, setData, putIos, iosOf, lends, argsD, argD, isLst, asB, asI, newO_ok, newX_ok, asObj, asNil, asS, gNm, gsNil, gsCons, gTu, wipeE, backE, ownFree, isCls0, appF, bareX, clrX, List.map_cons, List.map_nil, List.length_cons, List.length_nil, List.replicate_succ, List.replicate_zero, List.cons_append, List.nil_append, List.append_nil, List.getElem?_cons_zero, List.getElem?_cons_succ, List.getElem?_nil, List.set_cons_zero, List.set_cons_succ, Option.bind_some, Option.bind_none, Option.map_some, Option.map_none, Option.getD_some, Option.getD_none, sz, Nat.reduceLeDiff, Int.reduceLT, Int.reduceLE, decide_true, decide_false, Int.reduceBEq, Int.reduceBNe, Bool.false_eq_true, if_false, if_true, Bool.false_xor, Bool.true_xor, Bool.not_true, Bool.not_false, Bool.not_not, Nat.reduceSub, Nat.reduceAdd, List.nodup_cons, List.nodup_nil, List.not_mem_nil, List.mem_cons, not_false_eq_true, and_self, true_and, and_true, List.all_cons, List.all_nil, Bool.and_true, Bool.true_and, Mv.tup, s7, s8, s9]
    refine take_ok R.toMoves3 (fitI h0 (by omega)) rfl (fun t' e ht _ => ?_) (fun _ _ _ _ z => nomatch z) (fun z => absurd z (by simp [atLeast]; omega)) (fun _ z => absurd rfl z)
    cases e
    simp only [w_C, w_Var, w_retO, w_bindE, w_evEx, w_evPk, argDat_val, argDat_lend, w_retF, w_retF1, w_P2, w_P1, w_Chain, w_ChainM, w_IfE, w_AndV, w_OrV, w_NotV, w_Tup, w_Lst, w_Slice, w_SliceM, w_evPn, w_evPs, w_PN, w_Call, w_Make, w_makeO, w_Meth, w_Len, w_lenK, w_Str, w_Fmt, w_Join0, w_Join, w_Xf, w_Xi, w_Lc, w_Tru, w_Test, w_And, w_Or, w_Not, w_aNil, w_aCons, w_rNil, w_rVal, w_rLend, w_rPk, w_rDfl, w_rSelf, w_iArgs, w_iSeq, w_Seq, thenS_nx, thenS_rt, thenS_bk, thenS_ct, w_Nx, w_Ret, w_RetN, w_RetV, w_Expr, w_nxO, w_Asg, w_If, w_Unp, w_mutS, w_SetF, w_App, w_Ix, w_Par2, w_Raise, w_Try, w_Try0, w_For, w_Sup, endQ_nx, endQ_rt, sat_some, sat_none, sat_ite, sat_map, sat_bind, selO_some, selO_none, sel_true, sel_false, sel_not, wp_ok, wp_ex, wp_st, wp_ite, f_lt, f_le, f_gt, f_ge, f_add, f_sub, f_mul, f_mod, f_fdiv, f_neg, f_p6, f_p9, f_p12, f_p18, f_p20, f_p30, f_int, f_abs, f_max, f_min, f_sqL, f_sqT, f_sqR, f_lenL, f_lenT, f_lenR, f_at20, f_at21, f_set20, f_set21, f_t10, f_t20, f_t21, f_t30, f_t31, f_t32, f_t40, f_t41, f_t42, f_t43, f_eqI, f_eqS, f_isN, w_Yes, o_lend, o_lst, o_tup, o_rol, o_str, o_obj, startE, pslot, putS_eq, isIo_un, isIo_fz, isIo_ow, isIo_xc, isIo_io, slotOf, slotData, setData, putIos, iosOf, lends, argsD, argD, isLst, asB, asI, newO_ok, newX_ok, asObj, asNil, asS, gNm, gsNil, gsCons, gTu, wipeE, backE, ownFree, isCls0, appF, bareX, clrX, List.map_cons, List.map_nil, List.length_cons, List.length_nil, List.replicate_succ, List.replicate_zero, List.cons_append, List.nil_append, List.append_nil, List.getElem?_cons_zero, List.getElem?_cons_succ, List.getElem?_nil, List.set_cons_zero, List.set_cons_succ, Option.bind_some, Option.bind_none, Option.map_some, Option.map_none, Option.getD_some, Option.getD_none, sz, Nat.reduceLeDiff, Int.reduceLT, Int.reduceLE, decide_true, decide_false, Int.reduceBEq, Int.reduceBNe, Bool.false_eq_true, if_false, if_true, Bool.false_xor, Bool.true_xor, Bool.not_true, Bool.not_false, Bool.not_not, Nat.reduceSub, Nat.reduceAdd, List.nodup_cons, List.nodup_nil, List.not_mem_nil, List.mem_cons, not_false_eq_true, and_self, true_and, and_true, List.all_cons, List.all_nil, Bool.and_true, Bool.true_and]
    exact h
  | takeBy t a =>
    obtain ⟨h0, h1, h2, h3⟩ := hm
    simp only [w_C, w_Var, w_retO, w_bindE, w_evEx, w_evPk, argDat_val, argDat_lend, w_retF, w_retF1, w_P2, w_P1, w_Chain, w_ChainM, w_IfE, w_AndV, w_OrV, w_NotV, w_Tup, w_Lst, w_Slice, w_SliceM, w_evPn, w_evPs, w_PN, w_Call, w_Make, w_makeO, w_Meth, w_Len, w_lenK, w_Str, w_Fmt, w_Join0, w_Join, w_Xf, w_Xi, w_Lc, w_Tru, w_Test, w_And, w_Or, w_Not, w_aNil, w_aCons, w_rNil, w_rVal, w_rLend, w_rPk, w_rDfl, w_rSelf, w_iArgs, w_iSeq, w_Seq, thenS_nx, thenS_rt, thenS_bk, thenS_ct, w_Nx, w_Ret, w_RetN, w_RetV, w_Expr, w_nxO, w_Asg, w_If, w_Unp, w_mutS, w_SetF, w_App, w_Ix, w_Par2, w_Raise, w_Try, w_Try0, w_For, w_Sup, endQ_nx, endQ_rt, sat_some, sat_none, sat_ite, sat_map, sat_bind, selO_some, selO_none, sel_true, sel_false, sel_not, wp_ok, wp_ex, wp_st, wp_ite, f_lt, f_le, f_gt, f_ge, f_add, f_sub, f_mul, f_mod, f_fdiv, f_neg, f_p6, f_p9, f_p12, f_p18, f_p20, f_p30, f_int, f_abs, f_max, f_min, f_sqL, f_sqT, f_sqR, f_lenL, f_lenT, f_lenR, f_at20, f_at21, f_set20, f_set21, f_t10, f_t20, f_t21, f_t30, f_t31, f_t32, f_t40, f_t41, f_t42, f_t43, f_eqI, f_eqS, f_isN, w_Yes, o_lend, o_lst, o_tup, o_rol, o_str, o_obj, startE, pslot, putS_eq, isIo_un, isIo_fz, isIo_ow, isIo_xc, isIo_io, slotOf, slotData, setData, putIos, iosOf, lends, argsD, argD, isLst, asB, asI, newO_ok, newX_ok, asObj, asNil, asS, gNm, gsNil, gsCons, gTu, wipeE, backE, ownFree, isCls0, appF, bareX, clrX, List.map_cons, List.map_nil, List.length_cons, List.length_nil, List.replicate_succ, List.replicate_zero, List.cons_append, List.nil_append, List.append_nil, List.getElem?_cons_zero, List.getElem?_cons_succ, List.getElem?_nil, List.set_cons_zero, List.set_cons_succ, Option.bind_some, Option.bind_none, Option.map_some, Option.map_none, Option.getD_some, Option.getD_none, sz, Nat.reduceLeDiff, Int.reduceLT, Int.reduceLE, decide_true, decide_false, Int.reduceBEq, Int.reduceBNe, Bool.false_eq_true, if_false, if_true, Bool.false_xor, Bool.true_xor, Bool.not_true, Bool.not_false, Bool.not_not, Nat.reduceSub, Nat.reduceAdd, List.nodup_cons, List.nodup_nil, List.not_mem_nil, List.mem_cons, not_false_eq_true, and_self, true_and, and_true, List.all_cons, List.all_nil, Bool.and_true, Bool.true_and, Mv.tup, s7, s8, s9, show (a == 0) = false from by simp; omega]
    refine take_ok R.toMoves3 (fitI h0 (by omega)) (fitI (by omega) h3) (fun _ _ _ z => nomatch z) (fun t' a' e ht e' ha => ?_) (fun z => absurd z (by simp [atLeast]; omega)) (fun _ _ z => absurd z (by simp [atLeast]; omega))
    cases e
    cases e'
    simp only [w_C, w_Var, w_retO, w_bindE, w_evEx, w_evPk, argDat_val, argDat_lend, w_retF, w_retF1, w_P2, w_P1, w_Chain, w_ChainM, w_IfE, w_AndV, w_OrV, w_NotV, w_Tup, w_Lst, w_Slice, w_SliceM, w_evPn, w_evPs, w_PN, w_Call, w_Make, w_makeO, w_Meth, w_Len, w_lenK, w_Str, w_Fmt, w_Join0, w_Join, w_Xf, w_Xi, w_Lc, w_Tru, w_Test, w_And, w_Or, w_Not, w_aNil, w_aCons, w_rNil, w_rVal, w_rLend, w_rPk, w_rDfl, w_rSelf, w_iArgs, w_iSeq, w_Seq, thenS_nx, thenS_rt, thenS_bk, thenS_ct, w_Nx, w_Ret, w_RetN, w_RetV, w_Expr, w_nxO, w_Asg, w_If, w_Unp, w_mutS, w_SetF, w_App, w_Ix, w_Par2, w_Raise, w_Try, w_Try0, w_For, w_Sup, endQ_nx, endQ_rt, sat_some, sat_none, sat_ite, sat_map, sat_bind, selO_some, selO_none, sel_true, sel_false, sel_not, wp_ok, wp_ex, wp_st, wp_ite, f_lt, f_le, f_gt, f_ge, f_add, f_sub, f_mul, f_mod, f_fdiv, f_neg, f_p6, f_p9, f_p12, f_p18, f_p20, f_p30, f_int, f_abs, f_max, f_min, f_sqL, f_sqT, f_sqR, f_lenL, f_lenT, f_lenR, f_at20, f_at21, f_set20, f_set21, f_t10, f_t20, f_t21, f_t30, f_t31, f_t32, f_t40, f_t41, f_t42, f_t43, f_eqI, f_eqS, f_isN, w_Yes, o_lend, o_lst, o_tup, o_rol, o_str, o_obj, startE, pslot, putS_eq, isIo_un, isIo_fz, isIo_ow, isIo_xc, isIo_io, slotOf, slotData, setData, putIos, iosOf, lends, argsD, argD, isLst, asB, asI, newO_ok, newX_ok, asObj, asNil, asS, gNm, gsNil, gsCons, gTu, wipeE, backE, ownFree, isCls0, appF, bareX, clrX, List.map_cons, List.map_nil, List.length_cons, List.length_nil, List.replicate_succ, List.replicate_zero, List.cons_append, List.nil_append, List.append_nil, List.getElem?_cons_zero, List.getElem?_cons_succ, List.getElem?_nil, List.set_cons_zero, List.set_cons_succ, Option.bind_some, Option.bind_none, Option.map_some, Option.map_none, Option.getD_some, Option.getD_none, sz, Nat.reduceLeDiff, Int.reduceLT, Int.reduceLE, decide_true, decide_false, Int.reduceBEq, Int.reduceBNe, Bool.false_eq_true, if_false, if_true, Bool.false_xor, Bool.true_xor, Bool.not_true, Bool.not_false, Bool.not_not, Nat.reduceSub, Nat.reduceAdd, List.nodup_cons, List.nodup_nil, List.not_mem_nil, List.mem_cons, not_false_eq_true, and_self, true_and, and_true, List.all_cons, List.all_nil, Bool.and_true, Bool.true_and]
    exact h
end
end DL
set_option maxHeartbeats 0
namespace K05
open PySem PySem.Spec PyProof.Rows L2 DL
def top (i : Nat) : Stmt := PySem.Challenge.pw_contrabooks_k05_histories_refused.main.body.getD i (.Pass ⟨0, 0, 0, 0⟩)
def d_law : Df := ⟨("law", none), "law", "law", defArgs (top 29), defBody (top 29), defScope (top 29), ["_law_script"], ["_law_script", "_law_k", "_law_box", "_law_turn", "_law_good", "_law_at", "_law_odd", "_law_some", "_law_value", "_law_step"], [], [], [false], none, none⟩
def d__law_seed : Df := ⟨("_law_seed", none), "_law_seed", "_law_seed", defArgs (top 21), defBody (top 21), defScope (top 21), ["_law_script", "_law_k"], ["_law_script", "_law_k", "_law_cell"], [], [], [false, false], none, none⟩
def d__law_choose : Df := ⟨("_law_choose", none), "_law_choose", "_law_choose", defArgs (top 22), defBody (top 22), defScope (top 22), ["_law_box", "_law_many"], ["_law_box", "_law_many", "_law_first", "_law_digit"], [], [], [true, false], none, none⟩
def d__law_one_of : Df := ⟨("_law_one_of", none), "_law_one_of", "_law_one_of", defArgs (top 23), defBody (top 23), defScope (top 23), ["_law_box", "_law_some"], ["_law_box", "_law_some"], [], [], [true, false], none, none⟩
def d__law_made : Df := ⟨("_law_made", none), "_law_made", "_law_made", defArgs (top 26), defBody (top 26), defScope (top 26), ["_law_move"], ["_law_move"], [], [], [false], none, none⟩
def d__law_anything : Df := ⟨("_law_anything", none), "_law_anything", "_law_anything", defArgs (top 24), defBody (top 24), defScope (top 24), ["_law_box", "_law_deep"], ["_law_box", "_law_deep", "_law_form", "_law_some", "_law_odd", "_law_turn"], [], [], [true, false], none, none⟩
def d_History_init : Df := ⟨("History", some "__init__"), "__init__", "History.__init__", defArgs (inClass (top 19) 0), defBody (inClass (top 19) 0), defScope (inClass (top 19) 0), ["self", "moves"], ["self", "moves", "move"], [.tup []], [.adr (He.dflAt ("History", some "__init__") 0)], [true, false], none, none⟩
def d_History_eq : Df := ⟨("History", some "__eq__"), "__eq__", "History.__eq__", defArgs (inClass (top 19) 6), defBody (inClass (top 19) 6), defScope (inClass (top 19) 6), ["self", "other"], ["self", "other"], [], [], [false, false], none, none⟩
def d_History_str : Df := ⟨("History", some "__str__"), "__str__", "History.__str__", defArgs (inClass (top 19) 7), defBody (inClass (top 19) 7), defScope (inClass (top 19) 7), ["self"], ["self", "move"], [], [], [false], none, none⟩
def d_History_len : Df := ⟨("History", some "__len__"), "__len__", "History.__len__", defArgs (inClass (top 19) 2), defBody (inClass (top 19) 2), defScope (inClass (top 19) 2), ["self"], ["self"], [], [], [false], none, none⟩
def d_History_getitem : Df := ⟨("History", some "__getitem__"), "__getitem__", "History.__getitem__", defArgs (inClass (top 19) 3), defBody (inClass (top 19) 3), defScope (inClass (top 19) 3), ["self", "at"], ["self", "at", "some"], [], [], [false, false], none, none⟩
def d_History_iter : Df := ⟨("History", some "__iter__"), "__iter__", "History.__iter__", defArgs (inClass (top 19) 4), defBody (inClass (top 19) 4), defScope (inClass (top 19) 4), ["self"], ["self"], [], [], [false], none, none⟩
def d_History_add : Df := ⟨("History", some "__add__"), "__add__", "History.__add__", defArgs (inClass (top 19) 5), defBody (inClass (top 19) 5), defScope (inClass (top 19) 5), ["self", "other"], ["self", "other"], [], [], [false, false], none, none⟩
def d__law_any_move : Df := ⟨("_law_any_move", none), "_law_any_move", "_law_any_move", defArgs (top 25), defBody (top 25), defScope (top 25), ["_law_box"], ["_law_box", "_law_amount", "_law_form", "_law_at"], [], [], [true], none, none⟩
def d__law_refused : Df := ⟨("_law_refused", none), "_law_refused", "_law_refused", defArgs (top 27), defBody (top 27), defScope (top 27), ["_law_value"], ["_law_value", "_law_found", "e"], [], [], [false], none, none⟩
def d__law_due : Df := ⟨("_law_due", none), "_law_due", "_law_due", defArgs (top 28), defBody (top 28), defScope (top 28), ["_law_value"], ["_law_value", "_law_one"], [], [], [false], none, none⟩
def d_Begin_init : Df := ⟨("Begin", some "__init__"), "__init__", "Begin.__init__", defArgs (inClass (top 13) 0), defBody (inClass (top 13) 0), defScope (inClass (top 13) 0), ["self", "amount"], ["self", "amount", "__class__"], [], [], [true, false], some ("Begin", ⟨("Move", some "__init__"), 2, 2, [], [true, false]⟩), none⟩
def d_Move_init : Df := ⟨("Move", some "__init__"), "__init__", "Move.__init__", defArgs (inClass (top 12) 0), defBody (inClass (top 12) 0), defScope (inClass (top 12) 0), ["self", "script"], ["self", "script"], [], [], [true, false], none, none⟩
def d_Move_eq : Df := ⟨("Move", some "__eq__"), "__eq__", "Move.__eq__", defArgs (inClass (top 12) 1), defBody (inClass (top 12) 1), defScope (inClass (top 12) 1), ["self", "other"], ["self", "other"], [], [], [false, false], none, none⟩
def d_Move_str : Df := ⟨("Move", some "__str__"), "__str__", "Move.__str__", defArgs (inClass (top 12) 2), defBody (inClass (top 12) 2), defScope (inClass (top 12) 2), ["self"], ["self"], [], [], [false], none, none⟩
def d_Shut_init : Df := ⟨("Shut", some "__init__"), "__init__", "Shut.__init__", defArgs (inClass (top 16) 0), defBody (inClass (top 16) 0), defScope (inClass (top 16) 0), ["self"], ["self", "__class__"], [], [], [true], some ("Shut", ⟨("Move", some "__init__"), 2, 2, [], [true, false]⟩), none⟩
def d_Right_init : Df := ⟨("Right", some "__init__"), "__init__", "Right.__init__", defArgs (inClass (top 15) 0), defBody (inClass (top 15) 0), defScope (inClass (top 15) 0), ["self", "at", "amount"], ["self", "at", "amount", "__class__"], [], [], [true, false, false], some ("Right", ⟨("Move", some "__init__"), 2, 2, [], [true, false]⟩), none⟩
def d_Take_init : Df := ⟨("Take", some "__init__"), "__init__", "Take.__init__", defArgs (inClass (top 14) 0), defBody (inClass (top 14) 0), defScope (inClass (top 14) 0), ["self", "at", "amount"], ["self", "at", "amount", "__class__"], [.non], [.non], [true, false, false], some ("Take", ⟨("Move", some "__init__"), 2, 2, [], [true, false]⟩), none⟩
def d_InvalidMove_init : Df := ⟨("InvalidMove", some "__init__"), "__init__", "InvalidMove.__init__", defArgs (inClass (top 2) 0), defBody (inClass (top 2) 0), defScope (inClass (top 2) 0), ["self", "word"], ["self", "word", "__class__"], [], [], [true, false], none, some "word"⟩
def d_is_sequence : Df := ⟨("is_sequence", none), "is_sequence", "is_sequence", defArgs (top 9), defBody (top 9), defScope (top 9), ["value"], ["value"], [], [], [false], none, none⟩
def d_is_amount : Df := ⟨("is_amount", none), "is_amount", "is_amount", defArgs (top 8), defBody (top 8), defScope (top 8), ["value"], ["value"], [], [], [false], none, none⟩
def d_is_number : Df := ⟨("is_number", none), "is_number", "is_number", defArgs (top 7), defBody (top 7), defScope (top 7), ["value"], ["value"], [], [], [false], none, none⟩
def d_is_integer : Df := ⟨("is_integer", none), "is_integer", "is_integer", defArgs (top 6), defBody (top 6), defScope (top 6), ["value"], ["value"], [], [], [false], none, none⟩
def tbl : List Df := ([d_law, d__law_seed, d__law_choose, d__law_one_of, d__law_made, d__law_anything, d_History_init, d_History_eq, d_History_str, d_History_len, d_History_getitem, d_History_iter, d_History_add, d__law_any_move, d__law_refused, d__law_due, d_Begin_init, d_Move_init, d_Move_eq, d_Move_str, d_Shut_init, d_Right_init, d_Take_init, d_InvalidMove_init] : List Df) ++ ([d_is_sequence, d_is_amount, d_is_number, d_is_integer] : List Df)
def isiL : List (CRef × CRef × Bool) := ([(.own "Move", .ty "bool", false), (.own "Move", .ty "int", false), (.own "Move", .ty "list", false), (.own "Move", .ty "tuple", false), (.own "Move", .own "BookError", false), (.own "Move", .own "InvalidMove", false), (.own "Move", .own "InvalidText", false), (.own "Move", .own "Move", true), (.own "Move", .own "History", false), (.own "Begin", .ty "bool", false), (.own "Begin", .ty "int", false), (.own "Begin", .ty "list", false), (.own "Begin", .ty "tuple", false), (.own "Begin", .own "BookError", false), (.own "Begin", .own "InvalidMove", false), (.own "Begin", .own "InvalidText", false), (.own "Begin", .own "Move", true), (.own "Begin", .own "History", false), (.own "Take", .ty "bool", false), (.own "Take", .ty "int", false), (.own "Take", .ty "list", false), (.own "Take", .ty "tuple", false), (.own "Take", .own "BookError", false), (.own "Take", .own "InvalidMove", false)] : List (CRef × CRef × Bool)) ++ (([(.own "Take", .own "InvalidText", false), (.own "Take", .own "Move", true), (.own "Take", .own "History", false), (.own "Right", .ty "bool", false), (.own "Right", .ty "int", false), (.own "Right", .ty "list", false), (.own "Right", .ty "tuple", false), (.own "Right", .own "BookError", false), (.own "Right", .own "InvalidMove", false), (.own "Right", .own "InvalidText", false), (.own "Right", .own "Move", true), (.own "Right", .own "History", false), (.own "Shut", .ty "bool", false), (.own "Shut", .ty "int", false), (.own "Shut", .ty "list", false), (.own "Shut", .ty "tuple", false), (.own "Shut", .own "BookError", false), (.own "Shut", .own "InvalidMove", false), (.own "Shut", .own "InvalidText", false), (.own "Shut", .own "Move", true), (.own "Shut", .own "History", false), (.own "History", .ty "bool", false), (.own "History", .ty "int", false), (.own "History", .ty "list", false)] : List (CRef × CRef × Bool)) ++ (([(.own "History", .ty "tuple", false), (.own "History", .own "BookError", false), (.own "History", .own "InvalidMove", false), (.own "History", .own "InvalidText", false), (.own "History", .own "Move", false), (.own "History", .own "History", true), (.ty "NoneType", .own "BookError", false), (.ty "NoneType", .own "InvalidMove", false), (.ty "NoneType", .own "InvalidText", false), (.ty "NoneType", .own "Move", false), (.ty "NoneType", .own "History", false), (.ty "bool", .own "BookError", false), (.ty "bool", .own "InvalidMove", false), (.ty "bool", .own "InvalidText", false), (.ty "bool", .own "Move", false), (.ty "bool", .own "History", false), (.ty "int", .own "BookError", false), (.ty "int", .own "InvalidMove", false), (.ty "int", .own "InvalidText", false), (.ty "int", .own "Move", false), (.ty "int", .own "History", false), (.ty "str", .own "BookError", false), (.ty "str", .own "InvalidMove", false), (.ty "str", .own "InvalidText", false)] : List (CRef × CRef × Bool)) ++ ([(.ty "str", .own "Move", false), (.ty "str", .own "History", false), (.ty "tuple", .own "BookError", false), (.ty "tuple", .own "InvalidMove", false), (.ty "tuple", .own "InvalidText", false), (.ty "tuple", .own "Move", false), (.ty "tuple", .own "History", false), (.ty "list", .own "BookError", false), (.ty "list", .own "InvalidMove", false), (.ty "list", .own "InvalidText", false), (.ty "list", .own "Move", false), (.ty "list", .own "History", false), (.own "InvalidMove", .own "BookError", true), (.own "InvalidMove", .own "InvalidMove", true), (.own "InvalidMove", .own "InvalidText", false), (.own "InvalidMove", .own "Move", false), (.own "InvalidMove", .own "History", false)] : List (CRef × CRef × Bool)) : List (CRef × CRef × Bool)) : List (CRef × CRef × Bool))
def G : Gm := ⟨[("law", ⟨("law", none), 10, 1, [], [false]⟩), ("_law_seed", ⟨("_law_seed", none), 3, 2, [], [false, false]⟩), ("_law_choose", ⟨("_law_choose", none), 4, 2, [], [true, false]⟩), ("_law_one_of", ⟨("_law_one_of", none), 2, 2, [], [true, false]⟩), ("_law_made", ⟨("_law_made", none), 1, 1, [], [false]⟩), ("_law_anything", ⟨("_law_anything", none), 6, 2, [], [true, false]⟩), ("_law_any_move", ⟨("_law_any_move", none), 4, 1, [], [true]⟩), ("_law_refused", ⟨("_law_refused", none), 3, 1, [], [false]⟩), ("_law_due", ⟨("_law_due", none), 2, 1, [], [false]⟩), ("is_sequence", ⟨("is_sequence", none), 1, 1, [], [false]⟩), ("is_amount", ⟨("is_amount", none), 1, 1, [], [false]⟩), ("is_number", ⟨("is_number", none), 1, 1, [], [false]⟩), ("is_integer", ⟨("is_integer", none), 1, 1, [], [false]⟩)], [("Move", ⟨("Move", some "__init__"), 2, 2, [], [true, false]⟩), ("Begin", ⟨("Begin", some "__init__"), 3, 2, [], [true, false]⟩), ("Take", ⟨("Take", some "__init__"), 4, 3, [.non], [true, false, false]⟩), ("Right", ⟨("Right", some "__init__"), 4, 3, [], [true, false, false]⟩), ("Shut", ⟨("Shut", some "__init__"), 2, 1, [], [true]⟩), ("History", ⟨("History", some "__init__"), 3, 2, [.tup []], [true, false]⟩)], [("__eq__", [("Move", ⟨("Move", some "__eq__"), 2, 2, [], [false, false]⟩), ("Begin", ⟨("Move", some "__eq__"), 2, 2, [], [false, false]⟩), ("Take", ⟨("Move", some "__eq__"), 2, 2, [], [false, false]⟩), ("Right", ⟨("Move", some "__eq__"), 2, 2, [], [false, false]⟩), ("Shut", ⟨("Move", some "__eq__"), 2, 2, [], [false, false]⟩), ("History", ⟨("History", some "__eq__"), 2, 2, [], [false, false]⟩)]), ("__str__", [("Move", ⟨("Move", some "__str__"), 1, 1, [], [false]⟩), ("Begin", ⟨("Move", some "__str__"), 1, 1, [], [false]⟩), ("Take", ⟨("Move", some "__str__"), 1, 1, [], [false]⟩), ("Right", ⟨("Move", some "__str__"), 1, 1, [], [false]⟩), ("Shut", ⟨("Move", some "__str__"), 1, 1, [], [false]⟩), ("History", ⟨("History", some "__str__"), 2, 1, [], [false]⟩)]), ("__len__", [("History", ⟨("History", some "__len__"), 1, 1, [], [false]⟩)]), ("__getitem__", [("History", ⟨("History", some "__getitem__"), 3, 2, [], [false, false]⟩)]), ("__iter__", [("History", ⟨("History", some "__iter__"), 1, 1, [], [false]⟩)]), ("__add__", [("History", ⟨("History", some "__add__"), 2, 2, [], [false, false]⟩)])], [("at", ["Take", "Right"]), ("script", ["Move", "Begin", "Take", "Right", "Shut"]), ("amount", ["Begin", "Take", "Right"]), ("moves", ["History"])], [], ["abs", "all", "bool", "int", "isinstance", "len", "list", "max", "min", "range", "repr", "str", "tuple"], ["BookError", "InvalidMove", "InvalidText", "Move", "History"], ["Move", "Begin", "Take", "Right", "Shut", "History"], isiL, [("InvalidMove", "word")], ["InvalidMove"], [("InvalidMove", "InvalidMove", true)], false⟩
def FILE : Str := "/claim/cut.py"
theorem gs : GS G tbl := gsB_ok (by decide +kernel)
abbrev R : PySem.W.OpenRow := PySem.W.OpenLaw.row PySem.Challenge.rw_contrabooks_k05_histories_refused
def loose : List PySem.Str := (["BookError", "InvalidMove", "InvalidText", "DIGITS", "is_integer", "is_number", "is_amount", "is_sequence", "number_of", "Move", "Begin", "Take", "Right", "Shut", "amount_of", "move_of", "History", "_law_seed", "_law_choose", "_law_one_of", "_law_anything", "_law_any_move", "_law_made", "_law_refused"] : List PySem.Str) ++ (["_law_due"] : List PySem.Str)
theorem run (w : World) : HandSHeadRun.RunEq R (PySem.W.view R.prog [29]) (hkOf G tbl FILE) (obOf G tbl FILE) 6000 loose w := by
  intro os
  kernel_rfl
end K05
open PySem PySem.W PySem.Calls PyProof.Rows
theorem K05.law_of (m : Nat) (hm : m ≤ 40) (data : ∀ ns : List Int, ns.length ≤ 63 → ∃ b ios, DL.callD (DL.densOf K05.G K05.tbl) m ("law", none) [(false, DL.scr ns)] = .ret (b, .bl true) ios) : PySem.Challenge.rw_contrabooks_k05_histories_refused.Holds := by
  w_on; o_law
  refine HandSHeadRun.head_any (r := OpenLaw.row PySem.Challenge.rw_contrabooks_k05_histories_refused) (q := view (OpenLaw.row PySem.Challenge.rw_contrabooks_k05_histories_refused).prog [29]) (H := DL.hkOf K05.G K05.tbl K05.FILE) (ob := DL.obOf K05.G K05.tbl K05.FILE) (M := 6000) (loose := K05.loose) (d := HandSHeadRun.topDef (OpenLaw.row PySem.Challenge.rw_contrabooks_k05_histories_refused).prog 29) (kwd := []) (DL.obOf_eq K05.G K05.tbl K05.FILE)
    (by kernel_rfl) (fun s => by kernel_rfl) K05.run (by kernel_rfl) (by kernel_rfl) (by kernel_rfl) (by rfl) (by first | assumption | decide +kernel) (by decide +kernel) ⟨rfl, rfl, rfl, rfl, rfl, by decide +kernel⟩ ?hw ?hc
  case hw => w_witness2
  case hc =>
    have e : (HandSHeadRun.topDef (OpenLaw.row PySem.Challenge.rw_contrabooks_k05_histories_refused).prog 29).name = ("law" : PySem.Str) := by kernel_rfl
    exact DL.walk_data (l := PySem.Challenge.rw_contrabooks_k05_histories_refused) (G := K05.G) (tbl := K05.tbl) (dl := K05.d_law) (x := "_law_script") (file := K05.FILE) m ⟨by kernel_rfl, by kernel_rfl⟩ K05.gs (by first | exact List.mem_cons_self | decide +kernel | (unfold K05.tbl; simp)) (by rfl) (by rw [e]; rfl) (DL.gloB_ok (by rw [e]; decide +kernel)) (by rfl) (by rfl) (by rfl) (by kernel_rfl) (DL.room_m hm) data
set_option maxHeartbeats 0
namespace K05
open PySem PySem.Spec PyProof.Rows L2 DL
def n_law (G : Gm) (orc : Orc) : SDen :=
 (sSeq (sFor (iArgs range1F (aCons (dPN maxF (rVal (dC (.int 2)) (rVal (dPN minF (rVal (dC (.int 4)) (rVal (dLen (mtab G orc "__len__" 0) (.pk 0)) rNil))) rNil))) aNil)) (gNm 1)
 (sSeq (sAsg 2 (dCall (orc (("_law_seed" : PySem.Str), none)) (rDfl (rVal (dVar 0) (rVal (dVar 1) rNil)) [])))
 (sSeq (sFor (iArgs range1F (aCons (dC (.int 8)) aNil)) (gNm 3)
 (sSeq (sAsg 4 (dLc (iArgs range1F (aCons (dCall (orc (("_law_choose" : PySem.Str), none)) (rDfl (rLend 2 (rVal (dC (.int 5)) rNil)) [])) aNil)) (gNm 9) dYes (dCall (orc (("_law_made" : PySem.Str), none)) (rDfl (rVal (dCall (orc (("_law_any_move" : PySem.Str), none)) (rDfl (rLend 2 rNil) [])) rNil) [])) [9]))
 (sSeq (sAsg 5 (dCall (orc (("_law_choose" : PySem.Str), none)) (rDfl (rLend 2 (rVal (dP2 addF (.ex (dLen (mtab G orc "__len__" 0) (.pk 4))) (.ex (dC (.int 1)))) rNil)) [])))
 (sSeq (sAsg 6 (dLst (aCons (dCall (orc (("_law_anything" : PySem.Str), none)) (rDfl (rLend 2 (rVal (dC (.int 3)) rNil)) [])) (aCons (dC (.str "shut")) (aCons (dC (.str "begin 1")) (aCons (dVar 4) (aCons (dPN tupleF (rPk 4 rNil)) (aCons (dMake "History" (orc (("History" : PySem.Str), some ("__init__" : PySem.Str))) (rDfl (rVal (dVar 4) rNil) [])) (aCons (dC (.int 3)) (aCons (dC .non) aNil))))))))))
 (sSeq (sAsg 6 (dCall (orc (("_law_one_of" : PySem.Str), none)) (rDfl (rLend 2 (rVal (dVar 6) rNil)) [])))
 (sSeq (sAsg 7 (dLst (aCons (dVar 4) (aCons (dPN tupleF (rPk 4 rNil)) (aCons (dP2 addF (.ex (dP2 addF (.ex (dSlice (.pk 4) none (some (dVar 5)))) (.ex (dLst (aCons (dVar 6) aNil))))) (.ex (dSlice (.pk 4) (some (dVar 5)) none))) (aCons (dTup (aCons (dVar 6) aNil)) (aCons (dVar 6) (aCons (dMake "History" (orc (("History" : PySem.Str), some ("__init__" : PySem.Str))) (rDfl (rVal (dVar 4) rNil) [])) aNil))))))))
 (sSeq (sFor (iSeq (dP2 addF (.pk 7) (.ex (dLst (aCons (dCall (orc (("_law_anything" : PySem.Str), none)) (rDfl (rLend 2 (rVal (dC (.int 4)) rNil)) [])) aNil))))) (gNm 8)
 (sSeq (sIf (dTest (dP2 (eqF true) (.ex (dPN reprF (rVal (dCall (orc (("_law_refused" : PySem.Str), none)) (rDfl (rVal (dVar 8) rNil) [])) rNil))) (.ex (dPN reprF (rVal (dCall (orc (("_law_due" : PySem.Str), none)) (rDfl (rVal (dVar 8) rNil) [])) rNil)))))
 (sSeq (sRet (dC (.bl false)))
 sNx)
 sNx)
 sNx))
 sNx)))))))
 sNx)))
 (sSeq (sRet (dC (.bl true)))
 sNx))
theorem e_law : densOf G tbl (("law" : PySem.Str), none) = some (10, 1, n_law G) := by kernel_rfl
def n__law_seed (G : Gm) (orc : Orc) : SDen :=
 (sSeq (sAsg 2 (dP2 addF (.ex (dP2 mulF (.ex (dC (.int 7411))) (.pk 1))) (.ex (dC (.int 29)))))
 (sSeq (sIf (dTest (dP2 ltF (.pk 1) (.ex (dLen (mtab G orc "__len__" 0) (.pk 0)))))
 (sSeq (sAsg 2 (dPN absF (rVal (dP2 ixF (.pk 0) (.pk 1)) rNil)))
 sNx)
 (sSeq (sIf (dTest (dP2 gtF (.ex (dLen (mtab G orc "__len__" 0) (.pk 0))) (.ex (dC (.int 0)))))
 (sSeq (sAsg 2 (dP2 addF (.pk 2) (.ex (dP2 mulF (.ex (dP2 modF (.ex (dPN intF (rVal (dPN absF (rVal (dP2 ixF (.pk 0) (.ex (dP2 modF (.ex (dPN intF (rPk 1 rNil))) (.ex (dLen (mtab G orc "__len__" 0) (.pk 0)))))) rNil)) rNil))) (.ex (dC (.int 2147483629))))) (.ex (dC (.int 40093)))))))
 sNx)
 sNx)
 sNx))
 (sSeq (sRet (dLst (aCons (dIfE (dTest (dP2 geF (.pk 2) (.ex (dP2 powF (.ex (dC (.int 10))) (.ex (dC (.int 18))))))) (dVar 2) (dC (.int 0))) (aCons (dP2 addF (.ex (dP2 modF (.ex (dPN intF (rVal (dP2 addF (.ex (dP2 mulF (.ex (dP2 modF (.ex (dPN intF (rPk 2 rNil))) (.ex (dC (.int 2147483629))))) (.ex (dC (.int 48271))))) (.ex (dP2 mulF (.ex (dC (.int 20021))) (.pk 1)))) rNil))) (.ex (dC (.int 2147483629))))) (.ex (dC (.int 1)))) aNil))))
 sNx)))
theorem e__law_seed : densOf G tbl (("_law_seed" : PySem.Str), none) = some (3, 2, n__law_seed G) := by kernel_rfl
def n__law_choose (G : Gm) (orc : Orc) : SDen :=
 (sSeq (sIf (dTest (dP2 gtF (.ex (dP2 ixF (.pk 0) (.ex (dC (.int 0))))) (.ex (dC (.int 0)))))
 (sSeq (sAsg 3 (dP2 modF (.ex (dPN intF (rVal (dP2 ixF (.pk 0) (.ex (dC (.int 0)))) rNil))) (.pk 1)))
 (sSeq (sIx 0 (dC (.int 0)) (dP2 fdivF (.ex (dP2 ixF (.pk 0) (.ex (dC (.int 0))))) (.pk 1)))
 (sSeq (sRetV 3)
 sNx)))
 sNx)
 (sSeq (sAsg 2 (dP2 modF (.ex (dPN intF (rVal (dP2 addF (.ex (dP2 mulF (.ex (dP2 ixF (.pk 0) (.ex (dC (.int 1))))) (.ex (dC (.int 40014))))) (.ex (dC (.int 11)))) rNil))) (.ex (dC (.int 2147483563)))))
 (sSeq (sIx 0 (dC (.int 1)) (dP2 addF (.ex (dP2 modF (.ex (dPN intF (rVal (dP2 addF (.ex (dP2 mulF (.pk 2) (.ex (dC (.int 40692))))) (.ex (dC (.int 2903)))) rNil))) (.ex (dC (.int 2147483629))))) (.ex (dC (.int 1)))))
 (sSeq (sRet (dP2 modF (.ex (dPN intF (rVal (dP2 fdivF (.ex (dP2 addF (.ex (dP2 mulF (.pk 2) (.ex (dC (.int 2147483647))))) (.ex (dP2 ixF (.pk 0) (.ex (dC (.int 1))))))) (.ex (dC (.int 8191)))) rNil))) (.pk 1)))
 sNx))))
theorem e__law_choose : densOf G tbl (("_law_choose" : PySem.Str), none) = some (4, 2, n__law_choose G) := by kernel_rfl
def n__law_one_of (G : Gm) (orc : Orc) : SDen :=
 (sSeq (sRet (dP2 ixF (.pk 1) (.ex (dCall (orc (("_law_choose" : PySem.Str), none)) (rDfl (rLend 0 (rVal (dLen (mtab G orc "__len__" 0) (.pk 1)) rNil)) [])))))
 sNx)
theorem e__law_one_of : densOf G tbl (("_law_one_of" : PySem.Str), none) = some (2, 2, n__law_one_of G) := by kernel_rfl
def n__law_made (G : Gm) (orc : Orc) : SDen :=
 (sSeq (sIf (dTest (dP2 (eqF false) (.ex (dP2 ixF (.pk 0) (.ex (dC (.int 0))))) (.ex (dC (.str "begin")))))
 (sSeq (sRet (dMake "Begin" (orc (("Begin" : PySem.Str), some ("__init__" : PySem.Str))) (rDfl (rVal (dP2 ixF (.pk 0) (.ex (dC (.int 1)))) rNil) [])))
 sNx)
 sNx)
 (sSeq (sIf (dTest (dP2 (eqF false) (.ex (dP2 ixF (.pk 0) (.ex (dC (.int 0))))) (.ex (dC (.str "shut")))))
 (sSeq (sRet (dMake "Shut" (orc (("Shut" : PySem.Str), some ("__init__" : PySem.Str))) (rDfl rNil [])))
 sNx)
 sNx)
 (sSeq (sIf (dTest (dP2 (eqF false) (.ex (dP2 ixF (.pk 0) (.ex (dC (.int 0))))) (.ex (dC (.str "right")))))
 (sSeq (sRet (dMake "Right" (orc (("Right" : PySem.Str), some ("__init__" : PySem.Str))) (rDfl (rVal (dP2 ixF (.pk 0) (.ex (dC (.int 1)))) (rVal (dP2 ixF (.pk 0) (.ex (dC (.int 2)))) rNil)) [])))
 sNx)
 sNx)
 (sSeq (sRet (dIfE (dTest (dP2 (eqF false) (.ex (dP2 ixF (.pk 0) (.ex (dC (.int 2))))) (.ex (dC (.int 0))))) (dMake "Take" (orc (("Take" : PySem.Str), some ("__init__" : PySem.Str))) (rDfl (rVal (dP2 ixF (.pk 0) (.ex (dC (.int 1)))) rNil) [.non])) (dMake "Take" (orc (("Take" : PySem.Str), some ("__init__" : PySem.Str))) (rDfl (rVal (dP2 ixF (.pk 0) (.ex (dC (.int 1)))) (rVal (dP2 ixF (.pk 0) (.ex (dC (.int 2)))) rNil)) []))))
 sNx))))
theorem e__law_made : densOf G tbl (("_law_made" : PySem.Str), none) = some (1, 1, n__law_made G) := by kernel_rfl
def n__law_anything (G : Gm) (orc : Orc) : SDen :=
 (sSeq (sAsg 2 (dCall (orc (("_law_choose" : PySem.Str), none)) (rDfl (rLend 0 (rVal (dC (.int 8)) rNil)) [])))
 (sSeq (sIf (dOr (dTest (dP2 ltF (.pk 1) (.ex (dC (.int 1))))) (dTest (dP2 ltF (.pk 2) (.ex (dC (.int 5))))))
 (sSeq (sAsg 4 (dLst (aCons (dC .non) (aCons (dC (.bl true)) (aCons (dC (.bl false)) (aCons (dC (.int 0)) (aCons (dC (.int 1)) (aCons (dC (.int 7)) (aCons (dP1 negF (.ex (dC (.int 1)))) (aCons (dP2 powF (.ex (dC (.int 10))) (.ex (dC (.int 20)))) (aCons (dC (.str "")) (aCons (dC (.str "begin 1")) (aCons (dC (.str "take")) (aCons (dTup aNil) (aCons (dLst aNil) (aCons (dC (.str "3")) (aCons (dTup (aCons (dC (.str "shut")) aNil)) aNil)))))))))))))))))
 (sSeq (sRet (dCall (orc (("_law_one_of" : PySem.Str), none)) (rDfl (rLend 0 (rVal (dVar 4) rNil)) [])))
 sNx))
 sNx)
 (sSeq (sAsg 3 (dLc (iArgs range1F (aCons (dCall (orc (("_law_choose" : PySem.Str), none)) (rDfl (rLend 0 (rVal (dC (.int 4)) rNil)) [])) aNil)) (gNm 5) dYes (dCall (orc (("_law_anything" : PySem.Str), none)) (rDfl (rLend 0 (rVal (dP2 subF (.pk 1) (.ex (dC (.int 1)))) rNil)) [])) [5]))
 (sSeq (sRet (dIfE (dTest (dP2 ltF (.pk 2) (.ex (dC (.int 7))))) (dPN tupleF (rPk 3 rNil)) (dVar 3)))
 sNx))))
theorem e__law_anything : densOf G tbl (("_law_anything" : PySem.Str), none) = some (6, 2, n__law_anything G) := by kernel_rfl
def n_History_init (G : Gm) (orc : Orc) : SDen :=
 (sSeq (sIf (dOr (dNot (dTru (dCall (orc (("is_sequence" : PySem.Str), none)) (rDfl (rVal (dVar 1) rNil) [])))) (dNot (dTru (dPN allF (rVal (dLc (iSeq (dVar 1)) (gNm 2) dYes (dP1 (isiF (tabI G) (okT G) [.own "Move"]) (.pk 2)) [2]) rNil)))))
 (sSeq (sRaise "InvalidMove" "word" (dC (.str "moves")))
 sNx)
 sNx)
 (sSeq (sSetF 0 (okF G "moves") "moves" (dPN tupleF (rPk 1 rNil)))
 sNx))
theorem e_History_init : densOf G tbl (("History" : PySem.Str), some ("__init__" : PySem.Str)) = some (3, 2, n_History_init G) := by kernel_rfl
def n_History_eq (G : Gm) (orc : Orc) : SDen :=
 (sSeq (sRet (dAndV (dP1 (isiF (tabI G) (okT G) [.own "History"]) (.pk 1)) (dP2 (eqF false) (.ex (dP1 (fldF (okF G "moves") "moves") (.pk 0))) (.ex (dP1 (fldF (okF G "moves") "moves") (.pk 1))))))
 sNx)
theorem e_History_eq : densOf G tbl (("History" : PySem.Str), some ("__eq__" : PySem.Str)) = some (2, 2, n_History_eq G) := by kernel_rfl
def n_History_str (G : Gm) (orc : Orc) : SDen :=
 (sSeq (sRet (dMeth "join" (mtab G orc "join" 1) (dC (.str "; ")) (rVal (dLc (iSeq (dP1 (fldF (okF G "moves") "moves") (.pk 0))) (gNm 1) dYes (dStr (mtab G orc "__str__" 0) (dVar 1)) [1]) rNil)))
 sNx)
theorem e_History_str : densOf G tbl (("History" : PySem.Str), some ("__str__" : PySem.Str)) = some (2, 1, n_History_str G) := by kernel_rfl
def n_History_len (G : Gm) (orc : Orc) : SDen :=
 (sSeq (sRet (dLen (mtab G orc "__len__" 0) (.ex (dP1 (fldF (okF G "moves") "moves") (.pk 0)))))
 sNx)
theorem e_History_len : densOf G tbl (("History" : PySem.Str), some ("__len__" : PySem.Str)) = some (1, 1, n_History_len G) := by kernel_rfl
def n_History_getitem (G : Gm) (orc : Orc) : SDen :=
 (sSeq (sAsg 2 (dP2 ixF (.ex (dP1 (fldF (okF G "moves") "moves") (.pk 0))) (.pk 1)))
 (sSeq (sRet (dIfE (dTru (dP1 (isiF (tabI G) (okT G) [.ty "tuple"]) (.pk 2))) (dMake "History" (orc (("History" : PySem.Str), some ("__init__" : PySem.Str))) (rDfl (rVal (dVar 2) rNil) [])) (dVar 2)))
 sNx))
theorem e_History_getitem : densOf G tbl (("History" : PySem.Str), some ("__getitem__" : PySem.Str)) = some (3, 2, n_History_getitem G) := by kernel_rfl
def n_History_iter (G : Gm) (orc : Orc) : SDen :=
 (sSeq sSt
 sNx)
theorem e_History_iter : densOf G tbl (("History" : PySem.Str), some ("__iter__" : PySem.Str)) = some (1, 1, n_History_iter G) := by kernel_rfl
def n_History_add (G : Gm) (orc : Orc) : SDen :=
 (sSeq (sIf (dTru (dP1 (isiF (tabI G) (okT G) [.own "Move"]) (.pk 1)))
 (sSeq (sRet (dMake "History" (orc (("History" : PySem.Str), some ("__init__" : PySem.Str))) (rDfl (rVal (dTup aSt) rNil) [])))
 sNx)
 sNx)
 (sSeq (sIf (dNot (dTru (dP1 (isiF (tabI G) (okT G) [.own "History"]) (.pk 1))))
 (sSeq (sRet dSt)
 sNx)
 sNx)
 (sSeq (sRet (dMake "History" (orc (("History" : PySem.Str), some ("__init__" : PySem.Str))) (rDfl (rVal (dP2 addF (.ex (dP1 (fldF (okF G "moves") "moves") (.pk 0))) (.ex (dP1 (fldF (okF G "moves") "moves") (.pk 1)))) rNil) [])))
 sNx)))
theorem e_History_add : densOf G tbl (("History" : PySem.Str), some ("__add__" : PySem.Str)) = some (2, 2, n_History_add G) := by kernel_rfl
def n__law_any_move (G : Gm) (orc : Orc) : SDen :=
 (sSeq (sPar2 2 3 (aCons (dCall (orc (("_law_choose" : PySem.Str), none)) (rDfl (rLend 0 (rVal (dC (.int 5)) rNil)) [])) (aCons (dCall (orc (("_law_choose" : PySem.Str), none)) (rDfl (rLend 0 (rVal (dP2 ixF (.ex (dLst (aCons (dC (.int 3)) (aCons (dC (.int 12)) (aCons (dP2 powF (.ex (dC (.int 10))) (.ex (dC (.int 9)))) aNil))))) (.ex (dCall (orc (("_law_choose" : PySem.Str), none)) (rDfl (rLend 0 (rVal (dC (.int 3)) rNil)) [])))) rNil)) [])) aNil)))
 (sSeq (sAsg 1 (dP2 addF (.ex (dC (.int 1))) (.ex (dCall (orc (("_law_choose" : PySem.Str), none)) (rDfl (rLend 0 (rVal (dP2 ixF (.ex (dLst (aCons (dC (.int 3)) (aCons (dC (.int 99)) (aCons (dP2 powF (.ex (dC (.int 10))) (.ex (dC (.int 12)))) aNil))))) (.ex (dCall (orc (("_law_choose" : PySem.Str), none)) (rDfl (rLend 0 (rVal (dC (.int 3)) rNil)) [])))) rNil)) [])))))
 (sSeq (sRet (dP2 ixF (.ex (dLst (aCons (dTup (aCons (dC (.str "begin")) (aCons (dVar 1) aNil))) (aCons (dTup (aCons (dC (.str "take")) (aCons (dVar 3) (aCons (dC (.int 0)) aNil)))) (aCons (dTup (aCons (dC (.str "take")) (aCons (dVar 3) (aCons (dVar 1) aNil)))) (aCons (dTup (aCons (dC (.str "right")) (aCons (dVar 3) (aCons (dVar 1) aNil)))) (aCons (dTup (aCons (dC (.str "shut")) aNil)) aNil))))))) (.pk 2)))
 sNx)))
theorem e__law_any_move : densOf G tbl (("_law_any_move" : PySem.Str), none) = some (4, 1, n__law_any_move G) := by kernel_rfl
def n__law_refused (G : Gm) (orc : Orc) : SDen :=
 (sSeq (sAsg 1 (dC .non))
 (sSeq (sTry (sSeq (sAsg 1 (dLen (mtab G orc "__len__" 0) (.ex (dMake "History" (orc (("History" : PySem.Str), some ("__init__" : PySem.Str))) (rDfl (rVal (dVar 0) rNil) [])))))
 sNx) (catX G "InvalidMove") (some 2)
 (sSeq (sAsg 1 (dIfE (dAnd (dTru (dXi (okX G) (tabI G) 2 [.own "BookError"] (dP1 (isiF (tabI G) (okT G) [.own "BookError"]) (.pk 2)))) (dNot (dTru (dXi (okX G) (tabI G) 2 [.own "InvalidText"] (dP1 (isiF (tabI G) (okT G) [.own "InvalidText"]) (.pk 2)))))) (dXf (okXf G "word") 2 "word" (dP1 (fldF (okF G "word") "word") (.pk 2))) (dC (.str "odd"))))
 sNx))
 (sSeq (sRetV 1)
 sNx)))
theorem e__law_refused : densOf G tbl (("_law_refused" : PySem.Str), none) = some (3, 1, n__law_refused G) := by kernel_rfl
def n__law_due (G : Gm) (orc : Orc) : SDen :=
 (sSeq (sIf (dNot (dTru (dP1 (isiF (tabI G) (okT G) [.ty "list", .ty "tuple"]) (.pk 0))))
 (sSeq (sRet (dC (.str "moves")))
 sNx)
 sNx)
 (sSeq (sRet (dIfE (dTest (dP2 (eqF true) (.ex (dLc (iSeq (dVar 0)) (gNm 1) (dNot (dTru (dP1 (isiF (tabI G) (okT G) [.own "Move"]) (.pk 1)))) (dVar 1) [1])) (.ex (dLst aNil)))) (dC (.str "moves")) (dLen (mtab G orc "__len__" 0) (.pk 0))))
 sNx))
theorem e__law_due : densOf G tbl (("_law_due" : PySem.Str), none) = some (2, 1, n__law_due G) := by kernel_rfl
def n_Begin_init (G : Gm) (orc : Orc) : SDen :=
 (sSeq (sIf (dNot (dTru (dCall (orc (("is_amount" : PySem.Str), none)) (rDfl (rVal (dVar 1) rNil) []))))
 (sSeq (sRaise "InvalidMove" "word" (dC (.str "amount")))
 sNx)
 sNx)
 (sSeq (sSup "Begin" (orc (("Move" : PySem.Str), some ("__init__" : PySem.Str))) (rVal (joinGo [(dC (.str "begin ")), (dFmt (dVar 1))] Str.empty) rNil) [])
 (sSeq (sSetF 0 (okF G "amount") "amount" (dVar 1))
 sNx)))
theorem e_Begin_init : densOf G tbl (("Begin" : PySem.Str), some ("__init__" : PySem.Str)) = some (3, 2, n_Begin_init G) := by kernel_rfl
def n_Move_init (G : Gm) (orc : Orc) : SDen :=
 (sSeq (sSetF 0 (okF G "script") "script" (dVar 1))
 sNx)
theorem e_Move_init : densOf G tbl (("Move" : PySem.Str), some ("__init__" : PySem.Str)) = some (2, 2, n_Move_init G) := by kernel_rfl
def n_Move_eq (G : Gm) (orc : Orc) : SDen :=
 (sSeq (sRet (dAndV (dP1 (isiF (tabI G) (okT G) [.own "Move"]) (.pk 1)) (dP2 (eqF false) (.ex (dP1 (fldF (okF G "script") "script") (.pk 0))) (.ex (dP1 (fldF (okF G "script") "script") (.pk 1))))))
 sNx)
theorem e_Move_eq : densOf G tbl (("Move" : PySem.Str), some ("__eq__" : PySem.Str)) = some (2, 2, n_Move_eq G) := by kernel_rfl
def n_Move_str (G : Gm) (orc : Orc) : SDen :=
 (sSeq (sRet (dFmt (dP1 (fldF (okF G "script") "script") (.pk 0))))
 sNx)
theorem e_Move_str : densOf G tbl (("Move" : PySem.Str), some ("__str__" : PySem.Str)) = some (1, 1, n_Move_str G) := by kernel_rfl
def n_Shut_init (G : Gm) (orc : Orc) : SDen :=
 (sSeq (sSup "Shut" (orc (("Move" : PySem.Str), some ("__init__" : PySem.Str))) (rVal (dC (.str "shut")) rNil) [])
 sNx)
theorem e_Shut_init : densOf G tbl (("Shut" : PySem.Str), some ("__init__" : PySem.Str)) = some (2, 1, n_Shut_init G) := by kernel_rfl
def n_Right_init (G : Gm) (orc : Orc) : SDen :=
 (sSeq (sIf (dNot (dTru (dCall (orc (("is_number" : PySem.Str), none)) (rDfl (rVal (dVar 1) rNil) []))))
 (sSeq (sRaise "InvalidMove" "word" (dC (.str "at")))
 sNx)
 sNx)
 (sSeq (sIf (dNot (dTru (dCall (orc (("is_amount" : PySem.Str), none)) (rDfl (rVal (dVar 2) rNil) []))))
 (sSeq (sRaise "InvalidMove" "word" (dC (.str "amount")))
 sNx)
 sNx)
 (sSeq (sSup "Right" (orc (("Move" : PySem.Str), some ("__init__" : PySem.Str))) (rVal (joinGo [(dC (.str "right ")), (dFmt (dVar 1)), (dC (.str " to ")), (dFmt (dVar 2))] Str.empty) rNil) [])
 (sSeq (sSetF 0 (okF G "at") "at" (dVar 1))
 (sSeq (sSetF 0 (okF G "amount") "amount" (dVar 2))
 sNx)))))
theorem e_Right_init : densOf G tbl (("Right" : PySem.Str), some ("__init__" : PySem.Str)) = some (4, 3, n_Right_init G) := by kernel_rfl
def n_Take_init (G : Gm) (orc : Orc) : SDen :=
 (sSeq (sIf (dNot (dTru (dCall (orc (("is_number" : PySem.Str), none)) (rDfl (rVal (dVar 1) rNil) []))))
 (sSeq (sRaise "InvalidMove" "word" (dC (.str "at")))
 sNx)
 sNx)
 (sSeq (sIf (dAnd (dTest (dP2 (isF true) (.pk 2) (.ex (dC .non)))) (dNot (dTru (dCall (orc (("is_amount" : PySem.Str), none)) (rDfl (rVal (dVar 2) rNil) [])))))
 (sSeq (sRaise "InvalidMove" "word" (dC (.str "amount")))
 sNx)
 sNx)
 (sSeq (sSup "Take" (orc (("Move" : PySem.Str), some ("__init__" : PySem.Str))) (rVal (dIfE (dTest (dP2 (isF false) (.pk 2) (.ex (dC .non)))) (joinGo [(dC (.str "take ")), (dFmt (dVar 1))] Str.empty) (joinGo [(dC (.str "take ")), (dFmt (dVar 1)), (dC (.str " by ")), (dFmt (dVar 2))] Str.empty)) rNil) [])
 (sSeq (sSetF 0 (okF G "at") "at" (dVar 1))
 (sSeq (sSetF 0 (okF G "amount") "amount" (dVar 2))
 sNx)))))
theorem e_Take_init : densOf G tbl (("Take" : PySem.Str), some ("__init__" : PySem.Str)) = some (4, 3, n_Take_init G) := by kernel_rfl
def n_is_sequence (G : Gm) (orc : Orc) : SDen :=
 (sSeq (sRet (dP1 (isiF (tabI G) (okT G) [.ty "list", .ty "tuple"]) (.pk 0)))
 sNx)
theorem e_is_sequence : densOf G tbl (("is_sequence" : PySem.Str), none) = some (1, 1, n_is_sequence G) := by kernel_rfl
def n_is_amount (G : Gm) (orc : Orc) : SDen :=
 (sSeq (sRet (dAndV (dCall (orc (("is_integer" : PySem.Str), none)) (rDfl (rVal (dVar 0) rNil) [])) (dP2 geF (.pk 0) (.ex (dC (.int 1))))))
 sNx)
theorem e_is_amount : densOf G tbl (("is_amount" : PySem.Str), none) = some (1, 1, n_is_amount G) := by kernel_rfl
def n_is_number (G : Gm) (orc : Orc) : SDen :=
 (sSeq (sRet (dAndV (dCall (orc (("is_integer" : PySem.Str), none)) (rDfl (rVal (dVar 0) rNil) [])) (dP2 geF (.pk 0) (.ex (dC (.int 0))))))
 sNx)
theorem e_is_number : densOf G tbl (("is_number" : PySem.Str), none) = some (1, 1, n_is_number G) := by kernel_rfl
def n_is_integer (G : Gm) (orc : Orc) : SDen :=
 (sSeq (sRet (dAndV (dP1 (isiF (tabI G) (okT G) [.ty "int"]) (.pk 0)) (dNotV (dP1 (isiF (tabI G) (okT G) [.ty "bool"]) (.pk 0)))))
 sNx)
theorem e_is_integer : densOf G tbl (("is_integer" : PySem.Str), none) = some (1, 1, n_is_integer G) := by kernel_rfl

end K05
set_option maxHeartbeats 8000000
namespace K05
open PySem PySem.Spec PyProof.Rows L2 DL
abbrev dn := densOf G tbl
theorem RR : DrawM G dn := { choose := by kernel_rfl, one := by kernel_rfl, seed := by kernel_rfl, integer := by kernel_rfl, number := by kernel_rfl, amount := by kernel_rfl, sB := by kernel_rfl, sT := by kernel_rfl, sR := by kernel_rfl, sS := by kernel_rfl, aB := by kernel_rfl, aT := by kernel_rfl, aR := by kernel_rfl, tT := by kernel_rfl, tR := by kernel_rfl, xB := fun _ => by kernel_rfl, xT := fun _ => by kernel_rfl, xR := fun _ => by kernel_rfl, xS := fun _ => by kernel_rfl, mInit := by kernel_rfl, mStr := by kernel_rfl, begin := by kernel_rfl, take := by kernel_rfl, right := by kernel_rfl, shut := by kernel_rfl, anym := by kernel_rfl, made := by kernel_rfl }
/-! ### values -/
def kn (c : Str) : Prop := c = "Begin" ∨ c = "Take" ∨ c = "Right" ∨ c = "Shut" ∨ c = "History"
def vtop : D → Prop
  | .obj c _ => kn c
  | .rol _ => False
  | _ => True
def items : D → List D
  | .lst ds => ds
  | .tup ds => ds
  | _ => []
def vok (d : D) : Prop := vtop d ∧ (∀ x ∈ items d, vtop x) ∧ (items d).length ≤ 100
def isMv : D → Bool
  | .obj c _ => decide (c ≠ "History")
  | _ => false
def isSq : D → Bool
  | .lst _ => true
  | .tup _ => true
  | _ => false
theorem isi_Move {d : D} (h : vtop d) : isiF (tabI G) (okT G) [.own "Move"] d = some (false, .bl (isMv d)) := by
  cases d with
  | obj c fs => rcases h with rfl | rfl | rfl | rfl | rfl <;> kernel_rfl
  | rol _ => exact h.elim
  | _ => kernel_rfl
theorem isi_Seq {d : D} (h : vtop d) : isiF (tabI G) (okT G) [.ty "list", .ty "tuple"] d = some (false, .bl (isSq d)) := by
  cases d with
  | obj c fs => rcases h with rfl | rfl | rfl | rfl | rfl <;> kernel_rfl
  | rol _ => exact h.elim
  | _ => kernel_rfl
/-- how many moves, or the word -/
def res (d : D) : D := if isSq d && (items d).all isMv then .int (items d).length else .str "moves"
section
variable {m : Nat} {q : Kc W} {x : Kc Ex} {d : D}
theorem seq_ok (hd : vtop d) (h : q.run (false, .bl (isSq d)) []) : wpC (callD dn (m + 1) (("is_sequence" : PySem.Str), none) [(false, d)]) := by
  rw [w_run e_is_sequence rfl]
  unfold n_is_sequence
  simp only [w_C, w_Var, w_retO, w_bindE, w_evEx, w_evPk, argDat_val, argDat_lend, w_retF, w_retF1, w_P2, w_P1, w_Chain, w_ChainM, w_IfE, w_AndV, w_OrV, w_NotV, w_Tup, w_Lst, w_Slice, w_SliceM, w_evPn, w_evPs, w_PN, w_Call, w_Make, w_makeO, w_Meth, w_Len, w_lenK, w_Str, w_Fmt, w_Join0, w_Join, w_Xf, w_Xi, w_Lc, w_Tru, w_Test, w_And, w_Or, w_Not, w_aNil, w_aCons, w_rNil, w_rVal, w_rLend, w_rPk, w_rDfl, w_rSelf, w_iArgs, w_iSeq, w_Seq, thenS_nx, thenS_rt, thenS_bk, thenS_ct, w_Nx, w_Ret, w_RetN, w_RetV, w_Expr, w_nxO, w_Asg, w_If, w_Unp, w_mutS, w_SetF, w_App, w_Ix, w_Par2, w_Raise, w_Try, w_Try0, w_For, w_Sup, endQ_nx, endQ_rt, sat_some, sat_none, sat_ite, sat_map, sat_bind, selO_some, selO_none, sel_true, sel_false, sel_not, wp_ok, wp_ex, wp_st, wp_ite, f_lt, f_le, f_gt, f_ge, f_add, f_sub, f_mul, f_mod, f_fdiv, f_neg, f_p6, f_p9, f_p12, f_p18, f_p20, f_p30, f_int, f_abs, f_max, f_min, f_sqL, f_sqT, f_sqR, f_lenL, f_lenT, f_lenR, f_at20, f_at21, f_set20, f_set21, f_t10, f_t20, f_t21, f_t30, f_t31, f_t32, f_t40, f_t41, f_t42, f_t43, f_eqI, f_eqS, f_isN, w_Yes, o_lend, o_lst, o_tup, o_rol, o_str, o_obj, startE, pslot, putS_eq, isIo_un, isIo_fz, isIo_ow, isIo_xc, isIo_io, slotOf, slotData, setData, putIos, iosOf, lends, argsD, argD, isLst, asB, asI, newO_ok, newX_ok, asObj, asNil, asS, gNm, gsNil, gsCons, gTu, wipeE, backE, ownFree, isCls0, appF, bareX, clrX, List.map_cons, List.map_nil, List.length_cons, List.length_nil, List.replicate_succ, List.replicate_zero, List.cons_append, List.nil_append, List.append_nil, List.getElem?_cons_zero, List.getElem?_cons_succ, List.getElem?_nil, List.set_cons_zero, List.set_cons_succ, Option.bind_some, Option.bind_none, Option.map_some, Option.map_none, Option.getD_some, Option.getD_none, sz, Nat.reduceLeDiff, Int.reduceLT, Int.reduceLE, decide_true, decide_false, Int.reduceBEq, Int.reduceBNe, Bool.false_eq_true, if_false, if_true, Bool.false_xor, Bool.true_xor, Bool.not_true, Bool.not_false, Bool.not_not, Nat.reduceSub, Nat.reduceAdd, List.nodup_cons, List.nodup_nil, List.not_mem_nil, List.mem_cons, not_false_eq_true, and_self, true_and, and_true, List.all_cons, List.all_nil, Bool.and_true, Bool.true_and, isi_Seq hd]
  exact h
theorem seqOf_ok (h : isSq d = true) : seqOf d = some (items d) := by cases d <;> first | rfl | cases h
theorem okM : okF G "moves" "History" = true := by kernel_rfl
theorem allBls_map {f : D → Bool} : ∀ ds : List D, allBls (ds.map fun d => .bl (f d)) = some (ds.map f)
  | [] => rfl
  | d :: r => by
    show (allBls (r.map fun d => .bl (f d))).map (f d :: ·) = _
    rw [allBls_map r]
    rfl
theorem tupleF_ok (h : isSq d = true) : tupleF [d] = some (false, .tup (items d)) := by cases d <;> first | rfl | cases h
abbrev oHist (ds : List D) : D := .obj "History" [("moves", .tup ds)]
theorem hist_ok (hd : vok d) (h1 : isSq d = true → (items d).all isMv = true → q.run (false, .non) [oHist (items d)]) (h2 : (isSq d && (items d).all isMv) = false → x.run ⟨"InvalidMove", [("word", .str "moves")]⟩ [.obj "History" []]) :
    wpC (callD dn (m + 2) (("History" : PySem.Str), some ("__init__" : PySem.Str)) [(true, .obj "History" []), (false, d)]) := by
  obtain ⟨v1, v2, v3⟩ := hd
  rw [w_run e_History_init rfl]
  unfold n_History_init
  simp only [w_C, w_Var, w_retO, w_bindE, w_evEx, w_evPk, argDat_val, argDat_lend, w_retF, w_retF1, w_P2, w_P1, w_Chain, w_ChainM, w_IfE, w_AndV, w_OrV, w_NotV, w_Tup, w_Lst, w_Slice, w_SliceM, w_evPn, w_evPs, w_PN, w_Call, w_Make, w_makeO, w_Meth, w_Len, w_lenK, w_Str, w_Fmt, w_Join0, w_Join, w_Xf, w_Xi, w_Lc, w_Tru, w_Test, w_And, w_Or, w_Not, w_aNil, w_aCons, w_rNil, w_rVal, w_rLend, w_rPk, w_rDfl, w_rSelf, w_iArgs, w_iSeq, w_Seq, thenS_nx, thenS_rt, thenS_bk, thenS_ct, w_Nx, w_Ret, w_RetN, w_RetV, w_Expr, w_nxO, w_Asg, w_If, w_Unp, w_mutS, w_SetF, w_App, w_Ix, w_Par2, w_Raise, w_Try, w_Try0, w_For, w_Sup, endQ_nx, endQ_rt, sat_some, sat_none, sat_ite, sat_map, sat_bind, selO_some, selO_none, sel_true, sel_false, sel_not, wp_ok, wp_ex, wp_st, wp_ite, f_lt, f_le, f_gt, f_ge, f_add, f_sub, f_mul, f_mod, f_fdiv, f_neg, f_p6, f_p9, f_p12, f_p18, f_p20, f_p30, f_int, f_abs, f_max, f_min, f_sqL, f_sqT, f_sqR, f_lenL, f_lenT, f_lenR, f_at20, f_at21, f_set20, f_set21, f_t10, f_t20, f_t21, f_t30, f_t31, f_t32, f_t40, f_t41, f_t42, f_t43, f_eqI, f_eqS, f_isN, w_Yes, o_lend, o_lst, o_tup, o_rol, o_str, o_obj, startE, pslot, putS_eq, isIo_un, isIo_fz, isIo_ow, isIo_xc, isIo_io, slotOf, slotData, setData, putIos, iosOf, lends, argsD, argD, isLst, asB, asI, newO_ok, newX_ok, asObj, asNil, asS, gNm, gsNil, gsCons, gTu, wipeE, backE, ownFree, isCls0, appF, bareX, clrX, List.map_cons, List.map_nil, List.length_cons, List.length_nil, List.replicate_succ, List.replicate_zero, List.cons_append, List.nil_append, List.append_nil, List.getElem?_cons_zero, List.getElem?_cons_succ, List.getElem?_nil, List.set_cons_zero, List.set_cons_succ, Option.bind_some, Option.bind_none, Option.map_some, Option.map_none, Option.getD_some, Option.getD_none, sz, Nat.reduceLeDiff, Int.reduceLT, Int.reduceLE, decide_true, decide_false, Int.reduceBEq, Int.reduceBNe, Bool.false_eq_true, if_false, if_true, Bool.false_xor, Bool.true_xor, Bool.not_true, Bool.not_false, Bool.not_not, Nat.reduceSub, Nat.reduceAdd, List.nodup_cons, List.nodup_nil, List.not_mem_nil, List.mem_cons, not_false_eq_true, and_self, true_and, and_true, List.all_cons, List.all_nil, Bool.and_true, Bool.true_and]
  refine seq_ok v1 ?_
  simp only [w_C, w_Var, w_retO, w_bindE, w_evEx, w_evPk, argDat_val, argDat_lend, w_retF, w_retF1, w_P2, w_P1, w_Chain, w_ChainM, w_IfE, w_AndV, w_OrV, w_NotV, w_Tup, w_Lst, w_Slice, w_SliceM, w_evPn, w_evPs, w_PN, w_Call, w_Make, w_makeO, w_Meth, w_Len, w_lenK, w_Str, w_Fmt, w_Join0, w_Join, w_Xf, w_Xi, w_Lc, w_Tru, w_Test, w_And, w_Or, w_Not, w_aNil, w_aCons, w_rNil, w_rVal, w_rLend, w_rPk, w_rDfl, w_rSelf, w_iArgs, w_iSeq, w_Seq, thenS_nx, thenS_rt, thenS_bk, thenS_ct, w_Nx, w_Ret, w_RetN, w_RetV, w_Expr, w_nxO, w_Asg, w_If, w_Unp, w_mutS, w_SetF, w_App, w_Ix, w_Par2, w_Raise, w_Try, w_Try0, w_For, w_Sup, endQ_nx, endQ_rt, sat_some, sat_none, sat_ite, sat_map, sat_bind, selO_some, selO_none, sel_true, sel_false, sel_not, wp_ok, wp_ex, wp_st, wp_ite, f_lt, f_le, f_gt, f_ge, f_add, f_sub, f_mul, f_mod, f_fdiv, f_neg, f_p6, f_p9, f_p12, f_p18, f_p20, f_p30, f_int, f_abs, f_max, f_min, f_sqL, f_sqT, f_sqR, f_lenL, f_lenT, f_lenR, f_at20, f_at21, f_set20, f_set21, f_t10, f_t20, f_t21, f_t30, f_t31, f_t32, f_t40, f_t41, f_t42, f_t43, f_eqI, f_eqS, f_isN, w_Yes, o_lend, o_lst, o_tup, o_rol, o_str, o_obj, startE, pslot, putS_eq, isIo_un, isIo_fz, isIo_ow, isIo_xc, isIo_io, slotOf, slotData, setData, putIos, iosOf, lends, argsD, argD, isLst, asB, asI, newO_ok, newX_ok, asObj, asNil, asS, gNm, gsNil, gsCons, gTu, wipeE, backE, ownFree, isCls0, appF, bareX, clrX, List.map_cons, List.map_nil, List.length_cons, List.length_nil, List.replicate_succ, List.replicate_zero, List.cons_append, List.nil_append, List.append_nil, List.getElem?_cons_zero, List.getElem?_cons_succ, List.getElem?_nil, List.set_cons_zero, List.set_cons_succ, Option.bind_some, Option.bind_none, Option.map_some, Option.map_none, Option.getD_some, Option.getD_none, sz, Nat.reduceLeDiff, Int.reduceLT, Int.reduceLE, decide_true, decide_false, Int.reduceBEq, Int.reduceBNe, Bool.false_eq_true, if_false, if_true, Bool.false_xor, Bool.true_xor, Bool.not_true, Bool.not_false, Bool.not_not, Nat.reduceSub, Nat.reduceAdd, List.nodup_cons, List.nodup_nil, List.not_mem_nil, List.mem_cons, not_false_eq_true, and_self, true_and, and_true, List.all_cons, List.all_nil, Bool.and_true, Bool.true_and, tru]
  refine sel_in (fun hs => ?_) (fun hs => ?_)
  · simp only [w_C, w_Var, w_retO, w_bindE, w_evEx, w_evPk, argDat_val, argDat_lend, w_retF, w_retF1, w_P2, w_P1, w_Chain, w_ChainM, w_IfE, w_AndV, w_OrV, w_NotV, w_Tup, w_Lst, w_Slice, w_SliceM, w_evPn, w_evPs, w_PN, w_Call, w_Make, w_makeO, w_Meth, w_Len, w_lenK, w_Str, w_Fmt, w_Join0, w_Join, w_Xf, w_Xi, w_Lc, w_Tru, w_Test, w_And, w_Or, w_Not, w_aNil, w_aCons, w_rNil, w_rVal, w_rLend, w_rPk, w_rDfl, w_rSelf, w_iArgs, w_iSeq, w_Seq, thenS_nx, thenS_rt, thenS_bk, thenS_ct, w_Nx, w_Ret, w_RetN, w_RetV, w_Expr, w_nxO, w_Asg, w_If, w_Unp, w_mutS, w_SetF, w_App, w_Ix, w_Par2, w_Raise, w_Try, w_Try0, w_For, w_Sup, endQ_nx, endQ_rt, sat_some, sat_none, sat_ite, sat_map, sat_bind, selO_some, selO_none, sel_true, sel_false, sel_not, wp_ok, wp_ex, wp_st, wp_ite, f_lt, f_le, f_gt, f_ge, f_add, f_sub, f_mul, f_mod, f_fdiv, f_neg, f_p6, f_p9, f_p12, f_p18, f_p20, f_p30, f_int, f_abs, f_max, f_min, f_sqL, f_sqT, f_sqR, f_lenL, f_lenT, f_lenR, f_at20, f_at21, f_set20, f_set21, f_t10, f_t20, f_t21, f_t30, f_t31, f_t32, f_t40, f_t41, f_t42, f_t43, f_eqI, f_eqS, f_isN, w_Yes, o_lend, o_lst, o_tup, o_rol, o_str, o_obj, startE, pslot, putS_eq, isIo_un, isIo_fz, isIo_ow, isIo_xc, isIo_io, slotOf, slotData, setData, putIos, iosOf, lends, argsD, argD, isLst, asB, asI, newO_ok, newX_ok, asObj, asNil, asS, gNm, gsNil, gsCons, gTu, wipeE, backE, ownFree, isCls0, appF, bareX, clrX, List.map_cons, List.map_nil, List.length_cons, List.length_nil, List.replicate_succ, List.replicate_zero, List.cons_append, List.nil_append, List.append_nil, List.getElem?_cons_zero, List.getElem?_cons_succ, List.getElem?_nil, List.set_cons_zero, List.set_cons_succ, Option.bind_some, Option.bind_none, Option.map_some, Option.map_none, Option.getD_some, Option.getD_none, sz, Nat.reduceLeDiff, Int.reduceLT, Int.reduceLE, decide_true, decide_false, Int.reduceBEq, Int.reduceBNe, Bool.false_eq_true, if_false, if_true, Bool.false_xor, Bool.true_xor, Bool.not_true, Bool.not_false, Bool.not_not, Nat.reduceSub, Nat.reduceAdd, List.nodup_cons, List.nodup_nil, List.not_mem_nil, List.mem_cons, not_false_eq_true, and_self, true_and, and_true, List.all_cons, List.all_nil, Bool.and_true, Bool.true_and, seqOf_ok hs]
    refine lc_fm (p := fun _ => true) (f := fun d => .bl (isMv d)) ?_ (fun y hy => ?_) ?_
    · show 0 + (items d).length ≤ 1000000
      omega
    · simp only [w_C, w_Var, w_retO, w_bindE, w_evEx, w_evPk, argDat_val, argDat_lend, w_retF, w_retF1, w_P2, w_P1, w_Chain, w_ChainM, w_IfE, w_AndV, w_OrV, w_NotV, w_Tup, w_Lst, w_Slice, w_SliceM, w_evPn, w_evPs, w_PN, w_Call, w_Make, w_makeO, w_Meth, w_Len, w_lenK, w_Str, w_Fmt, w_Join0, w_Join, w_Xf, w_Xi, w_Lc, w_Tru, w_Test, w_And, w_Or, w_Not, w_aNil, w_aCons, w_rNil, w_rVal, w_rLend, w_rPk, w_rDfl, w_rSelf, w_iArgs, w_iSeq, w_Seq, thenS_nx, thenS_rt, thenS_bk, thenS_ct, w_Nx, w_Ret, w_RetN, w_RetV, w_Expr, w_nxO, w_Asg, w_If, w_Unp, w_mutS, w_SetF, w_App, w_Ix, w_Par2, w_Raise, w_Try, w_Try0, w_For, w_Sup, endQ_nx, endQ_rt, sat_some, sat_none, sat_ite, sat_map, sat_bind, selO_some, selO_none, sel_true, sel_false, sel_not, wp_ok, wp_ex, wp_st, wp_ite, f_lt, f_le, f_gt, f_ge, f_add, f_sub, f_mul, f_mod, f_fdiv, f_neg, f_p6, f_p9, f_p12, f_p18, f_p20, f_p30, f_int, f_abs, f_max, f_min, f_sqL, f_sqT, f_sqR, f_lenL, f_lenT, f_lenR, f_at20, f_at21, f_set20, f_set21, f_t10, f_t20, f_t21, f_t30, f_t31, f_t32, f_t40, f_t41, f_t42, f_t43, f_eqI, f_eqS, f_isN, w_Yes, o_lend, o_lst, o_tup, o_rol, o_str, o_obj, startE, pslot, putS_eq, isIo_un, isIo_fz, isIo_ow, isIo_xc, isIo_io, slotOf, slotData, setData, putIos, iosOf, lends, argsD, argD, isLst, asB, asI, newO_ok, newX_ok, asObj, asNil, asS, gNm, gsNil, gsCons, gTu, wipeE, backE, ownFree, isCls0, appF, bareX, clrX, List.map_cons, List.map_nil, List.length_cons, List.length_nil, List.replicate_succ, List.replicate_zero, List.cons_append, List.nil_append, List.append_nil, List.getElem?_cons_zero, List.getElem?_cons_succ, List.getElem?_nil, List.set_cons_zero, List.set_cons_succ, Option.bind_some, Option.bind_none, Option.map_some, Option.map_none, Option.getD_some, Option.getD_none, sz, Nat.reduceLeDiff, Int.reduceLT, Int.reduceLE, decide_true, decide_false, Int.reduceBEq, Int.reduceBNe, Bool.false_eq_true, if_false, if_true, Bool.false_xor, Bool.true_xor, Bool.not_true, Bool.not_false, Bool.not_not, Nat.reduceSub, Nat.reduceAdd, List.nodup_cons, List.nodup_nil, List.not_mem_nil, List.mem_cons, not_false_eq_true, and_self, true_and, and_true, List.all_cons, List.all_nil, Bool.and_true, Bool.true_and, isi_Move (v2 y hy)]
      simp
    · rw [show (items d).filter (fun _ => true) = items d by simp]
      simp only [w_C, w_Var, w_retO, w_bindE, w_evEx, w_evPk, argDat_val, argDat_lend, w_retF, w_retF1, w_P2, w_P1, w_Chain, w_ChainM, w_IfE, w_AndV, w_OrV, w_NotV, w_Tup, w_Lst, w_Slice, w_SliceM, w_evPn, w_evPs, w_PN, w_Call, w_Make, w_makeO, w_Meth, w_Len, w_lenK, w_Str, w_Fmt, w_Join0, w_Join, w_Xf, w_Xi, w_Lc, w_Tru, w_Test, w_And, w_Or, w_Not, w_aNil, w_aCons, w_rNil, w_rVal, w_rLend, w_rPk, w_rDfl, w_rSelf, w_iArgs, w_iSeq, w_Seq, thenS_nx, thenS_rt, thenS_bk, thenS_ct, w_Nx, w_Ret, w_RetN, w_RetV, w_Expr, w_nxO, w_Asg, w_If, w_Unp, w_mutS, w_SetF, w_App, w_Ix, w_Par2, w_Raise, w_Try, w_Try0, w_For, w_Sup, endQ_nx, endQ_rt, sat_some, sat_none, sat_ite, sat_map, sat_bind, selO_some, selO_none, sel_true, sel_false, sel_not, wp_ok, wp_ex, wp_st, wp_ite, f_lt, f_le, f_gt, f_ge, f_add, f_sub, f_mul, f_mod, f_fdiv, f_neg, f_p6, f_p9, f_p12, f_p18, f_p20, f_p30, f_int, f_abs, f_max, f_min, f_sqL, f_sqT, f_sqR, f_lenL, f_lenT, f_lenR, f_at20, f_at21, f_set20, f_set21, f_t10, f_t20, f_t21, f_t30, f_t31, f_t32, f_t40, f_t41, f_t42, f_t43, f_eqI, f_eqS, f_isN, w_Yes, o_lend, o_lst, o_tup, o_rol, o_str, o_obj, startE, pslot, putS_eq, isIo_un, isIo_fz, isIo_ow, isIo_xc, isIo_io, slotOf, slotData, setData, putIos, iosOf, lends, argsD, argD, isLst, asB, asI, newO_ok, newX_ok, asObj, asNil, asS, gNm, gsNil, gsCons, gTu, wipeE, backE, ownFree, isCls0, appF, bareX, clrX, List.map_cons, List.map_nil, List.length_cons, List.length_nil, List.replicate_succ, List.replicate_zero, List.cons_append, List.nil_append, List.append_nil, List.getElem?_cons_zero, List.getElem?_cons_succ, List.getElem?_nil, List.set_cons_zero, List.set_cons_succ, Option.bind_some, Option.bind_none, Option.map_some, Option.map_none, Option.getD_some, Option.getD_none, sz, Nat.reduceLeDiff, Int.reduceLT, Int.reduceLE, decide_true, decide_false, Int.reduceBEq, Int.reduceBNe, Bool.false_eq_true, if_false, if_true, Bool.false_xor, Bool.true_xor, Bool.not_true, Bool.not_false, Bool.not_not, Nat.reduceSub, Nat.reduceAdd, List.nodup_cons, List.nodup_nil, List.not_mem_nil, List.mem_cons, not_false_eq_true, and_self, true_and, and_true, List.all_cons, List.all_nil, Bool.and_true, Bool.true_and, allF, allBls_map, tru]
      refine sel_in (fun ha => ?_) (fun ha => ?_)
      · simp only [w_C, w_Var, w_retO, w_bindE, w_evEx, w_evPk, argDat_val, argDat_lend, w_retF, w_retF1, w_P2, w_P1, w_Chain, w_ChainM, w_IfE, w_AndV, w_OrV, w_NotV, w_Tup, w_Lst, w_Slice, w_SliceM, w_evPn, w_evPs, w_PN, w_Call, w_Make, w_makeO, w_Meth, w_Len, w_lenK, w_Str, w_Fmt, w_Join0, w_Join, w_Xf, w_Xi, w_Lc, w_Tru, w_Test, w_And, w_Or, w_Not, w_aNil, w_aCons, w_rNil, w_rVal, w_rLend, w_rPk, w_rDfl, w_rSelf, w_iArgs, w_iSeq, w_Seq, thenS_nx, thenS_rt, thenS_bk, thenS_ct, w_Nx, w_Ret, w_RetN, w_RetV, w_Expr, w_nxO, w_Asg, w_If, w_Unp, w_mutS, w_SetF, w_App, w_Ix, w_Par2, w_Raise, w_Try, w_Try0, w_For, w_Sup, endQ_nx, endQ_rt, sat_some, sat_none, sat_ite, sat_map, sat_bind, selO_some, selO_none, sel_true, sel_false, sel_not, wp_ok, wp_ex, wp_st, wp_ite, f_lt, f_le, f_gt, f_ge, f_add, f_sub, f_mul, f_mod, f_fdiv, f_neg, f_p6, f_p9, f_p12, f_p18, f_p20, f_p30, f_int, f_abs, f_max, f_min, f_sqL, f_sqT, f_sqR, f_lenL, f_lenT, f_lenR, f_at20, f_at21, f_set20, f_set21, f_t10, f_t20, f_t21, f_t30, f_t31, f_t32, f_t40, f_t41, f_t42, f_t43, f_eqI, f_eqS, f_isN, w_Yes, o_lend, o_lst, o_tup, o_rol, o_str, o_obj, startE, pslot, putS_eq, isIo_un, isIo_fz, isIo_ow, isIo_xc, isIo_io, slotOf, slotData, setData, putIos, iosOf, lends, argsD, argD, isLst, asB, asI, newO_ok, newX_ok, asObj, asNil, asS, gNm, gsNil, gsCons, gTu, wipeE, backE, ownFree, isCls0, appF, bareX, clrX, List.map_cons, List.map_nil, List.length_cons, List.length_nil, List.replicate_succ, List.replicate_zero, List.cons_append, List.nil_append, List.append_nil, List.getElem?_cons_zero, List.getElem?_cons_succ, List.getElem?_nil, List.set_cons_zero, List.set_cons_succ, Option.bind_some, Option.bind_none, Option.map_some, Option.map_none, Option.getD_some, Option.getD_none, sz, Nat.reduceLeDiff, Int.reduceLT, Int.reduceLE, decide_true, decide_false, Int.reduceBEq, Int.reduceBNe, Bool.false_eq_true, if_false, if_true, Bool.false_xor, Bool.true_xor, Bool.not_true, Bool.not_false, Bool.not_not, Nat.reduceSub, Nat.reduceAdd, List.nodup_cons, List.nodup_nil, List.not_mem_nil, List.mem_cons, not_false_eq_true, and_self, true_and, and_true, List.all_cons, List.all_nil, Bool.and_true, Bool.true_and, tupleF_ok hs, set_0 okM]
        exact h1 hs (by simpa [List.all_map] using ha)
      · simp only [w_C, w_Var, w_retO, w_bindE, w_evEx, w_evPk, argDat_val, argDat_lend, w_retF, w_retF1, w_P2, w_P1, w_Chain, w_ChainM, w_IfE, w_AndV, w_OrV, w_NotV, w_Tup, w_Lst, w_Slice, w_SliceM, w_evPn, w_evPs, w_PN, w_Call, w_Make, w_makeO, w_Meth, w_Len, w_lenK, w_Str, w_Fmt, w_Join0, w_Join, w_Xf, w_Xi, w_Lc, w_Tru, w_Test, w_And, w_Or, w_Not, w_aNil, w_aCons, w_rNil, w_rVal, w_rLend, w_rPk, w_rDfl, w_rSelf, w_iArgs, w_iSeq, w_Seq, thenS_nx, thenS_rt, thenS_bk, thenS_ct, w_Nx, w_Ret, w_RetN, w_RetV, w_Expr, w_nxO, w_Asg, w_If, w_Unp, w_mutS, w_SetF, w_App, w_Ix, w_Par2, w_Raise, w_Try, w_Try0, w_For, w_Sup, endQ_nx, endQ_rt, sat_some, sat_none, sat_ite, sat_map, sat_bind, selO_some, selO_none, sel_true, sel_false, sel_not, wp_ok, wp_ex, wp_st, wp_ite, f_lt, f_le, f_gt, f_ge, f_add, f_sub, f_mul, f_mod, f_fdiv, f_neg, f_p6, f_p9, f_p12, f_p18, f_p20, f_p30, f_int, f_abs, f_max, f_min, f_sqL, f_sqT, f_sqR, f_lenL, f_lenT, f_lenR, f_at20, f_at21, f_set20, f_set21, f_t10, f_t20, f_t21, f_t30, f_t31, f_t32, f_t40, f_t41, f_t42, f_t43, f_eqI, f_eqS, f_isN, w_Yes, o_lend, o_lst, o_tup, o_rol, o_str, o_obj, startE, pslot, putS_eq, isIo_un, isIo_fz, isIo_ow, isIo_xc, isIo_io, slotOf, slotData, setData, putIos, iosOf, lends, argsD, argD, isLst, asB, asI, newO_ok, newX_ok, asObj, asNil, asS, gNm, gsNil, gsCons, gTu, wipeE, backE, ownFree, isCls0, appF, bareX, clrX, List.map_cons, List.map_nil, List.length_cons, List.length_nil, List.replicate_succ, List.replicate_zero, List.cons_append, List.nil_append, List.append_nil, List.getElem?_cons_zero, List.getElem?_cons_succ, List.getElem?_nil, List.set_cons_zero, List.set_cons_succ, Option.bind_some, Option.bind_none, Option.map_some, Option.map_none, Option.getD_some, Option.getD_none, sz, Nat.reduceLeDiff, Int.reduceLT, Int.reduceLE, decide_true, decide_false, Int.reduceBEq, Int.reduceBNe, Bool.false_eq_true, if_false, if_true, Bool.false_xor, Bool.true_xor, Bool.not_true, Bool.not_false, Bool.not_not, Nat.reduceSub, Nat.reduceAdd, List.nodup_cons, List.nodup_nil, List.not_mem_nil, List.mem_cons, not_false_eq_true, and_self, true_and, and_true, List.all_cons, List.all_nil, Bool.and_true, Bool.true_and]
        exact h2 (by rw [hs]; simpa [List.all_map] using ha)
  · simp only [w_C, w_Var, w_retO, w_bindE, w_evEx, w_evPk, argDat_val, argDat_lend, w_retF, w_retF1, w_P2, w_P1, w_Chain, w_ChainM, w_IfE, w_AndV, w_OrV, w_NotV, w_Tup, w_Lst, w_Slice, w_SliceM, w_evPn, w_evPs, w_PN, w_Call, w_Make, w_makeO, w_Meth, w_Len, w_lenK, w_Str, w_Fmt, w_Join0, w_Join, w_Xf, w_Xi, w_Lc, w_Tru, w_Test, w_And, w_Or, w_Not, w_aNil, w_aCons, w_rNil, w_rVal, w_rLend, w_rPk, w_rDfl, w_rSelf, w_iArgs, w_iSeq, w_Seq, thenS_nx, thenS_rt, thenS_bk, thenS_ct, w_Nx, w_Ret, w_RetN, w_RetV, w_Expr, w_nxO, w_Asg, w_If, w_Unp, w_mutS, w_SetF, w_App, w_Ix, w_Par2, w_Raise, w_Try, w_Try0, w_For, w_Sup, endQ_nx, endQ_rt, sat_some, sat_none, sat_ite, sat_map, sat_bind, selO_some, selO_none, sel_true, sel_false, sel_not, wp_ok, wp_ex, wp_st, wp_ite, f_lt, f_le, f_gt, f_ge, f_add, f_sub, f_mul, f_mod, f_fdiv, f_neg, f_p6, f_p9, f_p12, f_p18, f_p20, f_p30, f_int, f_abs, f_max, f_min, f_sqL, f_sqT, f_sqR, f_lenL, f_lenT, f_lenR, f_at20, f_at21, f_set20, f_set21, f_t10, f_t20, f_t21, f_t30, f_t31, f_t32, f_t40, f_t41, f_t42, f_t43, f_eqI, f_eqS, f_isN, w_Yes, o_lend, o_lst, o_tup, o_rol, o_str, o_obj, startE, pslot, putS_eq, isIo_un, isIo_fz, isIo_ow, isIo_xc, isIo_io, slotOf, slotData, setData, putIos, iosOf, lends, argsD, argD, isLst, asB, asI, newO_ok, newX_ok, asObj, asNil, asS, gNm, gsNil, gsCons, gTu, wipeE, backE, ownFree, isCls0, appF, bareX, clrX, List.map_cons, List.map_nil, List.length_cons, List.length_nil, List.replicate_succ, List.replicate_zero, List.cons_append, List.nil_append, List.append_nil, List.getElem?_cons_zero, List.getElem?_cons_succ, List.getElem?_nil, List.set_cons_zero, List.set_cons_succ, Option.bind_some, Option.bind_none, Option.map_some, Option.map_none, Option.getD_some, Option.getD_none, sz, Nat.reduceLeDiff, Int.reduceLT, Int.reduceLE, decide_true, decide_false, Int.reduceBEq, Int.reduceBNe, Bool.false_eq_true, if_false, if_true, Bool.false_xor, Bool.true_xor, Bool.not_true, Bool.not_false, Bool.not_not, Nat.reduceSub, Nat.reduceAdd, List.nodup_cons, List.nodup_nil, List.not_mem_nil, List.mem_cons, not_false_eq_true, and_self, true_and, and_true, List.all_cons, List.all_nil, Bool.and_true, Bool.true_and]
    exact h2 (by rw [hs]; rfl)
theorem okLen : ∀ orc, mtab G orc "__len__" 0 "History" = some ([], orc (("History" : PySem.Str), some ("__len__" : PySem.Str))) := fun _ => by kernel_rfl
theorem hlen_ok {ds : List D} (h : q.run (false, .int ds.length) []) : wpC (callD dn (m + 1) (("History" : PySem.Str), some ("__len__" : PySem.Str)) [(false, oHist ds)]) := by
  rw [w_run e_History_len rfl]
  unfold n_History_len
  simp only [w_C, w_Var, w_retO, w_bindE, w_evEx, w_evPk, argDat_val, argDat_lend, w_retF, w_retF1, w_P2, w_P1, w_Chain, w_ChainM, w_IfE, w_AndV, w_OrV, w_NotV, w_Tup, w_Lst, w_Slice, w_SliceM, w_evPn, w_evPs, w_PN, w_Call, w_Make, w_makeO, w_Meth, w_Len, w_lenK, w_Str, w_Fmt, w_Join0, w_Join, w_Xf, w_Xi, w_Lc, w_Tru, w_Test, w_And, w_Or, w_Not, w_aNil, w_aCons, w_rNil, w_rVal, w_rLend, w_rPk, w_rDfl, w_rSelf, w_iArgs, w_iSeq, w_Seq, thenS_nx, thenS_rt, thenS_bk, thenS_ct, w_Nx, w_Ret, w_RetN, w_RetV, w_Expr, w_nxO, w_Asg, w_If, w_Unp, w_mutS, w_SetF, w_App, w_Ix, w_Par2, w_Raise, w_Try, w_Try0, w_For, w_Sup, endQ_nx, endQ_rt, sat_some, sat_none, sat_ite, sat_map, sat_bind, selO_some, selO_none, sel_true, sel_false, sel_not, wp_ok, wp_ex, wp_st, wp_ite, f_lt, f_le, f_gt, f_ge, f_add, f_sub, f_mul, f_mod, f_fdiv, f_neg, f_p6, f_p9, f_p12, f_p18, f_p20, f_p30, f_int, f_abs, f_max, f_min, f_sqL, f_sqT, f_sqR, f_lenL, f_lenT, f_lenR, f_at20, f_at21, f_set20, f_set21, f_t10, f_t20, f_t21, f_t30, f_t31, f_t32, f_t40, f_t41, f_t42, f_t43, f_eqI, f_eqS, f_isN, w_Yes, o_lend, o_lst, o_tup, o_rol, o_str, o_obj, startE, pslot, putS_eq, isIo_un, isIo_fz, isIo_ow, isIo_xc, isIo_io, slotOf, slotData, setData, putIos, iosOf, lends, argsD, argD, isLst, asB, asI, newO_ok, newX_ok, asObj, asNil, asS, gNm, gsNil, gsCons, gTu, wipeE, backE, ownFree, isCls0, appF, bareX, clrX, List.map_cons, List.map_nil, List.length_cons, List.length_nil, List.replicate_succ, List.replicate_zero, List.cons_append, List.nil_append, List.append_nil, List.getElem?_cons_zero, List.getElem?_cons_succ, List.getElem?_nil, List.set_cons_zero, List.set_cons_succ, Option.bind_some, Option.bind_none, Option.map_some, Option.map_none, Option.getD_some, Option.getD_none, sz, Nat.reduceLeDiff, Int.reduceLT, Int.reduceLE, decide_true, decide_false, Int.reduceBEq, Int.reduceBNe, Bool.false_eq_true, if_false, if_true, Bool.false_xor, Bool.true_xor, Bool.not_true, Bool.not_false, Bool.not_not, Nat.reduceSub, Nat.reduceAdd, List.nodup_cons, List.nodup_nil, List.not_mem_nil, List.mem_cons, not_false_eq_true, and_self, true_and, and_true, List.all_cons, List.all_nil, Bool.and_true, Bool.true_and, get_0 okM]
  exact h
theorem cat_im : catX G "InvalidMove" "InvalidMove" = some true := by kernel_rfl
theorem okx_im : okX G "InvalidMove" = true := by kernel_rfl
theorem tab1 : anyC (tabI G) (.own "InvalidMove") [.own "InvalidText"] = some false := by kernel_rfl
theorem tab2 : anyC (tabI G) (.own "InvalidMove") [.own "BookError"] = some true := by kernel_rfl
theorem okxf : okXf G "word" "InvalidMove" = true := by kernel_rfl
theorem lk_word {v : D} : List.lookup ("word" : Str) [(("word" : Str), v)] = some v := by rfl
theorem refused_ok (hd : vok d) (h : q.run (false, res d) []) : wpC (callD dn (m + 3) (("_law_refused" : PySem.Str), none) [(false, d)]) := by
  rw [w_run e__law_refused rfl]
  unfold n__law_refused
  simp only [w_C, w_Var, w_retO, w_bindE, w_evEx, w_evPk, argDat_val, argDat_lend, w_retF, w_retF1, w_P2, w_P1, w_Chain, w_ChainM, w_IfE, w_AndV, w_OrV, w_NotV, w_Tup, w_Lst, w_Slice, w_SliceM, w_evPn, w_evPs, w_PN, w_Call, w_Make, w_makeO, w_Meth, w_Len, w_lenK, w_Str, w_Fmt, w_Join0, w_Join, w_Xf, w_Xi, w_Lc, w_Tru, w_Test, w_And, w_Or, w_Not, w_aNil, w_aCons, w_rNil, w_rVal, w_rLend, w_rPk, w_rDfl, w_rSelf, w_iArgs, w_iSeq, w_Seq, thenS_nx, thenS_rt, thenS_bk, thenS_ct, w_Nx, w_Ret, w_RetN, w_RetV, w_Expr, w_nxO, w_Asg, w_If, w_Unp, w_mutS, w_SetF, w_App, w_Ix, w_Par2, w_Raise, w_Try, w_Try0, w_For, w_Sup, endQ_nx, endQ_rt, sat_some, sat_none, sat_ite, sat_map, sat_bind, selO_some, selO_none, sel_true, sel_false, sel_not, wp_ok, wp_ex, wp_st, wp_ite, f_lt, f_le, f_gt, f_ge, f_add, f_sub, f_mul, f_mod, f_fdiv, f_neg, f_p6, f_p9, f_p12, f_p18, f_p20, f_p30, f_int, f_abs, f_max, f_min, f_sqL, f_sqT, f_sqR, f_lenL, f_lenT, f_lenR, f_at20, f_at21, f_set20, f_set21, f_t10, f_t20, f_t21, f_t30, f_t31, f_t32, f_t40, f_t41, f_t42, f_t43, f_eqI, f_eqS, f_isN, w_Yes, o_lend, o_lst, o_tup, o_rol, o_str, o_obj, startE, pslot, putS_eq, isIo_un, isIo_fz, isIo_ow, isIo_xc, isIo_io, slotOf, slotData, setData, putIos, iosOf, lends, argsD, argD, isLst, asB, asI, newO_ok, newX_ok, asObj, asNil, asS, gNm, gsNil, gsCons, gTu, wipeE, backE, ownFree, isCls0, appF, bareX, clrX, List.map_cons, List.map_nil, List.length_cons, List.length_nil, List.replicate_succ, List.replicate_zero, List.cons_append, List.nil_append, List.append_nil, List.getElem?_cons_zero, List.getElem?_cons_succ, List.getElem?_nil, List.set_cons_zero, List.set_cons_succ, Option.bind_some, Option.bind_none, Option.map_some, Option.map_none, Option.getD_some, Option.getD_none, sz, Nat.reduceLeDiff, Int.reduceLT, Int.reduceLE, decide_true, decide_false, Int.reduceBEq, Int.reduceBNe, Bool.false_eq_true, if_false, if_true, Bool.false_xor, Bool.true_xor, Bool.not_true, Bool.not_false, Bool.not_not, Nat.reduceSub, Nat.reduceAdd, List.nodup_cons, List.nodup_nil, List.not_mem_nil, List.mem_cons, not_false_eq_true, and_self, true_and, and_true, List.all_cons, List.all_nil, Bool.and_true, Bool.true_and]
  refine hist_ok hd (fun h1 h2 => ?_) (fun h1 => ?_)
  · with_reducible refine Eq.mpr newO_ok ?_
    dsimp only
    simp only [w_C, w_Var, w_retO, w_bindE, w_evEx, w_evPk, argDat_val, argDat_lend, w_retF, w_retF1, w_P2, w_P1, w_Chain, w_ChainM, w_IfE, w_AndV, w_OrV, w_NotV, w_Tup, w_Lst, w_Slice, w_SliceM, w_evPn, w_evPs, w_PN, w_Call, w_Make, w_makeO, w_Meth, w_Len, w_lenK, w_Str, w_Fmt, w_Join0, w_Join, w_Xf, w_Xi, w_Lc, w_Tru, w_Test, w_And, w_Or, w_Not, w_aNil, w_aCons, w_rNil, w_rVal, w_rLend, w_rPk, w_rDfl, w_rSelf, w_iArgs, w_iSeq, w_Seq, thenS_nx, thenS_rt, thenS_bk, thenS_ct, w_Nx, w_Ret, w_RetN, w_RetV, w_Expr, w_nxO, w_Asg, w_If, w_Unp, w_mutS, w_SetF, w_App, w_Ix, w_Par2, w_Raise, w_Try, w_Try0, w_For, w_Sup, endQ_nx, endQ_rt, sat_some, sat_none, sat_ite, sat_map, sat_bind, selO_some, selO_none, sel_true, sel_false, sel_not, wp_ok, wp_ex, wp_st, wp_ite, f_lt, f_le, f_gt, f_ge, f_add, f_sub, f_mul, f_mod, f_fdiv, f_neg, f_p6, f_p9, f_p12, f_p18, f_p20, f_p30, f_int, f_abs, f_max, f_min, f_sqL, f_sqT, f_sqR, f_lenL, f_lenT, f_lenR, f_at20, f_at21, f_set20, f_set21, f_t10, f_t20, f_t21, f_t30, f_t31, f_t32, f_t40, f_t41, f_t42, f_t43, f_eqI, f_eqS, f_isN, w_Yes, o_lend, o_lst, o_tup, o_rol, o_str, o_obj, startE, pslot, putS_eq, isIo_un, isIo_fz, isIo_ow, isIo_xc, isIo_io, slotOf, slotData, setData, putIos, iosOf, lends, argsD, argD, isLst, asB, asI, newO_ok, newX_ok, asObj, asNil, asS, gNm, gsNil, gsCons, gTu, wipeE, backE, ownFree, isCls0, appF, bareX, clrX, List.map_cons, List.map_nil, List.length_cons, List.length_nil, List.replicate_succ, List.replicate_zero, List.cons_append, List.nil_append, List.append_nil, List.getElem?_cons_zero, List.getElem?_cons_succ, List.getElem?_nil, List.set_cons_zero, List.set_cons_succ, Option.bind_some, Option.bind_none, Option.map_some, Option.map_none, Option.getD_some, Option.getD_none, sz, Nat.reduceLeDiff, Int.reduceLT, Int.reduceLE, decide_true, decide_false, Int.reduceBEq, Int.reduceBNe, Bool.false_eq_true, if_false, if_true, Bool.false_xor, Bool.true_xor, Bool.not_true, Bool.not_false, Bool.not_not, Nat.reduceSub, Nat.reduceAdd, List.nodup_cons, List.nodup_nil, List.not_mem_nil, List.mem_cons, not_false_eq_true, and_self, true_and, and_true, List.all_cons, List.all_nil, Bool.and_true, Bool.true_and]
    rw [w_Sp (okLen _)]
    simp only [w_C, w_Var, w_retO, w_bindE, w_evEx, w_evPk, argDat_val, argDat_lend, w_retF, w_retF1, w_P2, w_P1, w_Chain, w_ChainM, w_IfE, w_AndV, w_OrV, w_NotV, w_Tup, w_Lst, w_Slice, w_SliceM, w_evPn, w_evPs, w_PN, w_Call, w_Make, w_makeO, w_Meth, w_Len, w_lenK, w_Str, w_Fmt, w_Join0, w_Join, w_Xf, w_Xi, w_Lc, w_Tru, w_Test, w_And, w_Or, w_Not, w_aNil, w_aCons, w_rNil, w_rVal, w_rLend, w_rPk, w_rDfl, w_rSelf, w_iArgs, w_iSeq, w_Seq, thenS_nx, thenS_rt, thenS_bk, thenS_ct, w_Nx, w_Ret, w_RetN, w_RetV, w_Expr, w_nxO, w_Asg, w_If, w_Unp, w_mutS, w_SetF, w_App, w_Ix, w_Par2, w_Raise, w_Try, w_Try0, w_For, w_Sup, endQ_nx, endQ_rt, sat_some, sat_none, sat_ite, sat_map, sat_bind, selO_some, selO_none, sel_true, sel_false, sel_not, wp_ok, wp_ex, wp_st, wp_ite, f_lt, f_le, f_gt, f_ge, f_add, f_sub, f_mul, f_mod, f_fdiv, f_neg, f_p6, f_p9, f_p12, f_p18, f_p20, f_p30, f_int, f_abs, f_max, f_min, f_sqL, f_sqT, f_sqR, f_lenL, f_lenT, f_lenR, f_at20, f_at21, f_set20, f_set21, f_t10, f_t20, f_t21, f_t30, f_t31, f_t32, f_t40, f_t41, f_t42, f_t43, f_eqI, f_eqS, f_isN, w_Yes, o_lend, o_lst, o_tup, o_rol, o_str, o_obj, startE, pslot, putS_eq, isIo_un, isIo_fz, isIo_ow, isIo_xc, isIo_io, slotOf, slotData, setData, putIos, iosOf, lends, argsD, argD, isLst, asB, asI, newO_ok, newX_ok, asObj, asNil, asS, gNm, gsNil, gsCons, gTu, wipeE, backE, ownFree, isCls0, appF, bareX, clrX, List.map_cons, List.map_nil, List.length_cons, List.length_nil, List.replicate_succ, List.replicate_zero, List.cons_append, List.nil_append, List.append_nil, List.getElem?_cons_zero, List.getElem?_cons_succ, List.getElem?_nil, List.set_cons_zero, List.set_cons_succ, Option.bind_some, Option.bind_none, Option.map_some, Option.map_none, Option.getD_some, Option.getD_none, sz, Nat.reduceLeDiff, Int.reduceLT, Int.reduceLE, decide_true, decide_false, Int.reduceBEq, Int.reduceBNe, Bool.false_eq_true, if_false, if_true, Bool.false_xor, Bool.true_xor, Bool.not_true, Bool.not_false, Bool.not_not, Nat.reduceSub, Nat.reduceAdd, List.nodup_cons, List.nodup_nil, List.not_mem_nil, List.mem_cons, not_false_eq_true, and_self, true_and, and_true, List.all_cons, List.all_nil, Bool.and_true, Bool.true_and]
    with_reducible refine @hlen_ok (m + 1) _ _ (items d) ?_
    simp only [asNil]
    with_reducible refine Eq.mpr (sat_some (a := ())) ?_
    dsimp only
    simp only [w_C, w_Var, w_retO, w_bindE, w_evEx, w_evPk, argDat_val, argDat_lend, w_retF, w_retF1, w_P2, w_P1, w_Chain, w_ChainM, w_IfE, w_AndV, w_OrV, w_NotV, w_Tup, w_Lst, w_Slice, w_SliceM, w_evPn, w_evPs, w_PN, w_Call, w_Make, w_makeO, w_Meth, w_Len, w_lenK, w_Str, w_Fmt, w_Join0, w_Join, w_Xf, w_Xi, w_Lc, w_Tru, w_Test, w_And, w_Or, w_Not, w_aNil, w_aCons, w_rNil, w_rVal, w_rLend, w_rPk, w_rDfl, w_rSelf, w_iArgs, w_iSeq, w_Seq, thenS_nx, thenS_rt, thenS_bk, thenS_ct, w_Nx, w_Ret, w_RetN, w_RetV, w_Expr, w_nxO, w_Asg, w_If, w_Unp, w_mutS, w_SetF, w_App, w_Ix, w_Par2, w_Raise, w_Try, w_Try0, w_For, w_Sup, endQ_nx, endQ_rt, sat_some, sat_none, sat_ite, sat_map, sat_bind, selO_some, selO_none, sel_true, sel_false, sel_not, wp_ok, wp_ex, wp_st, wp_ite, f_lt, f_le, f_gt, f_ge, f_add, f_sub, f_mul, f_mod, f_fdiv, f_neg, f_p6, f_p9, f_p12, f_p18, f_p20, f_p30, f_int, f_abs, f_max, f_min, f_sqL, f_sqT, f_sqR, f_lenL, f_lenT, f_lenR, f_at20, f_at21, f_set20, f_set21, f_t10, f_t20, f_t21, f_t30, f_t31, f_t32, f_t40, f_t41, f_t42, f_t43, f_eqI, f_eqS, f_isN, w_Yes, o_lend, o_lst, o_tup, o_rol, o_str, o_obj, startE, pslot, putS_eq, isIo_un, isIo_fz, isIo_ow, isIo_xc, isIo_io, slotOf, slotData, setData, putIos, iosOf, lends, argsD, argD, isLst, asB, asI, newO_ok, newX_ok, asObj, asNil, asS, gNm, gsNil, gsCons, gTu, wipeE, backE, ownFree, isCls0, appF, bareX, clrX, List.map_cons, List.map_nil, List.length_cons, List.length_nil, List.replicate_succ, List.replicate_zero, List.cons_append, List.nil_append, List.append_nil, List.getElem?_cons_zero, List.getElem?_cons_succ, List.getElem?_nil, List.set_cons_zero, List.set_cons_succ, Option.bind_some, Option.bind_none, Option.map_some, Option.map_none, Option.getD_some, Option.getD_none, sz, Nat.reduceLeDiff, Int.reduceLT, Int.reduceLE, decide_true, decide_false, Int.reduceBEq, Int.reduceBNe, Bool.false_eq_true, if_false, if_true, Bool.false_xor, Bool.true_xor, Bool.not_true, Bool.not_false, Bool.not_not, Nat.reduceSub, Nat.reduceAdd, List.nodup_cons, List.nodup_nil, List.not_mem_nil, List.mem_cons, not_false_eq_true, and_self, true_and, and_true, List.all_cons, List.all_nil, Bool.and_true, Bool.true_and, f_postLen (n := (items d).length) (by have := hd.2.2; omega)]
    rw [show res d = .int (items d).length from if_pos (by rw [h1, h2]; rfl)] at h
    exact h
  · simp only [w_C, w_Var, w_retO, w_bindE, w_evEx, w_evPk, argDat_val, argDat_lend, w_retF, w_retF1, w_P2, w_P1, w_Chain, w_ChainM, w_IfE, w_AndV, w_OrV, w_NotV, w_Tup, w_Lst, w_Slice, w_SliceM, w_evPn, w_evPs, w_PN, w_Call, w_Make, w_makeO, w_Meth, w_Len, w_lenK, w_Str, w_Fmt, w_Join0, w_Join, w_Xf, w_Xi, w_Lc, w_Tru, w_Test, w_And, w_Or, w_Not, w_aNil, w_aCons, w_rNil, w_rVal, w_rLend, w_rPk, w_rDfl, w_rSelf, w_iArgs, w_iSeq, w_Seq, thenS_nx, thenS_rt, thenS_bk, thenS_ct, w_Nx, w_Ret, w_RetN, w_RetV, w_Expr, w_nxO, w_Asg, w_If, w_Unp, w_mutS, w_SetF, w_App, w_Ix, w_Par2, w_Raise, w_Try, w_Try0, w_For, w_Sup, endQ_nx, endQ_rt, sat_some, sat_none, sat_ite, sat_map, sat_bind, selO_some, selO_none, sel_true, sel_false, sel_not, wp_ok, wp_ex, wp_st, wp_ite, f_lt, f_le, f_gt, f_ge, f_add, f_sub, f_mul, f_mod, f_fdiv, f_neg, f_p6, f_p9, f_p12, f_p18, f_p20, f_p30, f_int, f_abs, f_max, f_min, f_sqL, f_sqT, f_sqR, f_lenL, f_lenT, f_lenR, f_at20, f_at21, f_set20, f_set21, f_t10, f_t20, f_t21, f_t30, f_t31, f_t32, f_t40, f_t41, f_t42, f_t43, f_eqI, f_eqS, f_isN, w_Yes, o_lend, o_lst, o_tup, o_rol, o_str, o_obj, startE, pslot, putS_eq, isIo_un, isIo_fz, isIo_ow, isIo_xc, isIo_io, slotOf, slotData, setData, putIos, iosOf, lends, argsD, argD, isLst, asB, asI, newO_ok, newX_ok, asObj, asNil, asS, gNm, gsNil, gsCons, gTu, wipeE, backE, ownFree, isCls0, appF, bareX, clrX, List.map_cons, List.map_nil, List.length_cons, List.length_nil, List.replicate_succ, List.replicate_zero, List.cons_append, List.nil_append, List.append_nil, List.getElem?_cons_zero, List.getElem?_cons_succ, List.getElem?_nil, List.set_cons_zero, List.set_cons_succ, Option.bind_some, Option.bind_none, Option.map_some, Option.map_none, Option.getD_some, Option.getD_none, sz, Nat.reduceLeDiff, Int.reduceLT, Int.reduceLE, decide_true, decide_false, Int.reduceBEq, Int.reduceBNe, Bool.false_eq_true, if_false, if_true, Bool.false_xor, Bool.true_xor, Bool.not_true, Bool.not_false, Bool.not_not, Nat.reduceSub, Nat.reduceAdd, List.nodup_cons, List.nodup_nil, List.not_mem_nil, List.mem_cons, not_false_eq_true, and_self, true_and, and_true, List.all_cons, List.all_nil, Bool.and_true, Bool.true_and, cat_im, okx_im, tab1, tab2, okxf, lk_word, tru]
    rw [show res d = .str "moves" from if_neg (by rw [h1]; decide)] at h
    exact h
theorem filter_nil {p : D → Bool} {ds : List D} : (ds.filter fun d => !p d).length = 0 ↔ ds.all p = true := by
  rw [List.length_eq_zero_iff, List.filter_eq_nil_iff, List.all_eq_true]
  constructor
  · intro h d hd
    simpa using h d hd
  · intro h d hd
    simpa using h d hd
theorem lenF_ok (h : isSq d = true) : lenF [d] = some (false, .int (items d).length) := by cases d <;> first | rfl | cases h
theorem due_ok (hd : vok d) (h : q.run (false, res d) []) : wpC (callD dn (m + 3) (("_law_due" : PySem.Str), none) [(false, d)]) := by
  obtain ⟨v1, v2, v3⟩ := hd
  rw [w_run e__law_due rfl]
  unfold n__law_due
  simp only [w_C, w_Var, w_retO, w_bindE, w_evEx, w_evPk, argDat_val, argDat_lend, w_retF, w_retF1, w_P2, w_P1, w_Chain, w_ChainM, w_IfE, w_AndV, w_OrV, w_NotV, w_Tup, w_Lst, w_Slice, w_SliceM, w_evPn, w_evPs, w_PN, w_Call, w_Make, w_makeO, w_Meth, w_Len, w_lenK, w_Str, w_Fmt, w_Join0, w_Join, w_Xf, w_Xi, w_Lc, w_Tru, w_Test, w_And, w_Or, w_Not, w_aNil, w_aCons, w_rNil, w_rVal, w_rLend, w_rPk, w_rDfl, w_rSelf, w_iArgs, w_iSeq, w_Seq, thenS_nx, thenS_rt, thenS_bk, thenS_ct, w_Nx, w_Ret, w_RetN, w_RetV, w_Expr, w_nxO, w_Asg, w_If, w_Unp, w_mutS, w_SetF, w_App, w_Ix, w_Par2, w_Raise, w_Try, w_Try0, w_For, w_Sup, endQ_nx, endQ_rt, sat_some, sat_none, sat_ite, sat_map, sat_bind, selO_some, selO_none, sel_true, sel_false, sel_not, wp_ok, wp_ex, wp_st, wp_ite, f_lt, f_le, f_gt, f_ge, f_add, f_sub, f_mul, f_mod, f_fdiv, f_neg, f_p6, f_p9, f_p12, f_p18, f_p20, f_p30, f_int, f_abs, f_max, f_min, f_sqL, f_sqT, f_sqR, f_lenL, f_lenT, f_lenR, f_at20, f_at21, f_set20, f_set21, f_t10, f_t20, f_t21, f_t30, f_t31, f_t32, f_t40, f_t41, f_t42, f_t43, f_eqI, f_eqS, f_isN, w_Yes, o_lend, o_lst, o_tup, o_rol, o_str, o_obj, startE, pslot, putS_eq, isIo_un, isIo_fz, isIo_ow, isIo_xc, isIo_io, slotOf, slotData, setData, putIos, iosOf, lends, argsD, argD, isLst, asB, asI, newO_ok, newX_ok, asObj, asNil, asS, gNm, gsNil, gsCons, gTu, wipeE, backE, ownFree, isCls0, appF, bareX, clrX, List.map_cons, List.map_nil, List.length_cons, List.length_nil, List.replicate_succ, List.replicate_zero, List.cons_append, List.nil_append, List.append_nil, List.getElem?_cons_zero, List.getElem?_cons_succ, List.getElem?_nil, List.set_cons_zero, List.set_cons_succ, Option.bind_some, Option.bind_none, Option.map_some, Option.map_none, Option.getD_some, Option.getD_none, sz, Nat.reduceLeDiff, Int.reduceLT, Int.reduceLE, decide_true, decide_false, Int.reduceBEq, Int.reduceBNe, Bool.false_eq_true, if_false, if_true, Bool.false_xor, Bool.true_xor, Bool.not_true, Bool.not_false, Bool.not_not, Nat.reduceSub, Nat.reduceAdd, List.nodup_cons, List.nodup_nil, List.not_mem_nil, List.mem_cons, not_false_eq_true, and_self, true_and, and_true, List.all_cons, List.all_nil, Bool.and_true, Bool.true_and, isi_Seq v1, tru]
  refine sel_in (fun hs => ?_) (fun hs => ?_)
  · simp only [w_C, w_Var, w_retO, w_bindE, w_evEx, w_evPk, argDat_val, argDat_lend, w_retF, w_retF1, w_P2, w_P1, w_Chain, w_ChainM, w_IfE, w_AndV, w_OrV, w_NotV, w_Tup, w_Lst, w_Slice, w_SliceM, w_evPn, w_evPs, w_PN, w_Call, w_Make, w_makeO, w_Meth, w_Len, w_lenK, w_Str, w_Fmt, w_Join0, w_Join, w_Xf, w_Xi, w_Lc, w_Tru, w_Test, w_And, w_Or, w_Not, w_aNil, w_aCons, w_rNil, w_rVal, w_rLend, w_rPk, w_rDfl, w_rSelf, w_iArgs, w_iSeq, w_Seq, thenS_nx, thenS_rt, thenS_bk, thenS_ct, w_Nx, w_Ret, w_RetN, w_RetV, w_Expr, w_nxO, w_Asg, w_If, w_Unp, w_mutS, w_SetF, w_App, w_Ix, w_Par2, w_Raise, w_Try, w_Try0, w_For, w_Sup, endQ_nx, endQ_rt, sat_some, sat_none, sat_ite, sat_map, sat_bind, selO_some, selO_none, sel_true, sel_false, sel_not, wp_ok, wp_ex, wp_st, wp_ite, f_lt, f_le, f_gt, f_ge, f_add, f_sub, f_mul, f_mod, f_fdiv, f_neg, f_p6, f_p9, f_p12, f_p18, f_p20, f_p30, f_int, f_abs, f_max, f_min, f_sqL, f_sqT, f_sqR, f_lenL, f_lenT, f_lenR, f_at20, f_at21, f_set20, f_set21, f_t10, f_t20, f_t21, f_t30, f_t31, f_t32, f_t40, f_t41, f_t42, f_t43, f_eqI, f_eqS, f_isN, w_Yes, o_lend, o_lst, o_tup, o_rol, o_str, o_obj, startE, pslot, putS_eq, isIo_un, isIo_fz, isIo_ow, isIo_xc, isIo_io, slotOf, slotData, setData, putIos, iosOf, lends, argsD, argD, isLst, asB, asI, newO_ok, newX_ok, asObj, asNil, asS, gNm, gsNil, gsCons, gTu, wipeE, backE, ownFree, isCls0, appF, bareX, clrX, List.map_cons, List.map_nil, List.length_cons, List.length_nil, List.replicate_succ, List.replicate_zero, List.cons_append, List.nil_append, List.append_nil, List.getElem?_cons_zero, List.getElem?_cons_succ, List.getElem?_nil, List.set_cons_zero, List.set_cons_succ, Option.bind_some, Option.bind_none, Option.map_some, Option.map_none, Option.getD_some, Option.getD_none, sz, Nat.reduceLeDiff, Int.reduceLT, Int.reduceLE, decide_true, decide_false, Int.reduceBEq, Int.reduceBNe, Bool.false_eq_true, if_false, if_true, Bool.false_xor, Bool.true_xor, Bool.not_true, Bool.not_false, Bool.not_not, Nat.reduceSub, Nat.reduceAdd, List.nodup_cons, List.nodup_nil, List.not_mem_nil, List.mem_cons, not_false_eq_true, and_self, true_and, and_true, List.all_cons, List.all_nil, Bool.and_true, Bool.true_and, seqOf_ok hs]
    refine lc_fm (p := fun d => !isMv d) (f := id) ?_ (fun y hy => ?_) ?_
    · show 0 + (items d).length ≤ 1000000
      omega
    · simp only [w_C, w_Var, w_retO, w_bindE, w_evEx, w_evPk, argDat_val, argDat_lend, w_retF, w_retF1, w_P2, w_P1, w_Chain, w_ChainM, w_IfE, w_AndV, w_OrV, w_NotV, w_Tup, w_Lst, w_Slice, w_SliceM, w_evPn, w_evPs, w_PN, w_Call, w_Make, w_makeO, w_Meth, w_Len, w_lenK, w_Str, w_Fmt, w_Join0, w_Join, w_Xf, w_Xi, w_Lc, w_Tru, w_Test, w_And, w_Or, w_Not, w_aNil, w_aCons, w_rNil, w_rVal, w_rLend, w_rPk, w_rDfl, w_rSelf, w_iArgs, w_iSeq, w_Seq, thenS_nx, thenS_rt, thenS_bk, thenS_ct, w_Nx, w_Ret, w_RetN, w_RetV, w_Expr, w_nxO, w_Asg, w_If, w_Unp, w_mutS, w_SetF, w_App, w_Ix, w_Par2, w_Raise, w_Try, w_Try0, w_For, w_Sup, endQ_nx, endQ_rt, sat_some, sat_none, sat_ite, sat_map, sat_bind, selO_some, selO_none, sel_true, sel_false, sel_not, wp_ok, wp_ex, wp_st, wp_ite, f_lt, f_le, f_gt, f_ge, f_add, f_sub, f_mul, f_mod, f_fdiv, f_neg, f_p6, f_p9, f_p12, f_p18, f_p20, f_p30, f_int, f_abs, f_max, f_min, f_sqL, f_sqT, f_sqR, f_lenL, f_lenT, f_lenR, f_at20, f_at21, f_set20, f_set21, f_t10, f_t20, f_t21, f_t30, f_t31, f_t32, f_t40, f_t41, f_t42, f_t43, f_eqI, f_eqS, f_isN, w_Yes, o_lend, o_lst, o_tup, o_rol, o_str, o_obj, startE, pslot, putS_eq, isIo_un, isIo_fz, isIo_ow, isIo_xc, isIo_io, slotOf, slotData, setData, putIos, iosOf, lends, argsD, argD, isLst, asB, asI, newO_ok, newX_ok, asObj, asNil, asS, gNm, gsNil, gsCons, gTu, wipeE, backE, ownFree, isCls0, appF, bareX, clrX, List.map_cons, List.map_nil, List.length_cons, List.length_nil, List.replicate_succ, List.replicate_zero, List.cons_append, List.nil_append, List.append_nil, List.getElem?_cons_zero, List.getElem?_cons_succ, List.getElem?_nil, List.set_cons_zero, List.set_cons_succ, Option.bind_some, Option.bind_none, Option.map_some, Option.map_none, Option.getD_some, Option.getD_none, sz, Nat.reduceLeDiff, Int.reduceLT, Int.reduceLE, decide_true, decide_false, Int.reduceBEq, Int.reduceBNe, Bool.false_eq_true, if_false, if_true, Bool.false_xor, Bool.true_xor, Bool.not_true, Bool.not_false, Bool.not_not, Nat.reduceSub, Nat.reduceAdd, List.nodup_cons, List.nodup_nil, List.not_mem_nil, List.mem_cons, not_false_eq_true, and_self, true_and, and_true, List.all_cons, List.all_nil, Bool.and_true, Bool.true_and, isi_Move (v2 y hy), tru]
      simp
    · rw [List.map_id]
      by_cases ha : (items d).all isMv = true
      · have e0 : (items d).filter (fun d => !isMv d) = [] := List.length_eq_zero_iff.mp (filter_nil.mpr ha)
        rw [e0]
        simp only [w_C, w_Var, w_retO, w_bindE, w_evEx, w_evPk, argDat_val, argDat_lend, w_retF, w_retF1, w_P2, w_P1, w_Chain, w_ChainM, w_IfE, w_AndV, w_OrV, w_NotV, w_Tup, w_Lst, w_Slice, w_SliceM, w_evPn, w_evPs, w_PN, w_Call, w_Make, w_makeO, w_Meth, w_Len, w_lenK, w_Str, w_Fmt, w_Join0, w_Join, w_Xf, w_Xi, w_Lc, w_Tru, w_Test, w_And, w_Or, w_Not, w_aNil, w_aCons, w_rNil, w_rVal, w_rLend, w_rPk, w_rDfl, w_rSelf, w_iArgs, w_iSeq, w_Seq, thenS_nx, thenS_rt, thenS_bk, thenS_ct, w_Nx, w_Ret, w_RetN, w_RetV, w_Expr, w_nxO, w_Asg, w_If, w_Unp, w_mutS, w_SetF, w_App, w_Ix, w_Par2, w_Raise, w_Try, w_Try0, w_For, w_Sup, endQ_nx, endQ_rt, sat_some, sat_none, sat_ite, sat_map, sat_bind, selO_some, selO_none, sel_true, sel_false, sel_not, wp_ok, wp_ex, wp_st, wp_ite, f_lt, f_le, f_gt, f_ge, f_add, f_sub, f_mul, f_mod, f_fdiv, f_neg, f_p6, f_p9, f_p12, f_p18, f_p20, f_p30, f_int, f_abs, f_max, f_min, f_sqL, f_sqT, f_sqR, f_lenL, f_lenT, f_lenR, f_at20, f_at21, f_set20, f_set21, f_t10, f_t20, f_t21, f_t30, f_t31, f_t32, f_t40, f_t41, f_t42, f_t43, f_eqI, f_eqS, f_isN, w_Yes, o_lend, o_lst, o_tup, o_rol, o_str, o_obj, startE, pslot, putS_eq, isIo_un, isIo_fz, isIo_ow, isIo_xc, isIo_io, slotOf, slotData, setData, putIos, iosOf, lends, argsD, argD, isLst, asB, asI, newO_ok, newX_ok, asObj, asNil, asS, gNm, gsNil, gsCons, gTu, wipeE, backE, ownFree, isCls0, appF, bareX, clrX, List.map_cons, List.map_nil, List.length_cons, List.length_nil, List.replicate_succ, List.replicate_zero, List.cons_append, List.nil_append, List.append_nil, List.getElem?_cons_zero, List.getElem?_cons_succ, List.getElem?_nil, List.set_cons_zero, List.set_cons_succ, Option.bind_some, Option.bind_none, Option.map_some, Option.map_none, Option.getD_some, Option.getD_none, sz, Nat.reduceLeDiff, Int.reduceLT, Int.reduceLE, decide_true, decide_false, Int.reduceBEq, Int.reduceBNe, Bool.false_eq_true, if_false, if_true, Bool.false_xor, Bool.true_xor, Bool.not_true, Bool.not_false, Bool.not_not, Nat.reduceSub, Nat.reduceAdd, List.nodup_cons, List.nodup_nil, List.not_mem_nil, List.mem_cons, not_false_eq_true, and_self, true_and, and_true, List.all_cons, List.all_nil, Bool.and_true, Bool.true_and, show eqF true (.lst []) (.lst []) = some (false, .bl false) from rfl, show objOf (.val d) (some d) = none from by (cases d <;> first | rfl | cases hs), lenF_ok hs]
        rw [show res d = .int (items d).length from if_pos (by rw [hs, ha]; rfl)] at h
        exact h
      · have e0 : (items d).filter (fun d => !isMv d) ≠ [] := fun z => ha (filter_nil.mp (by rw [z]; rfl))
        have e1 : eqF true (.lst ((items d).filter fun d => !isMv d)) (.lst []) = some (false, .bl true) := if_neg (by simpa using e0)
        simp only [w_C, w_Var, w_retO, w_bindE, w_evEx, w_evPk, argDat_val, argDat_lend, w_retF, w_retF1, w_P2, w_P1, w_Chain, w_ChainM, w_IfE, w_AndV, w_OrV, w_NotV, w_Tup, w_Lst, w_Slice, w_SliceM, w_evPn, w_evPs, w_PN, w_Call, w_Make, w_makeO, w_Meth, w_Len, w_lenK, w_Str, w_Fmt, w_Join0, w_Join, w_Xf, w_Xi, w_Lc, w_Tru, w_Test, w_And, w_Or, w_Not, w_aNil, w_aCons, w_rNil, w_rVal, w_rLend, w_rPk, w_rDfl, w_rSelf, w_iArgs, w_iSeq, w_Seq, thenS_nx, thenS_rt, thenS_bk, thenS_ct, w_Nx, w_Ret, w_RetN, w_RetV, w_Expr, w_nxO, w_Asg, w_If, w_Unp, w_mutS, w_SetF, w_App, w_Ix, w_Par2, w_Raise, w_Try, w_Try0, w_For, w_Sup, endQ_nx, endQ_rt, sat_some, sat_none, sat_ite, sat_map, sat_bind, selO_some, selO_none, sel_true, sel_false, sel_not, wp_ok, wp_ex, wp_st, wp_ite, f_lt, f_le, f_gt, f_ge, f_add, f_sub, f_mul, f_mod, f_fdiv, f_neg, f_p6, f_p9, f_p12, f_p18, f_p20, f_p30, f_int, f_abs, f_max, f_min, f_sqL, f_sqT, f_sqR, f_lenL, f_lenT, f_lenR, f_at20, f_at21, f_set20, f_set21, f_t10, f_t20, f_t21, f_t30, f_t31, f_t32, f_t40, f_t41, f_t42, f_t43, f_eqI, f_eqS, f_isN, w_Yes, o_lend, o_lst, o_tup, o_rol, o_str, o_obj, startE, pslot, putS_eq, isIo_un, isIo_fz, isIo_ow, isIo_xc, isIo_io, slotOf, slotData, setData, putIos, iosOf, lends, argsD, argD, isLst, asB, asI, newO_ok, newX_ok, asObj, asNil, asS, gNm, gsNil, gsCons, gTu, wipeE, backE, ownFree, isCls0, appF, bareX, clrX, List.map_cons, List.map_nil, List.length_cons, List.length_nil, List.replicate_succ, List.replicate_zero, List.cons_append, List.nil_append, List.append_nil, List.getElem?_cons_zero, List.getElem?_cons_succ, List.getElem?_nil, List.set_cons_zero, List.set_cons_succ, Option.bind_some, Option.bind_none, Option.map_some, Option.map_none, Option.getD_some, Option.getD_none, sz, Nat.reduceLeDiff, Int.reduceLT, Int.reduceLE, decide_true, decide_false, Int.reduceBEq, Int.reduceBNe, Bool.false_eq_true, if_false, if_true, Bool.false_xor, Bool.true_xor, Bool.not_true, Bool.not_false, Bool.not_not, Nat.reduceSub, Nat.reduceAdd, List.nodup_cons, List.nodup_nil, List.not_mem_nil, List.mem_cons, not_false_eq_true, and_self, true_and, and_true, List.all_cons, List.all_nil, Bool.and_true, Bool.true_and, e1]
        rw [show res d = .str "moves" from if_neg (by rw [hs]; simpa using ha)] at h
        exact h
  · simp only [w_C, w_Var, w_retO, w_bindE, w_evEx, w_evPk, argDat_val, argDat_lend, w_retF, w_retF1, w_P2, w_P1, w_Chain, w_ChainM, w_IfE, w_AndV, w_OrV, w_NotV, w_Tup, w_Lst, w_Slice, w_SliceM, w_evPn, w_evPs, w_PN, w_Call, w_Make, w_makeO, w_Meth, w_Len, w_lenK, w_Str, w_Fmt, w_Join0, w_Join, w_Xf, w_Xi, w_Lc, w_Tru, w_Test, w_And, w_Or, w_Not, w_aNil, w_aCons, w_rNil, w_rVal, w_rLend, w_rPk, w_rDfl, w_rSelf, w_iArgs, w_iSeq, w_Seq, thenS_nx, thenS_rt, thenS_bk, thenS_ct, w_Nx, w_Ret, w_RetN, w_RetV, w_Expr, w_nxO, w_Asg, w_If, w_Unp, w_mutS, w_SetF, w_App, w_Ix, w_Par2, w_Raise, w_Try, w_Try0, w_For, w_Sup, endQ_nx, endQ_rt, sat_some, sat_none, sat_ite, sat_map, sat_bind, selO_some, selO_none, sel_true, sel_false, sel_not, wp_ok, wp_ex, wp_st, wp_ite, f_lt, f_le, f_gt, f_ge, f_add, f_sub, f_mul, f_mod, f_fdiv, f_neg, f_p6, f_p9, f_p12, f_p18, f_p20, f_p30, f_int, f_abs, f_max, f_min, f_sqL, f_sqT, f_sqR, f_lenL, f_lenT, f_lenR, f_at20, f_at21, f_set20, f_set21, f_t10, f_t20, f_t21, f_t30, f_t31, f_t32, f_t40, f_t41, f_t42, f_t43, f_eqI, f_eqS, f_isN, w_Yes, o_lend, o_lst, o_tup, o_rol, o_str, o_obj, startE, pslot, putS_eq, isIo_un, isIo_fz, isIo_ow, isIo_xc, isIo_io, slotOf, slotData, setData, putIos, iosOf, lends, argsD, argD, isLst, asB, asI, newO_ok, newX_ok, asObj, asNil, asS, gNm, gsNil, gsCons, gTu, wipeE, backE, ownFree, isCls0, appF, bareX, clrX, List.map_cons, List.map_nil, List.length_cons, List.length_nil, List.replicate_succ, List.replicate_zero, List.cons_append, List.nil_append, List.append_nil, List.getElem?_cons_zero, List.getElem?_cons_succ, List.getElem?_nil, List.set_cons_zero, List.set_cons_succ, Option.bind_some, Option.bind_none, Option.map_some, Option.map_none, Option.getD_some, Option.getD_none, sz, Nat.reduceLeDiff, Int.reduceLT, Int.reduceLE, decide_true, decide_false, Int.reduceBEq, Int.reduceBNe, Bool.false_eq_true, if_false, if_true, Bool.false_xor, Bool.true_xor, Bool.not_true, Bool.not_false, Bool.not_not, Nat.reduceSub, Nat.reduceAdd, List.nodup_cons, List.nodup_nil, List.not_mem_nil, List.mem_cons, not_false_eq_true, and_self, true_and, and_true, List.all_cons, List.all_nil, Bool.and_true, Bool.true_and]
    rw [show res d = .str "moves" from if_neg (by rw [hs]; simp)] at h
    exact h
theorem any_ok : ∀ (k : Nat) {m : Nat} {a b : Int} {q : Kc W} {x : Kc Ex}, BxOk a b → k ≤ m → (∀ d a' b', vok d → BxOk a' b' → q.run (false, d) [bx a' b']) →
    wpC (callD dn (m + 4) (("_law_anything" : PySem.Str), none) [(true, bx a b), (false, .int k)]) := by
  intro k
  induction k with
  | zero =>
    intro m a b q x hx hk h
    rw [w_run e__law_anything rfl]
    unfold n__law_anything
    simp only [w_C, w_Var, w_retO, w_bindE, w_evEx, w_evPk, argDat_val, argDat_lend, w_retF, w_retF1, w_P2, w_P1, w_Chain, w_ChainM, w_IfE, w_AndV, w_OrV, w_NotV, w_Tup, w_Lst, w_Slice, w_SliceM, w_evPn, w_evPs, w_PN, w_Call, w_Make, w_makeO, w_Meth, w_Len, w_lenK, w_Str, w_Fmt, w_Join0, w_Join, w_Xf, w_Xi, w_Lc, w_Tru, w_Test, w_And, w_Or, w_Not, w_aNil, w_aCons, w_rNil, w_rVal, w_rLend, w_rPk, w_rDfl, w_rSelf, w_iArgs, w_iSeq, w_Seq, thenS_nx, thenS_rt, thenS_bk, thenS_ct, w_Nx, w_Ret, w_RetN, w_RetV, w_Expr, w_nxO, w_Asg, w_If, w_Unp, w_mutS, w_SetF, w_App, w_Ix, w_Par2, w_Raise, w_Try, w_Try0, w_For, w_Sup, endQ_nx, endQ_rt, sat_some, sat_none, sat_ite, sat_map, sat_bind, selO_some, selO_none, sel_true, sel_false, sel_not, wp_ok, wp_ex, wp_st, wp_ite, f_lt, f_le, f_gt, f_ge, f_add, f_sub, f_mul, f_mod, f_fdiv, f_neg, f_p6, f_p9, f_p12, f_p18, f_p20, f_p30, f_int, f_abs, f_max, f_min, f_sqL, f_sqT, f_sqR, f_lenL, f_lenT, f_lenR, f_at20, f_at21, f_set20, f_set21, f_t10, f_t20, f_t21, f_t30, f_t31, f_t32, f_t40, f_t41, f_t42, f_t43, f_eqI, f_eqS, f_isN, w_Yes, o_lend, o_lst, o_tup, o_rol, o_str, o_obj, startE, pslot, putS_eq, isIo_un, isIo_fz, isIo_ow, isIo_xc, isIo_io, slotOf, slotData, setData, putIos, iosOf, lends, argsD, argD, isLst, asB, asI, newO_ok, newX_ok, asObj, asNil, asS, gNm, gsNil, gsCons, gTu, wipeE, backE, ownFree, isCls0, appF, bareX, clrX, List.map_cons, List.map_nil, List.length_cons, List.length_nil, List.replicate_succ, List.replicate_zero, List.cons_append, List.nil_append, List.append_nil, List.getElem?_cons_zero, List.getElem?_cons_succ, List.getElem?_nil, List.set_cons_zero, List.set_cons_succ, Option.bind_some, Option.bind_none, Option.map_some, Option.map_none, Option.getD_some, Option.getD_none, sz, Nat.reduceLeDiff, Int.reduceLT, Int.reduceLE, decide_true, decide_false, Int.reduceBEq, Int.reduceBNe, Bool.false_eq_true, if_false, if_true, Bool.false_xor, Bool.true_xor, Bool.not_true, Bool.not_false, Bool.not_not, Nat.reduceSub, Nat.reduceAdd, List.nodup_cons, List.nodup_nil, List.not_mem_nil, List.mem_cons, not_false_eq_true, and_self, true_and, and_true, List.all_cons, List.all_nil, Bool.and_true, Bool.true_and]
    refine choose_ok RR.toDraws hx (by omega) (by omega) fun r a1 b1 hx1 r0 r1 => ?_
    simp only [w_C, w_Var, w_retO, w_bindE, w_evEx, w_evPk, argDat_val, argDat_lend, w_retF, w_retF1, w_P2, w_P1, w_Chain, w_ChainM, w_IfE, w_AndV, w_OrV, w_NotV, w_Tup, w_Lst, w_Slice, w_SliceM, w_evPn, w_evPs, w_PN, w_Call, w_Make, w_makeO, w_Meth, w_Len, w_lenK, w_Str, w_Fmt, w_Join0, w_Join, w_Xf, w_Xi, w_Lc, w_Tru, w_Test, w_And, w_Or, w_Not, w_aNil, w_aCons, w_rNil, w_rVal, w_rLend, w_rPk, w_rDfl, w_rSelf, w_iArgs, w_iSeq, w_Seq, thenS_nx, thenS_rt, thenS_bk, thenS_ct, w_Nx, w_Ret, w_RetN, w_RetV, w_Expr, w_nxO, w_Asg, w_If, w_Unp, w_mutS, w_SetF, w_App, w_Ix, w_Par2, w_Raise, w_Try, w_Try0, w_For, w_Sup, endQ_nx, endQ_rt, sat_some, sat_none, sat_ite, sat_map, sat_bind, selO_some, selO_none, sel_true, sel_false, sel_not, wp_ok, wp_ex, wp_st, wp_ite, f_lt, f_le, f_gt, f_ge, f_add, f_sub, f_mul, f_mod, f_fdiv, f_neg, f_p6, f_p9, f_p12, f_p18, f_p20, f_p30, f_int, f_abs, f_max, f_min, f_sqL, f_sqT, f_sqR, f_lenL, f_lenT, f_lenR, f_at20, f_at21, f_set20, f_set21, f_t10, f_t20, f_t21, f_t30, f_t31, f_t32, f_t40, f_t41, f_t42, f_t43, f_eqI, f_eqS, f_isN, w_Yes, o_lend, o_lst, o_tup, o_rol, o_str, o_obj, startE, pslot, putS_eq, isIo_un, isIo_fz, isIo_ow, isIo_xc, isIo_io, slotOf, slotData, setData, putIos, iosOf, lends, argsD, argD, isLst, asB, asI, newO_ok, newX_ok, asObj, asNil, asS, gNm, gsNil, gsCons, gTu, wipeE, backE, ownFree, isCls0, appF, bareX, clrX, List.map_cons, List.map_nil, List.length_cons, List.length_nil, List.replicate_succ, List.replicate_zero, List.cons_append, List.nil_append, List.append_nil, List.getElem?_cons_zero, List.getElem?_cons_succ, List.getElem?_nil, List.set_cons_zero, List.set_cons_succ, Option.bind_some, Option.bind_none, Option.map_some, Option.map_none, Option.getD_some, Option.getD_none, sz, Nat.reduceLeDiff, Int.reduceLT, Int.reduceLE, decide_true, decide_false, Int.reduceBEq, Int.reduceBNe, Bool.false_eq_true, if_false, if_true, Bool.false_xor, Bool.true_xor, Bool.not_true, Bool.not_false, Bool.not_not, Nat.reduceSub, Nat.reduceAdd, List.nodup_cons, List.nodup_nil, List.not_mem_nil, List.mem_cons, not_false_eq_true, and_self, true_and, and_true, List.all_cons, List.all_nil, Bool.and_true, Bool.true_and]
    refine sel_in (fun h1 => ?_) (fun h1 => absurd h1 (by decide))
    simp only [w_C, w_Var, w_retO, w_bindE, w_evEx, w_evPk, argDat_val, argDat_lend, w_retF, w_retF1, w_P2, w_P1, w_Chain, w_ChainM, w_IfE, w_AndV, w_OrV, w_NotV, w_Tup, w_Lst, w_Slice, w_SliceM, w_evPn, w_evPs, w_PN, w_Call, w_Make, w_makeO, w_Meth, w_Len, w_lenK, w_Str, w_Fmt, w_Join0, w_Join, w_Xf, w_Xi, w_Lc, w_Tru, w_Test, w_And, w_Or, w_Not, w_aNil, w_aCons, w_rNil, w_rVal, w_rLend, w_rPk, w_rDfl, w_rSelf, w_iArgs, w_iSeq, w_Seq, thenS_nx, thenS_rt, thenS_bk, thenS_ct, w_Nx, w_Ret, w_RetN, w_RetV, w_Expr, w_nxO, w_Asg, w_If, w_Unp, w_mutS, w_SetF, w_App, w_Ix, w_Par2, w_Raise, w_Try, w_Try0, w_For, w_Sup, endQ_nx, endQ_rt, sat_some, sat_none, sat_ite, sat_map, sat_bind, selO_some, selO_none, sel_true, sel_false, sel_not, wp_ok, wp_ex, wp_st, wp_ite, f_lt, f_le, f_gt, f_ge, f_add, f_sub, f_mul, f_mod, f_fdiv, f_neg, f_p6, f_p9, f_p12, f_p18, f_p20, f_p30, f_int, f_abs, f_max, f_min, f_sqL, f_sqT, f_sqR, f_lenL, f_lenT, f_lenR, f_at20, f_at21, f_set20, f_set21, f_t10, f_t20, f_t21, f_t30, f_t31, f_t32, f_t40, f_t41, f_t42, f_t43, f_eqI, f_eqS, f_isN, w_Yes, o_lend, o_lst, o_tup, o_rol, o_str, o_obj, startE, pslot, putS_eq, isIo_un, isIo_fz, isIo_ow, isIo_xc, isIo_io, slotOf, slotData, setData, putIos, iosOf, lends, argsD, argD, isLst, asB, asI, newO_ok, newX_ok, asObj, asNil, asS, gNm, gsNil, gsCons, gTu, wipeE, backE, ownFree, isCls0, appF, bareX, clrX, List.map_cons, List.map_nil, List.length_cons, List.length_nil, List.replicate_succ, List.replicate_zero, List.cons_append, List.nil_append, List.append_nil, List.getElem?_cons_zero, List.getElem?_cons_succ, List.getElem?_nil, List.set_cons_zero, List.set_cons_succ, Option.bind_some, Option.bind_none, Option.map_some, Option.map_none, Option.getD_some, Option.getD_none, sz, Nat.reduceLeDiff, Int.reduceLT, Int.reduceLE, decide_true, decide_false, Int.reduceBEq, Int.reduceBNe, Bool.false_eq_true, if_false, if_true, Bool.false_xor, Bool.true_xor, Bool.not_true, Bool.not_false, Bool.not_not, Nat.reduceSub, Nat.reduceAdd, List.nodup_cons, List.nodup_nil, List.not_mem_nil, List.mem_cons, not_false_eq_true, and_self, true_and, and_true, List.all_cons, List.all_nil, Bool.and_true, Bool.true_and]
    refine one_ok RR.toDraws hx1 ?_ ?_ fun d a2 b2 hd hx2 => ?_
    · decide
    · decide
    simp only [w_C, w_Var, w_retO, w_bindE, w_evEx, w_evPk, argDat_val, argDat_lend, w_retF, w_retF1, w_P2, w_P1, w_Chain, w_ChainM, w_IfE, w_AndV, w_OrV, w_NotV, w_Tup, w_Lst, w_Slice, w_SliceM, w_evPn, w_evPs, w_PN, w_Call, w_Make, w_makeO, w_Meth, w_Len, w_lenK, w_Str, w_Fmt, w_Join0, w_Join, w_Xf, w_Xi, w_Lc, w_Tru, w_Test, w_And, w_Or, w_Not, w_aNil, w_aCons, w_rNil, w_rVal, w_rLend, w_rPk, w_rDfl, w_rSelf, w_iArgs, w_iSeq, w_Seq, thenS_nx, thenS_rt, thenS_bk, thenS_ct, w_Nx, w_Ret, w_RetN, w_RetV, w_Expr, w_nxO, w_Asg, w_If, w_Unp, w_mutS, w_SetF, w_App, w_Ix, w_Par2, w_Raise, w_Try, w_Try0, w_For, w_Sup, endQ_nx, endQ_rt, sat_some, sat_none, sat_ite, sat_map, sat_bind, selO_some, selO_none, sel_true, sel_false, sel_not, wp_ok, wp_ex, wp_st, wp_ite, f_lt, f_le, f_gt, f_ge, f_add, f_sub, f_mul, f_mod, f_fdiv, f_neg, f_p6, f_p9, f_p12, f_p18, f_p20, f_p30, f_int, f_abs, f_max, f_min, f_sqL, f_sqT, f_sqR, f_lenL, f_lenT, f_lenR, f_at20, f_at21, f_set20, f_set21, f_t10, f_t20, f_t21, f_t30, f_t31, f_t32, f_t40, f_t41, f_t42, f_t43, f_eqI, f_eqS, f_isN, w_Yes, o_lend, o_lst, o_tup, o_rol, o_str, o_obj, startE, pslot, putS_eq, isIo_un, isIo_fz, isIo_ow, isIo_xc, isIo_io, slotOf, slotData, setData, putIos, iosOf, lends, argsD, argD, isLst, asB, asI, newO_ok, newX_ok, asObj, asNil, asS, gNm, gsNil, gsCons, gTu, wipeE, backE, ownFree, isCls0, appF, bareX, clrX, List.map_cons, List.map_nil, List.length_cons, List.length_nil, List.replicate_succ, List.replicate_zero, List.cons_append, List.nil_append, List.append_nil, List.getElem?_cons_zero, List.getElem?_cons_succ, List.getElem?_nil, List.set_cons_zero, List.set_cons_succ, Option.bind_some, Option.bind_none, Option.map_some, Option.map_none, Option.getD_some, Option.getD_none, sz, Nat.reduceLeDiff, Int.reduceLT, Int.reduceLE, decide_true, decide_false, Int.reduceBEq, Int.reduceBNe, Bool.false_eq_true, if_false, if_true, Bool.false_xor, Bool.true_xor, Bool.not_true, Bool.not_false, Bool.not_not, Nat.reduceSub, Nat.reduceAdd, List.nodup_cons, List.nodup_nil, List.not_mem_nil, List.mem_cons, not_false_eq_true, and_self, true_and, and_true, List.all_cons, List.all_nil, Bool.and_true, Bool.true_and]
    refine h d a2 b2 ?_ hx2
    simp only [List.mem_cons, List.not_mem_nil, or_false] at hd
    rcases hd with rfl | rfl | rfl | rfl | rfl | rfl | rfl | rfl | rfl | rfl | rfl | rfl | rfl | rfl | rfl <;> exact ⟨trivial, by simp [items, vtop], by simp [items]⟩
  | succ k ih =>
    intro m a b q x hx hk h
    rw [w_run e__law_anything rfl]
    unfold n__law_anything
    simp only [w_C, w_Var, w_retO, w_bindE, w_evEx, w_evPk, argDat_val, argDat_lend, w_retF, w_retF1, w_P2, w_P1, w_Chain, w_ChainM, w_IfE, w_AndV, w_OrV, w_NotV, w_Tup, w_Lst, w_Slice, w_SliceM, w_evPn, w_evPs, w_PN, w_Call, w_Make, w_makeO, w_Meth, w_Len, w_lenK, w_Str, w_Fmt, w_Join0, w_Join, w_Xf, w_Xi, w_Lc, w_Tru, w_Test, w_And, w_Or, w_Not, w_aNil, w_aCons, w_rNil, w_rVal, w_rLend, w_rPk, w_rDfl, w_rSelf, w_iArgs, w_iSeq, w_Seq, thenS_nx, thenS_rt, thenS_bk, thenS_ct, w_Nx, w_Ret, w_RetN, w_RetV, w_Expr, w_nxO, w_Asg, w_If, w_Unp, w_mutS, w_SetF, w_App, w_Ix, w_Par2, w_Raise, w_Try, w_Try0, w_For, w_Sup, endQ_nx, endQ_rt, sat_some, sat_none, sat_ite, sat_map, sat_bind, selO_some, selO_none, sel_true, sel_false, sel_not, wp_ok, wp_ex, wp_st, wp_ite, f_lt, f_le, f_gt, f_ge, f_add, f_sub, f_mul, f_mod, f_fdiv, f_neg, f_p6, f_p9, f_p12, f_p18, f_p20, f_p30, f_int, f_abs, f_max, f_min, f_sqL, f_sqT, f_sqR, f_lenL, f_lenT, f_lenR, f_at20, f_at21, f_set20, f_set21, f_t10, f_t20, f_t21, f_t30, f_t31, f_t32, f_t40, f_t41, f_t42, f_t43, f_eqI, f_eqS, f_isN, w_Yes, o_lend, o_lst, o_tup, o_rol, o_str, o_obj, startE, pslot, putS_eq, isIo_un, isIo_fz, isIo_ow, isIo_xc, isIo_io, slotOf, slotData, setData, putIos, iosOf, lends, argsD, argD, isLst, asB, asI, newO_ok, newX_ok, asObj, asNil, asS, gNm, gsNil, gsCons, gTu, wipeE, backE, ownFree, isCls0, appF, bareX, clrX, List.map_cons, List.map_nil, List.length_cons, List.length_nil, List.replicate_succ, List.replicate_zero, List.cons_append, List.nil_append, List.append_nil, List.getElem?_cons_zero, List.getElem?_cons_succ, List.getElem?_nil, List.set_cons_zero, List.set_cons_succ, Option.bind_some, Option.bind_none, Option.map_some, Option.map_none, Option.getD_some, Option.getD_none, sz, Nat.reduceLeDiff, Int.reduceLT, Int.reduceLE, decide_true, decide_false, Int.reduceBEq, Int.reduceBNe, Bool.false_eq_true, if_false, if_true, Bool.false_xor, Bool.true_xor, Bool.not_true, Bool.not_false, Bool.not_not, Nat.reduceSub, Nat.reduceAdd, List.nodup_cons, List.nodup_nil, List.not_mem_nil, List.mem_cons, not_false_eq_true, and_self, true_and, and_true, List.all_cons, List.all_nil, Bool.and_true, Bool.true_and]
    refine choose_ok RR.toDraws hx (by omega) (by omega) fun r a1 b1 hx1 r0 r1 => ?_
    simp only [w_C, w_Var, w_retO, w_bindE, w_evEx, w_evPk, argDat_val, argDat_lend, w_retF, w_retF1, w_P2, w_P1, w_Chain, w_ChainM, w_IfE, w_AndV, w_OrV, w_NotV, w_Tup, w_Lst, w_Slice, w_SliceM, w_evPn, w_evPs, w_PN, w_Call, w_Make, w_makeO, w_Meth, w_Len, w_lenK, w_Str, w_Fmt, w_Join0, w_Join, w_Xf, w_Xi, w_Lc, w_Tru, w_Test, w_And, w_Or, w_Not, w_aNil, w_aCons, w_rNil, w_rVal, w_rLend, w_rPk, w_rDfl, w_rSelf, w_iArgs, w_iSeq, w_Seq, thenS_nx, thenS_rt, thenS_bk, thenS_ct, w_Nx, w_Ret, w_RetN, w_RetV, w_Expr, w_nxO, w_Asg, w_If, w_Unp, w_mutS, w_SetF, w_App, w_Ix, w_Par2, w_Raise, w_Try, w_Try0, w_For, w_Sup, endQ_nx, endQ_rt, sat_some, sat_none, sat_ite, sat_map, sat_bind, selO_some, selO_none, sel_true, sel_false, sel_not, wp_ok, wp_ex, wp_st, wp_ite, f_lt, f_le, f_gt, f_ge, f_add, f_sub, f_mul, f_mod, f_fdiv, f_neg, f_p6, f_p9, f_p12, f_p18, f_p20, f_p30, f_int, f_abs, f_max, f_min, f_sqL, f_sqT, f_sqR, f_lenL, f_lenT, f_lenR, f_at20, f_at21, f_set20, f_set21, f_t10, f_t20, f_t21, f_t30, f_t31, f_t32, f_t40, f_t41, f_t42, f_t43, f_eqI, f_eqS, f_isN, w_Yes, o_lend, o_lst, o_tup, o_rol, o_str, o_obj, startE, pslot, putS_eq, isIo_un, isIo_fz, isIo_ow, isIo_xc, isIo_io, slotOf, slotData, setData, putIos, iosOf, lends, argsD, argD, isLst, asB, asI, newO_ok, newX_ok, asObj, asNil, asS, gNm, gsNil, gsCons, gTu, wipeE, backE, ownFree, isCls0, appF, bareX, clrX, List.map_cons, List.map_nil, List.length_cons, List.length_nil, List.replicate_succ, List.replicate_zero, List.cons_append, List.nil_append, List.append_nil, List.getElem?_cons_zero, List.getElem?_cons_succ, List.getElem?_nil, List.set_cons_zero, List.set_cons_succ, Option.bind_some, Option.bind_none, Option.map_some, Option.map_none, Option.getD_some, Option.getD_none, sz, Nat.reduceLeDiff, Int.reduceLT, Int.reduceLE, decide_true, decide_false, Int.reduceBEq, Int.reduceBNe, Bool.false_eq_true, if_false, if_true, Bool.false_xor, Bool.true_xor, Bool.not_true, Bool.not_false, Bool.not_not, Nat.reduceSub, Nat.reduceAdd, List.nodup_cons, List.nodup_nil, List.not_mem_nil, List.mem_cons, not_false_eq_true, and_self, true_and, and_true, List.all_cons, List.all_nil, Bool.and_true, Bool.true_and]
    refine sel_in (fun h1 => absurd (of_decide_eq_true h1) (by omega)) (fun h1 => ?_)
    simp only [w_C, w_Var, w_retO, w_bindE, w_evEx, w_evPk, argDat_val, argDat_lend, w_retF, w_retF1, w_P2, w_P1, w_Chain, w_ChainM, w_IfE, w_AndV, w_OrV, w_NotV, w_Tup, w_Lst, w_Slice, w_SliceM, w_evPn, w_evPs, w_PN, w_Call, w_Make, w_makeO, w_Meth, w_Len, w_lenK, w_Str, w_Fmt, w_Join0, w_Join, w_Xf, w_Xi, w_Lc, w_Tru, w_Test, w_And, w_Or, w_Not, w_aNil, w_aCons, w_rNil, w_rVal, w_rLend, w_rPk, w_rDfl, w_rSelf, w_iArgs, w_iSeq, w_Seq, thenS_nx, thenS_rt, thenS_bk, thenS_ct, w_Nx, w_Ret, w_RetN, w_RetV, w_Expr, w_nxO, w_Asg, w_If, w_Unp, w_mutS, w_SetF, w_App, w_Ix, w_Par2, w_Raise, w_Try, w_Try0, w_For, w_Sup, endQ_nx, endQ_rt, sat_some, sat_none, sat_ite, sat_map, sat_bind, selO_some, selO_none, sel_true, sel_false, sel_not, wp_ok, wp_ex, wp_st, wp_ite, f_lt, f_le, f_gt, f_ge, f_add, f_sub, f_mul, f_mod, f_fdiv, f_neg, f_p6, f_p9, f_p12, f_p18, f_p20, f_p30, f_int, f_abs, f_max, f_min, f_sqL, f_sqT, f_sqR, f_lenL, f_lenT, f_lenR, f_at20, f_at21, f_set20, f_set21, f_t10, f_t20, f_t21, f_t30, f_t31, f_t32, f_t40, f_t41, f_t42, f_t43, f_eqI, f_eqS, f_isN, w_Yes, o_lend, o_lst, o_tup, o_rol, o_str, o_obj, startE, pslot, putS_eq, isIo_un, isIo_fz, isIo_ow, isIo_xc, isIo_io, slotOf, slotData, setData, putIos, iosOf, lends, argsD, argD, isLst, asB, asI, newO_ok, newX_ok, asObj, asNil, asS, gNm, gsNil, gsCons, gTu, wipeE, backE, ownFree, isCls0, appF, bareX, clrX, List.map_cons, List.map_nil, List.length_cons, List.length_nil, List.replicate_succ, List.replicate_zero, List.cons_append, List.nil_append, List.append_nil, List.getElem?_cons_zero, List.getElem?_cons_succ, List.getElem?_nil, List.set_cons_zero, List.set_cons_succ, Option.bind_some, Option.bind_none, Option.map_some, Option.map_none, Option.getD_some, Option.getD_none, sz, Nat.reduceLeDiff, Int.reduceLT, Int.reduceLE, decide_true, decide_false, Int.reduceBEq, Int.reduceBNe, Bool.false_eq_true, if_false, if_true, Bool.false_xor, Bool.true_xor, Bool.not_true, Bool.not_false, Bool.not_not, Nat.reduceSub, Nat.reduceAdd, List.nodup_cons, List.nodup_nil, List.not_mem_nil, List.mem_cons, not_false_eq_true, and_self, true_and, and_true, List.all_cons, List.all_nil, Bool.and_true, Bool.true_and]
    refine sel_in (fun h2 => ?_) (fun h2 => ?_)
    · simp only [w_C, w_Var, w_retO, w_bindE, w_evEx, w_evPk, argDat_val, argDat_lend, w_retF, w_retF1, w_P2, w_P1, w_Chain, w_ChainM, w_IfE, w_AndV, w_OrV, w_NotV, w_Tup, w_Lst, w_Slice, w_SliceM, w_evPn, w_evPs, w_PN, w_Call, w_Make, w_makeO, w_Meth, w_Len, w_lenK, w_Str, w_Fmt, w_Join0, w_Join, w_Xf, w_Xi, w_Lc, w_Tru, w_Test, w_And, w_Or, w_Not, w_aNil, w_aCons, w_rNil, w_rVal, w_rLend, w_rPk, w_rDfl, w_rSelf, w_iArgs, w_iSeq, w_Seq, thenS_nx, thenS_rt, thenS_bk, thenS_ct, w_Nx, w_Ret, w_RetN, w_RetV, w_Expr, w_nxO, w_Asg, w_If, w_Unp, w_mutS, w_SetF, w_App, w_Ix, w_Par2, w_Raise, w_Try, w_Try0, w_For, w_Sup, endQ_nx, endQ_rt, sat_some, sat_none, sat_ite, sat_map, sat_bind, selO_some, selO_none, sel_true, sel_false, sel_not, wp_ok, wp_ex, wp_st, wp_ite, f_lt, f_le, f_gt, f_ge, f_add, f_sub, f_mul, f_mod, f_fdiv, f_neg, f_p6, f_p9, f_p12, f_p18, f_p20, f_p30, f_int, f_abs, f_max, f_min, f_sqL, f_sqT, f_sqR, f_lenL, f_lenT, f_lenR, f_at20, f_at21, f_set20, f_set21, f_t10, f_t20, f_t21, f_t30, f_t31, f_t32, f_t40, f_t41, f_t42, f_t43, f_eqI, f_eqS, f_isN, w_Yes, o_lend, o_lst, o_tup, o_rol, o_str, o_obj, startE, pslot, putS_eq, isIo_un, isIo_fz, isIo_ow, isIo_xc, isIo_io, slotOf, slotData, setData, putIos, iosOf, lends, argsD, argD, isLst, asB, asI, newO_ok, newX_ok, asObj, asNil, asS, gNm, gsNil, gsCons, gTu, wipeE, backE, ownFree, isCls0, appF, bareX, clrX, List.map_cons, List.map_nil, List.length_cons, List.length_nil, List.replicate_succ, List.replicate_zero, List.cons_append, List.nil_append, List.append_nil, List.getElem?_cons_zero, List.getElem?_cons_succ, List.getElem?_nil, List.set_cons_zero, List.set_cons_succ, Option.bind_some, Option.bind_none, Option.map_some, Option.map_none, Option.getD_some, Option.getD_none, sz, Nat.reduceLeDiff, Int.reduceLT, Int.reduceLE, decide_true, decide_false, Int.reduceBEq, Int.reduceBNe, Bool.false_eq_true, if_false, if_true, Bool.false_xor, Bool.true_xor, Bool.not_true, Bool.not_false, Bool.not_not, Nat.reduceSub, Nat.reduceAdd, List.nodup_cons, List.nodup_nil, List.not_mem_nil, List.mem_cons, not_false_eq_true, and_self, true_and, and_true, List.all_cons, List.all_nil, Bool.and_true, Bool.true_and]
      refine one_ok RR.toDraws hx1 ?_ ?_ fun d a2 b2 hd hx2 => ?_
      · decide
      · decide
      simp only [w_C, w_Var, w_retO, w_bindE, w_evEx, w_evPk, argDat_val, argDat_lend, w_retF, w_retF1, w_P2, w_P1, w_Chain, w_ChainM, w_IfE, w_AndV, w_OrV, w_NotV, w_Tup, w_Lst, w_Slice, w_SliceM, w_evPn, w_evPs, w_PN, w_Call, w_Make, w_makeO, w_Meth, w_Len, w_lenK, w_Str, w_Fmt, w_Join0, w_Join, w_Xf, w_Xi, w_Lc, w_Tru, w_Test, w_And, w_Or, w_Not, w_aNil, w_aCons, w_rNil, w_rVal, w_rLend, w_rPk, w_rDfl, w_rSelf, w_iArgs, w_iSeq, w_Seq, thenS_nx, thenS_rt, thenS_bk, thenS_ct, w_Nx, w_Ret, w_RetN, w_RetV, w_Expr, w_nxO, w_Asg, w_If, w_Unp, w_mutS, w_SetF, w_App, w_Ix, w_Par2, w_Raise, w_Try, w_Try0, w_For, w_Sup, endQ_nx, endQ_rt, sat_some, sat_none, sat_ite, sat_map, sat_bind, selO_some, selO_none, sel_true, sel_false, sel_not, wp_ok, wp_ex, wp_st, wp_ite, f_lt, f_le, f_gt, f_ge, f_add, f_sub, f_mul, f_mod, f_fdiv, f_neg, f_p6, f_p9, f_p12, f_p18, f_p20, f_p30, f_int, f_abs, f_max, f_min, f_sqL, f_sqT, f_sqR, f_lenL, f_lenT, f_lenR, f_at20, f_at21, f_set20, f_set21, f_t10, f_t20, f_t21, f_t30, f_t31, f_t32, f_t40, f_t41, f_t42, f_t43, f_eqI, f_eqS, f_isN, w_Yes, o_lend, o_lst, o_tup, o_rol, o_str, o_obj, startE, pslot, putS_eq, isIo_un, isIo_fz, isIo_ow, isIo_xc, isIo_io, slotOf, slotData, setData, putIos, iosOf, lends, argsD, argD, isLst, asB, asI, newO_ok, newX_ok, asObj, asNil, asS, gNm, gsNil, gsCons, gTu, wipeE, backE, ownFree, isCls0, appF, bareX, clrX, List.map_cons, List.map_nil, List.length_cons, List.length_nil, List.replicate_succ, List.replicate_zero, List.cons_append, List.nil_append, List.append_nil, List.getElem?_cons_zero, List.getElem?_cons_succ, List.getElem?_nil, List.set_cons_zero, List.set_cons_succ, Option.bind_some, Option.bind_none, Option.map_some, Option.map_none, Option.getD_some, Option.getD_none, sz, Nat.reduceLeDiff, Int.reduceLT, Int.reduceLE, decide_true, decide_false, Int.reduceBEq, Int.reduceBNe, Bool.false_eq_true, if_false, if_true, Bool.false_xor, Bool.true_xor, Bool.not_true, Bool.not_false, Bool.not_not, Nat.reduceSub, Nat.reduceAdd, List.nodup_cons, List.nodup_nil, List.not_mem_nil, List.mem_cons, not_false_eq_true, and_self, true_and, and_true, List.all_cons, List.all_nil, Bool.and_true, Bool.true_and]
      refine h d a2 b2 ?_ hx2
      simp only [List.mem_cons, List.not_mem_nil, or_false] at hd
      rcases hd with rfl | rfl | rfl | rfl | rfl | rfl | rfl | rfl | rfl | rfl | rfl | rfl | rfl | rfl | rfl <;> exact ⟨trivial, by simp [items, vtop], by simp [items]⟩
    · simp only [w_C, w_Var, w_retO, w_bindE, w_evEx, w_evPk, argDat_val, argDat_lend, w_retF, w_retF1, w_P2, w_P1, w_Chain, w_ChainM, w_IfE, w_AndV, w_OrV, w_NotV, w_Tup, w_Lst, w_Slice, w_SliceM, w_evPn, w_evPs, w_PN, w_Call, w_Make, w_makeO, w_Meth, w_Len, w_lenK, w_Str, w_Fmt, w_Join0, w_Join, w_Xf, w_Xi, w_Lc, w_Tru, w_Test, w_And, w_Or, w_Not, w_aNil, w_aCons, w_rNil, w_rVal, w_rLend, w_rPk, w_rDfl, w_rSelf, w_iArgs, w_iSeq, w_Seq, thenS_nx, thenS_rt, thenS_bk, thenS_ct, w_Nx, w_Ret, w_RetN, w_RetV, w_Expr, w_nxO, w_Asg, w_If, w_Unp, w_mutS, w_SetF, w_App, w_Ix, w_Par2, w_Raise, w_Try, w_Try0, w_For, w_Sup, endQ_nx, endQ_rt, sat_some, sat_none, sat_ite, sat_map, sat_bind, selO_some, selO_none, sel_true, sel_false, sel_not, wp_ok, wp_ex, wp_st, wp_ite, f_lt, f_le, f_gt, f_ge, f_add, f_sub, f_mul, f_mod, f_fdiv, f_neg, f_p6, f_p9, f_p12, f_p18, f_p20, f_p30, f_int, f_abs, f_max, f_min, f_sqL, f_sqT, f_sqR, f_lenL, f_lenT, f_lenR, f_at20, f_at21, f_set20, f_set21, f_t10, f_t20, f_t21, f_t30, f_t31, f_t32, f_t40, f_t41, f_t42, f_t43, f_eqI, f_eqS, f_isN, w_Yes, o_lend, o_lst, o_tup, o_rol, o_str, o_obj, startE, pslot, putS_eq, isIo_un, isIo_fz, isIo_ow, isIo_xc, isIo_io, slotOf, slotData, setData, putIos, iosOf, lends, argsD, argD, isLst, asB, asI, newO_ok, newX_ok, asObj, asNil, asS, gNm, gsNil, gsCons, gTu, wipeE, backE, ownFree, isCls0, appF, bareX, clrX, List.map_cons, List.map_nil, List.length_cons, List.length_nil, List.replicate_succ, List.replicate_zero, List.cons_append, List.nil_append, List.append_nil, List.getElem?_cons_zero, List.getElem?_cons_succ, List.getElem?_nil, List.set_cons_zero, List.set_cons_succ, Option.bind_some, Option.bind_none, Option.map_some, Option.map_none, Option.getD_some, Option.getD_none, sz, Nat.reduceLeDiff, Int.reduceLT, Int.reduceLE, decide_true, decide_false, Int.reduceBEq, Int.reduceBNe, Bool.false_eq_true, if_false, if_true, Bool.false_xor, Bool.true_xor, Bool.not_true, Bool.not_false, Bool.not_not, Nat.reduceSub, Nat.reduceAdd, List.nodup_cons, List.nodup_nil, List.not_mem_nil, List.mem_cons, not_false_eq_true, and_self, true_and, and_true, List.all_cons, List.all_nil, Bool.and_true, Bool.true_and]
      refine choose_ok RR.toDraws hx1 (by omega) (by omega) fun r2 a2 b2 hx2 p0 p1 => ?_
      simp only [w_C, w_Var, w_retO, w_bindE, w_evEx, w_evPk, argDat_val, argDat_lend, w_retF, w_retF1, w_P2, w_P1, w_Chain, w_ChainM, w_IfE, w_AndV, w_OrV, w_NotV, w_Tup, w_Lst, w_Slice, w_SliceM, w_evPn, w_evPs, w_PN, w_Call, w_Make, w_makeO, w_Meth, w_Len, w_lenK, w_Str, w_Fmt, w_Join0, w_Join, w_Xf, w_Xi, w_Lc, w_Tru, w_Test, w_And, w_Or, w_Not, w_aNil, w_aCons, w_rNil, w_rVal, w_rLend, w_rPk, w_rDfl, w_rSelf, w_iArgs, w_iSeq, w_Seq, thenS_nx, thenS_rt, thenS_bk, thenS_ct, w_Nx, w_Ret, w_RetN, w_RetV, w_Expr, w_nxO, w_Asg, w_If, w_Unp, w_mutS, w_SetF, w_App, w_Ix, w_Par2, w_Raise, w_Try, w_Try0, w_For, w_Sup, endQ_nx, endQ_rt, sat_some, sat_none, sat_ite, sat_map, sat_bind, selO_some, selO_none, sel_true, sel_false, sel_not, wp_ok, wp_ex, wp_st, wp_ite, f_lt, f_le, f_gt, f_ge, f_add, f_sub, f_mul, f_mod, f_fdiv, f_neg, f_p6, f_p9, f_p12, f_p18, f_p20, f_p30, f_int, f_abs, f_max, f_min, f_sqL, f_sqT, f_sqR, f_lenL, f_lenT, f_lenR, f_at20, f_at21, f_set20, f_set21, f_t10, f_t20, f_t21, f_t30, f_t31, f_t32, f_t40, f_t41, f_t42, f_t43, f_eqI, f_eqS, f_isN, w_Yes, o_lend, o_lst, o_tup, o_rol, o_str, o_obj, startE, pslot, putS_eq, isIo_un, isIo_fz, isIo_ow, isIo_xc, isIo_io, slotOf, slotData, setData, putIos, iosOf, lends, argsD, argD, isLst, asB, asI, newO_ok, newX_ok, asObj, asNil, asS, gNm, gsNil, gsCons, gTu, wipeE, backE, ownFree, isCls0, appF, bareX, clrX, List.map_cons, List.map_nil, List.length_cons, List.length_nil, List.replicate_succ, List.replicate_zero, List.cons_append, List.nil_append, List.append_nil, List.getElem?_cons_zero, List.getElem?_cons_succ, List.getElem?_nil, List.set_cons_zero, List.set_cons_succ, Option.bind_some, Option.bind_none, Option.map_some, Option.map_none, Option.getD_some, Option.getD_none, sz, Nat.reduceLeDiff, Int.reduceLT, Int.reduceLE, decide_true, decide_false, Int.reduceBEq, Int.reduceBNe, Bool.false_eq_true, if_false, if_true, Bool.false_xor, Bool.true_xor, Bool.not_true, Bool.not_false, Bool.not_not, Nat.reduceSub, Nat.reduceAdd, List.nodup_cons, List.nodup_nil, List.not_mem_nil, List.mem_cons, not_false_eq_true, and_self, true_and, and_true, List.all_cons, List.all_nil, Bool.and_true, Bool.true_and, f_range p0 (by omega)]
      refine lc_inv (fun ds acc e => acc.length + ds.length ≤ 3 ∧ (∀ x ∈ acc, vtop x) ∧ ∃ a b, BxOk a b ∧ e = [.io (bx a b), .fz (.int ((k + 1 : Nat) : Int)), .fz (.int r), .un, .un, .un]) (fun acc e hI => ?_) (fun d rest acc e hI => ?_) _ [] _ ⟨?_, by simp, a2, b2, hx2, rfl⟩
      · obtain ⟨hl, hv, a3, b3, hx3, rfl⟩ := hI
        simp at hl
        simp only [w_C, w_Var, w_retO, w_bindE, w_evEx, w_evPk, argDat_val, argDat_lend, w_retF, w_retF1, w_P2, w_P1, w_Chain, w_ChainM, w_IfE, w_AndV, w_OrV, w_NotV, w_Tup, w_Lst, w_Slice, w_SliceM, w_evPn, w_evPs, w_PN, w_Call, w_Make, w_makeO, w_Meth, w_Len, w_lenK, w_Str, w_Fmt, w_Join0, w_Join, w_Xf, w_Xi, w_Lc, w_Tru, w_Test, w_And, w_Or, w_Not, w_aNil, w_aCons, w_rNil, w_rVal, w_rLend, w_rPk, w_rDfl, w_rSelf, w_iArgs, w_iSeq, w_Seq, thenS_nx, thenS_rt, thenS_bk, thenS_ct, w_Nx, w_Ret, w_RetN, w_RetV, w_Expr, w_nxO, w_Asg, w_If, w_Unp, w_mutS, w_SetF, w_App, w_Ix, w_Par2, w_Raise, w_Try, w_Try0, w_For, w_Sup, endQ_nx, endQ_rt, sat_some, sat_none, sat_ite, sat_map, sat_bind, selO_some, selO_none, sel_true, sel_false, sel_not, wp_ok, wp_ex, wp_st, wp_ite, f_lt, f_le, f_gt, f_ge, f_add, f_sub, f_mul, f_mod, f_fdiv, f_neg, f_p6, f_p9, f_p12, f_p18, f_p20, f_p30, f_int, f_abs, f_max, f_min, f_sqL, f_sqT, f_sqR, f_lenL, f_lenT, f_lenR, f_at20, f_at21, f_set20, f_set21, f_t10, f_t20, f_t21, f_t30, f_t31, f_t32, f_t40, f_t41, f_t42, f_t43, f_eqI, f_eqS, f_isN, w_Yes, o_lend, o_lst, o_tup, o_rol, o_str, o_obj, startE, pslot, putS_eq, isIo_un, isIo_fz, isIo_ow, isIo_xc, isIo_io, slotOf, slotData, setData, putIos, iosOf, lends, argsD, argD, isLst, asB, asI, newO_ok, newX_ok, asObj, asNil, asS, gNm, gsNil, gsCons, gTu, wipeE, backE, ownFree, isCls0, appF, bareX, clrX, List.map_cons, List.map_nil, List.length_cons, List.length_nil, List.replicate_succ, List.replicate_zero, List.cons_append, List.nil_append, List.append_nil, List.getElem?_cons_zero, List.getElem?_cons_succ, List.getElem?_nil, List.set_cons_zero, List.set_cons_succ, Option.bind_some, Option.bind_none, Option.map_some, Option.map_none, Option.getD_some, Option.getD_none, sz, Nat.reduceLeDiff, Int.reduceLT, Int.reduceLE, decide_true, decide_false, Int.reduceBEq, Int.reduceBNe, Bool.false_eq_true, if_false, if_true, Bool.false_xor, Bool.true_xor, Bool.not_true, Bool.not_false, Bool.not_not, Nat.reduceSub, Nat.reduceAdd, List.nodup_cons, List.nodup_nil, List.not_mem_nil, List.mem_cons, not_false_eq_true, and_self, true_and, and_true, List.all_cons, List.all_nil, Bool.and_true, Bool.true_and]
        refine sel_in (fun h3 => ?_) (fun h3 => ?_)
        · simp only [w_C, w_Var, w_retO, w_bindE, w_evEx, w_evPk, argDat_val, argDat_lend, w_retF, w_retF1, w_P2, w_P1, w_Chain, w_ChainM, w_IfE, w_AndV, w_OrV, w_NotV, w_Tup, w_Lst, w_Slice, w_SliceM, w_evPn, w_evPs, w_PN, w_Call, w_Make, w_makeO, w_Meth, w_Len, w_lenK, w_Str, w_Fmt, w_Join0, w_Join, w_Xf, w_Xi, w_Lc, w_Tru, w_Test, w_And, w_Or, w_Not, w_aNil, w_aCons, w_rNil, w_rVal, w_rLend, w_rPk, w_rDfl, w_rSelf, w_iArgs, w_iSeq, w_Seq, thenS_nx, thenS_rt, thenS_bk, thenS_ct, w_Nx, w_Ret, w_RetN, w_RetV, w_Expr, w_nxO, w_Asg, w_If, w_Unp, w_mutS, w_SetF, w_App, w_Ix, w_Par2, w_Raise, w_Try, w_Try0, w_For, w_Sup, endQ_nx, endQ_rt, sat_some, sat_none, sat_ite, sat_map, sat_bind, selO_some, selO_none, sel_true, sel_false, sel_not, wp_ok, wp_ex, wp_st, wp_ite, f_lt, f_le, f_gt, f_ge, f_add, f_sub, f_mul, f_mod, f_fdiv, f_neg, f_p6, f_p9, f_p12, f_p18, f_p20, f_p30, f_int, f_abs, f_max, f_min, f_sqL, f_sqT, f_sqR, f_lenL, f_lenT, f_lenR, f_at20, f_at21, f_set20, f_set21, f_t10, f_t20, f_t21, f_t30, f_t31, f_t32, f_t40, f_t41, f_t42, f_t43, f_eqI, f_eqS, f_isN, w_Yes, o_lend, o_lst, o_tup, o_rol, o_str, o_obj, startE, pslot, putS_eq, isIo_un, isIo_fz, isIo_ow, isIo_xc, isIo_io, slotOf, slotData, setData, putIos, iosOf, lends, argsD, argD, isLst, asB, asI, newO_ok, newX_ok, asObj, asNil, asS, gNm, gsNil, gsCons, gTu, wipeE, backE, ownFree, isCls0, appF, bareX, clrX, List.map_cons, List.map_nil, List.length_cons, List.length_nil, List.replicate_succ, List.replicate_zero, List.cons_append, List.nil_append, List.append_nil, List.getElem?_cons_zero, List.getElem?_cons_succ, List.getElem?_nil, List.set_cons_zero, List.set_cons_succ, Option.bind_some, Option.bind_none, Option.map_some, Option.map_none, Option.getD_some, Option.getD_none, sz, Nat.reduceLeDiff, Int.reduceLT, Int.reduceLE, decide_true, decide_false, Int.reduceBEq, Int.reduceBNe, Bool.false_eq_true, if_false, if_true, Bool.false_xor, Bool.true_xor, Bool.not_true, Bool.not_false, Bool.not_not, Nat.reduceSub, Nat.reduceAdd, List.nodup_cons, List.nodup_nil, List.not_mem_nil, List.mem_cons, not_false_eq_true, and_self, true_and, and_true, List.all_cons, List.all_nil, Bool.and_true, Bool.true_and, tupleF]
          exact h _ _ _ ⟨trivial, hv, by simp [items]; omega⟩ hx3
        · simp only [w_C, w_Var, w_retO, w_bindE, w_evEx, w_evPk, argDat_val, argDat_lend, w_retF, w_retF1, w_P2, w_P1, w_Chain, w_ChainM, w_IfE, w_AndV, w_OrV, w_NotV, w_Tup, w_Lst, w_Slice, w_SliceM, w_evPn, w_evPs, w_PN, w_Call, w_Make, w_makeO, w_Meth, w_Len, w_lenK, w_Str, w_Fmt, w_Join0, w_Join, w_Xf, w_Xi, w_Lc, w_Tru, w_Test, w_And, w_Or, w_Not, w_aNil, w_aCons, w_rNil, w_rVal, w_rLend, w_rPk, w_rDfl, w_rSelf, w_iArgs, w_iSeq, w_Seq, thenS_nx, thenS_rt, thenS_bk, thenS_ct, w_Nx, w_Ret, w_RetN, w_RetV, w_Expr, w_nxO, w_Asg, w_If, w_Unp, w_mutS, w_SetF, w_App, w_Ix, w_Par2, w_Raise, w_Try, w_Try0, w_For, w_Sup, endQ_nx, endQ_rt, sat_some, sat_none, sat_ite, sat_map, sat_bind, selO_some, selO_none, sel_true, sel_false, sel_not, wp_ok, wp_ex, wp_st, wp_ite, f_lt, f_le, f_gt, f_ge, f_add, f_sub, f_mul, f_mod, f_fdiv, f_neg, f_p6, f_p9, f_p12, f_p18, f_p20, f_p30, f_int, f_abs, f_max, f_min, f_sqL, f_sqT, f_sqR, f_lenL, f_lenT, f_lenR, f_at20, f_at21, f_set20, f_set21, f_t10, f_t20, f_t21, f_t30, f_t31, f_t32, f_t40, f_t41, f_t42, f_t43, f_eqI, f_eqS, f_isN, w_Yes, o_lend, o_lst, o_tup, o_rol, o_str, o_obj, startE, pslot, putS_eq, isIo_un, isIo_fz, isIo_ow, isIo_xc, isIo_io, slotOf, slotData, setData, putIos, iosOf, lends, argsD, argD, isLst, asB, asI, newO_ok, newX_ok, asObj, asNil, asS, gNm, gsNil, gsCons, gTu, wipeE, backE, ownFree, isCls0, appF, bareX, clrX, List.map_cons, List.map_nil, List.length_cons, List.length_nil, List.replicate_succ, List.replicate_zero, List.cons_append, List.nil_append, List.append_nil, List.getElem?_cons_zero, List.getElem?_cons_succ, List.getElem?_nil, List.set_cons_zero, List.set_cons_succ, Option.bind_some, Option.bind_none, Option.map_some, Option.map_none, Option.getD_some, Option.getD_none, sz, Nat.reduceLeDiff, Int.reduceLT, Int.reduceLE, decide_true, decide_false, Int.reduceBEq, Int.reduceBNe, Bool.false_eq_true, if_false, if_true, Bool.false_xor, Bool.true_xor, Bool.not_true, Bool.not_false, Bool.not_not, Nat.reduceSub, Nat.reduceAdd, List.nodup_cons, List.nodup_nil, List.not_mem_nil, List.mem_cons, not_false_eq_true, and_self, true_and, and_true, List.all_cons, List.all_nil, Bool.and_true, Bool.true_and]
          exact h _ _ _ ⟨trivial, hv, by simp [items]; omega⟩ hx3
      · obtain ⟨hl, hv, a3, b3, hx3, rfl⟩ := hI
        obtain ⟨m, rfl⟩ : ∃ m', m = m' + 1 := ⟨m - 1, by omega⟩
        simp only [w_C, w_Var, w_retO, w_bindE, w_evEx, w_evPk, argDat_val, argDat_lend, w_retF, w_retF1, w_P2, w_P1, w_Chain, w_ChainM, w_IfE, w_AndV, w_OrV, w_NotV, w_Tup, w_Lst, w_Slice, w_SliceM, w_evPn, w_evPs, w_PN, w_Call, w_Make, w_makeO, w_Meth, w_Len, w_lenK, w_Str, w_Fmt, w_Join0, w_Join, w_Xf, w_Xi, w_Lc, w_Tru, w_Test, w_And, w_Or, w_Not, w_aNil, w_aCons, w_rNil, w_rVal, w_rLend, w_rPk, w_rDfl, w_rSelf, w_iArgs, w_iSeq, w_Seq, thenS_nx, thenS_rt, thenS_bk, thenS_ct, w_Nx, w_Ret, w_RetN, w_RetV, w_Expr, w_nxO, w_Asg, w_If, w_Unp, w_mutS, w_SetF, w_App, w_Ix, w_Par2, w_Raise, w_Try, w_Try0, w_For, w_Sup, endQ_nx, endQ_rt, sat_some, sat_none, sat_ite, sat_map, sat_bind, selO_some, selO_none, sel_true, sel_false, sel_not, wp_ok, wp_ex, wp_st, wp_ite, f_lt, f_le, f_gt, f_ge, f_add, f_sub, f_mul, f_mod, f_fdiv, f_neg, f_p6, f_p9, f_p12, f_p18, f_p20, f_p30, f_int, f_abs, f_max, f_min, f_sqL, f_sqT, f_sqR, f_lenL, f_lenT, f_lenR, f_at20, f_at21, f_set20, f_set21, f_t10, f_t20, f_t21, f_t30, f_t31, f_t32, f_t40, f_t41, f_t42, f_t43, f_eqI, f_eqS, f_isN, w_Yes, o_lend, o_lst, o_tup, o_rol, o_str, o_obj, startE, pslot, putS_eq, isIo_un, isIo_fz, isIo_ow, isIo_xc, isIo_io, slotOf, slotData, setData, putIos, iosOf, lends, argsD, argD, isLst, asB, asI, newO_ok, newX_ok, asObj, asNil, asS, gNm, gsNil, gsCons, gTu, wipeE, backE, ownFree, isCls0, appF, bareX, clrX, List.map_cons, List.map_nil, List.length_cons, List.length_nil, List.replicate_succ, List.replicate_zero, List.cons_append, List.nil_append, List.append_nil, List.getElem?_cons_zero, List.getElem?_cons_succ, List.getElem?_nil, List.set_cons_zero, List.set_cons_succ, Option.bind_some, Option.bind_none, Option.map_some, Option.map_none, Option.getD_some, Option.getD_none, sz, Nat.reduceLeDiff, Int.reduceLT, Int.reduceLE, decide_true, decide_false, Int.reduceBEq, Int.reduceBNe, Bool.false_eq_true, if_false, if_true, Bool.false_xor, Bool.true_xor, Bool.not_true, Bool.not_false, Bool.not_not, Nat.reduceSub, Nat.reduceAdd, List.nodup_cons, List.nodup_nil, List.not_mem_nil, List.mem_cons, not_false_eq_true, and_self, true_and, and_true, List.all_cons, List.all_nil, Bool.and_true, Bool.true_and]
        rw [show ((k + 1 : Nat) : Int) - 1 = k by omega]
        refine ih hx3 (by omega) fun d' a4 b4 hd hx4 => ?_
        simp only [w_C, w_Var, w_retO, w_bindE, w_evEx, w_evPk, argDat_val, argDat_lend, w_retF, w_retF1, w_P2, w_P1, w_Chain, w_ChainM, w_IfE, w_AndV, w_OrV, w_NotV, w_Tup, w_Lst, w_Slice, w_SliceM, w_evPn, w_evPs, w_PN, w_Call, w_Make, w_makeO, w_Meth, w_Len, w_lenK, w_Str, w_Fmt, w_Join0, w_Join, w_Xf, w_Xi, w_Lc, w_Tru, w_Test, w_And, w_Or, w_Not, w_aNil, w_aCons, w_rNil, w_rVal, w_rLend, w_rPk, w_rDfl, w_rSelf, w_iArgs, w_iSeq, w_Seq, thenS_nx, thenS_rt, thenS_bk, thenS_ct, w_Nx, w_Ret, w_RetN, w_RetV, w_Expr, w_nxO, w_Asg, w_If, w_Unp, w_mutS, w_SetF, w_App, w_Ix, w_Par2, w_Raise, w_Try, w_Try0, w_For, w_Sup, endQ_nx, endQ_rt, sat_some, sat_none, sat_ite, sat_map, sat_bind, selO_some, selO_none, sel_true, sel_false, sel_not, wp_ok, wp_ex, wp_st, wp_ite, f_lt, f_le, f_gt, f_ge, f_add, f_sub, f_mul, f_mod, f_fdiv, f_neg, f_p6, f_p9, f_p12, f_p18, f_p20, f_p30, f_int, f_abs, f_max, f_min, f_sqL, f_sqT, f_sqR, f_lenL, f_lenT, f_lenR, f_at20, f_at21, f_set20, f_set21, f_t10, f_t20, f_t21, f_t30, f_t31, f_t32, f_t40, f_t41, f_t42, f_t43, f_eqI, f_eqS, f_isN, w_Yes, o_lend, o_lst, o_tup, o_rol, o_str, o_obj, startE, pslot, putS_eq, isIo_un, isIo_fz, isIo_ow, isIo_xc, isIo_io, slotOf, slotData, setData, putIos, iosOf, lends, argsD, argD, isLst, asB, asI, newO_ok, newX_ok, asObj, asNil, asS, gNm, gsNil, gsCons, gTu, wipeE, backE, ownFree, isCls0, appF, bareX, clrX, List.map_cons, List.map_nil, List.length_cons, List.length_nil, List.replicate_succ, List.replicate_zero, List.cons_append, List.nil_append, List.append_nil, List.getElem?_cons_zero, List.getElem?_cons_succ, List.getElem?_nil, List.set_cons_zero, List.set_cons_succ, Option.bind_some, Option.bind_none, Option.map_some, Option.map_none, Option.getD_some, Option.getD_none, sz, Nat.reduceLeDiff, Int.reduceLT, Int.reduceLE, decide_true, decide_false, Int.reduceBEq, Int.reduceBNe, Bool.false_eq_true, if_false, if_true, Bool.false_xor, Bool.true_xor, Bool.not_true, Bool.not_false, Bool.not_not, Nat.reduceSub, Nat.reduceAdd, List.nodup_cons, List.nodup_nil, List.not_mem_nil, List.mem_cons, not_false_eq_true, and_self, true_and, and_true, List.all_cons, List.all_nil, Bool.and_true, Bool.true_and]
        simp at hl
        refine ⟨by omega, ?_, ?_, a4, b4, hx4, rfl⟩
        · simp
          omega
        · intro y hy
          rw [List.mem_append, List.mem_singleton] at hy
          rcases hy with hy | rfl
          · exact hv y hy
          · exact hd.1
      · simp
        omega
theorem mv_top (mv : Mv) : vtop mv.obj ∧ isMv mv.obj = true := by
  cases mv with
  | begin a => exact ⟨.inl rfl, by rfl⟩
  | take t => exact ⟨.inr (.inl rfl), by rfl⟩
  | takeBy t a => exact ⟨.inr (.inl rfl), by rfl⟩
  | right t a => exact ⟨.inr (.inr (.inl rfl)), by rfl⟩
  | shut => exact ⟨.inr (.inr (.inr (.inl rfl))), by rfl⟩
theorem cut_in {ds : List D} {lo hi : Option Int} : (∀ x ∈ DL.cutD ds lo hi, x ∈ ds) ∧ (DL.cutD ds lo hi).length ≤ ds.length := by
  unfold DL.cutD
  refine ⟨fun x hx => List.mem_of_mem_drop (List.mem_of_mem_take hx), ?_⟩
  simp
  omega
theorem repr_res {d : D} (hd : vok d) : ∃ z, reprF [res d] = some (false, .str z) := by
  unfold res
  split
  · refine ⟨(PyData.int (items d).length).shown, ?_⟩
    show (if _ then _ else _) = _
    rw [if_pos]
    have l := hd.2.2
    have l64 := lg64 (x := ((items d).length : Int)) (by omega) (by omega)
    refine ⟨decide_eq_true (by omega), rfl, by show 0 ≤ 60; omega, ?_⟩
    exact Nat.le_trans (int_text_len_1921 (i := ((items d).length : Int)) (by omega)) (by decide)
  · refine ⟨(PyData.str "moves").shown, ?_⟩
    show (if _ then _ else _) = _
    rw [if_pos]
    exact ⟨rfl, rfl, by show 0 ≤ 60; omega, by decide +kernel⟩
theorem f_addL {xs ys : List D} (h : xs.length + ys.length ≤ 1000000) : addF (.lst xs) (.lst ys) = some (true, .lst (xs ++ ys)) := if_pos (by rw [sz]; omega)
theorem law_ok {ns : List Int} (hl : ns.length ≤ 63) (h : ∀ ios, q.run (false, .bl true) ios) : wpC (callD dn (m + 12) (("law" : PySem.Str), none) [(false, scr ns)]) := by
  rw [w_run e_law rfl]
  unfold n_law
  simp only [w_C, w_Var, w_retO, w_bindE, w_evEx, w_evPk, argDat_val, argDat_lend, w_retF, w_retF1, w_P2, w_P1, w_Chain, w_ChainM, w_IfE, w_AndV, w_OrV, w_NotV, w_Tup, w_Lst, w_Slice, w_SliceM, w_evPn, w_evPs, w_PN, w_Call, w_Make, w_makeO, w_Meth, w_Len, w_lenK, w_Str, w_Fmt, w_Join0, w_Join, w_Xf, w_Xi, w_Lc, w_Tru, w_Test, w_And, w_Or, w_Not, w_aNil, w_aCons, w_rNil, w_rVal, w_rLend, w_rPk, w_rDfl, w_rSelf, w_iArgs, w_iSeq, w_Seq, thenS_nx, thenS_rt, thenS_bk, thenS_ct, w_Nx, w_Ret, w_RetN, w_RetV, w_Expr, w_nxO, w_Asg, w_If, w_Unp, w_mutS, w_SetF, w_App, w_Ix, w_Par2, w_Raise, w_Try, w_Try0, w_For, w_Sup, endQ_nx, endQ_rt, sat_some, sat_none, sat_ite, sat_map, sat_bind, selO_some, selO_none, sel_true, sel_false, sel_not, wp_ok, wp_ex, wp_st, wp_ite, f_lt, f_le, f_gt, f_ge, f_add, f_sub, f_mul, f_mod, f_fdiv, f_neg, f_p6, f_p9, f_p12, f_p18, f_p20, f_p30, f_int, f_abs, f_max, f_min, f_sqL, f_sqT, f_sqR, f_lenL, f_lenT, f_lenR, f_at20, f_at21, f_set20, f_set21, f_t10, f_t20, f_t21, f_t30, f_t31, f_t32, f_t40, f_t41, f_t42, f_t43, f_eqI, f_eqS, f_isN, w_Yes, o_lend, o_lst, o_tup, o_rol, o_str, o_obj, startE, pslot, putS_eq, isIo_un, isIo_fz, isIo_ow, isIo_xc, isIo_io, slotOf, slotData, setData, putIos, iosOf, lends, argsD, argD, isLst, asB, asI, newO_ok, newX_ok, asObj, asNil, asS, gNm, gsNil, gsCons, gTu, wipeE, backE, ownFree, isCls0, appF, bareX, clrX, List.map_cons, List.map_nil, List.length_cons, List.length_nil, List.replicate_succ, List.replicate_zero, List.cons_append, List.nil_append, List.append_nil, List.getElem?_cons_zero, List.getElem?_cons_succ, List.getElem?_nil, List.set_cons_zero, List.set_cons_succ, Option.bind_some, Option.bind_none, Option.map_some, Option.map_none, Option.getD_some, Option.getD_none, sz, Nat.reduceLeDiff, Int.reduceLT, Int.reduceLE, decide_true, decide_false, Int.reduceBEq, Int.reduceBNe, Bool.false_eq_true, if_false, if_true, Bool.false_xor, Bool.true_xor, Bool.not_true, Bool.not_false, Bool.not_not, Nat.reduceSub, Nat.reduceAdd, List.nodup_cons, List.nodup_nil, List.not_mem_nil, List.mem_cons, not_false_eq_true, and_self, true_and, and_true, List.all_cons, List.all_nil, Bool.and_true, Bool.true_and, show objOf (.val (scr ns)) (some (scr ns)) = none from rfl, show lenF [scr ns] = some (false, .int ns.length) from by unfold scr; rw [f_lenR]; simp]
  generalize hn : (if (if (ns.length : Int) < 4 then (ns.length : Int) else 4) > 2 then if (ns.length : Int) < 4 then (ns.length : Int) else 4 else 2) = n
  have hn0 : 0 ≤ n ∧ n ≤ 4 := by rw [← hn]; split <;> split <;> omega
  simp only [w_C, w_Var, w_retO, w_bindE, w_evEx, w_evPk, argDat_val, argDat_lend, w_retF, w_retF1, w_P2, w_P1, w_Chain, w_ChainM, w_IfE, w_AndV, w_OrV, w_NotV, w_Tup, w_Lst, w_Slice, w_SliceM, w_evPn, w_evPs, w_PN, w_Call, w_Make, w_makeO, w_Meth, w_Len, w_lenK, w_Str, w_Fmt, w_Join0, w_Join, w_Xf, w_Xi, w_Lc, w_Tru, w_Test, w_And, w_Or, w_Not, w_aNil, w_aCons, w_rNil, w_rVal, w_rLend, w_rPk, w_rDfl, w_rSelf, w_iArgs, w_iSeq, w_Seq, thenS_nx, thenS_rt, thenS_bk, thenS_ct, w_Nx, w_Ret, w_RetN, w_RetV, w_Expr, w_nxO, w_Asg, w_If, w_Unp, w_mutS, w_SetF, w_App, w_Ix, w_Par2, w_Raise, w_Try, w_Try0, w_For, w_Sup, endQ_nx, endQ_rt, sat_some, sat_none, sat_ite, sat_map, sat_bind, selO_some, selO_none, sel_true, sel_false, sel_not, wp_ok, wp_ex, wp_st, wp_ite, f_lt, f_le, f_gt, f_ge, f_add, f_sub, f_mul, f_mod, f_fdiv, f_neg, f_p6, f_p9, f_p12, f_p18, f_p20, f_p30, f_int, f_abs, f_max, f_min, f_sqL, f_sqT, f_sqR, f_lenL, f_lenT, f_lenR, f_at20, f_at21, f_set20, f_set21, f_t10, f_t20, f_t21, f_t30, f_t31, f_t32, f_t40, f_t41, f_t42, f_t43, f_eqI, f_eqS, f_isN, w_Yes, o_lend, o_lst, o_tup, o_rol, o_str, o_obj, startE, pslot, putS_eq, isIo_un, isIo_fz, isIo_ow, isIo_xc, isIo_io, slotOf, slotData, setData, putIos, iosOf, lends, argsD, argD, isLst, asB, asI, newO_ok, newX_ok, asObj, asNil, asS, gNm, gsNil, gsCons, gTu, wipeE, backE, ownFree, isCls0, appF, bareX, clrX, List.map_cons, List.map_nil, List.length_cons, List.length_nil, List.replicate_succ, List.replicate_zero, List.cons_append, List.nil_append, List.append_nil, List.getElem?_cons_zero, List.getElem?_cons_succ, List.getElem?_nil, List.set_cons_zero, List.set_cons_succ, Option.bind_some, Option.bind_none, Option.map_some, Option.map_none, Option.getD_some, Option.getD_none, sz, Nat.reduceLeDiff, Int.reduceLT, Int.reduceLE, decide_true, decide_false, Int.reduceBEq, Int.reduceBNe, Bool.false_eq_true, if_false, if_true, Bool.false_xor, Bool.true_xor, Bool.not_true, Bool.not_false, Bool.not_not, Nat.reduceSub, Nat.reduceAdd, List.nodup_cons, List.nodup_nil, List.not_mem_nil, List.mem_cons, not_false_eq_true, and_self, true_and, and_true, List.all_cons, List.all_nil, Bool.and_true, Bool.true_and, f_range hn0.1 (by omega)]
  refine loop_inv (fun ds e => (∀ d ∈ ds, ∃ i : Int, d = .int i ∧ 0 ≤ i ∧ i < 100) ∧ ∃ s1 s2 s3 s4 s5 s6 s7 s8, e = [.fz (scr ns), s1, s2, s3, s4, s5, s6, s7, s8, .un] ∧ isIo s1 = false ∧ isIo s2 = false ∧ isIo s3 = false ∧ isIo s4 = false ∧ isIo s5 = false ∧ isIo s6 = false ∧ isIo s7 = false ∧ isIo s8 = false) (fun e hI => ?_) (fun d r e hI => ?_) _ _ ⟨fun d hd => ?_, _, _, _, _, _, _, _, _, rfl, rfl, rfl, rfl, rfl, rfl, rfl, rfl, rfl⟩
  · obtain ⟨_, s1, s2, s3, s4, s5, s6, s7, s8, rfl, h1, h2, h3, h4, h5, h6, h7, h8⟩ := hI
    simp only [w_C, w_Var, w_retO, w_bindE, w_evEx, w_evPk, argDat_val, argDat_lend, w_retF, w_retF1, w_P2, w_P1, w_Chain, w_ChainM, w_IfE, w_AndV, w_OrV, w_NotV, w_Tup, w_Lst, w_Slice, w_SliceM, w_evPn, w_evPs, w_PN, w_Call, w_Make, w_makeO, w_Meth, w_Len, w_lenK, w_Str, w_Fmt, w_Join0, w_Join, w_Xf, w_Xi, w_Lc, w_Tru, w_Test, w_And, w_Or, w_Not, w_aNil, w_aCons, w_rNil, w_rVal, w_rLend, w_rPk, w_rDfl, w_rSelf, w_iArgs, w_iSeq, w_Seq, thenS_nx, thenS_rt, thenS_bk, thenS_ct, w_Nx, w_Ret, w_RetN, w_RetV, w_Expr, w_nxO, w_Asg, w_If, w_Unp, w_mutS, w_SetF, w_App, w_Ix, w_Par2, w_Raise, w_Try, w_Try0, w_For, w_Sup, endQ_nx, endQ_rt, sat_some, sat_none, sat_ite, sat_map, sat_bind, selO_some, selO_none, sel_true, sel_false, sel_not, wp_ok, wp_ex, wp_st, wp_ite, f_lt, f_le, f_gt, f_ge, f_add, f_sub, f_mul, f_mod, f_fdiv, f_neg, f_p6, f_p9, f_p12, f_p18, f_p20, f_p30, f_int, f_abs, f_max, f_min, f_sqL, f_sqT, f_sqR, f_lenL, f_lenT, f_lenR, f_at20, f_at21, f_set20, f_set21, f_t10, f_t20, f_t21, f_t30, f_t31, f_t32, f_t40, f_t41, f_t42, f_t43, f_eqI, f_eqS, f_isN, w_Yes, o_lend, o_lst, o_tup, o_rol, o_str, o_obj, startE, pslot, putS_eq, isIo_un, isIo_fz, isIo_ow, isIo_xc, isIo_io, slotOf, slotData, setData, putIos, iosOf, lends, argsD, argD, isLst, asB, asI, newO_ok, newX_ok, asObj, asNil, asS, gNm, gsNil, gsCons, gTu, wipeE, backE, ownFree, isCls0, appF, bareX, clrX, List.map_cons, List.map_nil, List.length_cons, List.length_nil, List.replicate_succ, List.replicate_zero, List.cons_append, List.nil_append, List.append_nil, List.getElem?_cons_zero, List.getElem?_cons_succ, List.getElem?_nil, List.set_cons_zero, List.set_cons_succ, Option.bind_some, Option.bind_none, Option.map_some, Option.map_none, Option.getD_some, Option.getD_none, sz, Nat.reduceLeDiff, Int.reduceLT, Int.reduceLE, decide_true, decide_false, Int.reduceBEq, Int.reduceBNe, Bool.false_eq_true, if_false, if_true, Bool.false_xor, Bool.true_xor, Bool.not_true, Bool.not_false, Bool.not_not, Nat.reduceSub, Nat.reduceAdd, List.nodup_cons, List.nodup_nil, List.not_mem_nil, List.mem_cons, not_false_eq_true, and_self, true_and, and_true, List.all_cons, List.all_nil, Bool.and_true, Bool.true_and]
    exact h _
  · obtain ⟨hd, s1, s2, s3, s4, s5, s6, s7, s8, rfl, h1, h2, h3, h4, h5, h6, h7, h8⟩ := hI
    obtain ⟨i, rfl, i0, i1⟩ := hd d List.mem_cons_self
    simp only [w_C, w_Var, w_retO, w_bindE, w_evEx, w_evPk, argDat_val, argDat_lend, w_retF, w_retF1, w_P2, w_P1, w_Chain, w_ChainM, w_IfE, w_AndV, w_OrV, w_NotV, w_Tup, w_Lst, w_Slice, w_SliceM, w_evPn, w_evPs, w_PN, w_Call, w_Make, w_makeO, w_Meth, w_Len, w_lenK, w_Str, w_Fmt, w_Join0, w_Join, w_Xf, w_Xi, w_Lc, w_Tru, w_Test, w_And, w_Or, w_Not, w_aNil, w_aCons, w_rNil, w_rVal, w_rLend, w_rPk, w_rDfl, w_rSelf, w_iArgs, w_iSeq, w_Seq, thenS_nx, thenS_rt, thenS_bk, thenS_ct, w_Nx, w_Ret, w_RetN, w_RetV, w_Expr, w_nxO, w_Asg, w_If, w_Unp, w_mutS, w_SetF, w_App, w_Ix, w_Par2, w_Raise, w_Try, w_Try0, w_For, w_Sup, endQ_nx, endQ_rt, sat_some, sat_none, sat_ite, sat_map, sat_bind, selO_some, selO_none, sel_true, sel_false, sel_not, wp_ok, wp_ex, wp_st, wp_ite, f_lt, f_le, f_gt, f_ge, f_add, f_sub, f_mul, f_mod, f_fdiv, f_neg, f_p6, f_p9, f_p12, f_p18, f_p20, f_p30, f_int, f_abs, f_max, f_min, f_sqL, f_sqT, f_sqR, f_lenL, f_lenT, f_lenR, f_at20, f_at21, f_set20, f_set21, f_t10, f_t20, f_t21, f_t30, f_t31, f_t32, f_t40, f_t41, f_t42, f_t43, f_eqI, f_eqS, f_isN, w_Yes, o_lend, o_lst, o_tup, o_rol, o_str, o_obj, startE, pslot, putS_eq, isIo_un, isIo_fz, isIo_ow, isIo_xc, isIo_io, slotOf, slotData, setData, putIos, iosOf, lends, argsD, argD, isLst, asB, asI, newO_ok, newX_ok, asObj, asNil, asS, gNm, gsNil, gsCons, gTu, wipeE, backE, ownFree, isCls0, appF, bareX, clrX, List.map_cons, List.map_nil, List.length_cons, List.length_nil, List.replicate_succ, List.replicate_zero, List.cons_append, List.nil_append, List.append_nil, List.getElem?_cons_zero, List.getElem?_cons_succ, List.getElem?_nil, List.set_cons_zero, List.set_cons_succ, Option.bind_some, Option.bind_none, Option.map_some, Option.map_none, Option.getD_some, Option.getD_none, sz, Nat.reduceLeDiff, Int.reduceLT, Int.reduceLE, decide_true, decide_false, Int.reduceBEq, Int.reduceBNe, Bool.false_eq_true, if_false, if_true, Bool.false_xor, Bool.true_xor, Bool.not_true, Bool.not_false, Bool.not_not, Nat.reduceSub, Nat.reduceAdd, List.nodup_cons, List.nodup_nil, List.not_mem_nil, List.mem_cons, not_false_eq_true, and_self, true_and, and_true, List.all_cons, List.all_nil, Bool.and_true, Bool.true_and, h1, h2]
    refine seed_ok RR.toDraws i0 (by omega) hl fun a b hx => ?_
    simp only [w_C, w_Var, w_retO, w_bindE, w_evEx, w_evPk, argDat_val, argDat_lend, w_retF, w_retF1, w_P2, w_P1, w_Chain, w_ChainM, w_IfE, w_AndV, w_OrV, w_NotV, w_Tup, w_Lst, w_Slice, w_SliceM, w_evPn, w_evPs, w_PN, w_Call, w_Make, w_makeO, w_Meth, w_Len, w_lenK, w_Str, w_Fmt, w_Join0, w_Join, w_Xf, w_Xi, w_Lc, w_Tru, w_Test, w_And, w_Or, w_Not, w_aNil, w_aCons, w_rNil, w_rVal, w_rLend, w_rPk, w_rDfl, w_rSelf, w_iArgs, w_iSeq, w_Seq, thenS_nx, thenS_rt, thenS_bk, thenS_ct, w_Nx, w_Ret, w_RetN, w_RetV, w_Expr, w_nxO, w_Asg, w_If, w_Unp, w_mutS, w_SetF, w_App, w_Ix, w_Par2, w_Raise, w_Try, w_Try0, w_For, w_Sup, endQ_nx, endQ_rt, sat_some, sat_none, sat_ite, sat_map, sat_bind, selO_some, selO_none, sel_true, sel_false, sel_not, wp_ok, wp_ex, wp_st, wp_ite, f_lt, f_le, f_gt, f_ge, f_add, f_sub, f_mul, f_mod, f_fdiv, f_neg, f_p6, f_p9, f_p12, f_p18, f_p20, f_p30, f_int, f_abs, f_max, f_min, f_sqL, f_sqT, f_sqR, f_lenL, f_lenT, f_lenR, f_at20, f_at21, f_set20, f_set21, f_t10, f_t20, f_t21, f_t30, f_t31, f_t32, f_t40, f_t41, f_t42, f_t43, f_eqI, f_eqS, f_isN, w_Yes, o_lend, o_lst, o_tup, o_rol, o_str, o_obj, startE, pslot, putS_eq, isIo_un, isIo_fz, isIo_ow, isIo_xc, isIo_io, slotOf, slotData, setData, putIos, iosOf, lends, argsD, argD, isLst, asB, asI, newO_ok, newX_ok, asObj, asNil, asS, gNm, gsNil, gsCons, gTu, wipeE, backE, ownFree, isCls0, appF, bareX, clrX, List.map_cons, List.map_nil, List.length_cons, List.length_nil, List.replicate_succ, List.replicate_zero, List.cons_append, List.nil_append, List.append_nil, List.getElem?_cons_zero, List.getElem?_cons_succ, List.getElem?_nil, List.set_cons_zero, List.set_cons_succ, Option.bind_some, Option.bind_none, Option.map_some, Option.map_none, Option.getD_some, Option.getD_none, sz, Nat.reduceLeDiff, Int.reduceLT, Int.reduceLE, decide_true, decide_false, Int.reduceBEq, Int.reduceBNe, Bool.false_eq_true, if_false, if_true, Bool.false_xor, Bool.true_xor, Bool.not_true, Bool.not_false, Bool.not_not, Nat.reduceSub, Nat.reduceAdd, List.nodup_cons, List.nodup_nil, List.not_mem_nil, List.mem_cons, not_false_eq_true, and_self, true_and, and_true, List.all_cons, List.all_nil, Bool.and_true, Bool.true_and, h2, f_range (n := 8) (by omega) (by omega)]
    refine loop_inv (fun ds e => ∃ a b s3 s4 s5 s6 s7 s8, BxOk a b ∧ e = [.fz (scr ns), .fz (.int i), .ow (bx a b), s3, s4, s5, s6, s7, s8, .un] ∧ isIo s3 = false ∧ isIo s4 = false ∧ isIo s5 = false ∧ isIo s6 = false ∧ isIo s7 = false ∧ isIo s8 = false) (fun e hI => ?_) (fun d r e hI => ?_) _ _ ⟨a, b, _, _, _, _, _, _, hx, rfl, h3, h4, h5, h6, h7, h8⟩
    · obtain ⟨a, b, s3, s4, s5, s6, s7, s8, hx, rfl, h3, h4, h5, h6, h7, h8⟩ := hI
      simp only [w_C, w_Var, w_retO, w_bindE, w_evEx, w_evPk, argDat_val, argDat_lend, w_retF, w_retF1, w_P2, w_P1, w_Chain, w_ChainM, w_IfE, w_AndV, w_OrV, w_NotV, w_Tup, w_Lst, w_Slice, w_SliceM, w_evPn, w_evPs, w_PN, w_Call, w_Make, w_makeO, w_Meth, w_Len, w_lenK, w_Str, w_Fmt, w_Join0, w_Join, w_Xf, w_Xi, w_Lc, w_Tru, w_Test, w_And, w_Or, w_Not, w_aNil, w_aCons, w_rNil, w_rVal, w_rLend, w_rPk, w_rDfl, w_rSelf, w_iArgs, w_iSeq, w_Seq, thenS_nx, thenS_rt, thenS_bk, thenS_ct, w_Nx, w_Ret, w_RetN, w_RetV, w_Expr, w_nxO, w_Asg, w_If, w_Unp, w_mutS, w_SetF, w_App, w_Ix, w_Par2, w_Raise, w_Try, w_Try0, w_For, w_Sup, endQ_nx, endQ_rt, sat_some, sat_none, sat_ite, sat_map, sat_bind, selO_some, selO_none, sel_true, sel_false, sel_not, wp_ok, wp_ex, wp_st, wp_ite, f_lt, f_le, f_gt, f_ge, f_add, f_sub, f_mul, f_mod, f_fdiv, f_neg, f_p6, f_p9, f_p12, f_p18, f_p20, f_p30, f_int, f_abs, f_max, f_min, f_sqL, f_sqT, f_sqR, f_lenL, f_lenT, f_lenR, f_at20, f_at21, f_set20, f_set21, f_t10, f_t20, f_t21, f_t30, f_t31, f_t32, f_t40, f_t41, f_t42, f_t43, f_eqI, f_eqS, f_isN, w_Yes, o_lend, o_lst, o_tup, o_rol, o_str, o_obj, startE, pslot, putS_eq, isIo_un, isIo_fz, isIo_ow, isIo_xc, isIo_io, slotOf, slotData, setData, putIos, iosOf, lends, argsD, argD, isLst, asB, asI, newO_ok, newX_ok, asObj, asNil, asS, gNm, gsNil, gsCons, gTu, wipeE, backE, ownFree, isCls0, appF, bareX, clrX, List.map_cons, List.map_nil, List.length_cons, List.length_nil, List.replicate_succ, List.replicate_zero, List.cons_append, List.nil_append, List.append_nil, List.getElem?_cons_zero, List.getElem?_cons_succ, List.getElem?_nil, List.set_cons_zero, List.set_cons_succ, Option.bind_some, Option.bind_none, Option.map_some, Option.map_none, Option.getD_some, Option.getD_none, sz, Nat.reduceLeDiff, Int.reduceLT, Int.reduceLE, decide_true, decide_false, Int.reduceBEq, Int.reduceBNe, Bool.false_eq_true, if_false, if_true, Bool.false_xor, Bool.true_xor, Bool.not_true, Bool.not_false, Bool.not_not, Nat.reduceSub, Nat.reduceAdd, List.nodup_cons, List.nodup_nil, List.not_mem_nil, List.mem_cons, not_false_eq_true, and_self, true_and, and_true, List.all_cons, List.all_nil, Bool.and_true, Bool.true_and]
      exact ⟨fun d h => hd d (List.mem_cons_of_mem _ h), _, _, _, _, _, _, _, _, rfl, rfl, rfl, h3, h4, h5, h6, h7, h8⟩
    · obtain ⟨a, b, s3, s4, s5, s6, s7, s8, hx, rfl, h3, h4, h5, h6, h7, h8⟩ := hI
      simp only [w_C, w_Var, w_retO, w_bindE, w_evEx, w_evPk, argDat_val, argDat_lend, w_retF, w_retF1, w_P2, w_P1, w_Chain, w_ChainM, w_IfE, w_AndV, w_OrV, w_NotV, w_Tup, w_Lst, w_Slice, w_SliceM, w_evPn, w_evPs, w_PN, w_Call, w_Make, w_makeO, w_Meth, w_Len, w_lenK, w_Str, w_Fmt, w_Join0, w_Join, w_Xf, w_Xi, w_Lc, w_Tru, w_Test, w_And, w_Or, w_Not, w_aNil, w_aCons, w_rNil, w_rVal, w_rLend, w_rPk, w_rDfl, w_rSelf, w_iArgs, w_iSeq, w_Seq, thenS_nx, thenS_rt, thenS_bk, thenS_ct, w_Nx, w_Ret, w_RetN, w_RetV, w_Expr, w_nxO, w_Asg, w_If, w_Unp, w_mutS, w_SetF, w_App, w_Ix, w_Par2, w_Raise, w_Try, w_Try0, w_For, w_Sup, endQ_nx, endQ_rt, sat_some, sat_none, sat_ite, sat_map, sat_bind, selO_some, selO_none, sel_true, sel_false, sel_not, wp_ok, wp_ex, wp_st, wp_ite, f_lt, f_le, f_gt, f_ge, f_add, f_sub, f_mul, f_mod, f_fdiv, f_neg, f_p6, f_p9, f_p12, f_p18, f_p20, f_p30, f_int, f_abs, f_max, f_min, f_sqL, f_sqT, f_sqR, f_lenL, f_lenT, f_lenR, f_at20, f_at21, f_set20, f_set21, f_t10, f_t20, f_t21, f_t30, f_t31, f_t32, f_t40, f_t41, f_t42, f_t43, f_eqI, f_eqS, f_isN, w_Yes, o_lend, o_lst, o_tup, o_rol, o_str, o_obj, startE, pslot, putS_eq, isIo_un, isIo_fz, isIo_ow, isIo_xc, isIo_io, slotOf, slotData, setData, putIos, iosOf, lends, argsD, argD, isLst, asB, asI, newO_ok, newX_ok, asObj, asNil, asS, gNm, gsNil, gsCons, gTu, wipeE, backE, ownFree, isCls0, appF, bareX, clrX, List.map_cons, List.map_nil, List.length_cons, List.length_nil, List.replicate_succ, List.replicate_zero, List.cons_append, List.nil_append, List.append_nil, List.getElem?_cons_zero, List.getElem?_cons_succ, List.getElem?_nil, List.set_cons_zero, List.set_cons_succ, Option.bind_some, Option.bind_none, Option.map_some, Option.map_none, Option.getD_some, Option.getD_none, sz, Nat.reduceLeDiff, Int.reduceLT, Int.reduceLE, decide_true, decide_false, Int.reduceBEq, Int.reduceBNe, Bool.false_eq_true, if_false, if_true, Bool.false_xor, Bool.true_xor, Bool.not_true, Bool.not_false, Bool.not_not, Nat.reduceSub, Nat.reduceAdd, List.nodup_cons, List.nodup_nil, List.not_mem_nil, List.mem_cons, not_false_eq_true, and_self, true_and, and_true, List.all_cons, List.all_nil, Bool.and_true, Bool.true_and, h3]
      refine choose_ok RR.toDraws hx (by omega) (by omega) fun r2 a b hx p0 p1 => ?_
      simp only [w_C, w_Var, w_retO, w_bindE, w_evEx, w_evPk, argDat_val, argDat_lend, w_retF, w_retF1, w_P2, w_P1, w_Chain, w_ChainM, w_IfE, w_AndV, w_OrV, w_NotV, w_Tup, w_Lst, w_Slice, w_SliceM, w_evPn, w_evPs, w_PN, w_Call, w_Make, w_makeO, w_Meth, w_Len, w_lenK, w_Str, w_Fmt, w_Join0, w_Join, w_Xf, w_Xi, w_Lc, w_Tru, w_Test, w_And, w_Or, w_Not, w_aNil, w_aCons, w_rNil, w_rVal, w_rLend, w_rPk, w_rDfl, w_rSelf, w_iArgs, w_iSeq, w_Seq, thenS_nx, thenS_rt, thenS_bk, thenS_ct, w_Nx, w_Ret, w_RetN, w_RetV, w_Expr, w_nxO, w_Asg, w_If, w_Unp, w_mutS, w_SetF, w_App, w_Ix, w_Par2, w_Raise, w_Try, w_Try0, w_For, w_Sup, endQ_nx, endQ_rt, sat_some, sat_none, sat_ite, sat_map, sat_bind, selO_some, selO_none, sel_true, sel_false, sel_not, wp_ok, wp_ex, wp_st, wp_ite, f_lt, f_le, f_gt, f_ge, f_add, f_sub, f_mul, f_mod, f_fdiv, f_neg, f_p6, f_p9, f_p12, f_p18, f_p20, f_p30, f_int, f_abs, f_max, f_min, f_sqL, f_sqT, f_sqR, f_lenL, f_lenT, f_lenR, f_at20, f_at21, f_set20, f_set21, f_t10, f_t20, f_t21, f_t30, f_t31, f_t32, f_t40, f_t41, f_t42, f_t43, f_eqI, f_eqS, f_isN, w_Yes, o_lend, o_lst, o_tup, o_rol, o_str, o_obj, startE, pslot, putS_eq, isIo_un, isIo_fz, isIo_ow, isIo_xc, isIo_io, slotOf, slotData, setData, putIos, iosOf, lends, argsD, argD, isLst, asB, asI, newO_ok, newX_ok, asObj, asNil, asS, gNm, gsNil, gsCons, gTu, wipeE, backE, ownFree, isCls0, appF, bareX, clrX, List.map_cons, List.map_nil, List.length_cons, List.length_nil, List.replicate_succ, List.replicate_zero, List.cons_append, List.nil_append, List.append_nil, List.getElem?_cons_zero, List.getElem?_cons_succ, List.getElem?_nil, List.set_cons_zero, List.set_cons_succ, Option.bind_some, Option.bind_none, Option.map_some, Option.map_none, Option.getD_some, Option.getD_none, sz, Nat.reduceLeDiff, Int.reduceLT, Int.reduceLE, decide_true, decide_false, Int.reduceBEq, Int.reduceBNe, Bool.false_eq_true, if_false, if_true, Bool.false_xor, Bool.true_xor, Bool.not_true, Bool.not_false, Bool.not_not, Nat.reduceSub, Nat.reduceAdd, List.nodup_cons, List.nodup_nil, List.not_mem_nil, List.mem_cons, not_false_eq_true, and_self, true_and, and_true, List.all_cons, List.all_nil, Bool.and_true, Bool.true_and, f_range p0 (by omega)]
      refine lc_inv (fun ds acc e => acc.length + ds.length ≤ 5 ∧ (∀ x ∈ acc, vtop x ∧ isMv x = true) ∧ ∃ a b, BxOk a b ∧ e = [.fz (scr ns), .fz (.int i), .ow (bx a b), .fz d, s4, s5, s6, s7, s8, .un]) (fun good e hI => ?_) (fun d rest acc e hI => ?_) _ [] _ ⟨?_, by simp, a, b, hx, rfl⟩
      · obtain ⟨gl, gv, a, b, hx, rfl⟩ := hI
        have gl : good.length ≤ 5 := by simpa using gl
        have vgood : vok (.lst good) := ⟨trivial, fun x hx => (gv x hx).1, by show good.length ≤ 100; omega⟩
        have agood : good.all isMv = true := List.all_eq_true.mpr fun x hx => (gv x hx).2
        have vhist : vok (oHist good) := ⟨.inr (.inr (.inr (.inr rfl))), (fun x hx => nomatch hx), by show 0 ≤ 100; omega⟩
        have histd : ∀ {m : Nat} {q : Kc W} {x : Kc Ex}, q.run (false, .non) [oHist good] → wpC (callD dn (m + 2) (("History" : PySem.Str), some ("__init__" : PySem.Str)) [(true, .obj "History" []), (false, .lst good)]) := fun {m q x} hq => hist_ok vgood (fun _ _ => hq) (fun z => by rw [show (isSq (.lst good) && (items (.lst good)).all isMv) = true from agood] at z; cases z)
        simp only [w_C, w_Var, w_retO, w_bindE, w_evEx, w_evPk, argDat_val, argDat_lend, w_retF, w_retF1, w_P2, w_P1, w_Chain, w_ChainM, w_IfE, w_AndV, w_OrV, w_NotV, w_Tup, w_Lst, w_Slice, w_SliceM, w_evPn, w_evPs, w_PN, w_Call, w_Make, w_makeO, w_Meth, w_Len, w_lenK, w_Str, w_Fmt, w_Join0, w_Join, w_Xf, w_Xi, w_Lc, w_Tru, w_Test, w_And, w_Or, w_Not, w_aNil, w_aCons, w_rNil, w_rVal, w_rLend, w_rPk, w_rDfl, w_rSelf, w_iArgs, w_iSeq, w_Seq, thenS_nx, thenS_rt, thenS_bk, thenS_ct, w_Nx, w_Ret, w_RetN, w_RetV, w_Expr, w_nxO, w_Asg, w_If, w_Unp, w_mutS, w_SetF, w_App, w_Ix, w_Par2, w_Raise, w_Try, w_Try0, w_For, w_Sup, endQ_nx, endQ_rt, sat_some, sat_none, sat_ite, sat_map, sat_bind, selO_some, selO_none, sel_true, sel_false, sel_not, wp_ok, wp_ex, wp_st, wp_ite, f_lt, f_le, f_gt, f_ge, f_add, f_sub, f_mul, f_mod, f_fdiv, f_neg, f_p6, f_p9, f_p12, f_p18, f_p20, f_p30, f_int, f_abs, f_max, f_min, f_sqL, f_sqT, f_sqR, f_lenL, f_lenT, f_lenR, f_at20, f_at21, f_set20, f_set21, f_t10, f_t20, f_t21, f_t30, f_t31, f_t32, f_t40, f_t41, f_t42, f_t43, f_eqI, f_eqS, f_isN, w_Yes, o_lend, o_lst, o_tup, o_rol, o_str, o_obj, startE, pslot, putS_eq, isIo_un, isIo_fz, isIo_ow, isIo_xc, isIo_io, slotOf, slotData, setData, putIos, iosOf, lends, argsD, argD, isLst, asB, asI, newO_ok, newX_ok, asObj, asNil, asS, gNm, gsNil, gsCons, gTu, wipeE, backE, ownFree, isCls0, appF, bareX, clrX, List.map_cons, List.map_nil, List.length_cons, List.length_nil, List.replicate_succ, List.replicate_zero, List.cons_append, List.nil_append, List.append_nil, List.getElem?_cons_zero, List.getElem?_cons_succ, List.getElem?_nil, List.set_cons_zero, List.set_cons_succ, Option.bind_some, Option.bind_none, Option.map_some, Option.map_none, Option.getD_some, Option.getD_none, sz, Nat.reduceLeDiff, Int.reduceLT, Int.reduceLE, decide_true, decide_false, Int.reduceBEq, Int.reduceBNe, Bool.false_eq_true, if_false, if_true, Bool.false_xor, Bool.true_xor, Bool.not_true, Bool.not_false, Bool.not_not, Nat.reduceSub, Nat.reduceAdd, List.nodup_cons, List.nodup_nil, List.not_mem_nil, List.mem_cons, not_false_eq_true, and_self, true_and, and_true, List.all_cons, List.all_nil, Bool.and_true, Bool.true_and, h4]
        refine choose_ok RR.toDraws hx (by omega) (by omega) fun at_ a b hx t0 t1 => ?_
        simp only [w_C, w_Var, w_retO, w_bindE, w_evEx, w_evPk, argDat_val, argDat_lend, w_retF, w_retF1, w_P2, w_P1, w_Chain, w_ChainM, w_IfE, w_AndV, w_OrV, w_NotV, w_Tup, w_Lst, w_Slice, w_SliceM, w_evPn, w_evPs, w_PN, w_Call, w_Make, w_makeO, w_Meth, w_Len, w_lenK, w_Str, w_Fmt, w_Join0, w_Join, w_Xf, w_Xi, w_Lc, w_Tru, w_Test, w_And, w_Or, w_Not, w_aNil, w_aCons, w_rNil, w_rVal, w_rLend, w_rPk, w_rDfl, w_rSelf, w_iArgs, w_iSeq, w_Seq, thenS_nx, thenS_rt, thenS_bk, thenS_ct, w_Nx, w_Ret, w_RetN, w_RetV, w_Expr, w_nxO, w_Asg, w_If, w_Unp, w_mutS, w_SetF, w_App, w_Ix, w_Par2, w_Raise, w_Try, w_Try0, w_For, w_Sup, endQ_nx, endQ_rt, sat_some, sat_none, sat_ite, sat_map, sat_bind, selO_some, selO_none, sel_true, sel_false, sel_not, wp_ok, wp_ex, wp_st, wp_ite, f_lt, f_le, f_gt, f_ge, f_add, f_sub, f_mul, f_mod, f_fdiv, f_neg, f_p6, f_p9, f_p12, f_p18, f_p20, f_p30, f_int, f_abs, f_max, f_min, f_sqL, f_sqT, f_sqR, f_lenL, f_lenT, f_lenR, f_at20, f_at21, f_set20, f_set21, f_t10, f_t20, f_t21, f_t30, f_t31, f_t32, f_t40, f_t41, f_t42, f_t43, f_eqI, f_eqS, f_isN, w_Yes, o_lend, o_lst, o_tup, o_rol, o_str, o_obj, startE, pslot, putS_eq, isIo_un, isIo_fz, isIo_ow, isIo_xc, isIo_io, slotOf, slotData, setData, putIos, iosOf, lends, argsD, argD, isLst, asB, asI, newO_ok, newX_ok, asObj, asNil, asS, gNm, gsNil, gsCons, gTu, wipeE, backE, ownFree, isCls0, appF, bareX, clrX, List.map_cons, List.map_nil, List.length_cons, List.length_nil, List.replicate_succ, List.replicate_zero, List.cons_append, List.nil_append, List.append_nil, List.getElem?_cons_zero, List.getElem?_cons_succ, List.getElem?_nil, List.set_cons_zero, List.set_cons_succ, Option.bind_some, Option.bind_none, Option.map_some, Option.map_none, Option.getD_some, Option.getD_none, sz, Nat.reduceLeDiff, Int.reduceLT, Int.reduceLE, decide_true, decide_false, Int.reduceBEq, Int.reduceBNe, Bool.false_eq_true, if_false, if_true, Bool.false_xor, Bool.true_xor, Bool.not_true, Bool.not_false, Bool.not_not, Nat.reduceSub, Nat.reduceAdd, List.nodup_cons, List.nodup_nil, List.not_mem_nil, List.mem_cons, not_false_eq_true, and_self, true_and, and_true, List.all_cons, List.all_nil, Bool.and_true, Bool.true_and, h5]
        refine any_ok 3 (m := m + 7) hx (by omega) fun d1 a b v1 hx => ?_
        simp only [w_C, w_Var, w_retO, w_bindE, w_evEx, w_evPk, argDat_val, argDat_lend, w_retF, w_retF1, w_P2, w_P1, w_Chain, w_ChainM, w_IfE, w_AndV, w_OrV, w_NotV, w_Tup, w_Lst, w_Slice, w_SliceM, w_evPn, w_evPs, w_PN, w_Call, w_Make, w_makeO, w_Meth, w_Len, w_lenK, w_Str, w_Fmt, w_Join0, w_Join, w_Xf, w_Xi, w_Lc, w_Tru, w_Test, w_And, w_Or, w_Not, w_aNil, w_aCons, w_rNil, w_rVal, w_rLend, w_rPk, w_rDfl, w_rSelf, w_iArgs, w_iSeq, w_Seq, thenS_nx, thenS_rt, thenS_bk, thenS_ct, w_Nx, w_Ret, w_RetN, w_RetV, w_Expr, w_nxO, w_Asg, w_If, w_Unp, w_mutS, w_SetF, w_App, w_Ix, w_Par2, w_Raise, w_Try, w_Try0, w_For, w_Sup, endQ_nx, endQ_rt, sat_some, sat_none, sat_ite, sat_map, sat_bind, selO_some, selO_none, sel_true, sel_false, sel_not, wp_ok, wp_ex, wp_st, wp_ite, f_lt, f_le, f_gt, f_ge, f_add, f_sub, f_mul, f_mod, f_fdiv, f_neg, f_p6, f_p9, f_p12, f_p18, f_p20, f_p30, f_int, f_abs, f_max, f_min, f_sqL, f_sqT, f_sqR, f_lenL, f_lenT, f_lenR, f_at20, f_at21, f_set20, f_set21, f_t10, f_t20, f_t21, f_t30, f_t31, f_t32, f_t40, f_t41, f_t42, f_t43, f_eqI, f_eqS, f_isN, w_Yes, o_lend, o_lst, o_tup, o_rol, o_str, o_obj, startE, pslot, putS_eq, isIo_un, isIo_fz, isIo_ow, isIo_xc, isIo_io, slotOf, slotData, setData, putIos, iosOf, lends, argsD, argD, isLst, asB, asI, newO_ok, newX_ok, asObj, asNil, asS, gNm, gsNil, gsCons, gTu, wipeE, backE, ownFree, isCls0, appF, bareX, clrX, List.map_cons, List.map_nil, List.length_cons, List.length_nil, List.replicate_succ, List.replicate_zero, List.cons_append, List.nil_append, List.append_nil, List.getElem?_cons_zero, List.getElem?_cons_succ, List.getElem?_nil, List.set_cons_zero, List.set_cons_succ, Option.bind_some, Option.bind_none, Option.map_some, Option.map_none, Option.getD_some, Option.getD_none, sz, Nat.reduceLeDiff, Int.reduceLT, Int.reduceLE, decide_true, decide_false, Int.reduceBEq, Int.reduceBNe, Bool.false_eq_true, if_false, if_true, Bool.false_xor, Bool.true_xor, Bool.not_true, Bool.not_false, Bool.not_not, Nat.reduceSub, Nat.reduceAdd, List.nodup_cons, List.nodup_nil, List.not_mem_nil, List.mem_cons, not_false_eq_true, and_self, true_and, and_true, List.all_cons, List.all_nil, Bool.and_true, Bool.true_and, tupleF]
        refine histd ?_
        simp only [w_C, w_Var, w_retO, w_bindE, w_evEx, w_evPk, argDat_val, argDat_lend, w_retF, w_retF1, w_P2, w_P1, w_Chain, w_ChainM, w_IfE, w_AndV, w_OrV, w_NotV, w_Tup, w_Lst, w_Slice, w_SliceM, w_evPn, w_evPs, w_PN, w_Call, w_Make, w_makeO, w_Meth, w_Len, w_lenK, w_Str, w_Fmt, w_Join0, w_Join, w_Xf, w_Xi, w_Lc, w_Tru, w_Test, w_And, w_Or, w_Not, w_aNil, w_aCons, w_rNil, w_rVal, w_rLend, w_rPk, w_rDfl, w_rSelf, w_iArgs, w_iSeq, w_Seq, thenS_nx, thenS_rt, thenS_bk, thenS_ct, w_Nx, w_Ret, w_RetN, w_RetV, w_Expr, w_nxO, w_Asg, w_If, w_Unp, w_mutS, w_SetF, w_App, w_Ix, w_Par2, w_Raise, w_Try, w_Try0, w_For, w_Sup, endQ_nx, endQ_rt, sat_some, sat_none, sat_ite, sat_map, sat_bind, selO_some, selO_none, sel_true, sel_false, sel_not, wp_ok, wp_ex, wp_st, wp_ite, f_lt, f_le, f_gt, f_ge, f_add, f_sub, f_mul, f_mod, f_fdiv, f_neg, f_p6, f_p9, f_p12, f_p18, f_p20, f_p30, f_int, f_abs, f_max, f_min, f_sqL, f_sqT, f_sqR, f_lenL, f_lenT, f_lenR, f_at20, f_at21, f_set20, f_set21, f_t10, f_t20, f_t21, f_t30, f_t31, f_t32, f_t40, f_t41, f_t42, f_t43, f_eqI, f_eqS, f_isN, w_Yes, o_lend, o_lst, o_tup, o_rol, o_str, o_obj, startE, pslot, putS_eq, isIo_un, isIo_fz, isIo_ow, isIo_xc, isIo_io, slotOf, slotData, setData, putIos, iosOf, lends, argsD, argD, isLst, asB, asI, newO_ok, newX_ok, asObj, asNil, asS, gNm, gsNil, gsCons, gTu, wipeE, backE, ownFree, isCls0, appF, bareX, clrX, List.map_cons, List.map_nil, List.length_cons, List.length_nil, List.replicate_succ, List.replicate_zero, List.cons_append, List.nil_append, List.append_nil, List.getElem?_cons_zero, List.getElem?_cons_succ, List.getElem?_nil, List.set_cons_zero, List.set_cons_succ, Option.bind_some, Option.bind_none, Option.map_some, Option.map_none, Option.getD_some, Option.getD_none, sz, Nat.reduceLeDiff, Int.reduceLT, Int.reduceLE, decide_true, decide_false, Int.reduceBEq, Int.reduceBNe, Bool.false_eq_true, if_false, if_true, Bool.false_xor, Bool.true_xor, Bool.not_true, Bool.not_false, Bool.not_not, Nat.reduceSub, Nat.reduceAdd, List.nodup_cons, List.nodup_nil, List.not_mem_nil, List.mem_cons, not_false_eq_true, and_self, true_and, and_true, List.all_cons, List.all_nil, Bool.and_true, Bool.true_and, h6]
        refine one_ok RR.toDraws hx ?_ ?_ fun odd a b hodd hx => ?_
        · simp
        · simp
        have vodd : vok odd := by
          simp only [List.mem_cons, List.not_mem_nil, or_false] at hodd
          rcases hodd with rfl | rfl | rfl | rfl | rfl | rfl | rfl | rfl
          · exact v1
          · exact ⟨trivial, by simp [items], by simp [items]⟩
          · exact ⟨trivial, by simp [items], by simp [items]⟩
          · exact vgood
          · exact ⟨trivial, fun x hx => (gv x hx).1, by show good.length ≤ 100; omega⟩
          · exact vhist
          · exact ⟨trivial, by simp [items], by simp [items]⟩
          · exact ⟨trivial, by simp [items], by simp [items]⟩
        obtain ⟨c1, l1⟩ := cut_in (ds := good) (lo := none) (hi := some at_)
        obtain ⟨c2, l2⟩ := cut_in (ds := good) (lo := some at_) (hi := none)
        generalize hk1 : DL.cutD good none (some at_) = k1 at c1 l1
        generalize hk2 : DL.cutD good (some at_) none = k2 at c2 l2
        simp only [w_C, w_Var, w_retO, w_bindE, w_evEx, w_evPk, argDat_val, argDat_lend, w_retF, w_retF1, w_P2, w_P1, w_Chain, w_ChainM, w_IfE, w_AndV, w_OrV, w_NotV, w_Tup, w_Lst, w_Slice, w_SliceM, w_evPn, w_evPs, w_PN, w_Call, w_Make, w_makeO, w_Meth, w_Len, w_lenK, w_Str, w_Fmt, w_Join0, w_Join, w_Xf, w_Xi, w_Lc, w_Tru, w_Test, w_And, w_Or, w_Not, w_aNil, w_aCons, w_rNil, w_rVal, w_rLend, w_rPk, w_rDfl, w_rSelf, w_iArgs, w_iSeq, w_Seq, thenS_nx, thenS_rt, thenS_bk, thenS_ct, w_Nx, w_Ret, w_RetN, w_RetV, w_Expr, w_nxO, w_Asg, w_If, w_Unp, w_mutS, w_SetF, w_App, w_Ix, w_Par2, w_Raise, w_Try, w_Try0, w_For, w_Sup, endQ_nx, endQ_rt, sat_some, sat_none, sat_ite, sat_map, sat_bind, selO_some, selO_none, sel_true, sel_false, sel_not, wp_ok, wp_ex, wp_st, wp_ite, f_lt, f_le, f_gt, f_ge, f_add, f_sub, f_mul, f_mod, f_fdiv, f_neg, f_p6, f_p9, f_p12, f_p18, f_p20, f_p30, f_int, f_abs, f_max, f_min, f_sqL, f_sqT, f_sqR, f_lenL, f_lenT, f_lenR, f_at20, f_at21, f_set20, f_set21, f_t10, f_t20, f_t21, f_t30, f_t31, f_t32, f_t40, f_t41, f_t42, f_t43, f_eqI, f_eqS, f_isN, w_Yes, o_lend, o_lst, o_tup, o_rol, o_str, o_obj, startE, pslot, putS_eq, isIo_un, isIo_fz, isIo_ow, isIo_xc, isIo_io, slotOf, slotData, setData, putIos, iosOf, lends, argsD, argD, isLst, asB, asI, newO_ok, newX_ok, asObj, asNil, asS, gNm, gsNil, gsCons, gTu, wipeE, backE, ownFree, isCls0, appF, bareX, clrX, List.map_cons, List.map_nil, List.length_cons, List.length_nil, List.replicate_succ, List.replicate_zero, List.cons_append, List.nil_append, List.append_nil, List.getElem?_cons_zero, List.getElem?_cons_succ, List.getElem?_nil, List.set_cons_zero, List.set_cons_succ, Option.bind_some, Option.bind_none, Option.map_some, Option.map_none, Option.getD_some, Option.getD_none, sz, Nat.reduceLeDiff, Int.reduceLT, Int.reduceLE, decide_true, decide_false, Int.reduceBEq, Int.reduceBNe, Bool.false_eq_true, if_false, if_true, Bool.false_xor, Bool.true_xor, Bool.not_true, Bool.not_false, Bool.not_not, Nat.reduceSub, Nat.reduceAdd, List.nodup_cons, List.nodup_nil, List.not_mem_nil, List.mem_cons, not_false_eq_true, and_self, true_and, and_true, List.all_cons, List.all_nil, Bool.and_true, Bool.true_and, tupleF, sliceF, hk1, hk2, f_addL (xs := k1) (ys := [odd]) (by simp; omega), f_addL (xs := k1 ++ [odd]) (ys := k2) (by simp; omega)]
        refine histd ?_
        simp only [w_C, w_Var, w_retO, w_bindE, w_evEx, w_evPk, argDat_val, argDat_lend, w_retF, w_retF1, w_P2, w_P1, w_Chain, w_ChainM, w_IfE, w_AndV, w_OrV, w_NotV, w_Tup, w_Lst, w_Slice, w_SliceM, w_evPn, w_evPs, w_PN, w_Call, w_Make, w_makeO, w_Meth, w_Len, w_lenK, w_Str, w_Fmt, w_Join0, w_Join, w_Xf, w_Xi, w_Lc, w_Tru, w_Test, w_And, w_Or, w_Not, w_aNil, w_aCons, w_rNil, w_rVal, w_rLend, w_rPk, w_rDfl, w_rSelf, w_iArgs, w_iSeq, w_Seq, thenS_nx, thenS_rt, thenS_bk, thenS_ct, w_Nx, w_Ret, w_RetN, w_RetV, w_Expr, w_nxO, w_Asg, w_If, w_Unp, w_mutS, w_SetF, w_App, w_Ix, w_Par2, w_Raise, w_Try, w_Try0, w_For, w_Sup, endQ_nx, endQ_rt, sat_some, sat_none, sat_ite, sat_map, sat_bind, selO_some, selO_none, sel_true, sel_false, sel_not, wp_ok, wp_ex, wp_st, wp_ite, f_lt, f_le, f_gt, f_ge, f_add, f_sub, f_mul, f_mod, f_fdiv, f_neg, f_p6, f_p9, f_p12, f_p18, f_p20, f_p30, f_int, f_abs, f_max, f_min, f_sqL, f_sqT, f_sqR, f_lenL, f_lenT, f_lenR, f_at20, f_at21, f_set20, f_set21, f_t10, f_t20, f_t21, f_t30, f_t31, f_t32, f_t40, f_t41, f_t42, f_t43, f_eqI, f_eqS, f_isN, w_Yes, o_lend, o_lst, o_tup, o_rol, o_str, o_obj, startE, pslot, putS_eq, isIo_un, isIo_fz, isIo_ow, isIo_xc, isIo_io, slotOf, slotData, setData, putIos, iosOf, lends, argsD, argD, isLst, asB, asI, newO_ok, newX_ok, asObj, asNil, asS, gNm, gsNil, gsCons, gTu, wipeE, backE, ownFree, isCls0, appF, bareX, clrX, List.map_cons, List.map_nil, List.length_cons, List.length_nil, List.replicate_succ, List.replicate_zero, List.cons_append, List.nil_append, List.append_nil, List.getElem?_cons_zero, List.getElem?_cons_succ, List.getElem?_nil, List.set_cons_zero, List.set_cons_succ, Option.bind_some, Option.bind_none, Option.map_some, Option.map_none, Option.getD_some, Option.getD_none, sz, Nat.reduceLeDiff, Int.reduceLT, Int.reduceLE, decide_true, decide_false, Int.reduceBEq, Int.reduceBNe, Bool.false_eq_true, if_false, if_true, Bool.false_xor, Bool.true_xor, Bool.not_true, Bool.not_false, Bool.not_not, Nat.reduceSub, Nat.reduceAdd, List.nodup_cons, List.nodup_nil, List.not_mem_nil, List.mem_cons, not_false_eq_true, and_self, true_and, and_true, List.all_cons, List.all_nil, Bool.and_true, Bool.true_and, h7]
        refine any_ok 4 (m := m + 7) hx (by omega) fun d2 a b v2 hx => ?_
        have vmid : vok (.lst (k1 ++ [odd] ++ k2)) := by
          refine ⟨trivial, fun x hx => ?_, ?_⟩
          · have hx : x ∈ k1 ++ [odd] ++ k2 := hx
            simp only [List.mem_append, List.mem_singleton] at hx
            rcases hx with (hx | rfl) | hx
            · exact (gv x (c1 x hx)).1
            · exact vodd.1
            · exact (gv x (c2 x hx)).1
          · show (k1 ++ [odd] ++ k2).length ≤ 100
            simp
            omega
        simp only [w_C, w_Var, w_retO, w_bindE, w_evEx, w_evPk, argDat_val, argDat_lend, w_retF, w_retF1, w_P2, w_P1, w_Chain, w_ChainM, w_IfE, w_AndV, w_OrV, w_NotV, w_Tup, w_Lst, w_Slice, w_SliceM, w_evPn, w_evPs, w_PN, w_Call, w_Make, w_makeO, w_Meth, w_Len, w_lenK, w_Str, w_Fmt, w_Join0, w_Join, w_Xf, w_Xi, w_Lc, w_Tru, w_Test, w_And, w_Or, w_Not, w_aNil, w_aCons, w_rNil, w_rVal, w_rLend, w_rPk, w_rDfl, w_rSelf, w_iArgs, w_iSeq, w_Seq, thenS_nx, thenS_rt, thenS_bk, thenS_ct, w_Nx, w_Ret, w_RetN, w_RetV, w_Expr, w_nxO, w_Asg, w_If, w_Unp, w_mutS, w_SetF, w_App, w_Ix, w_Par2, w_Raise, w_Try, w_Try0, w_For, w_Sup, endQ_nx, endQ_rt, sat_some, sat_none, sat_ite, sat_map, sat_bind, selO_some, selO_none, sel_true, sel_false, sel_not, wp_ok, wp_ex, wp_st, wp_ite, f_lt, f_le, f_gt, f_ge, f_add, f_sub, f_mul, f_mod, f_fdiv, f_neg, f_p6, f_p9, f_p12, f_p18, f_p20, f_p30, f_int, f_abs, f_max, f_min, f_sqL, f_sqT, f_sqR, f_lenL, f_lenT, f_lenR, f_at20, f_at21, f_set20, f_set21, f_t10, f_t20, f_t21, f_t30, f_t31, f_t32, f_t40, f_t41, f_t42, f_t43, f_eqI, f_eqS, f_isN, w_Yes, o_lend, o_lst, o_tup, o_rol, o_str, o_obj, startE, pslot, putS_eq, isIo_un, isIo_fz, isIo_ow, isIo_xc, isIo_io, slotOf, slotData, setData, putIos, iosOf, lends, argsD, argD, isLst, asB, asI, newO_ok, newX_ok, asObj, asNil, asS, gNm, gsNil, gsCons, gTu, wipeE, backE, ownFree, isCls0, appF, bareX, clrX, List.map_cons, List.map_nil, List.length_cons, List.length_nil, List.replicate_succ, List.replicate_zero, List.cons_append, List.nil_append, List.append_nil, List.getElem?_cons_zero, List.getElem?_cons_succ, List.getElem?_nil, List.set_cons_zero, List.set_cons_succ, Option.bind_some, Option.bind_none, Option.map_some, Option.map_none, Option.getD_some, Option.getD_none, sz, Nat.reduceLeDiff, Int.reduceLT, Int.reduceLE, decide_true, decide_false, Int.reduceBEq, Int.reduceBNe, Bool.false_eq_true, if_false, if_true, Bool.false_xor, Bool.true_xor, Bool.not_true, Bool.not_false, Bool.not_not, Nat.reduceSub, Nat.reduceAdd, List.nodup_cons, List.nodup_nil, List.not_mem_nil, List.mem_cons, not_false_eq_true, and_self, true_and, and_true, List.all_cons, List.all_nil, Bool.and_true, Bool.true_and, f_addL (xs := [.lst good, .tup good, .lst (k1 ++ [odd] ++ k2), .tup [odd], odd, oHist good]) (ys := [d2]) (by simp)]
        refine loop_inv (fun ds e => (∀ d ∈ ds, vok d) ∧ ∃ s8, e = [.fz (scr ns), .fz (.int i), .ow (bx a b), .fz d, .fz (.lst good), .fz (.int at_), .fz odd, .ow (.lst [.lst good, .tup good, .lst (k1 ++ [odd] ++ k2), .tup [odd], odd, oHist good]), s8, .un] ∧ isIo s8 = false) (fun e hI => ?_) (fun v r e hI => ?_) _ _ ⟨fun v hv => ?_, _, rfl, h8⟩
        · obtain ⟨_, s8, rfl, h8⟩ := hI
          simp only [w_C, w_Var, w_retO, w_bindE, w_evEx, w_evPk, argDat_val, argDat_lend, w_retF, w_retF1, w_P2, w_P1, w_Chain, w_ChainM, w_IfE, w_AndV, w_OrV, w_NotV, w_Tup, w_Lst, w_Slice, w_SliceM, w_evPn, w_evPs, w_PN, w_Call, w_Make, w_makeO, w_Meth, w_Len, w_lenK, w_Str, w_Fmt, w_Join0, w_Join, w_Xf, w_Xi, w_Lc, w_Tru, w_Test, w_And, w_Or, w_Not, w_aNil, w_aCons, w_rNil, w_rVal, w_rLend, w_rPk, w_rDfl, w_rSelf, w_iArgs, w_iSeq, w_Seq, thenS_nx, thenS_rt, thenS_bk, thenS_ct, w_Nx, w_Ret, w_RetN, w_RetV, w_Expr, w_nxO, w_Asg, w_If, w_Unp, w_mutS, w_SetF, w_App, w_Ix, w_Par2, w_Raise, w_Try, w_Try0, w_For, w_Sup, endQ_nx, endQ_rt, sat_some, sat_none, sat_ite, sat_map, sat_bind, selO_some, selO_none, sel_true, sel_false, sel_not, wp_ok, wp_ex, wp_st, wp_ite, f_lt, f_le, f_gt, f_ge, f_add, f_sub, f_mul, f_mod, f_fdiv, f_neg, f_p6, f_p9, f_p12, f_p18, f_p20, f_p30, f_int, f_abs, f_max, f_min, f_sqL, f_sqT, f_sqR, f_lenL, f_lenT, f_lenR, f_at20, f_at21, f_set20, f_set21, f_t10, f_t20, f_t21, f_t30, f_t31, f_t32, f_t40, f_t41, f_t42, f_t43, f_eqI, f_eqS, f_isN, w_Yes, o_lend, o_lst, o_tup, o_rol, o_str, o_obj, startE, pslot, putS_eq, isIo_un, isIo_fz, isIo_ow, isIo_xc, isIo_io, slotOf, slotData, setData, putIos, iosOf, lends, argsD, argD, isLst, asB, asI, newO_ok, newX_ok, asObj, asNil, asS, gNm, gsNil, gsCons, gTu, wipeE, backE, ownFree, isCls0, appF, bareX, clrX, List.map_cons, List.map_nil, List.length_cons, List.length_nil, List.replicate_succ, List.replicate_zero, List.cons_append, List.nil_append, List.append_nil, List.getElem?_cons_zero, List.getElem?_cons_succ, List.getElem?_nil, List.set_cons_zero, List.set_cons_succ, Option.bind_some, Option.bind_none, Option.map_some, Option.map_none, Option.getD_some, Option.getD_none, sz, Nat.reduceLeDiff, Int.reduceLT, Int.reduceLE, decide_true, decide_false, Int.reduceBEq, Int.reduceBNe, Bool.false_eq_true, if_false, if_true, Bool.false_xor, Bool.true_xor, Bool.not_true, Bool.not_false, Bool.not_not, Nat.reduceSub, Nat.reduceAdd, List.nodup_cons, List.nodup_nil, List.not_mem_nil, List.mem_cons, not_false_eq_true, and_self, true_and, and_true, List.all_cons, List.all_nil, Bool.and_true, Bool.true_and]
          exact ⟨a, b, _, _, _, _, _, _, hx, rfl, rfl, rfl, rfl, rfl, rfl, h8⟩
        · obtain ⟨hv, s8, rfl, h8⟩ := hI
          have vv := hv v List.mem_cons_self
          simp only [w_C, w_Var, w_retO, w_bindE, w_evEx, w_evPk, argDat_val, argDat_lend, w_retF, w_retF1, w_P2, w_P1, w_Chain, w_ChainM, w_IfE, w_AndV, w_OrV, w_NotV, w_Tup, w_Lst, w_Slice, w_SliceM, w_evPn, w_evPs, w_PN, w_Call, w_Make, w_makeO, w_Meth, w_Len, w_lenK, w_Str, w_Fmt, w_Join0, w_Join, w_Xf, w_Xi, w_Lc, w_Tru, w_Test, w_And, w_Or, w_Not, w_aNil, w_aCons, w_rNil, w_rVal, w_rLend, w_rPk, w_rDfl, w_rSelf, w_iArgs, w_iSeq, w_Seq, thenS_nx, thenS_rt, thenS_bk, thenS_ct, w_Nx, w_Ret, w_RetN, w_RetV, w_Expr, w_nxO, w_Asg, w_If, w_Unp, w_mutS, w_SetF, w_App, w_Ix, w_Par2, w_Raise, w_Try, w_Try0, w_For, w_Sup, endQ_nx, endQ_rt, sat_some, sat_none, sat_ite, sat_map, sat_bind, selO_some, selO_none, sel_true, sel_false, sel_not, wp_ok, wp_ex, wp_st, wp_ite, f_lt, f_le, f_gt, f_ge, f_add, f_sub, f_mul, f_mod, f_fdiv, f_neg, f_p6, f_p9, f_p12, f_p18, f_p20, f_p30, f_int, f_abs, f_max, f_min, f_sqL, f_sqT, f_sqR, f_lenL, f_lenT, f_lenR, f_at20, f_at21, f_set20, f_set21, f_t10, f_t20, f_t21, f_t30, f_t31, f_t32, f_t40, f_t41, f_t42, f_t43, f_eqI, f_eqS, f_isN, w_Yes, o_lend, o_lst, o_tup, o_rol, o_str, o_obj, startE, pslot, putS_eq, isIo_un, isIo_fz, isIo_ow, isIo_xc, isIo_io, slotOf, slotData, setData, putIos, iosOf, lends, argsD, argD, isLst, asB, asI, newO_ok, newX_ok, asObj, asNil, asS, gNm, gsNil, gsCons, gTu, wipeE, backE, ownFree, isCls0, appF, bareX, clrX, List.map_cons, List.map_nil, List.length_cons, List.length_nil, List.replicate_succ, List.replicate_zero, List.cons_append, List.nil_append, List.append_nil, List.getElem?_cons_zero, List.getElem?_cons_succ, List.getElem?_nil, List.set_cons_zero, List.set_cons_succ, Option.bind_some, Option.bind_none, Option.map_some, Option.map_none, Option.getD_some, Option.getD_none, sz, Nat.reduceLeDiff, Int.reduceLT, Int.reduceLE, decide_true, decide_false, Int.reduceBEq, Int.reduceBNe, Bool.false_eq_true, if_false, if_true, Bool.false_xor, Bool.true_xor, Bool.not_true, Bool.not_false, Bool.not_not, Nat.reduceSub, Nat.reduceAdd, List.nodup_cons, List.nodup_nil, List.not_mem_nil, List.mem_cons, not_false_eq_true, and_self, true_and, and_true, List.all_cons, List.all_nil, Bool.and_true, Bool.true_and, h8]
          obtain ⟨z, hz⟩ := repr_res vv
          refine refused_ok vv ?_
          simp only [w_C, w_Var, w_retO, w_bindE, w_evEx, w_evPk, argDat_val, argDat_lend, w_retF, w_retF1, w_P2, w_P1, w_Chain, w_ChainM, w_IfE, w_AndV, w_OrV, w_NotV, w_Tup, w_Lst, w_Slice, w_SliceM, w_evPn, w_evPs, w_PN, w_Call, w_Make, w_makeO, w_Meth, w_Len, w_lenK, w_Str, w_Fmt, w_Join0, w_Join, w_Xf, w_Xi, w_Lc, w_Tru, w_Test, w_And, w_Or, w_Not, w_aNil, w_aCons, w_rNil, w_rVal, w_rLend, w_rPk, w_rDfl, w_rSelf, w_iArgs, w_iSeq, w_Seq, thenS_nx, thenS_rt, thenS_bk, thenS_ct, w_Nx, w_Ret, w_RetN, w_RetV, w_Expr, w_nxO, w_Asg, w_If, w_Unp, w_mutS, w_SetF, w_App, w_Ix, w_Par2, w_Raise, w_Try, w_Try0, w_For, w_Sup, endQ_nx, endQ_rt, sat_some, sat_none, sat_ite, sat_map, sat_bind, selO_some, selO_none, sel_true, sel_false, sel_not, wp_ok, wp_ex, wp_st, wp_ite, f_lt, f_le, f_gt, f_ge, f_add, f_sub, f_mul, f_mod, f_fdiv, f_neg, f_p6, f_p9, f_p12, f_p18, f_p20, f_p30, f_int, f_abs, f_max, f_min, f_sqL, f_sqT, f_sqR, f_lenL, f_lenT, f_lenR, f_at20, f_at21, f_set20, f_set21, f_t10, f_t20, f_t21, f_t30, f_t31, f_t32, f_t40, f_t41, f_t42, f_t43, f_eqI, f_eqS, f_isN, w_Yes, o_lend, o_lst, o_tup, o_rol, o_str, o_obj, startE, pslot, putS_eq, isIo_un, isIo_fz, isIo_ow, isIo_xc, isIo_io, slotOf, slotData, setData, putIos, iosOf, lends, argsD, argD, isLst, asB, asI, newO_ok, newX_ok, asObj, asNil, asS, gNm, gsNil, gsCons, gTu, wipeE, backE, ownFree, isCls0, appF, bareX, clrX, List.map_cons, List.map_nil, List.length_cons, List.length_nil, List.replicate_succ, List.replicate_zero, List.cons_append, List.nil_append, List.append_nil, List.getElem?_cons_zero, List.getElem?_cons_succ, List.getElem?_nil, List.set_cons_zero, List.set_cons_succ, Option.bind_some, Option.bind_none, Option.map_some, Option.map_none, Option.getD_some, Option.getD_none, sz, Nat.reduceLeDiff, Int.reduceLT, Int.reduceLE, decide_true, decide_false, Int.reduceBEq, Int.reduceBNe, Bool.false_eq_true, if_false, if_true, Bool.false_xor, Bool.true_xor, Bool.not_true, Bool.not_false, Bool.not_not, Nat.reduceSub, Nat.reduceAdd, List.nodup_cons, List.nodup_nil, List.not_mem_nil, List.mem_cons, not_false_eq_true, and_self, true_and, and_true, List.all_cons, List.all_nil, Bool.and_true, Bool.true_and, hz]
          refine due_ok vv ?_
          simp only [w_C, w_Var, w_retO, w_bindE, w_evEx, w_evPk, argDat_val, argDat_lend, w_retF, w_retF1, w_P2, w_P1, w_Chain, w_ChainM, w_IfE, w_AndV, w_OrV, w_NotV, w_Tup, w_Lst, w_Slice, w_SliceM, w_evPn, w_evPs, w_PN, w_Call, w_Make, w_makeO, w_Meth, w_Len, w_lenK, w_Str, w_Fmt, w_Join0, w_Join, w_Xf, w_Xi, w_Lc, w_Tru, w_Test, w_And, w_Or, w_Not, w_aNil, w_aCons, w_rNil, w_rVal, w_rLend, w_rPk, w_rDfl, w_rSelf, w_iArgs, w_iSeq, w_Seq, thenS_nx, thenS_rt, thenS_bk, thenS_ct, w_Nx, w_Ret, w_RetN, w_RetV, w_Expr, w_nxO, w_Asg, w_If, w_Unp, w_mutS, w_SetF, w_App, w_Ix, w_Par2, w_Raise, w_Try, w_Try0, w_For, w_Sup, endQ_nx, endQ_rt, sat_some, sat_none, sat_ite, sat_map, sat_bind, selO_some, selO_none, sel_true, sel_false, sel_not, wp_ok, wp_ex, wp_st, wp_ite, f_lt, f_le, f_gt, f_ge, f_add, f_sub, f_mul, f_mod, f_fdiv, f_neg, f_p6, f_p9, f_p12, f_p18, f_p20, f_p30, f_int, f_abs, f_max, f_min, f_sqL, f_sqT, f_sqR, f_lenL, f_lenT, f_lenR, f_at20, f_at21, f_set20, f_set21, f_t10, f_t20, f_t21, f_t30, f_t31, f_t32, f_t40, f_t41, f_t42, f_t43, f_eqI, f_eqS, f_isN, w_Yes, o_lend, o_lst, o_tup, o_rol, o_str, o_obj, startE, pslot, putS_eq, isIo_un, isIo_fz, isIo_ow, isIo_xc, isIo_io, slotOf, slotData, setData, putIos, iosOf, lends, argsD, argD, isLst, asB, asI, newO_ok, newX_ok, asObj, asNil, asS, gNm, gsNil, gsCons, gTu, wipeE, backE, ownFree, isCls0, appF, bareX, clrX, List.map_cons, List.map_nil, List.length_cons, List.length_nil, List.replicate_succ, List.replicate_zero, List.cons_append, List.nil_append, List.append_nil, List.getElem?_cons_zero, List.getElem?_cons_succ, List.getElem?_nil, List.set_cons_zero, List.set_cons_succ, Option.bind_some, Option.bind_none, Option.map_some, Option.map_none, Option.getD_some, Option.getD_none, sz, Nat.reduceLeDiff, Int.reduceLT, Int.reduceLE, decide_true, decide_false, Int.reduceBEq, Int.reduceBNe, Bool.false_eq_true, if_false, if_true, Bool.false_xor, Bool.true_xor, Bool.not_true, Bool.not_false, Bool.not_not, Nat.reduceSub, Nat.reduceAdd, List.nodup_cons, List.nodup_nil, List.not_mem_nil, List.mem_cons, not_false_eq_true, and_self, true_and, and_true, List.all_cons, List.all_nil, Bool.and_true, Bool.true_and, hz, beq_self_eq_true]
          exact ⟨fun d' hd' => hv d' (List.mem_cons_of_mem _ hd'), _, rfl, rfl⟩
        · simp only [List.mem_append, List.mem_cons, List.not_mem_nil, or_false] at hv
          rcases hv with rfl | rfl | rfl | rfl | rfl | rfl | rfl
          · exact vgood
          · exact ⟨trivial, fun x hx => (gv x hx).1, by show good.length ≤ 100; omega⟩
          · exact vmid
          · exact ⟨trivial, (by intro x hx; have hx : x ∈ [odd] := hx; rw [List.mem_singleton] at hx; subst hx; exact vodd.1), by show 1 ≤ 100; omega⟩
          · exact vodd
          · exact vhist
          · exact v2
      · obtain ⟨al, av, a, b, hx, rfl⟩ := hI
        simp only [w_C, w_Var, w_retO, w_bindE, w_evEx, w_evPk, argDat_val, argDat_lend, w_retF, w_retF1, w_P2, w_P1, w_Chain, w_ChainM, w_IfE, w_AndV, w_OrV, w_NotV, w_Tup, w_Lst, w_Slice, w_SliceM, w_evPn, w_evPs, w_PN, w_Call, w_Make, w_makeO, w_Meth, w_Len, w_lenK, w_Str, w_Fmt, w_Join0, w_Join, w_Xf, w_Xi, w_Lc, w_Tru, w_Test, w_And, w_Or, w_Not, w_aNil, w_aCons, w_rNil, w_rVal, w_rLend, w_rPk, w_rDfl, w_rSelf, w_iArgs, w_iSeq, w_Seq, thenS_nx, thenS_rt, thenS_bk, thenS_ct, w_Nx, w_Ret, w_RetN, w_RetV, w_Expr, w_nxO, w_Asg, w_If, w_Unp, w_mutS, w_SetF, w_App, w_Ix, w_Par2, w_Raise, w_Try, w_Try0, w_For, w_Sup, endQ_nx, endQ_rt, sat_some, sat_none, sat_ite, sat_map, sat_bind, selO_some, selO_none, sel_true, sel_false, sel_not, wp_ok, wp_ex, wp_st, wp_ite, f_lt, f_le, f_gt, f_ge, f_add, f_sub, f_mul, f_mod, f_fdiv, f_neg, f_p6, f_p9, f_p12, f_p18, f_p20, f_p30, f_int, f_abs, f_max, f_min, f_sqL, f_sqT, f_sqR, f_lenL, f_lenT, f_lenR, f_at20, f_at21, f_set20, f_set21, f_t10, f_t20, f_t21, f_t30, f_t31, f_t32, f_t40, f_t41, f_t42, f_t43, f_eqI, f_eqS, f_isN, w_Yes, o_lend, o_lst, o_tup, o_rol, o_str, o_obj, startE, pslot, putS_eq, isIo_un, isIo_fz, isIo_ow, isIo_xc, isIo_io, slotOf, slotData, setData, putIos, iosOf, lends, argsD, argD, isLst, asB, asI, newO_ok, newX_ok, asObj, asNil, asS, gNm, gsNil, gsCons, gTu, wipeE, backE, ownFree, isCls0, appF, bareX, clrX, List.map_cons, List.map_nil, List.length_cons, List.length_nil, List.replicate_succ, List.replicate_zero, List.cons_append, List.nil_append, List.append_nil, List.getElem?_cons_zero, List.getElem?_cons_succ, List.getElem?_nil, List.set_cons_zero, List.set_cons_succ, Option.bind_some, Option.bind_none, Option.map_some, Option.map_none, Option.getD_some, Option.getD_none, sz, Nat.reduceLeDiff, Int.reduceLT, Int.reduceLE, decide_true, decide_false, Int.reduceBEq, Int.reduceBNe, Bool.false_eq_true, if_false, if_true, Bool.false_xor, Bool.true_xor, Bool.not_true, Bool.not_false, Bool.not_not, Nat.reduceSub, Nat.reduceAdd, List.nodup_cons, List.nodup_nil, List.not_mem_nil, List.mem_cons, not_false_eq_true, and_self, true_and, and_true, List.all_cons, List.all_nil, Bool.and_true, Bool.true_and]
        refine anymove_ok RR hx fun mv a b hm hx => ?_
        simp only [w_C, w_Var, w_retO, w_bindE, w_evEx, w_evPk, argDat_val, argDat_lend, w_retF, w_retF1, w_P2, w_P1, w_Chain, w_ChainM, w_IfE, w_AndV, w_OrV, w_NotV, w_Tup, w_Lst, w_Slice, w_SliceM, w_evPn, w_evPs, w_PN, w_Call, w_Make, w_makeO, w_Meth, w_Len, w_lenK, w_Str, w_Fmt, w_Join0, w_Join, w_Xf, w_Xi, w_Lc, w_Tru, w_Test, w_And, w_Or, w_Not, w_aNil, w_aCons, w_rNil, w_rVal, w_rLend, w_rPk, w_rDfl, w_rSelf, w_iArgs, w_iSeq, w_Seq, thenS_nx, thenS_rt, thenS_bk, thenS_ct, w_Nx, w_Ret, w_RetN, w_RetV, w_Expr, w_nxO, w_Asg, w_If, w_Unp, w_mutS, w_SetF, w_App, w_Ix, w_Par2, w_Raise, w_Try, w_Try0, w_For, w_Sup, endQ_nx, endQ_rt, sat_some, sat_none, sat_ite, sat_map, sat_bind, selO_some, selO_none, sel_true, sel_false, sel_not, wp_ok, wp_ex, wp_st, wp_ite, f_lt, f_le, f_gt, f_ge, f_add, f_sub, f_mul, f_mod, f_fdiv, f_neg, f_p6, f_p9, f_p12, f_p18, f_p20, f_p30, f_int, f_abs, f_max, f_min, f_sqL, f_sqT, f_sqR, f_lenL, f_lenT, f_lenR, f_at20, f_at21, f_set20, f_set21, f_t10, f_t20, f_t21, f_t30, f_t31, f_t32, f_t40, f_t41, f_t42, f_t43, f_eqI, f_eqS, f_isN, w_Yes, o_lend, o_lst, o_tup, o_rol, o_str, o_obj, startE, pslot, putS_eq, isIo_un, isIo_fz, isIo_ow, isIo_xc, isIo_io, slotOf, slotData, setData, putIos, iosOf, lends, argsD, argD, isLst, asB, asI, newO_ok, newX_ok, asObj, asNil, asS, gNm, gsNil, gsCons, gTu, wipeE, backE, ownFree, isCls0, appF, bareX, clrX, List.map_cons, List.map_nil, List.length_cons, List.length_nil, List.replicate_succ, List.replicate_zero, List.cons_append, List.nil_append, List.append_nil, List.getElem?_cons_zero, List.getElem?_cons_succ, List.getElem?_nil, List.set_cons_zero, List.set_cons_succ, Option.bind_some, Option.bind_none, Option.map_some, Option.map_none, Option.getD_some, Option.getD_none, sz, Nat.reduceLeDiff, Int.reduceLT, Int.reduceLE, decide_true, decide_false, Int.reduceBEq, Int.reduceBNe, Bool.false_eq_true, if_false, if_true, Bool.false_xor, Bool.true_xor, Bool.not_true, Bool.not_false, Bool.not_not, Nat.reduceSub, Nat.reduceAdd, List.nodup_cons, List.nodup_nil, List.not_mem_nil, List.mem_cons, not_false_eq_true, and_self, true_and, and_true, List.all_cons, List.all_nil, Bool.and_true, Bool.true_and]
        refine made_ok RR hm ?_
        simp only [w_C, w_Var, w_retO, w_bindE, w_evEx, w_evPk, argDat_val, argDat_lend, w_retF, w_retF1, w_P2, w_P1, w_Chain, w_ChainM, w_IfE, w_AndV, w_OrV, w_NotV, w_Tup, w_Lst, w_Slice, w_SliceM, w_evPn, w_evPs, w_PN, w_Call, w_Make, w_makeO, w_Meth, w_Len, w_lenK, w_Str, w_Fmt, w_Join0, w_Join, w_Xf, w_Xi, w_Lc, w_Tru, w_Test, w_And, w_Or, w_Not, w_aNil, w_aCons, w_rNil, w_rVal, w_rLend, w_rPk, w_rDfl, w_rSelf, w_iArgs, w_iSeq, w_Seq, thenS_nx, thenS_rt, thenS_bk, thenS_ct, w_Nx, w_Ret, w_RetN, w_RetV, w_Expr, w_nxO, w_Asg, w_If, w_Unp, w_mutS, w_SetF, w_App, w_Ix, w_Par2, w_Raise, w_Try, w_Try0, w_For, w_Sup, endQ_nx, endQ_rt, sat_some, sat_none, sat_ite, sat_map, sat_bind, selO_some, selO_none, sel_true, sel_false, sel_not, wp_ok, wp_ex, wp_st, wp_ite, f_lt, f_le, f_gt, f_ge, f_add, f_sub, f_mul, f_mod, f_fdiv, f_neg, f_p6, f_p9, f_p12, f_p18, f_p20, f_p30, f_int, f_abs, f_max, f_min, f_sqL, f_sqT, f_sqR, f_lenL, f_lenT, f_lenR, f_at20, f_at21, f_set20, f_set21, f_t10, f_t20, f_t21, f_t30, f_t31, f_t32, f_t40, f_t41, f_t42, f_t43, f_eqI, f_eqS, f_isN, w_Yes, o_lend, o_lst, o_tup, o_rol, o_str, o_obj, startE, pslot, putS_eq, isIo_un, isIo_fz, isIo_ow, isIo_xc, isIo_io, slotOf, slotData, setData, putIos, iosOf, lends, argsD, argD, isLst, asB, asI, newO_ok, newX_ok, asObj, asNil, asS, gNm, gsNil, gsCons, gTu, wipeE, backE, ownFree, isCls0, appF, bareX, clrX, List.map_cons, List.map_nil, List.length_cons, List.length_nil, List.replicate_succ, List.replicate_zero, List.cons_append, List.nil_append, List.append_nil, List.getElem?_cons_zero, List.getElem?_cons_succ, List.getElem?_nil, List.set_cons_zero, List.set_cons_succ, Option.bind_some, Option.bind_none, Option.map_some, Option.map_none, Option.getD_some, Option.getD_none, sz, Nat.reduceLeDiff, Int.reduceLT, Int.reduceLE, decide_true, decide_false, Int.reduceBEq, Int.reduceBNe, Bool.false_eq_true, if_false, if_true, Bool.false_xor, Bool.true_xor, Bool.not_true, Bool.not_false, Bool.not_not, Nat.reduceSub, Nat.reduceAdd, List.nodup_cons, List.nodup_nil, List.not_mem_nil, List.mem_cons, not_false_eq_true, and_self, true_and, and_true, List.all_cons, List.all_nil, Bool.and_true, Bool.true_and]
        simp at al
        refine ⟨by omega, by simp; omega, ?_, a, b, hx, rfl⟩
        intro y hy
        rw [List.mem_append, List.mem_singleton] at hy
        rcases hy with hy | rfl
        · exact av y hy
        · exact mv_top mv
      · simp
        omega
  · obtain ⟨j, hj, rfl⟩ := List.mem_map.mp hd
    have := List.mem_range.mp hj
    exact ⟨_, rfl, by omega, by omega⟩
end
end K05
set_option maxHeartbeats 8000000
open PySem
set_option maxRecDepth 100000 in
set_option maxHeartbeats 8000000 in
theorem PySem.Challenge.cw_contrabooks_k05_histories_refused_holds : PySem.Challenge.rw_contrabooks_k05_histories_refused.Holds := by
  exact K05.law_of 12 (by decide) fun ns hl => DL.wpC_true (K05.law_ok (m := 0) hl fun _ => rfl)
