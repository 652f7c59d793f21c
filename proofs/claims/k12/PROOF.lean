import PyProof.Rows.All
import Wide.All
import OpenK.AllK
import Wide.FinOn
import HandS.ForMost
import HandS.WordsExc
import HandS.Wide
import HandS.Zip
import HandS.IsInst
import HandS.Conv
import HandS.CallSlots
import HandS.Walk
import HandS.Deep
import HandS.Flow
import HandS.Style
import HandS.TupAny
import HandS.TupMul
import HandS.TupLe
import HandS.SortInts
import HandS.RevRange
import KE.GoesEnum
import KE.GoesMore
import KE.GoesZip
import HandS.Ends
import PySem.Challenge.RW_tidequays_k12_whole_lights_second_by_sec
set_option Elab.async false
set_option maxRecDepth 100000
set_option linter.all false
/-! VL: a layer of plain values over the hand layer. Part a: data, slots, the monad, what represents what. -/
namespace VL
open PySem L2

/-- plain data -/
inductive D where
  | non | bl (b : Bool) | int (i : Int) | str (s : Str)
  | tup (xs : List D) | lst (xs : List D) | dic (kvs : List (D × D))
  | scr (ns : List Int) | ty (n : String)
  | fn (i : Nat) | cls (i : Nat) | obj (c : Nat) (fs : List D)
  deriving Inhabited

/-- a name's state: unbound; a value; a list of one's own; a list lent by the caller, still lent, or frozen by now -/
inductive Slot where
  | un | val (d : D) | own (d : D) | bow (d : D) | bfz (d : D)
  deriving Inhabited
abbrev Env := List Slot

inductive Res (α : Type) where
  | stuck
  | ok (a : α) (r : Env)
  | exc (x : D) (r : Env)
def M (α : Type) := Env → Res α
def Res.bnd {α β : Type} (r : Res α) (f : α → M β) : Res β :=
  match r with
  | .stuck => .stuck
  | .ok a ρ => f a ρ
  | .exc x ρ => .exc x ρ
def M.pur {α : Type} (a : α) : M α := fun ρ => .ok a ρ
def M.bnd {α β : Type} (m : M α) (f : α → M β) : M β := fun ρ => (m ρ).bnd f
instance : Monad M where
  pure := M.pur
  bind := M.bnd
def M.stuck {α : Type} : M α := fun _ => .stuck
def M.lift {α : Type} (o : Option α) : M α := fun ρ => match o with | some a => .ok a ρ | none => .stuck
@[simp] theorem pur_ap {α : Type} (a : α) (ρ : Env) : (pure a : M α) ρ = .ok a ρ := rfl
@[simp] theorem pur_ap' {α : Type} (a : α) (ρ : Env) : (M.pur a : M α) ρ = .ok a ρ := rfl
@[simp] theorem bnd_ap {α β : Type} (m : M α) (f : α → M β) (ρ : Env) : (m >>= f) ρ = (m ρ).bnd f := rfl
@[simp] theorem bnd_ap' {α β : Type} (m : M α) (f : α → M β) (ρ : Env) : (M.bnd m f) ρ = (m ρ).bnd f := rfl
@[simp] theorem bnd_ok {α β : Type} (a : α) (ρ : Env) (f : α → M β) : (Res.ok a ρ).bnd f = f a ρ := rfl
@[simp] theorem bnd_exc {α β : Type} (x : D) (ρ : Env) (f : α → M β) : (Res.exc x ρ).bnd f = .exc x ρ := rfl
@[simp] theorem bnd_stuck {α β : Type} (f : α → M β) : (Res.stuck).bnd f = .stuck := rfl
@[simp] theorem lift_some {α : Type} (a : α) (ρ : Env) : (M.lift (some a)) ρ = .ok a ρ := rfl
@[simp] theorem lift_none {α : Type} (ρ : Env) : (M.lift (none : Option α)) ρ = .stuck := rfl
@[simp] theorem stuck_ap {α : Type} (ρ : Env) : (M.stuck : M α) ρ = .stuck := rfl

/-- what an expression comes to: a value, a new list of one's own, the list that a name holds -/
inductive RV where
  | val (d : D) | own (d : D) | bor (i : Nat)
inductive Opd where
  | val (d : D) | bor (i : Nat)

def ownD (ρ : Env) (i : Nat) : Option D := match ρ[i]? with | some (.own d) => some d | some (.bow d) => some d | _ => none
def valD (ρ : Env) (i : Nat) : Option D := match ρ[i]? with | some (.val d) => some d | some (.bfz d) => some d | _ => none
def markB (ρ : Env) (i : Nat) : Bool := match ρ[i]? with | some (.bow _) => true | some (.bfz _) => true | _ => false

/-! ### what represents what -/
mutual
inductive Rep (K : PySem.W.Frag) (S : Hp) : V → D → Prop
  | non : Rep K S .non .non
  | bl (b : Bool) : Rep K S (.bl b) (.bl b)
  | int (i : Int) : Rep K S (.int i) (.int i)
  | str (x : Str) : Rep K S (.str x) (.str x)
  | ty (n : String) : Rep K S (.ty n) (.ty n)
  | tup {a : Addr} {xs : List V} {ds : List D} : SqT K S a xs → Reps K S xs ds → Rep K S (.ref a) (.tup ds)
  | lst {a : Addr} {xs : List V} {ds : List D} : S a = some (.lst xs) → Reps K S xs ds → Rep K S (.ref a) (.lst ds)
  | scr {a : Addr} {ns : List Int} : SqL K S a (ns.map V.int) → Rep K S (.ref a) (.scr ns)
inductive Reps (K : PySem.W.Frag) (S : Hp) : List V → List D → Prop
  | nil : Reps K S [] []
  | cons {v : V} {vs : List V} {d : D} {ds : List D} : Rep K S v d → Reps K S vs ds → Reps K S (v :: vs) (d :: ds)
end
theorem same_t {K : PySem.W.Frag} {H H' : Hp} {a : Addr} {xs : List V} (e : Same H H') (h : SqT K H a xs) : SqT K H' a xs := by
  rcases h with (h | ⟨o, h⟩) | h
  · exact .inl (.inl (e _ _ h))
  · exact .inl (.inr ⟨o, e _ _ h⟩)
  · exact .inr h
mutual
theorem Rep.mono {K : PySem.W.Frag} {S S' : Hp} (e : Same S S') : ∀ {v : V} {d : D}, Rep K S v d → Rep K S' v d
  | _, _, .non => .non
  | _, _, .bl b => .bl b
  | _, _, .int i => .int i
  | _, _, .str x => .str x
  | _, _, .ty x => .ty x
  | _, _, .tup h r => .tup (same_t e h) (Reps.mono e r)
  | _, _, .lst h r => .lst (e _ _ h) (Reps.mono e r)
  | _, _, .scr h => .scr (e.seq h)
theorem Reps.mono {K : PySem.W.Frag} {S S' : Hp} (e : Same S S') : ∀ {vs : List V} {ds : List D}, Reps K S vs ds → Reps K S' vs ds
  | _, _, .nil => .nil
  | _, _, .cons h r => .cons (Rep.mono e h) (Reps.mono e r)
end
section
variable {K : PySem.W.Frag} {S H : Hp} {v : V} {vs : List V} {d : D} {ds : List D}
theorem Reps.len (h : Reps K S vs ds) : vs.length = ds.length := by
  induction ds generalizing vs with
  | nil => cases h; rfl
  | cons d ds ih => cases h with | cons _ r => simp [ih r]
theorem Reps.at {i : Nat} {d : D} (h : Reps K S vs ds) (e : ds[i]? = some d) : ∃ v, vs[i]? = some v ∧ Rep K S v d := by
  induction ds generalizing vs i with
  | nil => simp at e
  | cons d0 ds ih =>
    cases h with
    | cons h0 r =>
      cases i with
      | zero => simp at e; subst e; exact ⟨_, rfl, h0⟩
      | succ i => simpa using ih r (by simpa using e)
theorem Reps.at' {i : Nat} {v : V} (h : Reps K S vs ds) (e : vs[i]? = some v) : ∃ d, ds[i]? = some d ∧ Rep K S v d := by
  induction ds generalizing vs i with
  | nil => cases h; simp at e
  | cons d0 ds ih =>
    cases h with
    | cons h0 r =>
      cases i with
      | zero => simp at e; subst e; exact ⟨_, rfl, h0⟩
      | succ i => simpa using ih r (by simpa using e)
theorem Reps.app {vs' : List V} {ds' : List D} (h : Reps K S vs ds) (h' : Reps K S vs' ds') : Reps K S (vs ++ vs') (ds ++ ds') := by
  induction ds generalizing vs with
  | nil => cases h; exact h'
  | cons d ds ih => cases h with | cons h0 r => exact .cons h0 (ih r)
theorem Reps.take (n : Nat) (h : Reps K S vs ds) : Reps K S (vs.take n) (ds.take n) := by
  induction ds generalizing vs n with
  | nil => cases h; simp; exact .nil
  | cons d ds ih => cases h with | cons h0 r => cases n with | zero => exact .nil | succ n => exact .cons h0 (ih n r)
theorem Reps.drop (n : Nat) (h : Reps K S vs ds) : Reps K S (vs.drop n) (ds.drop n) := by
  induction ds generalizing vs n with
  | nil => cases h; simp; exact .nil
  | cons d ds ih => cases h with | cons h0 r => cases n with | zero => exact .cons h0 r | succ n => exact ih n r
theorem Reps.set (n : Nat) (h : Reps K S vs ds) (q : Rep K S v d) : Reps K S (vs.set n v) (ds.set n d) := by
  induction ds generalizing vs n with
  | nil => cases h; exact .nil
  | cons d0 ds ih => cases h with | cons h0 r => cases n with | zero => exact .cons q r | succ n => exact .cons h0 (ih n r)
theorem Reps.rev (h : Reps K S vs ds) : Reps K S vs.reverse ds.reverse := by
  induction ds generalizing vs with
  | nil => cases h; exact .nil
  | cons d0 ds ih => cases h with | cons h0 r => rw [List.reverse_cons, List.reverse_cons]; exact (ih r).app (.cons h0 .nil)
theorem Reps.rep (k : Nat) (h : Reps K S vs ds) : Reps K S (List.replicate k vs).flatten (List.replicate k ds).flatten := by
  induction k with
  | zero => exact .nil
  | succ k ih => rw [List.replicate_succ, List.replicate_succ, List.flatten_cons, List.flatten_cons]; exact h.app ih
theorem Reps.ints : ∀ {vs : List V} {ns : List Int}, Reps K S vs (ns.map D.int) → vs = ns.map V.int
  | _, [], h => by cases h; rfl
  | _, n :: ns, h => by
    cases h with
    | cons h0 r => cases h0; rw [Reps.ints r]; rfl
theorem Reps.of_ints (ns : List Int) : Reps K S (ns.map V.int) (ns.map D.int) := by
  induction ns with
  | nil => exact .nil
  | cons n ns ih => exact .cons (.int n) ih
theorem Reps.bls : ∀ {vs : List V} {ns : List Bool}, Reps K S vs (ns.map D.bl) → vs = ns.map V.bl
  | _, [], h => by cases h; rfl
  | _, n :: ns, h => by
    cases h with
    | cons h0 r => cases h0; rw [Reps.bls r]; rfl
theorem Reps.strs : ∀ {vs : List V} {ns : List Str}, Reps K S vs (ns.map D.str) → vs = ns.map V.str
  | _, [], h => by cases h; rfl
  | _, n :: ns, h => by
    cases h with
    | cons h0 r => cases h0; rw [Reps.strs r]; rfl

/-- a list at p, its items stand in S -/
def OwnAt (K : PySem.W.Frag) (S H : Hp) (p : Addr) : D → Prop
  | .lst ds => ∃ xs, H p = some (.lst xs) ∧ Reps K S xs ds
  | _ => False
theorem OwnAt.ex (h : OwnAt K S H a d) : ∃ o, H a = some o := by
  cases d <;> first | exact h.elim | (obtain ⟨xs, h, _⟩ := h; exact ⟨_, h⟩)
/-- what may be read: its items stand in S -/
def Rd (K : PySem.W.Frag) (S H : Hp) (v : V) : D → Prop
  | .non => v = .non
  | .bl b => v = .bl b
  | .int i => v = .int i
  | .str x => v = .str x
  | .ty n => v = .ty n
  | .tup ds => ∃ a xs, v = .ref a ∧ SqT K H a xs ∧ Reps K S xs ds ∧ SqT K S a xs
  | .lst ds => ∃ a xs, v = .ref a ∧ H a = some (.lst xs) ∧ Reps K S xs ds
  | .scr ns => ∃ a, v = .ref a ∧ SqL K H a (ns.map V.int)
  | _ => False
theorem Rep.rd (h : Rep K S v d) (e : Same S H) : Rd K S H v d := by
  cases h with
  | non => rfl
  | bl b => rfl
  | int i => rfl
  | str x => rfl
  | ty x => rfl
  | tup h r => exact ⟨_, _, rfl, same_t e h, r, h⟩
  | lst h r => exact ⟨_, _, rfl, e _ _ h, r⟩
  | scr h => exact ⟨_, rfl, e.seq h⟩
theorem OwnAt.rd {p : Addr} (h : OwnAt K S H p d) : Rd K S H (.ref p) d := by
  cases d <;> first | exact h.elim | (obtain ⟨xs, h, r⟩ := h; exact ⟨_, _, rfl, h, r⟩)
/-- a flat value stands anywhere -/
theorem Rd.flat_rep (h : Rd K S H v d) (f : match d with | .non | .bl _ | .int _ | .str _ | .ty _ => True | _ => False) : Rep K S v d := by
  cases d with
  | non => cases h; exact .non
  | bl b => cases h; exact .bl b
  | int b => cases h; exact .int b
  | str b => cases h; exact .str b
  | ty b => cases h; exact .ty b
  | _ => exact f.elim
end
end VL

/-! VL part b: the state of the names, steps, what is good. -/
namespace VL
open PySem L2

/-- p is owned by a name -/
def OwnA (ρ : Env) (σ : St) (p : Addr) : Prop := ∃ i d, ownD ρ i = some d ∧ σ[i]? = some (some (V.ref p))

structure Cfg where
  K : PySem.W.Frag
  xr : D → Hp → Value → Option Addr → Prop

structure StRel (C : Cfg) (S : Hp) (ρ : Env) (σ : St) (H : Hp) : Prop where
  same : Same S H
  len : σ.length = ρ.length
  val : ∀ i d, valD ρ i = some d → ∃ v, σ[i]? = some (some v) ∧ Rep C.K S v d
  own : ∀ i d, ownD ρ i = some d → ∃ p, σ[i]? = some (some (V.ref p)) ∧ S p = none ∧ OwnAt C.K S H p d
  dis : ∀ i j d e p, ownD ρ i = some d → ownD ρ j = some e → σ[i]? = some (some (V.ref p)) → σ[j]? = some (some (V.ref p)) → i = j

structure Ext (O : Addr → Prop) (S H S' H' : Hp) : Prop where
  sS : Same S S'
  keep : ∀ p o, ¬ O p → H p = some o → H' p = some o
  grow : ∀ p, S p = none → S' p ≠ none → O p ∨ H p = none
theorem Ext.refl {O : Addr → Prop} {S H : Hp} : Ext O S H S H := ⟨Same.refl _, fun _ _ _ h => h, fun _ h h' => absurd h h'⟩
theorem Ext.mono {O O' : Addr → Prop} {S H S' H' : Hp} (e : Ext O S H S' H') (h : ∀ p, O p → O' p) : Ext O' S H S' H' :=
  ⟨e.sS, fun p o n q => e.keep p o (fun z => n (h p z)) q, fun p a b => (e.grow p a b).imp (h p) id⟩
theorem Ext.back {O : Addr → Prop} {S H S' H' : Hp} (e : Ext O S H S' H') {p : Addr} (h : H' p = none) : O p ∨ H p = none := by
  by_cases o : O p
  · exact .inl o
  · cases q : H p with
    | none => exact .inr rfl
    | some u => rw [e.keep p u o q] at h; cases h
/-- O1: what is owned behind the first step -/
theorem Ext.trans {O O1 : Addr → Prop} {S H S1 H1 S2 H2 : Hp} (a : Ext O S H S1 H1) (b : Ext O1 S1 H1 S2 H2) (h : ∀ p, O1 p → O p ∨ H p = none) : Ext O S H S2 H2 := by
  refine ⟨a.sS.trans b.sS, fun p o n q => ?_, fun p s0 s2 => ?_⟩
  · refine b.keep p o (fun z => ?_) (a.keep p o n q)
    rcases h p z with z | z
    · exact n z
    · rw [q] at z; cases z
  · cases e : S1 p with
    | some u => exact a.grow p s0 (by rw [e]; simp)
    | none =>
      rcases b.grow p e s2 with z | z
      · exact h p z
      · exact a.back z

structure Stp (C : Cfg) (σ : St) (S : Hp) (ρ : Env) (H S' : Hp) (ρ' : Env) (H' : Hp) : Prop where
  ext : Ext (OwnA ρ σ) S H S' H'
  st : StRel C S' ρ' σ H'
  sub : ∀ i d, ownD ρ' i = some d → ∃ e, ownD ρ i = some e
  mrk : ∀ i, markB ρ i = true → markB ρ' i = true
theorem Stp.subA {C : Cfg} {σ : St} {S : Hp} {ρ : Env} {H S' : Hp} {ρ' : Env} {H' : Hp} (e : Stp C σ S ρ H S' ρ' H') : ∀ p, OwnA ρ' σ p → OwnA ρ σ p := fun _ ⟨i, _, h1, h2⟩ =>
  let ⟨e', h'⟩ := e.sub i _ h1; ⟨i, e', h', h2⟩
theorem Stp.refl {C : Cfg} {σ : St} {S : Hp} {ρ : Env} {H : Hp} (h : StRel C S ρ σ H) : Stp C σ S ρ H S ρ H := ⟨Ext.refl, h, fun _ d h => ⟨d, h⟩, fun _ h => h⟩
theorem Stp.trans {C : Cfg} {σ : St} {S : Hp} {ρ : Env} {H S1 : Hp} {ρ1 : Env} {H1 S2 : Hp} {ρ2 : Env} {H2 : Hp} (a : Stp C σ S ρ H S1 ρ1 H1) (b : Stp C σ S1 ρ1 H1 S2 ρ2 H2) : Stp C σ S ρ H S2 ρ2 H2 :=
  ⟨a.ext.trans b.ext fun p h => .inl (a.subA p h), b.st, fun i d h => let ⟨e, h⟩ := b.sub i d h; a.sub i e h, fun i h => b.mrk i (a.mrk i h)⟩

/-- R tells how the answer is represented; it may speak of the begin (ρ, H) and of the end (S', ρ', H') -/
abbrev Rl (α β : Type) := Env → Hp → α → Hp → Env → Hp → β → Prop
def Good {α β : Type} (C : Cfg) (W : WX) (σ : St) (S : Hp) (ρ : Env) (H : Hp) (r : Res α) (R : Rl α β) (Q : β → Hp → Prop) : Prop :=
  match r with
  | .stuck => False
  | .ok a ρ' => ∀ S' H' b, Stp C σ S ρ H S' ρ' H' → R ρ H a S' ρ' H' b → Q b H'
  | .exc x ρ' => ∀ S' H' cls d, Stp C σ S ρ H S' ρ' H' → C.xr x H' cls d → W cls d σ H'
/-- a relation that may be told from an earlier begin -/
def Back {α β : Type} (C : Cfg) (σ : St) (R : Rl α β) : Prop := ∀ S ρ H S1 ρ1 H1 a S' ρ' H' b, Stp C σ S ρ H S1 ρ1 H1 → R ρ1 H1 a S' ρ' H' b → R ρ H a S' ρ' H' b
section
variable {α β γ δ : Type} {C : Cfg} {W : WX} {σ : St} {S : Hp} {ρ : Env} {H : Hp}
theorem Good.from {r : Res α} {R : Rl α β} {Q : β → Hp → Prop} {S1 : Hp} {ρ1 : Env} {H1 : Hp} (hR : Back C σ R) (e : Stp C σ S ρ H S1 ρ1 H1) (h : Good C W σ S ρ H r R Q) : Good C W σ S1 ρ1 H1 r R Q := by
  cases r with
  | stuck => exact h
  | ok a ρ' => exact fun S' H' b e' r' => h S' H' b (e.trans e') (hR _ _ _ _ _ _ _ _ _ _ _ e r')
  | exc x ρ' => exact fun S' H' cls d e' r' => h S' H' cls d (e.trans e') r'
/-- the first part of two -/
theorem Good.bnd {m : M α} {f : α → M γ} {R : Rl α β} {R' : Rl γ δ} {Q : β → Hp → Prop} {Q' : δ → Hp → Prop} (hR : Back C σ R') (h : Good C W σ S ρ H ((m >>= f) ρ) R' Q')
    (k : ∀ a ρ1 S1 H1 b, m ρ = .ok a ρ1 → Stp C σ S ρ H S1 ρ1 H1 → R ρ H a S1 ρ1 H1 b → Good C W σ S1 ρ1 H1 (f a ρ1) R' Q' → Q b H1) : Good C W σ S ρ H (m ρ) R Q := by
  rw [bnd_ap] at h
  cases e : m ρ with
  | stuck => rw [e] at h; exact h
  | ok a ρ1 =>
    rw [e] at h
    exact fun S1 H1 b st r => k a ρ1 S1 H1 b e st r (Good.from hR st h)
  | exc x ρ1 => rw [e] at h; exact h
theorem Good.mono {r : Res α} {R : Rl α β} {Q Q' : β → Hp → Prop} (h : Good C W σ S ρ H r R Q) (hQ : ∀ b H, Q b H → Q' b H) : Good C W σ S ρ H r R Q' := by
  cases r with
  | stuck => exact h
  | ok a ρ' => exact fun S' H' b e r => hQ _ _ (h S' H' b e r)
  | exc x ρ' => exact h
end

/-- a value v behind an expression: a value stands in S; an own one is new, owned by no name; a lent one is what the name holds -/
def RVr (C : Cfg) (σ : St) : Rl RV V := fun ρ H rv S' ρ' H' v => match rv with
  | .val d => Rep C.K S' v d
  | .own d => ∃ p, v = V.ref p ∧ S' p = none ∧ OwnAt C.K S' H' p d ∧ ¬ OwnA ρ' σ p ∧ (OwnA ρ σ p ∨ H p = none)
  | .bor i => σ[i]? = some (some v) ∧ ∃ d, ownD ρ' i = some d
/-- an operand: a value, or what a name holds -/
def Op (C : Cfg) (σ : St) (S' : Hp) (o : Opd) (v : V) : Prop := match o with
  | .val d => Rep C.K S' v d
  | .bor i => σ[i]? = some (some v)
abbrev Opr (C : Cfg) (σ : St) : Rl Opd V := fun _ _ o S' _ _ v => Op C σ S' o v
theorem RVr.back {C : Cfg} {σ : St} : Back C σ (RVr C σ) := by
  intro S ρ H S1 ρ1 H1 a S' ρ' H' b e r
  cases a with
  | val d => exact r
  | bor i => exact r
  | own d =>
    obtain ⟨p, h1, h2, h3, h4, h5⟩ := r
    refine ⟨p, h1, h2, h3, h4, ?_⟩
    rcases h5 with h5 | h5
    · exact .inl (e.subA p h5)
    · exact e.ext.back h5
theorem Opr.back {C : Cfg} {σ : St} : Back C σ (Opr C σ) := fun _ _ _ _ _ _ a _ _ _ _ _ r => by cases a <;> exact r

/-! ### a new object of one's own goes to S -/
theorem upd_Same {S : Hp} {p : Addr} {o : HO} (h : S p = none) : Same S (upd S p o) := fun b u e => by rw [upd_ne (ne_of_none e h)]; exact e
def froz (S H : Hp) (p : Addr) : Hp := fun b => if b = p then H p else S b
theorem froz_same {S H : Hp} {p : Addr} (h : S p = none) : Same S (froz S H p) := fun b u e => by
  unfold froz
  rw [if_neg (ne_of_none e h)]; exact e
theorem froz_le {S H : Hp} {p : Addr} (e : Same S H) : Same (froz S H p) H := fun b u h => by
  unfold froz at h
  split at h
  · subst b; exact h
  · exact e b u h
theorem froz_ne {S H : Hp} {p b : Addr} (h : b ≠ p) : froz S H p b = S b := by unfold froz; rw [if_neg h]
theorem froz_at {S H : Hp} {p : Addr} : froz S H p p = H p := by unfold froz; rw [if_pos rfl]
theorem OwnAt.mono {K : PySem.W.Frag} {S S' H H' : Hp} {p : Addr} {d : D} (h : OwnAt K S H p d) (e : Same S S') (k : ∀ o, H p = some o → H' p = some o) : OwnAt K S' H' p d := by
  cases d <;> first | exact h.elim | (obtain ⟨xs, h, r⟩ := h; exact ⟨xs, k _ h, r.mono e⟩)
theorem OwnAt.froz {K : PySem.W.Frag} {S H : Hp} {p : Addr} {d : D} (h : OwnAt K S H p d) (n : S p = none) : Rep K (froz S H p) (V.ref p) d := by
  cases d <;> first | exact h.elim | (obtain ⟨xs, h, r⟩ := h; exact .lst (by rw [froz_at]; exact h) (r.mono (froz_same n)))
theorem StRel.froz {C : Cfg} {S : Hp} {ρ : Env} {σ : St} {H : Hp} {p : Addr} (h : StRel C S ρ σ H) (n : S p = none) (no : ¬ OwnA ρ σ p) : StRel C (froz S H p) ρ σ H := by
  refine ⟨froz_le h.same, h.len, fun i d e => ?_, fun i d e => ?_, h.dis⟩
  · obtain ⟨v, h1, h2⟩ := h.val i d e
    exact ⟨v, h1, h2.mono (froz_same n)⟩
  · obtain ⟨q, h1, h2, h3⟩ := h.own i d e
    have hq : q ≠ p := fun z => no ⟨i, d, e, z ▸ h1⟩
    exact ⟨q, h1, by rw [froz_ne hq]; exact h2, OwnAt.mono h3 (froz_same n) fun _ z => z⟩
/-- a temporary of one's own is given up -/
theorem give {C : Cfg} {σ : St} {S : Hp} {ρ : Env} {H S' : Hp} {ρ' : Env} {H' : Hp} {p : Addr} {d : D} (e : Stp C σ S ρ H S' ρ' H') (h2 : S' p = none) (h3 : OwnAt C.K S' H' p d) (h4 : ¬ OwnA ρ' σ p) (h5 : OwnA ρ σ p ∨ H p = none) :
    ∃ S2, Stp C σ S ρ H S2 ρ' H' ∧ Rep C.K S2 (V.ref p) d := by
  refine ⟨froz S' H' p, ⟨⟨e.ext.sS.trans (froz_same h2), e.ext.keep, fun q hq hq' => ?_⟩, e.st.froz h2 h4, e.sub, e.mrk⟩, h3.froz h2⟩
  by_cases z : q = p
  · subst z; exact h5
  · rw [froz_ne z] at hq'
    exact e.ext.grow q hq hq'
/-- an expression's value as an operand: an own one is given up -/
def opd (m : M RV) : M Opd := m >>= fun rv => match rv with
  | .val d => pure (.val d)
  | .own d => pure (.val d)
  | .bor i => pure (.bor i)
def look : Opd → M D
  | .val d => pure d
  | .bor i => fun ρ => match ownD ρ i with | some d => .ok d ρ | none => .stuck
def frzSlot (i : Nat) (ρ : Env) : Option (D × Env) := match ρ[i]? with
  | some (.own d) => some (d, ρ.set i (.val d))
  | some (.bow d) => some (d, ρ.set i (.bfz d))
  | _ => none
def frz : Opd → M D
  | .val d => pure d
  | .bor i => fun ρ => match frzSlot i ρ with | some (d, ρ') => .ok d ρ' | none => .stuck
/-- a value that is read at once; one that is given up -/
def rdM (m : M RV) : M D := opd m >>= look
def fzM (m : M RV) : M D := opd m >>= frz

theorem Good.opd {C : Cfg} {W : WX} {σ : St} {S : Hp} {ρ : Env} {H : Hp} {m : M RV} {Q : V → Hp → Prop} (h : Good C W σ S ρ H (opd m ρ) (Opr C σ) Q) : Good C W σ S ρ H (m ρ) (RVr C σ) Q := by
  unfold VL.opd at h
  rw [bnd_ap] at h
  cases e : m ρ with
  | stuck => rw [e] at h; exact h
  | exc x ρ1 => rw [e] at h; exact h
  | ok a ρ1 =>
    rw [e] at h
    cases a with
    | val d => exact fun S1 H1 b st r => h S1 H1 b st r
    | bor i => exact fun S1 H1 b st r => h S1 H1 b st r.1
    | own d =>
      intro S1 H1 b st r
      obtain ⟨p, h1, h2, h3, h4, h5⟩ := r
      subst h1
      obtain ⟨S2, st2, rp⟩ := give st h2 h3 h4 h5
      exact h S2 H1 _ st2 rp

theorem look_ok {C : Cfg} {σ : St} {S1 : Hp} {ρ1 : Env} {H1 S : Hp} {ρ : Env} {H : Hp} {o : Opd} {v : V} {d : D} {ρ' : Env} (r : Op C σ S1 o v) (e : Stp C σ S1 ρ1 H1 S ρ H) (h : look o ρ = .ok d ρ') : ρ' = ρ ∧ Rd C.K S H v d := by
  cases o with
  | val d' =>
    cases h
    exact ⟨rfl, (Rep.mono e.ext.sS r).rd e.st.same⟩
  | bor i =>
    have h : (match ownD ρ i with | some d => Res.ok d ρ | none => .stuck) = Res.ok d ρ' := h
    cases q : ownD ρ i with
    | none => rw [q] at h; cases h
    | some d' =>
      rw [q] at h; cases h
      obtain ⟨p, h1, h2, h3⟩ := e.st.own i d q
      have z := h1.symm.trans r
      cases z
      exact ⟨rfl, h3.rd⟩
theorem look_nox {o : Opd} {ρ ρ' : Env} {x : D} (h : look o ρ = .exc x ρ') : False := by
  cases o with
  | val d => cases h
  | bor i =>
    have h : (match ownD ρ i with | some d => Res.ok d ρ | none => .stuck) = Res.exc x ρ' := h
    split at h <;> cases h

/-! ### slots that are set -/
theorem get_set {ρ : Env} {i j : Nat} {s : Slot} : (ρ.set i s)[j]? = if i = j then (if i < ρ.length then some s else none) else ρ[j]? := by
  rw [List.getElem?_set]
theorem ownD_ne {ρ : Env} {i j : Nat} {s : Slot} (h : i ≠ j) : ownD (ρ.set i s) j = ownD ρ j := by unfold ownD; rw [get_set, if_neg h]
theorem valD_ne {ρ : Env} {i j : Nat} {s : Slot} (h : i ≠ j) : valD (ρ.set i s) j = valD ρ j := by unfold valD; rw [get_set, if_neg h]
theorem markB_ne {ρ : Env} {i j : Nat} {s : Slot} (h : i ≠ j) : markB (ρ.set i s) j = markB ρ j := by unfold markB; rw [get_set, if_neg h]
theorem lt_own {ρ : Env} {i : Nat} {d : D} (h : ownD ρ i = some d) : i < ρ.length := by
  unfold ownD at h
  by_cases z : i < ρ.length
  · exact z
  · rw [List.getElem?_eq_none (by omega)] at h; cases h
theorem ownD_at {ρ : Env} {i : Nat} {s : Slot} (h : i < ρ.length) : ownD (ρ.set i s) i = match s with | .own d => some d | .bow d => some d | _ => none := by
  unfold ownD; rw [get_set, if_pos rfl, if_pos h]; cases s <;> rfl
theorem valD_at {ρ : Env} {i : Nat} {s : Slot} (h : i < ρ.length) : valD (ρ.set i s) i = match s with | .val d => some d | .bfz d => some d | _ => none := by
  unfold valD; rw [get_set, if_pos rfl, if_pos h]; cases s <;> rfl
theorem markB_at {ρ : Env} {i : Nat} {s : Slot} (h : i < ρ.length) : markB (ρ.set i s) i = match s with | .bow _ => true | .bfz _ => true | _ => false := by
  unfold markB; rw [get_set, if_pos rfl, if_pos h]; cases s <;> rfl

theorem frzSlot_own {ρ ρ' : Env} {i : Nat} {d : D} (h : frzSlot i ρ = some (d, ρ')) : ownD ρ i = some d ∧ ∃ s, ρ' = ρ.set i s ∧ (s = .val d ∨ s = .bfz d) ∧ (markB ρ i = true → s = .bfz d) := by
  unfold frzSlot at h
  split at h
  · rename_i d' e
    cases h
    exact ⟨by unfold ownD; rw [e], _, rfl, .inl rfl, fun z => by unfold markB at z; rw [e] at z; cases z⟩
  · rename_i d' e
    cases h
    exact ⟨by unfold ownD; rw [e], _, rfl, .inr rfl, fun z => rfl⟩
  · cases h
/-- what a name holds is given up -/
theorem frz_step {C : Cfg} {σ : St} {S : Hp} {ρ : Env} {H : Hp} {i : Nat} {d : D} {ρ' : Env} (st : StRel C S ρ σ H) (h : frzSlot i ρ = some (d, ρ')) : ∃ p S', σ[i]? = some (some (V.ref p)) ∧ Stp C σ S ρ H S' ρ' H ∧ Rep C.K S' (V.ref p) d := by
  obtain ⟨ho, s, rfl, hs, hm⟩ := frzSlot_own h
  have hi := lt_own ho
  obtain ⟨p, h1, h2, h3⟩ := st.own i d ho
  have fr := froz_same (H := H) h2
  refine ⟨p, froz S H p, h1, ⟨⟨fr, fun _ _ _ z => z, fun q hq hq' => ?_⟩, ⟨froz_le st.same, by rw [List.length_set]; exact st.len, fun j e hj => ?_, fun j e hj => ?_, fun j k e f q hj hk => ?_⟩, fun j e hj => ?_, fun j hj => ?_⟩, h3.froz h2⟩
  · by_cases z : q = p
    · subst z; exact .inl ⟨i, d, ho, h1⟩
    · rw [froz_ne z] at hq'; exact absurd hq hq'
  · by_cases z : i = j
    · subst z
      rw [valD_at hi] at hj
      have : e = d := by rcases hs with rfl | rfl <;> (cases hj; rfl)
      subst this
      exact ⟨_, h1, h3.froz h2⟩
    · rw [valD_ne z] at hj
      obtain ⟨v, a, b⟩ := st.val j e hj
      exact ⟨v, a, b.mono fr⟩
  · by_cases z : i = j
    · subst z
      rw [ownD_at hi] at hj
      rcases hs with rfl | rfl <;> cases hj
    · rw [ownD_ne z] at hj
      obtain ⟨q, a, b, c⟩ := st.own j e hj
      have hq : q ≠ p := fun y => z (st.dis i j d e p ho hj h1 (y ▸ a))
      exact ⟨q, a, by rw [froz_ne hq]; exact b, c.mono fr fun _ z => z⟩
  · by_cases z : i = j
    · subst z
      rw [ownD_at hi] at hj
      rcases hs with rfl | rfl <;> cases hj
    · by_cases y : i = k
      · subst y
        rw [ownD_at hi] at hk
        rcases hs with rfl | rfl <;> cases hk
      · rw [ownD_ne z] at hj
        rw [ownD_ne y] at hk
        exact st.dis j k e f q hj hk
  · by_cases z : i = j
    · subst z
      exact ⟨d, ho⟩
    · rw [ownD_ne z] at hj; exact ⟨e, hj⟩
  · by_cases z : i = j
    · subst z
      rw [hm hj, markB_at hi]
    · rw [markB_ne z]; exact hj

/-- an operand that is given up -/
def Fzr (C : Cfg) : Rl D V := fun _ _ d S' _ _ v => Rep C.K S' v d
theorem Fzr.back {C : Cfg} {σ : St} : Back C σ (Fzr C) := fun _ _ _ _ _ _ _ _ _ _ _ _ r => r
theorem Good.fz {C : Cfg} {W : WX} {σ : St} {S : Hp} {ρ : Env} {H : Hp} {m : M RV} {Q : V → Hp → Prop} (h : Good C W σ S ρ H (fzM m ρ) (Fzr C) Q) : Good C W σ S ρ H (m ρ) (RVr C σ) Q := by
  refine Good.opd (Good.bnd (f := frz) Fzr.back h fun o ρ1 S1 H1 v e st r g => ?_)
  cases o with
  | val d => exact g S1 H1 v (Stp.refl st.st) r
  | bor i =>
    have g : Good C W σ S1 ρ1 H1 (match frzSlot i ρ1 with | some (d, ρ') => Res.ok d ρ' | none => .stuck) (Fzr C) Q := g
    cases q : frzSlot i ρ1 with
    | none => rw [q] at g; exact g.elim
    | some dr =>
      obtain ⟨d, ρ'⟩ := dr
      rw [q] at g
      obtain ⟨p, S', h1, h2, h3⟩ := frz_step st.st q
      have z := h1.symm.trans r
      cases z
      exact g S' H1 _ h2 h3
end VL

/-! VL part c: the judgements VE, VT, VA; operands; operators, tests, calls. -/
namespace VL
open PySem L2

/-! ### what a def does: by its number, from its parameters' slots -/
abbrev CF := Nat → M RV
/-- a call's arguments as slots -/
def ArgsAt (C : Cfg) (S : Hp) (args : Env) (vs : List V) (H : Hp) : Prop := StRel C S args (vs.map some) H
/-- how a call's answer is represented: as an expression's, the slots being the parameters' -/
def spOf (C : Cfg) (cf : CF) (i : Nat) (np : Nat) : Sp := fun vs H Q E => ∃ S args, vs.length = np ∧ StRel C S args (vs.map some) H ∧
  Good C (fun cls d _ H' => E cls d H') (vs.map some) S args H (cf i args) (RVr C (vs.map some)) Q
structure FnAt (P : Program) (w : World) (K : PySem.W.Frag) (mg : Str → Option Value) (base : Heap) (k : Nat) (C : Cfg) (cf : CF) (i : Nat) (x : Str) (np : Nat) : Prop where
  ex : ∃ (f : Addr) (fd : FuncData) (ps : List Str), mg x = some (.ref f) ∧ PySem.W.keepIn K (.ref f) = true ∧ Binds K fd ps [] ∧ ps.length = np ∧ FnOk P w K mg base (L2.CX P w) k f fd ps (spOf C cf i np)
/-- the defs of a table -/
def TabOk (P : Program) (w : World) (K : PySem.W.Frag) (mg : Str → Option Value) (base : Heap) (k : Nat) (C : Cfg) (cf : CF) (T : List (Str × Nat)) : Prop :=
  ∀ i x np, T[i]? = some (x, np) → FnAt P w K mg base k C cf i x np

/-- what stands around an expression -/
structure Vx (X : Cx) (C : Cfg) (W : WX) (cf : CF) (T : List (Str × Nat)) : Prop where
  K : X.K = C.K
  calm : X.calm = true
  tk : Takes X W
  nd : X.N.Nodup
  hu : X.A.units + 65 < cLine
  po : PassesOwn (model X.prog X.w) X.A X.env X.xe
  tab : ∃ k, Room k X.A ∧ TabOk X.prog X.w X.K X.mg X.base k C cf T

def tE (C : Cfg) (W : WX) (m : M RV) : TE := fun σ H Q => ∃ S ρ, StRel C S ρ σ H ∧ Good C W σ S ρ H (m ρ) (RVr C σ) Q
def Blr : Rl Bool Bool := fun _ _ a _ _ _ b => b = a
theorem Blr.back {C : Cfg} {σ : St} : Back C σ Blr := fun _ _ _ _ _ _ _ _ _ _ _ _ r => r
def tT (C : Cfg) (W : WX) (m : M Bool) : TT := fun σ H Q => ∃ S ρ, StRel C S ρ σ H ∧ Good C W σ S ρ H (m ρ) Blr Q
/-- operands -/
inductive Oprs (C : Cfg) (σ : St) (S : Hp) : List Opd → List V → Prop
  | nil : Oprs C σ S [] []
  | cons {o : Opd} {v : V} {os : List Opd} {vs : List V} : Op C σ S o v → Oprs C σ S os vs → Oprs C σ S (o :: os) (v :: vs)
def OprsR (C : Cfg) (σ : St) : Rl (List Opd) (List V) := fun _ _ os S' _ _ vs => Oprs C σ S' os vs
theorem OprsR.back {C : Cfg} {σ : St} : Back C σ (OprsR C σ) := fun _ _ _ _ _ _ _ _ _ _ _ _ r => r
def tA (C : Cfg) (W : WX) (m : M (List Opd)) : TA := fun σ H Q => ∃ S ρ, StRel C S ρ σ H ∧ Good C W σ S ρ H (m ρ) (OprsR C σ) Q
def argsM : List (M RV) → M (List Opd)
  | [] => pure []
  | m :: ms => opd m >>= fun o => argsM ms >>= fun os => pure (o :: os)

structure VE (X : Cx) (C : Cfg) (W : WX) (e : Expr) (m : M RV) : Prop where pe : PE X e (tE C W m)
structure VT (X : Cx) (C : Cfg) (W : WX) (e : Expr) (m : M Bool) : Prop where pt : PT X e (tT C W m)
structure VW (X : Cx) (C : Cfg) (W : WX) (e : Expr) (m : M Bool) : Prop where pw : PW X e (tT C W m)
structure VA (X : Cx) (C : Cfg) (W : WX) (es : List Expr) (ms : List (M RV)) : Prop where pa : PA X es (tA C W (argsM ms))

section
variable {X : Cx} {C : Cfg} {W : WX} {e a b c : Expr}
theorem PE.imp {t t' : TE} (h : PE X e t) (i : ∀ σ H Q, t' σ H Q → t σ H Q) : PE X e t' := ⟨fun pins s σ H Q I q => h.run pins s σ H Q I (i σ H Q q)⟩
theorem PT.imp {t t' : TT} (h : PT X e t) (i : ∀ σ H Q, t' σ H Q → t σ H Q) : PT X e t' := ⟨fun pins s σ H Q I q => h.run pins s σ H Q I (i σ H Q q)⟩
theorem PW.imp {t t' : TT} (h : PW X e t) (i : ∀ σ H Q, t' σ H Q → t σ H Q) : PW X e t' := ⟨fun wh pins s σ H Q I q => h.run wh pins s σ H Q I (i σ H Q q)⟩
theorem PA.imp {es : List Expr} {t t' : TA} (h : PA X es t) (i : ∀ σ H Q, t' σ H Q → t σ H Q) : PA X es t' := ⟨fun pos pins s σ H Q I q => h.run pos pins s σ H Q I (i σ H Q q)⟩
theorem VW.vt {m : M Bool} (h : VW X C W e m) : VT X C W e m := ⟨h.pw.pt⟩
end

/-! ### operands, read -/
section
variable {α β γ : Type} {C : Cfg} {W : WX} {σ : St} {S : Hp} {ρ : Env} {H : Hp}
theorem Op.fwd {o : Opd} {v : V} {S1 : Hp} (r : Op C σ S o v) (e : Same S S1) : Op C σ S1 o v := by
  cases o with
  | val d => exact Rep.mono (S := S) e r
  | bor i => exact r
theorem Oprs.fwd {os : List Opd} {vs : List V} {S1 : Hp} (r : Oprs C σ S os vs) (e : Same S S1) : Oprs C σ S1 os vs := by
  induction r with
  | nil => exact .nil
  | cons h _ ih => exact .cons (Op.fwd h e) ih
theorem Oprs.len {os : List Opd} {vs : List V} (r : Oprs C σ S os vs) : os.length = vs.length := by
  induction r with
  | nil => rfl
  | cons _ _ ih => simp [ih]
/-- an operand looked at, of now -/
theorem look_now {o : Opd} {v : V} {d : D} {ρ' : Env} (st : StRel C S ρ σ H) (r : Op C σ S o v) (h : look o ρ = .ok d ρ') : ρ' = ρ ∧ Rd C.K S H v d :=
  look_ok r (Stp.refl st) h
theorem Good.look {o : Opd} {v : V} {f : D → M α} {R : Rl α β} {Q : β → Hp → Prop} (st : StRel C S ρ σ H) (r : Op C σ S o v) (g : Good C W σ S ρ H ((look o >>= f) ρ) R Q) :
    ∃ d, Rd C.K S H v d ∧ Good C W σ S ρ H (f d ρ) R Q := by
  rw [bnd_ap] at g
  cases e : VL.look o ρ with
  | stuck => rw [e] at g; exact g.elim
  | exc x ρ1 => exact (look_nox e).elim
  | ok d ρ1 =>
    rw [e] at g
    obtain ⟨rfl, h⟩ := look_now st r e
    exact ⟨d, h, g⟩
def looks : List Opd → M (List D)
  | [] => pure []
  | o :: os => look o >>= fun d => looks os >>= fun ds => pure (d :: ds)
inductive Rds (K : PySem.W.Frag) (S H : Hp) : List V → List D → Prop
  | nil : Rds K S H [] []
  | cons {v : V} {vs : List V} {d : D} {ds : List D} : Rd K S H v d → Rds K S H vs ds → Rds K S H (v :: vs) (d :: ds)
theorem bnd_assoc {m : M α} {f : α → M β} {g : β → M γ} : ((m >>= f) >>= g) = (m >>= fun a => f a >>= g) := by
  funext ρ
  show ((m ρ).bnd f).bnd g = (m ρ).bnd fun a => f a >>= g
  cases m ρ <;> rfl
theorem pur_bnd {a : α} {f : α → M β} : ((pure a : M α) >>= f) = f a := rfl
theorem Good.looks {os : List Opd} {vs : List V} {f : List D → M α} {R : Rl α β} {Q : β → Hp → Prop} (st : StRel C S ρ σ H) (r : Oprs C σ S os vs) (g : Good C W σ S ρ H ((looks os >>= f) ρ) R Q) :
    ∃ ds, Rds C.K S H vs ds ∧ Good C W σ S ρ H (f ds ρ) R Q := by
  induction r generalizing f with
  | nil => exact ⟨[], .nil, g⟩
  | cons h _ ih =>
    rename_i o v os vs _
    have g : Good C W σ S ρ H (((VL.look o >>= fun d => VL.looks os >>= fun ds => pure (d :: ds)) >>= f) ρ) R Q := g
    rw [bnd_assoc] at g
    obtain ⟨d, hd, g⟩ := Good.look st h g
    rw [bnd_assoc] at g
    obtain ⟨ds, hds, g⟩ := ih g
    exact ⟨d :: ds, .cons hd hds, g⟩
end

/-- what a primitive operation may hand back: it changes nothing that stands -/
def OutP (C : Cfg) (S H : Hp) (rv : RV) (Q : VK) : Prop := match rv with
  | .val d => ∀ S' H' v, Same S S' → Same H H' → Same S' H' → (∀ p, S p = none → S' p ≠ none → H p = none) → Rep C.K S' v d → Q v H'
  | .own d => ∀ H' p, Same H H' → H p = none → OwnAt C.K S H' p d → Q (.ref p) H'
  | .bor _ => False
section
variable {α β : Type} {C : Cfg} {W : WX} {σ : St} {S : Hp} {ρ : Env} {H : Hp} {Q : VK}
theorem OutP.flat {d : D} {v : V} (h : OutP C S H (.val d) Q) (st : Same S H) (r : Rep C.K S v d) : Q v H := h S H v (Same.refl _) (Same.refl _) st (fun _ a b => absurd a b) r
theorem OutP.tup {ds : List D} {xs : List V} (h : OutP C S H (.val (.tup ds)) Q) (st : Same S H) (r : Reps C.K S xs ds) {p : Addr} (n : H p = none) : Q (.ref p) (upd H p (.tup xs)) := by
  have nS : S p = none := st.free n
  refine h (upd S p (.tup xs)) _ _ (upd_Same nS) (upd_Same n) (fun b u e => ?_) (fun q a b => ?_) (.tup (SqT.of upd_same) (r.mono (upd_Same nS)))
  · by_cases z : b = p
    · subst z; rw [upd_same] at e ⊢; exact e
    · rw [upd_ne z] at e ⊢; exact st b u e
  · by_cases z : q = p
    · subst z; exact n
    · rw [upd_ne z] at b; exact absurd a b
theorem OutP.lst {ds : List D} {xs : List V} (h : OutP C S H (.own (.lst ds)) Q) (r : Reps C.K S xs ds) {p : Addr} (n : H p = none) : Q (.ref p) (upd H p (.lst xs)) :=
  h _ p (upd_Same n) n ⟨xs, upd_same, r⟩
/-- the end of an expression by a primitive operation -/
theorem Good.out (st : StRel C S ρ σ H) {o : Option RV} (g : Good C W σ S ρ H (M.lift o ρ) (RVr C σ) Q) : ∃ rv, o = some rv ∧ ((∀ i, rv ≠ .bor i) → OutP C S H rv Q) := by
  cases o with
  | none => exact g.elim
  | some rv =>
    refine ⟨rv, rfl, fun nb => ?_⟩
    have g : ∀ S' H' b, Stp C σ S ρ H S' ρ H' → RVr C σ ρ H rv S' ρ H' b → Q b H' := g
    cases rv with
    | bor i => exact (nb i rfl).elim
    | val d =>
      intro S' H' v a b c gr r
      refine g S' H' v ⟨⟨a, fun p o _ h => b p o h, fun p h h' => .inr (gr p h h')⟩, ⟨c, st.len, fun i d e => ?_, fun i d e => ?_, st.dis⟩, fun i d h => ⟨d, h⟩, fun _ h => h⟩ r
      · obtain ⟨w, h1, h2⟩ := st.val i d e
        exact ⟨w, h1, h2.mono a⟩
      · obtain ⟨p, h1, h2, h3⟩ := st.own i d e
        refine ⟨p, h1, ?_, h3.mono a fun o h => b p o h⟩
        cases q : S' p with
        | none => rfl
        | some u =>
          have z := gr p h2 (by rw [q]; simp)
          obtain ⟨o, ho⟩ := h3.ex
          rw [z] at ho; cases ho
    | own d =>
      intro H' p b n r
      have nS : S p = none := st.same.free n
      have no : ¬ OwnA ρ σ p := fun ⟨i, d', h1, h2⟩ => by
        obtain ⟨q, h3, h4, h5⟩ := st.own i d' h1
        have z := h3.symm.trans h2
        cases z
        obtain ⟨o, ho⟩ := h5.ex
        rw [n] at ho; cases ho
      refine g S H' _ ⟨⟨Same.refl _, fun p o _ h => b p o h, fun p h h' => absurd h h'⟩, ⟨st.same.trans b, st.len, st.val, fun i d e => ?_, st.dis⟩, fun i d h => ⟨d, h⟩, fun _ h => h⟩ ⟨p, rfl, nS, r, no, .inr n⟩
      obtain ⟨p, h1, h2, h3⟩ := st.own i d e
      exact ⟨p, h1, h2, h3.mono (Same.refl _) fun o h => b p o h⟩
end

/-! ### primitive operations -/
def Prim1 (C : Cfg) (r : V → Hp → VK → Prop) (f : D → Option RV) : Prop := ∀ S H x dx rv Q, Same S H → Rd C.K S H x dx → f dx = some rv → ((∀ i, rv ≠ .bor i) → OutP C S H rv Q) → r x H Q
def Prim2 (C : Cfg) (r : R2) (f : D → D → Option RV) : Prop := ∀ S H x y dx dy rv Q, Same S H → Rd C.K S H x dx → Rd C.K S H y dy → f dx dy = some rv → ((∀ i, rv ≠ .bor i) → OutP C S H rv Q) → r x y H Q
def PrimN (C : Cfg) (r : List V → Hp → VK → Prop) (f : List D → Option RV) : Prop := ∀ S H xs ds rv Q, Same S H → Rds C.K S H xs ds → f ds = some rv → ((∀ i, rv ≠ .bor i) → OutP C S H rv Q) → r xs H Q
def binM (f : D → D → Option RV) (ma mb : M RV) : M RV := opd ma >>= fun x => opd mb >>= fun y => look x >>= fun dx => look y >>= fun dy => M.lift (f dx dy)
def unM (f : D → Option RV) (ma : M RV) : M RV := opd ma >>= fun x => look x >>= fun dx => M.lift (f dx)
def primM (f : List D → Option RV) (ms : List (M RV)) : M RV := argsM ms >>= fun os => looks os >>= fun ds => M.lift (f ds)
def constM (d : D) : M RV := pure (.val d)
def varM (i : Nat) : M RV := fun ρ => match valD ρ i with
  | some d => .ok (.val d) ρ
  | none => match ownD ρ i with
    | some _ => .ok (.bor i) ρ
    | none => .stuck
def asB : RV → M Bool
  | .val (.bl b) => pure b
  | _ => M.stuck
section
variable {X : Cx} {C : Cfg} {W : WX} {cf : CF} {T : List (Str × Nat)} {e a b c : Expr} {ma mb mc : M RV} {pos : Pos}

theorem tE_bin {r : R2} {f : D → D → Option RV} (p : Prim2 C r f) {σ : St} {H : Hp} {Q : VK} (h : tE C W (binM f ma mb) σ H Q) : tOp r (tE C W ma) (tE C W mb) σ H Q := by
  obtain ⟨S, ρ, st, g⟩ := h
  refine ⟨S, ρ, st, Good.opd (Good.bnd RVr.back g fun x ρ1 S1 H1 v _ e1 r1 g1 => ?_)⟩
  refine ⟨S1, ρ1, e1.st, Good.opd (Good.bnd RVr.back g1 fun y ρ2 S2 H2 u _ e2 r2 g2 => ?_)⟩
  obtain ⟨dx, h1, g3⟩ := Good.look e2.st (Op.fwd r1 e2.ext.sS) g2
  obtain ⟨dy, h2, g4⟩ := Good.look e2.st r2 g3
  obtain ⟨rv, h3, g5⟩ := Good.out e2.st g4
  exact p S2 H2 v u dx dy rv Q e2.st.same h1 h2 h3 g5
theorem tE_un {r : V → Hp → VK → Prop} {f : D → Option RV} (p : Prim1 C r f) {σ : St} {H : Hp} {Q : VK} (h : tE C W (unM f ma) σ H Q) : tE C W ma σ H fun x H1 => r x H1 Q := by
  obtain ⟨S, ρ, st, g⟩ := h
  refine ⟨S, ρ, st, Good.opd (Good.bnd RVr.back g fun x ρ1 S1 H1 v _ e1 r1 g1 => ?_)⟩
  obtain ⟨dx, h1, g3⟩ := Good.look e1.st r1 g1
  obtain ⟨rv, h3, g5⟩ := Good.out e1.st g3
  exact p S1 H1 v dx rv Q e1.st.same h1 h3 g5
theorem tE_prim {r : List V → Hp → VK → Prop} {f : List D → Option RV} (p : PrimN C r f) {ms : List (M RV)} {σ : St} {H : Hp} {Q : VK} (h : tE C W (primM f ms) σ H Q) : tA C W (argsM ms) σ H fun xs H1 => r xs H1 Q := by
  obtain ⟨S, ρ, st, g⟩ := h
  refine ⟨S, ρ, st, Good.bnd RVr.back g fun x ρ1 S1 H1 v _ e1 r1 g1 => ?_⟩
  obtain ⟨dx, h1, g3⟩ := Good.looks e1.st r1 g1
  obtain ⟨rv, h3, g5⟩ := Good.out e1.st g3
  exact p S1 H1 v dx rv Q e1.st.same h1 h3 g5

/-! ### constants and names -/
theorem tE_const {d : D} {v : V} (hr : ∀ K S, Rep K S v d) {σ : St} {H : Hp} {Q : VK} (h : tE C W (constM d) σ H Q) : tC v σ H Q := by
  obtain ⟨S, ρ, st, g⟩ := h
  have g : ∀ S' H' b, Stp C σ S ρ H S' ρ H' → Rep C.K S' b d → Q b H' := g
  exact g S H v (Stp.refl st) (hr _ _)
theorem ve_int {i j pos} : VE X C W (.Constant (.int i) j pos) (constM (.int i)) := ⟨PE.imp pe_int fun _ _ _ => tE_const fun _ _ => .int i⟩
theorem ve_bl {i j pos} : VE X C W (.Constant (.bool i) j pos) (constM (.bl i)) := ⟨PE.imp pe_bl fun _ _ _ => tE_const fun _ _ => .bl i⟩
theorem ve_non {j pos} : VE X C W (.Constant .none j pos) (constM .non) := ⟨PE.imp pe_non fun _ _ _ => tE_const fun _ _ => .non⟩
theorem ve_str {i j pos} : VE X C W (.Constant (.str i) j pos) (constM (.str i)) := ⟨PE.imp pe_str fun _ _ _ => tE_const fun _ _ => .str i⟩
/-- a module's number or text -/
theorem ve_gInt {x : Str} {i : Int} {t : Tok} (hg : Gl X x) (hm : X.mg x = some (.int i t)) (hd : (x == ("__debug__" : Str)) = false := by decide) : VE X C W (.Name x pos) (constM (.int i)) :=
  ⟨PE.imp (pe_glob (v := .int i) hg hm ⟨t, rfl⟩ hd) fun _ _ _ => tE_const fun _ _ => .int i⟩
theorem ve_gStr {x : Str} {i : Str} {t : Tok} (hg : Gl X x) (hm : X.mg x = some (.str i t)) (hd : (x == ("__debug__" : Str)) = false := by decide) : VE X C W (.Name x pos) (constM (.str i)) :=
  ⟨PE.imp (pe_glob (v := .str i) hg hm ⟨t, rfl⟩ hd) fun _ _ _ => tE_const fun _ _ => .str i⟩
/-- a built-in class -/
theorem ve_ty {x : Str} {n : String} (hg : Gl X x) (hm : X.mg x = none) (hv : bootBuiltins x = some (.type n)) (hn : x ≠ "__name__" := by decide) (hd : (x == ("__debug__" : Str)) = false := by decide) : VE X C W (.Name x pos) (constM (.ty n)) :=
  ⟨PE.imp (pe_bltn (v := .ty n) hg hm hv rfl hn hd) fun _ _ _ => tE_const fun _ _ => .ty n⟩
theorem ve_var (i : Nat) {x : Str} (hN : X.N[i]? = some x := by rfl) (hv : Vis X.env.scope x := by first | exact Or.inl rfl | exact Or.inr (Or.inl rfl) | exact Or.inr (Or.inr rfl)) (hd : (x == ("__debug__" : Str)) = false := by decide)
    (hcd : (x == ("__classdict__" : Str)) = false := by decide) : VE X C W (.Name x pos) (varM i) := by
  refine ⟨PE.imp (pe_var hN hv hd hcd) fun σ H Q h => ?_⟩
  obtain ⟨S, ρ, st, g⟩ := h
  unfold varM at g
  cases e : valD ρ i with
  | some d =>
    obtain ⟨v, h1, h2⟩ := st.val i d e
    simp only [e] at g
    exact ⟨v, h1, g S H v (Stp.refl st) h2⟩
  | none =>
    simp only [e] at g
    cases e2 : ownD ρ i with
    | none => simp only [e2] at g; exact g.elim
    | some d =>
      simp only [e2] at g
      obtain ⟨p, h1, h2, h3⟩ := st.own i d e2
      exact ⟨_, h1, g S H _ (Stp.refl st) ⟨h1, d, e2⟩⟩

/-! ### operators, comparisons, tests -/
theorem ve_op {op : Operator} {r : R2} {f : D → D → Option RV} (ho : OpR X (binaryOp op) r) (p : Prim2 C r f) (ha : VE X C W a ma) (hb : VE X C W b mb) : VE X C W (.BinOp a op b pos) (binM f ma mb) :=
  ⟨PE.imp (pe_op ho ha.pe hb.pe) fun _ _ _ => tE_bin p⟩
theorem ve_un {op : UnaryOp} {r : V → Hp → VK → Prop} {f : D → Option RV} (ho : UnR X (unaryOp op) r) (p : Prim1 C r f) (ha : VE X C W a ma) : VE X C W (.UnaryOp op a pos) (unM f ma) :=
  ⟨PE.imp (pe_un ho ha.pe) fun _ _ _ => tE_un p⟩
theorem ve_cmp {op : CmpOp} {r : R2} {f : D → D → Option RV} (ho : OpR X (compareOp op) r) (p : Prim2 C r f) (ha : VE X C W a ma) (hb : VE X C W b mb) (hm : behindInMarks op b = false) : VE X C W (.Compare a [op] [b] pos) (binM f ma mb) :=
  ⟨PE.imp (pe_cmpR ho ha.pe hb.pe hm) fun _ _ _ => tE_bin p⟩
theorem asB_ok {rv : RV} {ρ : Env} {σ : St} {S : Hp} {H : Hp} {Q : Bool → Hp → Prop} {v : V} (st : StRel C S ρ σ H) (h : Good C W σ S ρ H (asB rv ρ) Blr Q) {ρ0 : Env} {H0 : Hp} (r : RVr C σ ρ0 H0 rv S ρ H v) : ∃ k, v = .bl k ∧ Q k H := by
  cases rv with
  | own d => exact h.elim
  | bor i => exact h.elim
  | val d =>
    cases d with
    | bl b =>
      cases r
      have h : ∀ S' H' k, Stp C σ S ρ H S' ρ H' → k = b → Q k H' := h
      exact ⟨b, rfl, h S H b (Stp.refl st) rfl⟩
    | _ => exact h.elim
theorem tT_val {m : M RV} {σ : St} {H : Hp} {Q : Bool → Hp → Prop} (h : tT C W (m >>= asB) σ H Q) : tE C W m σ H fun x H1 => ∃ k, x = .bl k ∧ Q k H1 := by
  obtain ⟨S, ρ, st, g⟩ := h
  exact ⟨S, ρ, st, Good.bnd Blr.back g fun rv ρ1 S1 H1 v _ e1 r1 g1 => asB_ok e1.st g1 r1⟩
theorem vt_cmp {op : CmpOp} {r : R2} {f : D → D → Option RV} (ho : OpR X (compareOp op) r) (p : Prim2 C r f) (ha : VE X C W a ma) (hb : VE X C W b mb) (hm : behindInMarks op b = false) : VT X C W (.Compare a [op] [b] pos) (binM f ma mb >>= asB) :=
  ⟨PT.imp (pt_cmpR ho ha.pe hb.pe hm) fun _ _ _ h => tE_bin p (tT_val h)⟩
/-- a < b < c: the middle one asked once -/
def chainM (f g : D → D → Option RV) (ma mb mc : M RV) : M RV := opd ma >>= fun x => opd mb >>= fun y => look x >>= fun dx => look y >>= fun dy => M.lift (f dx dy) >>= fun rv => asB rv >>= fun k =>
  if k = true then opd mc >>= fun z => look y >>= fun dy => look z >>= fun dz => M.lift (g dy dz) else pure (.val (.bl false))
theorem tE_chain {r r' : R2} {f g : D → D → Option RV} (p : Prim2 C r f) (p' : Prim2 C r' g) {σ : St} {H : Hp} {Q : VK} (h : tE C W (chainM f g ma mb mc) σ H Q) : tChain r r' (tE C W ma) (tE C W mb) (tE C W mc) σ H Q := by
  obtain ⟨S, ρ, st, gd⟩ := h
  refine ⟨S, ρ, st, Good.opd (Good.bnd RVr.back gd fun x ρ1 S1 H1 v _ e1 r1 g1 => ?_)⟩
  refine ⟨S1, ρ1, e1.st, Good.opd (Good.bnd RVr.back g1 fun y ρ2 S2 H2 u _ e2 r2 g2 => ?_)⟩
  obtain ⟨dx, h1, g3⟩ := Good.look e2.st (Op.fwd r1 e2.ext.sS) g2
  obtain ⟨dy, h2, g4⟩ := Good.look e2.st r2 g3
  have g5 := Good.bnd (R := RVr C σ) (Q := fun z H3 => ∃ k, z = V.bl k ∧ (if k = true then tE C W mc σ H3 fun w' H4 => r' u w' H4 Q else Q (.bl false) H3)) RVr.back g4 fun rv ρ3 S3 H3 w _ e3 r3 g6 => by
    cases rv with
    | own d => exact g6.elim
    | bor i => exact g6.elim
    | val d =>
      cases d with
      | bl k =>
        cases r3
        refine ⟨k, rfl, ?_⟩
        cases k with
        | true =>
          rw [if_pos rfl]
          have g6 : Good C W σ S3 ρ3 H3 ((opd mc >>= fun z => look y >>= fun dy => look z >>= fun dz => M.lift (g dy dz)) ρ3) (RVr C σ) Q := g6
          refine ⟨S3, ρ3, e3.st, Good.opd (Good.bnd RVr.back g6 fun z ρ4 S4 H4 q _ e4 r4 g7 => ?_)⟩
          obtain ⟨dy', h5, g8⟩ := Good.look e4.st (Op.fwd r2 (e3.ext.sS.trans e4.ext.sS)) g7
          obtain ⟨dz, h6, g9⟩ := Good.look e4.st r4 g8
          obtain ⟨rv, h7, g10⟩ := Good.out e4.st g9
          exact p' S4 H4 u q dy' dz rv Q e4.st.same h5 h6 h7 g10
        | false =>
          rw [if_neg Bool.false_ne_true]
          have g6 : ∀ S' H' b, Stp C σ S3 ρ3 H3 S' ρ3 H' → Rep C.K S' b (.bl false) → Q b H' := g6
          exact g6 S3 H3 _ (Stp.refl e3.st) (.bl false)
      | _ => exact g6.elim
  obtain ⟨rv, h7, g10⟩ := Good.out e2.st g5
  exact p S2 H2 v u dx dy rv _ e2.st.same h1 h2 h7 g10
theorem ve_chain {op op' : CmpOp} {r r' : R2} {f g : D → D → Option RV} (ho : OpR X (compareOp op) r) (p : Prim2 C r f) (ho' : OpR X (compareOp op') r') (p' : Prim2 C r' g) (ha : VE X C W a ma) (hb : VE X C W b mb) (hc : VE X C W c mc)
    (hm : lastMarks [op, op'] [b, c] = false := by with_unfolding_all rfl) : VE X C W (.Compare a [op, op'] [b, c] pos) (chainM f g ma mb mc) :=
  ⟨PE.imp (pe_chain ho ho' ha.pe hb.pe hc.pe hm) fun _ _ _ => tE_chain p p'⟩
theorem vt_chain {op op' : CmpOp} {r r' : R2} {f g : D → D → Option RV} (ho : OpR X (compareOp op) r) (p : Prim2 C r f) (ho' : OpR X (compareOp op') r') (p' : Prim2 C r' g) (ha : VE X C W a ma) (hb : VE X C W b mb) (hc : VE X C W c mc)
    (hm : lastMarks [op, op'] [b, c] = false := by with_unfolding_all rfl) : VT X C W (.Compare a [op, op'] [b, c] pos) (chainM f g ma mb mc >>= asB) :=
  ⟨PT.imp (pt_chain ho ho' ha.pe hb.pe hc.pe hm) fun _ _ _ h => tE_chain p p' (tT_val h)⟩

def andT (m n : M Bool) : M Bool := m >>= fun c => if c = true then n else pure false
def orT (m n : M Bool) : M Bool := m >>= fun c => if c = true then pure true else n
def notT (m : M Bool) : M Bool := m >>= fun c => pure (!c)
variable {rest : List Expr} {m n : M Bool}
theorem Good.pureB {σ : St} {S : Hp} {ρ : Env} {H : Hp} {k : Bool} {Q : Bool → Hp → Prop} (st : StRel C S ρ σ H) (g : Good C W σ S ρ H ((pure k : M Bool) ρ) Blr Q) : Q k H := by
  have g : ∀ S' H' b, Stp C σ S ρ H S' ρ H' → b = k → Q b H' := g
  exact g S H k (Stp.refl st) rfl
theorem vw_and1 (ha : VT X C W a m) : VW X C W (.BoolOp .And [a] pos) m := ⟨pw_and1 ha.pt⟩
theorem vw_or1 (ha : VT X C W a m) : VW X C W (.BoolOp .Or [a] pos) m := ⟨pw_or1 ha.pt⟩
theorem vw_and (ha : VT X C W a m) (hb : VW X C W (.BoolOp .And (b :: rest) pos) n) : VW X C W (.BoolOp .And (a :: b :: rest) pos) (andT m n) := by
  refine ⟨PW.imp (pw_and ha.pt hb.pw) fun σ H Q h => ?_⟩
  obtain ⟨S, ρ, st, g⟩ := h
  refine ⟨S, ρ, st, Good.bnd Blr.back g fun k ρ1 S1 H1 v _ e1 r1 g1 => ?_⟩
  cases r1
  cases k with
  | true => rw [if_pos rfl] at g1 ⊢; exact ⟨S1, ρ1, e1.st, g1⟩
  | false => rw [if_neg Bool.false_ne_true] at g1 ⊢; exact Good.pureB e1.st g1
theorem vw_or (ha : VT X C W a m) (hb : VW X C W (.BoolOp .Or (b :: rest) pos) n) : VW X C W (.BoolOp .Or (a :: b :: rest) pos) (orT m n) := by
  refine ⟨PW.imp (pw_or ha.pt hb.pw) fun σ H Q h => ?_⟩
  obtain ⟨S, ρ, st, g⟩ := h
  refine ⟨S, ρ, st, Good.bnd Blr.back g fun k ρ1 S1 H1 v _ e1 r1 g1 => ?_⟩
  cases r1
  cases k with
  | true => rw [if_pos rfl] at g1 ⊢; exact Good.pureB e1.st g1
  | false => rw [if_neg Bool.false_ne_true] at g1 ⊢; exact ⟨S1, ρ1, e1.st, g1⟩
theorem vt_not (ha : VT X C W a m) : VT X C W (.UnaryOp .Not a pos) (notT m) := by
  refine ⟨PT.imp (pt_not ha.pt) fun σ H Q h => ?_⟩
  obtain ⟨S, ρ, st, g⟩ := h
  refine ⟨S, ρ, st, Good.bnd Blr.back g fun k ρ1 S1 H1 v _ e1 r1 g1 => ?_⟩
  cases r1
  exact Good.pureB e1.st g1
/-- a value that is True or False, as a test -/
theorem vt_val (ha : VE X C W e ma) (he : ∀ whole, isTrue e X.env whole = (do let v ← whole; standAt e.pos; holding [v] (truthy v)) := by intro _; rfl) : VT X C W e (ma >>= asB) :=
  ⟨PT.imp (pt_val ha.pe he) fun _ _ _ h => tT_val h⟩
/-- truth -/
def LIM : Nat := 16777216
theorem LIM_eq : LIM = sizeLine := sizeLine_eq.symm
def truD : D → Option Bool
  | .non => some false
  | .bl b => some b
  | .int i => some (i != 0)
  | .str s => if s.length ≤ LIM then some ((s.length : Int) != 0) else none
  | .tup ds => some (!ds.isEmpty)
  | .lst ds => some (!ds.isEmpty)
  | _ => none
theorem empty_len {α β : Type} {xs : List α} {ys : List β} (h : xs.length = ys.length) : xs.isEmpty = ys.isEmpty := by
  cases xs <;> cases ys <;> first | rfl | cases h
theorem truD_ok {S H : Hp} {x : V} {d : D} {k : Bool} (h : Rd C.K S H x d) (e : truD d = some k) : TruV C.K x H k := by
  cases d with
  | non => cases h; cases e; rfl
  | bl b => cases h; cases e; rfl
  | int i => cases h; cases e; rfl
  | str s =>
    cases h
    have e : (if s.length ≤ LIM then some ((s.length : Int) != 0) else none) = some k := e
    split at e
    · rename_i hl
      cases e
      exact ⟨by rw [← LIM_eq]; exact hl, rfl⟩
    · cases e
  | tup ds =>
    obtain ⟨a, xs, rfl, h1, h2, _⟩ := h
    cases e
    exact .inr (.inl ⟨xs, h1, by rw [empty_len h2.len]⟩)
  | lst ds =>
    obtain ⟨a, xs, rfl, h1, h2⟩ := h
    cases e
    exact .inl ⟨xs, SqL.of h1, by rw [empty_len h2.len]⟩
  | _ => cases e
def truM (m : M RV) : M Bool := opd m >>= fun o => look o >>= fun d => M.lift (truD d)
theorem Good.liftB {σ : St} {S : Hp} {ρ : Env} {H : Hp} {o : Option Bool} {Q : Bool → Hp → Prop} (st : StRel C S ρ σ H) (g : Good C W σ S ρ H (M.lift o ρ) Blr Q) : ∃ k, o = some k ∧ Q k H := by
  cases o with
  | none => exact g.elim
  | some k => exact ⟨k, rfl, Good.pureB st g⟩
theorem tT_tru {σ : St} {H : Hp} {Q : Bool → Hp → Prop} (h : tT C W (truM ma) σ H Q) : tE C W ma σ H fun x H' => ∃ k, TruV C.K x H' k ∧ Q k H' := by
  obtain ⟨S, ρ, st, g⟩ := h
  refine ⟨S, ρ, st, Good.opd (Good.bnd Blr.back g fun x ρ1 S1 H1 v _ e1 r1 g1 => ?_)⟩
  obtain ⟨d, h1, g2⟩ := Good.look e1.st r1 g1
  obtain ⟨k, h2, q⟩ := Good.liftB e1.st g2
  exact ⟨k, truD_ok h1 h2, q⟩
theorem vt_tru (vx : Vx X C W cf T) (ha : VE X C W e ma) (he : ∀ whole, isTrue e X.env whole = (do let v ← whole; standAt e.pos; holding [v] (truthy v)) := by intro _; rfl) : VT X C W e (truM ma) :=
  ⟨PT.imp (pt_truth ha.pe he) fun σ H Q h => by rw [vx.K]; exact tT_tru h⟩
/-- not, and, or as values (and, or of flags alone but the last one) -/
def notM (m : M RV) : M RV := truM m >>= fun k => pure (.val (.bl (!k)))
def andM (m n : M RV) : M RV := opd m >>= fun o => look o >>= fun d => M.lift (truD d) >>= fun k => if k = true then n else frz o >>= fun d => pure (.val d)
def orM (m n : M RV) : M RV := opd m >>= fun o => look o >>= fun d => M.lift (truD d) >>= fun k => if k = true then frz o >>= fun d => pure (.val d) else n
theorem Good.pureV {σ : St} {S : Hp} {ρ : Env} {H : Hp} {d : D} {v : V} {Q : VK} (st : StRel C S ρ σ H) (r : Rep C.K S v d) (g : Good C W σ S ρ H ((pure (.val d) : M RV) ρ) (RVr C σ) Q) : Q v H := by
  have g : ∀ S' H' b, Stp C σ S ρ H S' ρ H' → Rep C.K S' b d → Q b H' := g
  exact g S H v (Stp.refl st) r
theorem ve_not (vx : Vx X C W cf T) (ha : VE X C W a ma) : VE X C W (.UnaryOp .Not a pos) (notM ma) := by
  refine ⟨PE.imp (pe_notT ha.pe) fun σ H Q h => ?_⟩
  obtain ⟨S, ρ, st, g⟩ := h
  have h2 : tT C W (truM ma) σ H fun k H1 => Q (.bl (!k)) H1 := ⟨S, ρ, st, Good.bnd RVr.back g fun k ρ1 S1 H1 v _ e1 r1 g1 => by cases r1; exact Good.pureV e1.st (.bl _) g1⟩
  rw [vx.K]
  exact tT_tru h2
/-- an operand that is handed on -/
theorem Good.frz {σ : St} {S : Hp} {ρ : Env} {H : Hp} {o : Opd} {v : V} {Q : VK} (st : StRel C S ρ σ H) (r : Op C σ S o v) (g : Good C W σ S ρ H ((VL.frz o >>= fun d => (pure (.val d) : M RV)) ρ) (RVr C σ) Q) : Q v H := by
  cases o with
  | val d => exact Good.pureV st r g
  | bor i =>
    have g : Good C W σ S ρ H ((match frzSlot i ρ with | some (d, ρ') => Res.ok d ρ' | none => .stuck).bnd fun d => (pure (.val d) : M RV)) (RVr C σ) Q := g
    cases q : frzSlot i ρ with
    | none => rw [q] at g; exact g.elim
    | some dr =>
      obtain ⟨d, ρ'⟩ := dr
      rw [q] at g
      have g : ∀ S' H' b, Stp C σ S ρ H S' ρ' H' → Rep C.K S' b d → Q b H' := g
      obtain ⟨p, S', h1, h2, h3⟩ := frz_step st q
      have z := h1.symm.trans r
      cases z
      exact g S' H _ h2 h3
theorem ve_one {op} (h : VE X C W a ma) : VE X C W (.BoolOp op [a] pos) ma := ⟨pe_one h.pe⟩
theorem ve_and (vx : Vx X C W cf T) (ha : VE X C W a ma) (hb : VE X C W (.BoolOp .And (b :: rest) pos) mb) : VE X C W (.BoolOp .And (a :: b :: rest) pos) (andM ma mb) := by
  refine ⟨PE.imp (pe_andT ha.pe hb.pe) fun σ H Q h => ?_⟩
  obtain ⟨S, ρ, st, g⟩ := h
  refine ⟨S, ρ, st, Good.opd (Good.bnd RVr.back g fun x ρ1 S1 H1 v _ e1 r1 g1 => ?_)⟩
  obtain ⟨d, h1, g2⟩ := Good.look e1.st r1 g1
  rw [bnd_ap] at g2
  cases e : truD d with
  | none => rw [e] at g2; exact g2.elim
  | some k =>
    rw [e] at g2
    rw [vx.K]
    refine ⟨k, truD_ok h1 e, ?_⟩
    cases k with
    | true => rw [if_pos rfl]; exact ⟨S1, ρ1, e1.st, g2⟩
    | false => rw [if_neg Bool.false_ne_true]; exact Good.frz e1.st r1 g2
theorem ve_or (vx : Vx X C W cf T) (ha : VE X C W a ma) (hb : VE X C W (.BoolOp .Or (b :: rest) pos) mb) : VE X C W (.BoolOp .Or (a :: b :: rest) pos) (orM ma mb) := by
  refine ⟨PE.imp (pe_orT ha.pe hb.pe) fun σ H Q h => ?_⟩
  obtain ⟨S, ρ, st, g⟩ := h
  refine ⟨S, ρ, st, Good.opd (Good.bnd RVr.back g fun x ρ1 S1 H1 v _ e1 r1 g1 => ?_)⟩
  obtain ⟨d, h1, g2⟩ := Good.look e1.st r1 g1
  rw [bnd_ap] at g2
  cases e : truD d with
  | none => rw [e] at g2; exact g2.elim
  | some k =>
    rw [e] at g2
    rw [vx.K]
    refine ⟨k, truD_ok h1 e, ?_⟩
    cases k with
    | false => rw [if_neg Bool.false_ne_true]; exact ⟨S1, ρ1, e1.st, g2⟩
    | true => rw [if_pos rfl]; exact Good.frz e1.st r1 g2
def ifM (t : M Bool) (m n : M RV) : M RV := t >>= fun k => if k = true then m else n
theorem ve_if {t : M Bool} (hc : VT X C W c t) (ha : VE X C W a ma) (hb : VE X C W b mb) : VE X C W (.IfExp c a b pos) (ifM t ma mb) := by
  refine ⟨PE.imp (pe_ifExp hc.pt ha.pe hb.pe) fun σ H Q h => ?_⟩
  obtain ⟨S, ρ, st, g⟩ := h
  refine ⟨S, ρ, st, Good.bnd RVr.back g fun k ρ1 S1 H1 v _ e1 r1 g1 => ?_⟩
  cases r1
  cases k with
  | true => rw [if_pos rfl] at g1 ⊢; exact ⟨S1, ρ1, e1.st, g1⟩
  | false => rw [if_neg Bool.false_ne_true] at g1 ⊢; exact ⟨S1, ρ1, e1.st, g1⟩

/-! ### argument lists -/
variable {es : List Expr} {ms : List (M RV)}
theorem va_nil : VA X C W [] [] := ⟨PA.imp pa_nil fun σ H Q h => by
  obtain ⟨S, ρ, st, g⟩ := h
  have g : ∀ S' H' b, Stp C σ S ρ H S' ρ H' → Oprs C σ S' [] b → Q b H' := g
  exact g S H [] (Stp.refl st) .nil⟩
theorem va_cons (ha : VE X C W e ma) (hr : VA X C W es ms) (hs : starEach (e :: es) X.env = (false, eval e X.env) :: starEach es X.env := by rfl) : VA X C W (e :: es) (ma :: ms) := by
  refine ⟨PA.imp (pa_cons ha.pe hr.pa hs) fun σ H Q h => ?_⟩
  obtain ⟨S, ρ, st, g⟩ := h
  refine ⟨S, ρ, st, Good.opd (Good.bnd OprsR.back g fun x ρ1 S1 H1 v _ e1 r1 g1 => ?_)⟩
  refine ⟨S1, ρ1, e1.st, Good.bnd OprsR.back g1 fun os ρ2 S2 H2 vs _ e2 r2 g2 => ?_⟩
  have g2 : ∀ S' H' b, Stp C σ S2 ρ2 H2 S' ρ2 H' → Oprs C σ S' (x :: os) b → Q b H' := g2
  exact g2 S2 H2 (v :: vs) (Stp.refl e2.st) (.cons (Op.fwd r1 e2.ext.sS) r2)
end
end VL

/-! VL part d: calls of defs; displays; statements; targets; loops; defs. -/
namespace VL
open PySem L2 PySem.Spec

/-! ### arguments go in and come back -/
def mkArgs (ρ : Env) : List Opd → Option Env
  | [] => some []
  | .val d :: os => (mkArgs ρ os).map fun as => .val d :: as
  | .bor j :: os => match ownD ρ j with
    | some d => (mkArgs ρ os).map fun as => .bow d :: as
    | none => none
def bors : List Opd → List Nat
  | [] => []
  | .val _ :: os => bors os
  | .bor j :: os => j :: bors os
def merge : Slot → Slot → Slot
  | .own _, .bow d => .own d
  | .own _, .bfz d => .val d
  | .bow _, .bow d => .bow d
  | .bow _, .bfz d => .bfz d
  | s, _ => s
def backArgs : Env → List Opd → Env → Env
  | ρ, .bor j :: os, s :: as => backArgs (match ρ[j]? with | some t => ρ.set j (merge t s) | none => ρ) os as
  | ρ, .val _ :: os, _ :: as => backArgs ρ os as
  | ρ, _, _ => ρ
def enterM (cf : CF) (i : Nat) (os : List Opd) : M RV := fun ρ =>
  match mkArgs ρ os with
  | none => .stuck
  | some args => if (bors os).Nodup then match cf i args with
    | .stuck => .stuck
    | .exc x as => .exc x (backArgs ρ os as)
    | .ok (.val d) as => .ok (.val d) (backArgs ρ os as)
    | .ok (.own d) as => .ok (.own d) (backArgs ρ os as)
    | .ok (.bor _) _ => .stuck
    else .stuck
def callM (cf : CF) (i : Nat) (ms : List (M RV)) : M RV := argsM ms >>= enterM cf i

theorem mkArgs_len : ∀ {ρ : Env} {os : List Opd} {as : Env}, mkArgs ρ os = some as → as.length = os.length
  | ρ, [], as, h => by cases h; rfl
  | ρ, .val d :: os, as, h => by
    unfold mkArgs at h
    cases e : mkArgs ρ os with
    | none => rw [e] at h; cases h
    | some a => rw [e] at h; cases h; simp [mkArgs_len e]
  | ρ, .bor j :: os, as, h => by
    unfold mkArgs at h
    cases q : ownD ρ j with
    | none => rw [q] at h; cases h
    | some d =>
      rw [q] at h
      cases e : mkArgs ρ os with
      | none => simp [e] at h
      | some a => simp [e] at h; subst h; simp [mkArgs_len e]
theorem mkArgs_at : ∀ {ρ : Env} {os : List Opd} {as : Env} {k : Nat}, mkArgs ρ os = some as → k < os.length → (∃ d, os[k]? = some (Opd.val d) ∧ as[k]? = some (.val d)) ∨ ∃ j d, os[k]? = some (Opd.bor j) ∧ ownD ρ j = some d ∧ as[k]? = some (.bow d)
  | ρ, [], as, k, h, hk => by cases hk
  | ρ, .val d :: os, as, k, h, hk => by
    unfold mkArgs at h
    cases e : mkArgs ρ os with
    | none => rw [e] at h; cases h
    | some a =>
      rw [e] at h; cases h
      cases k with
      | zero => exact .inl ⟨d, rfl, rfl⟩
      | succ k => simpa using mkArgs_at e (k := k) (by simpa using hk)
  | ρ, .bor j :: os, as, k, h, hk => by
    unfold mkArgs at h
    cases q : ownD ρ j with
    | none => rw [q] at h; cases h
    | some d =>
      rw [q] at h
      cases e : mkArgs ρ os with
      | none => simp [e] at h
      | some a =>
        simp [e] at h; subst h
        cases k with
        | zero => exact .inr ⟨j, d, rfl, q, rfl⟩
        | succ k => simpa using mkArgs_at e (k := k) (by simpa using hk)
theorem mem_bors : ∀ {os : List Opd} {j : Nat}, j ∈ bors os → ∃ k : Nat, os[k]? = some (Opd.bor j)
  | [], j, h => by cases h
  | .val d :: os, j, h => by
    obtain ⟨k, e⟩ := mem_bors (os := os) h
    exact ⟨k + 1, by simpa using e⟩
  | .bor i :: os, j, h => by
    rcases List.mem_cons.mp h with rfl | h
    · exact ⟨0, rfl⟩
    · obtain ⟨k, e⟩ := mem_bors (os := os) h
      exact ⟨k + 1, by simpa using e⟩
theorem bors_mem : ∀ {os : List Opd} {j k : Nat}, os[k]? = some (Opd.bor j) → j ∈ bors os
  | [], j, k, h => by simp at h
  | .val d :: os, j, k, h => by
    cases k with
    | zero => simp at h
    | succ k => exact bors_mem (os := os) (k := k) (by simpa using h)
  | .bor i :: os, j, k, h => by
    cases k with
    | zero => simp at h; subst h; exact List.mem_cons_self
    | succ k => exact List.mem_cons_of_mem _ (bors_mem (os := os) (k := k) (by simpa using h))
theorem bors_inj : ∀ {os : List Opd} {j k k' : Nat}, (bors os).Nodup → os[k]? = some (Opd.bor j) → os[k']? = some (Opd.bor j) → k = k'
  | [], j, k, k', _, h, _ => by simp at h
  | .val d :: os, j, k, k', nd, h, h' => by
    cases k with
    | zero => simp at h
    | succ k =>
      cases k' with
      | zero => simp at h'
      | succ k' => exact congrArg (· + 1) (bors_inj (os := os) (j := j) (k := k) (k' := k') nd (by simpa using h) (by simpa using h'))
  | .bor i :: os, j, k, k', nd, h, h' => by
    have nd' : i ∉ bors os ∧ (bors os).Nodup := List.nodup_cons.mp nd
    cases k with
    | zero =>
      simp at h; subst h
      cases k' with
      | zero => rfl
      | succ k' => exact absurd (bors_mem (os := os) (k := k') (by simpa using h')) nd'.1
    | succ k =>
      cases k' with
      | zero =>
        simp at h'; subst h'
        exact absurd (bors_mem (os := os) (k := k) (by simpa using h)) nd'.1
      | succ k' => exact congrArg (· + 1) (bors_inj (os := os) (j := j) (k := k) (k' := k') nd'.2 (by simpa using h) (by simpa using h'))
theorem backArgs_len : ∀ {ρ : Env} {os : List Opd} {as : Env}, (backArgs ρ os as).length = ρ.length
  | ρ, [], as => by unfold backArgs; rfl
  | ρ, .bor j :: os, [] => by unfold backArgs; rfl
  | ρ, .val d :: os, [] => by unfold backArgs; rfl
  | ρ, .val d :: os, s :: as => by
    show (backArgs ρ os as).length = _
    exact backArgs_len
  | ρ, .bor j :: os, s :: as => by
    show (backArgs (match ρ[j]? with | some t => ρ.set j (merge t s) | none => ρ) os as).length = _
    refine backArgs_len.trans ?_
    cases ρ[j]? <;> simp
theorem backArgs_get : ∀ {ρ : Env} {os : List Opd} {as : Env} (j : Nat), (bors os).Nodup → as.length = os.length →
    (∃ (k : Nat) (s : Slot), os[k]? = some (Opd.bor j) ∧ as[k]? = some s ∧ (backArgs ρ os as)[j]? = (ρ[j]?).map fun t => merge t s) ∨ ((∀ k : Nat, os[k]? ≠ some (Opd.bor j)) ∧ (backArgs ρ os as)[j]? = ρ[j]?)
  | ρ, [], as, j, _, _ => .inr ⟨fun k => by simp, by unfold backArgs; rfl⟩
  | ρ, .val d :: os, [], j, _, h => by simp at h
  | ρ, .bor i :: os, [], j, _, h => by simp at h
  | ρ, .val d :: os, s :: as, j, nd, h => by
    show (∃ (k : Nat) (s' : Slot), _ ∧ _ ∧ (backArgs ρ os as)[j]? = _) ∨ (_ ∧ (backArgs ρ os as)[j]? = _)
    rcases backArgs_get (ρ := ρ) (os := os) (as := as) j nd (by simpa using h) with ⟨k, s', h1, h2, h3⟩ | ⟨h1, h2⟩
    · exact .inl ⟨k + 1, s', by simpa using h1, by simpa using h2, h3⟩
    · refine .inr ⟨fun k => ?_, h2⟩
      cases k with
      | zero => simp
      | succ k => simpa using h1 k
  | ρ, .bor i :: os, s :: as, j, nd, h => by
    have nd' : i ∉ bors os ∧ (bors os).Nodup := List.nodup_cons.mp nd
    show (∃ (k : Nat) (s' : Slot), _ ∧ _ ∧ (backArgs (match ρ[i]? with | some t => ρ.set i (merge t s) | none => ρ) os as)[j]? = _) ∨ (_ ∧ (backArgs (match ρ[i]? with | some t => ρ.set i (merge t s) | none => ρ) os as)[j]? = _)
    generalize hρ : (match ρ[i]? with | some t => ρ.set i (merge t s) | none => ρ) = ρ1
    by_cases z : j = i
    · subst z
      rcases backArgs_get (ρ := ρ1) (os := os) (as := as) j nd'.2 (by simpa using h) with ⟨k, s', h1, h2, h3⟩ | ⟨h1, h2⟩
      · exact absurd (bors_mem h1) nd'.1
      · refine .inl ⟨0, s, rfl, rfl, h2.trans ?_⟩
        subst hρ
        cases q : ρ[j]? with
        | none => simp [q]
        | some t =>
          have hj : j < ρ.length := (List.getElem?_eq_some_iff.mp q).1
          simp [hj]
    · have e1 : ρ1[j]? = ρ[j]? := by
        subst hρ
        cases q : ρ[i]? with
        | none => rfl
        | some t => exact List.getElem?_set_ne (Ne.symm z)
      rcases backArgs_get (ρ := ρ1) (os := os) (as := as) j nd'.2 (by simpa using h) with ⟨k, s', h1, h2, h3⟩ | ⟨h1, h2⟩
      · exact .inl ⟨k + 1, s', by simpa using h1, by simpa using h2, by rw [h3, e1]⟩
      · refine .inr ⟨fun k => ?_, h2.trans e1⟩
        cases k with
        | zero => intro e; simp at e; exact z e.symm
        | succ k => simpa using h1 k

section
variable {C : Cfg} {W : WX} {σ : St} {S : Hp} {ρ : Env} {H : Hp} {os : List Opd} {vs : List V}
theorem Oprs.at {k : Nat} {o : Opd} (r : Oprs C σ S os vs) (e : os[k]? = some o) : ∃ v, vs[k]? = some v ∧ Op C σ S o v := by
  induction r generalizing k with
  | nil => simp at e
  | cons h _ ih =>
    cases k with
    | zero => simp at e; subst e; exact ⟨_, rfl, h⟩
    | succ k => simpa using ih (k := k) (by simpa using e)
theorem own_bow {as : Env} {k : Nat} {d : D} (h : as[k]? = some (.bow d)) : ownD as k = some d := by unfold ownD; rw [h]
theorem args_own (hm : mkArgs ρ os = some as) {k : Nat} {d : D} (h : ownD as k = some d) : ∃ j, os[k]? = some (Opd.bor j) ∧ ownD ρ j = some d := by
  have hk : k < os.length := by rw [← mkArgs_len hm]; exact lt_own h
  rcases mkArgs_at hm hk with ⟨d', h1, h2⟩ | ⟨j, d', h1, h2, h3⟩
  · unfold ownD at h; rw [h2] at h; cases h
  · rw [own_bow h3] at h; cases h
    exact ⟨j, h1, h2⟩
theorem args_ownA (r : Oprs C σ S os vs) (hm : mkArgs ρ os = some as) {p : Addr} (h : OwnA as (vs.map some) p) : ∃ (k j : Nat) (d : D), os[k]? = some (Opd.bor j) ∧ ownD ρ j = some d ∧ σ[j]? = some (some (V.ref p)) ∧ vs[k]? = some (V.ref p) := by
  obtain ⟨k, d, h1, h2⟩ := h
  obtain ⟨j, h3, h4⟩ := args_own hm h1
  obtain ⟨v, h5, h6⟩ := r.at h3
  have e : v = V.ref p := by simp [h5] at h2; exact h2
  subst e
  exact ⟨k, j, d, h3, h4, h6, h5⟩
/-- the callee's slots -/
theorem args_st (st : StRel C S ρ σ H) (r : Oprs C σ S os vs) (hm : mkArgs ρ os = some as) (nd : (bors os).Nodup) : StRel C S as (vs.map some) H := by
  have hl := mkArgs_len hm
  refine ⟨st.same, by rw [List.length_map, ← r.len, hl], fun k d h => ?_, fun k d h => ?_, fun k k' d e p h1 h2 h3 h4 => ?_⟩
  · have hk : k < os.length := by
      rw [← hl]
      unfold valD at h
      by_cases z : k < as.length
      · exact z
      · rw [List.getElem?_eq_none (by omega)] at h; cases h
    rcases mkArgs_at hm hk with ⟨d', h1, h2⟩ | ⟨j, d', h1, h2, h3⟩
    · obtain ⟨v, h5, h6⟩ := r.at h1
      unfold valD at h; rw [h2] at h; cases h
      exact ⟨v, by simp [h5], h6⟩
    · unfold valD at h; rw [h3] at h; cases h
  · obtain ⟨j, h3, h4⟩ := args_own hm h
    obtain ⟨v, h5, h6⟩ := r.at h3
    obtain ⟨p, a, b, c⟩ := st.own j d h4
    have z := a.symm.trans h6
    cases z
    exact ⟨p, by simp [h5], b, c⟩
  · obtain ⟨j, a1, a2⟩ := args_own hm h1
    obtain ⟨j', b1, b2⟩ := args_own hm h2
    obtain ⟨v, a5, a6⟩ := r.at a1
    obtain ⟨v', b5, b6⟩ := r.at b1
    have ev : v = V.ref p := by simp [a5] at h3; exact h3
    have ev' : v' = V.ref p := by simp [b5] at h4; exact h4
    subst ev ev'
    have := st.dis j j' d e p a2 b2 a6 b6
    subst this
    exact bors_inj nd a1 b1
theorem get_len {α : Type} {l : List α} {i : Nat} {a : α} (h : l[i]? = some a) : i < l.length := (List.getElem?_eq_some_iff.mp h).1
/-- behind the call -/
theorem back_stp (st : StRel C S ρ σ H) (r : Oprs C σ S os vs) (hm : mkArgs ρ os = some as) (nd : (bors os).Nodup) {S' H' : Hp} {as' : Env} (e : Stp C (vs.map some) S as H S' as' H') : Stp C σ S ρ H S' (backArgs ρ os as') H' := by
  have hl : as'.length = os.length := by
    have h1 := e.st.len
    rw [List.length_map, ← r.len] at h1
    exact h1.symm
  have mk : ∀ {k j : Nat}, os[k]? = some (Opd.bor j) → markB as' k = true := fun {k j} h => by
    refine e.mrk k ?_
    rcases mkArgs_at hm (get_len h) with ⟨d', h1, h2⟩ | ⟨j', d', h1, h2, h3⟩
    · rw [h] at h1; cases h1
    · unfold markB; rw [h3]
  have OA : ∀ p, OwnA as (vs.map some) p → OwnA ρ σ p := fun p h => by
    obtain ⟨k, j, d, h1, h2, h3, h4⟩ := args_ownA r hm h
    exact ⟨j, d, h2, h3⟩
  have sub : ∀ j d, ownD (backArgs ρ os as') j = some d → ∃ e, ownD ρ j = some e := fun j d h => by
    rcases backArgs_get (ρ := ρ) j nd hl with ⟨k, s, h1, h2, h3⟩ | ⟨h1, h2⟩
    · unfold ownD at h
      rw [h3] at h
      unfold ownD
      cases q : ρ[j]? with
      | none => rw [q] at h; cases h
      | some t =>
        rw [q] at h
        have h : (match merge t s with | .own d => some d | .bow d => some d | _ => none) = some d := by
          simp only [Option.map_some] at h
          revert h
          cases merge t s <;> exact fun h => h
        cases t with
        | own d' => exact ⟨d', rfl⟩
        | bow d' => exact ⟨d', rfl⟩
        | _ => cases s <;> cases h
    · unfold ownD at h ⊢
      rw [h2] at h
      exact ⟨d, h⟩
  refine ⟨e.ext.mono OA, ⟨e.st.same, by rw [backArgs_len]; exact st.len, fun j d h => ?_, fun j d h => ?_, fun i j d d' p h1 h2 h3 h4 => ?_⟩, sub, fun j h => ?_⟩
  · rcases backArgs_get (ρ := ρ) j nd hl with ⟨k, s, h1, h2, h3⟩ | ⟨h1, h2⟩
    · obtain ⟨v, h5, h6⟩ := r.at h1
      rcases mkArgs_at hm (get_len h1) with ⟨d', a1, a2⟩ | ⟨j', d', a1, a2, a3⟩
      · rw [h1] at a1; cases a1
      · rw [h1] at a1; cases a1
        have mk' := mk h1
        unfold valD at h
        rw [h3] at h
        unfold ownD at a2
        unfold markB at mk'
        rw [h2] at mk'
        have vk : ∀ d, s = .bfz d → ∃ w, σ[j]? = some (some w) ∧ Rep C.K S' w d := fun d es => by
          obtain ⟨w, b1, b2⟩ := e.st.val k d (by unfold valD; rw [h2, es])
          simp [h5] at b1
          subst b1
          exact ⟨v, h6, b2⟩
        cases q : ρ[j]? with
        | none => rw [q] at a2; cases a2
        | some t =>
          rw [q] at a2 h
          simp only [Option.map_some] at h
          cases s with
          | bow d2 => cases t <;> first | (cases a2; done) | (cases h; done)
          | bfz d2 =>
            cases t with
            | own d3 => cases h; exact vk _ rfl
            | bow d3 => cases h; exact vk _ rfl
            | _ => cases a2
          | _ => cases mk'
    · unfold valD at h
      rw [h2] at h
      obtain ⟨v, b1, b2⟩ := st.val j d (by unfold valD; exact h)
      exact ⟨v, b1, b2.mono e.ext.sS⟩
  · rcases backArgs_get (ρ := ρ) j nd hl with ⟨k, s, h1, h2, h3⟩ | ⟨h1, h2⟩
    · obtain ⟨v, h5, h6⟩ := r.at h1
      obtain ⟨d0, hd0⟩ := sub j d h
      have mk' := mk h1
      unfold ownD at h
      rw [h3] at h
      unfold markB at mk'
      rw [h2] at mk'
      have es : s = .bow d := by
        cases q : ρ[j]? with
        | none => rw [q] at h; cases h
        | some t =>
          rw [q] at h
          simp only [Option.map_some] at h
          unfold ownD at hd0
          rw [q] at hd0
          cases s with
          | bow d2 => cases t <;> first | (cases h; rfl) | cases hd0
          | bfz d2 => cases t <;> first | (cases h; done) | (cases hd0; done)
          | _ => cases mk'
      subst es
      obtain ⟨p, b1, b2, b3⟩ := e.st.own k d (own_bow h2)
      simp [h5] at b1
      subst b1
      exact ⟨p, h6, b2, b3⟩
    · have hd : ownD ρ j = some d := by unfold ownD at h ⊢; rw [h2] at h; exact h
      obtain ⟨p, b1, b2, b3⟩ := st.own j d hd
      have nA : ¬ OwnA as (vs.map some) p := fun z => by
        obtain ⟨k, j', d', c1, c2, c3, c4⟩ := args_ownA r hm z
        have := st.dis j j' d d' p hd c2 b1 c3
        subst this
        exact h1 k c1
      refine ⟨p, b1, ?_, b3.mono e.ext.sS fun o ho => e.ext.keep p o nA ho⟩
      cases q : S' p with
      | none => rfl
      | some u =>
        obtain ⟨o, ho⟩ := b3.ex
        rcases e.ext.grow p b2 (by rw [q]; simp) with z | z
        · exact absurd z nA
        · rw [z] at ho; cases ho
  · obtain ⟨d1, e1⟩ := sub i d h1
    obtain ⟨d2, e2⟩ := sub j d' h2
    exact st.dis i j d1 d2 p e1 e2 h3 h4
  · rcases backArgs_get (ρ := ρ) j nd hl with ⟨k, s, h1, h2, h3⟩ | ⟨h1, h2⟩
    · unfold markB at h ⊢
      have mk' := mk h1
      unfold markB at mk'
      rw [h2] at mk'
      rw [h3]
      cases q : ρ[j]? with
      | none => rw [q] at h; cases h
      | some t =>
        rw [q] at h
        cases t with
        | bow d => cases s <;> first | rfl | cases mk'
        | bfz d => cases s <;> first | rfl | cases mk'
        | _ => cases h
    · unfold markB at h ⊢
      rw [h2]; exact h
/-- the answer of a call -/
theorem back_rv (st : StRel C S ρ σ H) (r : Oprs C σ S os vs) (hm : mkArgs ρ os = some as) (nd : (bors os).Nodup) {S' H' : Hp} {as' : Env} {rv : RV} {v : V} (e : Stp C (vs.map some) S as H S' as' H') (h : RVr C (vs.map some) as H rv S' as' H' v)
    (nb : ∀ i, rv ≠ .bor i) : RVr C σ ρ H rv S' (backArgs ρ os as') H' v := by
  have e2 := back_stp st r hm nd e
  have hl : as'.length = os.length := by
    have h1 := e.st.len
    rw [List.length_map, ← r.len] at h1
    exact h1.symm
  cases rv with
  | bor i => exact (nb i rfl).elim
  | val d => exact h
  | own d =>
    obtain ⟨p, h1, h2, h3, h4, h5⟩ := h
    refine ⟨p, h1, h2, h3, fun z => ?_, ?_⟩
    · obtain ⟨j, d', c1, c2⟩ := z
      obtain ⟨d0, hd0⟩ := e2.sub j d' c1
      rcases h5 with h5 | h5
      · obtain ⟨k, j', d'', b1, b2, b3, b4⟩ := args_ownA r hm h5
        have := st.dis j j' d0 d'' p hd0 b2 c2 b3
        subst this
        obtain ⟨q, a1, a2, a3⟩ := e2.st.own j d' c1
        rcases backArgs_get (ρ := ρ) j nd hl with ⟨k2, s, x1, x2, x3⟩ | ⟨x1, x2⟩
        · have ek := bors_inj nd b1 x1
          subst ek
          have mk' : markB as' k = true := by
            refine e.mrk k ?_
            rcases mkArgs_at hm (get_len b1) with ⟨d', y1, y2⟩ | ⟨j', d', y1, y2, y3⟩
            · rw [b1] at y1; cases y1
            · unfold markB; rw [y3]
          refine h4 ⟨k, d', ?_, by simp [b4]⟩
          unfold ownD at c1
          rw [x3] at c1
          unfold markB at mk'
          rw [x2] at mk'
          unfold ownD
          rw [x2]
          unfold ownD at b2
          cases q : ρ[j]? with
          | none => rw [q] at b2; cases b2
          | some t =>
            rw [q] at c1 b2
            simp only [Option.map_some] at c1
            cases s with
            | bow d2 => cases t <;> first | (cases c1; rfl) | cases b2
            | bfz d2 => cases t <;> first | (cases c1; done) | (cases b2; done)
            | _ => cases mk'
        · exact x1 k b1
      · obtain ⟨q, a1, a2, a3⟩ := st.own j d0 hd0
        rw [c2] at a1; cases a1
        obtain ⟨o, ho⟩ := a3.ex
        rw [h5] at ho; cases ho
    · rcases h5 with h5 | h5
      · obtain ⟨k, j', d'', b1, b2, b3, b4⟩ := args_ownA r hm h5
        exact .inl ⟨j', d'', b2, b3⟩
      · exact .inr h5
theorem enter_ok {cf : CF} {i np : Nat} {Q : VK} (st : StRel C S ρ σ H) (r : Oprs C σ S os vs) (hn : os.length = np) (g : Good C W σ S ρ H (enterM cf i os ρ) (RVr C σ) Q) : spOf C cf i np (vs ++ []) H Q (WE W σ) := by
  rw [List.append_nil]
  unfold enterM at g
  cases hm : mkArgs ρ os with
  | none => simp only [hm] at g; exact g.elim
  | some as =>
    simp only [hm] at g
    by_cases nd : (bors os).Nodup
    · rw [if_pos nd] at g
      refine ⟨S, as, by rw [← r.len]; exact hn, args_st st r hm nd, ?_⟩
      cases q : cf i as with
      | stuck => rw [q] at g; exact g
      | exc x as' =>
        rw [q] at g
        intro S' H' cls d e h
        exact g S' H' cls d (back_stp st r hm nd e) h
      | ok rv as' =>
        rw [q] at g
        cases rv with
        | bor j => exact g.elim
        | val d =>
          intro S' H' v e h
          exact g S' H' v (back_stp st r hm nd e) (back_rv st r hm nd e h fun _ z => by cases z)
        | own d =>
          intro S' H' v e h
          exact g S' H' v (back_stp st r hm nd e) (back_rv st r hm nd e h fun _ z => by cases z)
    · rw [if_neg nd] at g; exact g.elim
end

section
variable {X : Cx} {C : Cfg} {W : WX} {cf : CF} {T : List (Str × Nat)} {e a b c : Expr} {es : List Expr} {ma mb mc : M RV} {ms : List (M RV)} {pos p : Pos} {x : Str}
theorem argsM_len : ∀ {ms : List (M RV)} {os : List Opd} {ρ ρ' : Env}, argsM ms ρ = .ok os ρ' → os.length = ms.length
  | [], os, ρ, ρ', h => by cases h; rfl
  | m :: ms, os, ρ, ρ', h => by
    have h : ((opd m ρ).bnd fun o => argsM ms >>= fun os => pure (o :: os)) = .ok os ρ' := h
    cases e : opd m ρ with
    | stuck => rw [e] at h; cases h
    | exc x r => rw [e] at h; cases h
    | ok o r =>
      rw [e] at h
      have h : ((argsM ms r).bnd fun os => pure (o :: os)) = .ok os ρ' := h
      cases e2 : argsM ms r with
      | stuck => rw [e2] at h; cases h
      | exc x r2 => rw [e2] at h; cases h
      | ok os2 r2 =>
        rw [e2] at h
        have h : Res.ok (o :: os2) r2 = .ok os ρ' := h
        cases h
        simp [argsM_len (os := os2) e2]
theorem ve_call (vx : Vx X C W cf T) {i np : Nat} (ht : T[i]? = some (x, np)) (hg : Gl X x) (ha : VA X C W (e :: es) ms) (hn : ms.length = np) (hdb : (x == ("__debug__" : Str)) = false := by decide)
    (he : starEach (e :: es) X.env = (false, eval e X.env) :: starEach es X.env := by rfl) (hpl : (backTo pos (starEach es X.env)).any (·.1) = false := by rfl) : VE X C W (.Call (.Name x p) (e :: es) [] pos) (callM cf i ms) := by
  obtain ⟨k, hr, tab⟩ := vx.tab
  obtain ⟨f, fd, ps, hm, hk, hb, hl, F⟩ := (tab i x np ht).ex
  refine ⟨PE.imp (pe_callSD (E := WE W) F hr hg hm hk hb .nil (fun σ => passAt vx.tk σ) ha.pa hdb he hpl) fun σ H Q h => ?_⟩
  obtain ⟨S, ρ, st, g⟩ := h
  refine ⟨S, ρ, st, Good.bnd RVr.back g fun os ρ1 S1 H1 vs e0 e1 r1 g1 => enter_ok e1.st r1 ((argsM_len e0).trans hn) g1⟩
/-- f() -/
theorem pe_call0S {CX : CXT} {k : Nat} {f : Addr} {fd : FuncData} {ps : List Str} {sp : Sp} {E : St → XK} (F : FnOk X.prog X.w X.K X.mg X.base CX k f fd ps sp) (hr : Room k X.A) (hg : Gl X x) (hm : X.mg x = some (.ref f)) (hk : PySem.W.keepIn X.K (.ref f) = true) (hb : Binds X.K fd ps [])
    (hx : ∀ σ, PassesAt CX X σ (E σ)) (hdb : (x == ("__debug__" : Str)) = false := by decide) : PE X (.Call (.Name x p) [] [] pos) (tCallSD sp [] E tNil) := by
  refine ⟨fun pins s σ H Q I h => ?_⟩
  refine wpAny_Call_Name_kw (ld_glob I hg hm ?_ hdb)
  exact PySem.W.callWith_K0 I.kIn hk (run_fnSD (us := []) F hr hb .nil (hx σ) I .nil h)
theorem ve_call0 (vx : Vx X C W cf T) {i : Nat} (ht : T[i]? = some (x, 0)) (hg : Gl X x) (hdb : (x == ("__debug__" : Str)) = false := by decide) : VE X C W (.Call (.Name x p) [] [] pos) (callM cf i []) := by
  obtain ⟨k, hr, tab⟩ := vx.tab
  obtain ⟨f, fd, ps, hm, hk, hb, hl, F⟩ := (tab i x 0 ht).ex
  refine ⟨PE.imp (pe_call0S (E := WE W) F hr hg hm hk hb (fun σ => passAt vx.tk σ) hdb) fun σ H Q h => ?_⟩
  obtain ⟨S, ρ, st, g⟩ := h
  exact enter_ok st .nil rfl g
end
end VL

/-! VL part e: displays; statements; targets; loops; a def by its body. -/
namespace VL
open PySem L2

inductive Fl where
  | nx | brk | cont | ret (rv : RV)
abbrev MS := M Fl

structure StpS (C : Cfg) (S : Hp) (ρ : Env) (σ : St) (H S' : Hp) (ρ' : Env) (σ' : St) (H' : Hp) : Prop where
  ext : Ext (OwnA ρ σ) S H S' H'
  st : StRel C S' ρ' σ' H'
  new : ∀ p, OwnA ρ' σ' p → OwnA ρ σ p ∨ H p = none
  mrk : ∀ i, markB ρ i = true → markB ρ' i = true ∧ σ'[i]? = σ[i]?
section
variable {C : Cfg} {W : WX} {S S1 S2 : Hp} {ρ ρ1 ρ2 : Env} {σ σ1 σ2 : St} {H H1 H2 : Hp}
theorem StpS.refl (h : StRel C S ρ σ H) : StpS C S ρ σ H S ρ σ H := ⟨Ext.refl, h, fun _ h => .inl h, fun _ h => ⟨h, rfl⟩⟩
theorem StpS.trans (a : StpS C S ρ σ H S1 ρ1 σ1 H1) (b : StpS C S1 ρ1 σ1 H1 S2 ρ2 σ2 H2) : StpS C S ρ σ H S2 ρ2 σ2 H2 := by
  refine ⟨a.ext.trans b.ext a.new, b.st, fun p h => ?_, fun i h => ?_⟩
  · rcases b.new p h with h | h
    · exact a.new p h
    · exact a.ext.back h
  · obtain ⟨h1, h2⟩ := a.mrk i h
    obtain ⟨h3, h4⟩ := b.mrk i h1
    exact ⟨h3, h4.trans h2⟩
theorem Stp.toS (e : Stp C σ S ρ H S1 ρ1 H1) : StpS C S ρ σ H S1 ρ1 σ H1 := ⟨e.ext, e.st, fun p h => .inl (e.subA p h), fun i h => ⟨e.mrk i h, rfl⟩⟩

def RetR (C : Cfg) (ρ : Env) (σ : St) (H : Hp) (rv : RV) (S' : Hp) (ρ' : Env) (σ' : St) (H' : Hp) (v : V) : Prop := match rv with
  | .val d => Rep C.K S' v d
  | .own d => ∃ p, v = V.ref p ∧ S' p = none ∧ OwnAt C.K S' H' p d ∧ ¬ OwnA ρ' σ' p ∧ (OwnA ρ σ p ∨ H p = none)
  | .bor _ => False
def GoodS (C : Cfg) (W : WX) (S : Hp) (ρ : Env) (σ : St) (H : Hp) (r : Res Fl) (D : Ends) : Prop := match r with
  | .stuck => False
  | .ok .nx ρ' => ∀ S' H' σ', StpS C S ρ σ H S' ρ' σ' H' → D.nx σ' H'
  | .ok .brk ρ' => ∀ S' H' σ', StpS C S ρ σ H S' ρ' σ' H' → D.bk σ' H'
  | .ok .cont ρ' => ∀ S' H' σ', StpS C S ρ σ H S' ρ' σ' H' → D.ct σ' H'
  | .ok (.ret rv) ρ' => ∀ S' H' σ' v, StpS C S ρ σ H S' ρ' σ' H' → RetR C ρ σ H rv S' ρ' σ' H' v → D.rt v H'
  | .exc x ρ' => ∀ S' H' σ' cls d, StpS C S ρ σ H S' ρ' σ' H' → C.xr x H' cls d → W cls d σ' H'
theorem RetR.back (a : StpS C S ρ σ H S1 ρ1 σ1 H1) {rv : RV} {S' : Hp} {ρ' : Env} {σ' : St} {H' : Hp} {v : V} (r : RetR C ρ1 σ1 H1 rv S' ρ' σ' H' v) : RetR C ρ σ H rv S' ρ' σ' H' v := by
  cases rv with
  | val d => exact r
  | bor i => exact r
  | own d =>
    obtain ⟨p, h1, h2, h3, h4, h5⟩ := r
    refine ⟨p, h1, h2, h3, h4, ?_⟩
    rcases h5 with h5 | h5
    · exact a.new p h5
    · exact a.ext.back h5
theorem GoodS.from {r : Res Fl} {D : Ends} (a : StpS C S ρ σ H S1 ρ1 σ1 H1) (h : GoodS C W S ρ σ H r D) : GoodS C W S1 ρ1 σ1 H1 r D := by
  cases r with
  | stuck => exact h
  | exc x ρ' => exact fun S' H' σ' cls d e q => h S' H' σ' cls d (a.trans e) q
  | ok f ρ' =>
    cases f with
    | nx => exact fun S' H' σ' e => h S' H' σ' (a.trans e)
    | brk => exact fun S' H' σ' e => h S' H' σ' (a.trans e)
    | cont => exact fun S' H' σ' e => h S' H' σ' (a.trans e)
    | ret rv => exact fun S' H' σ' v e q => h S' H' σ' v (a.trans e) (q.back a)
/-- an expression ahead of the rest of a statement -/
theorem GoodS.bnd {α β : Type} {m : M α} {f : α → MS} {R : Rl α β} {Q : β → Hp → Prop} {D : Ends} (h : GoodS C W S ρ σ H ((m >>= f) ρ) D)
    (k : ∀ a ρ1 S1 H1 b, m ρ = .ok a ρ1 → Stp C σ S ρ H S1 ρ1 H1 → R ρ H a S1 ρ1 H1 b → GoodS C W S1 ρ1 σ H1 (f a ρ1) D → Q b H1) : Good C W σ S ρ H (m ρ) R Q := by
  rw [bnd_ap] at h
  cases e : m ρ with
  | stuck => rw [e] at h; exact h
  | ok a ρ1 =>
    rw [e] at h
    exact fun S1 H1 b st r => k a ρ1 S1 H1 b e st r (GoodS.from st.toS h)
  | exc x ρ1 =>
    rw [e] at h
    exact fun S' H' cls d st q => h S' H' σ cls d st.toS q
/-- .. told from the begin -/
theorem GoodS.bnd0 {α β : Type} {m : M α} {f : α → MS} {R : Rl α β} {Q : β → Hp → Prop} {D : Ends} (h : GoodS C W S ρ σ H ((m >>= f) ρ) D)
    (k : ∀ a ρ1 S1 H1 b, m ρ = .ok a ρ1 → Stp C σ S ρ H S1 ρ1 H1 → R ρ H a S1 ρ1 H1 b → GoodS C W S ρ σ H (f a ρ1) D → Q b H1) : Good C W σ S ρ H (m ρ) R Q := by
  rw [bnd_ap] at h
  cases e : m ρ with
  | stuck => rw [e] at h; exact h
  | ok a ρ1 =>
    rw [e] at h
    exact fun S1 H1 b st r => k a ρ1 S1 H1 b e st r h
  | exc x ρ1 =>
    rw [e] at h
    exact fun S' H' cls d st q => h S' H' σ cls d st.toS q
end

def tS (C : Cfg) (W : WX) (m : MS) : TS := fun D σ H => ∃ S ρ, StRel C S ρ σ H ∧ GoodS C W S ρ σ H (m ρ) D
structure VS (X : Cx) (C : Cfg) (W : WX) (st : Stmt) (m : MS) : Prop where ps : PS X st (tS C W m)
structure VSs (X : Cx) (C : Cfg) (W : WX) (st : List Stmt) (m : MS) : Prop where ps : PSs X st (tS C W m)
def seqS (m n : MS) : MS := m >>= fun f => match f with
  | .nx => n
  | f => pure f
section
variable {X : Cx} {C : Cfg} {W : WX} {cf : CF} {T : List (Str × Nat)} {e a b c : Expr} {es : List Expr} {ma mb mc : M RV} {ms : List (M RV)} {pos p : Pos} {x : Str} {st : Stmt} {sts : List Stmt} {m n : MS}
theorem PS.imp {t t' : TS} (h : PS X st t) (i : ∀ D σ H, t' D σ H → t D σ H) : PS X st t' := ⟨fun pins s σ H D I q => h.run pins s σ H D I (i D σ H q)⟩
theorem PSs.imp {t t' : TS} (h : PSs X sts t) (i : ∀ D σ H, t' D σ H → t D σ H) : PSs X sts t' := ⟨fun pins s σ H D I q => h.run pins s σ H D I (i D σ H q)⟩
/-- a statement ahead of a block -/
theorem GoodS.seq {S : Hp} {ρ : Env} {σ : St} {H : Hp} {D : Ends} (g : GoodS C W S ρ σ H (seqS m n ρ) D) : GoodS C W S ρ σ H (m ρ) { D with nx := tS C W n D } := by
  unfold seqS at g
  rw [bnd_ap] at g
  cases q : m ρ with
  | stuck => rw [q] at g; exact g
  | exc x ρ' => rw [q] at g; exact g
  | ok f ρ' =>
    rw [q] at g
    cases f with
    | nx => exact fun S' H' σ' e => ⟨S', ρ', e.st, GoodS.from e g⟩
    | brk => exact g
    | cont => exact g
    | ret rv => exact g
theorem vss_nil : VSs X C W [] (pure .nx) := ⟨PSs.imp pss_nil fun D σ H h => by
  obtain ⟨S, ρ, st, g⟩ := h
  have g : ∀ S' H' σ', StpS C S ρ σ H S' ρ σ' H' → D.nx σ' H' := g
  exact g S H σ (StpS.refl st)⟩
theorem vss_cons (h1 : VS X C W st m) (h2 : VSs X C W sts n) : VSs X C W (st :: sts) (seqS m n) := ⟨PSs.imp (pss_cons h1.ps h2.ps) fun D σ H h => by
  obtain ⟨S, ρ, st, g⟩ := h
  exact ⟨S, ρ, st, GoodS.seq g⟩⟩
theorem vss_one (h1 : VS X C W st m) : VSs X C W [st] m := ⟨pss_one h1.ps⟩
theorem vs_pass : VS X C W (.Pass pos) (pure .nx) := ⟨PS.imp ps_pass fun D σ H h => by
  obtain ⟨S, ρ, st, g⟩ := h
  have g : ∀ S' H' σ', StpS C S ρ σ H S' ρ σ' H' → D.nx σ' H' := g
  exact g S H σ (StpS.refl st)⟩
theorem vs_break : VS X C W (.Break pos) (pure .brk) := ⟨PS.imp ps_break fun D σ H h => by
  obtain ⟨S, ρ, st, g⟩ := h
  have g : ∀ S' H' σ', StpS C S ρ σ H S' ρ σ' H' → D.bk σ' H' := g
  exact g S H σ (StpS.refl st)⟩
theorem vs_continue : VS X C W (.Continue pos) (pure .cont) := ⟨PS.imp ps_continue fun D σ H h => by
  obtain ⟨S, ρ, st, g⟩ := h
  have g : ∀ S' H' σ', StpS C S ρ σ H S' ρ σ' H' → D.ct σ' H' := g
  exact g S H σ (StpS.refl st)⟩
theorem vs_never : VS X C W st M.stuck := ⟨PS.imp ps_never fun D σ H h => by
  obtain ⟨S, ρ, st, g⟩ := h
  exact g⟩
/-- an expression whose value is dropped -/
def dropS (m : M RV) : MS := m >>= fun _ => pure .nx
theorem vs_expr (he : VE X C W e ma) (hs : swapsWith e none pos.line X.env = pure false := by rfl) : VS X C W (.Expr e pos) (dropS ma) := by
  refine ⟨PS.imp (ps_expr he.pe hs) fun D σ H h => ?_⟩
  obtain ⟨S, ρ, st, g⟩ := h
  refine ⟨S, ρ, st, GoodS.bnd g fun rv ρ1 S1 H1 v _ e1 r1 g1 => ?_⟩
  have g1 : ∀ S' H' σ', StpS C S1 ρ1 σ H1 S' ρ1 σ' H' → D.nx σ' H' := g1
  exact g1 S1 H1 σ (StpS.refl e1.st)
/-- return -/
def retS (m : M RV) : MS := m >>= fun rv => match rv with
  | .val d => pure (.ret (.val d))
  | .own d => pure (.ret (.own d))
  | .bor i => fun ρ => match ρ[i]? with
    | some (.own d) => .ok (.ret (.own d)) (ρ.set i .un)
    | some (.bow d) => .ok (.ret (.val d)) (ρ.set i (.bfz d))
    | _ => .stuck
/-- a name is forgotten -/
theorem un_stp {S : Hp} {ρ : Env} {σ : St} {H : Hp} {i : Nat} {d : D} (st : StRel C S ρ σ H) (h : ρ[i]? = some (.own d)) : StpS C S ρ σ H S (ρ.set i .un) σ H := by
  have hi := get_len h
  have sub : ∀ j e, ownD (ρ.set i .un) j = some e → ownD ρ j = some e ∧ i ≠ j := fun j e q => by
    by_cases z : i = j
    · subst z; rw [ownD_at hi] at q; cases q
    · rw [ownD_ne z] at q; exact ⟨q, z⟩
  refine ⟨Ext.refl, ⟨st.same, by rw [List.length_set]; exact st.len, fun j e q => ?_, fun j e q => st.own j e (sub j e q).1, fun j k e f p q1 q2 q3 q4 => st.dis j k e f p (sub j e q1).1 (sub k f q2).1 q3 q4⟩, fun p ⟨j, e, q1, q2⟩ => .inl ⟨j, e, (sub j e q1).1, q2⟩, fun j q => ⟨?_, rfl⟩⟩
  · by_cases z : i = j
    · subst z; rw [valD_at hi] at q; cases q
    · rw [valD_ne z] at q; exact st.val j e q
  · by_cases z : i = j
    · subst z; unfold markB at q; rw [h] at q; cases q
    · rw [markB_ne z]; exact q
theorem vs_ret (he : VE X C W e ma) : VS X C W (.Return (some e) pos) (retS ma) := by
  refine ⟨PS.imp (ps_ret he.pe) fun D σ H h => ?_⟩
  obtain ⟨S, ρ, st, g⟩ := h
  refine ⟨S, ρ, st, GoodS.bnd0 g fun rv ρ1 S1 H1 v _ e1 r1 g0 => ?_⟩
  cases rv with
  | val d =>
    have g1 : ∀ S' H' σ' v, StpS C S ρ σ H S' ρ1 σ' H' → Rep C.K S' v d → D.rt v H' := g0
    exact g1 S1 H1 σ v e1.toS r1
  | own d =>
    have g1 : ∀ S' H' σ' v, StpS C S ρ σ H S' ρ1 σ' H' → RetR C ρ σ H (.own d) S' ρ1 σ' H' v → D.rt v H' := g0
    exact g1 S1 H1 σ v e1.toS r1
  | bor i =>
    have g1 := GoodS.from e1.toS g0
    obtain ⟨h1, d', h2⟩ := r1
    cases q : ρ1[i]? with
    | none => unfold ownD at h2; rw [q] at h2; cases h2
    | some s =>
      have g1 : GoodS C W S1 ρ1 σ H1 (match ρ1[i]? with
        | some (.own d) => Res.ok (Fl.ret (.own d)) (ρ1.set i .un)
        | some (.bow d) => .ok (.ret (.val d)) (ρ1.set i (.bfz d))
        | _ => .stuck) D := g1
      rw [q] at g1
      cases s with
      | own d =>
        have ho : ownD ρ1 i = some d := by unfold ownD; rw [q]
        obtain ⟨p, a1, a2, a3⟩ := e1.st.own i d ho
        have z := h1.symm.trans a1
        cases z
        have us := un_stp e1.st q
        refine g1 S1 H1 σ _ us ⟨p, rfl, a2, a3, fun ⟨j, e, b1, b2⟩ => ?_, .inl ⟨i, d, ho, a1⟩⟩
        by_cases z : i = j
        · subst z; rw [ownD_at (get_len q)] at b1; cases b1
        · rw [ownD_ne z] at b1
          exact z (e1.st.dis i j d e p ho b1 a1 b2)
      | bow d =>
        have hf : frzSlot i ρ1 = some (d, ρ1.set i (.bfz d)) := by unfold frzSlot; rw [q]
        obtain ⟨p, S', b1, b2, b3⟩ := frz_step e1.st hf
        have z := h1.symm.trans b1
        cases z
        exact g1 S' H1 σ _ b2.toS b3
      | _ => exact g1.elim
theorem vs_retN : VS X C W (.Return none pos) (pure (.ret (.val .non))) := ⟨PS.imp ps_retN fun D σ H h => by
  obtain ⟨S, ρ, st, g⟩ := h
  have g : ∀ S' H' σ' v, StpS C S ρ σ H S' ρ σ' H' → Rep C.K S' v .non → D.rt v H' := g
  exact g S H σ _ (StpS.refl st) .non⟩
def ifS (t : M Bool) (m n : MS) : MS := t >>= fun k => if k = true then m else n
theorem vs_if {t : M Bool} {sa sb : List Stmt} (hc : VT X C W c t) (ha : VSs X C W sa m) (hb : VSs X C W sb n) : VS X C W (.If c sa sb pos) (ifS t m n) := by
  refine ⟨PS.imp (ps_if hc.pt ha.ps hb.ps) fun D σ H h => ?_⟩
  obtain ⟨S, ρ, st, g⟩ := h
  refine ⟨S, ρ, st, GoodS.bnd g fun k ρ1 S1 H1 v _ e1 r1 g1 => ?_⟩
  cases r1
  cases k with
  | true => rw [if_pos rfl] at g1 ⊢; exact ⟨S1, ρ1, e1.st, g1⟩
  | false => rw [if_neg Bool.false_ne_true] at g1 ⊢; exact ⟨S1, ρ1, e1.st, g1⟩
end
end VL

/-! VL part f: stores, targets, changed lists, loops, a def by its body. -/
namespace VL
open PySem L2

section
variable {C : Cfg} {W : WX} {S : Hp} {ρ : Env} {σ : St} {H : Hp}
def setM (i : Nat) (s : Slot) : MS := fun ρ => match ρ[i]? with
  | none => .stuck
  | some (.bow _) => .stuck
  | some (.bfz _) => .stuck
  | some _ => .ok .nx (ρ.set i s)
theorem setM_ok {i : Nat} {s : Slot} {f : Fl} {ρ' : Env} (h : setM i s ρ = .ok f ρ') : f = .nx ∧ ρ' = ρ.set i s ∧ i < ρ.length ∧ markB ρ i = false := by
  unfold setM at h
  cases q : ρ[i]? with
  | none => rw [q] at h; cases h
  | some t =>
    rw [q] at h
    cases t <;> first
      | (cases h; done)
      | (cases h; exact ⟨rfl, rfl, get_len q, by unfold markB; rw [q]⟩)
theorem setM_nox {i : Nat} {s : Slot} {x : D} {ρ' : Env} (h : setM i s ρ = .exc x ρ') : False := by
  unfold setM at h
  split at h <;> cases h
/-- a name holds a value -/
theorem set_val {i : Nat} {d : D} {v : V} (st : StRel C S ρ σ H) (hi : i < ρ.length) (hm : markB ρ i = false) (r : Rep C.K S v d) : StpS C S ρ σ H S (ρ.set i (.val d)) (σ.set i (some v)) H := by
  have hσ : i < σ.length := by rw [st.len]; exact hi
  have own : ∀ j e, ownD (ρ.set i (.val d)) j = some e → ownD ρ j = some e ∧ i ≠ j := fun j e q => by
    by_cases z : i = j
    · subst z; rw [ownD_at hi] at q; cases q
    · rw [ownD_ne z] at q; exact ⟨q, z⟩
  refine ⟨Ext.refl, ⟨st.same, by simp [st.len], fun j e q => ?_, fun j e q => ?_, fun j k e f p q1 q2 q3 q4 => ?_⟩, fun p ⟨j, e, q1, q2⟩ => ?_, fun j q => ?_⟩
  · by_cases z : i = j
    · subst z
      rw [valD_at hi] at q; cases q
      exact ⟨v, by rw [List.getElem?_set_self hσ], r⟩
    · rw [valD_ne z] at q
      obtain ⟨w, a, b⟩ := st.val j e q
      exact ⟨w, by rw [List.getElem?_set_ne z]; exact a, b⟩
  · obtain ⟨q, z⟩ := own j e q
    obtain ⟨p, a, b, c⟩ := st.own j e q
    exact ⟨p, by rw [List.getElem?_set_ne z]; exact a, b, c⟩
  · obtain ⟨q1, z1⟩ := own j e q1
    obtain ⟨q2, z2⟩ := own k f q2
    rw [List.getElem?_set_ne z1] at q3
    rw [List.getElem?_set_ne z2] at q4
    exact st.dis j k e f p q1 q2 q3 q4
  · obtain ⟨q1, z1⟩ := own j e q1
    rw [List.getElem?_set_ne z1] at q2
    exact .inl ⟨j, e, q1, q2⟩
  · by_cases z : i = j
    · subst z; rw [hm] at q; cases q
    · exact ⟨by rw [markB_ne z]; exact q, List.getElem?_set_ne z⟩
/-- a name holds a new list of one's own -/
theorem set_own {i : Nat} {d : D} {p : Addr} {S0 : Hp} {ρ0 : Env} {H0 : Hp} (e : Stp C σ S0 ρ0 H0 S ρ H) (hi : i < ρ.length) (hm : markB ρ i = false) (h2 : S p = none) (h3 : OwnAt C.K S H p d) (h4 : ¬ OwnA ρ σ p) (h5 : OwnA ρ0 σ p ∨ H0 p = none) :
    StpS C S0 ρ0 σ H0 S (ρ.set i (.own d)) (σ.set i (some (V.ref p))) H := by
  have st := e.st
  have hσ : i < σ.length := by rw [st.len]; exact hi
  have own : ∀ j g, ownD (ρ.set i (.own d)) j = some g → (i = j ∧ g = d) ∨ (ownD ρ j = some g ∧ i ≠ j) := fun j g q => by
    by_cases z : i = j
    · subst z; rw [ownD_at hi] at q; cases q; exact .inl ⟨rfl, rfl⟩
    · rw [ownD_ne z] at q; exact .inr ⟨q, z⟩
  refine ⟨e.ext, ⟨st.same, by simp [st.len], fun j e q => ?_, fun j e q => ?_, fun j k e f q q1 q2 q3 q4 => ?_⟩, fun q ⟨j, f, q1, q2⟩ => ?_, fun j q => ?_⟩
  · by_cases z : i = j
    · subst z
      rw [valD_at hi] at q; cases q
    · rw [valD_ne z] at q
      obtain ⟨w, a, b⟩ := st.val j e q
      exact ⟨w, by rw [List.getElem?_set_ne z]; exact a, b⟩
  · rcases own j e q with ⟨rfl, rfl⟩ | ⟨q, z⟩
    · exact ⟨p, by rw [List.getElem?_set_self hσ], h2, h3⟩
    · obtain ⟨p, a, b, c⟩ := st.own j e q
      exact ⟨p, by rw [List.getElem?_set_ne z]; exact a, b, c⟩
  · rcases own j e q1 with ⟨rfl, rfl⟩ | ⟨q1, z1⟩
    · rcases own k f q2 with ⟨rfl, rfl⟩ | ⟨q2, z2⟩
      · rfl
      · rw [List.getElem?_set_self hσ] at q3
        cases q3
        rw [List.getElem?_set_ne z2] at q4
        exact absurd ⟨k, _, q2, q4⟩ h4
    · rw [List.getElem?_set_ne z1] at q3
      have w1 := q1
      rcases own k f q2 with ⟨rfl, rfl⟩ | ⟨q2, z2⟩
      · rw [List.getElem?_set_self hσ] at q4
        cases q4
        exact absurd ⟨j, _, w1, q3⟩ h4
      · rw [List.getElem?_set_ne z2] at q4
        exact st.dis j k e f q q1 q2 q3 q4
  · rcases own j f q1 with ⟨rfl, rfl⟩ | ⟨q1, z1⟩
    · rw [List.getElem?_set_self hσ] at q2
      cases q2
      exact h5
    · rw [List.getElem?_set_ne z1] at q2
      exact .inl (e.subA q ⟨j, _, q1, q2⟩)
  · have q' := e.mrk j q
    by_cases z : i = j
    · subst z; rw [hm] at q'; cases q'
    · exact ⟨by rw [markB_ne z]; exact q', List.getElem?_set_ne z⟩
def asgS (i : Nat) (m : M RV) : MS := m >>= fun rv => match rv with
  | .val d => setM i (.val d)
  | .own d => setM i (.own d)
  | .bor j => frz (.bor j) >>= fun d => setM i (.val d)
theorem GoodS.setv {i : Nat} {d : D} {v : V} {D' : Ends} (st : StRel C S ρ σ H) (r : Rep C.K S v d) (g : GoodS C W S ρ σ H (setM i (.val d) ρ) D') : D'.nx (σ.set i (some v)) H := by
  cases q : setM i (.val d) ρ with
  | stuck => rw [q] at g; exact g.elim
  | exc x ρ' => exact (setM_nox q).elim
  | ok f ρ' =>
    obtain ⟨rfl, rfl, hi, hm⟩ := setM_ok q
    rw [q] at g
    have g : ∀ S' H' σ', StpS C S ρ σ H S' (ρ.set i (.val d)) σ' H' → D'.nx σ' H' := g
    exact g S H _ (set_val st hi hm r)
theorem GoodS.frz {o : Opd} {v : V} {f : D → MS} {D' : Ends} (st : StRel C S ρ σ H) (r : Op C σ S o v) (g : GoodS C W S ρ σ H ((VL.frz o >>= f) ρ) D') :
    ∃ S' ρ' d, Stp C σ S ρ H S' ρ' H ∧ Rep C.K S' v d ∧ GoodS C W S' ρ' σ H (f d ρ') D' := by
  cases o with
  | val d => exact ⟨S, ρ, d, Stp.refl st, r, g⟩
  | bor i =>
    have g : GoodS C W S ρ σ H ((match frzSlot i ρ with | some (d, ρ') => Res.ok d ρ' | none => .stuck).bnd f) D' := g
    cases q : frzSlot i ρ with
    | none => rw [q] at g; exact g.elim
    | some dr =>
      obtain ⟨d, ρ'⟩ := dr
      rw [q] at g
      obtain ⟨p, S', h1, h2, h3⟩ := frz_step st q
      have z := h1.symm.trans r
      cases z
      exact ⟨S', ρ', d, h2, h3, GoodS.from h2.toS g⟩
theorem tS_asg {i : Nat} {m : M RV} {D' : Ends} (h : tS C W (asgS i m) D' σ H) : tE C W m σ H fun x H1 => D'.nx (σ.set i (some x)) H1 := by
  obtain ⟨S, ρ, st, g⟩ := h
  refine ⟨S, ρ, st, GoodS.bnd0 g fun rv ρ1 S1 H1 v _ e1 r1 g0 => ?_⟩
  cases rv with
  | val d => exact GoodS.setv e1.st r1 (GoodS.from e1.toS g0)
  | own d =>
    obtain ⟨p, rfl, h2, h3, h4, h5⟩ := r1
    have g0 : GoodS C W S ρ σ H (setM i (.own d) ρ1) D' := g0
    cases q : setM i (.own d) ρ1 with
    | stuck => rw [q] at g0; exact g0.elim
    | exc x ρ' => exact (setM_nox q).elim
    | ok f ρ' =>
      obtain ⟨rfl, rfl, hi, hm⟩ := setM_ok q
      rw [q] at g0
      have g0 : ∀ S' H' σ', StpS C S ρ σ H S' (ρ1.set i (.own d)) σ' H' → D'.nx σ' H' := g0
      exact g0 S1 H1 _ (set_own e1 hi hm h2 h3 h4 h5)
  | bor j =>
    obtain ⟨S2, ρ2, d, e2, r2, g2⟩ := GoodS.frz (o := .bor j) e1.st r1.1 (GoodS.from e1.toS g0)
    exact GoodS.setv e2.st r2 g2
end

section
variable {X : Cx} {C : Cfg} {W : WX} {cf : CF} {T : List (Str × Nat)} {e a b c o : Expr} {es : List Expr} {ma mb mc : M RV} {ms : List (M RV)} {pos p py : Pos} {x y : Str} {st : Stmt} {sts : List Stmt} {m n : MS} {i j : Nat}
theorem vs_set (vx : Vx X C W cf T) (hi : X.N[i]? = some x) (hx : Loc X.env.scope x) (he : VE X C W e ma) (hs : swapsWith e (some (.Name x p)) pos.line X.env = pure false := by rfl) (hf : X.fn x = true ∨ X.env.scope.names.lookup x = some .local := by first | exact .inl rfl | exact .inr rfl | assumption) :
    VS X C W (.Assign [.Name x p] e pos) (asgS i ma) := ⟨PS.imp (ps_set vx.nd hi hx he.pe hs hf) fun D σ H h => tS_asg h⟩
/-- name op= e -/
def augS (i : Nat) (f : D → D → Option RV) (m : M RV) : MS := asgS i (binM f (varM i) m)
theorem vs_aug {op : Operator} {r : TIp} {f : D → D → Option RV} (vx : Vx X C W cf T) (hi : X.N[i]? = some x) (hx : Loc X.env.scope x) (ho : PIp X op r) (pr : Prim2 C r f) (he : VE X C W e ma) (hf : X.fn x = true ∨ X.env.scope.names.lookup x = some .local := by first | exact .inl rfl | exact .inr rfl | assumption) :
    VS X C W (.AugAssign (.Name x p) op e pos) (augS i f ma) := by
  refine ⟨PS.imp (ps_aug vx.nd hi hx he.pe ho hf) fun D σ H h => ?_⟩
  have h2 := tE_bin pr (tS_asg h)
  -- the name's value first
  obtain ⟨S, ρ, st, g⟩ := h2
  have g : Good C W σ S ρ H (varM i ρ) (RVr C σ) fun x H1 => tE C W ma σ H1 fun y H2 => r x y H2 fun x H1 => D.nx (σ.set i (some x)) H1 := g
  unfold varM at g
  cases q : valD ρ i with
  | some d =>
    simp only [q] at g
    obtain ⟨v, h1, h2⟩ := st.val i d q
    exact ⟨v, h1, g S H v (Stp.refl st) h2⟩
  | none =>
    simp only [q] at g
    cases q2 : ownD ρ i with
    | none => simp only [q2] at g; exact g.elim
    | some d =>
      simp only [q2] at g
      obtain ⟨p, h1, h2, h3⟩ := st.own i d q2
      exact ⟨_, h1, g S H _ (Stp.refl st) ⟨h1, d, q2⟩⟩

/-! ### operands that are handed into containers -/
def frzs : List Opd → M (List D)
  | [] => pure []
  | o :: os => frz o >>= fun d => frzs os >>= fun ds => pure (d :: ds)
theorem Good.frz1 {α β : Type} {σ : St} {S : Hp} {ρ : Env} {H : Hp} {o : Opd} {v : V} {f : D → M α} {R : Rl α β} {Q : β → Hp → Prop} (hR : Back C σ R) (st : StRel C S ρ σ H) (r : Op C σ S o v) (g : Good C W σ S ρ H ((VL.frz o >>= f) ρ) R Q) :
    ∃ S' ρ' d, Stp C σ S ρ H S' ρ' H ∧ Rep C.K S' v d ∧ Good C W σ S' ρ' H (f d ρ') R Q := by
  cases o with
  | val d => exact ⟨S, ρ, d, Stp.refl st, r, g⟩
  | bor i =>
    have g : Good C W σ S ρ H ((match frzSlot i ρ with | some (d, ρ') => Res.ok d ρ' | none => .stuck).bnd f) R Q := g
    cases q : frzSlot i ρ with
    | none => rw [q] at g; exact g.elim
    | some dr =>
      obtain ⟨d, ρ'⟩ := dr
      rw [q] at g
      obtain ⟨p, S', h1, h2, h3⟩ := frz_step st q
      have z := h1.symm.trans r
      cases z
      exact ⟨S', ρ', d, h2, h3, Good.from hR h2 g⟩
theorem Good.frzs {α β : Type} {σ : St} {S : Hp} {ρ : Env} {H : Hp} {os : List Opd} {vs : List V} {f : List D → M α} {R : Rl α β} {Q : β → Hp → Prop} (hR : Back C σ R) (st : StRel C S ρ σ H) (r : Oprs C σ S os vs) (g : Good C W σ S ρ H ((VL.frzs os >>= f) ρ) R Q) :
    ∃ S' ρ' ds, Stp C σ S ρ H S' ρ' H ∧ Reps C.K S' vs ds ∧ Good C W σ S' ρ' H (f ds ρ') R Q := by
  induction os generalizing vs S ρ f with
  | nil => cases r; exact ⟨S, ρ, [], Stp.refl st, .nil, g⟩
  | cons o os ih =>
    cases r with
    | cons h r =>
      have g : Good C W σ S ρ H (((VL.frz o >>= fun d => VL.frzs os >>= fun ds => pure (d :: ds)) >>= f) ρ) R Q := g
      rw [bnd_assoc] at g
      obtain ⟨S1, ρ1, d, e1, r1, g1⟩ := Good.frz1 hR st h g
      rw [bnd_assoc] at g1
      obtain ⟨S2, ρ2, ds, e2, r2, g2⟩ := ih e1.st (r.fwd e1.ext.sS) g1
      exact ⟨S2, ρ2, d :: ds, e1.trans e2, .cons (r1.mono e2.ext.sS) r2, g2⟩
def tupM (ms : List (M RV)) : M RV := argsM ms >>= fun os => frzs os >>= fun ds => pure (.val (.tup ds))
def lstM (ms : List (M RV)) : M RV := argsM ms >>= fun os => frzs os >>= fun ds => pure (.own (.lst ds))
theorem Good.pureP {σ : St} {S : Hp} {ρ : Env} {H : Hp} {rv : RV} {Q : VK} (st : StRel C S ρ σ H) (nb : ∀ i, rv ≠ .bor i) (g : Good C W σ S ρ H ((pure rv : M RV) ρ) (RVr C σ) Q) : OutP C S H rv Q := by
  obtain ⟨rv', e, h⟩ := Good.out (o := some rv) st g
  cases e
  exact h nb
theorem ve_tup {k : Nat} (ha : VA X C W es ms) (hl : ms.length ≤ 1000 := by decide) : VE X C W (.Tuple es k pos) (tupM ms) := by
  refine ⟨PE.imp (pe_tup ha.pa) fun σ H Q h => ?_⟩
  obtain ⟨S, ρ, st, g⟩ := h
  refine ⟨S, ρ, st, Good.bnd RVr.back g fun os ρ1 S1 H1 vs e0 e1 r1 g1 => ?_⟩
  obtain ⟨S2, ρ2, ds, e2, r2, g2⟩ := Good.frzs RVr.back e1.st r1 g1
  have hn : vs.length ≤ sizeLine := by
    have h1 := argsM_len e0
    have h2 := r1.len
    have h3 : (1000 : Nat) ≤ sizeLine := by decide
    omega
  exact ⟨hn, fun p np => (Good.pureP e2.st (fun _ z => by cases z) g2).tup e2.st.same r2 np⟩
theorem ve_lst (ha : VA X C W es ms) (hl : ms.length ≤ 1000 := by decide) : VE X C W (.List es pos) (lstM ms) := by
  refine ⟨PE.imp (pe_lst ha.pa) fun σ H Q h => ?_⟩
  obtain ⟨S, ρ, st, g⟩ := h
  refine ⟨S, ρ, st, Good.bnd RVr.back g fun os ρ1 S1 H1 vs e0 e1 r1 g1 => ?_⟩
  obtain ⟨S2, ρ2, ds, e2, r2, g2⟩ := Good.frzs RVr.back e1.st r1 g1
  have hn : vs.length ≤ sizeLine := by
    have h1 := argsM_len e0
    have h2 := r1.len
    have h3 : (1000 : Nat) ≤ sizeLine := by decide
    omega
  exact ⟨hn, fun p np => (Good.pureP e2.st (fun _ z => by cases z) g2).lst r2 np⟩

/-! ### a list of one's own is changed -/
def updSlot (i : Nat) (f : D → Option D) : M Unit := fun ρ => match ρ[i]? with
  | some (.own d) => (match f d with | some d' => .ok () (ρ.set i (.own d')) | none => .stuck)
  | some (.bow d) => (match f d with | some d' => .ok () (ρ.set i (.bow d')) | none => .stuck)
  | _ => .stuck
theorem updSlot_ok {i : Nat} {f : D → Option D} {ρ ρ' : Env} {u : Unit} (h : updSlot i f ρ = .ok u ρ') : ∃ d d' s, ownD ρ i = some d ∧ f d = some d' ∧ ρ' = ρ.set i s ∧ (s = .own d' ∨ s = .bow d') ∧ (markB ρ i = true → s = .bow d') := by
  unfold updSlot at h
  cases q : ρ[i]? with
  | none => rw [q] at h; cases h
  | some t =>
    rw [q] at h
    cases t with
    | own d =>
      cases q2 : f d with
      | none => simp only [q2] at h; cases h
      | some d' => simp only [q2] at h; cases h; exact ⟨d, d', _, by unfold ownD; rw [q], q2, rfl, .inl rfl, fun z => by unfold markB at z; rw [q] at z; cases z⟩
    | bow d =>
      cases q2 : f d with
      | none => simp only [q2] at h; cases h
      | some d' => simp only [q2] at h; cases h; exact ⟨d, d', _, by unfold ownD; rw [q], q2, rfl, .inr rfl, fun _ => rfl⟩
    | _ => cases h
theorem updSlot_nox {i : Nat} {f : D → Option D} {ρ ρ' : Env} {x : D} (h : updSlot i f ρ = .exc x ρ') : False := by
  unfold updSlot at h
  cases q : ρ[i]? with
  | none => rw [q] at h; cases h
  | some t =>
    rw [q] at h
    cases t with
    | own d => cases q2 : f d <;> (simp only [q2] at h; cases h)
    | bow d => cases q2 : f d <;> (simp only [q2] at h; cases h)
    | _ => cases h
theorem upd_stp {σ : St} {S : Hp} {ρ : Env} {H : Hp} {d d' : D} {s : Slot} {q : Addr} {ob : HO} (st : StRel C S ρ σ H) (ho : ownD ρ i = some d) (hs : s = .own d' ∨ s = .bow d') (hm : markB ρ i = true → s = .bow d') (hq : σ[i]? = some (some (V.ref q))) (h : OwnAt C.K S (upd H q ob) q d') :
    Stp C σ S ρ H S (ρ.set i s) (upd H q ob) := by
  have hi := lt_own ho
  obtain ⟨p, h1, h2, h3⟩ := st.own i d ho
  have z : p = q := by have z := h1.symm.trans hq; cases z; rfl
  subst z
  have own : ∀ j e, ownD (ρ.set i s) j = some e → (i = j ∧ e = d') ∨ (ownD ρ j = some e ∧ i ≠ j) := fun j e q => by
    by_cases z : i = j
    · subst z; rw [ownD_at hi] at q
      rcases hs with rfl | rfl <;> (cases q; exact .inl ⟨rfl, rfl⟩)
    · rw [ownD_ne z] at q; exact .inr ⟨q, z⟩
  refine ⟨⟨Same.refl _, fun b u nb hb => ?_, fun b hb hb' => absurd hb hb'⟩, ⟨fun b u hb => ?_, by simp [st.len], fun j e q => ?_, fun j e q => ?_, fun j k e f q q1 q2 q3 q4 => ?_⟩, fun j e q => ?_, fun j q => ?_⟩
  · rw [upd_ne (fun z => nb ⟨i, d, ho, by rw [z]; exact h1⟩)]; exact hb
  · rw [upd_ne (ne_of_none hb h2)]; exact st.same b u hb
  · by_cases z : i = j
    · subst z; rw [valD_at hi] at q
      rcases hs with rfl | rfl <;> cases q
    · rw [valD_ne z] at q; exact st.val j e q
  · rcases own j e q with ⟨rfl, rfl⟩ | ⟨q, z⟩
    · exact ⟨_, h1, h2, h⟩
    · obtain ⟨p', a, b, c⟩ := st.own j e q
      have hp : p' ≠ p := fun y => z (st.dis i j d e p ho q h1 (by rw [← y]; exact a))
      exact ⟨p', a, b, c.mono (Same.refl _) fun u hu => by rw [upd_ne hp]; exact hu⟩
  · have o1 : ∃ e, ownD ρ j = some e := by
      rcases own j e q1 with ⟨rfl, _⟩ | ⟨q1, _⟩
      · exact ⟨d, ho⟩
      · exact ⟨e, q1⟩
    have o2 : ∃ e, ownD ρ k = some e := by
      rcases own k f q2 with ⟨rfl, _⟩ | ⟨q2, _⟩
      · exact ⟨d, ho⟩
      · exact ⟨f, q2⟩
    obtain ⟨e', o1⟩ := o1
    obtain ⟨f', o2⟩ := o2
    exact st.dis j k e' f' q o1 o2 q3 q4
  · rcases own j e q with ⟨rfl, _⟩ | ⟨q, _⟩
    · exact ⟨d, ho⟩
    · exact ⟨e, q⟩
  · by_cases z : i = j
    · subst z; rw [hm q, markB_at hi]
    · rw [markB_ne z]; exact q
/-- behind an update of slot i -/
theorem Good.upd {α β : Type} {σ : St} {S : Hp} {ρ : Env} {H : Hp} {f : D → Option D} {k : Unit → M α} {R : Rl α β} {Q : β → Hp → Prop} (hR : Back C σ R) (st : StRel C S ρ σ H) (g : Good C W σ S ρ H ((updSlot i f >>= k) ρ) R Q) :
    ∃ q d d', σ[i]? = some (some (V.ref q)) ∧ S q = none ∧ OwnAt C.K S H q d ∧ f d = some d' ∧ ∀ ob, OwnAt C.K S (upd H q ob) q d' → ∃ ρ', Stp C σ S ρ H S ρ' (upd H q ob) ∧ Good C W σ S ρ' (upd H q ob) (k () ρ') R Q := by
  rw [bnd_ap] at g
  cases e : updSlot i f ρ with
  | stuck => rw [e] at g; exact g.elim
  | exc x ρ' => exact (updSlot_nox e).elim
  | ok u ρ' =>
    rw [e] at g
    obtain ⟨d, d', s, h1, h2, rfl, h3, h4⟩ := updSlot_ok e
    obtain ⟨q, a, b, c⟩ := st.own i d h1
    refine ⟨q, d, d', a, b, c, h2, fun ob h => ?_⟩
    have st' := upd_stp st h1 h3 h4 a h
    exact ⟨_, st', Good.from hR st' g⟩
theorem GoodS.upd {σ : St} {S : Hp} {ρ : Env} {H : Hp} {f : D → Option D} {k : Unit → MS} {D' : Ends} (st : StRel C S ρ σ H) (g : GoodS C W S ρ σ H ((updSlot i f >>= k) ρ) D') :
    ∃ q d d', σ[i]? = some (some (V.ref q)) ∧ S q = none ∧ OwnAt C.K S H q d ∧ f d = some d' ∧ ∀ ob, OwnAt C.K S (L2.upd H q ob) q d' → ∃ ρ', Stp C σ S ρ H S ρ' (L2.upd H q ob) ∧ GoodS C W S ρ' σ (L2.upd H q ob) (k () ρ') D' := by
  rw [bnd_ap] at g
  cases e : updSlot i f ρ with
  | stuck => rw [e] at g; exact g.elim
  | exc x ρ' => exact (updSlot_nox e).elim
  | ok u ρ' =>
    rw [e] at g
    obtain ⟨d, d', s, h1, h2, rfl, h3, h4⟩ := updSlot_ok e
    obtain ⟨q, a, b, c⟩ := st.own i d h1
    refine ⟨q, d, d', a, b, c, h2, fun ob h => ?_⟩
    have st' := upd_stp st h1 h3 h4 a h
    exact ⟨_, st', GoodS.from st'.toS g⟩
/-- slot i holds a list of one's own, now and ahead -/
def hasOwn (i : Nat) : M Unit := fun ρ => match ownD ρ i with | some (.lst _) => .ok () ρ | _ => .stuck
theorem hasOwn_ok {σ : St} {S : Hp} {ρ ρ' : Env} {H : Hp} {u : Unit} (st : StRel C S ρ σ H) (h : hasOwn i ρ = .ok u ρ') : ρ' = ρ ∧ ∃ q xs, σ[i]? = some (some (V.ref q)) ∧ H q = some (.lst xs) := by
  unfold hasOwn at h
  cases e : ownD ρ i with
  | none => rw [e] at h; cases h
  | some d =>
    rw [e] at h
    cases d with
    | lst ds =>
      cases h
      obtain ⟨q, a, b, xs, c, d⟩ := st.own i _ e
      exact ⟨rfl, q, xs, a, c⟩
    | _ => cases h
theorem Good.hasOwn {α β : Type} {σ : St} {S : Hp} {ρ : Env} {H : Hp} {k : Unit → M α} {R : Rl α β} {Q : β → Hp → Prop} (st : StRel C S ρ σ H) (g : Good C W σ S ρ H ((VL.hasOwn i >>= k) ρ) R Q) :
    ∃ q xs, σ[i]? = some (some (V.ref q)) ∧ H q = some (.lst xs) ∧ Good C W σ S ρ H (k () ρ) R Q := by
  rw [bnd_ap] at g
  cases e : VL.hasOwn i ρ with
  | stuck => rw [e] at g; exact g.elim
  | exc x ρ' =>
    unfold VL.hasOwn at e
    split at e <;> cases e
  | ok u ρ' =>
    rw [e] at g
    obtain ⟨rfl, q, xs, a, b⟩ := hasOwn_ok st e
    exact ⟨q, xs, a, b, g⟩
def pushD (d : D) : D → Option D
  | .lst ds => if ds.length < LIM then some (.lst (ds ++ [d])) else none
  | _ => none
def extD (e : List D) : D → Option D
  | .lst ds => if ds.length + e.length ≤ LIM then some (.lst (ds ++ e)) else none
  | _ => none
def lstOf : D → Option (List D)
  | .lst ds => some ds
  | _ => none
def appM (i : Nat) (m : M RV) : M RV := hasOwn i >>= fun _ => fzM m >>= fun d => updSlot i (pushD d) >>= fun _ => pure (.val .non)
def extM (i : Nat) (m : M RV) : M RV := hasOwn i >>= fun _ => opd m >>= fun o => look o >>= fun d => M.lift (lstOf d) >>= fun e => updSlot i (extD e) >>= fun _ => pure (.val .non)
theorem tE_pos {σ : St} {H : Hp} {Q : VK} {q : Addr} (h1 : σ[i]? = some (some (V.ref q))) (h : Q (.ref q) H) : tVar i σ H Q := ⟨_, h1, h⟩
theorem Good.fzB {α β : Type} {σ : St} {S : Hp} {ρ : Env} {H : Hp} {m : M RV} {f : D → M α} {R : Rl α β} {Q' : β → Hp → Prop} {Q : V → Hp → Prop} (hR : Back C σ R) (g : Good C W σ S ρ H ((fzM m >>= f) ρ) R Q')
    (k : ∀ d ρ1 S1 H1 v, Stp C σ S ρ H S1 ρ1 H1 → Rep C.K S1 v d → Good C W σ S1 ρ1 H1 (f d ρ1) R Q' → Q v H1) : Good C W σ S ρ H (m ρ) (RVr C σ) Q :=
  Good.fz (Good.bnd (R := Fzr C) hR g fun d ρ1 S1 H1 v _ e r g => k d ρ1 S1 H1 v e r g)
theorem ve_app (hN : X.N[i]? = some x) (he : VE X C W e ma) {ap : Pos} (hv : Vis X.env.scope x := by first | exact Or.inl rfl | exact Or.inr (Or.inl rfl) | exact Or.inr (Or.inr rfl)) (hd : (x == ("__debug__" : Str)) = false := by decide) (hcd : (x == ("__classdict__" : Str)) = false := by decide)
    (h1 : starEach [e] X.env = (false, eval e X.env) :: starEach [] X.env := by rfl)
    (hfew : ((backTo pos (starEach (e :: []) X.env)).all (fun x => !x.1) && (backToKw pos (keywordEach [] X.env)).all (fun x => x.1.isSome) && decide ((e :: []).length + ([] : List Keyword).length + (if ([] : List Keyword).isEmpty then 0 else 1) < 30)) = true := by rfl)
    (hline : (ap.endLine == pos.line) = true := by rfl) (hplain : (backTo pos (starEach [] X.env)).any (·.1) = false := by rfl) : VE X C W (.Call (.Attribute (.Name x p) "append" ap) [e] [] pos) (appM i ma) := by
  refine ⟨PE.imp (pe_bm PySem.F.plainAttrs_list PySem.F.slot_list_append PySem.F.type_list_append mt_append (pe_var hN hv hd hcd) (pa_cons he.pe pa_nil h1) rfl hfew hline h1 hplain) fun σ H Q h => ?_⟩
  obtain ⟨S, ρ, st, g⟩ := h
  obtain ⟨q, xs, hq, hH, g⟩ := Good.hasOwn st g
  refine tE_pos hq ⟨.inl ⟨rfl, xs, SqL.of hH⟩, S, ρ, st, Good.fzB RVr.back g fun d ρ1 S1 H1 v e1 r1 g1 => ?_⟩
  obtain ⟨q', d0, d', hq', nS, own, hf, up⟩ := Good.upd RVr.back e1.st g1
  have z := hq.symm.trans hq'
  cases z
  cases d0 with
  | lst ds =>
    obtain ⟨ys, hy, ry⟩ := own
    have hf : (if ds.length < LIM then some (D.lst (ds ++ [d])) else none) = some d' := hf
    split at hf
    · rename_i hl
      cases hf
      refine ⟨q, ys, v, rfl, rfl, hy, by rw [ry.len, ← LIM_eq]; exact hl, ?_⟩
      obtain ⟨ρ', e2, g2⟩ := up (.lst (ys ++ [v])) ⟨_, upd_same, ry.app (.cons r1 .nil)⟩
      exact Good.pureV e2.st .non g2
    · cases hf
  | _ => exact own.elim
theorem ve_ext (hN : X.N[i]? = some x) (he : VE X C W e ma) {ap : Pos} (hv : Vis X.env.scope x := by first | exact Or.inl rfl | exact Or.inr (Or.inl rfl) | exact Or.inr (Or.inr rfl)) (hd : (x == ("__debug__" : Str)) = false := by decide) (hcd : (x == ("__classdict__" : Str)) = false := by decide)
    (h1 : starEach [e] X.env = (false, eval e X.env) :: starEach [] X.env := by rfl)
    (hfew : ((backTo pos (starEach (e :: []) X.env)).all (fun x => !x.1) && (backToKw pos (keywordEach [] X.env)).all (fun x => x.1.isSome) && decide ((e :: []).length + ([] : List Keyword).length + (if ([] : List Keyword).isEmpty then 0 else 1) < 30)) = true := by rfl)
    (hline : (ap.endLine == pos.line) = true := by rfl) (hplain : (backTo pos (starEach [] X.env)).any (·.1) = false := by rfl) : VE X C W (.Call (.Attribute (.Name x p) "extend" ap) [e] [] pos) (extM i ma) := by
  refine ⟨PE.imp (pe_bm PySem.F.plainAttrs_list PySem.F.slot_list_extend PySem.F.type_list_extend mt_extend (pe_var hN hv hd hcd) (pa_cons he.pe pa_nil h1) rfl hfew hline h1 hplain) fun σ H Q h => ?_⟩
  obtain ⟨S, ρ, st, g⟩ := h
  obtain ⟨q, xs, hq, hH, g⟩ := Good.hasOwn st g
  refine tE_pos hq ⟨.inl ⟨rfl, xs, SqL.of hH⟩, S, ρ, st, Good.opd (Good.bnd RVr.back g fun o ρ1 S1 H1 v _ e1 r1 g1 => ?_)⟩
  obtain ⟨d, hr, g2⟩ := Good.look e1.st r1 g1
  rw [bnd_ap] at g2
  cases el : lstOf d with
  | none => rw [el] at g2; exact g2.elim
  | some es' =>
    rw [el] at g2
    cases d with
    | lst es2 =>
      cases el
      obtain ⟨b, zs, rfl, hb, rz⟩ := hr
      obtain ⟨q', d0, d', hq', nS, own, hf, up⟩ := Good.upd RVr.back e1.st g2
      have z := hq.symm.trans hq'
      cases z
      cases d0 with
      | lst ds =>
        obtain ⟨ys, hy, ry⟩ := own
        have hf : (if ds.length + es'.length ≤ LIM then some (D.lst (ds ++ es')) else none) = some d' := hf
        split at hf
        · rename_i hl
          cases hf
          refine ⟨q, b, ys, zs, rfl, rfl, hy, hb, by rw [ry.len, rz.len, ← LIM_eq]; exact hl, ?_⟩
          obtain ⟨ρ', e2, g2⟩ := up (.lst (ys ++ zs)) ⟨_, upd_same, ry.app rz⟩
          exact Good.pureV e2.st .non g2
        · cases hf
      | _ => exact own.elim
    | _ => cases el
end
end VL

/-! VL part g: targets, loops, comprehensions, a def by its body. -/
namespace VL
open PySem L2

def eNx (Q : St → Hp → Prop) : Ends := { nx := Q, rt := fun _ _ => False, bk := fun _ _ => False, ct := fun _ _ => False }
def tG (C : Cfg) (W : WX) (g : D → MS) : TG := fun v σ H Q => ∃ S ρ d, StRel C S ρ σ H ∧ Rep C.K S v d ∧ GoodS C W S ρ σ H (g d ρ) (eNx Q)
def tGs (C : Cfg) (W : WX) (g : List D → MS) : TGs := fun vs σ H Q => ∃ S ρ ds, StRel C S ρ σ H ∧ Reps C.K S vs ds ∧ GoodS C W S ρ σ H (g ds ρ) (eNx Q)
structure VG (X : Cx) (C : Cfg) (W : WX) (e : Expr) (g : D → MS) : Prop where pg : PG X e (tG C W g)
def seqG : List (D → MS) → List D → MS
  | [], [] => pure .nx
  | g :: gs, d :: ds => seqS (g d) (seqG gs ds)
  | _, _ => M.stuck
structure VGs (X : Cx) (C : Cfg) (W : WX) (es : List Expr) (g : List (D → MS)) : Prop where
  pgs : PGs X es (tGs C W (seqG g))
def nameG (i : Nat) : D → MS := fun d => setM i (.val d)
def tupG (gs : List (D → MS)) : D → MS := fun d => match d with
  | .tup ds => if ds.length = gs.length then seqG gs ds else M.stuck
  | _ => M.stuck
def setD (d : D) : D → D → Option D
  | .int k, .lst ds => (ixN ds.length k).map fun j => .lst (ds.set j d)
  | _, _ => none
def ixG (i : Nat) (mi : M RV) : D → MS := fun d => hasOwn i >>= fun _ => opd mi >>= fun o => look o >>= fun k => updSlot i (setD d k) >>= fun _ => pure .nx
section
variable {X : Cx} {C : Cfg} {W : WX} {cf : CF} {T : List (Str × Nat)} {e a b c o : Expr} {es : List Expr} {ma mb mc : M RV} {ms : List (M RV)} {pos p py : Pos} {x y : Str} {st : Stmt} {sts : List Stmt} {m n : MS} {i j : Nat}
theorem PG.imp {t t' : TG} (h : PG X e t) (k : ∀ v σ H Q, t' v σ H Q → t v σ H Q) : PG X e t' := ⟨fun pins s σ H v u Q I r q => h.run pins s σ H v u Q I r (k v σ H Q q)⟩
theorem PGs.imp {t t' : TGs} (h : PGs X es t) (k : ∀ v σ H Q, t' v σ H Q → t v σ H Q) : PGs X es t' := ⟨fun pins s σ H v u Q I r q => h.run pins s σ H v u Q I r (k v σ H Q q)⟩
theorem vg_name (vx : Vx X C W cf T) (i : Nat) (hi : X.N[i]? = some x := by rfl) (hx : Loc X.env.scope x := by first | exact Or.inl rfl | exact Or.inr rfl) (hf : X.fn x = true ∨ X.env.scope.names.lookup x = some .local := by first | exact .inl rfl | exact .inr rfl | assumption) : VG X C W (.Name x p) (nameG i) := by
  refine ⟨PG.imp (pg_name vx.nd hi hx hf) fun v σ H Q h => ?_⟩
  obtain ⟨S, ρ, d, st, r, g⟩ := h
  exact GoodS.setv st r g
theorem vgs_nil : VGs X C W [] [] := ⟨PGs.imp pgs_nil fun vs σ H Q h => by
  obtain ⟨S, ρ, ds, st, r, g⟩ := h
  cases r with
  | nil =>
    have g : ∀ S' H' σ', StpS C S ρ σ H S' ρ σ' H' → Q σ' H' := g
    exact ⟨rfl, g S H σ (StpS.refl st)⟩
  | cons _ _ => exact g.elim⟩
theorem vgs_cons {g : D → MS} {gs : List (D → MS)} (h1 : VG X C W e g) (h2 : VGs X C W es gs) (hs : (assignEach (e :: es) X.env).map (·.2) = assign e X.env :: (assignEach es X.env).map (·.2) := by rfl) : VGs X C W (e :: es) (g :: gs) := ⟨PGs.imp (pgs_cons h1.pg h2.pgs hs) fun vs σ H Q h => by
  obtain ⟨S, ρ, ds, st, r, gd⟩ := h
  cases r with
  | nil => exact gd.elim
  | cons r0 r =>
    rename_i v vs d ds
    have gd : GoodS C W S ρ σ H (seqS (g d) (seqG gs ds) ρ) (eNx Q) := gd
    refine ⟨v, vs, rfl, S, ρ, d, st, r0, ?_⟩
    have g2 := GoodS.seq gd
    cases q : g d ρ with
    | stuck => rw [q] at g2; exact g2
    | exc x ρ' => rw [q] at g2; exact g2
    | ok f ρ' =>
      rw [q] at g2
      cases f with
      | brk => exact g2
      | cont => exact g2
      | ret rv => exact g2
      | nx =>
        intro S' H' σ' e'
        have gd : GoodS C W S ρ σ H (((g d ρ).bnd fun f => match f with
          | .nx => seqG gs ds
          | f => pure f)) (eNx Q) := gd
        rw [q] at gd
        exact ⟨S', ρ', ds, e'.st, r.mono e'.ext.sS, GoodS.from e' gd⟩⟩
theorem vg_tup (vx : Vx X C W cf T) {gs : List (D → MS)} {k : Nat} (h : VGs X C W es gs) (hl : gs.length = es.length := by rfl) (hn : (assignEach es X.env).length = es.length := by rfl) (hst : (assignEach es X.env).findIdx? (·.1) = none := by rfl) : VG X C W (.Tuple es k p) (tupG gs) := ⟨PG.imp (pg_tup vx.calm h.pgs hn hst) fun v σ H Q h => by
  obtain ⟨S, ρ, d, st, r, g⟩ := h
  cases d with
  | tup ds =>
    cases r with
    | tup h1 h2 =>
      rename_i a xs
      have g : GoodS C W S ρ σ H ((if ds.length = gs.length then seqG gs ds else M.stuck) ρ) (eNx Q) := g
      by_cases z : ds.length = gs.length
      · rw [if_pos z] at g
        rw [vx.K]
        exact ⟨a, xs, rfl, same_t st.same h1, by rw [h2.len, z, hl], S, ρ, ds, st, h2, g⟩
      · rw [if_neg z] at g; exact g.elim
  | _ => exact g.elim⟩
theorem vg_ix (hN : X.N[i]? = some x) (he : VE X C W e ma) (hv : Vis X.env.scope x := by first | exact Or.inl rfl | exact Or.inr (Or.inl rfl) | exact Or.inr (Or.inr rfl)) (hd : (x == ("__debug__" : Str)) = false := by decide) (hcd : (x == ("__classdict__" : Str)) = false := by decide)
    (ha : ∀ v, assign (.Subscript (.Name x py) e pos) X.env v = (do
      let ov ← holding [v] (eval (.Name x py) X.env)
      let iv ← holding [v, ov] (eval e X.env)
      standAt pos
      holding [v, ov, iv] (setItem ov iv v)
      release [v, ov, iv] []) := by intro _; rfl) : VG X C W (.Subscript (.Name x py) e pos) (ixG i ma) := by
  refine ⟨PG.imp (pg_sub (pe_var hN hv hd hcd) he.pe set_list ha) fun v σ H Q h => ?_⟩
  obtain ⟨S, ρ, d, st, r, g⟩ := h
  have g : GoodS C W S ρ σ H ((hasOwn i >>= fun _ => opd ma >>= fun o => look o >>= fun k => updSlot i (setD d k) >>= fun _ => pure Fl.nx) ρ) (eNx Q) := g
  rw [bnd_ap] at g
  cases q : hasOwn i ρ with
  | stuck => rw [q] at g; exact g.elim
  | exc x ρ' =>
    unfold hasOwn at q
    split at q <;> cases q
  | ok u ρ' =>
    rw [q] at g
    obtain ⟨rfl, p1, xs, hq, hH⟩ := hasOwn_ok st q
    refine ⟨_, hq, S, ρ', st, Good.opd (GoodS.bnd g fun o ρ1 S1 H1 w _ e1 r1 g1 => ?_)⟩
    rw [bnd_ap] at g1
    cases q2 : look o ρ1 with
    | stuck => rw [q2] at g1; exact g1.elim
    | exc x ρ2 => exact (look_nox q2).elim
    | ok k ρ2 =>
      rw [q2] at g1
      obtain ⟨rfl, hk⟩ := look_now e1.st r1 q2
      obtain ⟨p2, d0, d', hq', nS, own, hf, up⟩ := GoodS.upd e1.st g1
      have z := hq.symm.trans hq'
      cases z
      cases d0 with
      | lst ds =>
        obtain ⟨ys, hy, ry⟩ := own
        cases k with
        | int k =>
          cases hk
          have hf : ((ixN ds.length k).map fun j => D.lst (ds.set j d)) = some d' := hf
          cases q3 : ixN ds.length k with
          | none => rw [q3] at hf; cases hf
          | some j =>
            rw [q3] at hf; cases hf
            refine ⟨p1, ys, k, j, rfl, rfl, hy, by rw [ry.len]; exact q3, ?_⟩
            obtain ⟨ρ', e2, g2⟩ := up (.lst (ys.set j v)) ⟨_, upd_same, ry.set j (r.mono e1.ext.sS)⟩
            have g2 : ∀ S' H' σ', StpS C S1 ρ' σ _ S' ρ' σ' H' → Q σ' H' := g2
            exact g2 _ _ _ (StpS.refl e2.st)
        | _ => cases hf
      | _ => exact own.elim
/-- target = value -/
def asgG (g : D → MS) (m : M RV) : MS := fzM m >>= g
theorem eNx_mono {S : Hp} {ρ : Env} {σ : St} {H : Hp} {r : Res Fl} {Q : St → Hp → Prop} {D' : Ends} (h : GoodS C W S ρ σ H r D') (k : ∀ f ρ', r = .ok f ρ' → f = .nx) (hq : D'.nx = Q) : GoodS C W S ρ σ H r (eNx Q) := by
  cases r with
  | stuck => exact h
  | exc x ρ' => exact h
  | ok f ρ' =>
    have := k f ρ' rfl
    subst this
    subst hq
    exact h
/-- a target gives no break, no return -/
def OnlyNx (g : D → MS) : Prop := ∀ d ρ f ρ', g d ρ = .ok f ρ' → f = .nx
theorem only_name : OnlyNx (nameG i) := fun d ρ f ρ' h => (setM_ok h).1
theorem only_seq {m n : MS} {ρ ρ' : Env} {f : Fl} (h : seqS m n ρ = .ok f ρ') (h1 : ∀ ρ f ρ', m ρ = .ok f ρ' → f = .nx) (h2 : ∀ ρ f ρ', n ρ = .ok f ρ' → f = .nx) : f = .nx := by
  have h : ((m ρ).bnd fun f => match f with
    | .nx => n
    | f => pure f) = .ok f ρ' := h
  cases q : m ρ with
  | stuck => rw [q] at h; cases h
  | exc x r => rw [q] at h; cases h
  | ok f1 r =>
    rw [q] at h
    have := h1 _ _ _ q
    subst this
    exact h2 _ _ _ h
theorem only_seqG : ∀ {gs : List (D → MS)} {ds : List D} {ρ ρ' : Env} {f : Fl}, (∀ g ∈ gs, OnlyNx g) → seqG gs ds ρ = .ok f ρ' → f = .nx
  | [], [], ρ, ρ', f, _, h => by cases h; rfl
  | [], _ :: _, _, _, _, _, h => by cases h
  | _ :: _, [], _, _, _, _, h => by cases h
  | g :: gs, d :: ds, ρ, ρ', f, hg, h => only_seq (m := g d) (n := seqG gs ds) h (fun ρ f ρ' q => hg g List.mem_cons_self d ρ f ρ' q) fun ρ f ρ' q => only_seqG (gs := gs) (ds := ds) (fun g' hg' => hg g' (List.mem_cons_of_mem _ hg')) q
theorem only_tup {gs : List (D → MS)} (hg : ∀ g ∈ gs, OnlyNx g) : OnlyNx (tupG gs) := fun d ρ f ρ' h => by
  cases d with
  | tup ds =>
    have h : (if ds.length = gs.length then seqG gs ds else M.stuck) ρ = .ok f ρ' := h
    split at h
    · exact only_seqG hg h
    · cases h
  | _ => cases h
theorem only_ix : OnlyNx (ixG i ma) := fun d ρ f ρ' h => by
  have h : ((hasOwn i ρ).bnd fun _ => opd ma >>= fun o => look o >>= fun k => updSlot i (setD d k) >>= fun _ => pure Fl.nx) = .ok f ρ' := h
  cases q : hasOwn i ρ with
  | stuck => rw [q] at h; cases h
  | exc x r => rw [q] at h; cases h
  | ok u r =>
    rw [q] at h
    have h : ((opd ma r).bnd fun o => look o >>= fun k => updSlot i (setD d k) >>= fun _ => pure Fl.nx) = .ok f ρ' := h
    cases q : opd ma r with
    | stuck => rw [q] at h; cases h
    | exc x r => rw [q] at h; cases h
    | ok o r2 =>
      rw [q] at h
      have h : ((look o r2).bnd fun k => updSlot i (setD d k) >>= fun _ => pure Fl.nx) = .ok f ρ' := h
      cases q : look o r2 with
      | stuck => rw [q] at h; cases h
      | exc x r => rw [q] at h; cases h
      | ok k r3 =>
        rw [q] at h
        have h : ((updSlot i (setD d k) r3).bnd fun _ => pure Fl.nx) = .ok f ρ' := h
        cases q : updSlot i (setD d k) r3 with
        | stuck => rw [q] at h; cases h
        | exc x r => rw [q] at h; cases h
        | ok k r3 => rw [q] at h; cases h; rfl
theorem vs_asg {g : D → MS} {tg : Expr} (he : VE X C W e ma) (hg : VG X C W tg g) (on : OnlyNx g) (hs : swapsWithSole [tg] e pos.line X.env = pure false := by rfl) (hw : swappedStores [tg] e X.env = pure none := by rfl)
    (h1 : (assignEach [tg] X.env).map (·.2) = [assign tg X.env] := by rfl) : VS X C W (.Assign [tg] e pos) (asgG g ma) := by
  refine ⟨PS.imp (ps_asg he.pe hg.pg hs hw h1) fun D' σ H h => ?_⟩
  obtain ⟨S, ρ, st, gd⟩ := h
  refine ⟨S, ρ, st, Good.fz (GoodS.bnd gd fun d ρ1 S1 H1 v _ e1 r1 g1 => ?_)⟩
  exact ⟨S1, ρ1, d, e1.st, r1, eNx_mono g1 (fun f ρ' q => on d ρ1 f ρ' q) rfl⟩
/-- a, b = x, y with plain local names -/
def stoM (i : Nat) (rv : RV) : MS := match rv with
  | .val d => setM i (.val d)
  | .own d => setM i (.own d)
  | .bor j => frz (.bor j) >>= fun d => setM i (.val d)
def parS (i j : Nat) (m n : M RV) : MS := m >>= fun ra => match ra with
  | .own da => n >>= fun rb => match rb with
    | .val db => seqS (setM i (.own da)) (setM j (.val db))
    | .own db => seqS (setM i (.own da)) (setM j (.own db))
    | .bor _ => M.stuck
  | .val da => n >>= fun rb => match rb with
    | .val db => seqS (setM i (.val da)) (setM j (.val db))
    | .own db => seqS (setM i (.val da)) (setM j (.own db))
    | .bor _ => M.stuck
  | .bor _ => M.stuck
theorem GoodS.set2 {S : Hp} {ρ : Env} {σ : St} {H : Hp} {s : Slot} {n : MS} {D' : Ends} (g : GoodS C W S ρ σ H (seqS (setM i s) n ρ1) D') : i < ρ1.length ∧ markB ρ1 i = false ∧ GoodS C W S ρ σ H (n (ρ1.set i s)) D' := by
  have g : GoodS C W S ρ σ H ((setM i s ρ1).bnd fun f => match f with
    | .nx => n
    | f => pure f) D' := g
  cases q : setM i s ρ1 with
  | stuck => rw [q] at g; exact g.elim
  | exc x ρ' => exact (setM_nox q).elim
  | ok f ρ' =>
    obtain ⟨rfl, rfl, hi, hm⟩ := setM_ok q
    rw [q] at g
    exact ⟨hi, hm, g⟩
theorem GoodS.set1 {S : Hp} {ρ : Env} {σ : St} {H : Hp} {s : Slot} {D' : Ends} (g : GoodS C W S ρ σ H (setM i s ρ1) D') : i < ρ1.length ∧ markB ρ1 i = false ∧ ∀ S' H' σ', StpS C S ρ σ H S' (ρ1.set i s) σ' H' → D'.nx σ' H' := by
  cases q : setM i s ρ1 with
  | stuck => rw [q] at g; exact g.elim
  | exc x ρ' => exact (setM_nox q).elim
  | ok f ρ' =>
    obtain ⟨rfl, rfl, hi, hm⟩ := setM_ok q
    rw [q] at g
    exact ⟨hi, hm, g⟩
/-- set_own over a statement's step -/
theorem set_ownS {S0 S : Hp} {ρ0 ρ : Env} {σ0 σ : St} {H0 H : Hp} {d : D} {p : Addr} (e : StpS C S0 ρ0 σ0 H0 S ρ σ H) (hi : i < ρ.length) (hm : markB ρ i = false) (h2 : S p = none) (h3 : OwnAt C.K S H p d) (h4 : ¬ OwnA ρ σ p) (h5 : OwnA ρ0 σ0 p ∨ H0 p = none) :
    StpS C S0 ρ0 σ0 H0 S (ρ.set i (.own d)) (σ.set i (some (V.ref p))) H := by
  have s1 := set_own (Stp.refl e.st) hi hm h2 h3 h4
  have st := e.st
  have hσ : i < σ.length := by rw [st.len]; exact hi
  have st2 : StRel C S (ρ.set i (.own d)) (σ.set i (some (V.ref p))) H := by
    refine ⟨st.same, by simp [st.len], fun j g q => ?_, fun j g q => ?_, fun j k g f q q1 q2 q3 q4 => ?_⟩
    · by_cases z : i = j
      · subst z; rw [valD_at hi] at q; cases q
      · rw [valD_ne z] at q
        obtain ⟨w, a, b⟩ := st.val j g q
        exact ⟨w, by rw [List.getElem?_set_ne z]; exact a, b⟩
    · by_cases z : i = j
      · subst z; rw [ownD_at hi] at q; cases q
        exact ⟨p, by rw [List.getElem?_set_self hσ], h2, h3⟩
      · rw [ownD_ne z] at q
        obtain ⟨p, a, b, c⟩ := st.own j g q
        exact ⟨p, by rw [List.getElem?_set_ne z]; exact a, b, c⟩
    · by_cases z : i = j
      · subst z
        rw [List.getElem?_set_self hσ] at q3
        cases q3
        by_cases z2 : i = k
        · exact z2
        · rw [ownD_ne z2] at q2
          rw [List.getElem?_set_ne z2] at q4
          exact absurd ⟨k, _, q2, q4⟩ h4
      · rw [ownD_ne z] at q1
        rw [List.getElem?_set_ne z] at q3
        by_cases z2 : i = k
        · subst z2
          rw [List.getElem?_set_self hσ] at q4
          cases q4
          exact absurd ⟨j, _, q1, q3⟩ h4
        · rw [ownD_ne z2] at q2
          rw [List.getElem?_set_ne z2] at q4
          exact st.dis j k g f q q1 q2 q3 q4
  refine ⟨e.ext, st2, fun q ⟨j, f, q1, q2⟩ => ?_, fun j q => ?_⟩
  · by_cases z : i = j
    · subst z
      rw [List.getElem?_set_self hσ] at q2
      cases q2
      exact h5
    · rw [ownD_ne z] at q1
      rw [List.getElem?_set_ne z] at q2
      exact e.new q ⟨j, f, q1, q2⟩
  · obtain ⟨a, b⟩ := e.mrk j q
    by_cases z : i = j
    · subst z; rw [hm] at a; cases a
    · exact ⟨by rw [markB_ne z]; exact a, by rw [List.getElem?_set_ne z]; exact b⟩
/-- an expression within a statement, told from the statement's begin -/
theorem GoodS.bndR {α β : Type} {S S1 : Hp} {ρ ρ1 : Env} {σ : St} {H H1 : Hp} {m : M α} {f : α → MS} {R : Rl α β} {Q : β → Hp → Prop} {D : Ends} (e1 : Stp C σ S ρ H S1 ρ1 H1) (h : GoodS C W S ρ σ H ((m >>= f) ρ1) D)
    (k : ∀ a ρ2 S2 H2 b, m ρ1 = .ok a ρ2 → Stp C σ S1 ρ1 H1 S2 ρ2 H2 → R ρ1 H1 a S2 ρ2 H2 b → GoodS C W S ρ σ H (f a ρ2) D → Q b H2) : Good C W σ S1 ρ1 H1 (m ρ1) R Q := by
  rw [bnd_ap] at h
  cases e : m ρ1 with
  | stuck => rw [e] at h; exact h
  | ok a ρ2 =>
    rw [e] at h
    exact fun S2 H2 b st r => k a ρ2 S2 H2 b e st r h
  | exc x ρ2 =>
    rw [e] at h
    exact fun S' H' cls d st q => h S' H' σ cls d (e1.trans st).toS q
theorem vs_par {kt k2 : Nat} {px pt pt2 : Pos} (vx : Vx X C W cf T) (hi : X.N[i]? = some x) (hj : X.N[j]? = some y) (hij : i ≠ j) (hx : X.env.scope.names.lookup x = some .local) (hy : X.env.scope.names.lookup y = some .local)
    (ha : VE X C W a ma) (hb : VE X C W b mb) (hw : swappedStores [.Tuple [.Name x px, .Name y py] kt pt] (.Tuple [a, b] k2 pt2) X.env = pure (some [x, y])) (hs1 : starEach [a, b] X.env = (false, eval a X.env) :: starEach [b] X.env := by rfl) (hs2 : starEach [b] X.env = (false, eval b X.env) :: starEach [] X.env := by rfl)
    (hs : swapsWithSole [.Tuple [.Name x px, .Name y py] kt pt] (.Tuple [a, b] k2 pt2) pos.line X.env = pure false := by rfl) : VS X C W (.Assign [.Tuple [.Name x px, .Name y py] kt pt] (.Tuple [a, b] k2 pt2) pos) (parS i j ma mb) := by
  refine ⟨PS.imp (ps_par vx.calm vx.nd hi hj hij hx hy (pa_cons ha.pe (pa_cons hb.pe pa_nil hs2) hs1) hw hs) fun D' σ H h => ?_⟩
  obtain ⟨S, ρ, st, g⟩ := h
  refine ⟨S, ρ, st, GoodS.bnd0 g fun ra ρ1 S1 H1 v _ e1 r1 g1 => ?_⟩
  cases ra with
  | bor k => exact g1.elim
  | val da =>
    refine ⟨S1, ρ1, e1.st, GoodS.bnd0 (GoodS.from e1.toS g1) fun rb ρ2 S2 H2 w _ e2 r2 g2 => ⟨v, w, rfl, ?_⟩⟩
    cases rb with
    | bor k => exact g2.elim
    | val db =>
      obtain ⟨hi', hm, g3⟩ := GoodS.set2 g2
      obtain ⟨hj', hmj, g4⟩ := GoodS.set1 g3
      have s1 := set_val e2.st hi' hm (Rep.mono e2.ext.sS (show Rep C.K S1 v da from r1))
      exact g4 _ _ _ ((e2.toS.trans s1).trans (set_val s1.st hj' hmj (show Rep C.K S2 w db from r2)))
    | own db =>
      obtain ⟨q, rfl, b2, b3, b4, b5⟩ := r2
      obtain ⟨hi', hm, g3⟩ := GoodS.set2 g2
      obtain ⟨hj', hmj, g4⟩ := GoodS.set1 g3
      have s1 := set_val e2.st hi' hm (Rep.mono e2.ext.sS (show Rep C.K S1 v da from r1))
      have hiσ : i < σ.length := by rw [e2.st.len]; exact hi'
      refine g4 _ _ _ (set_ownS (e2.toS.trans s1) hj' hmj b2 b3 (fun ⟨k, f, c1, c2⟩ => ?_) b5)
      by_cases z : i = k
      · subst z; rw [ownD_at hi'] at c1; cases c1
      · rw [ownD_ne z] at c1
        rw [List.getElem?_set_ne z] at c2
        exact b4 ⟨k, f, c1, c2⟩
  | own da =>
    obtain ⟨p1, rfl, a2, a3, a4, a5⟩ := r1
    refine ⟨S1, ρ1, e1.st, ?_⟩
    have k : ∀ {ρ2 S2 H2}, Stp C σ S1 ρ1 H1 S2 ρ2 H2 → S2 p1 = none ∧ OwnAt C.K S2 H2 p1 da ∧ ¬ OwnA ρ2 σ p1 := fun {ρ2 S2 H2} e2 => by
      obtain ⟨o, ho⟩ := a3.ex
      refine ⟨?_, a3.mono e2.ext.sS fun o h => e2.ext.keep p1 o a4 h, fun z => a4 (e2.subA p1 z)⟩
      cases q : S2 p1 with
      | none => rfl
      | some u =>
        rcases e2.ext.grow p1 a2 (by rw [q]; simp) with z | z
        · exact absurd z a4
        · rw [ho] at z; cases z
    refine GoodS.bndR e1 g1 fun rb ρ2 S2 H2 w _ e2 r2 g2 => ⟨_, w, rfl, ?_⟩
    obtain ⟨k1, k2, k3⟩ := k e2
    cases rb with
    | bor k => exact g2.elim
    | val db =>
      obtain ⟨hi', hm, g3⟩ := GoodS.set2 g2
      obtain ⟨hj', hmj, g4⟩ := GoodS.set1 g3
      have s1 := set_own (e1.trans e2) hi' hm k1 k2 k3 a5
      exact g4 _ _ _ (s1.trans (set_val s1.st hj' hmj (show Rep C.K S2 w db from r2)))
    | own db =>
      obtain ⟨q, rfl, b2, b3, b4, b5⟩ := r2
      obtain ⟨hi', hm, g3⟩ := GoodS.set2 g2
      obtain ⟨hj', hmj, g4⟩ := GoodS.set1 g3
      have s1 := set_own (e1.trans e2) hi' hm k1 k2 k3 a5
      have hiσ : i < σ.length := by rw [e2.st.len]; exact hi'
      refine g4 _ _ _ (set_ownS s1 hj' hmj b2 b3 (fun ⟨k, f, c1, c2⟩ => ?_) ?_)
      · by_cases z : i = k
        · subst z
          rw [List.getElem?_set_self hiσ] at c2
          cases c2
          obtain ⟨o, ho⟩ := a3.ex
          rcases b5 with b5 | b5
          · exact a4 b5
          · rw [ho] at b5; cases b5
        · rw [ownD_ne z] at c1
          rw [List.getElem?_set_ne z] at c2
          exact b4 ⟨k, f, c1, c2⟩
      · rcases b5 with b5 | b5
        · exact .inl (e1.subA q b5)
        · exact e1.ext.back b5
end
end VL

/-! VL part h: what is walked, loops, comprehensions, a def by its body. -/
namespace VL
open PySem L2

def WalkD (C : Cfg) (S : Hp) (J : It) (ds : List D) : Prop := ∃ (G : Hp → Prop) (Y : Nat → Hp → V → Hp → Prop), Walk J ds.length G Y ∧ (∀ H, Same S H → G H) ∧
  ∀ i H x H' S1, Same S S1 → Same S1 H → i < ds.length → Y i H x H' → ∃ S2 d, Same S1 S2 ∧ Same H H' ∧ Same S2 H' ∧ (∀ p, S1 p = none → S2 p ≠ none → H p = none) ∧ ds[i]? = some d ∧ Rep C.K S2 x d
def SrcR (C : Cfg) : Rl (List D) It := fun _ _ ds S' _ _ J => WalkD C S' J ds
theorem SrcR.back {C : Cfg} {σ : St} : Back C σ (SrcR C) := fun _ _ _ _ _ _ _ _ _ _ _ _ r => r
def tI (C : Cfg) (W : WX) (src : M (List D)) : TI := fun σ H R => ∃ S ρ, StRel C S ρ σ H ∧ Good C W σ S ρ H (src ρ) (SrcR C) R
structure VI (X : Cx) (C : Cfg) (W : WX) (tg e : Expr) (src : M (List D)) : Prop where pi : PI X tg e (tI C W src)
section
variable {X : Cx} {C : Cfg} {W : WX} {cf : CF} {T : List (Str × Nat)} {e a b c o tg : Expr} {es : List Expr} {ma mb mc : M RV} {ms : List (M RV)} {pos p py : Pos} {x y : Str} {st : Stmt} {sts : List Stmt} {m n : MS} {i j : Nat} {src : M (List D)} {g : D → MS}
/-- a step that only adds -/
theorem add_stp {S : Hp} {ρ : Env} {σ : St} {H S2 H' : Hp} (st : StRel C S ρ σ H) (a : Same S S2) (b : Same H H') (c : Same S2 H') (gr : ∀ p, S p = none → S2 p ≠ none → H p = none) : Stp C σ S ρ H S2 ρ H' := by
  refine ⟨⟨a, fun p o _ h => b p o h, fun p h h' => .inr (gr p h h')⟩, ⟨c, st.len, fun i d e => ?_, fun i d e => ?_, st.dis⟩, fun i d h => ⟨d, h⟩, fun _ h => h⟩
  · obtain ⟨w, h1, h2⟩ := st.val i d e
    exact ⟨w, h1, h2.mono a⟩
  · obtain ⟨p, h1, h2, h3⟩ := st.own i d e
    refine ⟨p, h1, ?_, h3.mono a fun o h => b p o h⟩
    cases q : S2 p with
    | none => rfl
    | some u =>
      have z := gr p h2 (by rw [q]; simp)
      obtain ⟨o, ho⟩ := h3.ex
      rw [z] at ho; cases ho
def stepS (body : MS) (k : MS) : MS := body >>= fun f => match f with
  | .nx => k
  | .cont => k
  | .brk => pure .nx
  | .ret rv => pure (.ret rv)
def loopS (g : D → MS) (body : MS) : List D → MS
  | [] => pure .nx
  | d :: ds => seqS (g d) (stepS body (loopS g body ds))
def forS (src : M (List D)) (g : D → MS) (body : MS) : MS := src >>= fun ds => loopS g body ds
/-- a turn's body ahead of the rest -/
theorem GoodS.turn {S : Hp} {ρ : Env} {σ : St} {H : Hp} {D' : Ends} {N : St → Hp → Prop} (gd : GoodS C W S ρ σ H (stepS m n ρ) D')
    (k : ∀ S' ρ' σ' H', StpS C S ρ σ H S' ρ' σ' H' → GoodS C W S' ρ' σ' H' (n ρ') D' → N σ' H') : GoodS C W S ρ σ H (m ρ) { D' with nx := N, ct := N, bk := D'.nx } := by
  unfold stepS at gd
  rw [bnd_ap] at gd
  cases q : m ρ with
  | stuck => rw [q] at gd; exact gd
  | exc x ρ' => rw [q] at gd; exact gd
  | ok f ρ' =>
    rw [q] at gd
    cases f with
    | nx => exact fun S' H' σ' e => k S' ρ' σ' H' e (GoodS.from e gd)
    | cont => exact fun S' H' σ' e => k S' ρ' σ' H' e (GoodS.from e gd)
    | brk => exact gd
    | ret rv => exact gd
theorem vs_for (vx : Vx X C W cf T) (hi : VI X C W tg e src) (hg : VG X C W tg g) (on : OnlyNx g) (hb : VSs X C W sts m) (hs : ∀ x, foldedSetIterable e X.env x = pure x := by intro _; rfl) : VS X C W (.For tg e sts [] pos) (forS src g m) := by
  refine ⟨PS.imp (ps_for vx.po vx.calm hi.pi hg.pg hb.ps hs) fun D' σ H h => ?_⟩
  obtain ⟨S, ρ, st, gd⟩ := h
  refine ⟨S, ρ, st, GoodS.bnd gd fun ds ρ1 S1 H1 J _ e1 r1 g1 => ?_⟩
  obtain ⟨G, Y, wk, hG, hY⟩ := r1
  refine for_it wk (fun i σ' H' => ∃ S' ρ', Same S1 S' ∧ StRel C S' ρ' σ' H' ∧ GoodS C W S' ρ' σ' H' (loopS g m (ds.drop i) ρ') D') ⟨S1, ρ1, Same.refl _, e1.st, g1⟩ (fun i σ' H' _ ⟨S', ρ', h1, h2, _⟩ => hG _ (h1.trans h2.same)) ?_ ?_
  · rintro i x σ' H' H2 hi ⟨S', ρ', h1, h2, h3⟩ y
    obtain ⟨S2, d, a1, a2, a3, a4, a5, a6⟩ := hY i H' x H2 S' h1 h2.same hi y
    have e2 := add_stp h2 a1 a2 a3 a4
    have ed : ds.drop i = d :: ds.drop (i + 1) := by
      rw [List.drop_eq_getElem_cons hi]
      congr 1
      rw [List.getElem?_eq_getElem hi] at a5
      exact Option.some.inj a5
    rw [ed] at h3
    have h4 : GoodS C W S2 ρ' σ' H2 (seqS (g d) (stepS m (loopS g m (ds.drop (i + 1)))) ρ') D' := GoodS.from e2.toS h3
    refine ⟨S2, ρ', d, e2.st, a6, ?_⟩
    unfold seqS at h4
    rw [bnd_ap] at h4
    cases q : g d ρ' with
    | stuck => rw [q] at h4; exact h4
    | exc x ρ2 => rw [q] at h4; exact h4
    | ok f ρ2 =>
      rw [q] at h4
      have := on d ρ' f ρ2 q
      subst this
      intro S3 H3 σ3 e3
      have h5 : GoodS C W S3 ρ2 σ3 H3 (stepS m (loopS g m (ds.drop (i + 1))) ρ2) D' := GoodS.from e3 h4
      refine ⟨S3, ρ2, e3.st, GoodS.turn h5 fun S4 ρ4 σ4 H4 e4 g4 => ⟨S4, ρ4, ?_, e4.st, g4⟩⟩
      exact ((h1.trans a1).trans e3.ext.sS).trans e4.ext.sS
  · rintro σ' H' ⟨S', ρ', h1, h2, h3⟩
    rw [List.drop_length] at h3
    have h3 : ∀ S2 H2 σ2, StpS C S' ρ' σ' H' S2 ρ' σ2 H2 → D'.nx σ2 H2 := h3
    exact h3 S' H' σ' (StpS.refl h2)
def whileL (t : M Bool) (body : MS) : Nat → MS
  | 0 => M.stuck
  | k + 1 => t >>= fun b => if b = true then stepS body (whileL t body k) else pure .nx
/-- more turns than any law wants -/
@[irreducible] def FUEL : Nat := 1000000000000
theorem FUEL_ge : 1000000000000 ≤ FUEL := by unfold FUEL; exact Nat.le_refl _
def whileS (t : M Bool) (body : MS) : MS := whileL t body FUEL
theorem vs_while {t : M Bool} (vx : Vx X C W cf T) (hc : VT X C W c t) (hb : VSs X C W sts m) : VS X C W (.While c sts [] pos) (whileS t m) := by
  refine ⟨PS.imp (ps_while vx.po hc.pt hb.ps) fun D' σ H h => ?_⟩
  obtain ⟨S, ρ, st, gd⟩ := h
  refine ⟨fun k σ' H' => ∃ S' ρ', StRel C S' ρ' σ' H' ∧ GoodS C W S' ρ' σ' H' (whileL t m k ρ') D', ⟨FUEL, S, ρ, st, gd⟩, ?_⟩
  rintro k σ' H' ⟨S', ρ', h1, h2⟩
  cases k with
  | zero => exact h2.elim
  | succ k =>
    have h2 : GoodS C W S' ρ' σ' H' ((t >>= fun b => if b = true then stepS m (whileL t m k) else pure .nx) ρ') D' := h2
    refine ⟨S', ρ', h1, GoodS.bnd h2 fun b ρ1 S1 H1 v _ e1 r1 g1 => ?_⟩
    cases r1
    cases b with
    | true =>
      rw [if_pos rfl] at g1 ⊢
      refine ⟨fun σ2 H2 => ∃ S' ρ', StRel C S' ρ' σ2 H2 ∧ GoodS C W S' ρ' σ2 H2 (whileL t m k ρ') D', fun σ2 H2 q => ⟨k, Nat.lt_succ_self _, q⟩, S1, ρ1, e1.st, GoodS.turn g1 fun S4 ρ4 σ4 H4 e4 g4 => ⟨S4, ρ4, e4.st, g4⟩⟩
    | false =>
      rw [if_neg Bool.false_ne_true] at g1 ⊢
      have g1 : ∀ S2 H2 σ2, StpS C S1 ρ1 σ' H1 S2 ρ1 σ2 H2 → D'.nx σ2 H2 := g1
      exact g1 S1 H1 σ' (StpS.refl e1.st)
end

/-! ### a def by its body -/
def argsOk : Env → Bool
  | [] => true
  | .val _ :: as => argsOk as
  | .bow _ :: as => argsOk as
  | _ :: _ => false
def fin : Env → Env → Env
  | .bow _ :: as, s :: ss => s :: fin as ss
  | a :: as, _ :: ss => a :: fin as ss
  | as, _ => as
def runDef (ns : Nat) (body : MS) : M RV := fun args => if argsOk args = true then match body (args ++ List.replicate (ns - args.length) .un) with
    | .stuck => .stuck
    | .exc x ρ' => .exc x (fin args ρ')
    | .ok (.ret rv) ρ' => .ok rv (fin args ρ')
    | .ok .nx ρ' => .ok (.val .non) (fin args ρ')
    | .ok .brk _ => .stuck
    | .ok .cont _ => .stuck
  else .stuck
theorem argsOk_at : ∀ {as : Env} {i : Nat} {s : Slot}, argsOk as = true → as[i]? = some s → (∃ d, s = .val d) ∨ ∃ d, s = .bow d
  | [], i, s, _, h => by simp at h
  | a :: as, i, s, ok, h => by
    cases a with
    | val d => cases i with
      | zero => simp at h; exact .inl ⟨d, h.symm⟩
      | succ i => exact argsOk_at (as := as) (i := i) ok (by simpa using h)
    | bow d => cases i with
      | zero => simp at h; exact .inr ⟨d, h.symm⟩
      | succ i => exact argsOk_at (as := as) (i := i) ok (by simpa using h)
    | un => cases ok
    | own d => cases ok
    | bfz d => cases ok
theorem fin_len : ∀ {as ss : Env}, (fin as ss).length = as.length
  | [], ss => by cases ss <;> rfl
  | a :: as, [] => by cases a <;> rfl
  | a :: as, s :: ss => by cases a <;> (show (fin as ss).length + 1 = _; rw [fin_len]; rfl)
theorem fin_at : ∀ {as ss : Env} {i : Nat}, (∀ (j : Nat) (d : D), as[j]? = some (Slot.bow d) → j < ss.length) → (fin as ss)[i]? = match as[i]? with
    | some (.bow _) => ss[i]?
    | s => s
  | [], ss, i, _ => by cases ss <;> rfl
  | a :: as, [], i, h => by
    have e : fin (a :: as) [] = a :: as := by cases a <;> rfl
    rw [e]
    cases q : (a :: as)[i]? with
    | none => rfl
    | some t =>
      cases t with
      | bow d => exact absurd (h i d q) (by simp)
      | _ => rfl
  | a :: as, s :: ss, i, h => by
    have h' : ∀ (j : Nat) (d : D), as[j]? = some (Slot.bow d) → j < ss.length := fun j d e => by
      have := h (j + 1) d (by simpa using e)
      simpa using this
    cases i with
    | zero => cases a <;> rfl
    | succ i => cases a <;> exact fin_at (as := as) (ss := ss) (i := i) h'
section
variable {C : Cfg} {W : WX}
theorem start_at {N : List Str} {vs : List V} {i : Nat} : (L2.start N vs)[i]? = if i < vs.length then (vs.map some)[i]? else if i < N.length then some none else none := by
  unfold L2.start
  by_cases h : i < vs.length
  · rw [if_pos h, List.getElem?_append_left (by simpa using h)]
  · rw [if_neg h, List.getElem?_append_right (by simpa using h), List.getElem?_replicate]
    simp only [List.length_map]
    by_cases h2 : i < N.length
    · rw [if_pos h2, if_pos (by omega)]
    · rw [if_neg h2, if_neg (by omega)]
theorem rho_at {as : Env} {ns i : Nat} : (as ++ List.replicate (ns - as.length) Slot.un)[i]? = if i < as.length then as[i]? else if i < ns then some .un else none := by
  by_cases h : i < as.length
  · rw [if_pos h, List.getElem?_append_left h]
  · rw [if_neg h, List.getElem?_append_right (by omega), List.getElem?_replicate]
    by_cases h2 : i < ns
    · rw [if_pos h2, if_pos (by omega)]
    · rw [if_neg h2, if_neg (by omega)]
theorem start_st {S H : Hp} {as : Env} {vs : List V} {N : List Str} (st : StRel C S as (vs.map some) H) (hn : vs.length ≤ N.length) : StRel C S (as ++ List.replicate (N.length - as.length) .un) (L2.start N vs) H := by
  have hl : vs.length = as.length := by have := st.len; simpa using this
  have low : ∀ {i d}, (ownD (as ++ List.replicate (N.length - as.length) .un) i = some d → i < as.length ∧ ownD as i = some d) ∧ (valD (as ++ List.replicate (N.length - as.length) .un) i = some d → i < as.length ∧ valD as i = some d) := fun {i d} => by
    unfold ownD valD
    rw [rho_at]
    by_cases h : i < as.length
    · rw [if_pos h]; exact ⟨fun e => ⟨h, e⟩, fun e => ⟨h, e⟩⟩
    · rw [if_neg h]
      by_cases h2 : i < N.length
      · rw [if_pos h2]; exact ⟨fun z => (nomatch z), fun z => (nomatch z)⟩
      · rw [if_neg h2]; exact ⟨fun z => (nomatch z), fun z => (nomatch z)⟩
  have sl : ∀ {i}, i < as.length → (L2.start N vs)[i]? = (vs.map some)[i]? := fun {i} h => by rw [start_at, if_pos (by omega)]
  refine ⟨st.same, ?_, fun i d h => ?_, fun i d h => ?_, fun i j d e p h1 h2 h3 h4 => ?_⟩
  · unfold L2.start
    simp only [List.length_append, List.length_map, List.length_replicate]
    omega
  · obtain ⟨h1, h2⟩ := low.2 h
    rw [sl h1]; exact st.val i d h2
  · obtain ⟨h1, h2⟩ := low.1 h
    rw [sl h1]; exact st.own i d h2
  · obtain ⟨a1, a2⟩ := low.1 h1
    obtain ⟨b1, b2⟩ := low.1 h2
    rw [sl a1] at h3
    rw [sl b1] at h4
    exact st.dis i j d e p a2 b2 h3 h4
/-- the def's end, told at its parameters -/
theorem fin_stp {S H S' H' : Hp} {as ρ' : Env} {vs : List V} {N : List Str} {σ' : St} (ok : argsOk as = true) (st : StRel C S as (vs.map some) H) (hn : vs.length ≤ N.length) (e : StpS C S (as ++ List.replicate (N.length - as.length) .un) (L2.start N vs) H S' ρ' σ' H') : Stp C (vs.map some) S as H S' (fin as ρ') H' := by
  have hl : vs.length = as.length := by have := st.len; simpa using this
  have low : ∀ {i}, i < as.length → (as ++ List.replicate (N.length - as.length) Slot.un)[i]? = as[i]? := fun {i} h => by rw [rho_at, if_pos h]
  have bw : ∀ {i : Nat} {d : D}, as[i]? = some (Slot.bow d) → i < as.length ∧ markB ρ' i = true ∧ σ'[i]? = (vs.map some)[i]? := fun {i d} h => by
    have hi := get_len h
    obtain ⟨a, b⟩ := e.mrk i (by unfold markB; rw [low hi, h])
    exact ⟨hi, a, by rw [b, start_at, if_pos (by omega)]⟩
  have lenM : ∀ {i}, markB ρ' i = true → i < ρ'.length := fun {i} h => by
    unfold markB at h
    cases q : ρ'[i]? with
    | none => rw [q] at h; cases h
    | some t => exact get_len q
  have fa : ∀ {i : Nat}, (fin as ρ')[i]? = (match as[i]? with
    | some (Slot.bow _) => ρ'[i]?
    | s => s) := fun {i} => fin_at fun j d h => lenM (bw h).2.1
  -- a slot of the end
  have cas : ∀ {i : Nat} {s : Slot}, (fin as ρ')[i]? = some s → (∃ d, s = Slot.val d ∧ as[i]? = some (Slot.val d)) ∨ ∃ d, as[i]? = some (Slot.bow d) ∧ ρ'[i]? = some s ∧ (∃ d', s = Slot.bow d' ∨ s = Slot.bfz d') ∧ σ'[i]? = (vs.map some)[i]? := fun {i s} h => by
    rw [fa] at h
    cases q : as[i]? with
    | none => rw [q] at h; cases h
    | some t =>
      rcases argsOk_at ok q with ⟨d, rfl⟩ | ⟨d, rfl⟩
      · rw [q] at h; cases h; exact .inl ⟨d, rfl, rfl⟩
      · rw [q] at h
        have h : ρ'[i]? = some s := h
        obtain ⟨h1, h2, h3⟩ := bw q
        refine .inr ⟨d, rfl, h, ?_, h3⟩
        unfold markB at h2
        rw [h] at h2
        cases s with
        | bow d' => exact ⟨d', .inl rfl⟩
        | bfz d' => exact ⟨d', .inr rfl⟩
        | _ => cases h2
  have own : ∀ {i : Nat} {d : D}, ownD (fin as ρ') i = some d → ∃ d0, as[i]? = some (Slot.bow d0) ∧ ownD ρ' i = some d ∧ σ'[i]? = (vs.map some)[i]? := fun {i d} h => by
    unfold ownD at h
    cases q : (fin as ρ')[i]? with
    | none => rw [q] at h; cases h
    | some s =>
      rcases cas q with ⟨d', rfl, _⟩ | ⟨d0, a1, a2, ⟨d', a3⟩, a4⟩
      · rw [q] at h; cases h
      · rw [q] at h
        exact ⟨d0, a1, by unfold ownD; rw [a2]; exact h, a4⟩
  have OA : ∀ p, OwnA (as ++ List.replicate (N.length - as.length) .un) (L2.start N vs) p → OwnA as (vs.map some) p := fun p ⟨i, d, h1, h2⟩ => by
    have hi : i < as.length := by
      unfold ownD at h1
      rw [rho_at] at h1
      by_cases z : i < as.length
      · exact z
      · rw [if_neg z] at h1
        by_cases z2 : i < N.length
        · rw [if_pos z2] at h1; cases h1
        · rw [if_neg z2] at h1; cases h1
    refine ⟨i, d, ?_, ?_⟩
    · unfold ownD at h1 ⊢; rw [low hi] at h1; exact h1
    · rw [start_at, if_pos (by omega)] at h2; exact h2
  refine ⟨e.ext.mono OA, ⟨e.st.same, by rw [fin_len]; exact st.len, fun i d h => ?_, fun i d h => ?_, fun i j d d' p h1 h2 h3 h4 => ?_⟩, fun i d h => ?_, fun i h => ?_⟩
  · unfold valD at h
    cases q : (fin as ρ')[i]? with
    | none => rw [q] at h; cases h
    | some s =>
      rw [q] at h
      rcases cas q with ⟨d', rfl, a⟩ | ⟨d0, a1, a2, ⟨d', a3⟩, a4⟩
      · cases h
        obtain ⟨v, b1, b2⟩ := st.val i d (by unfold valD; rw [a])
        exact ⟨v, b1, b2.mono e.ext.sS⟩
      · rcases a3 with rfl | rfl
        · cases h
        · cases h
          obtain ⟨v, b1, b2⟩ := e.st.val i d (by unfold valD; rw [a2])
          exact ⟨v, by rw [← a4]; exact b1, b2⟩
  · obtain ⟨d0, a1, a2, a3⟩ := own h
    rw [← a3]; exact e.st.own i d a2
  · obtain ⟨d0, a1, a2, a3⟩ := own h1
    obtain ⟨d1, b1, b2, b3⟩ := own h2
    rw [← a3] at h3
    rw [← b3] at h4
    exact e.st.dis i j d d' p a2 b2 h3 h4
  · obtain ⟨d0, a1, a2, a3⟩ := own h
    exact ⟨d0, by unfold ownD; rw [a1]⟩
  · unfold markB at h
    cases q : as[i]? with
    | none => rw [q] at h; cases h
    | some t =>
      rcases argsOk_at ok q with ⟨d, rfl⟩ | ⟨d, rfl⟩
      · rw [q] at h; cases h
      · obtain ⟨h1, h2, h3⟩ := bw q
        unfold markB at h2 ⊢
        rw [fa, q]
        exact h2
theorem fin_rv {S H S' H' : Hp} {as ρ' : Env} {vs : List V} {N : List Str} {σ' : St} {rv : RV} {v : V} (ok : argsOk as = true) (st : StRel C S as (vs.map some) H) (hn : vs.length ≤ N.length) (e : StpS C S (as ++ List.replicate (N.length - as.length) .un) (L2.start N vs) H S' ρ' σ' H')
    (r : RetR C (as ++ List.replicate (N.length - as.length) .un) (L2.start N vs) H rv S' ρ' σ' H' v) : RVr C (vs.map some) as H rv S' (fin as ρ') H' v := by
  have hl : vs.length = as.length := by have := st.len; simpa using this
  cases rv with
  | bor i => exact r.elim
  | val d => exact r
  | own d =>
    obtain ⟨p, h1, h2, h3, h4, h5⟩ := r
    have low : ∀ {i}, i < as.length → (as ++ List.replicate (N.length - as.length) Slot.un)[i]? = as[i]? := fun {i} h => by rw [rho_at, if_pos h]
    refine ⟨p, h1, h2, h3, fun ⟨i, d', c1, c2⟩ => h4 ?_, ?_⟩
    · unfold ownD at c1
      have bw : ∀ {i : Nat} {d : D}, as[i]? = some (Slot.bow d) → i < as.length ∧ markB ρ' i = true ∧ σ'[i]? = (vs.map some)[i]? := fun {i d} h => by
        have hi := get_len h
        obtain ⟨a, b⟩ := e.mrk i (by unfold markB; rw [low hi, h])
        exact ⟨hi, a, by rw [b, start_at, if_pos (by omega)]⟩
      have lenM : ∀ {i}, markB ρ' i = true → i < ρ'.length := fun {i} h => by
        unfold markB at h
        cases q : ρ'[i]? with
        | none => rw [q] at h; cases h
        | some t => exact get_len q
      rw [fin_at fun j d h => lenM (bw h).2.1] at c1
      cases q : as[i]? with
      | none => rw [q] at c1; cases c1
      | some t =>
        rcases argsOk_at ok q with ⟨d, rfl⟩ | ⟨d, rfl⟩
        · rw [q] at c1; cases c1
        · rw [q] at c1
          exact ⟨i, d', c1, by rw [(bw q).2.2]; exact c2⟩
    · rcases h5 with ⟨i, d', c1, c2⟩ | h5
      · have hi : i < as.length := by
          unfold ownD at c1
          rw [rho_at] at c1
          by_cases z : i < as.length
          · exact z
          · rw [if_neg z] at c1
            by_cases z2 : i < N.length
            · rw [if_pos z2] at c1; cases c1
            · rw [if_neg z2] at c1; cases c1
        refine .inl ⟨i, d', ?_, ?_⟩
        · unfold ownD at c1 ⊢; rw [low hi] at c1; exact c1
        · rw [start_at, if_pos (by omega)] at c2; exact c2
      · exact .inr h5
/-- THE RULE: a def by its body -/
theorem def_ok {P : Program} {w : World} {K : PySem.W.Frag} {mg : Str → Option Value} {base : Heap} {x qual : Str} {st : Stmt} {f : Addr} {fd : FuncData} {N ps : List Str} {k i np ns : Nat} {T : List (Str × Nat)} {cf cf' : CF} {body : MS} (F : Fun K x qual st f fd) (Sc : FnScope N ps (defScope st)) (hC : C.K = K)
    (hp : ps.length = np) (hN : N.length = ns) (hcf : cf' i = runDef ns body) (tab : TabOk P w K mg base k C cf T)
    (hb : ∀ (cdv : Value) (A : Around) (outer : List PySem.Env) (s : Shared) (H : Hp) (E : XK), Vx (cxOf (L2.CX P w) P w K mg base N qual (defScope st) f cdv A outer s H E) C (fun cls d _ H => E cls d H) cf T →
      VSs (cxOf (L2.CX P w) P w K mg base N qual (defScope st) f cdv A outer s H E) C (fun cls d _ H => E cls d H) (defBody st) body) :
    FnOk P w K mg base (L2.CX P w) (k + 1) f fd ps (spOf C cf' i np) := by
  refine F.okX Sc (fun vs H Q E h => ?_) fun cdv A outer s H vs Q E hr h => ?_
  · obtain ⟨S, as, hl, _⟩ := h
    rw [hl, hp]
  · obtain ⟨S, as, hl, st0, g⟩ := h
    have vx : Vx (cxOf (L2.CX P w) P w K mg base N qual (defScope st) f cdv A outer s H E) C (fun cls d _ H => E cls d H) cf T :=
      ⟨hC.symm, rfl, takes_of rfl rfl rfl rfl, Sc.nd, by have := hr.units; show A.units + 3 + 65 < _; have h2 : (A.deeper (PyProof.Rows.envOfC qual (defScope st) s.heap.objs.size f cdv)).units = A.units + 3 := rfl; have := hr.un; omega, passes_of rfl, k, hr, tab⟩
    refine ⟨tS C (fun cls d _ H => E cls d H) body, (hb cdv A outer s H E vx).ps, S, as ++ List.replicate (N.length - as.length) .un, ?_, ?_⟩
    · refine start_st st0 ?_
      have := congrArg List.length Sc.pre
      rw [List.length_take] at this
      omega
    · have hn : vs.length ≤ N.length := by
        have := congrArg List.length Sc.pre
        rw [List.length_take] at this
        omega
      rw [hcf] at g
      unfold runDef at g
      by_cases ok : argsOk as = true
      · rw [if_pos ok] at g
        rw [← hN] at g
        cases q : body (as ++ List.replicate (N.length - as.length) .un) with
        | stuck => rw [q] at g; exact g
        | exc x ρ' =>
          rw [q] at g
          exact fun S' H' σ' cls d e r => g S' H' cls d (fin_stp ok st0 hn e) r
        | ok fl ρ' =>
          rw [q] at g
          cases fl with
          | brk => exact g.elim
          | cont => exact g.elim
          | nx => exact fun S' H' σ' e => g S' H' V.non (fin_stp ok st0 hn e) .non
          | ret rv => exact fun S' H' σ' v e r => g S' H' v (fin_stp ok st0 hn e) (fin_rv ok st0 hn e r)
      · rw [if_neg ok] at g; exact g.elim
end
end VL

/-! VL part i: list comprehensions. -/
namespace VL
open PySem L2

inductive CT where
  | one (i : Nat) | many (is : List Nat)
def CT.ixs : CT → List Nat
  | .one i => [i]
  | .many is => is
def gNames : List Nat → TGs
  | [] => gNil
  | i :: is => gCons (gName i) (gNames is)
def gCT (K : PySem.W.Frag) : CT → TG
  | .one i => gName i
  | .many is => gTup K is.length (gNames is)
def ctG : CT → D → MS
  | .one i => nameG i
  | .many is => tupG (is.map nameG)
def setAll : Env → List Nat → List D → Env
  | ρ, i :: is, d :: ds => setAll (ρ.set i (.val d)) is ds
  | ρ, _, _ => ρ
def setAllV : St → List Nat → List V → St
  | σ, i :: is, d :: ds => setAllV (σ.set i (some d)) is ds
  | σ, _, _ => σ
def wipeE (ρ : Env) : List Nat → Env
  | [] => ρ
  | v :: vs => (wipeE ρ vs).set v .un
def restoreE (ρ1 ρ : Env) : List Nat → Env
  | [] => ρ
  | v :: vs => match ρ1[v]? with
    | some s => (restoreE ρ1 ρ vs).set v s
    | none => restoreE ρ1 ρ vs
theorem wipeE_len {ρ : Env} : ∀ {vs : List Nat}, (wipeE ρ vs).length = ρ.length
  | [] => rfl
  | v :: vs => by show ((wipeE ρ vs).set v .un).length = _; rw [List.length_set, wipeE_len]
theorem wipeE_get {ρ : Env} {j : Nat} : ∀ {vs : List Nat}, (wipeE ρ vs)[j]? = if j ∈ vs then (if j < ρ.length then some .un else none) else ρ[j]?
  | [] => by simp [wipeE]
  | v :: vs => by
    show ((wipeE ρ vs).set v .un)[j]? = _
    rw [get_set, wipeE_len, wipeE_get (vs := vs)]
    by_cases z : v = j
    · subst z; simp
    · rw [if_neg z]
      by_cases m : j ∈ vs
      · simp [m]
      · simp [m, Ne.symm z]
theorem wipe_get {σ : St} {j : Nat} : ∀ {vs : List Nat}, (wipe σ vs)[j]? = if j ∈ vs then (if j < σ.length then some none else none) else σ[j]?
  | [] => by simp [wipe]
  | v :: vs => by
    show ((wipe σ vs).set v none)[j]? = _
    rw [List.getElem?_set, wipe_length, wipe_get (vs := vs)]
    by_cases z : v = j
    · subst z; simp
    · rw [if_neg z]
      by_cases m : j ∈ vs
      · simp [m]
      · simp [m, Ne.symm z]
theorem restoreE_len {ρ1 ρ : Env} : ∀ {vs : List Nat}, (restoreE ρ1 ρ vs).length = ρ.length
  | [] => rfl
  | v :: vs => by
    unfold restoreE
    cases ρ1[v]? with
    | none => exact restoreE_len
    | some s => show ((restoreE ρ1 ρ vs).set v s).length = _; rw [List.length_set, restoreE_len]
theorem restoreE_get {ρ1 ρ : Env} {j : Nat} (hl : ρ.length = ρ1.length) : ∀ {vs : List Nat}, (restoreE ρ1 ρ vs)[j]? = if j ∈ vs then ρ1[j]? else ρ[j]?
  | [] => by simp [restoreE]
  | v :: vs => by
    unfold restoreE
    cases q : ρ1[v]? with
    | none =>
      show (restoreE ρ1 ρ vs)[j]? = _
      rw [restoreE_get hl (vs := vs)]
      by_cases z : j = v
      · subst z
        have h1 : ρ1.length ≤ j := List.getElem?_eq_none_iff.mp q
        have h2 : ρ[j]? = none := List.getElem?_eq_none_iff.mpr (by omega)
        simp [q, h2]
      · by_cases m : j ∈ vs
        · simp [m]
        · simp [m, z]
    | some s =>
      show ((restoreE ρ1 ρ vs).set v s)[j]? = _
      have hv := get_len q
      rw [get_set, restoreE_len, restoreE_get hl (vs := vs)]
      by_cases z : v = j
      · subst z
        rw [if_pos rfl, if_pos (by omega)]
        simp [q]
      · rw [if_neg z]
        by_cases m : j ∈ vs
        · simp [m]
        · simp [m, Ne.symm z]
theorem wipe_set {σ : St} {vs : List Nat} {i : Nat} {o : Option V} (h : i ∈ vs) : wipe (σ.set i o) vs = wipe σ vs := by
  apply List.ext_getElem?
  intro j
  rw [wipe_get, wipe_get]
  by_cases m : j ∈ vs
  · simp [m]
  · have : i ≠ j := fun z => m (z ▸ h)
    simp [m, List.getElem?_set_ne this]
theorem wipe_setAll {vs : List Nat} : ∀ {is : List Nat} {σ : St} {xs : List V}, (∀ i ∈ is, i ∈ vs) → wipe (setAllV σ is xs) vs = wipe σ vs
  | [], σ, xs, _ => by cases xs <;> rfl
  | i :: is, σ, [], _ => rfl
  | i :: is, σ, x :: xs, h => by
    show wipe (setAllV (σ.set i (some x)) is xs) vs = _
    rw [wipe_setAll fun j hj => h j (List.mem_cons_of_mem _ hj), wipe_set (h i List.mem_cons_self)]
theorem wipe_wipe {σ : St} {vs : List Nat} : wipe (wipe σ vs) vs = wipe σ vs := by
  apply List.ext_getElem?
  intro j
  rw [wipe_get, wipe_length, wipe_get]
  by_cases m : j ∈ vs <;> simp [m]

structure VC (X : Cx) (ct : CT) (tg : Expr) : Prop where pg : PG X tg (gCT X.K ct)
structure VCs (X : Cx) (is : List Nat) (es : List Expr) : Prop where pgs : PGs X es (gNames is)
/-- a clause's tests -/
structure VTs (X : Cx) (C : Cfg) (W : WX) (ifs : List Expr) (t : M Bool) : Prop where pts : PTs X ifs (tT C W t)
def lcLoop (ct : CT) (t : M Bool) (el : M RV) (vs : List Nat) : List D → List D → M (List D)
  | [], acc => pure acc
  | d :: ds, acc => ctG ct d >>= fun _ => t >>= fun k => if k = true then fzM el >>= fun y => fun ρ => lcLoop ct t el vs ds (acc ++ [y]) (wipeE ρ vs) else fun ρ => lcLoop ct t el vs ds acc (wipeE ρ vs)
def lcGo (ct : CT) (t : M Bool) (el : M RV) (vs : List Nat) (ds : List D) : M RV := fun ρ1 => if ds.length ≤ LIM then match lcLoop ct t el vs ds [] (wipeE ρ1 vs) with
    | .ok acc ρ2 => .ok (.own (.lst acc)) (restoreE ρ1 ρ2 vs)
    | _ => .stuck
  else .stuck
def lcM (src : M (List D)) (ct : CT) (t : M Bool) (el : M RV) (vs : List Nat) : M RV := src >>= lcGo ct t el vs
abbrev W0 : WX := fun _ _ _ _ => False
section
variable {C : Cfg} {W : WX} {σ σb σw : St} {S Sa Sb S' : Hp} {ρ ρ0 ρa ρb ρ1 ρ' : Env} {H Ha Hb H1 H' : Hp} {vs : List Nat}
theorem own_get {ρ ρ' : Env} {j : Nat} (h : ρ[j]? = ρ'[j]?) : ownD ρ j = ownD ρ' j := by unfold ownD; rw [h]
theorem val_get {ρ ρ' : Env} {j : Nat} (h : ρ[j]? = ρ'[j]?) : valD ρ j = valD ρ' j := by unfold valD; rw [h]
theorem mark_get {ρ ρ' : Env} {j : Nat} (h : ρ[j]? = ρ'[j]?) : markB ρ j = markB ρ' j := by unfold markB; rw [h]
theorem wiped {j : Nat} (h : j ∈ vs) : ownD (wipeE ρ vs) j = none ∧ valD (wipeE ρ vs) j = none ∧ markB (wipeE ρ vs) j = false := by
  unfold ownD valD markB
  rw [wipeE_get, if_pos h]
  by_cases z : j < ρ.length
  · rw [if_pos z]; exact ⟨rfl, rfl, rfl⟩
  · rw [if_neg z]; exact ⟨rfl, rfl, rfl⟩
theorem wipe_st (st : StRel C S ρ σ H) : StRel C S (wipeE ρ vs) (wipe σ vs) H := by
  have f : ∀ {j : Nat}, j ∉ vs → (wipeE ρ vs)[j]? = ρ[j]? := fun {j} h => by rw [wipeE_get, if_neg h]
  have fs : ∀ {j : Nat}, j ∉ vs → (wipe σ vs)[j]? = σ[j]? := fun {j} h => by rw [wipe_get, if_neg h]
  refine ⟨st.same, by rw [wipe_length, wipeE_len]; exact st.len, fun j d h => ?_, fun j d h => ?_, fun j k d e p h1 h2 h3 h4 => ?_⟩
  · by_cases m : j ∈ vs
    · rw [(wiped m).2.1] at h; cases h
    · rw [val_get (f m)] at h; rw [fs m]; exact st.val j d h
  · by_cases m : j ∈ vs
    · rw [(wiped m).1] at h; cases h
    · rw [own_get (f m)] at h; rw [fs m]; exact st.own j d h
  · by_cases m : j ∈ vs
    · rw [(wiped m).1] at h1; cases h1
    · by_cases m2 : k ∈ vs
      · rw [(wiped m2).1] at h2; cases h2
      · rw [own_get (f m)] at h1
        rw [own_get (f m2)] at h2
        rw [fs m] at h3
        rw [fs m2] at h4
        exact st.dis j k d e p h1 h2 h3 h4
/-- behind a turn -/
theorem wipe_stp (e : Stp C σb Sa ρa Ha Sb ρb Hb) (h1 : ∀ j : Nat, j ∉ vs → ρa[j]? = ρ0[j]?) (h2 : ∀ j : Nat, j ∉ vs → σb[j]? = σw[j]?) (h3 : ∀ j ∈ vs, ownD ρa j = none) (h4 : ∀ j ∈ vs, markB ρ0 j = false) (hl : σb.length = σw.length) :
    Stp C σw Sa ρ0 Ha Sb (wipeE ρb vs) Hb := by
  have f : ∀ {j : Nat}, j ∉ vs → (wipeE ρb vs)[j]? = ρb[j]? := fun {j} h => by rw [wipeE_get, if_neg h]
  have OA : ∀ p, OwnA ρa σb p → OwnA ρ0 σw p := fun p ⟨j, d, a, b⟩ => by
    have m : j ∉ vs := fun m => by rw [h3 j m] at a; cases a
    exact ⟨j, d, by rw [← own_get (h1 j m)]; exact a, by rw [← h2 j m]; exact b⟩
  have own : ∀ {j d}, ownD (wipeE ρb vs) j = some d → j ∉ vs ∧ ownD ρb j = some d := fun {j d} h => by
    by_cases m : j ∈ vs
    · rw [(wiped m).1] at h; cases h
    · exact ⟨m, by rw [← own_get (f m)]; exact h⟩
  refine ⟨e.ext.mono OA, ⟨e.st.same, by rw [wipeE_len, ← hl]; exact e.st.len, fun j d h => ?_, fun j d h => ?_, fun j k d d' p a1 a2 a3 a4 => ?_⟩, fun j d h => ?_, fun j h => ?_⟩
  · by_cases m : j ∈ vs
    · rw [(wiped m).2.1] at h; cases h
    · rw [val_get (f m)] at h; rw [← h2 j m]; exact e.st.val j d h
  · obtain ⟨m, h⟩ := own h
    rw [← h2 j m]; exact e.st.own j d h
  · obtain ⟨m, a1⟩ := own a1
    obtain ⟨m2, a2⟩ := own a2
    rw [← h2 j m] at a3
    rw [← h2 k m2] at a4
    exact e.st.dis j k d d' p a1 a2 a3 a4
  · obtain ⟨m, h⟩ := own h
    obtain ⟨d', h'⟩ := e.sub j d h
    exact ⟨d', by rw [← own_get (h1 j m)]; exact h'⟩
  · by_cases m : j ∈ vs
    · rw [h4 j m] at h; cases h
    · rw [mark_get (f m)]
      exact e.mrk j (by rw [mark_get (h1 j m)]; exact h)
/-- behind the last turn -/
theorem restore_stp (st : StRel C S ρ1 σ H1) (e : Stp C (wipe σ vs) S (wipeE ρ1 vs) H1 S' ρ' H') : Stp C σ S ρ1 H1 S' (restoreE ρ1 ρ' vs) H' := by
  have hl : ρ'.length = ρ1.length := by
    have a := e.st.len
    rw [wipe_length, st.len] at a
    exact a.symm
  have f : ∀ {j : Nat}, j ∉ vs → (wipeE ρ1 vs)[j]? = ρ1[j]? := fun {j} h => by rw [wipeE_get, if_neg h]
  have fs : ∀ {j : Nat}, j ∉ vs → (wipe σ vs)[j]? = σ[j]? := fun {j} h => by rw [wipe_get, if_neg h]
  have r1 : ∀ {j : Nat}, j ∈ vs → (restoreE ρ1 ρ' vs)[j]? = ρ1[j]? := fun {j} h => by rw [restoreE_get hl, if_pos h]
  have r2 : ∀ {j : Nat}, j ∉ vs → (restoreE ρ1 ρ' vs)[j]? = ρ'[j]? := fun {j} h => by rw [restoreE_get hl, if_neg h]
  have OA : ∀ p, OwnA (wipeE ρ1 vs) (wipe σ vs) p → OwnA ρ1 σ p := fun p ⟨j, d, a, b⟩ => by
    have m : j ∉ vs := fun m => by rw [(wiped m).1] at a; cases a
    exact ⟨j, d, by rw [← own_get (f m)]; exact a, by rw [← fs m]; exact b⟩
  have sub : ∀ j d, ownD (restoreE ρ1 ρ' vs) j = some d → ∃ e, ownD ρ1 j = some e := fun j d h => by
    by_cases m : j ∈ vs
    · rw [own_get (r1 m)] at h; exact ⟨d, h⟩
    · rw [own_get (r2 m)] at h
      obtain ⟨d', h'⟩ := e.sub j d h
      exact ⟨d', by rw [← own_get (f m)]; exact h'⟩
  refine ⟨e.ext.mono OA, ⟨e.st.same, by rw [restoreE_len, hl]; exact st.len, fun j d h => ?_, fun j d h => ?_, fun j k d d' p a1 a2 a3 a4 => ?_⟩, sub, fun j h => ?_⟩
  · by_cases m : j ∈ vs
    · rw [val_get (r1 m)] at h
      obtain ⟨v, a, b⟩ := st.val j d h
      exact ⟨v, a, b.mono e.ext.sS⟩
    · rw [val_get (r2 m)] at h
      rw [← fs m]; exact e.st.val j d h
  · by_cases m : j ∈ vs
    · rw [own_get (r1 m)] at h
      obtain ⟨p, a, b, c⟩ := st.own j d h
      have nA : ¬ OwnA (wipeE ρ1 vs) (wipe σ vs) p := fun ⟨k, d', x1, x2⟩ => by
        have m2 : k ∉ vs := fun m => by rw [(wiped m).1] at x1; cases x1
        rw [own_get (f m2)] at x1
        rw [fs m2] at x2
        have := st.dis j k d d' p h x1 a x2
        exact m2 (this ▸ m)
      refine ⟨p, a, ?_, c.mono e.ext.sS fun o ho => e.ext.keep p o nA ho⟩
      cases q : S' p with
      | none => rfl
      | some u =>
        obtain ⟨o, ho⟩ := c.ex
        rcases e.ext.grow p b (by rw [q]; simp) with z | z
        · exact absurd z nA
        · rw [z] at ho; cases ho
    · rw [own_get (r2 m)] at h
      rw [← fs m]; exact e.st.own j d h
  · obtain ⟨d1, b1⟩ := sub j d a1
    obtain ⟨d2, b2⟩ := sub k d' a2
    exact st.dis j k d1 d2 p b1 b2 a3 a4
  · by_cases m : j ∈ vs
    · rw [mark_get (r1 m)]; exact h
    · rw [mark_get (r2 m)]
      exact e.mrk j (by rw [mark_get (f m)]; exact h)
/-- the names of a turn are set -/
theorem names_ok {is : List Nat} {ds : List D} {xs : List V} {f : Fl} (st : StRel C S ρ σ H) (hi : ∀ i ∈ is, i ∈ vs) (hv : ∀ j ∈ vs, markB ρ j = false ∧ ownD ρ j = none) (r : Reps C.K S xs ds) (e : seqG (is.map nameG) ds ρ = .ok f ρ') :
    xs.length = is.length ∧ StRel C S ρ' (setAllV σ is xs) H ∧ (∀ j : Nat, j ∉ vs → ρ'[j]? = ρ[j]?) ∧ (∀ j : Nat, j ∉ vs → (setAllV σ is xs)[j]? = σ[j]?) ∧ (∀ j ∈ vs, markB ρ' j = false ∧ ownD ρ' j = none) := by
  induction is generalizing ds xs ρ σ with
  | nil =>
    cases r with
    | nil => cases e; exact ⟨rfl, st, fun _ _ => rfl, fun _ _ => rfl, hv⟩
    | cons _ _ => cases e
  | cons i is ih =>
    cases r with
    | nil => cases e
    | cons r0 r =>
      rename_i v xs d ds
      have e : ((setM i (.val d) ρ).bnd fun f => match f with
        | .nx => seqG (is.map nameG) ds
        | f => pure f) = .ok f ρ' := e
      cases q : setM i (.val d) ρ with
      | stuck => rw [q] at e; cases e
      | exc x ρ2 => rw [q] at e; cases e
      | ok f2 ρ2 =>
        obtain ⟨rfl, rfl, hil, hm⟩ := setM_ok q
        rw [q] at e
        have s1 := set_val st hil hm r0
        have hi0 := hi i List.mem_cons_self
        have hv' : ∀ j ∈ vs, markB (ρ.set i (.val d)) j = false ∧ ownD (ρ.set i (.val d)) j = none := fun j hj => by
          by_cases z : i = j
          · subst z; rw [markB_at hil, ownD_at hil]; exact ⟨rfl, rfl⟩
          · rw [markB_ne z, ownD_ne z]; exact hv j hj
        obtain ⟨a1, a2, a3, a4, a5⟩ := ih (σ := σ.set i (some v)) s1.st (fun j hj => hi j (List.mem_cons_of_mem _ hj)) hv' (r) e
        · refine ⟨by simp [a1], a2, fun j hj => ?_, fun j hj => ?_, a5⟩
          · have z : i ≠ j := fun z => hj (z ▸ hi0)
            rw [a3 j hj]
            exact List.getElem?_set_ne z
          · have z : i ≠ j := fun z => hj (z ▸ hi0)
            show (setAllV (σ.set i (some v)) is xs)[j]? = _
            rw [a4 j hj]
            exact List.getElem?_set_ne z
theorem gNames_ok {is : List Nat} {xs : List V} {Q : St → Hp → Prop} (hl : xs.length = is.length) (h : Q (setAllV σ is xs) H) : gNames is xs σ H Q := by
  induction is generalizing xs σ with
  | nil => cases xs with
    | nil => exact ⟨rfl, h⟩
    | cons _ _ => cases hl
  | cons i is ih => cases xs with
    | nil => cases hl
    | cons x xs => exact ⟨x, xs, rfl, ih (by simpa using hl) h⟩
/-- a turn's target -/
theorem ct_ok {ct : CT} {d : D} {x : V} {f : Fl} {Q : St → Hp → Prop} (st : StRel C S ρ σ H) (hi : ∀ i ∈ ct.ixs, i ∈ vs) (hv : ∀ j ∈ vs, markB ρ j = false ∧ ownD ρ j = none) (r : Rep C.K S x d) (e : ctG ct d ρ = .ok f ρ')
    (k : ∀ σb, StRel C S ρ' σb H → (∀ j : Nat, j ∉ vs → ρ'[j]? = ρ[j]?) → (∀ j : Nat, j ∉ vs → σb[j]? = σ[j]?) → (∀ j ∈ vs, ownD ρ' j = none) → wipe σb vs = wipe σ vs → σb.length = σ.length → Q σb H) : gCT C.K ct x σ H Q := by
  cases ct with
  | one i =>
    have hi0 := hi i (List.mem_cons_self)
    obtain ⟨rfl, rfl, hil, hm⟩ := setM_ok (show setM i (.val d) ρ = .ok f ρ' from e)
    have s1 := set_val st hil hm r
    refine k (σ.set i (some x)) s1.st (fun j hj => List.getElem?_set_ne fun z => hj (by rw [← z]; exact hi0)) (fun j hj => List.getElem?_set_ne fun z => hj (by rw [← z]; exact hi0)) (fun j hj => ?_) (wipe_set hi0) (List.length_set ..)
    by_cases z : i = j
    · subst z; rw [ownD_at hil]
    · rw [ownD_ne z]; exact (hv j hj).2
  | many is =>
    cases d with
    | tup ds =>
      have e : (if ds.length = (is.map nameG).length then seqG (is.map nameG) ds else M.stuck) ρ = .ok f ρ' := e
      split at e
      · cases r with
        | tup h1 h2 =>
          rename_i a xs
          obtain ⟨a1, a2, a3, a4, a5⟩ := names_ok st hi hv h2 e
          refine ⟨a, xs, rfl, same_t st.same h1, a1, gNames_ok a1 (k _ a2 a3 a4 (fun j hj => (a5 j hj).2) (wipe_setAll hi) ?_)⟩
          have hl : wipe (setAllV σ is xs) vs = wipe σ vs := wipe_setAll hi
          have h3 := congrArg List.length hl
          rw [wipe_length, wipe_length] at h3
          exact h3
      · cases e
    | _ => cases e
end
section
variable {X : Cx} {C : Cfg} {W : WX} {cf : CF} {T : List (Str × Nat)} {e a b c o tg elt iter : Expr} {es ifs : List Expr} {ma mb mc el : M RV} {ms : List (M RV)} {pos p py spos : Pos} {x y : Str} {i j : Nat} {src : M (List D)} {ct : CT} {t : M Bool} {vs : List Nat}
theorem vc_one (vx : Vx X C W cf T) (i : Nat) (hi : X.N[i]? = some x := by rfl) (hx : Loc X.env.scope x := by first | exact Or.inl rfl | exact Or.inr rfl) (hf : X.fn x = true ∨ X.env.scope.names.lookup x = some .local := by first | exact .inl rfl | exact .inr rfl | assumption) : VC X (.one i) (.Name x p) := ⟨pg_name vx.nd hi hx hf⟩
theorem vcs_nil : VCs X [] [] := ⟨pgs_nil⟩
theorem vcs_cons {is : List Nat} (vx : Vx X C W cf T) (i : Nat) (h2 : VCs X is es) (hi : X.N[i]? = some x := by rfl) (hx : Loc X.env.scope x := by first | exact Or.inl rfl | exact Or.inr rfl) (hf : X.fn x = true ∨ X.env.scope.names.lookup x = some .local := by first | exact .inl rfl | exact .inr rfl | assumption)
    (hs : (assignEach (.Name x p :: es) X.env).map (·.2) = assign (.Name x p) X.env :: (assignEach es X.env).map (·.2) := by rfl) : VCs X (i :: is) (.Name x p :: es) := ⟨pgs_cons (pg_name vx.nd hi hx hf) h2.pgs hs⟩
theorem vc_many {is : List Nat} {k : Nat} (vx : Vx X C W cf T) (h : VCs X is es) (hn : (assignEach es X.env).length = is.length := by rfl) (hst : (assignEach es X.env).findIdx? (·.1) = none := by rfl) : VC X (.many is) (.Tuple es k p) := ⟨pg_tup vx.calm h.pgs hn hst⟩
theorem vts_nil : VTs X C W [] (pure true) := ⟨⟨fun pins s σ H Q I h => pts_nil.run pins s σ H Q I (by
  obtain ⟨S, ρ, st, g⟩ := h
  exact Good.pureB st g)⟩⟩
theorem vts_one {c : Expr} (h : VT X C W c t) : VTs X C W [c] t := ⟨pts_one h.pt⟩
theorem Vx.blk (vx : Vx X C W cf T) (s : Shared) (H : Hp) (scope : Scope) (cenv : PySem.Env) (fp : List Addr) : Vx (X.blk s H scope cenv fp) C W0 cf T :=
  ⟨vx.K, vx.calm, takes0, vx.nd, vx.hu, PassesOwn.never, vx.tab⟩
theorem tE_lc (hi : ∀ i ∈ ct.ixs, i ∈ vs) {σ : St} {H : Hp} {Q : VK} (h : tE C W (lcM src ct t el vs) σ H Q) : tLc (tI C W src) (gCT C.K ct) (tT C W0 t) (tE C W0 el) vs σ H Q := by
  obtain ⟨S, ρ, st, g⟩ := h
  refine ⟨S, ρ, st, Good.bnd RVr.back g fun ds ρ1 S1 H1 J _ e1 r1 g1 => fun P nP => ?_⟩
  obtain ⟨G, Y, wk, hG, hY⟩ := r1
  have g1 : Good C W σ S1 ρ1 H1 (if ds.length ≤ LIM then match lcLoop ct t el vs ds [] (wipeE ρ1 vs) with
    | .ok acc ρ2 => Res.ok (RV.own (.lst acc)) (restoreE ρ1 ρ2 vs)
    | _ => .stuck
    else .stuck) (RVr C σ) Q := g1
  by_cases hz : ds.length ≤ LIM
  · rw [if_pos hz] at g1
    cases qL : lcLoop ct t el vs ds [] (wipeE ρ1 vs) with
    | stuck => rw [qL] at g1; exact g1.elim
    | exc x r => rw [qL] at g1; exact g1.elim
    | ok accF ρF =>
      rw [qL] at g1
      have g1 : ∀ S' H' b, Stp C σ S1 ρ1 H1 S' (restoreE ρ1 ρF vs) H' → RVr C σ ρ1 H1 (.own (.lst accF)) S' (restoreE ρ1 ρF vs) H' b → Q b H' := g1
      have stw := wipe_st (vs := vs) e1.st
      have nS1 : S1 P = none := e1.st.same.free nP
      have nO : ¬ OwnA (wipeE ρ1 vs) (wipe σ vs) P := fun ⟨j, d, a, b⟩ => by
        obtain ⟨q, x1, x2, x3⟩ := stw.own j d a
        rw [b] at x1; cases x1
        obtain ⟨o, ho⟩ := x3.ex
        rw [nP] at ho; cases ho
      refine lc_it wk (fun i H' => ∃ S' ρ' ys acc, Stp C (wipe σ vs) S1 (wipeE ρ1 vs) H1 S' ρ' H' ∧ (∀ j ∈ vs, markB ρ' j = false ∧ ownD ρ' j = none) ∧ H' P = some (.lst ys) ∧ S' P = none ∧ Reps C.K S' ys acc ∧ acc.length ≤ i ∧ lcLoop ct t el vs (ds.drop i) acc ρ' = .ok accF ρF)
        ⟨S1, wipeE ρ1 vs, [], [], add_stp stw (Same.refl _) (upd_Same nP) (stw.same.trans (upd_Same nP)) (fun p a b => absurd a b), fun j hj => ⟨(wiped hj).2.2, (wiped hj).1⟩, upd_same, nS1, .nil, Nat.le_refl _, qL⟩
        (fun i H' _ ⟨S', ρ', ys, acc, h1, _⟩ => hG _ (h1.ext.sS.trans h1.st.same)) ?_ ?_
      · rintro i x H' H2 hin ⟨S', ρ', ys, acc, h1, h2, h3, h4, h5, h6, h7⟩ y
        obtain ⟨S2, d, a1, a2, a3, a4, a5, a6⟩ := hY i H' x H2 S' h1.ext.sS h1.st.same hin y
        have e2 := add_stp h1.st a1 a2 a3 a4
        have ed : ds.drop i = d :: ds.drop (i + 1) := by
          rw [List.drop_eq_getElem_cons hin]
          congr 1
          rw [List.getElem?_eq_getElem hin] at a5
          exact Option.some.inj a5
        rw [ed] at h7
        have h7 : ((ctG ct d ρ').bnd fun _ => t >>= fun k => if k = true then fzM el >>= fun y => fun ρ => lcLoop ct t el vs (ds.drop (i + 1)) (acc ++ [y]) (wipeE ρ vs) else fun ρ => lcLoop ct t el vs (ds.drop (i + 1)) acc (wipeE ρ vs)) = .ok accF ρF := h7
        cases qc : ctG ct d ρ' with
        | stuck => rw [qc] at h7; cases h7
        | exc x r => rw [qc] at h7; cases h7
        | ok f ρb =>
          rw [qc] at h7
          refine ct_ok e2.st hi h2 a6 qc fun σb stb b1 b2 b3 b4 b5 => ⟨by rw [b4, wipe_wipe], S2, ρb, stb, ?_⟩
          have nP' : ¬ OwnA ρb σb P := fun ⟨j, d', x1, x2⟩ => by
            have m : j ∉ vs := fun m => by rw [b3 j m] at x1; cases x1
            rw [own_get (b1 j m)] at x1
            rw [b2 j m] at x2
            obtain ⟨d2, x3⟩ := h1.sub j d' x1
            exact nO ⟨j, d2, x3, x2⟩
          have keepP : ∀ {S4 ρ4 H4}, Stp C σb S2 ρb H2 S4 ρ4 H4 → H4 P = some (.lst ys) ∧ S4 P = none := fun {S4 ρ4 H4} e4 => by
            refine ⟨e4.ext.keep P _ nP' (a2 _ _ h3), ?_⟩
            cases q : S4 P with
            | none => rfl
            | some u =>
              have s2 : S2 P = none := by
                cases q2 : S2 P with
                | none => rfl
                | some u2 =>
                  have z := a4 P h4 (by rw [q2]; simp)
                  rw [h3] at z; cases z
              rcases e4.ext.grow P s2 (by rw [q]; simp) with z | z
              · exact absurd z nP'
              · rw [a2 _ _ h3] at z; cases z
          have back : ∀ {S4 ρ4 H4}, Stp C σb S2 ρb H2 S4 ρ4 H4 → Stp C (wipe σ vs) S1 (wipeE ρ1 vs) H1 S4 (wipeE ρ4 vs) H4 := fun {S4 ρ4 H4} e4 =>
            (h1.trans e2).trans (wipe_stp e4 b1 b2 b3 (fun j hj => (h2 j hj).1) b5)
          have h7 : ((t ρb).bnd fun k => if k = true then fzM el >>= fun y => fun ρ => lcLoop ct t el vs (ds.drop (i + 1)) (acc ++ [y]) (wipeE ρ vs) else fun ρ => lcLoop ct t el vs (ds.drop (i + 1)) acc (wipeE ρ vs)) = .ok accF ρF := h7
          cases qt : t ρb with
          | stuck => rw [qt] at h7; cases h7
          | exc x r => rw [qt] at h7; cases h7
          | ok k ρ3 =>
            rw [qt] at h7
            intro S3 H3 k' e3 ek
            cases ek
            cases k with
            | false =>
              rw [if_neg Bool.false_ne_true]
              obtain ⟨c1, c2⟩ := keepP e3
              exact ⟨S3, wipeE ρ3 vs, ys, acc, back e3, fun j hj => ⟨(wiped hj).2.2, (wiped hj).1⟩, c1, c2, h5.mono (a1.trans e3.ext.sS), Nat.le_succ_of_le h6, h7⟩
            | true =>
              rw [if_pos rfl]
              have h7 : ((fzM el ρ3).bnd fun y => fun ρ => lcLoop ct t el vs (ds.drop (i + 1)) (acc ++ [y]) (wipeE ρ vs)) = .ok accF ρF := h7
              refine ⟨S3, ρ3, e3.st, Good.fz ?_⟩
              cases qe : fzM el ρ3 with
              | stuck => rw [qe] at h7; cases h7
              | exc x r => rw [qe] at h7; cases h7
              | ok z ρ4 =>
                rw [qe] at h7
                intro S4 H4 v e4 rz
                have e34 := e3.trans e4
                obtain ⟨c1, c2⟩ := keepP e34
                have hlen : ys.length < sizeLine := by
                  have h8 := h5.len
                  rw [← LIM_eq]
                  omega
                refine ⟨ys, c1, hlen, S4, wipeE ρ4 vs, ys ++ [v], acc ++ [z], ?_, fun j hj => ⟨(wiped hj).2.2, (wiped hj).1⟩, upd_same, c2, (h5.mono (a1.trans e34.ext.sS)).app (.cons rz .nil), ?_, h7⟩
                · have bk := back e34
                  refine ⟨⟨bk.ext.sS, fun p o np hp => ?_, bk.ext.grow⟩, ⟨fun b u hb => ?_, bk.st.len, bk.st.val, fun j d' hj => ?_, bk.st.dis⟩, bk.sub, bk.mrk⟩
                  · rw [upd_ne (ne_of_none hp nP)]; exact bk.ext.keep p o np hp
                  · rw [upd_ne (ne_of_none hb c2)]; exact bk.st.same b u hb
                  · obtain ⟨q, x1, x2, x3⟩ := bk.st.own j d' hj
                    have hq : q ≠ P := fun z => by
                      obtain ⟨d2, x4⟩ := bk.sub j d' hj
                      exact nO ⟨j, d2, x4, z ▸ x1⟩
                    exact ⟨q, x1, x2, x3.mono (Same.refl _) fun u hu => by rw [upd_ne hq]; exact hu⟩
                · simp; omega
      · rintro H' ⟨S', ρ', ys, acc, h1, h2, h3, h4, h5, h6, h7⟩
        rw [List.drop_length] at h7
        have h7 : Res.ok acc ρ' = .ok accF ρF := h7
        cases h7
        have rs := restore_stp e1.st h1
        refine g1 S' H' _ rs ⟨P, rfl, h4, ⟨ys, h3, h5⟩, fun ⟨j, d, x1, x2⟩ => ?_, .inr nP⟩
        obtain ⟨d2, x3⟩ := rs.sub j d x1
        obtain ⟨q, y1, y2, y3⟩ := e1.st.own j d2 x3
        rw [x2] at y1; cases y1
        obtain ⟨o, ho⟩ := y3.ex
        rw [nP] at ho; cases ho
  · rw [if_neg hz] at g1; exact g1.elim
theorem ve_lc (vx : Vx X C W cf T) {scope : Scope} {own : List (Str × Nat)} (hvs : own.map (·.2) = vs) (hix : ∀ i ∈ ct.ixs, i ∈ vs) (hi : VI X C W tg iter src) (ok : BlkOk X.N X.env.scope scope own)
    (h : ∀ (s : Shared) (H : Hp) (P : Addr) (cl : List (Str × Addr)) (fp : List Addr), Vx (X.blk s H scope (compEnvC scope cl P X.env) fp) C W0 cf T → VC (X.blk s H scope (compEnvC scope cl P X.env) fp) ct tg ∧ VTs (X.blk s H scope (compEnvC scope cl P X.env) fp) C W0 ifs t ∧ VE (X.blk s H scope (compEnvC scope cl P X.env) fp) C W0 elt el)
    (hs : ∀ x, foldedSetIterable iter X.env x = pure x := by intro _; rfl) : VE X C W (.ListComp elt [⟨tg, iter, ifs, 0⟩] scope pos) (lcM src ct t el vs) := by
  subst hvs
  refine ⟨PE.imp (pe_lc vx.calm vx.nd hi.pi ok (g := gCT C.K ct) (fun s H P cl fp => ?_) (fun s H P cl fp => (h s H P cl fp (vx.blk ..)).2.1.pts) (fun s H P cl fp => (h s H P cl fp (vx.blk ..)).2.2.pe) hs) fun σ H Q q => tE_lc hix q⟩
  have z := (h s H P cl fp (vx.blk ..)).1.pg
  have ek : (X.blk s H scope (compEnvC scope cl P X.env) fp).K = C.K := vx.K
  rw [ek] at z
  exact z
/-- name = [..] on one line -/
theorem vs_setLc (vx : Vx X C W cf T) (hy : X.N[i]? = some y) (hyl : X.env.scope.names.lookup y = some .local) {scope : Scope} {own : List (Str × Nat)} (hsw : swapsWith (.ListComp elt [⟨tg, iter, ifs, 0⟩] scope pos) (some (.Name y py)) spos.line X.env = pure true) (hvs : own.map (·.2) = vs) (hix : ∀ i ∈ ct.ixs, i ∈ vs) (hi : VI X C W tg iter src) (ok : BlkOk X.N X.env.scope scope own)
    (h : ∀ (s : Shared) (H : Hp) (P : Addr) (cl : List (Str × Addr)) (fp : List Addr), Vx (X.blk s H scope (compEnvC scope cl P X.env) fp) C W0 cf T → VC (X.blk s H scope (compEnvC scope cl P X.env) fp) ct tg ∧ VTs (X.blk s H scope (compEnvC scope cl P X.env) fp) C W0 ifs t ∧ VE (X.blk s H scope (compEnvC scope cl P X.env) fp) C W0 elt el)
    (hs : ∀ x, foldedSetIterable iter X.env x = pure x := by intro _; rfl) : VS X C W (.Assign [.Name y py] (.ListComp elt [⟨tg, iter, ifs, 0⟩] scope pos) spos) (asgS i (lcM src ct t el vs)) := by
  subst hvs
  refine ⟨PS.imp (ps_setLc vx.calm vx.nd hy hyl hsw hi.pi ok (g := gCT C.K ct) (fun s H P cl fp => ?_) (fun s H P cl fp => (h s H P cl fp (vx.blk ..)).2.1.pts) (fun s H P cl fp => (h s H P cl fp (vx.blk ..)).2.2.pe) hs) fun D' σ H q => tE_lc hix (tS_asg q)⟩
  have z := (h s H P cl fp (vx.blk ..)).1.pg
  have ek : (X.blk s H scope (compEnvC scope cl P X.env) fp).K = C.K := vx.K
  rw [ek] at z
  exact z
end
end VL

/-! VL part j: enumerate and zip over lists, tuples and texts. -/
namespace VL
open PySem L2 PySem.Spec PyProof

theorem begin1 {v : Value} {o : Obj} {Hh : Heap → Prop} (B : Begins v o Hh) :
    Meets (Builtin.«enumerate.__new__» ⟨[.type "enumerate", v], []⟩) (fun _ R s => Hh s.heap ∧
      R (.ok (.ret (.ref (s.heap.push o).objs.size))) { s with heap := (s.heap.push o).push { cls := .type "enumerate", data := .fields #[.none, .bool false, .ref s.heap.objs.size, rawInt 0, .none, .none] } }) :=
  .of_wp fun prog w A R s h => by
    obtain ⟨hp, gs, dr, tk, os⟩ := s
    obtain ⟨h1, h⟩ := h
    have hsub := sub_enumerate
    have q1 : ∀ {A' : Around} {E : Value → Shared → Prop} {Q : Value → Shared → Prop}, Q (.ref hp.objs.size) ⟨hp.push o, gs, dr, tk, os⟩ → wpAny (model prog w) A' (pyIter v) Q E ⟨hp, gs, dr, tk, os⟩ :=
      fun q => B.iter prog w _ _ ⟨hp, gs, dr, tk, os⟩ _ h1 q
    wp_walk using q1
    refine wpAny_stack_any fun st => wpAny_pure ?_
    split
    · rename_i c _ _ _ _ _
      cases (c == Value.type "enumerate") <;> (wp_walk using q1; exact ⟨_, rfl, h⟩)
    · wp_walk using q1
      exact ⟨_, rfl, h⟩
end VL

/-! VL part j: enumerate and zip over lists, tuples and texts. -/
namespace VL
open PySem L2 PySem.Spec PyProof

theorem call_enum1 {prog : Program} {w : World} {A : Around} {E : Value → Shared → Prop} {s : Shared} {v : Value} {o : Obj} {Hh : Heap → Prop} {Q : Value → Shared → Prop} (B : Begins v o Hh) (h1 : Hh s.heap)
    (h : ∀ h', IsEnum h' (s.heap.objs.size + 1) s.heap.objs.size 0 .none → h'.get? s.heap.objs.size = some o → h'.objs.size = s.heap.objs.size + 2 → (∀ b u, s.heap.get? b = some u → h'.get? b = some u) → Q (.ref (s.heap.objs.size + 1)) { s with heap := h' }) :
    wpAny (model prog w) A (call (.type "enumerate") [v]) Q E s := by
  refine callType_new F.called_enumerate (by decide) (F.typeCall_enumerate_1 _) (F.newCall_enumerate_1 _) (fun obj => F.args_object_init_2 obj _) F.entry_enumerate_new (begin1 B) ⟨h1, ?_⟩
  have hz : (s.heap.push o).objs.size = s.heap.objs.size + 1 := Heap.size_push ..
  show _ ∧ _
  rw [hz]
  have he := Heap.get?_push_size (s.heap.push o) (o := { cls := .type "enumerate", data := .fields #[.none, .bool false, .ref s.heap.objs.size, rawInt 0, .none, .none] }) rfl
  rw [hz] at he
  exact ⟨⟨_, he, rfl⟩, h _ he (Heap.get?_push_of_some _ (Heap.get?_push_size _ B.free)) (by rw [Heap.size_push, hz]) fun b u x => Heap.get?_push_of_some _ (Heap.get?_push_of_some _ x)⟩

/-- what is drawn: the list at a, the tuple at a, a text -/
inductive SK where
  | l (a : Addr) | t (a : Addr) | s (x : Str) (tk : Tok)
def SK.at (h : Heap) (it : Addr) (i : Nat) : SK → Prop
  | .l a => h.IsListIter it a i
  | .t a => h.IsTupleIter it a i
  | .s x tk => h.IsStrIter it (strIterType x) x tk i
def signs (x : Str) : List V := x.cps.toList.map fun c => V.str ⟨#[c]⟩
def SK.has (K : PySem.W.Frag) (H : Hp) (xs : List V) : SK → Prop
  | .l a => SqL K H a xs
  | .t a => SqT K H a xs
  | .s x _ => xs = signs x
def SK.obj : SK → Obj
  | .l a => { cls := .type "list_iterator", data := .fields #[.ref a, .int 0 0] }
  | .t a => { cls := .type "tuple_iterator", data := .fields #[.ref a, .int 0 0] }
  | .s x tk => { cls := .type (strIterType x), data := .fields #[.str x tk, .int 0 0] }
def SK.val : SK → Value
  | .l a => .ref a
  | .t a => .ref a
  | .s x tk => .str x tk
section
variable {X : Cx} {pins : List (Addr × Obj)} {σ : L2.St} {H : Hp} {s : Shared} {k : SK} {xs ys : List V} {it : Addr} {i : Nat}
theorem SK.inj (I : L2.Inv X pins σ H s) (h : k.has X.K H xs) (h' : k.has X.K H ys) : xs = ys := by
  cases k with
  | l a => exact I.list_inj h h'
  | t a => exact I.tuple_inj h h'
  | s x tk => exact (show xs = _ from h).trans (show ys = _ from h').symm
theorem SK.at_keep {h h' : Heap} (x : k.at h it i) (e : ∀ o, h.get? it = some o → h'.get? it = some o) : k.at h' it i := by
  cases k with
  | l a => exact Heap.IsListIter.at x e
  | t a => exact Heap.IsTupleIter.at x e
  | s y tk =>
    obtain ⟨o, ho, r⟩ := (show h.IsStrIter it (strIterType y) y tk i from x)
    exact ⟨o, e o ho, r⟩
theorem SK.at_obj {h : Heap} (x : k.at h it i) : ∃ o, h.get? it = some o ∧ ∀ v, o.data ≠ .cell v := by
  cases k with
  | l a => obtain ⟨o, e, c, d⟩ := (show h.IsListIter it a i from x); exact ⟨o, e, fun v z => by rw [d] at z; cases z⟩
  | t a => obtain ⟨o, e, c, d⟩ := (show h.IsTupleIter it a i from x); exact ⟨o, e, fun v z => by rw [d] at z; cases z⟩
  | s y tk => obtain ⟨o, e, c, d⟩ := (show h.IsStrIter it (strIterType y) y tk i from x); exact ⟨o, e, fun v z => by rw [d] at z; cases z⟩
theorem SK.at_first {h : Heap} (e : h.get? it = some k.obj) : k.at h it 0 := by
  cases k with
  | l a => exact ⟨_, e, rfl, rfl⟩
  | t a => exact ⟨_, e, rfl, rfl⟩
  | s x tk => exact ⟨_, e, rfl, rfl⟩
theorem SK.begins (I : L2.Inv X pins σ H s) (h : k.has X.K H xs) : ∃ Hh, Begins k.val k.obj Hh ∧ Hh s.heap := by
  cases k with
  | l a => obtain ⟨its, r, p, _⟩ := I.list h; exact ⟨_, begins_list a its.toArray, p.isList⟩
  | t a => obtain ⟨its, r, p, _⟩ := I.tuple h; exact ⟨_, begins_tuple a its.toArray, p⟩
  | s x tk => exact ⟨_, begins_text x tk, trivial⟩
/-- what stands tracked or written is no untracked record of the loop's -/
theorem fp_ne {a c : Addr} {o : Obj} (I : L2.Inv X pins σ H s) (f : FpOk X pins H c) (h : (∃ u, H a = some u) ∨ X.K.lookup a = some o) : a ≠ c := by
  rintro rfl
  obtain ⟨f0, f1, f2, f3, _⟩ := f
  rcases h with ⟨u, h⟩ | h
  · rw [f0] at h; cases h
  · have hb := I.mod.kin a o h
    rcases f3 with f3 | f3
    · exact I.ok.noex a o hb f3
    · exact absurd (Nat.lt_of_lt_of_le (Heap.lt_size hb) (Nat.le_trans I.ok.bsz f3)) (Nat.lt_irrefl _)
theorem SK.draws {A : Around} (hh : A.handled = none) (I : L2.Inv X pins σ H s) (f : FpOk X pins H it) (h : k.has X.K H xs) (hit : k.at s.heap it i) : ∃ (fp : List Addr) (P : Nat → Value → Prop) (Sx : Nat → Heap → Prop),
    Draws X.prog X.w A it fp xs.length P Sx ∧ (∀ j, k.at s.heap it j → Sx j s.heap) ∧ (∀ j h, Sx j h → k.at h it j) ∧ (∀ j v, P j v → ∃ x, xs[j]? = some x ∧ RelV x v) ∧ it ∈ fp ∧ ∀ b ∈ fp, ∀ c, FpOk X pins H c → c ≠ it → b ≠ c := by
  cases k with
  | l a =>
    obtain ⟨its, r, p, _⟩ := I.list h
    have ne : ∀ c, FpOk X pins H c → a ≠ c := fun c fc => by
      rcases (show SqL X.K H a xs from h) with (z | ⟨o, z⟩) | ⟨o, _, _, z, _⟩
      · exact fp_ne (o := .mk .none none (.fields #[]) #[]) I fc (.inl ⟨_, z⟩)
      · exact fp_ne (o := .mk .none none (.fields #[]) #[]) I fc (.inl ⟨_, z⟩)
      · exact fp_ne I fc (.inr z)
    refine ⟨[it, a], fun i v => its.toArray[i]? = some v, fun i h => h.IsListIter it a i ∧ h.IsList a its.toArray, by rw [r.length]; have z := Draws.list (prog := X.prog) (w := X.w) hh it a (ne it f) its.toArray; rw [List.size_toArray] at z; exact z, fun j hj => ⟨hj, p.isList⟩, fun j h x => x.1, fun j v hv => ?_, by simp, fun b hb c fc nc => ?_⟩
    · have hv : its[j]? = some v := by simpa using hv
      have hjx : j < xs.length := by rw [r.length]; exact (List.getElem?_eq_some_iff.mp hv).1
      obtain ⟨u, h1, h2⟩ := r.get (List.getElem?_eq_getElem hjx)
      rw [hv] at h1; cases h1
      exact ⟨_, List.getElem?_eq_getElem hjx, h2⟩
    · have hb' : b = it ∨ b = a := by simpa using hb
      rcases hb' with z | z
      · rw [z]; exact nc.symm
      · rw [z]; exact ne c fc
  | t a =>
    obtain ⟨its, r, p, _⟩ := I.tuple h
    have ne : ∀ c, FpOk X pins H c → a ≠ c := fun c fc => by
      rcases (show SqT X.K H a xs from h) with (z | ⟨o, z⟩) | ⟨o, _, _, z, _⟩
      · exact fp_ne (o := .mk .none none (.fields #[]) #[]) I fc (.inl ⟨_, z⟩)
      · exact fp_ne (o := .mk .none none (.fields #[]) #[]) I fc (.inl ⟨_, z⟩)
      · exact fp_ne I fc (.inr z)
    refine ⟨[it, a], fun i v => its.toArray[i]? = some v, fun i h => h.IsTupleIter it a i ∧ h.IsTuple a its.toArray, by rw [r.length]; have z := Draws.tuple (prog := X.prog) (w := X.w) hh it a (ne it f) its.toArray; rw [List.size_toArray] at z; exact z, fun j hj => ⟨hj, p⟩, fun j h x => x.1, fun j v hv => ?_, by simp, fun b hb c fc nc => ?_⟩
    · have hv : its[j]? = some v := by simpa using hv
      have hjx : j < xs.length := by rw [r.length]; exact (List.getElem?_eq_some_iff.mp hv).1
      obtain ⟨u, h1, h2⟩ := r.get (List.getElem?_eq_getElem hjx)
      rw [hv] at h1; cases h1
      exact ⟨_, List.getElem?_eq_getElem hjx, h2⟩
    · have hb' : b = it ∨ b = a := by simpa using hb
      rcases hb' with z | z
      · rw [z]; exact nc.symm
      · rw [z]; exact ne c fc
  | s x tk =>
    have ex : xs = signs x := h
    subst ex
    refine ⟨[it], fun i v => ∃ c u, x.cps[i]? = some c ∧ v = .str ⟨#[c]⟩ u, fun i h => h.IsStrIter it (strIterType x) x tk i, by have z := Draws.text (prog := X.prog) (w := X.w) hh it x tk; unfold signs; rw [List.length_map, Array.length_toList]; exact z, fun j hj => hj, fun j h x => x, fun j v ⟨c, u, h1, h2⟩ => ?_, by simp, fun b hb c fc nc => ?_⟩
    · refine ⟨.str ⟨#[c]⟩, ?_, u, h2⟩
      unfold signs
      rw [List.getElem?_map, Array.getElem?_toList, h1]; rfl
    · have hb' : b = it := by simpa using hb
      rw [hb']; exact nc.symm

/-! ### enumerate -/
def IteX (K : PySem.W.Frag) (k : SK) : It :=
  ⟨fun i H => ∃ (xs : List V) (x : V), k.has K H xs ∧ xs[i]? = some x, fun i H v H' => ∃ T x, v = .ref T ∧ H T = none ∧ H' = upd H T (.tup [.int (i : Nat), x]) ∧ ∀ xs, k.has K H xs → xs[i]? = some x, fun i H => ∃ xs : List V, k.has K H xs ∧ xs.length = i⟩
theorem turn_enumX {P : Program} {w : World} {K : PySem.W.Frag} {elts : List Expr} {kk : Nat} {tpos : Pos} (k : SK) (e it : Addr) :
    Turn P w K (.Tuple elts kk tpos) (IteX K k) [e, it] e (fun i h => (∃ old, IsEnum h e it ((i : Nat) : Int) old) ∧ k.at h it i ∧ e ≠ it) where
  mem := by simp
  obj := fun i h st b hb => by
    obtain ⟨⟨old, he⟩, hi, _⟩ := st
    have e' : b = e ∨ b = it := by simpa using hb
    rcases e' with z | z
    · rw [z]; exact ⟨_, he, fun v q => nomatch q⟩
    · rw [z]; exact SK.at_obj hi
  keep := fun i h h' st kp => let ⟨⟨old, he⟩, hi, hne⟩ := st; ⟨⟨old, kp e (by simp) _ he⟩, SK.at_keep hi fun o q => kp it (by simp) o q, hne⟩
  item := by
    intro X hP hw hK hc i pins s σ H E I hf st hg
    subst hP hw hK
    obtain ⟨⟨old, he⟩, hit, hne⟩ := st
    obtain ⟨xs, x, hq, hx⟩ := hg
    obtain ⟨fp, Pp, Sx, D, d1, d2, d3, d4, d5⟩ := SK.draws (A := X.A.in1) (I.ok.hd hc) I (hf it (by simp)) hq hit
    have hel : e < s.heap.objs.size := Heap.lt_size he
    have hil : it < s.heap.objs.size := by obtain ⟨_, q, _⟩ := SK.at_obj hit; exact Heap.lt_size q
    have hef : e ∉ fp := fun z => d5 e z e (hf e (by simp)) hne rfl
    refine wpAny_pyNext_enum_itemC D he (d1 i hit) ((List.getElem?_eq_some_iff.mp hx).1) hne hef fun u h' tk hPu ho hS hT hsz hk => ?_
    obtain ⟨x', hx', ru⟩ := d3 i u hPu
    have ex : x' = x := Option.some.inj (hx'.symm.trans hx)
    subst ex
    refine ⟨_, rfl, wpAny_letOwnedTupleGo_enum (s := { s with heap := h', toks := tk + 1 }) ho fun h'' he' sb => ?_⟩
    have hT2 : h''.get? s.heap.objs.size = some { cls := .type "tuple", data := .seq #[.int (i : Int) tk, u] } := (sb.2 _ (Nat.ne_of_gt hel)).trans hT
    have new : ObjOk X.prog X.w (upd H s.heap.objs.size (.tup [.int (i : Nat), x'])) h'' s.heap.objs.size (.tup [.int (i : Nat), x']) :=
      ⟨by show 2 ≤ sizeLine; decide, [.int i tk, u], .cons ⟨_, rfl⟩ (.cons ru .nil), ⟨_, hT2, rfl, _, rfl⟩⟩
    have I1 : L2.Inv X pins σ (upd H s.heap.objs.size (.tup [.int (i : Nat), x'])) { s with heap := h'', toks := tk + 1 } :=
      I.turnedNew (ch := [e, it]) (fun b ob hb q => (sb.2 b (fun z => hb (by simp [z]))).trans (hk b ob (fun z => hb (by simp [z])) (fun z => hb (by simp [z])) q)) hf (Nat.le_refl _) new
    refine ⟨.ref s.heap.objs.size, _, I1, rfl, ⟨_, x', rfl, I.hok.fresh (Nat.le_refl _), rfl, fun zs hz => by rw [SK.inj I hz hq]; exact hx⟩, ⟨⟨u, ?_⟩, SK.at_keep (d2 _ _ hS) fun o q => (sb.2 it (Ne.symm hne)).trans q, hne⟩, fun b hb => ?_⟩
    · have e1 : ((i + 1 : Nat) : Int) = (i : Int) + 1 := by omega
      rw [e1]; exact he'
    · have hb' : b < s.heap.objs.size := by
        have e' : b = e ∨ b = it := by simpa using hb
        rcases e' with z | z
        · rw [z]; exact hel
        · rw [z]; exact hil
      rw [upd_ne (Nat.ne_of_lt hb')]
      exact (hf b hb).1
  done := by
    intro X hP hw hK hc i pins s σ H E I hf st hg
    subst hP hw hK
    obtain ⟨⟨old, he⟩, hit, hne⟩ := st
    obtain ⟨xs, hq, hx⟩ := hg
    obtain ⟨fp, Pp, Sx, D, d1, d2, d3, d4, d5⟩ := SK.draws (A := X.A.in1) (I.ok.hd hc) I (hf it (by simp)) hq hit
    obtain ⟨f0, f1, f2, f3, f4, f5⟩ := hf it (by simp)
    subst hx
    exact wpAny_pyNext_enum_endD D he (d1 _ hit) fun h' eb => ⟨rfl, I.turned (t' := s.toks) (fun b o hb q => eb b o hb q) f0 f1 f3 f4 f5⟩
  self := fun A i s Q E st h => let ⟨⟨_, he⟩, _⟩ := st; wpAny_pyIter_enum he h
theorem walk_enumX {K : PySem.W.Frag} : Walk (IteX K k) xs.length (fun H => k.has K H xs) (YPair (fun i => some (.int (i : Nat))) (fun i => xs[i]?)) := by
  refine ⟨fun i _ hi q => ⟨xs, xs[i], q, by simp [hi]⟩, fun _ q => ⟨xs, q, rfl⟩, fun i H v H' _ q y => ?_⟩
  obtain ⟨T, x, h1, h2, h3, h4⟩ := y
  exact ⟨T, .int (i : Nat), x, h1, h2, h3, rfl, h4 xs q⟩
/-- the value is drawn as k -/
def SK.rel (v : V) (k : SK) : Prop := match k with
  | .l a => v = .ref a
  | .t a => v = .ref a
  | .s x tk => v = .str x
/-- the same thing, but for a text's token -/
inductive SK.sim : SK → SK → Prop
  | l {a} : SK.sim (.l a) (.l a)
  | t {a} : SK.sim (.t a) (.t a)
  | s {x t u} : SK.sim (.s x t) (.s x u)
theorem SK.sim.has {k k' : SK} {K : PySem.W.Frag} {H : Hp} {xs : List V} (m : SK.sim k k') (h : k.has K H xs) : k'.has K H xs := by
  cases m <;> exact h
theorem SK.pick {v : V} {u : Value} {K : PySem.W.Frag} (rel : SK.rel v k) (r : RelV v u) (hq : k.has K H xs) : ∃ k' : SK, SK.sim k k' ∧ k'.has K H xs ∧ u = k'.val := by
  cases k with
  | l a => cases (show v = .ref a from rel); cases r; exact ⟨.l a, .l, hq, rfl⟩
  | t a => cases (show v = .ref a from rel); cases r; exact ⟨.t a, .t, hq, rfl⟩
  | s x tk => cases (show v = .str x from rel); obtain ⟨t, rfl⟩ := r; exact ⟨.s x t, .s, hq, rfl⟩
def iEnumX (K : PySem.W.Frag) (ta : TA) : TI := fun σ H R => ta σ H fun vs H1 => ∃ v, vs = [v] ∧ (∃ k xs, SK.rel v k ∧ k.has K H1 xs ∧ ∀ k', SK.sim k k' → R (IteX K k') H1)
theorem pi_enumX {X : Cx} {e : Expr} {ta : TA} {p pos tpos : Pos} {elts : List Expr} {kk : Nat} (hg : Gl X "enumerate") (hm : X.mg "enumerate" = none) (ha : PA X [e] ta) (hs : starEach [e] X.env = [(false, eval e X.env)] := by rfl) :
    PI X (.Tuple elts kk tpos) (.Call (.Name "enumerate" p) [e] [] pos) (iEnumX X.K ta) := by
  refine ⟨fun pins s σ H R I h => ?_⟩
  refine PyProof.Rows.Call_ (ld_blt I hg hm PyProof.Rows.boot_enumerate (PyProof.Rows.callWith_type1 (thn (ha.run pos pins s σ H _ I h) fun us s1 ⟨vs, H1, I1, r1, q1⟩ => ?_) hs rfl))
  obtain ⟨v, ex, k, xs, rel, hq, q⟩ := q1
  subst ex
  cases r1 with
  | cons r rr =>
    cases rr
    obtain ⟨k', rel', hq', rfl⟩ := SK.pick rel r hq
    obtain ⟨Hh, B, hB⟩ := SK.begins I1 hq'
    refine call_enum1 B hB fun h' he hit hsz hk => wpAny_pyIter_enum he ?_
    have I2 : L2.Inv X pins σ H1 { s1 with heap := h' } := I1.kept (t' := s1.toks) hk
    refine ⟨s1.heap.objs.size + 1, [s1.heap.objs.size + 1, s1.heap.objs.size], _, _, H1, rfl, I2, turn_enumX k' (s1.heap.objs.size + 1) s1.heap.objs.size, ⟨⟨.none, he⟩, SK.at_first hit, Nat.succ_ne_self _⟩, fun b hb => ?_, q k' rel'⟩
    have hle : s1.heap.objs.size ≤ b := by
      have e' : b = s1.heap.objs.size + 1 ∨ b = s1.heap.objs.size := by simpa using hb
      rcases e' with z | z
      · rw [z]; exact Nat.le_add_right _ _
      · rw [z]; exact Nat.le_refl _
    exact I1.fpOk hle (I1.hok.fresh hle)

/-! ### zip -/
def ItzX (K : PySem.W.Frag) (k1 k2 : SK) : It :=
  ⟨fun i H => ∃ (xs ys : List V) (x y : V), k1.has K H xs ∧ k2.has K H ys ∧ xs[i]? = some x ∧ ys[i]? = some y,
    fun i H v H' => ∃ T x y, v = .ref T ∧ H T = none ∧ H' = upd H T (.tup [x, y]) ∧ (∀ xs, k1.has K H xs → xs[i]? = some x) ∧ ∀ ys, k2.has K H ys → ys[i]? = some y,
    fun i H => ∃ xs ys : List V, k1.has K H xs ∧ k2.has K H ys ∧ i = min xs.length ys.length⟩
structure ZAp (z TI TO i1 i2 : Addr) : Prop where
  TIz : TI ≠ z
  TOz : TO ≠ z
  TITO : TI ≠ TO
  TIi1 : TI ≠ i1
  TIi2 : TI ≠ i2
  zi1 : z ≠ i1
  zi2 : z ≠ i2
  Ti1 : TO ≠ i1
  Ti2 : TO ≠ i2
  ii : i1 ≠ i2
theorem turn_zipX {P : Program} {w : World} {K : PySem.W.Frag} {elts : List Expr} {kk : Nat} {tpos : Pos} {k1 k2 : SK} {z TI TO i1 i2 : Addr} (D : ZAp z TI TO i1 i2) :
    Turn P w K (.Tuple elts kk tpos) (ItzX K k1 k2) [z, TI, TO, i1, i2] z (fun i h => IsZip h z TI TO .none ∧ IsTupOf2 h TI (.ref i1) (.ref i2) ∧ (∃ x y, IsTupOf2 h TO x y) ∧ k1.at h i1 i ∧ k2.at h i2 i) where
  mem := by simp
  obj := fun i h st c hc => by
    obtain ⟨hz, hTI, ⟨x, y, hTO⟩, h1, h2⟩ := st
    have e' : c = z ∨ c = TI ∨ c = TO ∨ c = i1 ∨ c = i2 := by simpa using hc
    rcases e' with q | q | q | q | q
    · rw [q]; exact ⟨_, hz, fun v q => nomatch q⟩
    · rw [q]; exact ⟨_, hTI, fun v q => nomatch q⟩
    · rw [q]; exact ⟨_, hTO, fun v q => nomatch q⟩
    · rw [q]; exact SK.at_obj h1
    · rw [q]; exact SK.at_obj h2
  keep := fun i h h' st kp => by
    obtain ⟨hz, hTI, ⟨x, y, hTO⟩, h1, h2⟩ := st
    exact ⟨kp z (by simp) _ hz, kp TI (by simp) _ hTI, ⟨x, y, kp TO (by simp) _ hTO⟩, SK.at_keep h1 fun o q => kp i1 (by simp) o q, SK.at_keep h2 fun o q => kp i2 (by simp) o q⟩
  item := by
    intro X hP hw hK hc i pins s σ H E I hf st hg
    subst hP hw hK
    obtain ⟨hz, hTI, ⟨x0, y0, hTO⟩, h1, h2⟩ := st
    obtain ⟨xs, ys, x, y, hqx, hqy, hx, hy⟩ := hg
    obtain ⟨fp1, P1, S1, D1, a1, a2, a3, a4, a5⟩ := SK.draws (A := X.A.in1) (I.ok.hd hc) I (hf i1 (by simp)) hqx h1
    obtain ⟨fp2, P2, S2, D2, b1, b2, b3, b4, b5⟩ := SK.draws (A := X.A.in1) (I.ok.hd hc) I (hf i2 (by simp)) hqy h2
    have hzl : z < s.heap.objs.size := Heap.lt_size hz
    have sep : ZipSep2 z TI TO i1 i2 fp1 fp2 := ⟨D.TIz, D.TOz, D.TITO, D.TIi1, a4, fun q => a5 z q z (hf z (by simp)) D.zi1 rfl, fun q => a5 TO q TO (hf TO (by simp)) D.Ti1 rfl, D.TIi2, b4,
      fun q => b5 z q z (hf z (by simp)) D.zi2 rfl, fun q => b5 TO q TO (hf TO (by simp)) D.Ti2 rfl, fun q => b5 i1 q i1 (hf i1 (by simp)) D.ii rfl, fun q => a5 i2 q i2 (hf i2 (by simp)) D.ii.symm rfl⟩
    refine wpAny_pyNext_zipD2_item sep D1 D2 hz hTI hTO (a1 i h1) (b1 i h2) (List.getElem?_eq_some_iff.mp hx).1 (List.getElem?_eq_some_iff.mp hy).1 fun u u2 h' tk hPu hPu2 z' TO' h1' h2' hT hsz hk => ?_
    obtain ⟨x', hx', ru⟩ := a3 i u hPu
    obtain ⟨y', hy', ru2⟩ := b3 i u2 hPu2
    have ex : x' = x := Option.some.inj (hx'.symm.trans hx)
    have ey : y' = y := Option.some.inj (hy'.symm.trans hy)
    subst ex ey
    refine ⟨_, rfl, wpAny_letOwnedTupleGo_zip (s := { s with heap := h', toks := tk }) z' fun h'' z'' sb => ?_⟩
    have hT2 : h''.get? s.heap.objs.size = some { cls := .type "tuple", data := .seq #[u, u2] } := (sb.2 _ (Nat.ne_of_gt hzl)).trans hT
    have new : ObjOk X.prog X.w (upd H s.heap.objs.size (.tup [x', y'])) h'' s.heap.objs.size (.tup [x', y']) :=
      ⟨by show 2 ≤ sizeLine; decide, [u, u2], .cons ru (.cons ru2 .nil), ⟨_, hT2, rfl, _, rfl⟩⟩
    have I1 : L2.Inv X pins σ (upd H s.heap.objs.size (.tup [x', y'])) { s with heap := h'', toks := tk } :=
      I.turnedNew (t' := tk) (ch := [z, TI, TO, i1, i2]) (fun c o hb q => (sb.2 c (fun q' => hb (by simp [q']))).trans (hk c o (fun q' => hb (by simp [q'])) (fun q' => hb (by simp [q'])) (fun q' => hb (by simp [q'])) (fun q' => hb (by simp [q'])) q)) hf (Nat.le_refl _) new
    refine ⟨.ref s.heap.objs.size, _, I1, rfl, ⟨_, x', y', rfl, I.hok.fresh (Nat.le_refl _), rfl, fun l hl => by rw [SK.inj I hl hqx]; exact hx, fun l hl => by rw [SK.inj I hl hqy]; exact hy⟩, ⟨z'', ?_, ⟨u, u2, ?_⟩, ?_, ?_⟩, fun c hcm => ?_⟩
    · exact (sb.2 _ D.TIz).trans (hk _ _ D.TIz D.TITO D.TIi1 D.TIi2 hTI)
    · exact (sb.2 _ D.TOz).trans TO'
    · exact SK.at_keep (a2 _ _ h1') fun o q => (sb.2 _ D.zi1.symm).trans q
    · exact SK.at_keep (b2 _ _ h2') fun o q => (sb.2 _ D.zi2.symm).trans q
    · have hlt : c < s.heap.objs.size := by
        have e' : c = z ∨ c = TI ∨ c = TO ∨ c = i1 ∨ c = i2 := by simpa using hcm
        rcases e' with q | q | q | q | q
        · rw [q]; exact hzl
        · rw [q]; exact Heap.lt_size hTI
        · rw [q]; exact Heap.lt_size hTO
        · rw [q]; obtain ⟨_, e1, _⟩ := SK.at_obj h1; exact Heap.lt_size e1
        · rw [q]; obtain ⟨_, e2, _⟩ := SK.at_obj h2; exact Heap.lt_size e2
      rw [upd_ne (Nat.ne_of_lt hlt)]
      exact (hf c hcm).1
  done := by
    intro X hP hw hK hc i pins s σ H E I hf st hg
    subst hP hw hK
    obtain ⟨hz, hTI, ⟨x0, y0, hTO⟩, h1, h2⟩ := st
    obtain ⟨xs, ys, hqx, hqy, hend⟩ := hg
    obtain ⟨fp1, P1, S1, D1, a1, a2, a3, a4, a5⟩ := SK.draws (A := X.A.in1) (I.ok.hd hc) I (hf i1 (by simp)) hqx h1
    obtain ⟨fp2, P2, S2, D2, b1, b2, b3, b4, b5⟩ := SK.draws (A := X.A.in1) (I.ok.hd hc) I (hf i2 (by simp)) hqy h2
    have sep : ZipSep2 z TI TO i1 i2 fp1 fp2 := ⟨D.TIz, D.TOz, D.TITO, D.TIi1, a4, fun q => a5 z q z (hf z (by simp)) D.zi1 rfl, fun q => a5 TO q TO (hf TO (by simp)) D.Ti1 rfl, D.TIi2, b4,
      fun q => b5 z q z (hf z (by simp)) D.zi2 rfl, fun q => b5 TO q TO (hf TO (by simp)) D.Ti2 rfl, fun q => b5 i1 q i1 (hf i1 (by simp)) D.ii rfl, fun q => a5 i2 q i2 (hf i2 (by simp)) D.ii.symm rfl⟩
    exact wpAny_pyNext_zipD2_end sep D1 D2 hz hTI hTO (a1 _ h1) (b1 _ h2) (by omega) (by omega) (by omega) fun h' tk hk => ⟨rfl, I.turnedL (t' := tk) (ch := [z, TI, TO, i1, i2]) (fun c o hb q =>
      hk c o (fun q' => hb (by simp [q'])) (fun q' => hb (by simp [q'])) (fun q' => hb (by simp [q'])) (fun q' => hb (by simp [q'])) q) hf⟩
  self := fun A i s Q E st h => wpAny_pyIter_zip st.1 h
theorem walk_zipX {K : PySem.W.Frag} {k1 k2 : SK} : Walk (ItzX K k1 k2) (min xs.length ys.length) (fun H => k1.has K H xs ∧ k2.has K H ys) (YPair (fun i => xs[i]?) (fun i => ys[i]?)) := by
  refine ⟨fun i _ hi q => ?_, fun _ q => ⟨xs, ys, q.1, q.2, rfl⟩, fun i H v H' _ q y => ?_⟩
  · have h1 : i < xs.length := by omega
    have h2 : i < ys.length := by omega
    exact ⟨xs, ys, xs[i], ys[i], q.1, q.2, by simp [h1], by simp [h2]⟩
  · obtain ⟨T, x, z, h1, h2, h3, h4, h5⟩ := y
    exact ⟨T, x, z, h1, h2, h3, h4 xs q.1, h5 ys q.2⟩
def iZipX (K : PySem.W.Frag) (ta : TA) : TI := fun σ H R => ta σ H fun vs H1 => ∃ v1 v2, vs = [v1, v2] ∧ (∃ k1 k2 xs ys, SK.rel v1 k1 ∧ SK.rel v2 k2 ∧ k1.has K H1 xs ∧ k2.has K H1 ys ∧ ∀ j1 j2, SK.sim k1 j1 → SK.sim k2 j2 → R (ItzX K j1 j2) H1)
theorem pi_zipX {X : Cx} {e e2 : Expr} {ta : TA} {p pos tpos : Pos} {elts : List Expr} {kk : Nat} (hg : Gl X "zip") (hm : X.mg "zip" = none) (ha : PA X [e, e2] ta)
    (hs : starEach [e, e2] X.env = (false, eval e X.env) :: starEach [e2] X.env := by rfl) (hpl : (backTo pos (starEach [e2] X.env)).any (·.1) = false := by rfl) :
    PI X (.Tuple elts kk tpos) (.Call (.Name "zip" p) [e, e2] [] pos) (iZipX X.K ta) := by
  refine ⟨fun pins s σ H R I h => ?_⟩
  refine PyProof.Rows.Call_ (ld_blt I hg hm PyProof.Rows.boot_zip (PyProof.Rows.callWith_type1 (thn (ha.run pos pins s σ H _ I h) fun us s1 ⟨vs, H1, I1, r1, q1⟩ => ?_) hs hpl))
  obtain ⟨v1, v2, ex, k1, k2, xs, ys, rel1, rel2, hq1, hq2, q⟩ := q1
  subst ex
  cases r1 with
  | cons r rr =>
    cases rr with
    | cons r' rr =>
      cases rr
      obtain ⟨j1, rel1', hj1, rfl⟩ := SK.pick rel1 r hq1
      obtain ⟨j2, rel2', hj2, rfl⟩ := SK.pick rel2 r' hq2
      obtain ⟨Hh1, B1, hB1⟩ := SK.begins I1 hj1
      obtain ⟨Hh2, B2, hB2⟩ := SK.begins I1 hj2
      refine zip_begins2 B1 B2 hB1 hB2 fun h' hz hTI hTO h1 h2 hsz hk => wpAny_pyIter_zip hz ?_
      have I2 : L2.Inv X pins σ H1 { s1 with heap := h' } := I1.kept (t' := s1.toks) hk
      refine ⟨s1.heap.objs.size + 4, [s1.heap.objs.size + 4, s1.heap.objs.size + 2, s1.heap.objs.size + 3, s1.heap.objs.size, s1.heap.objs.size + 1], _, _, H1, rfl, I2, turn_zipX ?_, ⟨hz, hTI, ⟨_, _, hTO⟩, SK.at_first h1, SK.at_first h2⟩, fun c hcm => ?_, q j1 j2 rel1' rel2'⟩
      · have a : ∀ {i j : Nat}, i ≠ j → (s1.heap.objs.size + i : Nat) ≠ s1.heap.objs.size + j := fun {i j} h => by omega
        exact ⟨a (i := 2) (j := 4) (by decide), a (i := 3) (j := 4) (by decide), a (i := 2) (j := 3) (by decide), a (i := 2) (j := 0) (by decide), a (i := 2) (j := 1) (by decide), a (i := 4) (j := 0) (by decide), a (i := 4) (j := 1) (by decide), a (i := 3) (j := 0) (by decide), a (i := 3) (j := 1) (by decide), a (i := 0) (j := 1) (by decide)⟩
      · have hle : s1.heap.objs.size ≤ c := by
          have e' : c = s1.heap.objs.size + 4 ∨ c = s1.heap.objs.size + 2 ∨ c = s1.heap.objs.size + 3 ∨ c = s1.heap.objs.size ∨ c = s1.heap.objs.size + 1 := by simpa using hcm
          rcases e' with z | z | z | z | z
          · rw [z]; exact Nat.le_add_right _ _
          · rw [z]; exact Nat.le_add_right _ _
          · rw [z]; exact Nat.le_add_right _ _
          · rw [z]; exact Nat.le_refl _
          · rw [z]; exact Nat.le_add_right _ _
        exact I1.fpOk hle (I1.hok.fresh hle)
end
end VL

/-! VL part k: what is walked; the primitive operations on numbers, texts, lists, tuples. -/
namespace VL
open PySem L2 PySem.Spec PyProof

/-! ### what is walked -/
def signD (s : Str) : List D := s.cps.toList.map fun c => D.str ⟨#[c]⟩
def itemsD : D → Option (List D)
  | .lst ds => some ds
  | .tup ds => some ds
  | .str s => some (signD s)
  | .scr ns => some (ns.map D.int)
  | _ => none
def seqM (m : M RV) : M (List D) := fzM m >>= fun d => M.lift (itemsD d)
def srcF (f : List D → Option (List D)) (ms : List (M RV)) : M (List D) := argsM ms >>= fun os => frzs os >>= fun ds => M.lift (f ds)
def rngD (a b : Int) : List D := (List.range (b - a).toNat).map fun (i : Nat) => D.int (a + (i : Int))
def lim62 (i : Int) : Bool := decide (-(2 ^ 62) ≤ i ∧ i < 2 ^ 62)
def range1D : List D → Option (List D)
  | [.int n] => if lim62 n then some (rngD 0 n) else none
  | _ => none
def range2D : List D → Option (List D)
  | [.int a, .int b] => if lim62 a && lim62 b then some (rngD a b) else none
  | _ => none
def enumL : Nat → List D → List D
  | _, [] => []
  | n, d :: ds => .tup [.int (n : Int), d] :: enumL (n + 1) ds
def enumD : List D → Option (List D)
  | [d] => (itemsD d).map (enumL 0)
  | _ => none
def zipL : List D → List D → List D
  | a :: as, b :: bs => .tup [a, b] :: zipL as bs
  | _, _ => []
def zipD : List D → Option (List D)
  | [a, b] => match itemsD a, itemsD b with
    | some xs, some ys => some (zipL xs ys)
    | _, _ => none
  | _ => none
theorem enumL_len : ∀ {ds : List D} {n : Nat}, (enumL n ds).length = ds.length
  | [], _ => rfl
  | d :: ds, n => by show (enumL (n + 1) ds).length + 1 = _; rw [enumL_len]; rfl
theorem enumL_at : ∀ {ds : List D} {n i : Nat} {d : D}, ds[i]? = some d → (enumL n ds)[i]? = some (.tup [.int ((n + i : Nat) : Int), d])
  | [], _, _, _, h => by simp at h
  | d0 :: ds, n, i, d, h => by
    cases i with
    | zero => simp at h; subst h; rfl
    | succ i =>
      have := enumL_at (ds := ds) (n := n + 1) (i := i) (d := d) (by simpa using h)
      show (enumL (n + 1) ds)[i]? = _
      rw [this]
      have e : n + 1 + i = n + (i + 1) := by omega
      rw [e]
theorem zipL_len : ∀ {as bs : List D}, (zipL as bs).length = min as.length bs.length
  | [], bs => by cases bs <;> simp [zipL]
  | a :: as, [] => by simp [zipL]
  | a :: as, b :: bs => by show (zipL as bs).length + 1 = _; rw [zipL_len]; simp only [List.length_cons]; omega
theorem zipL_at : ∀ {as bs : List D} {i : Nat} {a b : D}, as[i]? = some a → bs[i]? = some b → (zipL as bs)[i]? = some (.tup [a, b])
  | [], _, _, _, _, h, _ => by simp at h
  | _ :: _, [], _, _, _, _, h => by simp at h
  | a0 :: as, b0 :: bs, i, a, b, h1, h2 => by
    cases i with
    | zero => simp at h1 h2; subst h1 h2; rfl
    | succ i => exact zipL_at (as := as) (bs := bs) (i := i) (by simpa using h1) (by simpa using h2)
section
variable {C : Cfg} {S : Hp} {J : It} {ds : List D} {xs : List V}
theorem WalkD.at {G : Hp → Prop} (w : Walk J xs.length G (YAt xs)) (hG : ∀ H, Same S H → G H) (r : Reps C.K S xs ds) : WalkD C S J ds := by
  refine ⟨G, _, by rw [← r.len]; exact w, hG, fun i H x H' S1 a b hi y => ?_⟩
  obtain ⟨rfl, hx⟩ := y
  obtain ⟨d, hd, rd⟩ := r.at' hx
  exact ⟨S1, d, Same.refl _, Same.refl _, b, fun p h h' => absurd h h', hd, rd.mono a⟩
theorem WalkD.fn {G : Hp → Prop} {f : Nat → V} (w : Walk J ds.length G (YFn f)) (hG : ∀ H, Same S H → G H) (r : ∀ i, i < ds.length → ∃ d, ds[i]? = some d ∧ ∀ S, Rep C.K S (f i) d) : WalkD C S J ds := by
  refine ⟨G, _, w, hG, fun i H x H' S1 a b hi y => ?_⟩
  obtain ⟨rfl, rfl⟩ := y
  obtain ⟨d, hd, rd⟩ := r i hi
  exact ⟨S1, d, Same.refl _, Same.refl _, b, fun p h h' => absurd h h', hd, rd _⟩
theorem WalkD.pair {G : Hp → Prop} {f g : Nat → Option V} (w : Walk J ds.length G (YPair f g)) (hG : ∀ H, Same S H → G H)
    (r : ∀ i x y, i < ds.length → f i = some x → g i = some y → ∃ d e, ds[i]? = some (.tup [d, e]) ∧ Rep C.K S x d ∧ Rep C.K S y e) : WalkD C S J ds := by
  refine ⟨G, _, w, hG, fun i H x H' S1 a b hi y => ?_⟩
  obtain ⟨T, u, v, rfl, nT, rfl, h1, h2⟩ := y
  obtain ⟨d, e, hd, r1, r2⟩ := r i u v hi h1 h2
  have n1 : S1 T = none := b.free nT
  refine ⟨upd S1 T (.tup [u, v]), _, upd_Same n1, upd_Same nT, fun q o h => ?_, fun q h h' => ?_, hd, .tup (SqT.of upd_same) (.cons (r1.mono (a.trans (upd_Same n1))) (.cons (r2.mono (a.trans (upd_Same n1))) .nil))⟩
  · by_cases z : q = T
    · subst z; rw [upd_same] at h ⊢; exact h
    · rw [upd_ne z] at h ⊢; exact b q o h
  · by_cases z : q = T
    · subst z; exact nT
    · rw [upd_ne z] at h'; exact absurd h h'
theorem signs_rep (x : Str) : Reps C.K S (signs x) (signD x) := by
  unfold signs signD
  induction x.cps.toList with
  | nil => exact .nil
  | cons c l ih => exact .cons (.str _) ih
/-- how a frozen thing is drawn -/
theorem items_sk {d : D} {v : V} (r : Rep C.K S v d) (e : itemsD d = some ds) : ∃ k xs, SK.rel v k ∧ Reps C.K S xs ds ∧ ∀ H, Same S H → SK.has C.K H xs k := by
  cases r with
  | tup h1 h2 => cases e; exact ⟨.t _, _, rfl, h2, fun H st => same_t st h1⟩
  | lst h1 h2 => cases e; exact ⟨.l _, _, rfl, h2, fun H st => .inl (.inl (st _ _ h1))⟩
  | scr h1 => cases e; exact ⟨.l _, _, rfl, Reps.of_ints _, fun H st => st.seq h1⟩
  | str x => cases e; exact ⟨SK.s x 0, _, rfl, signs_rep x, fun H st => rfl⟩
  | _ => cases e
theorem tI_seq {m : M RV} {W : WX} {σ : St} {H : Hp} {R : It → Hp → Prop} (h : tI C W (seqM m) σ H R) :
    tE C W m σ H fun v H1 => ∃ S1 d ds, Same S1 H1 ∧ Rep C.K S1 v d ∧ itemsD d = some ds ∧ ∀ J, WalkD C S1 J ds → R J H1 := by
  obtain ⟨S, ρ, st, g⟩ := h
  unfold seqM fzM at g
  rw [bnd_assoc] at g
  refine ⟨S, ρ, st, Good.opd (Good.bnd SrcR.back g fun x ρ1 S1 H1 v _ e1 r1 g1 => ?_)⟩
  obtain ⟨S2, ρ2, d, e2, r2, g2⟩ := Good.frz1 SrcR.back e1.st r1 g1
  cases q : itemsD d with
  | none => rw [q] at g2; exact g2.elim
  | some ds =>
    rw [q] at g2
    have g2 : ∀ S' H' b, Stp C σ S2 ρ2 H1 S' ρ2 H' → WalkD C S' b ds → R b H' := g2
    exact ⟨S2, d, ds, e2.st.same, r2, q, fun J w => g2 S2 H1 J (Stp.refl e2.st) w⟩
theorem tI_src {ms : List (M RV)} {f : List D → Option (List D)} {W : WX} {σ : St} {H : Hp} {R : It → Hp → Prop} (h : tI C W (srcF f ms) σ H R) :
    tA C W (argsM ms) σ H fun vs H1 => ∃ S1 ds es, Same S1 H1 ∧ Reps C.K S1 vs ds ∧ f ds = some es ∧ ∀ J, WalkD C S1 J es → R J H1 := by
  obtain ⟨S, ρ, st, g⟩ := h
  refine ⟨S, ρ, st, Good.bnd SrcR.back g fun x ρ1 S1 H1 v _ e1 r1 g1 => ?_⟩
  obtain ⟨S2, ρ2, ds, e2, r2, g2⟩ := Good.frzs SrcR.back e1.st r1 g1
  cases q : f ds with
  | none => rw [q] at g2; exact g2.elim
  | some es =>
    rw [q] at g2
    have g2 : ∀ S' H' b, Stp C σ S2 ρ2 H1 S' ρ2 H' → WalkD C S' b es → R b H' := g2
    exact ⟨S2, ds, es, e2.st.same, r2, q, fun J w => g2 S2 H1 J (Stp.refl e2.st) w⟩
end
theorem PI.imp {X : Cx} {tg e : Expr} {t t' : TI} (h : PI X tg e t) (i : ∀ σ H R, t' σ H R → t σ H R) : PI X tg e t' := ⟨fun pins s σ H R I q => h.run pins s σ H R I (i σ H R q)⟩
def iSeq (K : PySem.W.Frag) (te : TE) : TI := fun σ H R => te σ H fun v H1 => (∃ a, v = .ref a ∧ (∃ xs, SqL K H1 a xs) ∧ R (Itl K a) H1) ∨ (∃ a, v = .ref a ∧ (∃ xs, SqT K H1 a xs) ∧ R (Itt K a) H1) ∨ ∃ x, v = .str x ∧ R (Its x) H1
theorem pi_seq {X : Cx} {tg l : Expr} {tl : TE} (hl : PE X l tl) : PI X tg l (iSeq X.K tl) := by
  refine ⟨fun pins s σ H R I h => ?_⟩
  refine thn (hl.run pins s σ H _ I h) fun v s1 ⟨x, H1, I1, r1, q1⟩ => ?_
  rcases q1 with ⟨a, e, ⟨xs, hq⟩, q⟩ | ⟨a, e, ⟨xs, hq⟩, q⟩ | ⟨x, ex, q⟩
  · subst e
    cases r1
    obtain ⟨its, rv, p, hz⟩ := I1.list hq
    refine wpAny_pyIter_list p.isList ?_
    refine ⟨s1.heap.objs.size, [s1.heap.objs.size], _, _, H1, rfl, I1.kept (t' := s1.toks) fun b o e => Heap.get?_push_of_some _ e, turn_list a _, ⟨_, Heap.get?_push_size _ rfl, rfl, rfl⟩, fun b hb => ?_, q⟩
    have e : b = s1.heap.objs.size := by simpa using hb
    subst e
    exact I1.fpOk (Nat.le_refl _) (I1.hok.fresh (Nat.le_refl _))
  · subst e
    cases r1
    obtain ⟨its, rv, p, hz⟩ := I1.tuple hq
    refine wpAny_pyIter_tuple (show s1.heap.IsTuple a its.toArray from p) ?_
    refine ⟨s1.heap.objs.size, [s1.heap.objs.size], _, _, H1, rfl, I1.kept (t' := s1.toks) fun b o e => Heap.get?_push_of_some _ e, turn_tuple a _, ⟨_, Heap.get?_push_size _ rfl, rfl, rfl⟩, fun b hb => ?_, q⟩
    have e : b = s1.heap.objs.size := by simpa using hb
    subst e
    exact I1.fpOk (Nat.le_refl _) (I1.hok.fresh (Nat.le_refl _))
  · subst ex
    obtain ⟨t, rfl⟩ := r1
    cases ha : x.cps.all (· < 128)
    · exact wpAny_pyIter_wide ha (pi_one (tk := s1.toks) I1 _ (turn_str _ x t "str_iterator" (.inr rfl)) ⟨_, Heap.get?_push_size _ rfl, rfl, rfl⟩ q)
    · exact wpAny_pyIter_ascii ha (pi_one (tk := s1.toks) I1 _ (turn_str _ x t "str_ascii_iterator" (.inl rfl)) ⟨_, Heap.get?_push_size _ rfl, rfl, rfl⟩ q)
section
variable {X : Cx} {C : Cfg} {W : WX} {cf : CF} {T : List (Str × Nat)} {e a b c tg : Expr} {es : List Expr} {m : M RV} {ms : List (M RV)} {pos p : Pos}
theorem signD_len {x : Str} : (signD x).length = x.cps.size := by unfold signD; rw [List.length_map, Array.length_toList]
theorem signD_at {x : Str} {i : Nat} {c : Nat} (h : x.cps[i]? = some c) : (signD x)[i]? = some (.str ⟨#[c]⟩) := by
  unfold signD; rw [List.getElem?_map, Array.getElem?_toList, h]; rfl
theorem walkD_seq {S : Hp} {v : V} {d : D} {ds : List D} (r : Rep C.K S v d) (e : itemsD d = some ds) :
    (∃ a, v = .ref a ∧ (∀ H, Same S H → ∃ xs, SqL C.K H a xs) ∧ WalkD C S (Itl C.K a) ds) ∨ (∃ a, v = .ref a ∧ (∀ H, Same S H → ∃ xs, SqT C.K H a xs) ∧ WalkD C S (Itt C.K a) ds) ∨ ∃ x, v = .str x ∧ WalkD C S (Its x) ds := by
  cases r with
  | tup h1 h2 => cases e; exact .inr (.inl ⟨_, rfl, fun H st => ⟨_, same_t st h1⟩, WalkD.at walk_tup (fun H st => same_t st h1) h2⟩)
  | lst h1 h2 => cases e; exact .inl ⟨_, rfl, fun H st => ⟨_, .inl (.inl (st _ _ h1))⟩, WalkD.at walk_list (fun H st => .inl (.inl (st _ _ h1))) h2⟩
  | scr h1 => cases e; exact .inl ⟨_, rfl, fun H st => ⟨_, st.seq h1⟩, WalkD.at walk_list (fun H st => st.seq h1) (Reps.of_ints _)⟩
  | str x =>
    cases e
    refine .inr (.inr ⟨x, rfl, fun _ => True, _, by rw [signD_len]; exact walk_str, fun _ _ => trivial, fun i H v H' S1 a b hi y => ?_⟩)
    obtain ⟨rfl, c, hc, rfl⟩ := y
    exact ⟨S1, _, Same.refl _, Same.refl _, b, fun p h h' => absurd h h', signD_at hc, .str _⟩
  | _ => cases e
theorem vi_seq (vx : Vx X C W cf T) (ha : VE X C W e m) : VI X C W tg e (seqM m) := by
  refine ⟨VL.PI.imp (pi_seq ha.pe) fun σ H R h => ?_⟩
  obtain ⟨S, ρ, st, g⟩ := tI_seq h
  refine ⟨S, ρ, st, Good.mono g fun v H1 ⟨S1, d, ds, s1, r1, q1, k⟩ => ?_⟩
  rw [vx.K]
  rcases walkD_seq r1 q1 with ⟨a, ex, h1, w⟩ | ⟨a, ex, h1, w⟩ | ⟨x, ex, w⟩
  · exact .inl ⟨a, ex, h1 _ s1, k _ w⟩
  · exact .inr (.inl ⟨a, ex, h1 _ s1, k _ w⟩)
  · exact .inr (.inr ⟨x, ex, k _ w⟩)
theorem walkD_range {S : Hp} {a b : Int} : WalkD C S (Itr a (b - a).toNat) (rngD a b) := by
  have hl : (rngD a b).length = (b - a).toNat := by unfold rngD; simp
  refine WalkD.fn (by rw [hl]; exact walk_range) (fun _ _ => trivial) fun i hi => ⟨.int (a + (i : Int)), ?_, fun S => .int _⟩
  unfold rngD
  rw [List.getElem?_map, List.getElem?_range (by omega)]; rfl
theorem lim62_ok {i : Int} (h : lim62 i = true) : -(2 ^ 62) ≤ i ∧ i < 2 ^ 62 := of_decide_eq_true h
theorem range1D_some {ds es : List D} (h : range1D ds = some es) : ∃ n, ds = [.int n] ∧ lim62 n = true ∧ es = rngD 0 n := by
  unfold range1D at h
  split at h
  · split at h
    · cases h; exact ⟨_, rfl, by assumption, rfl⟩
    · cases h
  · cases h
theorem range2D_some {ds es : List D} (h : range2D ds = some es) : ∃ a b, ds = [.int a, .int b] ∧ lim62 a = true ∧ lim62 b = true ∧ es = rngD a b := by
  unfold range2D at h
  split at h
  · split at h
    · rename_i q
      cases h
      rw [Bool.and_eq_true] at q
      exact ⟨_, _, rfl, q.1, q.2, rfl⟩
    · cases h
  · cases h
theorem enumD_some {ds es : List D} (h : enumD ds = some es) : ∃ d xs, ds = [d] ∧ itemsD d = some xs ∧ es = enumL 0 xs := by
  unfold enumD at h
  split at h
  · rename_i d
    cases q : itemsD d with
    | none => rw [q] at h; cases h
    | some xs => rw [q] at h; cases h; exact ⟨d, xs, rfl, q, rfl⟩
  · cases h
theorem zipD_some {ds es : List D} (h : zipD ds = some es) : ∃ d d' xs ys, ds = [d, d'] ∧ itemsD d = some xs ∧ itemsD d' = some ys ∧ es = zipL xs ys := by
  unfold zipD at h
  split at h
  · rename_i d d'
    cases q : itemsD d with
    | none => rw [q] at h; cases h
    | some xs =>
      cases q' : itemsD d' with
      | none => rw [q, q'] at h; cases h
      | some ys => rw [q, q'] at h; cases h; exact ⟨d, d', xs, ys, rfl, q, q', rfl⟩
  · cases h
theorem Reps.one {K : PySem.W.Frag} {S : Hp} {vs : List V} {d : D} (h : Reps K S vs [d]) : ∃ v, vs = [v] ∧ Rep K S v d := by
  cases h with | cons a r => cases r; exact ⟨_, rfl, a⟩
theorem Reps.two {K : PySem.W.Frag} {S : Hp} {vs : List V} {d e : D} (h : Reps K S vs [d, e]) : ∃ v w, vs = [v, w] ∧ Rep K S v d ∧ Rep K S w e := by
  cases h with | cons a r => cases r with | cons b r => cases r; exact ⟨_, _, rfl, a, b⟩
theorem vi_range1 (hg : Gl X "range") (hm : X.mg "range" = none) (ha : VA X C W [a] ms) (hs : starEach [a] X.env = [(false, eval a X.env)] := by rfl) : VI X C W tg (.Call (.Name "range" p) [a] [] pos) (srcF range1D ms) := by
  refine ⟨VL.PI.imp (pi_range1 hg hm ha.pa hs) fun σ H R h => ?_⟩
  obtain ⟨S, ρ, st, g⟩ := tI_src h
  refine ⟨S, ρ, st, Good.mono g fun vs H1 ⟨S1, ds, es, s1, r1, q1, k⟩ => ?_⟩
  obtain ⟨n, rfl, hl, rfl⟩ := range1D_some q1
  cases r1 with
  | cons r rr =>
    cases rr; cases r
    have z := walkD_range (C := C) (S := S1) (a := 0) (b := n)
    rw [Int.sub_zero] at z
    exact ⟨n, rfl, (lim62_ok hl).1, (lim62_ok hl).2, k _ z⟩
theorem vi_range2 (hg : Gl X "range") (hm : X.mg "range" = none) (ha : VA X C W [a, b] ms) (hs : starEach [a, b] X.env = [(false, eval a X.env), (false, eval b X.env)] := by rfl) (hs2 : starEach [b] X.env = [(false, eval b X.env)] := by rfl) :
    VI X C W tg (.Call (.Name "range" p) [a, b] [] pos) (srcF range2D ms) := by
  refine ⟨VL.PI.imp (pi_range2 hg hm ha.pa hs hs2) fun σ H R h => ?_⟩
  obtain ⟨S, ρ, st, g⟩ := tI_src h
  refine ⟨S, ρ, st, Good.mono g fun vs H1 ⟨S1, ds, es, s1, r1, q1, k⟩ => ?_⟩
  obtain ⟨i, j, rfl, h1, h2, rfl⟩ := range2D_some q1
  cases r1 with
  | cons r rr =>
    cases rr with
    | cons r' rr =>
      cases rr; cases r; cases r'
      exact ⟨i, j, rfl, ⟨(lim62_ok h1).1, (lim62_ok h1).2, (lim62_ok h2).1, (lim62_ok h2).2⟩, k _ walkD_range⟩
theorem vi_enum {elts : List Expr} {kk : Nat} {tpos : Pos} (vx : Vx X C W cf T) (hg : Gl X "enumerate") (hm : X.mg "enumerate" = none) (ha : VA X C W [e] ms) (hs : starEach [e] X.env = [(false, eval e X.env)] := by rfl) :
    VI X C W (.Tuple elts kk tpos) (.Call (.Name "enumerate" p) [e] [] pos) (srcF enumD ms) := by
  refine ⟨VL.PI.imp (pi_enumX hg hm ha.pa hs) fun σ H R h => ?_⟩
  obtain ⟨S, ρ, st, g⟩ := tI_src h
  refine ⟨S, ρ, st, Good.mono g fun vs H1 ⟨S1, ds, es, s1, r1, q1, k⟩ => ?_⟩
  obtain ⟨d, ds', rfl, q2, rfl⟩ := enumD_some q1
  obtain ⟨v, rfl, r⟩ := r1.one
  obtain ⟨kd, xs, h1, h2, h3⟩ := items_sk r q2
  rw [vx.K]
  refine ⟨v, rfl, kd, xs, h1, h3 _ s1, fun k' sm => k _ ?_⟩
  refine WalkD.pair (by rw [enumL_len, ← h2.len]; exact walk_enumX) (fun H st => sm.has (h3 H st)) fun i x y hi hx hy => ?_
  cases hx
  obtain ⟨d', hd, rd⟩ := h2.at' hy
  exact ⟨_, d', by rw [enumL_at hd, Nat.zero_add], .int _, rd⟩
theorem vi_zip {elts : List Expr} {kk : Nat} {tpos : Pos} (vx : Vx X C W cf T) (hg : Gl X "zip") (hm : X.mg "zip" = none) (ha : VA X C W [a, b] ms)
    (hs : starEach [a, b] X.env = (false, eval a X.env) :: starEach [b] X.env := by rfl) (hpl : (backTo pos (starEach [b] X.env)).any (·.1) = false := by rfl) :
    VI X C W (.Tuple elts kk tpos) (.Call (.Name "zip" p) [a, b] [] pos) (srcF zipD ms) := by
  refine ⟨VL.PI.imp (pi_zipX hg hm ha.pa hs hpl) fun σ H R h => ?_⟩
  obtain ⟨S, ρ, st, g⟩ := tI_src h
  refine ⟨S, ρ, st, Good.mono g fun vs H1 ⟨S1, ds, es, s1, r1, q1, k⟩ => ?_⟩
  obtain ⟨d, d', ds, ds', rfl, q2, q3, rfl⟩ := zipD_some q1
  obtain ⟨v, v', rfl, r, r'⟩ := r1.two
  obtain ⟨kd, xs, h1, h2, h3⟩ := items_sk r q2
  obtain ⟨kd', xs', h1', h2', h3'⟩ := items_sk r' q3
  rw [vx.K]
  refine ⟨v, v', rfl, kd, kd', xs, xs', h1, h1', h3 _ s1, h3' _ s1, fun j1 j2 sm sm' => k _ ?_⟩
  refine WalkD.pair (by rw [zipL_len, ← h2.len, ← h2'.len]; exact walk_zipX) (fun H st => And.intro (sm.has (h3 H st)) (sm'.has (h3' H st))) fun i x y hi hx hy => ?_
  obtain ⟨u, hu, ru⟩ := h2.at' hx
  obtain ⟨u', hu', ru'⟩ := h2'.at' hy
  exact ⟨u, u', zipL_at hu hu', ru, ru'⟩
end
end VL

/-! VL part l: operators on numbers, texts, lists, tuples; comparisons; items. -/
namespace VL
open PySem L2 PySem.Spec PyProof

/-- one relation or the other -/
structure O2 (X : Cx) (C : Cfg) (f : Value → Value → Sem Value) (g : D → D → Option RV) : Prop where
  ex : ∃ r, OpR X f r ∧ Prim2 C r g
theorem OpR.or {X : Cx} {f : Value → Value → Sem Value} {r r' : R2} (h : OpR X f r) (h' : OpR X f r') : OpR X f (fun x y H Q => r x y H Q ∨ r' x y H Q) := by
  intro pins s σ H x y v u Q I rx ry q
  rcases q with q | q
  · exact h pins s σ H x y v u Q I rx ry q
  · exact h' pins s σ H x y v u Q I rx ry q
theorem O2.or {X : Cx} {C : Cfg} {f : Value → Value → Sem Value} {g g' k : D → D → Option RV} (h : O2 X C f g) (h' : O2 X C f g') (e : ∀ x y rv, k x y = some rv → g x y = some rv ∨ g' x y = some rv) : O2 X C f k := by
  obtain ⟨r, h1, h2⟩ := h.ex
  obtain ⟨r', h1', h2'⟩ := h'.ex
  refine ⟨_, OpR.or h1 h1', fun S H x y dx dy rv Q st rx ry q o => ?_⟩
  rcases e dx dy rv q with q | q
  · exact .inl (h2 S H x y dx dy rv Q st rx ry q o)
  · exact .inr (h2' S H x y dx dy rv Q st rx ry q o)
def vI (i : Int) : Option RV := some (.val (.int i))
def vB (b : Bool) : Option RV := some (.val (.bl b))
theorem OutP.valI {C : Cfg} {S H : Hp} {Q : VK} {i : Int} {rv : RV} (e : vI i = some rv) (o : (∀ i, rv ≠ .bor i) → OutP C S H rv Q) (st : Same S H) : Q (.int i) H := by
  cases e
  exact (o fun _ z => by cases z).flat st (.int i)
theorem OutP.valB {C : Cfg} {S H : Hp} {Q : VK} {i : Bool} {rv : RV} (e : vB i = some rv) (o : (∀ i, rv ≠ .bor i) → OutP C S H rv Q) (st : Same S H) : Q (.bl i) H := by
  cases e
  exact (o fun _ z => by cases z).flat st (.bl i)
section
variable {X : Cx} {C : Cfg} {W : WX} {cf : CF} {T : List (Str × Nat)}

/-! ### numbers -/
def intI (g : Int → Int → Option RV) : D → D → Option RV
  | .int i, .int j => g i j
  | _, _ => none
theorem intI_some {g : Int → Int → Option RV} {x y : D} {rv : RV} (h : intI g x y = some rv) : ∃ i j, x = .int i ∧ y = .int j ∧ g i j = some rv := by
  unfold intI at h
  split at h
  · exact ⟨_, _, rfl, rfl, h⟩
  · cases h
theorem o2_I0 {f : Value → Value → Sem Value} {g : Int → Int → Int} (h : OpR X f (rI0 fun i j => .int (g i j))) : O2 X C f (intI fun i j => vI (g i j)) := by
  refine ⟨_, h, fun S H x y dx dy rv Q st rx ry e o => ?_⟩
  obtain ⟨i, j, rfl, rfl, e⟩ := intI_some e
  cases rx; cases ry
  exact ⟨i, j, rfl, rfl, OutP.valI e o st⟩
theorem o2_B0 {f : Value → Value → Sem Value} {g : Int → Int → Bool} (h : OpR X f (rI0 fun i j => .bl (g i j))) : O2 X C f (intI fun i j => vB (g i j)) := by
  refine ⟨_, h, fun S H x y dx dy rv Q st rx ry e o => ?_⟩
  obtain ⟨i, j, rfl, rfl, e⟩ := intI_some e
  cases rx; cases ry
  exact ⟨i, j, rfl, rfl, OutP.valB e o st⟩
theorem o2_I {f : Value → Value → Sem Value} {g : Int → Int → Int} {p : Int → Int → Prop} {b : Int → Int → Bool} (h : OpR X f (rI p fun i j => .int (g i j))) (hb : ∀ i j, b i j = true → p i j) : O2 X C f (intI fun i j => if b i j then vI (g i j) else none) := by
  refine ⟨_, h, fun S H x y dx dy rv Q st rx ry e o => ?_⟩
  obtain ⟨i, j, rfl, rfl, e'⟩ := intI_some e
  cases rx; cases ry
  cases hh : b i j with
  | true => rw [if_pos hh] at e'; exact ⟨i, j, rfl, rfl, hb i j hh, OutP.valI e' o st⟩
  | false => rw [hh, if_neg Bool.false_ne_true] at e'; cases e'
def subD : D → D → Option RV := intI fun i j => vI (i - j)
theorem o2_sub : O2 X C (binaryOp .Sub) subD := o2_I0 op_sub
def powOk (i j : Int) : Bool := decide (0 ≤ j ∧ j ≤ 1000000 ∧ i.natAbs < 2 ^ 64)
def powD : D → D → Option RV := intI fun i j => if powOk i j then vI (i ^ j.toNat) else none
theorem o2_pow : O2 X C (binaryOp .Pow) powD := o2_I op_pow fun i j h => of_decide_eq_true (p := 0 ≤ j ∧ j ≤ 1000000 ∧ i.natAbs < 2 ^ 64) h
def modD : D → D → Option RV := intI fun i j => if decide (j ≠ 0) then vI (i.fmod j) else none
theorem o2_mod : O2 X C (binaryOp .Mod) modD := o2_I op_modN fun _ _ h => of_decide_eq_true h
def divOk (j : Int) : Bool := decide (j ≠ 0 ∧ j.natAbs < 1073741824) || decide (0 < j ∧ j.natAbs.log2 < 9000)
def divD : D → D → Option RV := intI fun i j => if divOk j then vI (i.fdiv j) else none
theorem o2_div : O2 X C (binaryOp .FloorDiv) divD := by
  refine ⟨_, OpR.or op_fdivN op_fdivW, fun S H x y dx dy rv Q st rx ry e o => ?_⟩
  obtain ⟨i, j, rfl, rfl, e'⟩ := intI_some e
  cases rx; cases ry
  unfold divOk at e'
  by_cases h1 : j ≠ 0 ∧ j.natAbs < 1073741824
  · rw [if_pos (by simp only [Bool.or_eq_true, decide_eq_true_eq]; exact .inl h1)] at e'
    exact .inl ⟨i, j, rfl, rfl, h1, OutP.valI e' o st⟩
  · by_cases h2 : 0 < j ∧ j.natAbs.log2 < 9000
    · rw [if_pos (by simp only [Bool.or_eq_true, decide_eq_true_eq]; exact .inr h2), Int.fdiv_eq_ediv_of_nonneg i (by omega)] at e'
      exact .inr ⟨i, j, rfl, rfl, h2, OutP.valI e' o st⟩
    · rw [if_neg (by simp only [Bool.or_eq_true, decide_eq_true_eq]; rintro (h | h); exact h1 h; exact h2 h)] at e'; cases e'
def ltI : D → D → Option RV := intI fun i j => vB (decide (i < j))
def leI : D → D → Option RV := intI fun i j => vB (decide (i ≤ j))
def gtD : D → D → Option RV := intI fun i j => vB (decide (j < i))
def geD : D → D → Option RV := intI fun i j => vB (decide (j ≤ i))
theorem o2_gt : O2 X C (compareOp .Gt) gtD := o2_B0 op_gt
theorem o2_ge : O2 X C (compareOp .GtE) geD := o2_B0 op_ge
def negD : D → Option RV
  | .int i => vI (-i)
  | _ => none
theorem p1_neg : Prim1 C (rU fun i => .int (-i)) negD := by
  intro S H x dx rv Q st rx e o
  unfold negD at e
  split at e
  · cases rx
    exact ⟨_, rfl, OutP.valI e o st⟩
  · cases e

/-! ### adding -/
def catStr : D → D → Option RV
  | .str a, .str b => if a.length + b.length ≤ LIM then some (.val (.str (a ++ b))) else none
  | _, _ => none
theorem o2_addStr : O2 X C (binaryOp .Add) catStr := by
  refine ⟨_, op_add_str, fun S H x y dx dy rv Q st rx ry e o => ?_⟩
  unfold catStr at e
  split at e
  · split at e
    · rename_i h
      cases rx; cases ry; cases e
      rw [LIM_eq] at h
      exact ⟨_, _, rfl, rfl, h, (o fun _ z => by cases z).flat st (.str _)⟩
    · cases e
  · cases e
def catLst : D → D → Option RV
  | .lst a, .lst b => if a.length + b.length ≤ LIM then some (.own (.lst (a ++ b))) else none
  | _, _ => none
theorem o2_addLst : O2 X C (binaryOp .Add) catLst := by
  refine ⟨_, op_cat, fun S H x y dx dy rv Q st rx ry e o => ?_⟩
  unfold catLst at e
  split at e
  · split at e
    · rename_i h
      obtain ⟨a, xs, rfl, h1, h2⟩ := rx
      obtain ⟨b, ys, rfl, h3, h4⟩ := ry
      cases e
      rw [LIM_eq] at h
      exact ⟨a, b, xs, ys, rfl, rfl, h1, h3, by rw [← h2.len, ← h4.len] at h; exact h, fun p n => (o fun _ z => by cases z).lst (h2.app h4) n⟩
    · cases e
  · cases e
def catTup : D → D → Option RV
  | .tup a, .tup b => if a.length + b.length ≤ LIM then some (.val (.tup (a ++ b))) else none
  | _, _ => none
theorem o2_addTup (hK : X.K = C.K) : O2 X C (binaryOp .Add) catTup := by
  refine ⟨_, op_catA, fun S H x y dx dy rv Q st rx ry e o => ?_⟩
  rw [hK]
  unfold catTup at e
  split at e
  · split at e
    · rename_i h
      obtain ⟨a, xs, rfl, h1, h2, h1'⟩ := rx
      obtain ⟨b, ys, rfl, h3, h4, h3'⟩ := ry
      cases e
      have o := o fun _ z => by cases z
      rw [LIM_eq] at h
      refine ⟨a, b, xs, ys, rfl, rfl, h1, h3, by rw [← h2.len, ← h4.len] at h; exact h, fun z => ?_, fun _ z => ?_, fun _ _ p n => o.tup st (h2.app h4) n⟩
      · subst z; cases h2; exact o.flat st (.tup h3' h4)
      · subst z; cases h4; rw [List.append_nil] at o; exact o.flat st (.tup h1' h2)
    · cases e
  · cases e
def addD : D → D → Option RV
  | .int i, .int j => vI (i + j)
  | .str a, .str b => if a.length + b.length ≤ LIM then some (.val (.str (a ++ b))) else none
  | .lst a, .lst b => if a.length + b.length ≤ LIM then some (.own (.lst (a ++ b))) else none
  | .tup a, .tup b => if a.length + b.length ≤ LIM then some (.val (.tup (a ++ b))) else none
  | _, _ => none
theorem o2_add (hK : X.K = C.K) : O2 X C (binaryOp .Add) addD := by
  refine O2.or (k := addD) (O2.or (k := fun x y => (intI (fun i j => vI (i + j)) x y).or (catStr x y)) (o2_I0 op_add) o2_addStr ?_) (O2.or (k := fun x y => (catLst x y).or (catTup x y)) o2_addLst (o2_addTup hK) ?_) ?_
  · intro x y rv h
    exact (Option.or_eq_some_iff.mp h).imp id And.right
  · intro x y rv h
    exact (Option.or_eq_some_iff.mp h).imp id And.right
  · intro x y rv h
    unfold addD at h
    split at h
    · exact .inl h
    · exact .inl h
    · exact .inr (by show (catLst _ _).or none = _; rw [Option.or_none]; exact h)
    · exact .inr h
    · cases h

/-! ### times -/
def mulOk (i j : Int) : Bool := decide (i.natAbs < 18446744073709551616) || decide (j.natAbs < 18446744073709551616) || decide (i.natAbs.log2 + j.natAbs.log2 < 1000000)
def repLst : D → D → Option RV
  | .lst a, .int k => if decide (-(2 ^ 63) ≤ k ∧ k < 2 ^ 63 ∧ a.length * k.toNat ≤ LIM) then some (.own (.lst (List.replicate k.toNat a).flatten)) else none
  | _, _ => none
def repTup : D → D → Option RV
  | .tup a, .int k => if decide (2 ≤ k ∧ k ≤ 1000 ∧ a ≠ [] ∧ a.length ≤ 1000) then some (.val (.tup (List.replicate k.toNat a).flatten)) else none
  | _, _ => none
def mulD : D → D → Option RV
  | .int i, .int j => if mulOk i j then vI (i * j) else none
  | .lst a, .int k => if decide (-(2 ^ 63) ≤ k ∧ k < 2 ^ 63 ∧ a.length * k.toNat ≤ LIM) then some (.own (.lst (List.replicate k.toNat a).flatten)) else none
  | .tup a, .int k => if decide (2 ≤ k ∧ k ≤ 1000 ∧ a.length ≤ 1000) && !a.isEmpty then some (.val (.tup (List.replicate k.toNat a).flatten)) else none
  | _, _ => none
theorem lt64 {i : Int} (h : i.natAbs < 18446744073709551616) : -(2 ^ 64) < i ∧ i < 2 ^ 64 := by
  have e : (2 : Int) ^ 64 = 18446744073709551616 := by decide
  rw [e]; omega
theorem o2_mul (hK : X.K = C.K) : O2 X C (binaryOp .Mult) mulD := by
  refine ⟨_, OpR.or (OpR.or op_mul op_mulW) (OpR.or op_rep op_repT), fun S H x y dx dy rv Q st rx ry e o => ?_⟩
  unfold mulD at e
  split at e
  · split at e
    · rename_i i j h
      cases rx; cases ry
      unfold mulOk at h
      simp only [Bool.or_eq_true, decide_eq_true_eq] at h
      rcases h with (h | h) | h
      · exact .inl (.inl ⟨i, j, rfl, rfl, .inl (lt64 h), OutP.valI e o st⟩)
      · exact .inl (.inl ⟨i, j, rfl, rfl, .inr (lt64 h), OutP.valI e o st⟩)
      · exact .inl (.inr ⟨i, j, rfl, rfl, h, OutP.valI e o st⟩)
    · cases e
  · split at e
    · rename_i h
      obtain ⟨a, xs, rfl, h1, h2⟩ := rx
      cases ry; cases e
      have h := of_decide_eq_true h
      rw [LIM_eq, ← h2.len] at h
      exact .inr (.inl ⟨a, _, xs, rfl, rfl, h1, h.1, h.2.1, h.2.2, fun p n => (o fun _ z => by cases z).lst (h2.rep _) n⟩)
    · cases e
  · split at e
    · rename_i h
      obtain ⟨a, xs, rfl, h1, h2, _⟩ := rx
      cases ry; cases e
      simp only [Bool.and_eq_true, decide_eq_true_eq] at h
      rw [← h2.len] at h
      refine .inr (.inr ⟨a, _, xs, rfl, rfl, by rw [hK]; exact h1, fun z => ?_, h.1.1, h.1.2.1, h.1.2.2, fun p n => (o fun _ z => by cases z).tup st (h2.rep _) n⟩)
      subst z; cases h2; cases h.2
    · cases e
  · cases e

/-! ### less -/
def intsD : List D → Option (List Int)
  | [] => some []
  | .int i :: ds => (intsD ds).map (i :: ·)
  | _ :: _ => none
theorem intsD_some : ∀ {ds : List D} {ns : List Int}, intsD ds = some ns → ds = ns.map D.int
  | [], ns, h => by cases h; rfl
  | .int i :: ds, ns, h => by
    have h : (intsD ds).map (i :: ·) = some ns := h
    cases q : intsD ds with
    | none => rw [q] at h; cases h
    | some ms => rw [q] at h; cases h; rw [intsD_some q]; rfl
  | .non :: _, _, h => nomatch h
  | .bl _ :: _, _, h => nomatch h
  | .str _ :: _, _, h => nomatch h
  | .tup _ :: _, _, h => nomatch h
  | .lst _ :: _, _, h => nomatch h
  | .dic _ :: _, _, h => nomatch h
  | .scr _ :: _, _, h => nomatch h
  | .ty _ :: _, _, h => nomatch h
  | .fn _ :: _, _, h => nomatch h
  | .cls _ :: _, _, h => nomatch h
  | .obj _ _ :: _, _, h => nomatch h
theorem intsD_map (ns : List Int) : intsD (ns.map D.int) = some ns := by
  induction ns with
  | nil => rfl
  | cons n ns ih => show (intsD (ns.map D.int)).map (n :: ·) = _; rw [ih]; rfl
def ltD : D → D → Option RV
  | .int i, .int j => vB (decide (i < j))
  | .str a, .str b => vB (decide (a.cps.toList < b.cps.toList))
  | .tup a, .tup b => match intsD a, intsD b with
    | some ns, some ms => vB (HT.lexLt ns ms)
    | _, _ => none
  | _, _ => none
def leD : D → D → Option RV
  | .int i, .int j => vB (decide (i ≤ j))
  | .str a, .str b => vB (!decide (b.cps.toList < a.cps.toList))
  | _, _ => none
theorem o2_lt (hK : X.K = C.K) (hu : X.A.units < cLine) : O2 X C (compareOp .Lt) ltD := by
  refine ⟨_, OpR.or op_lt (OpR.or op_lt_str (op_ltT hu)), fun S H x y dx dy rv Q st rx ry e o => ?_⟩
  unfold ltD at e
  split at e
  · cases rx; cases ry
    exact .inl ⟨_, _, rfl, rfl, OutP.valB e o st⟩
  · cases rx; cases ry
    exact .inr (.inl ⟨_, _, rfl, rfl, OutP.valB e o st⟩)
  · split at e
    · rename_i q1 q2
      obtain ⟨a, xs, rfl, h1, h2, _⟩ := rx
      obtain ⟨b, ys, rfl, h3, h4, _⟩ := ry
      rw [intsD_some q1] at h2
      rw [intsD_some q2] at h4
      rw [h2.ints] at h1
      rw [h4.ints] at h3
      exact .inr (.inr ⟨a, b, _, _, rfl, rfl, by rw [hK]; exact h1, by rw [hK]; exact h3, OutP.valB e o st⟩)
    · cases e
  · cases e
theorem o2_le : O2 X C (compareOp .LtE) leD := by
  refine ⟨_, OpR.or op_le op_le_str, fun S H x y dx dy rv Q st rx ry e o => ?_⟩
  unfold leD at e
  split at e
  · cases rx; cases ry
    exact .inl ⟨_, _, rfl, rfl, OutP.valB e o st⟩
  · cases rx; cases ry
    exact .inr ⟨_, _, rfl, rfl, OutP.valB e o st⟩
  · cases e

/-! ### equal -/
mutual
def toPy : D → Option PyData
  | .non => some .none
  | .bl b => some (.bool b)
  | .int i => some (.int i)
  | .str s => some (.str s)
  | .tup ds => (toPys ds).map .tuple
  | .lst ds => (toPys ds).map .list
  | .scr ns => some (.list (ns.map .int))
  | _ => none
def toPys : List D → Option (List PyData)
  | [] => some []
  | d :: ds => match toPy d, toPys ds with
    | some x, some xs => some (x :: xs)
    | _, _ => none
end
section
variable {K : PySem.W.Frag} {S H : Hp}
theorem dpAll_ints (ns : List Int) : DpAll K H (ns.map V.int) (ns.map PyData.int) := by
  induction ns with
  | nil => exact .nil
  | cons n ns ih => exact .cons (.int n) ih
mutual
theorem Rep.dp (e : Same S H) : ∀ {v : V} {d : D} {p : PyData}, Rep K S v d → toPy d = some p → Dp K H v p
  | _, _, _, .non, h => by cases h; exact .non
  | _, _, _, .bl b, h => by cases h; exact .bl b
  | _, _, _, .int b, h => by cases h; exact .int b
  | _, _, _, .str b, h => by cases h; exact .str b
  | _, _, _, .ty b, h => by cases h
  | _, _, _, .tup (ds := ds) h1 h2, h => by
    have h : (toPys ds).map PyData.tuple = some _ := h
    cases q : toPys ds with
    | none => rw [q] at h; cases h
    | some ps => rw [q] at h; cases h; exact .tup (same_t e h1) (h2.dps e q)
  | _, _, _, .lst (ds := ds) h1 h2, h => by
    have h : (toPys ds).map PyData.list = some _ := h
    cases q : toPys ds with
    | none => rw [q] at h; cases h
    | some ps => rw [q] at h; cases h; exact .lst (SqL.of (e _ _ h1)) (h2.dps e q)
  | _, _, _, .scr h1, h => by cases h; exact .lst (e.seq h1) (dpAll_ints _)
theorem Reps.dps (e : Same S H) : ∀ {vs : List V} {ds : List D} {ps : List PyData}, Reps K S vs ds → toPys ds = some ps → DpAll K H vs ps
  | _, _, _, .nil, h => by cases h; exact .nil
  | _, _, _, .cons (d := d) (ds := ds) h1 h2, h => by
    have h : (match toPy d, toPys ds with | some x, some xs => some (x :: xs) | _, _ => none) = some _ := h
    cases q1 : toPy d with
    | none => rw [q1] at h; cases h
    | some x =>
      cases q2 : toPys ds with
      | none => rw [q1, q2] at h; cases h
      | some xs => rw [q1, q2] at h; cases h; exact .cons (h1.dp e q1) (h2.dps e q2)
end
theorem Rd.dp {v : V} {d : D} {p : PyData} (e : Same S H) (r : Rd K S H v d) (h : toPy d = some p) : Dp K H v p := by
  cases d with
  | non => cases r; cases h; exact .non
  | bl b => cases r; cases h; exact .bl b
  | int i => cases r; cases h; exact .int i
  | str x => cases r; cases h; exact .str x
  | tup ds =>
    obtain ⟨a, xs, rfl, h1, h2, h3⟩ := r
    exact Rep.dp e (.tup h3 h2) h
  | lst ds =>
    obtain ⟨a, xs, rfl, h1, h2⟩ := r
    have h : (toPys ds).map PyData.list = some _ := h
    cases q : toPys ds with
    | none => rw [q] at h; cases h
    | some ps => rw [q] at h; cases h; exact .lst (SqL.of h1) (h2.dps e q)
  | scr ns =>
    obtain ⟨a, rfl, h1⟩ := r
    cases h
    exact .lst h1 (dpAll_ints _)
  | _ => cases h
end
def eqB (x y : D) : Option Bool := match toPy x, toPy y with
  | some a, some b => if SeqAt.shaped a && SeqAt.shaped b then some (PyData.eqv a b) else none
  | _, _ => none
theorem eqB_some {x y : D} {b : Bool} (h : eqB x y = some b) : ∃ p q, toPy x = some p ∧ toPy y = some q ∧ SeqAt.shaped p = true ∧ SeqAt.shaped q = true ∧ b = PyData.eqv p q := by
  unfold eqB at h
  split at h
  · split at h
    · rename_i q1 q2 q3
      cases h
      rw [Bool.and_eq_true] at q3
      exact ⟨_, _, q1, q2, q3.1, q3.2, rfl⟩
    · cases h
  · cases h
def eqD (x y : D) : Option RV := (eqB x y).map fun b => .val (.bl b)
def neD (x y : D) : Option RV := (eqB x y).map fun b => .val (.bl (!b))
theorem o2_eq (hK : X.K = C.K) (hu : X.A.units + 65 < cLine) : O2 X C (compareOp .Eq) eqD := by
  refine ⟨_, op_eqD (by omega), fun S H x y dx dy rv Q st rx ry e o => ?_⟩
  unfold eqD at e
  cases q : eqB dx dy with
  | none => rw [q] at e; cases e
  | some b =>
    rw [q] at e
    obtain ⟨p, p', h1, h2, h3, h4, rfl⟩ := eqB_some q
    rw [hK]
    exact ⟨p, p', rx.dp st h1, ry.dp st h2, h3, h4, OutP.valB e o st⟩
theorem o2_ne (hK : X.K = C.K) (hu : X.A.units + 65 < cLine) : O2 X C (compareOp .NotEq) neD := by
  refine ⟨_, op_neD (by omega), fun S H x y dx dy rv Q st rx ry e o => ?_⟩
  unfold neD at e
  cases q : eqB dx dy with
  | none => rw [q] at e; cases e
  | some b =>
    rw [q] at e
    obtain ⟨p, p', h1, h2, h3, h4, rfl⟩ := eqB_some q
    rw [hK]
    exact ⟨p, p', rx.dp st h1, ry.dp st h2, h3, h4, OutP.valB (i := !PyData.eqv p p') e o st⟩

/-! ### in -/
def inB (d : D) (ds : List D) : Option Bool := match toPy d, toPys ds with
  | some p, some ps => if SeqAt.shaped p && SeqAt.shaped (.list ps) then some (ps.any fun z => PyData.eqv z p) else none
  | _, _ => none
def flatD : D → Bool
  | .non => true | .bl _ => true | .int _ => true | .str _ => true | _ => false
def seqD : D → Option (List D)
  | .lst ds => some ds
  | .scr ns => some (ns.map .int)
  | _ => none
def inD (d y : D) : Option Bool := match seqD y with
  | some ds => inB d ds
  | none => match d, y with
    | .str a, .str b => some (!(Builtin.Str.occurrences b a 0 b.length 1).isEmpty)
    | d, .tup ds => if flatD d && ds.all flatD then inB d ds else none
    | _, _ => none
theorem toPys_ints (ns : List Int) : toPys (ns.map D.int) = some (ns.map PyData.int) := by
  induction ns with
  | nil => rfl
  | cons n ns ih => show (match toPy (.int n), toPys (ns.map D.int) with | some x, some xs => some (x :: xs) | _, _ => none) = _; rw [ih]; rfl
theorem seqD_dp {S H : Hp} {v : V} {d : D} {ds : List D} {ps : List PyData} (st : Same S H) (r : Rd C.K S H v d) (h : seqD d = some ds) (h' : toPys ds = some ps) : Dp C.K H v (.list ps) := by
  cases d with
  | lst xs => cases h; exact r.dp st (show (toPys ds).map PyData.list = _ by rw [h']; rfl)
  | scr ns => cases h; rw [toPys_ints] at h'; cases h'; exact r.dp st rfl
  | _ => cases h
theorem flat_eq {S : Hp} {v w : V} {d e : D} {p q : PyData} (r : Rep C.K S v d) (r' : Rep C.K S w e) (h : toPy d = some p) (h' : toPy e = some q) (f : flatD d = true) (f' : flatD e = true) : eqV v w = PyData.eqv p q := by
  cases r <;> first | exact (Bool.false_ne_true f).elim | (cases r' <;> first | exact (Bool.false_ne_true f').elim | (cases h; cases h'; rfl))
theorem flat_v {S : Hp} {v : V} {d : D} (r : Rep C.K S v d) (f : flatD d = true) : flatV v = true := by
  cases r <;> first | exact (Bool.false_ne_true f).elim | rfl
theorem flat_in {S : Hp} {v : V} {d : D} {p : PyData} (r : Rep C.K S v d) (h : toPy d = some p) (f : flatD d = true) : ∀ {vs : List V} {ds : List D} {ps : List PyData}, Reps C.K S vs ds → toPys ds = some ps → ds.all flatD = true → vs.all flatV = true ∧ inV v vs = ps.any fun z => PyData.eqv z p
  | [], [], ps, .nil, h', _ => by cases h'; exact ⟨rfl, rfl⟩
  | u :: us, e :: es, ps, .cons r1 r2, h', f' => by
    have h' : (match toPy e, toPys es with | some x, some xs => some (x :: xs) | _, _ => none) = some ps := h'
    rw [List.all_cons, Bool.and_eq_true] at f'
    cases q1 : toPy e with
    | none => rw [q1] at h'; cases h'
    | some x =>
      cases q2 : toPys es with
      | none => rw [q1, q2] at h'; cases h'
      | some xs =>
        rw [q1, q2] at h'; cases h'
        obtain ⟨a, b⟩ := flat_in r h f r2 q2 f'.2
        refine ⟨by rw [List.all_cons, a, flat_v r1 f'.1]; rfl, ?_⟩
        show ((u :: us).any fun y => eqV y v) = _
        rw [List.any_cons, List.any_cons, flat_eq r1 r q1 h f'.1 f]
        show (_ || inV v us) = _
        rw [b]
theorem inB_some {d : D} {ds : List D} {b : Bool} (h : inB d ds = some b) : ∃ p ps, toPy d = some p ∧ toPys ds = some ps ∧ SeqAt.shaped p = true ∧ SeqAt.shaped (.list ps) = true ∧ b = ps.any fun z => PyData.eqv z p := by
  unfold inB at h
  split at h
  · split at h
    · rename_i q1 q2 q3
      cases h
      rw [Bool.and_eq_true] at q3
      exact ⟨_, _, q1, q2, q3.1, q3.2, rfl⟩
    · cases h
  · cases h
theorem Rd.flat {S H : Hp} {v : V} {d : D} (r : Rd C.K S H v d) (f : flatD d = true) : Rep C.K S v d := by
  refine r.flat_rep ?_
  cases d <;> first | trivial | cases f
/-- x in y: the relation -/
theorem in_ok {S H : Hp} {x y : V} {dx dy : D} {b : Bool} (st : Same S H) (rx : Rd C.K S H x dx) (ry : Rd C.K S H y dy) (e : inD dx dy = some b) :
    (∃ d ds, Dp C.K H x d ∧ Dp C.K H y (.list ds) ∧ SeqAt.shaped d = true ∧ SeqAt.shaped (.list ds) = true ∧ b = ds.any fun z => PyData.eqv z d) ∨
    (∃ i j, x = .str i ∧ y = .str j ∧ b = !(Builtin.Str.occurrences j i 0 j.length 1).isEmpty) ∨
    ∃ p xs, y = .ref p ∧ (SqL C.K H p xs ∨ SqT C.K H p xs) ∧ flatV x = true ∧ xs.all flatV = true ∧ b = inV x xs := by
  unfold inD at e
  cases q : seqD dy with
  | some ds =>
    rw [q] at e
    obtain ⟨p, ps, h1, h2, h3, h4, h5⟩ := inB_some e
    exact .inl ⟨p, ps, rx.dp st h1, seqD_dp st ry q h2, h3, h4, h5⟩
  | none =>
    rw [q] at e
    simp only at e
    split at e
    · cases rx; cases ry; cases e
      exact .inr (.inl ⟨_, _, rfl, rfl, rfl⟩)
    · rename_i ds
      split at e
      · rename_i f
        rw [Bool.and_eq_true] at f
        obtain ⟨p, ps, h1, h2, h3, h4, h5⟩ := inB_some e
        obtain ⟨a, xs, rfl, t1, t2, _⟩ := ry
        obtain ⟨u1, u2⟩ := flat_in (rx.flat f.1) h1 f.1 t2 h2 f.2
        exact .inr (.inr ⟨a, xs, rfl, .inr t1, flat_v (rx.flat f.1) f.1, u1, by rw [u2]; exact h5⟩)
      · cases e
    · cases e
def inDV (x y : D) : Option RV := (inD x y).map fun b => .val (.bl b)
def notInDV (x y : D) : Option RV := (inD x y).map fun b => .val (.bl (!b))
theorem o2_in (hK : X.K = C.K) (hu : X.A.units + 65 < cLine) : O2 X C (compareOp .In) inDV := by
  refine ⟨_, OpR.or (op_inD hu) (OpR.or op_in_str op_in_seq), fun S H x y dx dy rv Q st rx ry e o => ?_⟩
  unfold inDV at e
  cases q : inD dx dy with
  | none => rw [q] at e; cases e
  | some b =>
    rw [q] at e
    have ob : Q (.bl b) H := OutP.valB e o st
    rw [hK]
    rcases in_ok st rx ry q with ⟨d, ds, h1, h2, h3, h4, h5⟩ | ⟨i, j, h1, h2, h3⟩ | ⟨p, xs, h1, h2, h3, h4, h5⟩
    · exact .inl ⟨d, ds, h1, h2, h3, h4, by rw [← h5]; exact ob⟩
    · exact .inr (.inl ⟨i, j, h1, h2, by rw [← h3]; exact ob⟩)
    · exact .inr (.inr ⟨p, xs, h1, h2, h3, h4, by rw [if_neg Bool.false_ne_true, ← h5]; exact ob⟩)
theorem o2_notIn (hK : X.K = C.K) (hu : X.A.units + 65 < cLine) : O2 X C (compareOp .NotIn) notInDV := by
  refine ⟨_, OpR.or (op_notInD hu) (OpR.or op_notIn_str op_notIn_seq), fun S H x y dx dy rv Q st rx ry e o => ?_⟩
  unfold notInDV at e
  cases q : inD dx dy with
  | none => rw [q] at e; cases e
  | some b =>
    rw [q] at e
    have ob : Q (.bl (!b)) H := OutP.valB (i := !b) e o st
    rw [hK]
    rcases in_ok st rx ry q with ⟨d, ds, h1, h2, h3, h4, h5⟩ | ⟨i, j, h1, h2, h3⟩ | ⟨p, xs, h1, h2, h3, h4, h5⟩
    · exact .inl ⟨d, ds, h1, h2, h3, h4, by rw [← h5]; exact ob⟩
    · exact .inr (.inl ⟨i, j, h1, h2, by rw [← h3]; exact ob⟩)
    · exact .inr (.inr ⟨p, xs, h1, h2, h3, h4, by rw [if_pos rfl, ← h5]; exact ob⟩)
/-! ### is -/
def isNonD : D → Option Bool
  | .non => some true
  | .bl _ | .int _ | .str _ | .tup _ | .lst _ | .scr _ | .ty _ => some false
  | _ => none
theorem isNonD_ok {S H : Hp} {v : V} {d : D} {b : Bool} (r : Rd C.K S H v d) (h : isNonD d = some b) : decide (v = .non) = b := by
  cases d with
  | non => cases r; cases h; rfl
  | bl b => cases r; cases h; rfl
  | int i => cases r; cases h; rfl
  | str x => cases r; cases h; rfl
  | ty x => cases r; cases h; rfl
  | tup ds => obtain ⟨a, xs, rfl, _⟩ := r; cases h; rfl
  | lst ds => obtain ⟨a, xs, rfl, _⟩ := r; cases h; rfl
  | scr ds => obtain ⟨a, rfl, _⟩ := r; cases h; rfl
  | _ => cases h
def isD : D → D → Option RV
  | d, .non => (isNonD d).map fun b => .val (.bl b)
  | .bl a, .bl b => vB (decide (a = b))
  | _, _ => none
def isNotD : D → D → Option RV
  | d, .non => (isNonD d).map fun b => .val (.bl (!b))
  | .bl a, .bl b => vB (!decide (a = b))
  | _, _ => none
theorem o2_is : O2 X C (compareOp .Is) isD := by
  refine ⟨_, OpR.or op_isN op_isBl, fun S H x y dx dy rv Q st rx ry e o => ?_⟩
  unfold isD at e
  split at e
  · cases ry
    cases q : isNonD dx with
    | none => rw [q] at e; cases e
    | some b =>
      rw [q] at e
      exact .inl ⟨rfl, by rw [isNonD_ok rx q]; exact OutP.valB e o st⟩
  · cases rx; cases ry
    exact .inr ⟨_, _, rfl, rfl, OutP.valB e o st⟩
  · cases e
theorem o2_isNot : O2 X C (compareOp .IsNot) isNotD := by
  refine ⟨_, OpR.or op_notN op_notBl, fun S H x y dx dy rv Q st rx ry e o => ?_⟩
  unfold isNotD at e
  split at e
  · cases ry
    cases q : isNonD dx with
    | none => rw [q] at e; cases e
    | some b =>
      rw [q] at e
      exact .inl ⟨rfl, by rw [isNonD_ok rx q]; exact OutP.valB (i := !b) e o st⟩
  · cases rx; cases ry
    exact .inr ⟨_, _, rfl, rfl, OutP.valB e o st⟩
  · cases e
end
end VL

/-! VL part m: items, slices, calls of built-ins. -/
namespace VL
open PySem L2 PySem.Spec PyProof
section
variable {X : Cx} {C : Cfg} {W : WX} {cf : CF} {T : List (Str × Nat)} {e a b c : Expr} {es : List Expr} {ma mb mc : M RV} {ms : List (M RV)} {pos p : Pos}

/-! ### items -/
def ixD : D → D → Option RV
  | .lst ds, .int i => (atI ds i).map RV.val
  | .tup ds, .int i => (atI ds i).map RV.val
  | .scr ns, .int i => (atI ns i).map fun n => RV.val (.int n)
  | .str s, .int i => if s.length ≤ LIM then (atI s.cps.toList i).map fun c => RV.val (.str ⟨#[c]⟩) else none
  | _, _ => none
theorem atI_reps {K : PySem.W.Frag} {S : Hp} {xs : List V} {ds : List D} {i : Int} {d : D} (r : Reps K S xs ds) (h : atI ds i = some d) : ∃ v, atI xs i = some v ∧ Rep K S v d := by
  unfold atI at h ⊢
  rw [r.len]
  cases q : ixN ds.length i with
  | none => rw [q] at h; cases h
  | some j =>
    rw [q] at h
    obtain ⟨v, h1, h2⟩ := r.at h
    exact ⟨v, h1, h2⟩
theorem atI_map {α β : Type} (f : α → β) (xs : List α) (i : Int) : atI (xs.map f) i = (atI xs i).map f := by
  unfold atI
  rw [List.length_map]
  cases ixN xs.length i with
  | none => rfl
  | some j => show (xs.map f)[j]? = (xs[j]?).map f; rw [List.getElem?_map]
theorem p2_ix : Prim2 C (fun x y H Q => (rIxL C.K x y H Q ∨ rIxT C.K x y H Q) ∨ rIxS x y H Q) ixD := by
  intro S H x y dx dy rv Q st rx ry e o
  unfold ixD at e
  split at e
  · rename_i ds i
    obtain ⟨a, xs, rfl, h1, h2⟩ := rx
    cases ry
    cases q : atI ds i with
    | none => rw [q] at e; cases e
    | some d =>
      rw [q] at e; cases e
      obtain ⟨v, h3, h4⟩ := atI_reps h2 q
      exact .inl (.inl ⟨a, xs, i, v, rfl, rfl, SqL.of h1, h3, (o fun _ z => by cases z).flat st h4⟩)
  · rename_i ds i
    obtain ⟨a, xs, rfl, h1, h2, _⟩ := rx
    cases ry
    cases q : atI ds i with
    | none => rw [q] at e; cases e
    | some d =>
      rw [q] at e; cases e
      obtain ⟨v, h3, h4⟩ := atI_reps h2 q
      exact .inl (.inr ⟨a, xs, i, v, rfl, rfl, h1, h3, (o fun _ z => by cases z).flat st h4⟩)
  · rename_i ns i
    obtain ⟨a, rfl, h1⟩ := rx
    cases ry
    cases q : atI ns i with
    | none => rw [q] at e; cases e
    | some n =>
      rw [q] at e; cases e
      exact .inl (.inl ⟨a, _, i, .int n, rfl, rfl, h1, by rw [atI_map, q]; rfl, (o fun _ z => by cases z).flat st (.int n)⟩)
  · rename_i s i
    cases rx; cases ry
    split at e
    · rename_i hl
      cases q : atI s.cps.toList i with
      | none => rw [q] at e; cases e
      | some c =>
        rw [q] at e; cases e
        rw [LIM_eq] at hl
        exact .inr ⟨s, i, c, rfl, rfl, hl, q, (o fun _ z => by cases z).flat st (.str _)⟩
    · cases e
  · cases e
theorem ve_ix (vx : Vx X C W cf T) (ha : VE X C W a ma) (hb : VE X C W b mb) (hs : PlainIx b := by intro o i; rfl) : VE X C W (.Subscript a b pos) (binM ixD ma mb) := by
  refine ⟨PE.imp (pe_ix (IxR.or (IxR.or ix_list ix_tup) ix_str) ha.pe hb.pe hs) fun σ H Q h => ?_⟩
  rw [vx.K]
  exact tE_bin p2_ix h

/-! ### slices -/
def Optr : Rl (Option Int) (Option Int) := fun _ _ a _ _ _ b => b = a
theorem Optr.back {σ : L2.St} : Back C σ Optr := fun _ _ _ _ _ _ _ _ _ _ _ _ r => r
def tO (C : Cfg) (W : WX) (m : M (Option Int)) : TO := fun σ H Q => ∃ S ρ, StRel C S ρ σ H ∧ Good C W σ S ρ H (m ρ) Optr Q
structure VO (X : Cx) (C : Cfg) (W : WX) (e : Option Expr) (m : M (Option Int)) : Prop where po : PO X e (tO C W m)
theorem PO.imp {e : Option Expr} {t t' : TO} (h : PO X e t) (i : ∀ σ H Q, t' σ H Q → t σ H Q) : PO X e t' := ⟨fun pins s σ H Q I q => h.run pins s σ H Q I (i σ H Q q)⟩
def noO : M (Option Int) := pure none
def intO (m : M RV) : M (Option Int) := opd m >>= fun o => look o >>= fun d => M.lift (match d with | .int i => some (some i) | _ => none)
theorem vo_none : VO X C W none noO := by
  refine ⟨PO.imp po_none fun σ H Q h => ?_⟩
  obtain ⟨S, ρ, st, g⟩ := h
  have g : ∀ S' H' b, Stp C σ S ρ H S' ρ H' → b = none → Q b H' := g
  exact g S H none (Stp.refl st) rfl
theorem vo_some (ha : VE X C W a ma) : VO X C W (some a) (intO ma) := by
  refine ⟨PO.imp (po_some ha.pe) fun σ H Q h => ?_⟩
  obtain ⟨S, ρ, st, g⟩ := h
  refine ⟨S, ρ, st, Good.opd (Good.bnd Optr.back g fun x ρ1 S1 H1 v _ e1 r1 g1 => ?_)⟩
  obtain ⟨d, h1, g2⟩ := Good.look e1.st r1 g1
  cases d with
  | int i =>
    cases h1
    have g2 : ∀ S' H' b, Stp C σ S1 ρ1 H1 S' ρ1 H' → b = some i → Q b H' := g2
    exact ⟨i, rfl, g2 S1 H1 _ (Stp.refl e1.st) rfl⟩
  | _ => exact g2.elim
def cutL {α : Type} (xs : List α) (lo hi : Option Int) : List α := (xs.drop (HT.sIx xs.length 0 lo)).take (HT.sIx xs.length xs.length hi - HT.sIx xs.length 0 lo)
def slD (lo hi : Option Int) : D → Option RV
  | .lst ds => some (.own (.lst (cutL ds lo hi)))
  | .tup ds => some (.val (.tup (cutL ds lo hi)))
  | .scr ns => some (.own (.lst ((cutL ns lo hi).map .int)))
  | .str z => if z.length ≤ LIM then some (.val (.str (cutS z lo hi))) else none
  | _ => none
def slM (ma : M RV) (ml mh : M (Option Int)) : M RV := opd ma >>= fun o => ml >>= fun lo => mh >>= fun hi => look o >>= fun d => M.lift (slD lo hi d)
theorem cutL_whole {α : Type} {xs : List α} {lo hi : Option Int} (h : HT.sIx xs.length 0 lo = 0 ∧ HT.sIx xs.length xs.length hi = xs.length) : cutL xs lo hi = xs := by
  unfold cutL; rw [h.1, h.2, List.drop_zero, Nat.sub_zero, List.take_of_length_le (Nat.le_refl _)]
theorem Reps.cut {K : PySem.W.Frag} {S : Hp} {xs : List V} {ds : List D} (r : Reps K S xs ds) (lo hi : Option Int) : Reps K S (cutV xs lo hi) (cutL ds lo hi) := by
  show Reps K S (cutL xs lo hi) (cutL ds lo hi)
  unfold cutL
  rw [r.len]
  exact (r.drop _).take _
theorem ve_sl {ml mh : M (Option Int)} {lo hi : Option Expr} {p2 : Pos} (vx : Vx X C W cf T) (ha : VE X C W a ma) (hl : VO X C W lo ml) (hh : VO X C W hi mh) : VE X C W (.Subscript a (.Slice lo hi none p2) pos) (slM ma ml mh) := by
  refine ⟨PE.imp (pe_slice (SlR.or (SlR.or sl_list sl_tupA) sl_str) ha.pe hl.po hh.po) fun σ H Q h => ?_⟩
  obtain ⟨S, ρ, st, g⟩ := h
  refine ⟨S, ρ, st, Good.opd (Good.bnd RVr.back g fun x ρ1 S1 H1 v _ e1 r1 g1 => ?_)⟩
  refine ⟨S1, ρ1, e1.st, Good.bnd RVr.back g1 fun lo ρ2 S2 H2 lo' _ e2 r2 g2 => ?_⟩
  cases r2
  refine ⟨S2, ρ2, e2.st, Good.bnd RVr.back g2 fun hi ρ3 S3 H3 hi' _ e3 r3 g3 => ?_⟩
  cases r3
  obtain ⟨d, h1, g4⟩ := Good.look e3.st (Op.fwd r1 (e2.ext.sS.trans e3.ext.sS)) g3
  obtain ⟨rv, h3, g5⟩ := Good.out e3.st g4
  have s3 := e3.st.same
  rw [vx.K]
  cases d with
  | lst ds =>
    obtain ⟨a, xs, rfl, h4, h5⟩ := h1
    cases h3
    exact .inl (.inl ⟨a, xs, rfl, SqL.of h4, fun p n => (g5 fun _ z => by cases z).lst (h5.cut _ _) n⟩)
  | scr ns =>
    obtain ⟨a, rfl, h4⟩ := h1
    cases h3
    refine .inl (.inl ⟨a, _, rfl, h4, fun p n => ?_⟩)
    have z := (g5 fun _ z => by cases z).lst (Reps.of_ints _) n
    have e : cutV (ns.map V.int) lo hi = (cutL ns lo hi).map V.int := by
      show cutL (ns.map V.int) lo hi = _
      unfold cutL
      rw [List.length_map, List.map_take, List.map_drop]
    rw [e]; exact z
  | tup ds =>
    obtain ⟨a, xs, rfl, h4, h5, h6⟩ := h1
    cases h3
    have o := g5 fun _ z => by cases z
    refine .inl (.inr ⟨a, xs, rfl, h4, fun w => ?_, fun w p n => o.tup s3 (h5.cut _ _) n⟩)
    refine o.flat s3 (.tup h6 ?_)
    have z := h5.cut (S := S3) lo hi
    rw [show cutV xs lo hi = xs from cutL_whole w] at z
    exact z
  | str z =>
    cases h1
    have h3 : (if z.length ≤ LIM then some (RV.val (.str (cutS z lo hi))) else none) = some rv := h3
    split at h3
    · rename_i hl
      cases h3
      rw [LIM_eq] at hl
      exact .inr ⟨z, rfl, hl, (g5 fun _ z => by cases z).flat s3 (.str _)⟩
    · cases h3
  | _ => cases h3
end
end VL

/-! VL part n: calls of built-ins. -/
namespace VL
open PySem L2 PySem.Spec PyProof PyProof.Rows
section
variable {X : Cx} {C : Cfg} {W : WX} {cf : CF} {T : List (Str × Nat)} {e a b c : Expr} {es : List Expr} {ma mb mc : M RV} {ms : List (M RV)} {pos p py : Pos} {x : Str}
structure CN (X : Cx) (C : Cfg) (f : Value) (g : List D → Option RV) : Prop where
  ex : ∃ r, CallR X f r ∧ PrimN C r g
theorem ve_cb {id : String} {f : List D → Option RV} (hc : CN X C (.builtin id) f) (hg : Gl X x) (hm : X.mg x = none) (hv : bootBuiltins x = some (.builtin id)) (ha : VA X C W (e :: es) ms) (hn : x ≠ "__name__" := by decide) (hdb : (x == ("__debug__" : Str)) = false := by decide)
    (he : starEach (e :: es) X.env = (false, eval e X.env) :: starEach es X.env := by rfl) (hpl : (backTo pos (starEach es X.env)).any (·.1) = false := by rfl) : VE X C W (.Call (.Name x p) (e :: es) [] pos) (primM f ms) := by
  obtain ⟨r, h1, h2⟩ := hc.ex
  exact ⟨PE.imp (pe_callB h1 hg hm hv ha.pa hn hdb he hpl) fun σ H Q h => tE_prim h2 h⟩
theorem ve_ct {id : String} {f : List D → Option RV} (hc : CN X C (.type id) f) (hg : Gl X x) (hm : X.mg x = none) (hv : bootBuiltins x = some (.type id)) (ha : VA X C W (e :: es) ms) (hn : x ≠ "__name__" := by decide) (hdb : (x == ("__debug__" : Str)) = false := by decide)
    (he : starEach (e :: es) X.env = (false, eval e X.env) :: starEach es X.env := by rfl) (hpl : (backTo pos (starEach es X.env)).any (·.1) = false := by rfl) : VE X C W (.Call (.Name x p) (e :: es) [] pos) (primM f ms) := by
  obtain ⟨r, h1, h2⟩ := hc.ex
  exact ⟨PE.imp (pe_callTy h1 hg hm hv ha.pa hn hdb he hpl) fun σ H Q h => tE_prim h2 h⟩
theorem Rds.one {K : PySem.W.Frag} {S H : Hp} {vs : List V} {d : D} (h : Rds K S H vs [d]) : ∃ v, vs = [v] ∧ Rd K S H v d := by
  cases h with | cons a r => cases r; exact ⟨_, rfl, a⟩
theorem Rds.two {K : PySem.W.Frag} {S H : Hp} {vs : List V} {d e : D} (h : Rds K S H vs [d, e]) : ∃ v w, vs = [v, w] ∧ Rd K S H v d ∧ Rd K S H w e := by
  cases h with | cons a r => cases r with | cons b r => cases r; exact ⟨_, _, rfl, a, b⟩
def one1 (f : D → Option RV) : List D → Option RV
  | [d] => f d
  | _ => none
theorem one1_some {f : D → Option RV} {ds : List D} {rv : RV} (h : one1 f ds = some rv) : ∃ d, ds = [d] ∧ f d = some rv := by
  unfold one1 at h
  split at h
  · exact ⟨_, rfl, h⟩
  · cases h
def two2 (f : D → D → Option RV) : List D → Option RV
  | [d, e] => f d e
  | _ => none
theorem two2_some {f : D → D → Option RV} {ds : List D} {rv : RV} (h : two2 f ds = some rv) : ∃ d e, ds = [d, e] ∧ f d e = some rv := by
  unfold two2 at h
  split at h
  · exact ⟨_, _, rfl, h⟩
  · cases h

/-! ### len, abs, int, list, tuple -/
def lenN : D → Option Nat
  | .str z => if z.length ≤ LIM then some z.length else none
  | .tup ds => some ds.length
  | .lst ds => some ds.length
  | .scr ns => some ns.length
  | _ => none
def lenD (d : D) : Option RV := (lenN d).map fun (n : Nat) => .val (.int (n : Int))
theorem cn_len (hK : X.K = C.K) : CN X C (.builtin "len") (one1 lenD) := by
  refine ⟨_, call_len, fun S H xs ds rv Q st r e o => ?_⟩
  obtain ⟨d, hd, e'⟩ := one1_some e
  subst hd; clear e; have e := e'; clear e'
  obtain ⟨v, hv, r'⟩ := r.one
  subst hv; clear r; have r := r'; clear r'
  unfold lenD at e
  rw [hK]
  cases q : lenN d with
  | none => rw [q] at e; cases e
  | some n =>
    rw [q] at e
    refine ⟨v, n, rfl, ?_, OutP.valI e o st⟩
    cases d with
    | str z =>
      cases r
      have q : (if z.length ≤ LIM then some z.length else none) = some n := q
      split at q
      · rename_i hl; cases q; rw [LIM_eq] at hl; exact ⟨hl, rfl⟩
      · cases q
    | tup ds => obtain ⟨a, xs, rfl, h1, h2, _⟩ := r; cases q; exact .inr ⟨xs, h1, h2.len.symm⟩
    | lst ds => obtain ⟨a, xs, rfl, h1, h2⟩ := r; cases q; exact .inl ⟨xs, SqL.of h1, h2.len.symm⟩
    | scr ns => obtain ⟨a, rfl, h1⟩ := r; cases q; exact .inl ⟨_, h1, by rw [List.length_map]⟩
    | _ => cases q
def absD : D → Option RV
  | .int i => vI (if i < 0 then -i else i)
  | _ => none
theorem cn_abs : CN X C (.builtin "abs") (one1 absD) := by
  refine ⟨_, call_abs, fun S H xs ds rv Q st r e o => ?_⟩
  obtain ⟨d, hd, e'⟩ := one1_some e
  subst hd; clear e; have e := e'; clear e'
  obtain ⟨v, hv, r'⟩ := r.one
  subst hv; clear r; have r := r'; clear r'
  cases d with
  | int i => cases r; exact ⟨i, rfl, OutP.valI e o st⟩
  | _ => cases e
def intD : D → Option RV
  | .int i => vI i
  | .bl k => vI (if k then 1 else 0)
  | _ => none
theorem cn_int : CN X C (.type "int") (one1 intD) := by
  refine ⟨_, call_int1, fun S H xs ds rv Q st r e o => ?_⟩
  obtain ⟨d, hd, e'⟩ := one1_some e
  subst hd; clear e; have e := e'; clear e'
  obtain ⟨v, hv, r'⟩ := r.one
  subst hv; clear r; have r := r'; clear r'
  cases d with
  | int i => cases r; exact .inl ⟨i, rfl, OutP.valI e o st⟩
  | bl i => cases r; exact .inr ⟨i, rfl, OutP.valI e o st⟩
  | _ => cases e
def listD : D → Option RV
  | .lst ds => some (.own (.lst ds))
  | .tup ds => some (.own (.lst ds))
  | .scr ns => some (.own (.lst (ns.map .int)))
  | _ => none
theorem cn_list (hK : X.K = C.K) : CN X C (.type "list") (one1 listD) := by
  refine ⟨_, call_list_of, fun S H xs ds rv Q st r e o => ?_⟩
  obtain ⟨d, hd, e'⟩ := one1_some e
  subst hd; clear e; have e := e'; clear e'
  obtain ⟨v, hv, r'⟩ := r.one
  subst hv; clear r; have r := r'; clear r'
  rw [hK]
  cases d with
  | tup ds => obtain ⟨a, xs, rfl, h1, h2, _⟩ := r; cases e; exact ⟨a, xs, rfl, .inr h1, fun p n => (o fun _ z => by cases z).lst h2 n⟩
  | lst ds => obtain ⟨a, xs, rfl, h1, h2⟩ := r; cases e; exact ⟨a, xs, rfl, .inl (SqL.of h1), fun p n => (o fun _ z => by cases z).lst h2 n⟩
  | scr ns => obtain ⟨a, rfl, h1⟩ := r; cases e; exact ⟨a, _, rfl, .inl h1, fun p n => (o fun _ z => by cases z).lst (Reps.of_ints _) n⟩
  | _ => cases e
def tupleD : D → Option RV
  | .lst ds => some (.val (.tup ds))
  | .tup ds => some (.val (.tup ds))
  | .scr ns => some (.val (.tup (ns.map .int)))
  | _ => none
theorem cn_tuple (hK : X.K = C.K) : CN X C (.type "tuple") (one1 tupleD) := by
  refine ⟨_, call_tuple_of, fun S H xs ds rv Q st r e o => ?_⟩
  obtain ⟨d, hd, e'⟩ := one1_some e
  subst hd; clear e; have e := e'; clear e'
  obtain ⟨v, hv, r'⟩ := r.one
  subst hv; clear r; have r := r'; clear r'
  rw [hK]
  cases d with
  | tup ds => obtain ⟨a, xs, rfl, h1, h2, h3⟩ := r; cases e; exact ⟨a, xs, rfl, .inr ⟨h1, (o fun _ z => by cases z).flat st (.tup h3 h2)⟩⟩
  | lst ds => obtain ⟨a, xs, rfl, h1, h2⟩ := r; cases e; exact ⟨a, xs, rfl, .inl ⟨SqL.of h1, fun p n => (o fun _ z => by cases z).tup st h2 n⟩⟩
  | scr ns => obtain ⟨a, rfl, h1⟩ := r; cases e; exact ⟨a, _, rfl, .inl ⟨h1, fun p n => (o fun _ z => by cases z).tup st (Reps.of_ints _) n⟩⟩
  | _ => cases e

/-! ### sum, max, min, sorted of numbers; all, any of flags -/
/-- the numbers of a list -/
def lstI : D → Option (List Int)
  | .lst ds => intsD ds
  | .scr ns => some ns
  | _ => none
theorem lstI_ok {S H : Hp} {v : V} {d : D} {ns : List Int} (r : Rd C.K S H v d) (h : lstI d = some ns) : ∃ a, v = .ref a ∧ SqL C.K H a (ns.map V.int) := by
  cases d with
  | lst ds =>
    obtain ⟨a, xs, rfl, h1, h2⟩ := r
    rw [intsD_some h] at h2
    rw [h2.ints] at h1
    exact ⟨a, rfl, SqL.of h1⟩
  | scr ms => obtain ⟨a, rfl, h1⟩ := r; cases h; exact ⟨a, rfl, h1⟩
  | _ => cases h
def seqI : D → Option (List Int)
  | .lst ds => intsD ds
  | .scr ns => some ns
  | .tup ds => intsD ds
  | _ => none
theorem seqI_ok {S H : Hp} {v : V} {d : D} {ns : List Int} (r : Rd C.K S H v d) (h : seqI d = some ns) : ∃ a, v = .ref a ∧ (SqL C.K H a (ns.map V.int) ∨ SqT C.K H a (ns.map V.int)) := by
  cases d with
  | tup ds =>
    obtain ⟨a, xs, rfl, h1, h2, _⟩ := r
    rw [intsD_some h] at h2
    rw [h2.ints] at h1
    exact ⟨a, rfl, .inr h1⟩
  | lst ds =>
    obtain ⟨a, xs, rfl, h1, h2⟩ := r
    rw [intsD_some h] at h2
    rw [h2.ints] at h1
    exact ⟨a, rfl, .inl (SqL.of h1)⟩
  | scr ms => obtain ⟨a, rfl, h1⟩ := r; cases h; exact ⟨a, rfl, .inl h1⟩
  | _ => cases h
theorem keptT {s : Shared} {o' : Obj} {h' : Heap} (hk : ∀ b o, b ∉ [s.heap.objs.size] → (s.heap.push o').get? b = some o → h'.get? b = some o) : ∀ b o, s.heap.get? b = some o → h'.get? b = some o := fun b o e => by
  refine hk b o (fun hm => ?_) (Heap.get?_push_of_some _ e)
  rcases List.mem_cons.mp hm with e1 | hm
  · exact absurd (e1 ▸ Heap.lt_size e) (Nat.lt_irrefl _)
  · cases hm
theorem sumT_raw {prog : Program} {w : World} {A : Around} {E : Value → Shared → Prop} {s : Shared} {l : Addr} {its : List Value} {ns : List Int} {Q : Value → Shared → Prop} (hh : A.handled = none) (hl : s.heap.IsTuple l its.toArray) (hi : IntsAre its ns)
    (h : ∀ h' tk t', (∀ b o, s.heap.get? b = some o → h'.get? b = some o) → Q (.int ns.sum t') { s with heap := h', toks := tk }) : wpAny (model prog w) A (call (.builtin "sum") [.ref l]) Q E s := by
  obtain ⟨xs, e⟩ := hi.allInts.items
  have hn : numsOf (intItems xs).toList = ns := by rw [← e]; exact hi.numsOf
  rw [nums_intItems] at hn
  rw [e] at hl
  have hlt : l < s.heap.objs.size := by obtain ⟨_, e, _⟩ := hl; exact Heap.lt_size e
  have hp : ∀ o : Obj, (s.heap.push o).IsTuple l (intItems xs) := fun o => by
    obtain ⟨u, e1, e2⟩ := hl
    exact ⟨u, Heap.get?_push_of_some _ e1, e2⟩
  refine PySem.call_sum_walkG (wpAny_pyIter_tuple hl ?_)
  refine ⟨_, _, _, _, _, _, numAt xs, rfl, Walks.tuple (A := A.in1) hh _ l (Nat.ne_of_lt hlt) (intItems xs), ⟨⟨_, Heap.get?_push_size _ rfl, rfl, rfl⟩, hp _⟩, ?_, (fun _ _ => intItems_at), fun h' tk t' hk => ?_⟩
  · intro b hb
    show b < (s.heap.push _).objs.size
    rw [Heap.size_push]
    rcases List.mem_cons.mp hb with rfl | hb
    · exact Nat.lt_succ_self _
    · rcases List.mem_cons.mp hb with rfl | hb
      · exact Nat.lt_succ_of_lt hlt
      · cases hb
  · have := h h' tk t' (keptT hk)
    have e2 : preSum (numAt xs) (intItems xs).size = ns.sum := by
      have e3 : (intItems xs).size = xs.size := by simp [intItems]
      rw [e3, preSum_eq, List.take_of_length_le (by simp), hn]
    rw [e2]; exact this
def rSumX (K : PySem.W.Frag) : List V → Hp → VK → Prop := fun vs H Q => ∃ (a : Addr) (ns : List Int), vs = [V.ref a] ∧ (SqL K H a (ns.map V.int) ∨ SqT K H a (ns.map V.int)) ∧ Q (.int ns.sum) H
theorem cr_sumX (hc : X.calm = true) : CallR X (.builtin "sum") (rSumX X.K) := by
  intro pins s σ H vs us Q I r h
  obtain ⟨a, ns, rfl, hs | hs, q⟩ := h
  · exact cr_sum hc pins s σ H _ us Q I r ⟨a, ns, rfl, hs, q⟩
  · obtain ⟨its, rv, hl, _⟩ := I.tuple hs
    rw [Vals.ref1 r]
    exact sumT_raw (I.ok.hd hc) hl rv.ints fun h' tk t' hk => ⟨.int _, H, I.kept hk, ⟨_, rfl⟩, q⟩
def sumD (d : D) : Option RV := (seqI d).map fun ns => .val (.int ns.sum)
theorem cn_sum (hK : X.K = C.K) (hc : X.calm = true) : CN X C (.builtin "sum") (one1 sumD) := by
  refine ⟨_, cr_sumX hc, fun S H xs ds rv Q st r e o => ?_⟩
  obtain ⟨d, hd, e'⟩ := one1_some e
  subst hd; clear e; have e := e'; clear e'
  obtain ⟨v, hv, r'⟩ := r.one
  subst hv; clear r; have r := r'; clear r'
  rw [hK]
  unfold sumD at e
  cases q : seqI d with
  | none => rw [q] at e; cases e
  | some ns =>
    rw [q] at e
    obtain ⟨a, rfl, h⟩ := seqI_ok r q
    exact ⟨a, ns, rfl, h, OutP.valI e o st⟩
def maxL : List Int → Option Int
  | [] => none
  | n :: ns => some (ns.foldl max n)
def minL : List Int → Option Int
  | [] => none
  | n :: ns => some (ns.foldl min n)
theorem foldl_max : ∀ (ns : List Int) (n : Int), (ns.foldl max n ∈ n :: ns) ∧ ∀ y ∈ n :: ns, y ≤ ns.foldl max n
  | [], n => ⟨by simp, fun y hy => by simp at hy; subst hy; exact Int.le_refl _⟩
  | m :: ns, n => by
    obtain ⟨h1, h2⟩ := foldl_max ns (max n m)
    show (ns.foldl max (max n m) ∈ _) ∧ ∀ y ∈ _, y ≤ ns.foldl max (max n m)
    refine ⟨?_, fun y hy => ?_⟩
    · rcases List.mem_cons.mp h1 with h | h
      · rw [h]
        by_cases hm : n ≤ m
        · rw [Int.max_eq_right hm]; simp
        · rw [Int.max_eq_left (by omega)]; simp
      · simp [h]
    · have h3 := h2 (max n m) (by simp)
      rcases List.mem_cons.mp hy with h | h
      · subst h; omega
      · rcases List.mem_cons.mp h with h | h
        · subst h; omega
        · exact h2 y (by simp [h])
theorem foldl_min : ∀ (ns : List Int) (n : Int), (ns.foldl min n ∈ n :: ns) ∧ ∀ y ∈ n :: ns, ns.foldl min n ≤ y
  | [], n => ⟨by simp, fun y hy => by simp at hy; subst hy; exact Int.le_refl _⟩
  | m :: ns, n => by
    obtain ⟨h1, h2⟩ := foldl_min ns (min n m)
    show (ns.foldl min (min n m) ∈ _) ∧ ∀ y ∈ _, ns.foldl min (min n m) ≤ y
    refine ⟨?_, fun y hy => ?_⟩
    · rcases List.mem_cons.mp h1 with h | h
      · rw [h]
        by_cases hm : n ≤ m
        · rw [Int.min_eq_left hm]; simp
        · rw [Int.min_eq_right (by omega)]; simp
      · simp [h]
    · have h3 := h2 (min n m) (by simp)
      rcases List.mem_cons.mp hy with h | h
      · subst h; omega
      · rcases List.mem_cons.mp h with h | h
        · subst h; omega
        · exact h2 y (by simp [h])
def maxD : List D → Option RV
  | [.int i, .int j] => vI (if j > i then j else i)
  | [d] => ((lstI d).bind maxL).map fun n => .val (.int n)
  | _ => none
def minD : List D → Option RV
  | [.int i, .int j] => vI (if j < i then j else i)
  | [d] => ((lstI d).bind minL).map fun n => .val (.int n)
  | _ => none
theorem cn_max (hK : X.K = C.K) (hc : X.calm = true) : CN X C (.builtin "max") maxD := by
  refine ⟨_, CallR.or (call_max2 hc) (cr_max hc), fun S H xs ds rv Q st r e o => ?_⟩
  rw [hK]
  unfold maxD at e
  split at e
  · obtain ⟨v, w, rfl, r1, r2⟩ := r.two
    cases r1; cases r2
    exact .inl ⟨_, _, rfl, OutP.valI e o st⟩
  · rename_i d
    obtain ⟨v, hv, r'⟩ := r.one
    subst hv; clear r; have r := r'; clear r'
    cases q : lstI d with
    | none => rw [q] at e; cases e
    | some ns =>
      rw [q] at e
      obtain ⟨a, rfl, h⟩ := lstI_ok r q
      cases ns with
      | nil => cases e
      | cons n ns =>
        obtain ⟨h1, h2⟩ := foldl_max ns n
        refine .inr ⟨a, n :: ns, rfl, h, by simp, fun m hm hm' => ?_⟩
        have e2 : m = ns.foldl max n := Int.le_antisymm (h2 m hm) (hm' _ h1)
        subst e2
        exact OutP.valI e o st
  · cases e
theorem cn_min (hK : X.K = C.K) (hc : X.calm = true) : CN X C (.builtin "min") minD := by
  refine ⟨_, CallR.or (call_min2 hc) (cr_min hc), fun S H xs ds rv Q st r e o => ?_⟩
  rw [hK]
  unfold minD at e
  split at e
  · obtain ⟨v, w, rfl, r1, r2⟩ := r.two
    cases r1; cases r2
    exact .inl ⟨_, _, rfl, OutP.valI e o st⟩
  · rename_i d
    obtain ⟨v, hv, r'⟩ := r.one
    subst hv; clear r; have r := r'; clear r'
    cases q : lstI d with
    | none => rw [q] at e; cases e
    | some ns =>
      rw [q] at e
      obtain ⟨a, rfl, h⟩ := lstI_ok r q
      cases ns with
      | nil => cases e
      | cons n ns =>
        obtain ⟨h1, h2⟩ := foldl_min ns n
        refine .inr ⟨a, n :: ns, rfl, h, by simp, fun m hm hm' => ?_⟩
        have e2 : m = ns.foldl min n := Int.le_antisymm (hm' _ h1) (h2 m hm)
        subst e2
        exact OutP.valI e o st
  · cases e
def blsD : List D → Option (List Bool)
  | [] => some []
  | .bl i :: ds => (blsD ds).map (i :: ·)
  | _ :: _ => none
theorem blsD_some : ∀ {ds : List D} {ns : List Bool}, blsD ds = some ns → ds = ns.map D.bl
  | [], ns, h => by cases h; rfl
  | .bl i :: ds, ns, h => by
    have h : (blsD ds).map (i :: ·) = some ns := h
    cases q : blsD ds with
    | none => rw [q] at h; cases h
    | some ms => rw [q] at h; cases h; rw [blsD_some q]; rfl
  | .non :: _, _, h => nomatch h
  | .int _ :: _, _, h => nomatch h
  | .str _ :: _, _, h => nomatch h
  | .tup _ :: _, _, h => nomatch h
  | .lst _ :: _, _, h => nomatch h
  | .dic _ :: _, _, h => nomatch h
  | .scr _ :: _, _, h => nomatch h
  | .ty _ :: _, _, h => nomatch h
  | .fn _ :: _, _, h => nomatch h
  | .cls _ :: _, _, h => nomatch h
  | .obj _ _ :: _, _, h => nomatch h
theorem blsD_map (ns : List Bool) : blsD (ns.map D.bl) = some ns := by
  induction ns with
  | nil => rfl
  | cons n ns ih => show (blsD (ns.map D.bl)).map (n :: ·) = _; rw [ih]; rfl
def allD : D → Option RV
  | .lst ds => (blsD ds).map fun bs => .val (.bl (bs.all id))
  | _ => none
def anyD : D → Option RV
  | .lst ds => (blsD ds).map fun bs => .val (.bl (bs.any id))
  | _ => none
theorem cn_all (hK : X.K = C.K) (hc : CallR X (.builtin "all") (rAll X.K)) : CN X C (.builtin "all") (one1 allD) := by
  refine ⟨_, hc, fun S H xs ds rv Q st r e o => ?_⟩
  obtain ⟨d, hd, e'⟩ := one1_some e
  subst hd; clear e; have e := e'; clear e'
  obtain ⟨v, hv, r'⟩ := r.one
  subst hv; clear r; have r := r'; clear r'
  rw [hK]
  cases d with
  | lst ds =>
    obtain ⟨a, xs, rfl, h1, h2⟩ := r
    have e : (blsD ds).map (fun bs => RV.val (.bl (bs.all id))) = some rv := e
    cases q : blsD ds with
    | none => rw [q] at e; cases e
    | some bs =>
      rw [q] at e
      rw [blsD_some q] at h2
      rw [h2.bls] at h1
      exact ⟨a, bs, rfl, SqL.of h1, OutP.valB e o st⟩
  | _ => cases e
theorem cn_any (hK : X.K = C.K) (hc : CallR X (.builtin "any") (rAny X.K)) : CN X C (.builtin "any") (one1 anyD) := by
  refine ⟨_, hc, fun S H xs ds rv Q st r e o => ?_⟩
  obtain ⟨d, hd, e'⟩ := one1_some e
  subst hd; clear e; have e := e'; clear e'
  obtain ⟨v, hv, r'⟩ := r.one
  subst hv; clear r; have r := r'; clear r'
  rw [hK]
  cases d with
  | lst ds =>
    obtain ⟨a, xs, rfl, h1, h2⟩ := r
    have e : (blsD ds).map (fun bs => RV.val (.bl (bs.any id))) = some rv := e
    cases q : blsD ds with
    | none => rw [q] at e; cases e
    | some bs =>
      rw [q] at e
      rw [blsD_some q] at h2
      rw [h2.bls] at h1
      exact ⟨a, bs, rfl, SqL.of h1, OutP.valB e o st⟩
  | _ => cases e

/-! ### isinstance -/
def tyN : D → Option String
  | .non => some "NoneType"
  | .bl _ => some "bool"
  | .int _ => some "int"
  | .str _ => some "str"
  | .tup _ => some "tuple"
  | .lst _ => some "list"
  | .scr _ => some "list"
  | _ => none
inductive Ty where
  | int | bl | str | tup | lst
def Ty.nm : Ty → String
  | .int => "int" | .bl => "bool" | .str => "str" | .tup => "tuple" | .lst => "list"
def Ty.has : Ty → D → Bool
  | .int, .int _ => true
  | .int, .bl _ => true
  | .bl, .bl _ => true
  | .str, .str _ => true
  | .tup, .tup _ => true
  | .lst, .lst _ => true
  | .lst, .scr _ => true
  | _, _ => false
def isPlain : D → Bool
  | .non | .bl _ | .int _ | .str _ | .tup _ | .lst _ | .scr _ => true
  | _ => false
theorem tyN_ok {S H : Hp} {v : V} {d : D} {n : String} (r : Rd C.K S H v d) (h : tyN d = some n) : TyX C.K H v (.type n) := by
  cases d with
  | non => cases r; cases h; exact .base .non
  | bl b => cases r; cases h; exact .base (.bl b)
  | int b => cases r; cases h; exact .base (.int b)
  | str b => cases r; cases h; exact .base (.str b)
  | tup ds =>
    obtain ⟨a, xs, rfl, h1, _⟩ := r
    cases h
    rcases h1 with (h1 | ⟨o, h1⟩) | ⟨o, its, k, h1, h2, _⟩
    · exact .base (.tup h1)
    · exact .fTuple h1
    · exact .kTuple h1 h2
  | lst ds => obtain ⟨a, xs, rfl, h1, _⟩ := r; cases h; exact .base (.lst h1)
  | scr ns =>
    obtain ⟨a, rfl, h1⟩ := r
    cases h
    rcases h1 with (h1 | ⟨o, h1⟩) | ⟨o, its, k, h1, h2, _⟩
    · exact .base (.lst h1)
    · exact .base (.frz h1)
    · exact .kList h1 h2
  | _ => cases h
theorem Ty.ok (t : Ty) (d : D) (h : isPlain d = true) : ∃ n, tyN d = some n ∧ kitB n t.nm = some (t.has d) := by
  cases d <;> first | exact (Bool.false_ne_true h).elim | (cases t <;> exact ⟨_, rfl, by first | (show _ = some true; decide +kernel) | (show _ = some false; decide +kernel)⟩)
def isiD (ts : List Ty) (d : D) : Option RV := if isPlain d then some (.val (.bl (ts.any fun t => t.has d))) else none
theorem kit_any {K : PySem.W.Frag} {n : String} {d : D} (hn : tyN d = some n) (hp : isPlain d = true) : ∀ ts : List Ty, PySem.W.kitAny K (.type n) (ts.map fun t => Value.type t.nm) = some (ts.any fun t => t.has d)
  | [] => rfl
  | t :: ts => by
    obtain ⟨n', h1, h2⟩ := t.ok d hp
    rw [hn] at h1; cases h1
    refine kitAny_cons (b := t.has d) (kit_ty h2) (fun hb => ?_) (fun hb => ?_)
    · rw [kit_any hn hp ts, List.any_cons, hb, Bool.false_or]
    · rw [List.any_cons, hb, Bool.true_or]
def rIsiX (K : PySem.W.Frag) : List V → Hp → VK → Prop := fun xs H Q => ∃ (x : V) (tp : Addr) (cs : List V) (t : Value) (us : List Value) (b : Bool), xs = [x, .ref tp] ∧ SqT K H tp cs ∧ Paired ClsV cs us ∧ TyX K H x t ∧ PySem.W.kitAny K t us = some b ∧ Q (.bl b) H
theorem call_isiX : CallR X (.builtin "isinstance") (rIsiX X.K) := by
  intro pins s σ H xs us Q I r h
  obtain ⟨x, tp, cs, t, ws, b, rfl, hT, k, ty, e, q⟩ := h
  obtain ⟨u1, u2, rfl, r1, r2⟩ := vals2 r
  cases (show u2 = Value.ref tp from r2)
  obtain ⟨P, Z, p, hx⟩ := kit_of I r1 ty
  obtain ⟨its, rv, ⟨o, h1, h2, n, h3⟩, _⟩ := I.tuple hT
  have e3 := ClsV.all k rv
  subst e3
  obtain ⟨oc, od, dt, sl⟩ := o
  simp only at h2 h3
  subst h2 h3
  exact PySem.W.kia_tup Z I.kIn p h1 e hx fun tk => ⟨.bl b, H, I.tok tk, rfl, q⟩
/-- the classes asked for -/
def tyM : List Ty → M RV
  | [t] => constM (.ty t.nm)
  | ts => tupM (ts.map fun t => constM (.ty t.nm))
theorem reps_tys {K : PySem.W.Frag} {S : Hp} : ∀ {ts : List Ty} {vs : List V}, Reps K S vs (ts.map fun t => D.ty t.nm) → Paired ClsV vs (ts.map fun t => Value.type t.nm)
  | [], _, h => by cases h; exact .nil
  | t :: ts, _, h => by
    cases h with
    | cons a r => cases a; exact .cons (.ty _) (reps_tys r)
def isiF (ts : List Ty) : List D → Option RV
  | [d, .ty n] => match ts with
    | [t] => if n = t.nm then isiD [t] d else none
    | _ => none
  | [d, .tup ds] => none
  | _ => none
theorem argsM_consts (ts : List Ty) : argsM (ts.map fun t => constM (.ty t.nm)) = pure (ts.map fun t => Opd.val (.ty t.nm)) := by
  induction ts with
  | nil => rfl
  | cons t ts ih =>
    show (opd (constM (.ty t.nm)) >>= fun o => argsM (ts.map fun t => constM (.ty t.nm)) >>= fun os => pure (o :: os)) = _
    rw [ih]; rfl
theorem frzs_consts (ts : List Ty) : frzs (ts.map fun t => Opd.val (.ty t.nm)) = pure (ts.map fun t => D.ty t.nm) := by
  induction ts with
  | nil => rfl
  | cons t ts ih =>
    show (frz (.val (.ty t.nm)) >>= fun d => frzs (ts.map fun t => Opd.val (.ty t.nm)) >>= fun ds => pure (d :: ds)) = _
    rw [ih]; rfl
theorem tupM_consts (ts : List Ty) : tupM (ts.map fun t => constM (.ty t.nm)) = pure (.val (.tup (ts.map fun t => D.ty t.nm))) := by
  unfold tupM
  rw [argsM_consts]
  show (frzs (ts.map fun t => Opd.val (.ty t.nm)) >>= fun ds => (pure (.val (.tup ds)) : M RV)) = _
  rw [frzs_consts]; rfl
theorem Rds.of2 {K : PySem.W.Frag} {S H : Hp} {v w : V} {ds : List D} (h : Rds K S H [v, w] ds) : ∃ d e, ds = [d, e] ∧ Rd K S H v d ∧ Rd K S H w e := by
  cases h with | cons a r => cases r with | cons b r => cases r; exact ⟨_, _, rfl, a, b⟩
theorem Oprs.of2 {σ : L2.St} {S : Hp} {o q : Opd} {vs : List V} (h : Oprs C σ S [o, q] vs) : ∃ v w, vs = [v, w] ∧ Op C σ S o v ∧ Op C σ S q w := by
  cases h with | cons a r => cases r with | cons b r => cases r; exact ⟨_, _, rfl, a, b⟩
/-- isinstance(a, T) -/
theorem ve_isi1 (t : Ty) (vx : Vx X C W cf T) (hg : Gl X "isinstance") (hm : X.mg "isinstance" = none) (ha : VA X C W [a, b] [ma, constM (.ty t.nm)])
    (he : starEach [a, b] X.env = (false, eval a X.env) :: starEach [b] X.env := by rfl) (hpl : (backTo pos (starEach [b] X.env)).any (·.1) = false := by rfl) : VE X C W (.Call (.Name "isinstance" p) [a, b] [] pos) (unM (isiD [t]) ma) := by
  refine ⟨PE.imp (pe_callB call_isi hg hm rfl ha.pa (by decide) (by decide) he hpl) fun σ H Q h => ?_⟩
  rw [vx.K]
  obtain ⟨S, ρ, st, g⟩ := h
  have e : unM (isiD [t]) ma = argsM [ma, constM (.ty t.nm)] >>= fun os => looks os >>= fun ds => M.lift (match ds with | [d, _] => isiD [t] d | _ => none) := by
    funext ρ
    show ((opd ma ρ).bnd _) = ((((opd ma ρ).bnd _)).bnd _)
    cases opd ma ρ with
    | stuck => rfl
    | exc x r => rfl
    | ok o r =>
      show ((look o r).bnd _) = ((((look o r).bnd _)).bnd _)
      cases look o r <;> rfl
  rw [e] at g
  refine ⟨S, ρ, st, Good.bnd RVr.back g fun x ρ1 S1 H1 v e0 e1 r1 g1 => ?_⟩
  have hx : ∃ o, x = [o, .val (.ty t.nm)] := by
    have e0 : ((opd ma ρ).bnd fun o => (pure [o, .val (.ty t.nm)] : M (List Opd))) = .ok x ρ1 := e0
    cases q : opd ma ρ with
    | stuck => rw [q] at e0; cases e0
    | exc x r => rw [q] at e0; cases e0
    | ok o r => rw [q] at e0; cases e0; exact ⟨o, rfl⟩
  obtain ⟨o, rfl⟩ := hx
  obtain ⟨dx, h1, g3⟩ := Good.looks e1.st r1 g1
  obtain ⟨rv, h3, g5⟩ := Good.out e1.st g3
  obtain ⟨va, vb, rfl, ra, rb⟩ := r1.of2
  obtain ⟨d, d', rfl, k1, k3⟩ := h1.of2
  cases (show Rep C.K S1 _ (.ty t.nm) from rb)
  have h3 : isiD [t] d = some rv := h3
  unfold isiD at h3
  split at h3
  · rename_i hp
    cases h3
    obtain ⟨n, q1, q2⟩ := t.ok d hp
    refine ⟨_, _, .type n, .type t.nm, t.has d, rfl, .ty _, tyN_ok k1 q1, kit_ty q2, ?_⟩
    have z : Q (.bl ([t].any fun t => t.has d)) H1 := OutP.valB rfl g5 e1.st.same
    rw [List.any_cons, List.any_nil, Bool.or_false] at z
    exact z
  · cases h3
theorem ve_isiN (ts : List Ty) (vx : Vx X C W cf T) (hg : Gl X "isinstance") (hm : X.mg "isinstance" = none) (ha : VA X C W [a, b] [ma, tupM (ts.map fun t => constM (.ty t.nm))])
    (he : starEach [a, b] X.env = (false, eval a X.env) :: starEach [b] X.env := by rfl) (hpl : (backTo pos (starEach [b] X.env)).any (·.1) = false := by rfl) : VE X C W (.Call (.Name "isinstance" p) [a, b] [] pos) (unM (isiD ts) ma) := by
  refine ⟨PE.imp (pe_callB call_isiX hg hm rfl ha.pa (by decide) (by decide) he hpl) fun σ H Q h => ?_⟩
  rw [vx.K]
  obtain ⟨S, ρ, st, g⟩ := h
  rw [tupM_consts]
  have e : unM (isiD ts) ma = argsM [ma, pure (.val (.tup (ts.map fun t => D.ty t.nm)))] >>= fun os => looks os >>= fun ds => M.lift (match ds with | [d, _] => isiD ts d | _ => none) := by
    funext ρ
    show ((opd ma ρ).bnd _) = ((((opd ma ρ).bnd _)).bnd _)
    cases opd ma ρ with
    | stuck => rfl
    | exc x r => rfl
    | ok o r =>
      show ((look o r).bnd _) = ((((look o r).bnd _)).bnd _)
      cases look o r <;> rfl
  rw [e] at g
  refine ⟨S, ρ, st, Good.bnd RVr.back g fun x ρ1 S1 H1 v e0 e1 r1 g1 => ?_⟩
  have hx : ∃ o, x = [o, .val (.tup (ts.map fun t => D.ty t.nm))] := by
    have e0 : ((opd ma ρ).bnd fun o => (pure [o, .val (.tup (ts.map fun t => D.ty t.nm))] : M (List Opd))) = .ok x ρ1 := e0
    cases q : opd ma ρ with
    | stuck => rw [q] at e0; cases e0
    | exc x r => rw [q] at e0; cases e0
    | ok o r => rw [q] at e0; cases e0; exact ⟨o, rfl⟩
  obtain ⟨o, rfl⟩ := hx
  obtain ⟨dx, h1, g3⟩ := Good.looks e1.st r1 g1
  obtain ⟨rv, h3, g5⟩ := Good.out e1.st g3
  obtain ⟨va, vb, rfl, ra, rb⟩ := r1.of2
  obtain ⟨d, d', rfl, k1, k3⟩ := h1.of2
  have rb := (show Rep C.K S1 _ (.tup (ts.map fun t => D.ty t.nm)) from rb)
  have h3 : isiD ts d = some rv := h3
  cases rb with
  | tup t1 t2 =>
    unfold isiD at h3
    split at h3
    · rename_i hp
      cases h3
      have hn : ∃ n, tyN d = some n := by cases d <;> first | exact (Bool.false_ne_true hp).elim | exact ⟨_, rfl⟩
      obtain ⟨n, q1⟩ := hn
      exact ⟨_, _, _, .type n, _, _, rfl, same_t e1.st.same t1, reps_tys t2, tyN_ok k1 q1, kit_any q1 hp ts, OutP.valB rfl g5 e1.st.same⟩
    · cases h3
end
end VL

/-! VL part o: slices with a step; sorted. -/
namespace VL
open PySem L2 PySem.Spec PyProof PyProof.Rows
/-- the places of xs[lo:hi:c] -/
def stepIx (lo hi : Option Int) (c : Int) (n : Nat) : List Nat :=
  (List.range (Builtin.Slice.slicePlaces (Builtin.Slice.sliceAdjust lo hi c (n : Int)).1 (Builtin.Slice.sliceAdjust lo hi c (n : Int)).2 c)).map fun (m : Nat) => ((Builtin.Slice.sliceAdjust lo hi c (n : Int)).1 + (m : Int) * c).toNat
def pickAt {α : Type} (xs : List α) (is : List Nat) : List α := is.filterMap fun i => xs[i]?
section
variable {prog : Program} {w : World} {A : Around} {E : Value → Shared → Prop} {s : Shared}
theorem sliceApplied_step {sl : Addr} {vl vu vc : Value} {lo hi : Option Int} {c : Int} {n : Nat} {Q : Int × Int × Nat → Shared → Prop} (hs : s.heap.IsSliceOf sl vl vu vc) (pl : IsPart vl lo) (pu : IsPart vu hi) (pc : IsPart vc (some c)) (hc : c ≠ 0)
    (h : Q ((Builtin.Slice.sliceAdjust lo hi c (n : Int)).1, c, Builtin.Slice.slicePlaces (Builtin.Slice.sliceAdjust lo hi c (n : Int)).1 (Builtin.Slice.sliceAdjust lo hi c (n : Int)).2 c) s) : wpAny (model prog w) A (Builtin.Slice.sliceApplied (.ref sl) (pure (n : Int))) Q E s := by
  obtain ⟨os, hos, hcs, hds⟩ := id hs
  unfold Builtin.Slice.sliceApplied Builtin.Slice.sliceFields
  refine wpAny_bind (wpAny_bind (wpAny_field hos hds (x := vl) rfl (wpAny_bind (wpAny_field hos hds (x := vu) rfl (wpAny_bind (wpAny_field hos hds (x := vc) rfl (wpAny_pure ?_)))))))
  refine wpAny_bind (HT.slicePart_ pc ?_)
  show wpAny _ _ (if (c == 0) = true then _ else _) _ _ s
  rw [if_neg (by simpa using hc)]
  refine wpAny_bind (HT.slicePart_ pl (wpAny_bind (HT.slicePart_ pu (wpAny_bind (wpAny_pure ?_)))))
  show wpAny _ _ (match Builtin.Slice.sliceAdjust lo hi c (n : Int) with | (lo, hi) => pure (lo, c, Builtin.Slice.slicePlaces lo hi c)) _ _ s
  exact wpAny_pure h
theorem filterMap_le {α β : Type} (f : α → Option β) : ∀ l : List α, (l.filterMap f).length ≤ l.length
  | [] => Nat.le_refl _
  | a :: l => by
    rw [List.filterMap_cons]
    cases f a with
    | none => exact Nat.le_succ_of_le (filterMap_le f l)
    | some b => exact Nat.succ_le_succ (filterMap_le f l)
theorem getItem_tuple_step {t sl : Addr} {items : Array Value} {vl vu vc : Value} {lo hi : Option Int} {c : Int} {Q : Value → Shared → Prop} (ht : IsTup s.heap t items) (hs : s.heap.IsSliceOf sl vl vu vc) (pl : IsPart vl lo) (pu : IsPart vu hi) (pc : IsPart vc (some c)) (hc : c ≠ 0) (hc1 : c ≠ 1)
    (hz : (stepIx lo hi c items.size).length ≤ sizeLine)
    (h : Q (.ref s.heap.objs.size) { s with heap := s.heap.push { cls := .type "tuple", data := .seq (pickAt items.toList (stepIx lo hi c items.size)).toArray } }) : wpAny (model prog w) A (getItem (.ref t) (.ref sl)) Q E s := by
  have htake : sizeOk (.seq (pickAt items.toList (stepIx lo hi c items.size)).toArray) := by
    show (pickAt items.toList (stepIx lo hi c items.size)).toArray.size ≤ sizeLine
    rw [List.size_toArray]
    exact Nat.le_trans (filterMap_le _ _) hz
  obtain ⟨os, hos, hcs, hds⟩ := id hs
  have hTs : s.TypeIs (.ref sl) "slice" := ⟨os, hos, hcs⟩
  unfold getItem
  try with_reducible refine wpAny_holding ?_
  first | refine wpAny_bind (wpAny_pure ?_) | skip
  refine wpAny_bind (wpAny_sequenceKey ht.typeIs (by decide) ?_)
  refine wpAny_bind (wpAny_callSpecial?_slot (name := Str.ofString "__getitem__") ht.typeIs PyProof.Rows.slot_tuple_getitem
    (wpAny_call_entry PyProof.Rows.slot_tuple_getitem ht.typeIs entry_tuple_getitem ?_ (args_tuple_getitem _ _)))
  show wpAny _ _ (Builtin.Tuple.tupleItemsOf (.ref t) >>= _) _ _ s
  refine wpAny_bind (tupleItemsOf_ ht ?_)
  refine wpAny_bind (wpAny_typeOf hTs ?_)
  rw [if_pos (by decide)]
  refine wpAny_bind (sliceApplied_step hs pl pu pc hc ?_)
  have hno : ∀ (i : Int) (k : Nat), ¬ ((i == 0 && c == 1 && k == items.size) = true) := by
    intro i k q
    rw [Bool.and_eq_true, Bool.and_eq_true] at q
    exact hc1 (eq_of_beq q.1.2)
  have ep : ∀ (i : Int) (k : Nat), ((List.range k).filterMap fun (m : Nat) => items[(i + (m : Int) * c).toNat]?) = pickAt items.toList ((List.range k).map fun (m : Nat) => (i + (m : Int) * c).toNat) := by
    intro i k
    unfold pickAt
    rw [List.filterMap_map]
    congr 1
    funext m
    simp
  show wpAny _ _ (if ((Builtin.Slice.sliceAdjust lo hi c (items.size : Int)).1 == 0 && c == 1 && Builtin.Slice.slicePlaces (Builtin.Slice.sliceAdjust lo hi c (items.size : Int)).1 (Builtin.Slice.sliceAdjust lo hi c (items.size : Int)).2 c == items.size) = true then _ else _) _ _ s
  rw [if_neg (hno _ _), ep]
  first
    | exact wpAny_bind (m := Builtin.Tuple.tupleExact _) (wpAny_newObj_type (wpAny_pure ⟨_, rfl, wpAny_pure h⟩) htake)
    | exact wpAny_bind (m := Builtin.Tuple.tupleExact _) (wpAny_newObj_type (wpAny_bind (wpAny_pure (wpAny_pure ⟨_, rfl, wpAny_pure h⟩))) htake)
    | exact wpAny_bind (wpAny_bind (m := Builtin.Tuple.tupleExact _) (wpAny_newObj_type (wpAny_pure (wpAny_pure ⟨_, rfl, wpAny_pure h⟩)) htake))
    | exact wpAny_bind (wpAny_bind (m := Builtin.Tuple.tupleExact _) (wpAny_newObj_type (wpAny_pure ⟨_, rfl, wpAny_pure h⟩) htake))
end
section
variable {X : Cx} {C : Cfg} {W : WX} {cf : CF} {T : List (Str × Nat)} {e a b c : Expr} {ma mb mc : M RV} {pos p : Pos}
def rStep (K : PySem.W.Frag) : V → Option Int → Option Int → Int → Hp → VK → Prop := fun x lo hi c H Q => ∃ a xs, x = .ref a ∧ c ≠ 0 ∧
  ((SqL K H a xs ∧ ∀ p, H p = none → Q (.ref p) (upd H p (.lst (pickAt xs ((sliceRange (sliceBounds lo hi (some c) xs.length).1 (sliceBounds lo hi (some c) xs.length).2.1 (sliceBounds lo hi (some c) xs.length).2.2)))))) ∨
   (SqT K H a xs ∧ c ≠ 1 ∧ (stepIx lo hi c xs.length).length ≤ sizeLine ∧ ∀ p, H p = none → Q (.ref p) (upd H p (.tup (pickAt xs (stepIx lo hi c xs.length))))))
theorem vals_pick {xs : List V} {us : List Value} (r : Vals xs us) (is : List Nat) : Vals (pickAt xs is) (pickAt us is) := by
  unfold pickAt
  induction is with
  | nil => exact .nil
  | cons i is ih =>
    rw [List.filterMap_cons, List.filterMap_cons]
    cases q : xs[i]? with
    | none =>
      have : us[i]? = none := by
        rw [List.getElem?_eq_none_iff] at q ⊢
        rw [← r.length]; exact q
      rw [this]; exact ih
    | some v =>
      obtain ⟨u, h1, h2⟩ := r.get q
      rw [h1]
      exact .cons h2 ih
def tStep (K : PySem.W.Frag) (te : TE) (tl th tc : TO) : TE := fun σ H Q => te σ H fun x H1 => tl σ H1 fun l H2 => th σ H2 fun u H3 => tc σ H3 fun o H4 => ∃ c, o = some c ∧ rStep K x l u c H4 Q
theorem pe_step {lo hi : Option Expr} {st : Expr} {te : TE} {tl th tc : TO} {p2 : Pos} (he : PE X e te) (hl : PO X lo tl) (hu : PO X hi th) (hc : PO X (some st) tc) : PE X (.Subscript e (.Slice lo hi (some st) p2) pos) (tStep X.K te tl th tc) := by
  refine ⟨fun pins s σ H Q I h => ?_⟩
  refine Subscript_ (thn (he.run pins s σ H _ I h) fun v s1 ⟨x, H1, I1, r1, q1⟩ => ?_)
  refine wpAny_Slice (thn (hl.run pins s1 σ H1 _ I1 q1) fun vl s2 ⟨l, H2, I2, pl, q2⟩ => thn (hu.run pins s2 σ H2 _ I2 q2) fun vu s3 ⟨u, H3, I3, pu, q3⟩ => thn (hc.run pins s3 σ H3 _ I3 q3) fun vc s4 ⟨o, H4, I4, pc, q4⟩ => ?_)
  obtain ⟨c, rfl, a, xs, rfl, hc0, q5⟩ := q4
  cases r1
  have I5 : Inv X pins σ H4 { s4 with heap := s4.heap.push { cls := .type "slice", data := .fields #[vl, vu, vc] } } := I4.kept (t' := s4.toks) fun b ob q => Heap.get?_push_of_some _ q
  show wpAny (model X.prog X.w) X.A (subscriptTail e (.Slice lo hi (some st) p2) (.ref a) (.ref s4.heap.objs.size)) (EP X pins σ Q) X.xe { s4 with heap := s4.heap.push { cls := .type "slice", data := .fields #[vl, vu, vc] } }
  rcases q5 with ⟨hx, q⟩ | ⟨hx, hc1, hz1, q⟩
  · obtain ⟨its, r, ht, hz⟩ := I5.list hx
    have hlen := r.length
    refine tail_any (ops := [.ref a, .ref s4.heap.objs.size]) ht.isList.typeIs (PySem.slot_list_getitem.lookup) ?_ (by with_unfolding_all rfl)
    refine wpAny_getItem_list_slice ht.isList (Heap.IsSliceOf.new _ vl vu vc) pl pu pc (by simpa using hc0) ?_ (by rw [List.size_toArray]; omega)
    have e : slicePick its.toArray l u (some c) = (pickAt its (sliceRange (sliceBounds l u (some c) xs.length).1 (sliceBounds l u (some c) xs.length).2.1 (sliceBounds l u (some c) xs.length).2.2)).toArray := by
      unfold slicePick pickAt
      rw [List.size_toArray, ← hlen]
      congr 2
      funext i
      simp
    have hz2 := slicePick_size_le its.toArray l u (some c)
    rw [e] at hz2
    rw [e]
    refine ⟨.ref _, _, I5.laid (t' := s4.toks) (o := .lst _) (fun b ob q => Heap.get?_push_of_some _ q) (Nat.le_refl _) ?_, rfl, q _ (I5.hok.fresh (Nat.le_refl _))⟩
    have rp := vals_pick r (sliceRange (sliceBounds l u (some c) xs.length).1 (sliceBounds l u (some c) xs.length).2.1 (sliceBounds l u (some c) xs.length).2.2)
    refine ⟨?_, _, 0, rp, Heap.get?_push_size _ rfl⟩
    rw [rp.length]
    simp only [List.size_toArray] at hz2
    omega
  · obtain ⟨its, r, ht, hz⟩ := I5.tuple hx
    have hlen := r.length
    have hsz : its.toArray.size = xs.length := by rw [List.size_toArray]; exact hlen.symm
    refine tail_any (ops := [.ref a, .ref s4.heap.objs.size]) ht.typeIs (PyProof.Rows.slot_tuple_getitem.lookup) ?_ (by with_unfolding_all rfl)
    refine getItem_tuple_step ht (Heap.IsSliceOf.new _ vl vu vc) pl pu pc hc0 hc1 (by rw [hsz]; exact hz1) ?_
    rw [hsz]
    have rp := vals_pick r (stepIx l u c xs.length)
    refine ⟨.ref _, _, I5.laid (t' := s4.toks) (o := .tup _) (fun b ob q => Heap.get?_push_of_some _ q) (Nat.le_refl _) ?_, rfl, q _ (I5.hok.fresh (Nat.le_refl _))⟩
    exact ⟨Nat.le_trans (filterMap_le _ _) hz1, _, rp, IsTup.new _ _⟩
theorem Reps.pick {K : PySem.W.Frag} {S : Hp} {xs : List V} {ds : List D} (r : Reps K S xs ds) (is : List Nat) : Reps K S (pickAt xs is) (pickAt ds is) := by
  unfold pickAt
  induction is with
  | nil => exact .nil
  | cons i is ih =>
    rw [List.filterMap_cons, List.filterMap_cons]
    cases q : xs[i]? with
    | none =>
      have : ds[i]? = none := by
        rw [List.getElem?_eq_none_iff] at q ⊢
        rw [← r.len]; exact q
      rw [this]; exact ih
    | some v =>
      obtain ⟨d, h1, h2⟩ := r.at' q
      rw [h1]
      exact .cons h2 ih
def stD (lo hi c : Option Int) : D → Option RV
  | .tup ds => match c with
    | some c => if decide (c ≠ 0 ∧ c ≠ 1 ∧ (stepIx lo hi c ds.length).length ≤ LIM) then some (.val (.tup (pickAt ds (stepIx lo hi c ds.length)))) else none
    | none => none
  | .lst ds => match c with
    | some c => if decide (c ≠ 0) then some (.own (.lst (pickAt ds (sliceRange (sliceBounds lo hi (some c) ds.length).1 (sliceBounds lo hi (some c) ds.length).2.1 (sliceBounds lo hi (some c) ds.length).2.2)))) else none
    | none => none
  | _ => none
def stepM (ma : M RV) (ml mh mc : M (Option Int)) : M RV := opd ma >>= fun o => ml >>= fun lo => mh >>= fun hi => mc >>= fun c => look o >>= fun d => M.lift (stD lo hi c d)
theorem ve_step {ml mh mc : M (Option Int)} {lo hi : Option Expr} {st : Expr} {p2 : Pos} (vx : Vx X C W cf T) (ha : VE X C W a ma) (hl : VO X C W lo ml) (hh : VO X C W hi mh) (hc : VO X C W (some st) mc) : VE X C W (.Subscript a (.Slice lo hi (some st) p2) pos) (stepM ma ml mh mc) := by
  refine ⟨PE.imp (pe_step ha.pe hl.po hh.po hc.po) fun σ H Q h => ?_⟩
  obtain ⟨S, ρ, st, g⟩ := h
  refine ⟨S, ρ, st, Good.opd (Good.bnd RVr.back g fun x ρ1 S1 H1 v _ e1 r1 g1 => ?_)⟩
  refine ⟨S1, ρ1, e1.st, Good.bnd RVr.back g1 fun lo ρ2 S2 H2 lo' _ e2 r2 g2 => ?_⟩
  cases r2
  refine ⟨S2, ρ2, e2.st, Good.bnd RVr.back g2 fun hi ρ3 S3 H3 hi' _ e3 r3 g3 => ?_⟩
  cases r3
  refine ⟨S3, ρ3, e3.st, Good.bnd RVr.back g3 fun c ρ4 S4 H4 c' _ e4 r4 g4 => ?_⟩
  cases r4
  obtain ⟨d, h1, g4⟩ := Good.look e4.st (Op.fwd r1 (e2.ext.sS.trans (e3.ext.sS.trans e4.ext.sS))) g4
  obtain ⟨rv, h3, g5⟩ := Good.out e4.st g4
  have s3 := e4.st.same
  rw [vx.K]
  cases d with
  | lst ds =>
    obtain ⟨a, xs, rfl, h4, h5⟩ := h1
    cases c with
    | none => cases h3
    | some c =>
      have h3 : (if decide (c ≠ 0) then some (RV.own (.lst (pickAt ds (sliceRange (sliceBounds lo hi (some c) ds.length).1 (sliceBounds lo hi (some c) ds.length).2.1 (sliceBounds lo hi (some c) ds.length).2.2)))) else none) = some rv := h3
      split at h3
      · rename_i hc
        cases h3
        exact ⟨c, rfl, a, xs, rfl, of_decide_eq_true hc, .inl ⟨SqL.of h4, fun p n => by rw [h5.len]; exact (g5 fun _ z => by cases z).lst (h5.pick _) n⟩⟩
      · cases h3
  | tup ds =>
    obtain ⟨a, xs, rfl, h4, h5, h6⟩ := h1
    cases c with
    | none => cases h3
    | some c =>
      have h3 : (if decide (c ≠ 0 ∧ c ≠ 1 ∧ (stepIx lo hi c ds.length).length ≤ LIM) then some (RV.val (.tup (pickAt ds (stepIx lo hi c ds.length)))) else none) = some rv := h3
      split at h3
      · rename_i hc
        cases h3
        have hc := of_decide_eq_true hc
        rw [LIM_eq] at hc
        refine ⟨c, rfl, a, xs, rfl, hc.1, .inr ⟨h4, hc.2.1, by rw [h5.len]; exact hc.2.2, fun p n => ?_⟩⟩
        rw [h5.len]
        exact (g5 fun _ z => by cases z).tup s3 (h5.pick _) n
      · cases h3
  | _ => cases h3

/-! ### sorted numbers -/
def sortI (ns : List Int) : List Int := ns.mergeSort fun a b => decide (a ≤ b)
theorem sortI_perm (ns : List Int) : (sortI ns).Perm ns := List.mergeSort_perm _ _
theorem sortI_pw (ns : List Int) : (sortI ns).Pairwise (· ≤ ·) := by
  have h := List.pairwise_mergeSort (le := fun a b : Int => decide (a ≤ b)) (fun a b c h1 h2 => by simp at *; omega) (fun a b => by simp; omega) ns
  exact h.imp fun h => of_decide_eq_true h
theorem sorted_uniq : ∀ {xs ys : List Int}, xs.Perm ys → xs.Pairwise (· ≤ ·) → ys.Pairwise (· ≤ ·) → xs = ys :=
  fun h h1 h2 => h.eq_of_pairwise (fun a b _ _ hab hba => Int.le_antisymm hab hba) h1 h2
def sortedD (d : D) : Option RV := (lstI d).map fun ns => .own (.lst ((sortI ns).map .int))
theorem cn_sorted (hK : X.K = C.K) : CN X C (.builtin "sorted") (one1 sortedD) := by
  refine ⟨_, cr_sortedI, fun S H xs ds rv Q st r e o => ?_⟩
  obtain ⟨d, hd, e'⟩ := one1_some e
  subst hd; clear e; have e := e'; clear e'
  obtain ⟨v, hv, r'⟩ := r.one
  subst hv; clear r; have r := r'; clear r'
  rw [hK]
  unfold sortedD at e
  cases q : lstI d with
  | none => rw [q] at e; cases e
  | some ns =>
    rw [q] at e
    cases e
    obtain ⟨a, rfl, h⟩ := lstI_ok r q
    refine ⟨a, ns, rfl, h, fun ns' p h1 h2 n => ?_⟩
    rw [sorted_uniq (h1.trans (sortI_perm ns).symm) h2 (sortI_pw ns)]
    exact (o fun _ z => by cases z).lst (Reps.of_ints _) n
end
end VL

/-! VL part p: short forms for the printed walks; the defs of a text; the law's end. -/
namespace VL
open PySem L2 PySem.Spec PyProof PyProof.Rows
section
variable {X : Cx} {C : Cfg} {W : WX} {cf : CF} {T : List (Str × Nat)} {e a b c : Expr} {es : List Expr} {ma mb mc : M RV} {ms : List (M RV)} {pos p py : Pos} {x : Str}
theorem ve_bo {op : Operator} {g : D → D → Option RV} (ho : O2 X C (binaryOp op) g) (ha : VE X C W a ma) (hb : VE X C W b mb) : VE X C W (.BinOp a op b pos) (binM g ma mb) := by
  obtain ⟨r, h1, h2⟩ := ho.ex
  exact ve_op h1 h2 ha hb
theorem ve_co {op : CmpOp} {g : D → D → Option RV} (ho : O2 X C (compareOp op) g) (ha : VE X C W a ma) (hb : VE X C W b mb) (hm : behindInMarks op b = false := by first | exact nomark _ | rfl) : VE X C W (.Compare a [op] [b] pos) (binM g ma mb) := by
  obtain ⟨r, h1, h2⟩ := ho.ex
  exact ve_cmp h1 h2 ha hb hm
theorem vt_co {op : CmpOp} {g : D → D → Option RV} (ho : O2 X C (compareOp op) g) (ha : VE X C W a ma) (hb : VE X C W b mb) (hm : behindInMarks op b = false := by first | exact nomark _ | rfl) : VT X C W (.Compare a [op] [b] pos) (binM g ma mb >>= asB) := by
  obtain ⟨r, h1, h2⟩ := ho.ex
  exact vt_cmp h1 h2 ha hb hm
theorem ve_co2 {op op' : CmpOp} {f g : D → D → Option RV} (ho : O2 X C (compareOp op) f) (ho' : O2 X C (compareOp op') g) (ha : VE X C W a ma) (hb : VE X C W b mb) (hc : VE X C W c mc)
    (hm : lastMarks [op, op'] [b, c] = false := by with_unfolding_all rfl) : VE X C W (.Compare a [op, op'] [b, c] pos) (chainM f g ma mb mc) := by
  obtain ⟨r, h1, h2⟩ := ho.ex
  obtain ⟨r', h1', h2'⟩ := ho'.ex
  exact ve_chain h1 h2 h1' h2' ha hb hc hm
theorem vt_co2 {op op' : CmpOp} {f g : D → D → Option RV} (ho : O2 X C (compareOp op) f) (ho' : O2 X C (compareOp op') g) (ha : VE X C W a ma) (hb : VE X C W b mb) (hc : VE X C W c mc)
    (hm : lastMarks [op, op'] [b, c] = false := by with_unfolding_all rfl) : VT X C W (.Compare a [op, op'] [b, c] pos) (chainM f g ma mb mc >>= asB) := by
  obtain ⟨r, h1, h2⟩ := ho.ex
  obtain ⟨r', h1', h2'⟩ := ho'.ex
  exact vt_chain h1 h2 h1' h2' ha hb hc hm
theorem ve_neg (ha : VE X C W a ma) : VE X C W (.UnaryOp .USub a pos) (unM negD ma) := ve_un un_neg p1_neg ha
def addI : D → D → Option RV := intI fun i j => vI (i + j)
theorem p2_addI : Prim2 C (ipI fun i j => i + j) addI := by
  intro S H x y dx dy rv Q st rx ry e o
  obtain ⟨i, j, rfl, rfl, e'⟩ := intI_some e
  cases rx; cases ry
  exact ⟨i, j, rfl, rfl, OutP.valI e' o st⟩
theorem p2_subI : Prim2 C (ipI fun i j => i - j) subD := by
  intro S H x y dx dy rv Q st rx ry e o
  obtain ⟨i, j, rfl, rfl, e'⟩ := intI_some e
  cases rx; cases ry
  exact ⟨i, j, rfl, rfl, OutP.valI e' o st⟩
theorem ve_gI {x : Str} {i : Int} (hg : Gl X x) (hm : ∃ t, X.mg x = some (.int i t)) (hd : (x == ("__debug__" : Str)) = false := by decide) : VE X C W (.Name x pos) (constM (.int i)) := by
  obtain ⟨t, hm⟩ := hm
  exact ve_gInt hg hm hd
theorem ve_gS {x : Str} {i : Str} (hg : Gl X x) (hm : ∃ t, X.mg x = some (.str i t)) (hd : (x == ("__debug__" : Str)) = false := by decide) : VE X C W (.Name x pos) (constM (.str i)) := by
  obtain ⟨t, hm⟩ := hm
  exact ve_gStr hg hm hd
end

/-! ### range with a step -/
def range3D : List D → Option (List D)
  | [.int a, .int b, .int c] => if Builtin.Range.small a b c && decide (c ≠ 0 ∧ c.natAbs < 1073741824) then some ((List.range (Builtin.Range.rangeSize a b c).toNat).map fun (i : Nat) => D.int (a + (i : Int) * c)) else none
  | _ => none
theorem range3D_some {ds es : List D} (h : range3D ds = some es) : ∃ a b c, ds = [.int a, .int b, .int c] ∧ RgC a b c (Builtin.Range.rangeSize a b c).toNat ∧ es = (List.range (Builtin.Range.rangeSize a b c).toNat).map fun (i : Nat) => D.int (a + (i : Int) * c) := by
  unfold range3D at h
  split at h
  · split at h
    · rename_i q
      cases h
      rw [Bool.and_eq_true, decide_eq_true_eq] at q
      exact ⟨_, _, _, rfl, ⟨q.2.1, q.2.2, q.1, rangeSize_toNat _ _ _⟩, rfl⟩
    · cases h
  · cases h
theorem Reps.three {K : PySem.W.Frag} {S : Hp} {vs : List V} {d e f : D} (h : Reps K S vs [d, e, f]) : ∃ v w u, vs = [v, w, u] ∧ Rep K S v d ∧ Rep K S w e ∧ Rep K S u f := by
  cases h with | cons a r => cases r with | cons b r => cases r with | cons c r => cases r; exact ⟨_, _, _, rfl, a, b, c⟩
theorem vi_range3 {X : Cx} {C : Cfg} {W : WX} {a b c tg : Expr} {ms : List (M RV)} {p pos : Pos} (hg : Gl X "range") (hm : X.mg "range" = none) (ha : VA X C W [a, b, c] ms) (hs : starEach [a, b, c] X.env = (false, eval a X.env) :: starEach [b, c] X.env := by rfl) (hpl : (backTo pos (starEach [b, c] X.env)).any (·.1) = false := by rfl) :
    VI X C W tg (.Call (.Name "range" p) [a, b, c] [] pos) (srcF range3D ms) := by
  refine ⟨VL.PI.imp (pi_range3 hg hm ha.pa hs hpl) fun σ H R h => ?_⟩
  obtain ⟨S, ρ, st, g⟩ := tI_src h
  refine ⟨S, ρ, st, Good.mono g fun vs H1 ⟨S1, ds, es, s1, r1, q1, k⟩ => ?_⟩
  obtain ⟨i, j, l, rfl, h1, rfl⟩ := range3D_some q1
  obtain ⟨v, w, u, rfl, r1, r2, r3⟩ := r1.three
  cases r1; cases r2; cases r3
  refine ⟨i, j, l, _, rfl, h1, k _ ?_⟩
  have hl : ((List.range (Builtin.Range.rangeSize i j l).toNat).map fun (m : Nat) => D.int (i + (m : Int) * l)).length = (Builtin.Range.rangeSize i j l).toNat := by simp
  refine WalkD.fn (by rw [hl]; exact walk_rangeC) (fun _ _ => trivial) fun m hm => ⟨.int (i + (m : Int) * l), ?_, fun S => .int _⟩
  rw [hl] at hm
  rw [List.getElem?_map, List.getElem?_range hm]; rfl

/-! ### the defs of a text -/
def callN (tab : List (CF → M RV)) : Nat → CF
  | 0, _ => M.stuck
  | k + 1, i => match tab[i]? with
    | some f => f (callN tab k)
    | none => M.stuck
theorem callN_succ {tab : List (CF → M RV)} {k i : Nat} {f : CF → M RV} (h : tab[i]? = some f) : callN tab (k + 1) i = f (callN tab k) := by
  show (match tab[i]? with | some f => f (callN tab k) | none => M.stuck) = _
  rw [h]
section
variable {P : Program} {w : World} {K : PySem.W.Frag} {mg : Str → Option Value} {base : Heap} {C : Cfg} {tab : List (CF → M RV)} {T : List (Str × Nat)}
/-- what is known of a def ahead of its body's walk -/
structure DefIn (P : Program) (w : World) (K : PySem.W.Frag) (mg : Str → Option Value) (C : Cfg) (T : List (Str × Nat)) (x : Str) (np ns : Nat) (body : CF → MS) : Prop where
  ex : ∃ (st : Stmt) (f : Addr) (fd : FuncData) (N ps : List Str), Fun K x x st f fd ∧ FnScope N ps (defScope st) ∧ ps.length = np ∧ N.length = ns ∧ mg x = some (.ref f) ∧ Binds K fd ps [] ∧
    ∀ (base : Heap) (cf : CF) (cdv : Value) (A : Around) (outer : List PySem.Env) (s : Shared) (H : Hp) (E : XK), Vx (cxOf (L2.CX P w) P w K mg base N x (defScope st) f cdv A outer s H E) C (fun cls d _ H => E cls d H) cf T →
      VSs (cxOf (L2.CX P w) P w K mg base N x (defScope st) f cdv A outer s H E) C (fun cls d _ H => E cls d H) (defBody st) (body cf)
def DefAt (P : Program) (w : World) (K : PySem.W.Frag) (mg : Str → Option Value) (C : Cfg) (T : List (Str × Nat)) (tab : List (CF → M RV)) : Prop :=
  ∀ (i : Nat) (x : Str) (np : Nat), T[i]? = some (x, np) → ∃ (ns : Nat) (body : CF → MS), tab[i]? = some (fun cf => runDef ns (body cf)) ∧ DefIn P w K mg C T x np ns body
theorem tab_ok (hC : C.K = K) (h : DefAt P w K mg C T tab) : ∀ k, TabOk P w K mg base k C (callN tab k) T
  | 0 => fun i x np hT => by
    obtain ⟨ns, body, h1, h2⟩ := h i x np hT
    obtain ⟨st, f, fd, N, ps, F, Sc, hp, hN, hm, hb, hw⟩ := h2.ex
    refine ⟨f, fd, ps, hm, F.kp, hb, hp, fun vs H Q E q => ?_, fun A outer s H args us vs Q E _ _ _ _ q => ?_⟩
    · obtain ⟨S, as, _, _, g⟩ := q; exact g.elim
    · obtain ⟨S, as, _, _, g⟩ := q; exact g.elim
  | k + 1 => fun i x np hT => by
    obtain ⟨ns, body, h1, h2⟩ := h i x np hT
    obtain ⟨st, f, fd, N, ps, F, Sc, hp, hN, hm, hb, hw⟩ := h2.ex
    exact ⟨f, fd, ps, hm, F.kp, hb, hp, def_ok F Sc hC hp hN (callN_succ h1) (tab_ok hC h k) fun cdv A outer s H E vx => hw base _ cdv A outer s H E vx⟩
/-- the law by its mirror -/
theorem sp_law {cf : CF} {i : Nat} {H : Hp} {a : Addr} {ns : List Int} (hS : SqL C.K H a (ns.map V.int)) (h : ∃ ρ', cf i [.val (.scr ns)] = .ok (.val (.bl true)) ρ') : spOf C cf i 1 [.ref a] H (fun v _ => v = .bl true) fun _ _ _ => False := by
  obtain ⟨ρ', h⟩ := h
  refine ⟨H, [.val (.scr ns)], rfl, ⟨Same.refl _, rfl, fun j d e => ?_, fun j d e => ?_, fun j1 j2 d1 d2 p e1 e2 => ?_⟩, ?_⟩
  · cases j with
    | zero => cases e; exact ⟨_, rfl, .scr hS⟩
    | succ j => cases e
  · cases j with
    | zero => cases e
    | succ j => cases e
  · cases j1 with
    | zero => cases e1
    | succ j => cases e1
  · rw [h]
    intro S' H' b st r
    cases (show Rep C.K S' b (.bl true) from r)
    rfl
end
theorem law_walk {l : PySem.W.OpenLaw} {q : Program} {loose : List Str} {XP : (Str → Option Value) → Heap → Prop} {YP : World → Heap → Prop} {d : DefRec} {K : Params → PySem.W.Frag} {tab : List (CF → M RV)} {k i : Nat} (hn : l.most = some 63) (hdf : d.params.defaults = []) (hr : Room k callerA)
    (hY : ∀ (w : World) (h : Heap), YP w h → (K w.params).In h)
    (math : ∀ ns : List Int, ns.length ≤ 63 → ∃ ρ', callN tab k i [.val (.scr ns)] = .ok (.val (.bl true)) ρ')
    (F : ∀ (w : World) (mg : Str → Option Value) (fa : Addr) (h : Heap), (K w.params).In h → h.Ns mainGlobals mg → mg d.name = some (.ref fa) →
      ∃ fd : FuncData, (∀ (s : Shared) (u : Value), BindsTo s fd ⟨[u], []⟩ [("script", u)]) ∧ ∀ base : Heap, (K w.params).In base → base.Ns mainGlobals mg →
        FnOk l.prog w (K w.params) mg base (L2.CX l.prog w) k fa fd ["script"] (spOf ⟨K w.params, fun _ _ _ _ => False⟩ (callN tab k) i 1)) :
    PySem.W.WalkO q loose XP YP l.row.toRowW d [] (fun f vs => PySem.call f vs) :=
  L2.walk_of (n := 63) (k := k) (x := "script") (CX := fun w => L2.CX l.prog w) (sp := fun w => spOf ⟨K w.params, fun _ _ _ _ => False⟩ (callN tab k) i 1) hn (by decide) hdf hr hY F
    (fun w H a ns hl _ hS => sp_law (C := ⟨K w.params, fun _ _ _ _ => False⟩) hS (math ns hl)) fun w H s e s' z => by
      obtain ⟨_, _, _, _, _, _, _, _, _, _, _, _, z⟩ := z
      exact z.elim
end VL

/-! VL part q: running a mirror, step by step (each step a name, so that simp looks at no continuation). -/
namespace VL
open PySem
section
variable {α β : Type}
def liftR (o : Option α) (ρ : Env) : Res α := M.lift o ρ
@[simp] theorem liftR_some (a : α) (ρ : Env) : liftR (some a) ρ = .ok a ρ := rfl
def ifR (c : Bool) (m n : M α) : M α := fun ρ => if c = true then m ρ else n ρ
@[simp] theorem ifR_true (m n : M α) (ρ : Env) : ifR true m n ρ = m ρ := rfl
@[simp] theorem ifR_false (m n : M α) (ρ : Env) : ifR false m n ρ = n ρ := rfl
def lookO : Opd → Env → Option D
  | .val d, _ => some d
  | .bor i, ρ => ownD ρ i
@[simp] theorem lookO_val (d : D) (ρ : Env) : lookO (.val d) ρ = some d := rfl
@[simp] theorem lookO_bor (i : Nat) (ρ : Env) : lookO (.bor i) ρ = ownD ρ i := rfl
theorem look_eq (o : Opd) (ρ : Env) : look o ρ = liftR (lookO o ρ) ρ := by
  cases o with
  | val d => rfl
  | bor i =>
    show (match ownD ρ i with | some d => Res.ok d ρ | none => .stuck) = M.lift (ownD ρ i) ρ
    cases ownD ρ i <;> rfl
theorem ite_M {α : Type} (c : Prop) [Decidable c] (m n : M α) (ρ : Env) : (if c then m else n) ρ = if c then m ρ else n ρ := by split <;> rfl
@[simp] theorem constM_ap (d : D) (ρ : Env) : constM d ρ = .ok (.val d) ρ := rfl
def var1 (i : Nat) (ρ : Env) : Option D → Option D → Res RV
  | some d, _ => .ok (.val d) ρ
  | none, some _ => .ok (.bor i) ρ
  | none, none => .stuck
@[simp] theorem varM_ap (i : Nat) (ρ : Env) : varM i ρ = var1 i ρ (valD ρ i) (ownD ρ i) := by
  show (match valD ρ i with
  | some d => Res.ok (RV.val d) ρ
  | none => match ownD ρ i with
    | some _ => .ok (.bor i) ρ
    | none => .stuck) = _
  cases valD ρ i <;> cases ownD ρ i <;> rfl
@[simp] theorem var1_some (i : Nat) (ρ : Env) (d : D) (o : Option D) : var1 i ρ (some d) o = .ok (.val d) ρ := rfl
@[simp] theorem var1_none (i : Nat) (ρ : Env) (d : D) : var1 i ρ none (some d) = .ok (.bor i) ρ := rfl
@[simp] theorem valD_val (d : D) (ρ : Env) : valD (.val d :: ρ) 0 = some d := rfl
@[simp] theorem valD_bfz (d : D) (ρ : Env) : valD (.bfz d :: ρ) 0 = some d := rfl
@[simp] theorem valD_own (d : D) (ρ : Env) : valD (.own d :: ρ) 0 = none := rfl
@[simp] theorem valD_bow (d : D) (ρ : Env) : valD (.bow d :: ρ) 0 = none := rfl
@[simp] theorem valD_s (s : Slot) (ρ : Env) (i : Nat) : valD (s :: ρ) (i + 1) = valD ρ i := rfl
@[simp] theorem ownD_val (d : D) (ρ : Env) : ownD (.val d :: ρ) 0 = none := rfl
@[simp] theorem ownD_bfz (d : D) (ρ : Env) : ownD (.bfz d :: ρ) 0 = none := rfl
@[simp] theorem ownD_own (d : D) (ρ : Env) : ownD (.own d :: ρ) 0 = some d := rfl
@[simp] theorem ownD_bow (d : D) (ρ : Env) : ownD (.bow d :: ρ) 0 = some d := rfl
@[simp] theorem ownD_s (s : Slot) (ρ : Env) (i : Nat) : ownD (s :: ρ) (i + 1) = ownD ρ i := rfl

def opd1 (r : Res RV) : Res Opd := r.bnd fun rv => match rv with
  | .val d => pure (.val d)
  | .own d => pure (.val d)
  | .bor i => pure (.bor i)
@[simp] theorem opd_ap (m : M RV) (ρ : Env) : opd m ρ = opd1 (m ρ) := rfl
@[simp] theorem opd1_val (d : D) (ρ : Env) : opd1 (.ok (.val d) ρ) = .ok (.val d) ρ := rfl
@[simp] theorem opd1_own (d : D) (ρ : Env) : opd1 (.ok (.own d) ρ) = .ok (.val d) ρ := rfl
@[simp] theorem opd1_bor (i : Nat) (ρ : Env) : opd1 (.ok (.bor i) ρ) = .ok (.bor i) ρ := rfl
def opLift (f : D → Option α) (o : Option D) (ρ : Env) : Res α := match o with
  | some d => liftR (f d) ρ
  | none => .stuck
@[simp] theorem opLift_some (f : D → Option α) (d : D) (ρ : Env) : opLift f (some d) ρ = liftR (f d) ρ := rfl
theorem look_lift (f : D → Option α) (o : Opd) (ρ : Env) : (look o ρ).bnd (fun d => M.lift (f d)) = opLift f (lookO o ρ) ρ := by
  rw [look_eq]; cases lookO o ρ <;> rfl
def un1 (f : D → Option RV) (r : Res Opd) : Res RV := r.bnd fun x => look x >>= fun dx => M.lift (f dx)
@[simp] theorem unM_ap (f : D → Option RV) (a : M RV) (ρ : Env) : unM f a ρ = un1 f (opd a ρ) := rfl
@[simp] theorem un1_ok (f : D → Option RV) (x : Opd) (ρ : Env) : un1 f (.ok x ρ) = opLift f (lookO x ρ) ρ := look_lift f x ρ
def bin3 (f : D → D → Option RV) (x y : Option D) (ρ : Env) : Res RV := match x, y with
  | some x, some y => liftR (f x y) ρ
  | _, _ => .stuck
@[simp] theorem bin3_some (f : D → D → Option RV) (x y : D) (ρ : Env) : bin3 f (some x) (some y) ρ = liftR (f x y) ρ := rfl
theorem look_bin (f : D → D → Option RV) (x y : Opd) (ρ : Env) : (look x ρ).bnd (fun dx => look y >>= fun dy => M.lift (f dx dy)) = bin3 f (lookO x ρ) (lookO y ρ) ρ := by
  rw [look_eq]
  cases lookO x ρ with
  | none => rfl
  | some dx =>
    show (look y ρ).bnd _ = _
    rw [look_eq]
    cases lookO y ρ <;> rfl
def bin2 (f : D → D → Option RV) (x : Opd) (r : Res Opd) : Res RV := r.bnd fun y => look x >>= fun dx => look y >>= fun dy => M.lift (f dx dy)
@[simp] theorem bin2_ok (f : D → D → Option RV) (x y : Opd) (ρ : Env) : bin2 f x (.ok y ρ) = bin3 f (lookO x ρ) (lookO y ρ) ρ := look_bin f x y ρ
def bin1 (f : D → D → Option RV) (b : M RV) (r : Res Opd) : Res RV := r.bnd fun x => opd b >>= fun y => look x >>= fun dx => look y >>= fun dy => M.lift (f dx dy)
@[simp] theorem binM_ap (f : D → D → Option RV) (a b : M RV) (ρ : Env) : binM f a b ρ = bin1 f b (opd a ρ) := rfl
@[simp] theorem bin1_ok (f : D → D → Option RV) (b : M RV) (x : Opd) (ρ : Env) : bin1 f b (.ok x ρ) = bin2 f x (opd b ρ) := rfl
def args2 (o : Opd) (r : Res (List Opd)) : Res (List Opd) := r.bnd fun os => pure (o :: os)
def args1 (ms : List (M RV)) (r : Res Opd) : Res (List Opd) := r.bnd fun o => argsM ms >>= fun os => pure (o :: os)
@[simp] theorem argsM_nil (ρ : Env) : argsM [] ρ = .ok [] ρ := rfl
@[simp] theorem argsM_cons (m : M RV) (ms : List (M RV)) (ρ : Env) : argsM (m :: ms) ρ = args1 ms (opd m ρ) := rfl
@[simp] theorem args1_ok (ms : List (M RV)) (o : Opd) (ρ : Env) : args1 ms (.ok o ρ) = args2 o (argsM ms ρ) := rfl
@[simp] theorem args2_ok (o : Opd) (os : List Opd) (ρ : Env) : args2 o (.ok os ρ) = .ok (o :: os) ρ := rfl
def looksO : List Opd → Env → Option (List D)
  | [], _ => some []
  | o :: os, ρ => match lookO o ρ, looksO os ρ with
    | some d, some ds => some (d :: ds)
    | _, _ => none
def consO : Option D → Option (List D) → Option (List D)
  | some d, some ds => some (d :: ds)
  | _, _ => none
@[simp] theorem consO_some (d : D) (ds : List D) : consO (some d) (some ds) = some (d :: ds) := rfl
@[simp] theorem looksO_nil (ρ : Env) : looksO [] ρ = some [] := rfl
@[simp] theorem looksO_cons (o : Opd) (os : List Opd) (ρ : Env) : looksO (o :: os) ρ = consO (lookO o ρ) (looksO os ρ) := by
  show (match lookO o ρ, looksO os ρ with
    | some d, some ds => some (d :: ds)
    | _, _ => none) = _
  cases lookO o ρ <;> cases looksO os ρ <;> rfl
theorem looks_eq : ∀ (os : List Opd) (ρ : Env), looks os ρ = liftR (looksO os ρ) ρ
  | [], ρ => rfl
  | o :: os, ρ => by
    show (look o ρ).bnd _ = _
    rw [look_eq, looksO_cons]
    cases lookO o ρ with
    | none => rfl
    | some d =>
      show (looks os ρ).bnd _ = _
      rw [looks_eq os ρ]
      cases looksO os ρ <;> rfl
def prim2 (f : List D → Option RV) (o : Option (List D)) (ρ : Env) : Res RV := match o with
  | some ds => liftR (f ds) ρ
  | none => .stuck
@[simp] theorem prim2_some (f : List D → Option RV) (ds : List D) (ρ : Env) : prim2 f (some ds) ρ = liftR (f ds) ρ := rfl
def prim1 (f : List D → Option RV) (r : Res (List Opd)) : Res RV := r.bnd fun os => looks os >>= fun ds => M.lift (f ds)
@[simp] theorem primM_ap (f : List D → Option RV) (ms : List (M RV)) (ρ : Env) : primM f ms ρ = prim1 f (argsM ms ρ) := rfl
@[simp] theorem prim1_ok (f : List D → Option RV) (os : List Opd) (ρ : Env) : prim1 f (.ok os ρ) = prim2 f (looksO os ρ) ρ := by
  show (looks os ρ).bnd _ = _
  rw [looks_eq]; cases looksO os ρ <;> rfl
def frz1 : Option (D × Env) → Res D
  | some (d, ρ) => .ok d ρ
  | none => .stuck
@[simp] theorem frz1_some (d : D) (ρ : Env) : frz1 (some (d, ρ)) = .ok d ρ := rfl
@[simp] theorem frz_val (d : D) (ρ : Env) : frz (.val d) ρ = .ok d ρ := rfl
@[simp] theorem frz_bor (i : Nat) (ρ : Env) : frz (.bor i) ρ = frz1 (frzSlot i ρ) := by
  show (match frzSlot i ρ with | some (d, ρ') => Res.ok d ρ' | none => .stuck) = _
  cases frzSlot i ρ <;> rfl
def frzS1 (i : Nat) (ρ : Env) : Option Slot → Option (D × Env)
  | some (.own d) => some (d, ρ.set i (.val d))
  | some (.bow d) => some (d, ρ.set i (.bfz d))
  | _ => none
@[simp] theorem frzSlot_ap (i : Nat) (ρ : Env) : frzSlot i ρ = frzS1 i ρ ρ[i]? := by
  show (match ρ[i]? with
  | some (.own d) => some (d, ρ.set i (.val d))
  | some (.bow d) => some (d, ρ.set i (.bfz d))
  | _ => none) = _
  cases ρ[i]? with
  | none => rfl
  | some s => cases s <;> rfl
@[simp] theorem frzS1_own (i : Nat) (ρ : Env) (d : D) : frzS1 i ρ (some (.own d)) = some (d, ρ.set i (.val d)) := rfl
@[simp] theorem frzS1_bow (i : Nat) (ρ : Env) (d : D) : frzS1 i ρ (some (.bow d)) = some (d, ρ.set i (.bfz d)) := rfl
def frzs2 (d : D) (r : Res (List D)) : Res (List D) := r.bnd fun ds => pure (d :: ds)
def frzs1 (os : List Opd) (r : Res D) : Res (List D) := r.bnd fun d => frzs os >>= fun ds => pure (d :: ds)
@[simp] theorem frzs_nil (ρ : Env) : frzs [] ρ = .ok [] ρ := rfl
@[simp] theorem frzs_cons (o : Opd) (os : List Opd) (ρ : Env) : frzs (o :: os) ρ = frzs1 os (frz o ρ) := rfl
@[simp] theorem frzs1_ok (os : List Opd) (d : D) (ρ : Env) : frzs1 os (.ok d ρ) = frzs2 d (frzs os ρ) := rfl
@[simp] theorem frzs2_ok (d : D) (ds : List D) (ρ : Env) : frzs2 d (.ok ds ρ) = .ok (d :: ds) ρ := rfl
def tup2 (r : Res (List D)) : Res RV := r.bnd fun ds => pure (.val (.tup ds))
def tup1 (r : Res (List Opd)) : Res RV := r.bnd fun os => frzs os >>= fun ds => pure (.val (.tup ds))
@[simp] theorem tupM_ap (ms : List (M RV)) (ρ : Env) : tupM ms ρ = tup1 (argsM ms ρ) := rfl
@[simp] theorem tup1_ok (os : List Opd) (ρ : Env) : tup1 (.ok os ρ) = tup2 (frzs os ρ) := rfl
@[simp] theorem tup2_ok (ds : List D) (ρ : Env) : tup2 (.ok ds ρ) = .ok (.val (.tup ds)) ρ := rfl
def lst2 (r : Res (List D)) : Res RV := r.bnd fun ds => pure (.own (.lst ds))
def lst1 (r : Res (List Opd)) : Res RV := r.bnd fun os => frzs os >>= fun ds => pure (.own (.lst ds))
@[simp] theorem lstM_ap (ms : List (M RV)) (ρ : Env) : lstM ms ρ = lst1 (argsM ms ρ) := rfl
@[simp] theorem lst1_ok (os : List Opd) (ρ : Env) : lst1 (.ok os ρ) = lst2 (frzs os ρ) := rfl
@[simp] theorem lst2_ok (ds : List D) (ρ : Env) : lst2 (.ok ds ρ) = .ok (.own (.lst ds)) ρ := rfl
def asB1 (r : Res RV) : Res Bool := r.bnd asB
@[simp] theorem asB_ap (m : M RV) (ρ : Env) : (m >>= asB) ρ = asB1 (m ρ) := rfl
@[simp] theorem asB1_ok (b : Bool) (ρ : Env) : asB1 (.ok (.val (.bl b)) ρ) = .ok b ρ := rfl
@[simp] theorem asB_val (b : Bool) (ρ : Env) : asB (.val (.bl b)) ρ = .ok b ρ := rfl
def tru1 (r : Res Opd) : Res Bool := r.bnd fun o => look o >>= fun d => M.lift (truD d)
@[simp] theorem truM_ap (m : M RV) (ρ : Env) : truM m ρ = tru1 (opd m ρ) := rfl
@[simp] theorem tru1_ok (o : Opd) (ρ : Env) : tru1 (.ok o ρ) = opLift truD (lookO o ρ) ρ := look_lift truD o ρ
@[simp] theorem truD_bl (b : Bool) : truD (.bl b) = some b := rfl
@[simp] theorem truD_int (i : Int) : truD (.int i) = some (i != 0) := rfl
def notR (r : Res Bool) : Res RV := r.bnd fun k => pure (.val (.bl (!k)))
@[simp] theorem notM_ap (m : M RV) (ρ : Env) : notM m ρ = notR (truM m ρ) := rfl
@[simp] theorem notR_ok (b : Bool) (ρ : Env) : notR (.ok b ρ) = .ok (.val (.bl (!b))) ρ := rfl
def notB (r : Res Bool) : Res Bool := r.bnd fun k => pure (!k)
@[simp] theorem notT_ap (m : M Bool) (ρ : Env) : notT m ρ = notB (m ρ) := rfl
@[simp] theorem notB_ok (b : Bool) (ρ : Env) : notB (.ok b ρ) = .ok (!b) ρ := rfl
def if1 (m n : M α) (r : Res Bool) : Res α := r.bnd fun c => ifR c m n
@[simp] theorem if1_ok (m n : M α) (c : Bool) (ρ : Env) : if1 m n (.ok c ρ) = ifR c m n ρ := rfl
theorem if1_eq (t : M Bool) (m n : M α) (ρ : Env) : (t >>= fun c => if c = true then m else n) ρ = if1 m n (t ρ) := by
  show (t ρ).bnd _ = (t ρ).bnd _
  cases t ρ with
  | ok c r => cases c <;> rfl
  | _ => rfl
@[simp] theorem andT_ap (m n : M Bool) (ρ : Env) : andT m n ρ = if1 n (pure false) (m ρ) := if1_eq m n (pure false) ρ
@[simp] theorem orT_ap (m n : M Bool) (ρ : Env) : orT m n ρ = if1 (pure true) n (m ρ) := if1_eq m (pure true) n ρ
@[simp] theorem ifM_ap (t : M Bool) (a b : M RV) (ρ : Env) : ifM t a b ρ = if1 a b (t ρ) := if1_eq t a b ρ
@[simp] theorem ifS_ap (t : M Bool) (a b : MS) (ρ : Env) : ifS t a b ρ = if1 a b (t ρ) := if1_eq t a b ρ
def frzV1 (r : Res D) : Res RV := r.bnd fun d => pure (.val d)
@[simp] theorem frzV1_ok (d : D) (ρ : Env) : frzV1 (.ok d ρ) = .ok (.val d) ρ := rfl
def frzV (o : Opd) : M RV := fun ρ => frzV1 (frz o ρ)
@[simp] theorem frzV_ap (o : Opd) (ρ : Env) : frzV o ρ = frzV1 (frz o ρ) := rfl
def andV3 (n : M RV) (o : Opd) (k : Option Bool) (ρ : Env) : Res RV := match k with
  | some k => ifR k n (frzV o) ρ
  | none => .stuck
def orV3 (n : M RV) (o : Opd) (k : Option Bool) (ρ : Env) : Res RV := match k with
  | some k => ifR k (frzV o) n ρ
  | none => .stuck
@[simp] theorem andV3_some (n : M RV) (o : Opd) (k : Bool) (ρ : Env) : andV3 n o (some k) ρ = ifR k n (frzV o) ρ := rfl
@[simp] theorem orV3_some (n : M RV) (o : Opd) (k : Bool) (ρ : Env) : orV3 n o (some k) ρ = ifR k (frzV o) n ρ := rfl
def truO (o : Option D) : Option Bool := o.bind truD
@[simp] theorem truO_some (d : D) : truO (some d) = truD d := rfl
def andV (n : M RV) (r : Res Opd) : Res RV := r.bnd fun o ρ => andV3 n o (truO (lookO o ρ)) ρ
def orV (n : M RV) (r : Res Opd) : Res RV := r.bnd fun o ρ => orV3 n o (truO (lookO o ρ)) ρ
@[simp] theorem andV_ok (n : M RV) (o : Opd) (ρ : Env) : andV n (.ok o ρ) = andV3 n o (truO (lookO o ρ)) ρ := rfl
@[simp] theorem orV_ok (n : M RV) (o : Opd) (ρ : Env) : orV n (.ok o ρ) = orV3 n o (truO (lookO o ρ)) ρ := rfl
@[simp] theorem andM_ap (m n : M RV) (ρ : Env) : andM m n ρ = andV n (opd m ρ) := by
  show (opd m ρ).bnd _ = (opd m ρ).bnd _
  congr 1; funext o ρ
  show (look o ρ).bnd _ = _
  rw [look_eq]
  cases lookO o ρ with
  | none => rfl
  | some d =>
    show (M.lift (truD d) ρ).bnd _ = andV3 n o (truD d) ρ
    cases truD d with
    | none => rfl
    | some k => cases k <;> rfl
@[simp] theorem orM_ap (m n : M RV) (ρ : Env) : orM m n ρ = orV n (opd m ρ) := by
  show (opd m ρ).bnd _ = (opd m ρ).bnd _
  congr 1; funext o ρ
  show (look o ρ).bnd _ = _
  rw [look_eq]
  cases lookO o ρ with
  | none => rfl
  | some d =>
    show (M.lift (truD d) ρ).bnd _ = orV3 n o (truD d) ρ
    cases truD d with
    | none => rfl
    | some k => cases k <;> rfl
def ch6 (g : D → D → Option RV) (y : Opd) (r : Res Opd) : Res RV := bin2 g y r
def ch5 (g : D → D → Option RV) (c : M RV) (y : Opd) : M RV := fun ρ => bin2 g y (opd c ρ)
@[simp] theorem ch5_ap (g : D → D → Option RV) (c : M RV) (y : Opd) (ρ : Env) : ch5 g c y ρ = bin2 g y (opd c ρ) := rfl
def ch4 (g : D → D → Option RV) (c : M RV) (y : Opd) (r : Res RV) : Res RV := (asB1 r).bnd fun k => ifR k (ch5 g c y) (constM (.bl false))
@[simp] theorem ch4_ok (g : D → D → Option RV) (c : M RV) (y : Opd) (k : Bool) (ρ : Env) : ch4 g c y (.ok (.val (.bl k)) ρ) = ifR k (ch5 g c y) (constM (.bl false)) ρ := rfl
def ch2 (f g : D → D → Option RV) (c : M RV) (x : Opd) (r : Res Opd) : Res RV := r.bnd fun y ρ => ch4 g c y (bin3 f (lookO x ρ) (lookO y ρ) ρ)
@[simp] theorem ch2_ok (f g : D → D → Option RV) (c : M RV) (x y : Opd) (ρ : Env) : ch2 f g c x (.ok y ρ) = ch4 g c y (bin3 f (lookO x ρ) (lookO y ρ) ρ) := rfl
def ch1 (f g : D → D → Option RV) (b c : M RV) (r : Res Opd) : Res RV := r.bnd fun x ρ => ch2 f g c x (opd b ρ)
@[simp] theorem ch1_ok (f g : D → D → Option RV) (b c : M RV) (x : Opd) (ρ : Env) : ch1 f g b c (.ok x ρ) = ch2 f g c x (opd b ρ) := rfl
@[simp] theorem chainM_ap (f g : D → D → Option RV) (a b c : M RV) (ρ : Env) : chainM f g a b c ρ = ch1 f g b c (opd a ρ) := by
  show (opd a ρ).bnd _ = (opd a ρ).bnd _
  congr 1; funext x ρ
  show (opd b ρ).bnd _ = (opd b ρ).bnd _
  congr 1; funext y ρ
  show (look x ρ).bnd _ = _
  rw [look_eq]
  cases lookO x ρ with
  | none => rfl
  | some dx =>
    show (look y ρ).bnd _ = _
    rw [look_eq]
    cases q : lookO y ρ with
    | none => rfl
    | some dy =>
      show (M.lift (f dx dy) ρ).bnd _ = ch4 g c y (liftR (f dx dy) ρ)
      cases f dx dy with
      | none => rfl
      | some rv =>
        show (asB rv ρ).bnd _ = (asB rv ρ).bnd _
        congr 1; funext k ρ
        cases k <;> rfl
def seq1 (n : MS) (r : Res Fl) : Res Fl := r.bnd fun f => match f with
  | .nx => n
  | f => pure f
@[simp] theorem seqS_ap (m n : MS) (ρ : Env) : seqS m n ρ = seq1 n (m ρ) := rfl
@[simp] theorem seq1_nx (n : MS) (ρ : Env) : seq1 n (.ok .nx ρ) = n ρ := rfl
@[simp] theorem seq1_ret (n : MS) (rv : RV) (ρ : Env) : seq1 n (.ok (.ret rv) ρ) = .ok (.ret rv) ρ := rfl
@[simp] theorem seq1_brk (n : MS) (ρ : Env) : seq1 n (.ok .brk ρ) = .ok .brk ρ := rfl
@[simp] theorem seq1_cont (n : MS) (ρ : Env) : seq1 n (.ok .cont ρ) = .ok .cont ρ := rfl
def enter2 (os : List Opd) (ρ : Env) (b : Bool) (r : Res RV) : Res RV := if b = true then match r with
    | .stuck => .stuck
    | .exc x as => .exc x (backArgs ρ os as)
    | .ok (.val d) as => .ok (.val d) (backArgs ρ os as)
    | .ok (.own d) as => .ok (.own d) (backArgs ρ os as)
    | .ok (.bor _) _ => .stuck
  else .stuck
@[simp] theorem enter2_val (os : List Opd) (ρ : Env) (d : D) (as : Env) : enter2 os ρ true (.ok (.val d) as) = .ok (.val d) (backArgs ρ os as) := rfl
@[simp] theorem enter2_own (os : List Opd) (ρ : Env) (d : D) (as : Env) : enter2 os ρ true (.ok (.own d) as) = .ok (.own d) (backArgs ρ os as) := rfl
def enter1 (cf : CF) (i : Nat) (os : List Opd) (ρ : Env) (a : Option Env) : Res RV := match a with
  | none => .stuck
  | some args => enter2 os ρ (decide (bors os).Nodup) (cf i args)
@[simp] theorem enter1_some (cf : CF) (i : Nat) (os : List Opd) (ρ args : Env) : enter1 cf i os ρ (some args) = enter2 os ρ (decide (bors os).Nodup) (cf i args) := rfl
@[simp] theorem enterM_ap (cf : CF) (i : Nat) (os : List Opd) (ρ : Env) : enterM cf i os ρ = enter1 cf i os ρ (mkArgs ρ os) := by
  unfold enterM enter1
  cases mkArgs ρ os with
  | none => rfl
  | some args =>
    show (if (bors os).Nodup then _ else _) = enter2 os ρ (decide (bors os).Nodup) (cf i args)
    unfold enter2
    by_cases h : (bors os).Nodup
    · rw [if_pos h, if_pos (by simp [h])]
      all_goals rfl
    · rw [if_neg h, if_neg (by simp [h])]
def call1 (cf : CF) (i : Nat) (r : Res (List Opd)) : Res RV := r.bnd (enterM cf i)
@[simp] theorem callM_ap (cf : CF) (i : Nat) (ms : List (M RV)) (ρ : Env) : callM cf i ms ρ = call1 cf i (argsM ms ρ) := rfl
@[simp] theorem call1_ok (cf : CF) (i : Nat) (os : List Opd) (ρ : Env) : call1 cf i (.ok os ρ) = enterM cf i os ρ := rfl
def mkC (s : D → Slot) (d : Option D) (r : Option Env) : Option Env := match d, r with
  | some d, some as => some (s d :: as)
  | _, _ => none
@[simp] theorem mkC_some (s : D → Slot) (d : D) (as : Env) : mkC s (some d) (some as) = some (s d :: as) := rfl
@[simp] theorem mkArgs_nil (ρ : Env) : mkArgs ρ [] = some [] := rfl
@[simp] theorem mkArgs_val (ρ : Env) (d : D) (os : List Opd) : mkArgs ρ (.val d :: os) = mkC .val (some d) (mkArgs ρ os) := by
  show (mkArgs ρ os).map _ = _
  cases mkArgs ρ os <;> rfl
@[simp] theorem mkArgs_bor (ρ : Env) (j : Nat) (os : List Opd) : mkArgs ρ (.bor j :: os) = mkC .bow (ownD ρ j) (mkArgs ρ os) := by
  show (match ownD ρ j with
    | some d => (mkArgs ρ os).map fun as => Slot.bow d :: as
    | none => none) = _
  cases ownD ρ j <;> cases mkArgs ρ os <;> rfl
@[simp] theorem bors_nil : bors [] = [] := rfl
@[simp] theorem bors_val (d : D) (os : List Opd) : bors (.val d :: os) = bors os := rfl
@[simp] theorem bors_bor (j : Nat) (os : List Opd) : bors (.bor j :: os) = j :: bors os := rfl
@[simp] theorem back_nil (ρ as : Env) : backArgs ρ [] as = ρ := by cases as <;> simp [backArgs]
@[simp] theorem back_val (ρ : Env) (d : D) (os : List Opd) (s : Slot) (as : Env) : backArgs ρ (.val d :: os) (s :: as) = backArgs ρ os as := by simp [backArgs]
def backB (ρ : Env) (j : Nat) (s : Slot) : Option Slot → Env
  | some t => ρ.set j (merge t s)
  | none => ρ
@[simp] theorem backB_some (ρ : Env) (j : Nat) (s t : Slot) : backB ρ j s (some t) = ρ.set j (merge t s) := rfl
@[simp] theorem back_bor (ρ : Env) (j : Nat) (os : List Opd) (s : Slot) (as : Env) : backArgs ρ (.bor j :: os) (s :: as) = backArgs (backB ρ j s ρ[j]?) os as := by
  cases h : ρ[j]? <;> simp [backArgs, backB, h]
@[simp] theorem merge_own (d e : D) : merge (.own d) (.bow e) = .own e := rfl
@[simp] theorem merge_bow (d e : D) : merge (.bow d) (.bow e) = .bow e := rfl
@[simp] theorem merge_ownf (d e : D) : merge (.own d) (.bfz e) = .val e := rfl
@[simp] theorem merge_bowf (d e : D) : merge (.bow d) (.bfz e) = .bfz e := rfl
def fz1 (r : Res Opd) : Res D := r.bnd frz
@[simp] theorem fzM_ap (m : M RV) (ρ : Env) : fzM m ρ = fz1 (opd m ρ) := rfl
@[simp] theorem fz1_ok (o : Opd) (ρ : Env) : fz1 (.ok o ρ) = frz o ρ := rfl
def seqm1 (r : Res D) : Res (List D) := r.bnd fun d => M.lift (itemsD d)
@[simp] theorem seqM_ap (m : M RV) (ρ : Env) : seqM m ρ = seqm1 (fzM m ρ) := rfl
@[simp] theorem seqm1_ok (d : D) (ρ : Env) : seqm1 (.ok d ρ) = liftR (itemsD d) ρ := rfl
def src2 (f : List D → Option (List D)) (r : Res (List D)) : Res (List D) := r.bnd fun ds => M.lift (f ds)
def src1 (f : List D → Option (List D)) (r : Res (List Opd)) : Res (List D) := r.bnd fun os => frzs os >>= fun ds => M.lift (f ds)
@[simp] theorem srcF_ap (f : List D → Option (List D)) (ms : List (M RV)) (ρ : Env) : srcF f ms ρ = src1 f (argsM ms ρ) := rfl
@[simp] theorem src1_ok (f : List D → Option (List D)) (os : List Opd) (ρ : Env) : src1 f (.ok os ρ) = src2 f (frzs os ρ) := rfl
@[simp] theorem src2_ok (f : List D → Option (List D)) (ds : List D) (ρ : Env) : src2 f (.ok ds ρ) = liftR (f ds) ρ := rfl
def set1 (i : Nat) (s : Slot) (ρ : Env) : Option Slot → Res Fl
  | none => .stuck
  | some (.bow _) => .stuck
  | some (.bfz _) => .stuck
  | some _ => .ok .nx (ρ.set i s)
@[simp] theorem setM_ap (i : Nat) (s : Slot) (ρ : Env) : setM i s ρ = set1 i s ρ ρ[i]? := by
  show (match ρ[i]? with
  | none => Res.stuck
  | some (.bow _) => .stuck
  | some (.bfz _) => .stuck
  | some _ => Res.ok Fl.nx (ρ.set i s)) = _
  cases ρ[i]? with
  | none => rfl
  | some t => cases t <;> rfl
@[simp] theorem set1_un (i : Nat) (s : Slot) (ρ : Env) : set1 i s ρ (some .un) = .ok .nx (ρ.set i s) := rfl
@[simp] theorem set1_val (i : Nat) (s : Slot) (ρ : Env) (d : D) : set1 i s ρ (some (.val d)) = .ok .nx (ρ.set i s) := rfl
@[simp] theorem set1_own (i : Nat) (s : Slot) (ρ : Env) (d : D) : set1 i s ρ (some (.own d)) = .ok .nx (ρ.set i s) := rfl
def asg2 (i : Nat) (r : Res D) : Res Fl := r.bnd fun d => setM i (.val d)
@[simp] theorem asg2_ok (i : Nat) (d : D) (ρ : Env) : asg2 i (.ok d ρ) = setM i (.val d) ρ := rfl
def asg1 (i : Nat) (r : Res RV) : Res Fl := r.bnd fun rv => match rv with
  | .val d => setM i (.val d)
  | .own d => setM i (.own d)
  | .bor j => frz (.bor j) >>= fun d => setM i (.val d)
@[simp] theorem asgS_ap (i : Nat) (m : M RV) (ρ : Env) : asgS i m ρ = asg1 i (m ρ) := rfl
@[simp] theorem asg1_val (i : Nat) (d : D) (ρ : Env) : asg1 i (.ok (.val d) ρ) = setM i (.val d) ρ := rfl
@[simp] theorem asg1_own (i : Nat) (d : D) (ρ : Env) : asg1 i (.ok (.own d) ρ) = setM i (.own d) ρ := rfl
@[simp] theorem asg1_bor (i j : Nat) (ρ : Env) : asg1 i (.ok (.bor j) ρ) = asg2 i (frz (.bor j) ρ) := rfl
def ret2 (i : Nat) (ρ : Env) : Option Slot → Res Fl
  | some (.own d) => .ok (.ret (.own d)) (ρ.set i .un)
  | some (.bow d) => .ok (.ret (.val d)) (ρ.set i (.bfz d))
  | _ => .stuck
@[simp] theorem ret2_own (i : Nat) (ρ : Env) (d : D) : ret2 i ρ (some (.own d)) = .ok (.ret (.own d)) (ρ.set i .un) := rfl
@[simp] theorem ret2_bow (i : Nat) (ρ : Env) (d : D) : ret2 i ρ (some (.bow d)) = .ok (.ret (.val d)) (ρ.set i (.bfz d)) := rfl
def ret1 (r : Res RV) : Res Fl := r.bnd fun rv ρ => match rv with
  | .val d => .ok (.ret (.val d)) ρ
  | .own d => .ok (.ret (.own d)) ρ
  | .bor i => ret2 i ρ ρ[i]?
@[simp] theorem ret1_val (d : D) (ρ : Env) : ret1 (.ok (.val d) ρ) = .ok (.ret (.val d)) ρ := rfl
@[simp] theorem ret1_own (d : D) (ρ : Env) : ret1 (.ok (.own d) ρ) = .ok (.ret (.own d)) ρ := rfl
@[simp] theorem ret1_bor (i : Nat) (ρ : Env) : ret1 (.ok (.bor i) ρ) = ret2 i ρ ρ[i]? := rfl
@[simp] theorem retS_ap (m : M RV) (ρ : Env) : retS m ρ = ret1 (m ρ) := by
  show (m ρ).bnd _ = (m ρ).bnd _
  congr 1; funext rv ρ
  cases rv with
  | val d => rfl
  | own d => rfl
  | bor i =>
    show (match ρ[i]? with
    | some (.own d) => Res.ok (Fl.ret (.own d)) (ρ.set i .un)
    | some (.bow d) => .ok (.ret (.val d)) (ρ.set i (.bfz d))
    | _ => .stuck) = ret2 i ρ ρ[i]?
    cases ρ[i]? with
    | none => rfl
    | some s => cases s <;> rfl
def drop1 (r : Res RV) : Res Fl := r.bnd fun _ => (pure Fl.nx : MS)
@[simp] theorem dropS_ap (m : M RV) (ρ : Env) : dropS m ρ = drop1 (m ρ) := rfl
@[simp] theorem drop1_ok (rv : RV) (ρ : Env) : drop1 (.ok rv ρ) = .ok .nx ρ := rfl
@[simp] theorem nameG_ap (i : Nat) (d : D) : nameG i d = setM i (.val d) := rfl
@[simp] theorem seqG_nil : seqG [] [] = pure .nx := rfl
@[simp] theorem seqG_cons (g : D → MS) (gs : List (D → MS)) (d : D) (ds : List D) : seqG (g :: gs) (d :: ds) = seqS (g d) (seqG gs ds) := rfl
theorem tupG_ap (gs : List (D → MS)) (ds : List D) (h : ds.length = gs.length) : tupG gs (.tup ds) = seqG gs ds := by
  show (if ds.length = gs.length then _ else _) = _
  rw [if_pos h]
@[simp] theorem tupG_2 (g1 g2 : D → MS) (d1 d2 : D) : tupG [g1, g2] (.tup [d1, d2]) = seqG [g1, g2] [d1, d2] := rfl
@[simp] theorem tupG_3 (g1 g2 g3 : D → MS) (d1 d2 d3 : D) : tupG [g1, g2, g3] (.tup [d1, d2, d3]) = seqG [g1, g2, g3] [d1, d2, d3] := rfl
def updO (i : Nat) (s : D → Slot) (ρ : Env) (o : Option D) : Res Unit := match o with
  | some d => .ok () (ρ.set i (s d))
  | none => .stuck
@[simp] theorem updO_some (i : Nat) (s : D → Slot) (ρ : Env) (d : D) : updO i s ρ (some d) = .ok () (ρ.set i (s d)) := rfl
def upd1 (i : Nat) (f : D → Option D) (ρ : Env) : Option Slot → Res Unit
  | some (.own d) => updO i .own ρ (f d)
  | some (.bow d) => updO i .bow ρ (f d)
  | _ => .stuck
@[simp] theorem upd1_own (i : Nat) (f : D → Option D) (ρ : Env) (d : D) : upd1 i f ρ (some (.own d)) = updO i .own ρ (f d) := rfl
@[simp] theorem upd1_bow (i : Nat) (f : D → Option D) (ρ : Env) (d : D) : upd1 i f ρ (some (.bow d)) = updO i .bow ρ (f d) := rfl
@[simp] theorem updSlot_ap (i : Nat) (f : D → Option D) (ρ : Env) : updSlot i f ρ = upd1 i f ρ ρ[i]? := by
  show (match ρ[i]? with
  | some (.own d) => (match f d with | some d' => Res.ok () (ρ.set i (.own d')) | none => .stuck)
  | some (.bow d) => (match f d with | some d' => .ok () (ρ.set i (.bow d')) | none => .stuck)
  | _ => .stuck) = _
  cases ρ[i]? with
  | none => rfl
  | some s =>
    cases s with
    | own d => show (match f d with | some d' => Res.ok () (ρ.set i (.own d')) | none => .stuck) = updO i .own ρ (f d); cases f d <;> rfl
    | bow d => show (match f d with | some d' => Res.ok () (ρ.set i (.bow d')) | none => .stuck) = updO i .bow ρ (f d); cases f d <;> rfl
    | _ => rfl
def has1 (ρ : Env) (o : Option D) : Res Unit := match o with | some (.lst _) => .ok () ρ | _ => .stuck
@[simp] theorem has1_lst (ρ : Env) (ds : List D) : has1 ρ (some (.lst ds)) = .ok () ρ := rfl
@[simp] theorem hasOwn_ap (i : Nat) (ρ : Env) : hasOwn i ρ = has1 ρ (ownD ρ i) := rfl
def app3 (r : Res Unit) : Res RV := r.bnd fun _ => pure (.val .non)
@[simp] theorem app3_ok (u : Unit) (ρ : Env) : app3 (.ok u ρ) = .ok (.val .non) ρ := rfl
def app2 (i : Nat) (r : Res D) : Res RV := r.bnd fun d => updSlot i (pushD d) >>= fun _ => pure (.val .non)
@[simp] theorem app2_ok (i : Nat) (d : D) (ρ : Env) : app2 i (.ok d ρ) = app3 (updSlot i (pushD d) ρ) := rfl
def app1 (i : Nat) (m : M RV) (r : Res Unit) : Res RV := r.bnd fun _ => fzM m >>= fun d => updSlot i (pushD d) >>= fun _ => pure (.val .non)
@[simp] theorem appM_ap (i : Nat) (m : M RV) (ρ : Env) : appM i m ρ = app1 i m (hasOwn i ρ) := rfl
@[simp] theorem app1_ok (i : Nat) (m : M RV) (u : Unit) (ρ : Env) : app1 i m (.ok u ρ) = app2 i (fzM m ρ) := rfl
def ext4 (i : Nat) (o : Option (List D)) (ρ : Env) : Res RV := match o with
  | some e => app3 (updSlot i (extD e) ρ)
  | none => .stuck
@[simp] theorem ext4_some (i : Nat) (e : List D) (ρ : Env) : ext4 i (some e) ρ = app3 (updSlot i (extD e) ρ) := rfl
def ext2 (i : Nat) (r : Res Opd) : Res RV := r.bnd fun o ρ => ext4 i ((lookO o ρ).bind lstOf) ρ
@[simp] theorem ext2_ok (i : Nat) (o : Opd) (ρ : Env) : ext2 i (.ok o ρ) = ext4 i ((lookO o ρ).bind lstOf) ρ := rfl
def ext1 (i : Nat) (m : M RV) (r : Res Unit) : Res RV := r.bnd fun _ ρ => ext2 i (opd m ρ)
@[simp] theorem ext1_ok (i : Nat) (m : M RV) (u : Unit) (ρ : Env) : ext1 i m (.ok u ρ) = ext2 i (opd m ρ) := rfl
@[simp] theorem extM_ap (i : Nat) (m : M RV) (ρ : Env) : extM i m ρ = ext1 i m (hasOwn i ρ) := by
  show (hasOwn i ρ).bnd _ = (hasOwn i ρ).bnd _
  congr 1; funext u ρ
  show (opd m ρ).bnd _ = (opd m ρ).bnd _
  congr 1; funext o ρ
  show (look o ρ).bnd _ = _
  rw [look_eq]
  cases lookO o ρ with
  | none => rfl
  | some d =>
    show (M.lift (lstOf d) ρ).bnd _ = ext4 i (lstOf d) ρ
    cases lstOf d <;> rfl
def ixg4 (r : Res Unit) : Res Fl := r.bnd fun _ => (pure Fl.nx : MS)
@[simp] theorem ixg4_ok (u : Unit) (ρ : Env) : ixg4 (.ok u ρ) = .ok .nx ρ := rfl
def ixg3 (i : Nat) (d : D) (o : Option D) (ρ : Env) : Res Fl := match o with
  | some k => ixg4 (updSlot i (setD d k) ρ)
  | none => .stuck
@[simp] theorem ixg3_some (i : Nat) (d k : D) (ρ : Env) : ixg3 i d (some k) ρ = ixg4 (updSlot i (setD d k) ρ) := rfl
def ixg2 (i : Nat) (d : D) (r : Res Opd) : Res Fl := r.bnd fun o ρ => ixg3 i d (lookO o ρ) ρ
@[simp] theorem ixg2_ok (i : Nat) (d : D) (o : Opd) (ρ : Env) : ixg2 i d (.ok o ρ) = ixg3 i d (lookO o ρ) ρ := rfl
def ixg1 (i : Nat) (mi : M RV) (d : D) (r : Res Unit) : Res Fl := r.bnd fun _ ρ => ixg2 i d (opd mi ρ)
@[simp] theorem ixg1_ok (i : Nat) (mi : M RV) (d : D) (u : Unit) (ρ : Env) : ixg1 i mi d (.ok u ρ) = ixg2 i d (opd mi ρ) := rfl
@[simp] theorem ixG_ap (i : Nat) (mi : M RV) (d : D) (ρ : Env) : ixG i mi d ρ = ixg1 i mi d (hasOwn i ρ) := by
  show (hasOwn i ρ).bnd _ = (hasOwn i ρ).bnd _
  congr 1; funext u ρ
  show (opd mi ρ).bnd _ = (opd mi ρ).bnd _
  congr 1; funext o ρ
  show (look o ρ).bnd _ = _
  rw [look_eq]
  cases lookO o ρ <;> rfl
def asgg1 (g : D → MS) (r : Res D) : Res Fl := r.bnd g
@[simp] theorem asgG_ap (g : D → MS) (m : M RV) (ρ : Env) : asgG g m ρ = asgg1 g (fzM m ρ) := rfl
@[simp] theorem asgg1_ok (g : D → MS) (d : D) (ρ : Env) : asgg1 g (.ok d ρ) = g d ρ := rfl
@[simp] theorem augS_ap (i : Nat) (f : D → D → Option RV) (m : M RV) : augS i f m = asgS i (binM f (varM i) m) := rfl
def par2 (i j : Nat) (s : Slot) (r : Res RV) : Res Fl := r.bnd fun rb => match rb with
    | .val db => seqS (setM i s) (setM j (.val db))
    | .own db => seqS (setM i s) (setM j (.own db))
    | .bor _ => M.stuck
@[simp] theorem par2_val (i j : Nat) (s : Slot) (d : D) (ρ : Env) : par2 i j s (.ok (.val d) ρ) = seqS (setM i s) (setM j (.val d)) ρ := rfl
@[simp] theorem par2_own (i j : Nat) (s : Slot) (d : D) (ρ : Env) : par2 i j s (.ok (.own d) ρ) = seqS (setM i s) (setM j (.own d)) ρ := rfl
def par1 (i j : Nat) (n : M RV) (r : Res RV) : Res Fl := r.bnd fun ra ρ => match ra with
  | .own da => par2 i j (.own da) (n ρ)
  | .val da => par2 i j (.val da) (n ρ)
  | .bor _ => .stuck
@[simp] theorem par1_val (i j : Nat) (n : M RV) (d : D) (ρ : Env) : par1 i j n (.ok (.val d) ρ) = par2 i j (.val d) (n ρ) := rfl
@[simp] theorem par1_own (i j : Nat) (n : M RV) (d : D) (ρ : Env) : par1 i j n (.ok (.own d) ρ) = par2 i j (.own d) (n ρ) := rfl
@[simp] theorem parS_ap (i j : Nat) (m n : M RV) (ρ : Env) : parS i j m n ρ = par1 i j n (m ρ) := by
  show (m ρ).bnd _ = (m ρ).bnd _
  congr 1; funext ra ρ
  cases ra <;> rfl
def for1 (g : D → MS) (body : MS) (r : Res (List D)) : Res Fl := r.bnd fun ds => loopS g body ds
@[simp] theorem forS_ap (src : M (List D)) (g : D → MS) (body : MS) (ρ : Env) : forS src g body ρ = for1 g body (src ρ) := rfl
@[simp] theorem for1_ok (g : D → MS) (body : MS) (ds : List D) (ρ : Env) : for1 g body (.ok ds ρ) = loopS g body ds ρ := rfl
@[simp] theorem loopS_nil (g : D → MS) (body : MS) (ρ : Env) : loopS g body [] ρ = .ok .nx ρ := rfl
theorem loopS_cons (g : D → MS) (body : MS) (d : D) (ds : List D) : loopS g body (d :: ds) = seqS (g d) (stepS body (loopS g body ds)) := rfl
def step1 (k : MS) (r : Res Fl) : Res Fl := r.bnd fun f => match f with
  | .nx => k
  | .cont => k
  | .brk => pure .nx
  | .ret rv => pure (.ret rv)
@[simp] theorem stepS_ap (body k : MS) (ρ : Env) : stepS body k ρ = step1 k (body ρ) := rfl
@[simp] theorem step1_nx (k : MS) (ρ : Env) : step1 k (.ok .nx ρ) = k ρ := rfl
@[simp] theorem step1_cont (k : MS) (ρ : Env) : step1 k (.ok .cont ρ) = k ρ := rfl
@[simp] theorem step1_brk (k : MS) (ρ : Env) : step1 k (.ok .brk ρ) = .ok .nx ρ := rfl
@[simp] theorem step1_ret (k : MS) (rv : RV) (ρ : Env) : step1 k (.ok (.ret rv) ρ) = .ok (.ret rv) ρ := rfl
@[simp] theorem noO_ap (ρ : Env) : noO ρ = .ok none ρ := rfl
def into1 (r : Res Opd) : Res (Option Int) := r.bnd fun o => look o >>= fun d => M.lift (match d with | .int i => some (some i) | _ => none)
def into2 (o : Option D) (ρ : Env) : Res (Option Int) := match o with
  | some (.int i) => .ok (some i) ρ
  | _ => .stuck
@[simp] theorem into2_int (i : Int) (ρ : Env) : into2 (some (.int i)) ρ = .ok (some i) ρ := rfl
@[simp] theorem intO_ap (m : M RV) (ρ : Env) : intO m ρ = into1 (opd m ρ) := rfl
@[simp] theorem into1_ok (o : Opd) (ρ : Env) : into1 (.ok o ρ) = into2 (lookO o ρ) ρ := by
  show (look o ρ).bnd _ = _
  rw [look_eq]
  cases lookO o ρ with
  | none => rfl
  | some d => cases d <;> rfl
def sl3 (o : Opd) (lo : Option Int) (r : Res (Option Int)) : Res RV := r.bnd fun hi => look o >>= fun d => M.lift (slD lo hi d)
def sl2 (mh : M (Option Int)) (o : Opd) (r : Res (Option Int)) : Res RV := r.bnd fun lo => mh >>= fun hi => look o >>= fun d => M.lift (slD lo hi d)
def sl1 (ml mh : M (Option Int)) (r : Res Opd) : Res RV := r.bnd fun o => ml >>= fun lo => mh >>= fun hi => look o >>= fun d => M.lift (slD lo hi d)
@[simp] theorem slM_ap (ma : M RV) (ml mh : M (Option Int)) (ρ : Env) : slM ma ml mh ρ = sl1 ml mh (opd ma ρ) := rfl
@[simp] theorem sl1_ok (ml mh : M (Option Int)) (o : Opd) (ρ : Env) : sl1 ml mh (.ok o ρ) = sl2 mh o (ml ρ) := rfl
@[simp] theorem sl2_ok (mh : M (Option Int)) (o : Opd) (lo : Option Int) (ρ : Env) : sl2 mh o (.ok lo ρ) = sl3 o lo (mh ρ) := rfl
@[simp] theorem sl3_ok (o : Opd) (lo hi : Option Int) (ρ : Env) : sl3 o lo (.ok hi ρ) = opLift (slD lo hi) (lookO o ρ) ρ := look_lift (slD lo hi) o ρ
def st4 (o : Opd) (lo hi : Option Int) (r : Res (Option Int)) : Res RV := r.bnd fun c => look o >>= fun d => M.lift (stD lo hi c d)
def st3 (mc : M (Option Int)) (o : Opd) (lo : Option Int) (r : Res (Option Int)) : Res RV := r.bnd fun hi => mc >>= fun c => look o >>= fun d => M.lift (stD lo hi c d)
def st2 (mh mc : M (Option Int)) (o : Opd) (r : Res (Option Int)) : Res RV := r.bnd fun lo => mh >>= fun hi => mc >>= fun c => look o >>= fun d => M.lift (stD lo hi c d)
def st1 (ml mh mc : M (Option Int)) (r : Res Opd) : Res RV := r.bnd fun o => ml >>= fun lo => mh >>= fun hi => mc >>= fun c => look o >>= fun d => M.lift (stD lo hi c d)
@[simp] theorem stepM_ap (ma : M RV) (ml mh mc : M (Option Int)) (ρ : Env) : stepM ma ml mh mc ρ = st1 ml mh mc (opd ma ρ) := rfl
@[simp] theorem st1_ok (ml mh mc : M (Option Int)) (o : Opd) (ρ : Env) : st1 ml mh mc (.ok o ρ) = st2 mh mc o (ml ρ) := rfl
@[simp] theorem st2_ok (mh mc : M (Option Int)) (o : Opd) (lo : Option Int) (ρ : Env) : st2 mh mc o (.ok lo ρ) = st3 mc o lo (mh ρ) := rfl
@[simp] theorem st3_ok (mc : M (Option Int)) (o : Opd) (lo hi : Option Int) (ρ : Env) : st3 mc o lo (.ok hi ρ) = st4 o lo hi (mc ρ) := rfl
@[simp] theorem st4_ok (o : Opd) (lo hi c : Option Int) (ρ : Env) : st4 o lo hi (.ok c ρ) = opLift (stD lo hi c) (lookO o ρ) ρ := look_lift (stD lo hi c) o ρ
def lc1 (ct : CT) (t : M Bool) (el : M RV) (vs : List Nat) (r : Res (List D)) : Res RV := r.bnd (lcGo ct t el vs)
@[simp] theorem lc1_ok (ct : CT) (t : M Bool) (el : M RV) (vs : List Nat) (ds : List D) (ρ : Env) : lc1 ct t el vs (.ok ds ρ) = lcGo ct t el vs ds ρ := rfl
/-- a loop by an invariant told by what is still to come -/
theorem loop_ind {g : D → MS} {body : MS} (I : List D → Env → Prop) (hs : ∀ d ds ρ, I (d :: ds) ρ → ∃ ρ1 f ρ', g d ρ = .ok .nx ρ1 ∧ body ρ1 = .ok f ρ' ∧ (f = .nx ∨ f = .cont) ∧ I ds ρ') : ∀ (ds : List D) (ρ : Env), I ds ρ → ∃ ρ', loopS g body ds ρ = .ok .nx ρ' ∧ I [] ρ'
  | [], ρ, h => ⟨ρ, rfl, h⟩
  | d :: ds, ρ, h => by
    obtain ⟨ρ1, f, ρ', h1, h2, h3, h4⟩ := hs d ds ρ h
    obtain ⟨ρ2, h5, h6⟩ := loop_ind I hs ds ρ' h4
    refine ⟨ρ2, ?_, h6⟩
    rw [loopS_cons, seqS_ap, h1, seq1_nx, stepS_ap, h2]
    rcases h3 with rfl | rfl <;> exact h5
/-- while, by an invariant and a measure -/
theorem while_ind {t : M Bool} {body : MS} (I : Nat → Env → Prop) (hs : ∀ n ρ, I n ρ → (∃ ρ', t ρ = .ok false ρ' ∧ I 0 ρ' ∧ n = 0) ∨ ∃ ρ1 f ρ' m, t ρ = .ok true ρ1 ∧ body ρ1 = .ok f ρ' ∧ (f = .nx ∨ f = .cont) ∧ m < n ∧ I m ρ') :
    ∀ (k n : Nat) (ρ : Env), n < k → I n ρ → ∃ ρ', whileL t body k ρ = .ok .nx ρ' ∧ I 0 ρ' ∧ True
  | 0, n, ρ, hk, h => by omega
  | k + 1, n, ρ, hk, h => by
    show ∃ ρ', (t ρ).bnd _ = _ ∧ _
    rcases hs n ρ h with ⟨ρ', h1, h2, _⟩ | ⟨ρ1, f, ρ', m, h1, h2, h3, h4, h5⟩
    · exact ⟨ρ', by rw [h1]; rfl, h2, trivial⟩
    · obtain ⟨ρ2, h6, h7, _⟩ := while_ind I hs k m ρ' (by omega) h5
      refine ⟨ρ2, ?_, h7, trivial⟩
      rw [h1]
      show stepS body (whileL t body k) ρ1 = _
      rw [stepS_ap, h2]
      rcases h3 with rfl | rfl <;> exact h6
@[simp] theorem lcM_ap (src : M (List D)) (ct : CT) (t : M Bool) (el : M RV) (vs : List Nat) (ρ : Env) : lcM src ct t el vs ρ = lc1 ct t el vs (src ρ) := rfl
theorem lcLoop_cons (ct : CT) (t : M Bool) (el : M RV) (vs : List Nat) (d : D) (ds acc : List D) : lcLoop ct t el vs (d :: ds) acc = (ctG ct d >>= fun _ => t >>= fun k => if k = true then fzM el >>= fun y => fun ρ => lcLoop ct t el vs ds (acc ++ [y]) (wipeE ρ vs) else fun ρ => lcLoop ct t el vs ds acc (wipeE ρ vs)) := rfl
/-- a comprehension, by an invariant: J tells the names' state and what has been made of what is behind -/
theorem lc_inv {ct : CT} {t : M Bool} {el : M RV} {vs : List Nat} (I : List D → Env → List D → Prop)
    (hs : ∀ d ds ρ acc, I (d :: ds) ρ acc → ∃ u ρ1 b ρ2, ctG ct d ρ = .ok u ρ1 ∧ t ρ1 = .ok b ρ2 ∧ ((b = true ∧ ∃ y ρ3, fzM el ρ2 = .ok y ρ3 ∧ I ds (wipeE ρ3 vs) (acc ++ [y])) ∨ (b = false ∧ I ds (wipeE ρ2 vs) acc))) :
    ∀ (ds : List D) (ρ : Env) (acc : List D), I ds ρ acc → ∃ ρ' acc', lcLoop ct t el vs ds acc ρ = .ok acc' ρ' ∧ I [] ρ' acc'
  | [], ρ, acc, h => ⟨ρ, acc, rfl, h⟩
  | d :: ds, ρ, acc, h => by
    obtain ⟨u, ρ1, b, ρ2, h1, h2, h3⟩ := hs d ds ρ acc h
    rcases h3 with ⟨rfl, y, ρ3, h4, h5⟩ | ⟨rfl, h5⟩
    · obtain ⟨ρ', acc', h6, h7⟩ := lc_inv I hs ds _ _ h5
      refine ⟨ρ', acc', ?_, h7⟩
      rw [lcLoop_cons, bnd_ap, h1]
      show ((t ρ1).bnd _) = _
      rw [h2]
      show ((fzM el ρ2).bnd _) = _
      rw [h4]
      exact h6
    · obtain ⟨ρ', acc', h6, h7⟩ := lc_inv I hs ds _ _ h5
      refine ⟨ρ', acc', ?_, h7⟩
      rw [lcLoop_cons, bnd_ap, h1]
      show ((t ρ1).bnd _) = _
      rw [h2]
      exact h6
theorem lcGo_inv {ct : CT} {t : M Bool} {el : M RV} {vs : List Nat} {ρ : Env} {ds : List D} (I : List D → Env → List D → Prop) (hl : ds.length ≤ LIM) (h0 : I ds (wipeE ρ vs) [])
    (hs : ∀ d ds ρ acc, I (d :: ds) ρ acc → ∃ u ρ1 b ρ2, ctG ct d ρ = .ok u ρ1 ∧ t ρ1 = .ok b ρ2 ∧ ((b = true ∧ ∃ y ρ3, fzM el ρ2 = .ok y ρ3 ∧ I ds (wipeE ρ3 vs) (acc ++ [y])) ∨ (b = false ∧ I ds (wipeE ρ2 vs) acc))) :
    ∃ ρ' acc, lcGo ct t el vs ds ρ = .ok (.own (.lst acc)) (restoreE ρ ρ' vs) ∧ I [] ρ' acc := by
  obtain ⟨ρ', acc, h1, h2⟩ := lc_inv I hs ds _ _ h0
  refine ⟨ρ', acc, ?_, h2⟩
  unfold lcGo
  rw [if_pos hl, h1]
/-- a comprehension that leaves the names as they are: f tells what it makes of an item -/
theorem lcGo_pure {ct : CT} {t : M Bool} {el : M RV} {vs : List Nat} {ρ : Env} {ds : List D} (f : D → Option D) (hl : ds.length ≤ LIM) (hr : restoreE ρ (wipeE ρ vs) vs = ρ)
    (hs : ∀ d, d ∈ ds → ∃ u ρ1 b ρ2, ctG ct d (wipeE ρ vs) = .ok u ρ1 ∧ t ρ1 = .ok b ρ2 ∧ ((b = true ∧ ∃ y ρ3, fzM el ρ2 = .ok y ρ3 ∧ wipeE ρ3 vs = wipeE ρ vs ∧ f d = some y) ∨ (b = false ∧ wipeE ρ2 vs = wipeE ρ vs ∧ f d = none))) :
    lcGo ct t el vs ds ρ = .ok (.own (.lst (ds.filterMap f))) ρ := by
  obtain ⟨ρ', acc, h1, h2, h3⟩ := lcGo_inv (ct := ct) (t := t) (el := el) (vs := vs) (ρ := ρ) (fun es ρ' acc => ρ' = wipeE ρ vs ∧ (∀ e, e ∈ es → e ∈ ds) ∧ acc ++ es.filterMap f = ds.filterMap f) hl ⟨rfl, fun _ h => h, rfl⟩ (fun d es ρ' acc ⟨e1, e2, e3⟩ => by
    subst e1
    obtain ⟨u, ρ1, b, ρ2, h1, h2, h3⟩ := hs d (e2 d (by simp))
    refine ⟨u, ρ1, b, ρ2, h1, h2, ?_⟩
    rcases h3 with ⟨hb, y, ρ3, h4, h5, h6⟩ | ⟨hb, h5, h6⟩
    · exact .inl ⟨hb, y, ρ3, h4, h5, fun e h => e2 e (by simp [h]), by rw [← e3, List.filterMap_cons, h6]; simp⟩
    · exact .inr ⟨hb, h5, fun e h => e2 e (by simp [h]), by rw [← e3, List.filterMap_cons, h6]⟩)
  subst h2
  simp only [List.filterMap_nil, List.append_nil] at h3
  rw [h1, hr, h3.2]
/-- runs a def -/
theorem run_ret {ns : Nat} {body : MS} {args ρ' out : Env} {rv : RV} (ha : argsOk args = true) (h : body (args ++ List.replicate (ns - args.length) .un) = .ok (.ret rv) ρ') (ho : fin args ρ' = out) : runDef ns body args = .ok rv out := by
  unfold runDef; rw [if_pos ha, h]; subst ho; rfl
theorem run_nx {ns : Nat} {body : MS} {args ρ' out : Env} (ha : argsOk args = true) (h : body (args ++ List.replicate (ns - args.length) .un) = .ok .nx ρ') (ho : fin args ρ' = out) : runDef ns body args = .ok (.val .non) out := by
  unfold runDef; rw [if_pos ha, h]; subst ho; rfl
@[simp] theorem fin_val (d : D) (s : Slot) (as ss : Env) : fin (.val d :: as) (s :: ss) = .val d :: fin as ss := by simp [fin]
@[simp] theorem fin_bow (d : D) (s : Slot) (as ss : Env) : fin (.bow d :: as) (s :: ss) = s :: fin as ss := by simp [fin]
@[simp] theorem fin_nil (ss : Env) : fin [] ss = [] := by cases ss <;> simp [fin]
end
end VL

namespace Lw
open PySem VL

/-- is_integer: 0 thing -/
def b_is_integer (cf : CF) : MS :=
  (retS (andM (unM (isiD [.int]) (varM 0)) (notM (unM (isiD [.bl]) (varM 0)))))
/-- is_within: 0 thing, 1 least, 2 most -/
def b_is_within (cf : CF) : MS :=
  (retS (andM (callM cf 0 [varM 0]) (chainM leD leD (varM 1) (varM 0) (varM 2))))
/-- are_within: 0 thing, 1 least, 2 most, 3 one -/
def b_are_within (cf : CF) : MS :=
  (retS (andM (unM (isiD [.tup]) (varM 0)) (primM (one1 allD) [lcM (seqM (varM 0)) (.one 3) (pure true) (callM cf 1 [varM 3, varM 1, varM 2]) [3]])))
/-- common_part: 0 one, 1 other -/
def b_common_part (cf : CF) : MS :=
  (seqS (whileS (binM neD (varM 1) (constM (.int 0)) >>= asB) ((parS 0 1 (varM 1) (binM subD (varM 0) (binM mulD (varM 1) (binM divD (varM 0) (varM 1)))))))
  (retS (primM (one1 absD) [varM 0])))
/-- fraction: 0 top, 1 bottom, 2 part, 3 sign -/
def b_fraction (cf : CF) : MS :=
  (seqS (asgS 2 (callM cf 3 [varM 1, varM 0]))
  (seqS (asgS 3 (ifM (binM gtD (varM 1) (constM (.int 0)) >>= asB) (constM (.int 1)) (unM negD (constM (.int 1)))))
  (retS (tupM [binM divD (binM mulD (varM 3) (varM 0)) (varM 2), binM divD (binM mulD (varM 3) (varM 1)) (varM 2)]))))
/-- is_pattern: 0 thing -/
def b_is_pattern (cf : CF) : MS :=
  (retS (andM (callM cf 2 [varM 0, constM (.int 1), constM (.int 20)]) (andM (chainM leD leD (constM (.int 2)) (primM (one1 lenD) [varM 0]) (constM (.int 12))) (binM eqD (binM modD (primM (one1 lenD) [varM 0]) (constM (.int 2))) (constM (.int 0))))))
/-- check_pattern: 0 pattern -/
def b_check_pattern (cf : CF) : MS :=
  (ifS (notT (truM (callM cf 5 [varM 0]))) ((M.stuck)) (pure .nx))
/-- signs_of: 0 pattern, 1 found, 2 number, 3 many -/
def b_signs_of (cf : CF) : MS :=
  (seqS (asgS 1 (lstM []))
  (seqS (forS (srcF enumD [varM 0]) (tupG [nameG 2, nameG 3]) ((dropS (extM 1 (binM mulD (lstM [binM subD (constM (.int 1)) (binM modD (varM 2) (constM (.int 2)))]) (varM 3))))))
  (retS (varM 1))))
/-- period: 0 pattern -/
def b_period (cf : CF) : MS :=
  (seqS (dropS (callM cf 6 [varM 0]))
  (retS (primM (one1 sumD) [varM 0])))
/-- is_lit: 0 pattern, 1 second -/
def b_is_lit (cf : CF) : MS :=
  (seqS (dropS (callM cf 6 [varM 0]))
  (seqS (ifS (notT (truM (callM cf 1 [varM 1, constM (.int 0), constM (.int 1000000)]))) ((M.stuck)) (pure .nx))
  (retS (binM eqD (binM ixD (callM cf 7 [varM 0]) (binM modD (varM 1) (primM (one1 sumD) [varM 0]))) (constM (.int 1))))))
/-- lit_share: 0 pattern -/
def b_lit_share (cf : CF) : MS :=
  (seqS (dropS (callM cf 6 [varM 0]))
  (retS (callM cf 4 [primM (one1 sumD) [stepM (varM 0) noO noO (intO (constM (.int 2)))], primM (one1 sumD) [varM 0]])))
/-- lit_spans: 0 pattern, 1 begin, 2 end, 3 second, 4 signs, 5 found -/
def b_lit_spans (cf : CF) : MS :=
  (seqS (dropS (callM cf 6 [varM 0]))
  (seqS (forS (seqM (tupM [varM 1, varM 2])) (nameG 3) ((ifS (notT (truM (callM cf 1 [varM 3, constM (.int 0), constM (.int 1000)]))) ((M.stuck)) (pure .nx))))
  (seqS (parS 4 5 (callM cf 7 [varM 0]) (lstM []))
  (seqS (forS (srcF range2D [varM 1, binM addD (varM 2) (constM (.int 1))]) (nameG 3) ((ifS (binM eqD (binM ixD (varM 4) (binM modD (varM 3) (primM (one1 lenD) [varM 4]))) (constM (.int 1)) >>= asB) ((ifS (andT (binM gtD (primM (one1 lenD) [varM 5]) (constM (.int 0)) >>= asB) (binM eqD (binM ixD (binM ixD (varM 5) (unM negD (constM (.int 1)))) (constM (.int 1))) (binM subD (varM 3) (constM (.int 1))) >>= asB)) ((asgG (ixG 5 (unM negD (constM (.int 1)))) (tupM [binM ixD (binM ixD (varM 5) (unM negD (constM (.int 1)))) (constM (.int 0)), varM 3]))) ((dropS (appM 5 (tupM [varM 3, varM 3])))))) (pure .nx))))
  (retS (primM (one1 tupleD) [varM 5]))))))
/-- next_lit: 0 pattern, 1 second, 2 signs -/
def b_next_lit (cf : CF) : MS :=
  (seqS (dropS (callM cf 6 [varM 0]))
  (seqS (ifS (notT (truM (callM cf 1 [varM 1, constM (.int 0), constM (.int 1000000)]))) ((M.stuck)) (pure .nx))
  (seqS (asgS 2 (callM cf 7 [varM 0]))
  (seqS (whileS (binM eqD (binM ixD (varM 2) (binM modD (varM 1) (primM (one1 lenD) [varM 2]))) (constM (.int 0)) >>= asB) ((augS 1 addI (constM (.int 1)))))
  (retS (varM 1))))))
/-- _law_draw: 0 hand, 1 span, 2 number, 3 cell, 4 digit -/
def b__law_draw (cf : CF) : MS :=
  (seqS (ifS (andT (binM eqD (binM ixD (varM 0) (constM (.int 2))) (constM (.int 0)) >>= asB) (binM ltD (binM ixD (varM 0) (constM (.int 1))) (primM (one1 lenD) [binM ixD (varM 0) (constM (.int 0))]) >>= asB)) ((seqS (asgS 3 (binM ixD (binM ixD (varM 0) (constM (.int 0))) (binM ixD (varM 0) (constM (.int 1)))))
  (seqS (asgG (ixG 0 (constM (.int 1))) (binM addD (binM ixD (varM 0) (constM (.int 1))) (constM (.int 1))))
  (seqS (asgG (ixG 0 (constM (.int 3))) (binM modD (primM (one1 intD) [binM addD (binM addD (binM mulD (binM ixD (varM 0) (constM (.int 3))) (constM (.int 69621))) (varM 3)) (constM (.int 43))]) (constM (.int 2147483629))))
  (ifS (binM geD (varM 3) (binM powD (constM (.int 10)) (constM (.int 18))) >>= asB) ((asgG (ixG 0 (constM (.int 2))) (varM 3))) (pure .nx)))))) (pure .nx))
  (seqS (ifS (binM gtD (binM ixD (varM 0) (constM (.int 2))) (constM (.int 0)) >>= asB) ((seqS (asgS 4 (binM modD (primM (one1 intD) [binM ixD (varM 0) (constM (.int 2))]) (varM 1)))
  (seqS (asgG (ixG 0 (constM (.int 2))) (binM divD (binM ixD (varM 0) (constM (.int 2))) (varM 1)))
  (retS (varM 4))))) (pure .nx))
  (seqS (asgG (ixG 0 (constM (.int 4))) (binM addD (binM ixD (varM 0) (constM (.int 4))) (constM (.int 1))))
  (seqS (asgS 2 (binM modD (primM (one1 intD) [binM mulD (primM (one1 intD) [binM addD (binM ixD (varM 0) (constM (.int 3))) (binM mulD (constM (.int 7919)) (binM ixD (varM 0) (constM (.int 4))))]) (constM (.int 48271))]) (constM (.int 2147483647))))
  (seqS (asgS 2 (binM modD (primM (one1 intD) [binM mulD (varM 2) (binM addD (binM divD (varM 2) (constM (.int 1009))) (constM (.int 69621)))]) (constM (.int 2147483647))))
  (seqS (asgS 2 (binM modD (primM (one1 intD) [binM mulD (varM 2) (binM addD (binM divD (varM 2) (constM (.int 2003))) (constM (.int 40692)))]) (constM (.int 2147483399))))
  (retS (binM modD (primM (one1 intD) [binM divD (varM 2) (constM (.int 16))]) (varM 1)))))))))
/-- _law_some: 0 hand, 1 things -/
def b__law_some (cf : CF) : MS :=
  (retS (binM ixD (varM 1) (callM cf 13 [varM 0, primM (one1 lenD) [varM 1]])))
/-- _law_is: 0 thing, 1 due, 2 one, 3 other -/
def b__law_is (cf : CF) : MS :=
  (seqS (ifS (truM (unM (isiD [.tup, .lst]) (varM 1))) ((seqS (ifS (orT (binM neD (unM (isiD [.tup]) (varM 0)) (unM (isiD [.tup]) (varM 1)) >>= asB) (binM neD (unM (isiD [.lst]) (varM 0)) (unM (isiD [.lst]) (varM 1)) >>= asB)) ((retS (constM (.bl false)))) (pure .nx))
  (retS (andM (binM eqD (primM (one1 lenD) [varM 0]) (primM (one1 lenD) [varM 1])) (primM (one1 allD) [lcM (srcF zipD [varM 0, varM 1]) (.many [2, 3]) (pure true) (callM cf 15 [varM 2, varM 3]) [2, 3]]))))) (pure .nx))
  (seqS (ifS (orT (binM isD (varM 1) (constM .non) >>= asB) (binM isD (varM 0) (constM .non) >>= asB)) ((retS (andM (binM isD (varM 1) (constM .non)) (binM isD (varM 0) (constM .non))))) (pure .nx))
  (seqS (ifS (orT (binM neD (unM (isiD [.bl]) (varM 0)) (unM (isiD [.bl]) (varM 1)) >>= asB) (binM neD (unM (isiD [.int]) (varM 0)) (unM (isiD [.int]) (varM 1)) >>= asB)) ((retS (constM (.bl false)))) (pure .nx))
  (retS (andM (binM eqD (unM (isiD [.str]) (varM 0)) (unM (isiD [.str]) (varM 1))) (binM eqD (varM 0) (varM 1)))))))
/-- _law_hand: 0 script, 1 cells, 2 cell -/
def b__law_hand (cf : CF) : MS :=
  (seqS (asgS 1 (lcM (seqM (slM (varM 0) noO (intO (constM (.int 63))))) (.one 2) (pure true) (primM (one1 absD) [primM (one1 intD) [varM 2]]) [2]))
  (retS (lstM [varM 1, constM (.int 0), constM (.int 0), binM addD (constM (.int 317)) (binM mulD (constM (.int 3)) (primM (one1 lenD) [varM 1])), constM (.int 0)])))
/-- _law_low: 0 top, 1 bottom, 2 other, 3 one -/
def b__law_low (cf : CF) : MS :=
  (seqS (parS 3 2 (primM (one1 absD) [varM 0]) (primM (one1 absD) [varM 1]))
  (seqS (whileS (binM gtD (varM 3) (constM (.int 0)) >>= asB) ((parS 3 2 (binM modD (primM (one1 intD) [varM 2]) (varM 3)) (varM 3))))
  (seqS (asgS 2 (ifM (binM gtD (varM 1) (constM (.int 0)) >>= asB) (varM 2) (binM subD (constM (.int 0)) (varM 2))))
  (retS (tupM [binM divD (varM 0) (varM 2), binM divD (varM 1) (varM 2)])))))
/-- _law_seconds: 0 pattern, 1 found, 2 spot, 3 many -/
def b__law_seconds (cf : CF) : MS :=
  (seqS (asgS 1 (lstM []))
  (seqS (forS (srcF enumD [varM 0]) (tupG [nameG 2, nameG 3]) ((asgS 1 (binM addD (varM 1) (binM mulD (lstM [binM modD (primM (one1 intD) [binM addD (varM 2) (constM (.int 1))]) (constM (.int 2))]) (varM 3))))))
  (retS (varM 1))))
/-- _law_is_root: 0 pattern, 1 many, 2 size -/
def b__law_is_root (cf : CF) : MS :=
  (seqS (asgS 1 (primM (one1 lenD) [varM 0]))
  (seqS (forS (srcF range3D [constM (.int 2), varM 1, constM (.int 2)]) (nameG 2) ((ifS (andT (binM eqD (binM modD (primM (one1 intD) [varM 1]) (varM 2)) (constM (.int 0)) >>= asB) (binM eqD (varM 0) (binM mulD (slM (varM 0) noO (intO (varM 2))) (binM divD (varM 1) (varM 2))) >>= asB)) ((retS (constM (.bl false)))) (pure .nx))))
  (retS (constM (.bl true)))))
/-- _law_pattern: 0 hand, 1 pairs, 2 most, 3 spot -/
def b__law_pattern (cf : CF) : MS :=
  (retS (primM (one1 tupleD) [lcM (srcF range1D [binM addD (constM (.int 2)) (binM mulD (constM (.int 2)) (callM cf 13 [varM 0, varM 1]))]) (.one 3) (pure true) (binM addD (constM (.int 1)) (callM cf 13 [varM 0, varM 2])) [3]]))
/-- _law_spans: 0 round_of, 1 first, 2 last, 3 second, 4 found, 5 size -/
def b__law_spans (cf : CF) : MS :=
  (seqS (parS 4 5 (lstM []) (primM (one1 lenD) [varM 0]))
  (seqS (forS (srcF range2D [varM 1, binM addD (varM 2) (constM (.int 1))]) (nameG 3) ((ifS (binM eqD (binM ixD (varM 0) (binM modD (primM (one1 intD) [varM 3]) (varM 5))) (constM (.int 1)) >>= asB) ((ifS (andT (binM neD (varM 4) (lstM []) >>= asB) (binM eqD (binM ixD (binM ixD (varM 4) (unM negD (constM (.int 1)))) (constM (.int 1))) (binM subD (varM 3) (constM (.int 1))) >>= asB)) ((asgG (ixG 4 (unM negD (constM (.int 1)))) (tupM [binM ixD (binM ixD (varM 4) (unM negD (constM (.int 1)))) (constM (.int 0)), varM 3]))) ((dropS (appM 4 (tupM [varM 3, varM 3])))))) (pure .nx))))
  (retS (primM (one1 tupleD) [varM 4]))))
/-- _law_is_told_right: 0 hand, 1 pattern, 2 round_of, 3 size, 4 second, 5 first, 6 last, 7 lit, 8 later, 9 more, 10 one, 11 two -/
def b__law_is_told_right (cf : CF) : MS :=
  (seqS (asgS 2 (callM cf 18 [varM 1]))
  (seqS (asgS 3 (primM (one1 lenD) [varM 2]))
  (seqS (ifS (andT (truM (callM cf 19 [varM 1])) (notT (truM (callM cf 15 [callM cf 8 [varM 1], varM 3])))) ((retS (constM (.bl false)))) (pure .nx))
  (seqS (ifS (notT (truM (callM cf 15 [callM cf 10 [varM 1], callM cf 17 [primM (one1 sumD) [varM 2], varM 3]]))) ((retS (constM (.bl false)))) (pure .nx))
  (seqS (forS (seqM (tupM [constM (.int 0), callM cf 13 [varM 0, varM 3], callM cf 13 [varM 0, constM (.int 1000)], callM cf 13 [varM 0, binM addD (binM powD (constM (.int 10)) (constM (.int 6))) (constM (.int 1))], binM powD (constM (.int 10)) (constM (.int 6))])) (nameG 4) ((seqS (ifS (notT (truM (callM cf 15 [callM cf 9 [varM 1, varM 4], binM eqD (binM ixD (varM 2) (binM modD (primM (one1 intD) [varM 4]) (varM 3))) (constM (.int 1))]))) ((retS (constM (.bl false)))) (pure .nx))
  (seqS (asgS 8 (lcM (srcF range1D [varM 3]) (.one 9) (binM eqD (binM ixD (varM 2) (binM modD (primM (one1 intD) [binM addD (varM 4) (varM 9)]) (varM 3))) (constM (.int 1)) >>= asB) (varM 9) [9]))
  (ifS (notT (truM (callM cf 15 [callM cf 12 [varM 1, varM 4], binM addD (varM 4) (binM ixD (varM 8) (constM (.int 0)))]))) ((retS (constM (.bl false)))) (pure .nx))))))
  (seqS (asgS 5 (callM cf 13 [varM 0, constM (.int 1001)]))
  (seqS (asgS 6 (binM addD (varM 5) (callM cf 13 [varM 0, primM (minD) [constM (.int 200), binM subD (constM (.int 1001)) (varM 5)]])))
  (seqS (ifS (notT (truM (callM cf 15 [callM cf 11 [varM 1, varM 5, varM 6], callM cf 21 [varM 2, varM 5, varM 6]]))) ((retS (constM (.bl false)))) (pure .nx))
  (seqS (asgS 7 (primM (one1 sumD) [lcM (seqM (callM cf 11 [varM 1, varM 5, varM 6])) (.many [10, 11]) (pure true) (binM addD (binM subD (varM 11) (varM 10)) (constM (.int 1))) [10, 11]]))
  (retS (binM eqD (varM 7) (primM (one1 lenD) [lcM (srcF range2D [varM 5, binM addD (varM 6) (constM (.int 1))]) (.one 4) (truM (callM cf 9 [varM 1, varM 4])) (varM 4) [4]]))))))))))))
/-- law: 0 script, 1 hand, 2 known, 3 step -/
def b_law (cf : CF) : MS :=
  (seqS (asgS 1 (callM cf 16 [varM 0]))
  (seqS (asgS 2 (lstM [callM cf 9 [tupM [constM (.int 2), constM (.int 3)], constM (.int 1)], callM cf 9 [tupM [constM (.int 2), constM (.int 3)], constM (.int 2)], callM cf 12 [tupM [constM (.int 2), constM (.int 3)], constM (.int 2)], callM cf 10 [tupM [constM (.int 2), constM (.int 4)]], callM cf 11 [tupM [constM (.int 2), constM (.int 3)], constM (.int 1), constM (.int 6)]]))
  (seqS (ifS (orT (notT (truM (callM cf 15 [varM 2, lstM [constM (.bl true), constM (.bl false), constM (.int 5), tupM [constM (.int 1), constM (.int 3)], tupM [tupM [constM (.int 1), constM (.int 1)], tupM [constM (.int 5), constM (.int 6)]]]]))) (binM neD (callM cf 8 [tupM [constM (.int 2), constM (.int 3)]]) (constM (.int 5)) >>= asB)) ((retS (constM (.bl false)))) (pure .nx))
  (seqS (forS (srcF range1D [constM (.int 5)]) (nameG 3) ((ifS (notT (truM (callM cf 22 [varM 1, callM cf 20 [varM 1, constM (.int 6), callM cf 14 [varM 1, lstM [constM (.int 2), constM (.int 5), constM (.int 20)]]]]))) ((retS (constM (.bl false)))) (pure .nx))))
  (retS (constM (.bl true)))))))
def tab : List (CF → M RV) := [fun cf => runDef 1 (b_is_integer cf), fun cf => runDef 3 (b_is_within cf), fun cf => runDef 4 (b_are_within cf), fun cf => runDef 2 (b_common_part cf), fun cf => runDef 4 (b_fraction cf), fun cf => runDef 1 (b_is_pattern cf), fun cf => runDef 1 (b_check_pattern cf), fun cf => runDef 4 (b_signs_of cf), fun cf => runDef 1 (b_period cf), fun cf => runDef 2 (b_is_lit cf), fun cf => runDef 1 (b_lit_share cf), fun cf => runDef 6 (b_lit_spans cf), fun cf => runDef 3 (b_next_lit cf), fun cf => runDef 5 (b__law_draw cf), fun cf => runDef 2 (b__law_some cf), fun cf => runDef 4 (b__law_is cf), fun cf => runDef 3 (b__law_hand cf), fun cf => runDef 4 (b__law_low cf), fun cf => runDef 4 (b__law_seconds cf), fun cf => runDef 3 (b__law_is_root cf), fun cf => runDef 4 (b__law_pattern cf), fun cf => runDef 6 (b__law_spans cf), fun cf => runDef 12 (b__law_is_told_right cf), fun cf => runDef 4 (b_law cf)]
end Lw

namespace Lw
open PySem L2 VL PySem.Spec PyProof PyProof.Rows

theorem hu0 {n : Nat} (h : n + 65 < cLine) : n < cLine := by omega
theorem onlys_nil : ∀ g ∈ ([] : List (D → MS)), OnlyNx g := fun _ h => nomatch h
theorem onlys_cons {g : D → MS} {gs : List (D → MS)} (h : OnlyNx g) (hs : ∀ g ∈ gs, OnlyNx g) : ∀ k ∈ g :: gs, OnlyNx k := List.forall_mem_cons.mpr ⟨h, hs⟩
def top (i : Nat) : Stmt := PySem.Challenge.pw_tidequays_k12_whole_lights_second_by_sec.main.body.getD i (.Pass ⟨0, 0, 0, 0⟩)
def TT : List (Str × Nat) := [("is_integer", 1), ("is_within", 3), ("are_within", 3), ("common_part", 2), ("fraction", 2), ("is_pattern", 1), ("check_pattern", 1), ("signs_of", 1), ("period", 1), ("is_lit", 2), ("lit_share", 1), ("lit_spans", 3), ("next_lit", 2), ("_law_draw", 2), ("_law_some", 2), ("_law_is", 2), ("_law_hand", 1), ("_law_low", 2), ("_law_seconds", 1), ("_law_is_root", 1), ("_law_pattern", 3), ("_law_spans", 3), ("_law_is_told_right", 2), ("law", 1)]
structure Gm (mg : Str → Option Value) : Prop where
  z_isinstance : mg "isinstance" = none
  z_bool : mg "bool" = none
  z_int : mg "int" = none
  z_all : mg "all" = none
  z_tuple : mg "tuple" = none
  z_abs : mg "abs" = none
  z_len : mg "len" = none
  z_enumerate : mg "enumerate" = none
  z_sum : mg "sum" = none
  z_range : mg "range" = none
  z_str : mg "str" = none
  z_list : mg "list" = none
  z_zip : mg "zip" = none
  z_min : mg "min" = none
  c_MOST_PARTS : ∃ t, mg "MOST_PARTS" = some (.int 12 t)
  c_MOST_SECONDS : ∃ t, mg "MOST_SECONDS" = some (.int 20 t)
  c_MOST_SECOND : ∃ t, mg "MOST_SECOND" = some (.int 1000000 t)
  c_MOST_SPAN : ∃ t, mg "MOST_SPAN" = some (.int 1000 t)
abbrev st_is_integer : Stmt := top 1
theorem sc_is_integer : FnScope (["thing"] : List Str) (["thing"] : List Str) (defScope st_is_integer) := ⟨rfl, rfl, rfl, by decide +kernel, rfl, by decide +kernel, by decide +kernel⟩
set_option maxHeartbeats 4000000 in
theorem w_is_integer {P : Program} {w : World} {K : PySem.W.Frag} {mg : Str → Option Value} (G : Gm mg) {C : Cfg} {f : Addr} (base : Heap) (cf : CF) (cdv : Value) (A : Around) (outer : List PySem.Env) (s : Shared) (H : Hp) (E : XK) (vx : Vx (cxOf (L2.CX P w) P w K mg base (["thing"] : List Str) "is_integer" (defScope st_is_integer) f cdv A outer s H E) C (fun cls d _ H => E cls d H) cf TT) :
    VSs (cxOf (L2.CX P w) P w K mg base (["thing"] : List Str) "is_integer" (defScope st_is_integer) f cdv A outer s H E) C (fun cls d _ H => E cls d H) (defBody st_is_integer) (b_is_integer cf) := by
  unfold b_is_integer
  exact (vss_one (vs_ret (ve_and vx (ve_isi1 .int vx (by rfl) G.z_isinstance (va_cons (ve_var 0) (va_cons (ve_ty (by rfl) G.z_int (by rfl)) va_nil))) (ve_one (ve_not vx (ve_isi1 .bl vx (by rfl) G.z_isinstance (va_cons (ve_var 0) (va_cons (ve_ty (by rfl) G.z_bool (by rfl)) va_nil))))))))
abbrev st_is_within : Stmt := top 2
theorem sc_is_within : FnScope (["thing", "least", "most"] : List Str) (["thing", "least", "most"] : List Str) (defScope st_is_within) := ⟨rfl, rfl, rfl, by decide +kernel, rfl, by decide +kernel, by decide +kernel⟩
set_option maxHeartbeats 4000000 in
theorem w_is_within {P : Program} {w : World} {K : PySem.W.Frag} {mg : Str → Option Value} (G : Gm mg) {C : Cfg} {f : Addr} (base : Heap) (cf : CF) (cdv : Value) (A : Around) (outer : List PySem.Env) (s : Shared) (H : Hp) (E : XK) (vx : Vx (cxOf (L2.CX P w) P w K mg base (["thing", "least", "most"] : List Str) "is_within" (defScope st_is_within) f cdv A outer s H E) C (fun cls d _ H => E cls d H) cf TT) :
    VSs (cxOf (L2.CX P w) P w K mg base (["thing", "least", "most"] : List Str) "is_within" (defScope st_is_within) f cdv A outer s H E) C (fun cls d _ H => E cls d H) (defBody st_is_within) (b_is_within cf) := by
  unfold b_is_within
  exact (vss_one (vs_ret (ve_and vx (ve_call vx (i := 0) (np := 1) rfl (by rfl) (va_cons (ve_var 0) va_nil) rfl) (ve_one (ve_co2 o2_le o2_le (ve_var 1) (ve_var 0) (ve_var 2))))))
abbrev st_are_within : Stmt := top 3
theorem sc_are_within : FnScope (["thing", "least", "most", "one"] : List Str) (["thing", "least", "most"] : List Str) (defScope st_are_within) := ⟨rfl, rfl, rfl, by decide +kernel, rfl, by decide +kernel, by decide +kernel⟩
set_option maxHeartbeats 4000000 in
theorem w_are_within {P : Program} {w : World} {K : PySem.W.Frag} {mg : Str → Option Value} (G : Gm mg) {C : Cfg} {f : Addr} (base : Heap) (cf : CF) (cdv : Value) (A : Around) (outer : List PySem.Env) (s : Shared) (H : Hp) (E : XK) (vx : Vx (cxOf (L2.CX P w) P w K mg base (["thing", "least", "most", "one"] : List Str) "are_within" (defScope st_are_within) f cdv A outer s H E) C (fun cls d _ H => E cls d H) cf TT) :
    VSs (cxOf (L2.CX P w) P w K mg base (["thing", "least", "most", "one"] : List Str) "are_within" (defScope st_are_within) f cdv A outer s H E) C (fun cls d _ H => E cls d H) (defBody st_are_within) (b_are_within cf) := by
  unfold b_are_within
  exact (vss_one (vs_ret (ve_and vx (ve_isi1 .tup vx (by rfl) G.z_isinstance (va_cons (ve_var 0) (va_cons (ve_ty (by rfl) G.z_tuple (by rfl)) va_nil))) (ve_one (ve_cb (cn_all vx.K (cr_all vx.calm)) (by rfl) G.z_all (by rfl) (va_cons (ve_lc vx (own := [("one", 3)]) rfl (by decide) (vi_seq vx (ve_var 0)) (by show BlkOk (["thing", "least", "most", "one"] : List Str) (defScope st_are_within) _ _; exact ⟨rfl, by decide +kernel, by decide +kernel, by decide +kernel, by decide +kernel⟩) (fun s H P cl fp vx => ⟨(vc_one vx 3), vts_nil, (ve_call vx (i := 1) (np := 3) rfl (by rfl) (va_cons (ve_var 3) (va_cons (ve_var 1) (va_cons (ve_var 2) va_nil))) rfl)⟩)) va_nil))))))
abbrev st_common_part : Stmt := top 4
theorem sc_common_part : FnScope (["one", "other"] : List Str) (["one", "other"] : List Str) (defScope st_common_part) := ⟨rfl, rfl, rfl, by decide +kernel, rfl, by decide +kernel, by decide +kernel⟩
set_option maxHeartbeats 4000000 in
theorem w_common_part {P : Program} {w : World} {K : PySem.W.Frag} {mg : Str → Option Value} (G : Gm mg) {C : Cfg} {f : Addr} (base : Heap) (cf : CF) (cdv : Value) (A : Around) (outer : List PySem.Env) (s : Shared) (H : Hp) (E : XK) (vx : Vx (cxOf (L2.CX P w) P w K mg base (["one", "other"] : List Str) "common_part" (defScope st_common_part) f cdv A outer s H E) C (fun cls d _ H => E cls d H) cf TT) :
    VSs (cxOf (L2.CX P w) P w K mg base (["one", "other"] : List Str) "common_part" (defScope st_common_part) f cdv A outer s H E) C (fun cls d _ H => E cls d H) (defBody st_common_part) (b_common_part cf) := by
  unfold b_common_part
  exact (vss_cons (vs_while vx (vt_co (o2_ne vx.K vx.hu) (ve_var 1) ve_int) (vss_one (vs_par (i := 0) (j := 1) vx rfl rfl (by decide) rfl rfl (ve_var 1) (ve_bo o2_sub (ve_var 0) (ve_bo (o2_mul vx.K) (ve_var 1) (ve_bo o2_div (ve_var 0) (ve_var 1)))) rfl)))
  (vss_one (vs_ret (ve_cb cn_abs (by rfl) G.z_abs (by rfl) (va_cons (ve_var 0) va_nil)))))
abbrev st_fraction : Stmt := top 5
theorem sc_fraction : FnScope (["top", "bottom", "part", "sign"] : List Str) (["top", "bottom"] : List Str) (defScope st_fraction) := ⟨rfl, rfl, rfl, by decide +kernel, rfl, by decide +kernel, by decide +kernel⟩
set_option maxHeartbeats 4000000 in
theorem w_fraction {P : Program} {w : World} {K : PySem.W.Frag} {mg : Str → Option Value} (G : Gm mg) {C : Cfg} {f : Addr} (base : Heap) (cf : CF) (cdv : Value) (A : Around) (outer : List PySem.Env) (s : Shared) (H : Hp) (E : XK) (vx : Vx (cxOf (L2.CX P w) P w K mg base (["top", "bottom", "part", "sign"] : List Str) "fraction" (defScope st_fraction) f cdv A outer s H E) C (fun cls d _ H => E cls d H) cf TT) :
    VSs (cxOf (L2.CX P w) P w K mg base (["top", "bottom", "part", "sign"] : List Str) "fraction" (defScope st_fraction) f cdv A outer s H E) C (fun cls d _ H => E cls d H) (defBody st_fraction) (b_fraction cf) := by
  unfold b_fraction
  exact (vss_cons (vs_set (i := 2) vx rfl (by first | exact Or.inl rfl | exact Or.inr rfl) (ve_call vx (i := 3) (np := 2) rfl (by rfl) (va_cons (ve_var 1) (va_cons (ve_var 0) va_nil)) rfl))
  (vss_cons (vs_set (i := 3) vx rfl (by first | exact Or.inl rfl | exact Or.inr rfl) (ve_if (vt_co o2_gt (ve_var 1) ve_int) ve_int (ve_neg ve_int)))
  (vss_one (vs_ret (ve_tup (va_cons (ve_bo o2_div (ve_bo (o2_mul vx.K) (ve_var 3) (ve_var 0)) (ve_var 2)) (va_cons (ve_bo o2_div (ve_bo (o2_mul vx.K) (ve_var 3) (ve_var 1)) (ve_var 2)) va_nil)) (by show (2 : Nat) ≤ 1000; decide))))))
abbrev st_is_pattern : Stmt := top 15
theorem sc_is_pattern : FnScope (["thing"] : List Str) (["thing"] : List Str) (defScope st_is_pattern) := ⟨rfl, rfl, rfl, by decide +kernel, rfl, by decide +kernel, by decide +kernel⟩
set_option maxHeartbeats 4000000 in
theorem w_is_pattern {P : Program} {w : World} {K : PySem.W.Frag} {mg : Str → Option Value} (G : Gm mg) {C : Cfg} {f : Addr} (base : Heap) (cf : CF) (cdv : Value) (A : Around) (outer : List PySem.Env) (s : Shared) (H : Hp) (E : XK) (vx : Vx (cxOf (L2.CX P w) P w K mg base (["thing"] : List Str) "is_pattern" (defScope st_is_pattern) f cdv A outer s H E) C (fun cls d _ H => E cls d H) cf TT) :
    VSs (cxOf (L2.CX P w) P w K mg base (["thing"] : List Str) "is_pattern" (defScope st_is_pattern) f cdv A outer s H E) C (fun cls d _ H => E cls d H) (defBody st_is_pattern) (b_is_pattern cf) := by
  unfold b_is_pattern
  exact (vss_one (vs_ret (ve_and vx (ve_call vx (i := 2) (np := 3) rfl (by rfl) (va_cons (ve_var 0) (va_cons ve_int (va_cons (ve_gI (by rfl) G.c_MOST_SECONDS) va_nil))) rfl) (ve_and vx (ve_co2 o2_le o2_le ve_int (ve_cb (cn_len vx.K) (by rfl) G.z_len (by rfl) (va_cons (ve_var 0) va_nil)) (ve_gI (by rfl) G.c_MOST_PARTS)) (ve_one (ve_co (o2_eq vx.K vx.hu) (ve_bo o2_mod (ve_cb (cn_len vx.K) (by rfl) G.z_len (by rfl) (va_cons (ve_var 0) va_nil)) ve_int) ve_int))))))
abbrev st_check_pattern : Stmt := top 16
theorem sc_check_pattern : FnScope (["pattern"] : List Str) (["pattern"] : List Str) (defScope st_check_pattern) := ⟨rfl, rfl, rfl, by decide +kernel, rfl, by decide +kernel, by decide +kernel⟩
set_option maxHeartbeats 4000000 in
theorem w_check_pattern {P : Program} {w : World} {K : PySem.W.Frag} {mg : Str → Option Value} (G : Gm mg) {C : Cfg} {f : Addr} (base : Heap) (cf : CF) (cdv : Value) (A : Around) (outer : List PySem.Env) (s : Shared) (H : Hp) (E : XK) (vx : Vx (cxOf (L2.CX P w) P w K mg base (["pattern"] : List Str) "check_pattern" (defScope st_check_pattern) f cdv A outer s H E) C (fun cls d _ H => E cls d H) cf TT) :
    VSs (cxOf (L2.CX P w) P w K mg base (["pattern"] : List Str) "check_pattern" (defScope st_check_pattern) f cdv A outer s H E) C (fun cls d _ H => E cls d H) (defBody st_check_pattern) (b_check_pattern cf) := by
  unfold b_check_pattern
  exact (vss_one (vs_if (vt_not (vt_tru vx (ve_call vx (i := 5) (np := 1) rfl (by rfl) (va_cons (ve_var 0) va_nil) rfl))) (vss_one vs_never) vss_nil))
abbrev st_signs_of : Stmt := top 17
theorem sc_signs_of : FnScope (["pattern", "found", "number", "many"] : List Str) (["pattern"] : List Str) (defScope st_signs_of) := ⟨rfl, rfl, rfl, by decide +kernel, rfl, by decide +kernel, by decide +kernel⟩
set_option maxHeartbeats 4000000 in
theorem w_signs_of {P : Program} {w : World} {K : PySem.W.Frag} {mg : Str → Option Value} (G : Gm mg) {C : Cfg} {f : Addr} (base : Heap) (cf : CF) (cdv : Value) (A : Around) (outer : List PySem.Env) (s : Shared) (H : Hp) (E : XK) (vx : Vx (cxOf (L2.CX P w) P w K mg base (["pattern", "found", "number", "many"] : List Str) "signs_of" (defScope st_signs_of) f cdv A outer s H E) C (fun cls d _ H => E cls d H) cf TT) :
    VSs (cxOf (L2.CX P w) P w K mg base (["pattern", "found", "number", "many"] : List Str) "signs_of" (defScope st_signs_of) f cdv A outer s H E) C (fun cls d _ H => E cls d H) (defBody st_signs_of) (b_signs_of cf) := by
  unfold b_signs_of
  exact (vss_cons (vs_set (i := 1) vx rfl (by first | exact Or.inl rfl | exact Or.inr rfl) (ve_lst va_nil (by show (0 : Nat) ≤ 1000; decide)))
  (vss_cons (vs_for vx (vi_enum vx (by rfl) G.z_enumerate (va_cons (ve_var 0) va_nil)) (vg_tup vx (vgs_cons (vg_name vx 2) (vgs_cons (vg_name vx 3) vgs_nil))) (only_tup (onlys_cons only_name (onlys_cons only_name onlys_nil))) (vss_one (vs_expr (ve_ext (i := 1) rfl (ve_bo (o2_mul vx.K) (ve_lst (va_cons (ve_bo o2_sub ve_int (ve_bo o2_mod (ve_var 2) ve_int)) va_nil) (by show (1 : Nat) ≤ 1000; decide)) (ve_var 3))))))
  (vss_one (vs_ret (ve_var 1)))))
abbrev st_period : Stmt := top 18
theorem sc_period : FnScope (["pattern"] : List Str) (["pattern"] : List Str) (defScope st_period) := ⟨rfl, rfl, rfl, by decide +kernel, rfl, by decide +kernel, by decide +kernel⟩
set_option maxHeartbeats 4000000 in
theorem w_period {P : Program} {w : World} {K : PySem.W.Frag} {mg : Str → Option Value} (G : Gm mg) {C : Cfg} {f : Addr} (base : Heap) (cf : CF) (cdv : Value) (A : Around) (outer : List PySem.Env) (s : Shared) (H : Hp) (E : XK) (vx : Vx (cxOf (L2.CX P w) P w K mg base (["pattern"] : List Str) "period" (defScope st_period) f cdv A outer s H E) C (fun cls d _ H => E cls d H) cf TT) :
    VSs (cxOf (L2.CX P w) P w K mg base (["pattern"] : List Str) "period" (defScope st_period) f cdv A outer s H E) C (fun cls d _ H => E cls d H) (defBody st_period) (b_period cf) := by
  unfold b_period
  exact (vss_cons (vs_expr (ve_call vx (i := 6) (np := 1) rfl (by rfl) (va_cons (ve_var 0) va_nil) rfl))
  (vss_one (vs_ret (ve_cb (cn_sum vx.K vx.calm) (by rfl) G.z_sum (by rfl) (va_cons (ve_var 0) va_nil)))))
abbrev st_is_lit : Stmt := top 19
theorem sc_is_lit : FnScope (["pattern", "second"] : List Str) (["pattern", "second"] : List Str) (defScope st_is_lit) := ⟨rfl, rfl, rfl, by decide +kernel, rfl, by decide +kernel, by decide +kernel⟩
set_option maxHeartbeats 4000000 in
theorem w_is_lit {P : Program} {w : World} {K : PySem.W.Frag} {mg : Str → Option Value} (G : Gm mg) {C : Cfg} {f : Addr} (base : Heap) (cf : CF) (cdv : Value) (A : Around) (outer : List PySem.Env) (s : Shared) (H : Hp) (E : XK) (vx : Vx (cxOf (L2.CX P w) P w K mg base (["pattern", "second"] : List Str) "is_lit" (defScope st_is_lit) f cdv A outer s H E) C (fun cls d _ H => E cls d H) cf TT) :
    VSs (cxOf (L2.CX P w) P w K mg base (["pattern", "second"] : List Str) "is_lit" (defScope st_is_lit) f cdv A outer s H E) C (fun cls d _ H => E cls d H) (defBody st_is_lit) (b_is_lit cf) := by
  unfold b_is_lit
  exact (vss_cons (vs_expr (ve_call vx (i := 6) (np := 1) rfl (by rfl) (va_cons (ve_var 0) va_nil) rfl))
  (vss_cons (vs_if (vt_not (vt_tru vx (ve_call vx (i := 1) (np := 3) rfl (by rfl) (va_cons (ve_var 1) (va_cons ve_int (va_cons (ve_gI (by rfl) G.c_MOST_SECOND) va_nil))) rfl))) (vss_one vs_never) vss_nil)
  (vss_one (vs_ret (ve_co (o2_eq vx.K vx.hu) (ve_ix vx (ve_call vx (i := 7) (np := 1) rfl (by rfl) (va_cons (ve_var 0) va_nil) rfl) (ve_bo o2_mod (ve_var 1) (ve_cb (cn_sum vx.K vx.calm) (by rfl) G.z_sum (by rfl) (va_cons (ve_var 0) va_nil)))) ve_int)))))
abbrev st_lit_share : Stmt := top 20
theorem sc_lit_share : FnScope (["pattern"] : List Str) (["pattern"] : List Str) (defScope st_lit_share) := ⟨rfl, rfl, rfl, by decide +kernel, rfl, by decide +kernel, by decide +kernel⟩
set_option maxHeartbeats 4000000 in
theorem w_lit_share {P : Program} {w : World} {K : PySem.W.Frag} {mg : Str → Option Value} (G : Gm mg) {C : Cfg} {f : Addr} (base : Heap) (cf : CF) (cdv : Value) (A : Around) (outer : List PySem.Env) (s : Shared) (H : Hp) (E : XK) (vx : Vx (cxOf (L2.CX P w) P w K mg base (["pattern"] : List Str) "lit_share" (defScope st_lit_share) f cdv A outer s H E) C (fun cls d _ H => E cls d H) cf TT) :
    VSs (cxOf (L2.CX P w) P w K mg base (["pattern"] : List Str) "lit_share" (defScope st_lit_share) f cdv A outer s H E) C (fun cls d _ H => E cls d H) (defBody st_lit_share) (b_lit_share cf) := by
  unfold b_lit_share
  exact (vss_cons (vs_expr (ve_call vx (i := 6) (np := 1) rfl (by rfl) (va_cons (ve_var 0) va_nil) rfl))
  (vss_one (vs_ret (ve_call vx (i := 4) (np := 2) rfl (by rfl) (va_cons (ve_cb (cn_sum vx.K vx.calm) (by rfl) G.z_sum (by rfl) (va_cons (ve_step vx (ve_var 0) vo_none vo_none (vo_some ve_int)) va_nil)) (va_cons (ve_cb (cn_sum vx.K vx.calm) (by rfl) G.z_sum (by rfl) (va_cons (ve_var 0) va_nil)) va_nil)) rfl))))
abbrev st_lit_spans : Stmt := top 21
theorem sc_lit_spans : FnScope (["pattern", "begin", "end", "second", "signs", "found"] : List Str) (["pattern", "begin", "end"] : List Str) (defScope st_lit_spans) := ⟨rfl, rfl, rfl, by decide +kernel, rfl, by decide +kernel, by decide +kernel⟩
set_option maxHeartbeats 4000000 in
theorem w_lit_spans {P : Program} {w : World} {K : PySem.W.Frag} {mg : Str → Option Value} (G : Gm mg) {C : Cfg} {f : Addr} (base : Heap) (cf : CF) (cdv : Value) (A : Around) (outer : List PySem.Env) (s : Shared) (H : Hp) (E : XK) (vx : Vx (cxOf (L2.CX P w) P w K mg base (["pattern", "begin", "end", "second", "signs", "found"] : List Str) "lit_spans" (defScope st_lit_spans) f cdv A outer s H E) C (fun cls d _ H => E cls d H) cf TT) :
    VSs (cxOf (L2.CX P w) P w K mg base (["pattern", "begin", "end", "second", "signs", "found"] : List Str) "lit_spans" (defScope st_lit_spans) f cdv A outer s H E) C (fun cls d _ H => E cls d H) (defBody st_lit_spans) (b_lit_spans cf) := by
  unfold b_lit_spans
  exact (vss_cons (vs_expr (ve_call vx (i := 6) (np := 1) rfl (by rfl) (va_cons (ve_var 0) va_nil) rfl))
  (vss_cons (vs_for vx (vi_seq vx (ve_tup (va_cons (ve_var 1) (va_cons (ve_var 2) va_nil)) (by show (2 : Nat) ≤ 1000; decide))) (vg_name vx 3) only_name (vss_one (vs_if (vt_not (vt_tru vx (ve_call vx (i := 1) (np := 3) rfl (by rfl) (va_cons (ve_var 3) (va_cons ve_int (va_cons (ve_gI (by rfl) G.c_MOST_SPAN) va_nil))) rfl))) (vss_one vs_never) vss_nil)))
  (vss_cons (vs_par (i := 4) (j := 5) vx rfl rfl (by decide) rfl rfl (ve_call vx (i := 7) (np := 1) rfl (by rfl) (va_cons (ve_var 0) va_nil) rfl) (ve_lst va_nil (by show (0 : Nat) ≤ 1000; decide)) rfl)
  (vss_cons (vs_for vx (vi_range2 (by rfl) G.z_range (va_cons (ve_var 1) (va_cons (ve_bo (o2_add vx.K) (ve_var 2) ve_int) va_nil))) (vg_name vx 3) only_name (vss_one (vs_if (vt_co (o2_eq vx.K vx.hu) (ve_ix vx (ve_var 4) (ve_bo o2_mod (ve_var 3) (ve_cb (cn_len vx.K) (by rfl) G.z_len (by rfl) (va_cons (ve_var 4) va_nil)))) ve_int) (vss_one (vs_if (vw_and (vt_co o2_gt (ve_cb (cn_len vx.K) (by rfl) G.z_len (by rfl) (va_cons (ve_var 5) va_nil)) ve_int) (vw_and1 (vt_co (o2_eq vx.K vx.hu) (ve_ix vx (ve_ix vx (ve_var 5) (ve_neg ve_int)) ve_int) (ve_bo o2_sub (ve_var 3) ve_int)))).vt (vss_one (vs_asg (ve_tup (va_cons (ve_ix vx (ve_ix vx (ve_var 5) (ve_neg ve_int)) ve_int) (va_cons (ve_var 3) va_nil)) (by show (2 : Nat) ≤ 1000; decide)) (vg_ix (i := 5) rfl (ve_neg ve_int)) only_ix)) (vss_one (vs_expr (ve_app (i := 5) rfl (ve_tup (va_cons (ve_var 3) (va_cons (ve_var 3) va_nil)) (by show (2 : Nat) ≤ 1000; decide))))))) vss_nil)))
  (vss_one (vs_ret (ve_ct (cn_tuple vx.K) (by rfl) G.z_tuple (by rfl) (va_cons (ve_var 5) va_nil))))))))
abbrev st_next_lit : Stmt := top 22
theorem sc_next_lit : FnScope (["pattern", "second", "signs"] : List Str) (["pattern", "second"] : List Str) (defScope st_next_lit) := ⟨rfl, rfl, rfl, by decide +kernel, rfl, by decide +kernel, by decide +kernel⟩
set_option maxHeartbeats 4000000 in
theorem w_next_lit {P : Program} {w : World} {K : PySem.W.Frag} {mg : Str → Option Value} (G : Gm mg) {C : Cfg} {f : Addr} (base : Heap) (cf : CF) (cdv : Value) (A : Around) (outer : List PySem.Env) (s : Shared) (H : Hp) (E : XK) (vx : Vx (cxOf (L2.CX P w) P w K mg base (["pattern", "second", "signs"] : List Str) "next_lit" (defScope st_next_lit) f cdv A outer s H E) C (fun cls d _ H => E cls d H) cf TT) :
    VSs (cxOf (L2.CX P w) P w K mg base (["pattern", "second", "signs"] : List Str) "next_lit" (defScope st_next_lit) f cdv A outer s H E) C (fun cls d _ H => E cls d H) (defBody st_next_lit) (b_next_lit cf) := by
  unfold b_next_lit
  exact (vss_cons (vs_expr (ve_call vx (i := 6) (np := 1) rfl (by rfl) (va_cons (ve_var 0) va_nil) rfl))
  (vss_cons (vs_if (vt_not (vt_tru vx (ve_call vx (i := 1) (np := 3) rfl (by rfl) (va_cons (ve_var 1) (va_cons ve_int (va_cons (ve_gI (by rfl) G.c_MOST_SECOND) va_nil))) rfl))) (vss_one vs_never) vss_nil)
  (vss_cons (vs_set (i := 2) vx rfl (by first | exact Or.inl rfl | exact Or.inr rfl) (ve_call vx (i := 7) (np := 1) rfl (by rfl) (va_cons (ve_var 0) va_nil) rfl))
  (vss_cons (vs_while vx (vt_co (o2_eq vx.K vx.hu) (ve_ix vx (ve_var 2) (ve_bo o2_mod (ve_var 1) (ve_cb (cn_len vx.K) (by rfl) G.z_len (by rfl) (va_cons (ve_var 2) va_nil)))) ve_int) (vss_one (vs_aug (i := 1) vx rfl (by first | exact Or.inl rfl | exact Or.inr rfl) ip_add p2_addI ve_int)))
  (vss_one (vs_ret (ve_var 1)))))))
abbrev st__law_draw : Stmt := top 24
theorem sc__law_draw : FnScope (["hand", "span", "number", "cell", "digit"] : List Str) (["hand", "span"] : List Str) (defScope st__law_draw) := ⟨rfl, rfl, rfl, by decide +kernel, rfl, by decide +kernel, by decide +kernel⟩
set_option maxHeartbeats 4000000 in
theorem w__law_draw {P : Program} {w : World} {K : PySem.W.Frag} {mg : Str → Option Value} (G : Gm mg) {C : Cfg} {f : Addr} (base : Heap) (cf : CF) (cdv : Value) (A : Around) (outer : List PySem.Env) (s : Shared) (H : Hp) (E : XK) (vx : Vx (cxOf (L2.CX P w) P w K mg base (["hand", "span", "number", "cell", "digit"] : List Str) "_law_draw" (defScope st__law_draw) f cdv A outer s H E) C (fun cls d _ H => E cls d H) cf TT) :
    VSs (cxOf (L2.CX P w) P w K mg base (["hand", "span", "number", "cell", "digit"] : List Str) "_law_draw" (defScope st__law_draw) f cdv A outer s H E) C (fun cls d _ H => E cls d H) (defBody st__law_draw) (b__law_draw cf) := by
  unfold b__law_draw
  exact (vss_cons (vs_if (vw_and (vt_co (o2_eq vx.K vx.hu) (ve_ix vx (ve_var 0) ve_int) ve_int) (vw_and1 (vt_co (o2_lt vx.K (hu0 vx.hu)) (ve_ix vx (ve_var 0) ve_int) (ve_cb (cn_len vx.K) (by rfl) G.z_len (by rfl) (va_cons (ve_ix vx (ve_var 0) ve_int) va_nil))))).vt (vss_cons (vs_set (i := 3) vx rfl (by first | exact Or.inl rfl | exact Or.inr rfl) (ve_ix vx (ve_ix vx (ve_var 0) ve_int) (ve_ix vx (ve_var 0) ve_int)))
  (vss_cons (vs_asg (ve_bo (o2_add vx.K) (ve_ix vx (ve_var 0) ve_int) ve_int) (vg_ix (i := 0) rfl ve_int) only_ix)
  (vss_cons (vs_asg (ve_bo o2_mod (ve_ct cn_int (by rfl) G.z_int (by rfl) (va_cons (ve_bo (o2_add vx.K) (ve_bo (o2_add vx.K) (ve_bo (o2_mul vx.K) (ve_ix vx (ve_var 0) ve_int) ve_int) (ve_var 3)) ve_int) va_nil)) ve_int) (vg_ix (i := 0) rfl ve_int) only_ix)
  (vss_one (vs_if (vt_co o2_ge (ve_var 3) (ve_bo o2_pow ve_int ve_int)) (vss_one (vs_asg (ve_var 3) (vg_ix (i := 0) rfl ve_int) only_ix)) vss_nil))))) vss_nil)
  (vss_cons (vs_if (vt_co o2_gt (ve_ix vx (ve_var 0) ve_int) ve_int) (vss_cons (vs_set (i := 4) vx rfl (by first | exact Or.inl rfl | exact Or.inr rfl) (ve_bo o2_mod (ve_ct cn_int (by rfl) G.z_int (by rfl) (va_cons (ve_ix vx (ve_var 0) ve_int) va_nil)) (ve_var 1)))
  (vss_cons (vs_asg (ve_bo o2_div (ve_ix vx (ve_var 0) ve_int) (ve_var 1)) (vg_ix (i := 0) rfl ve_int) only_ix)
  (vss_one (vs_ret (ve_var 4))))) vss_nil)
  (vss_cons (vs_asg (ve_bo (o2_add vx.K) (ve_ix vx (ve_var 0) ve_int) ve_int) (vg_ix (i := 0) rfl ve_int) only_ix)
  (vss_cons (vs_set (i := 2) vx rfl (by first | exact Or.inl rfl | exact Or.inr rfl) (ve_bo o2_mod (ve_ct cn_int (by rfl) G.z_int (by rfl) (va_cons (ve_bo (o2_mul vx.K) (ve_ct cn_int (by rfl) G.z_int (by rfl) (va_cons (ve_bo (o2_add vx.K) (ve_ix vx (ve_var 0) ve_int) (ve_bo (o2_mul vx.K) ve_int (ve_ix vx (ve_var 0) ve_int))) va_nil)) ve_int) va_nil)) ve_int))
  (vss_cons (vs_set (i := 2) vx rfl (by first | exact Or.inl rfl | exact Or.inr rfl) (ve_bo o2_mod (ve_ct cn_int (by rfl) G.z_int (by rfl) (va_cons (ve_bo (o2_mul vx.K) (ve_var 2) (ve_bo (o2_add vx.K) (ve_bo o2_div (ve_var 2) ve_int) ve_int)) va_nil)) ve_int))
  (vss_cons (vs_set (i := 2) vx rfl (by first | exact Or.inl rfl | exact Or.inr rfl) (ve_bo o2_mod (ve_ct cn_int (by rfl) G.z_int (by rfl) (va_cons (ve_bo (o2_mul vx.K) (ve_var 2) (ve_bo (o2_add vx.K) (ve_bo o2_div (ve_var 2) ve_int) ve_int)) va_nil)) ve_int))
  (vss_one (vs_ret (ve_bo o2_mod (ve_ct cn_int (by rfl) G.z_int (by rfl) (va_cons (ve_bo o2_div (ve_var 2) ve_int) va_nil)) (ve_var 1))))))))))
abbrev st__law_some : Stmt := top 25
theorem sc__law_some : FnScope (["hand", "things"] : List Str) (["hand", "things"] : List Str) (defScope st__law_some) := ⟨rfl, rfl, rfl, by decide +kernel, rfl, by decide +kernel, by decide +kernel⟩
set_option maxHeartbeats 4000000 in
theorem w__law_some {P : Program} {w : World} {K : PySem.W.Frag} {mg : Str → Option Value} (G : Gm mg) {C : Cfg} {f : Addr} (base : Heap) (cf : CF) (cdv : Value) (A : Around) (outer : List PySem.Env) (s : Shared) (H : Hp) (E : XK) (vx : Vx (cxOf (L2.CX P w) P w K mg base (["hand", "things"] : List Str) "_law_some" (defScope st__law_some) f cdv A outer s H E) C (fun cls d _ H => E cls d H) cf TT) :
    VSs (cxOf (L2.CX P w) P w K mg base (["hand", "things"] : List Str) "_law_some" (defScope st__law_some) f cdv A outer s H E) C (fun cls d _ H => E cls d H) (defBody st__law_some) (b__law_some cf) := by
  unfold b__law_some
  exact (vss_one (vs_ret (ve_ix vx (ve_var 1) (ve_call vx (i := 13) (np := 2) rfl (by rfl) (va_cons (ve_var 0) (va_cons (ve_cb (cn_len vx.K) (by rfl) G.z_len (by rfl) (va_cons (ve_var 1) va_nil)) va_nil)) rfl))))
abbrev st__law_is : Stmt := top 26
theorem sc__law_is : FnScope (["thing", "due", "one", "other"] : List Str) (["thing", "due"] : List Str) (defScope st__law_is) := ⟨rfl, rfl, rfl, by decide +kernel, rfl, by decide +kernel, by decide +kernel⟩
set_option maxHeartbeats 4000000 in
theorem w__law_is {P : Program} {w : World} {K : PySem.W.Frag} {mg : Str → Option Value} (G : Gm mg) {C : Cfg} {f : Addr} (base : Heap) (cf : CF) (cdv : Value) (A : Around) (outer : List PySem.Env) (s : Shared) (H : Hp) (E : XK) (vx : Vx (cxOf (L2.CX P w) P w K mg base (["thing", "due", "one", "other"] : List Str) "_law_is" (defScope st__law_is) f cdv A outer s H E) C (fun cls d _ H => E cls d H) cf TT) :
    VSs (cxOf (L2.CX P w) P w K mg base (["thing", "due", "one", "other"] : List Str) "_law_is" (defScope st__law_is) f cdv A outer s H E) C (fun cls d _ H => E cls d H) (defBody st__law_is) (b__law_is cf) := by
  unfold b__law_is
  exact (vss_cons (vs_if (vt_tru vx (ve_isiN [.tup, .lst] vx (by rfl) G.z_isinstance (va_cons (ve_var 1) (va_cons (ve_tup (va_cons (ve_ty (by rfl) G.z_tuple (by rfl)) (va_cons (ve_ty (by rfl) G.z_list (by rfl)) va_nil))) va_nil)))) (vss_cons (vs_if (vw_or (vt_co (o2_ne vx.K vx.hu) (ve_isi1 .tup vx (by rfl) G.z_isinstance (va_cons (ve_var 0) (va_cons (ve_ty (by rfl) G.z_tuple (by rfl)) va_nil))) (ve_isi1 .tup vx (by rfl) G.z_isinstance (va_cons (ve_var 1) (va_cons (ve_ty (by rfl) G.z_tuple (by rfl)) va_nil)))) (vw_or1 (vt_co (o2_ne vx.K vx.hu) (ve_isi1 .lst vx (by rfl) G.z_isinstance (va_cons (ve_var 0) (va_cons (ve_ty (by rfl) G.z_list (by rfl)) va_nil))) (ve_isi1 .lst vx (by rfl) G.z_isinstance (va_cons (ve_var 1) (va_cons (ve_ty (by rfl) G.z_list (by rfl)) va_nil)))))).vt (vss_one (vs_ret ve_bl)) vss_nil)
  (vss_one (vs_ret (ve_and vx (ve_co (o2_eq vx.K vx.hu) (ve_cb (cn_len vx.K) (by rfl) G.z_len (by rfl) (va_cons (ve_var 0) va_nil)) (ve_cb (cn_len vx.K) (by rfl) G.z_len (by rfl) (va_cons (ve_var 1) va_nil))) (ve_one (ve_cb (cn_all vx.K (cr_all vx.calm)) (by rfl) G.z_all (by rfl) (va_cons (ve_lc vx (own := [("one", 2), ("other", 3)]) rfl (by decide) (vi_zip vx (by rfl) G.z_zip (va_cons (ve_var 0) (va_cons (ve_var 1) va_nil))) (by show BlkOk (["thing", "due", "one", "other"] : List Str) (defScope st__law_is) _ _; exact ⟨rfl, by decide +kernel, by decide +kernel, by decide +kernel, by decide +kernel⟩) (fun s H P cl fp vx => ⟨(vc_many vx (vcs_cons vx 2 (vcs_cons vx 3 vcs_nil))), vts_nil, (ve_call vx (i := 15) (np := 2) rfl (by rfl) (va_cons (ve_var 2) (va_cons (ve_var 3) va_nil)) rfl)⟩)) va_nil))))))) vss_nil)
  (vss_cons (vs_if (vw_or (vt_co o2_is (ve_var 1) ve_non) (vw_or1 (vt_co o2_is (ve_var 0) ve_non))).vt (vss_one (vs_ret (ve_and vx (ve_co o2_is (ve_var 1) ve_non) (ve_one (ve_co o2_is (ve_var 0) ve_non))))) vss_nil)
  (vss_cons (vs_if (vw_or (vt_co (o2_ne vx.K vx.hu) (ve_isi1 .bl vx (by rfl) G.z_isinstance (va_cons (ve_var 0) (va_cons (ve_ty (by rfl) G.z_bool (by rfl)) va_nil))) (ve_isi1 .bl vx (by rfl) G.z_isinstance (va_cons (ve_var 1) (va_cons (ve_ty (by rfl) G.z_bool (by rfl)) va_nil)))) (vw_or1 (vt_co (o2_ne vx.K vx.hu) (ve_isi1 .int vx (by rfl) G.z_isinstance (va_cons (ve_var 0) (va_cons (ve_ty (by rfl) G.z_int (by rfl)) va_nil))) (ve_isi1 .int vx (by rfl) G.z_isinstance (va_cons (ve_var 1) (va_cons (ve_ty (by rfl) G.z_int (by rfl)) va_nil)))))).vt (vss_one (vs_ret ve_bl)) vss_nil)
  (vss_one (vs_ret (ve_and vx (ve_co (o2_eq vx.K vx.hu) (ve_isi1 .str vx (by rfl) G.z_isinstance (va_cons (ve_var 0) (va_cons (ve_ty (by rfl) G.z_str (by rfl)) va_nil))) (ve_isi1 .str vx (by rfl) G.z_isinstance (va_cons (ve_var 1) (va_cons (ve_ty (by rfl) G.z_str (by rfl)) va_nil)))) (ve_one (ve_co (o2_eq vx.K vx.hu) (ve_var 0) (ve_var 1)))))))))
abbrev st__law_hand : Stmt := top 27
theorem sc__law_hand : FnScope (["script", "cells", "cell"] : List Str) (["script"] : List Str) (defScope st__law_hand) := ⟨rfl, rfl, rfl, by decide +kernel, rfl, by decide +kernel, by decide +kernel⟩
set_option maxHeartbeats 4000000 in
theorem w__law_hand {P : Program} {w : World} {K : PySem.W.Frag} {mg : Str → Option Value} (G : Gm mg) {C : Cfg} {f : Addr} (base : Heap) (cf : CF) (cdv : Value) (A : Around) (outer : List PySem.Env) (s : Shared) (H : Hp) (E : XK) (vx : Vx (cxOf (L2.CX P w) P w K mg base (["script", "cells", "cell"] : List Str) "_law_hand" (defScope st__law_hand) f cdv A outer s H E) C (fun cls d _ H => E cls d H) cf TT) :
    VSs (cxOf (L2.CX P w) P w K mg base (["script", "cells", "cell"] : List Str) "_law_hand" (defScope st__law_hand) f cdv A outer s H E) C (fun cls d _ H => E cls d H) (defBody st__law_hand) (b__law_hand cf) := by
  unfold b__law_hand
  exact (vss_cons (vs_setLc (i := 1) vx rfl rfl rfl (own := [("cell", 2)]) rfl (by decide) (vi_seq vx (ve_sl vx (ve_var 0) vo_none (vo_some ve_int))) (by show BlkOk (["script", "cells", "cell"] : List Str) (defScope st__law_hand) _ _; exact ⟨rfl, by decide +kernel, by decide +kernel, by decide +kernel, by decide +kernel⟩) (fun s H P cl fp vx => ⟨(vc_one vx 2), vts_nil, (ve_cb cn_abs (by rfl) G.z_abs (by rfl) (va_cons (ve_ct cn_int (by rfl) G.z_int (by rfl) (va_cons (ve_var 2) va_nil)) va_nil))⟩))
  (vss_one (vs_ret (ve_lst (va_cons (ve_var 1) (va_cons ve_int (va_cons ve_int (va_cons (ve_bo (o2_add vx.K) ve_int (ve_bo (o2_mul vx.K) ve_int (ve_cb (cn_len vx.K) (by rfl) G.z_len (by rfl) (va_cons (ve_var 1) va_nil)))) (va_cons ve_int va_nil))))) (by show (5 : Nat) ≤ 1000; decide)))))
abbrev st__law_low : Stmt := top 28
theorem sc__law_low : FnScope (["top", "bottom", "other", "one"] : List Str) (["top", "bottom"] : List Str) (defScope st__law_low) := ⟨rfl, rfl, rfl, by decide +kernel, rfl, by decide +kernel, by decide +kernel⟩
set_option maxHeartbeats 4000000 in
theorem w__law_low {P : Program} {w : World} {K : PySem.W.Frag} {mg : Str → Option Value} (G : Gm mg) {C : Cfg} {f : Addr} (base : Heap) (cf : CF) (cdv : Value) (A : Around) (outer : List PySem.Env) (s : Shared) (H : Hp) (E : XK) (vx : Vx (cxOf (L2.CX P w) P w K mg base (["top", "bottom", "other", "one"] : List Str) "_law_low" (defScope st__law_low) f cdv A outer s H E) C (fun cls d _ H => E cls d H) cf TT) :
    VSs (cxOf (L2.CX P w) P w K mg base (["top", "bottom", "other", "one"] : List Str) "_law_low" (defScope st__law_low) f cdv A outer s H E) C (fun cls d _ H => E cls d H) (defBody st__law_low) (b__law_low cf) := by
  unfold b__law_low
  exact (vss_cons (vs_par (i := 3) (j := 2) vx rfl rfl (by decide) rfl rfl (ve_cb cn_abs (by rfl) G.z_abs (by rfl) (va_cons (ve_var 0) va_nil)) (ve_cb cn_abs (by rfl) G.z_abs (by rfl) (va_cons (ve_var 1) va_nil)) rfl)
  (vss_cons (vs_while vx (vt_co o2_gt (ve_var 3) ve_int) (vss_one (vs_par (i := 3) (j := 2) vx rfl rfl (by decide) rfl rfl (ve_bo o2_mod (ve_ct cn_int (by rfl) G.z_int (by rfl) (va_cons (ve_var 2) va_nil)) (ve_var 3)) (ve_var 3) rfl)))
  (vss_cons (vs_set (i := 2) vx rfl (by first | exact Or.inl rfl | exact Or.inr rfl) (ve_if (vt_co o2_gt (ve_var 1) ve_int) (ve_var 2) (ve_bo o2_sub ve_int (ve_var 2))))
  (vss_one (vs_ret (ve_tup (va_cons (ve_bo o2_div (ve_var 0) (ve_var 2)) (va_cons (ve_bo o2_div (ve_var 1) (ve_var 2)) va_nil)) (by show (2 : Nat) ≤ 1000; decide)))))))
abbrev st__law_seconds : Stmt := top 29
theorem sc__law_seconds : FnScope (["pattern", "found", "spot", "many"] : List Str) (["pattern"] : List Str) (defScope st__law_seconds) := ⟨rfl, rfl, rfl, by decide +kernel, rfl, by decide +kernel, by decide +kernel⟩
set_option maxHeartbeats 4000000 in
theorem w__law_seconds {P : Program} {w : World} {K : PySem.W.Frag} {mg : Str → Option Value} (G : Gm mg) {C : Cfg} {f : Addr} (base : Heap) (cf : CF) (cdv : Value) (A : Around) (outer : List PySem.Env) (s : Shared) (H : Hp) (E : XK) (vx : Vx (cxOf (L2.CX P w) P w K mg base (["pattern", "found", "spot", "many"] : List Str) "_law_seconds" (defScope st__law_seconds) f cdv A outer s H E) C (fun cls d _ H => E cls d H) cf TT) :
    VSs (cxOf (L2.CX P w) P w K mg base (["pattern", "found", "spot", "many"] : List Str) "_law_seconds" (defScope st__law_seconds) f cdv A outer s H E) C (fun cls d _ H => E cls d H) (defBody st__law_seconds) (b__law_seconds cf) := by
  unfold b__law_seconds
  exact (vss_cons (vs_set (i := 1) vx rfl (by first | exact Or.inl rfl | exact Or.inr rfl) (ve_lst va_nil (by show (0 : Nat) ≤ 1000; decide)))
  (vss_cons (vs_for vx (vi_enum vx (by rfl) G.z_enumerate (va_cons (ve_var 0) va_nil)) (vg_tup vx (vgs_cons (vg_name vx 2) (vgs_cons (vg_name vx 3) vgs_nil))) (only_tup (onlys_cons only_name (onlys_cons only_name onlys_nil))) (vss_one (vs_set (i := 1) vx rfl (by first | exact Or.inl rfl | exact Or.inr rfl) (ve_bo (o2_add vx.K) (ve_var 1) (ve_bo (o2_mul vx.K) (ve_lst (va_cons (ve_bo o2_mod (ve_ct cn_int (by rfl) G.z_int (by rfl) (va_cons (ve_bo (o2_add vx.K) (ve_var 2) ve_int) va_nil)) ve_int) va_nil) (by show (1 : Nat) ≤ 1000; decide)) (ve_var 3))))))
  (vss_one (vs_ret (ve_var 1)))))
abbrev st__law_is_root : Stmt := top 30
theorem sc__law_is_root : FnScope (["pattern", "many", "size"] : List Str) (["pattern"] : List Str) (defScope st__law_is_root) := ⟨rfl, rfl, rfl, by decide +kernel, rfl, by decide +kernel, by decide +kernel⟩
set_option maxHeartbeats 4000000 in
theorem w__law_is_root {P : Program} {w : World} {K : PySem.W.Frag} {mg : Str → Option Value} (G : Gm mg) {C : Cfg} {f : Addr} (base : Heap) (cf : CF) (cdv : Value) (A : Around) (outer : List PySem.Env) (s : Shared) (H : Hp) (E : XK) (vx : Vx (cxOf (L2.CX P w) P w K mg base (["pattern", "many", "size"] : List Str) "_law_is_root" (defScope st__law_is_root) f cdv A outer s H E) C (fun cls d _ H => E cls d H) cf TT) :
    VSs (cxOf (L2.CX P w) P w K mg base (["pattern", "many", "size"] : List Str) "_law_is_root" (defScope st__law_is_root) f cdv A outer s H E) C (fun cls d _ H => E cls d H) (defBody st__law_is_root) (b__law_is_root cf) := by
  unfold b__law_is_root
  exact (vss_cons (vs_set (i := 1) vx rfl (by first | exact Or.inl rfl | exact Or.inr rfl) (ve_cb (cn_len vx.K) (by rfl) G.z_len (by rfl) (va_cons (ve_var 0) va_nil)))
  (vss_cons (vs_for vx (vi_range3 (by rfl) G.z_range (va_cons ve_int (va_cons (ve_var 1) (va_cons ve_int va_nil)))) (vg_name vx 2) only_name (vss_one (vs_if (vw_and (vt_co (o2_eq vx.K vx.hu) (ve_bo o2_mod (ve_ct cn_int (by rfl) G.z_int (by rfl) (va_cons (ve_var 1) va_nil)) (ve_var 2)) ve_int) (vw_and1 (vt_co (o2_eq vx.K vx.hu) (ve_var 0) (ve_bo (o2_mul vx.K) (ve_sl vx (ve_var 0) vo_none (vo_some (ve_var 2))) (ve_bo o2_div (ve_var 1) (ve_var 2)))))).vt (vss_one (vs_ret ve_bl)) vss_nil)))
  (vss_one (vs_ret ve_bl))))
abbrev st__law_pattern : Stmt := top 31
theorem sc__law_pattern : FnScope (["hand", "pairs", "most", "spot"] : List Str) (["hand", "pairs", "most"] : List Str) (defScope st__law_pattern) := ⟨rfl, rfl, rfl, by decide +kernel, rfl, by decide +kernel, by decide +kernel⟩
set_option maxHeartbeats 4000000 in
theorem w__law_pattern {P : Program} {w : World} {K : PySem.W.Frag} {mg : Str → Option Value} (G : Gm mg) {C : Cfg} {f : Addr} (base : Heap) (cf : CF) (cdv : Value) (A : Around) (outer : List PySem.Env) (s : Shared) (H : Hp) (E : XK) (vx : Vx (cxOf (L2.CX P w) P w K mg base (["hand", "pairs", "most", "spot"] : List Str) "_law_pattern" (defScope st__law_pattern) f cdv A outer s H E) C (fun cls d _ H => E cls d H) cf TT) :
    VSs (cxOf (L2.CX P w) P w K mg base (["hand", "pairs", "most", "spot"] : List Str) "_law_pattern" (defScope st__law_pattern) f cdv A outer s H E) C (fun cls d _ H => E cls d H) (defBody st__law_pattern) (b__law_pattern cf) := by
  unfold b__law_pattern
  exact (vss_one (vs_ret (ve_ct (cn_tuple vx.K) (by rfl) G.z_tuple (by rfl) (va_cons (ve_lc vx (own := [("spot", 3)]) rfl (by decide) (vi_range1 (by rfl) G.z_range (va_cons (ve_bo (o2_add vx.K) ve_int (ve_bo (o2_mul vx.K) ve_int (ve_call vx (i := 13) (np := 2) rfl (by rfl) (va_cons (ve_var 0) (va_cons (ve_var 1) va_nil)) rfl))) va_nil)) (by show BlkOk (["hand", "pairs", "most", "spot"] : List Str) (defScope st__law_pattern) _ _; exact ⟨rfl, by decide +kernel, by decide +kernel, by decide +kernel, by decide +kernel⟩) (fun s H P cl fp vx => ⟨(vc_one vx 3), vts_nil, (ve_bo (o2_add vx.K) ve_int (ve_call vx (i := 13) (np := 2) rfl (by rfl) (va_cons (ve_var 0) (va_cons (ve_var 2) va_nil)) rfl))⟩)) va_nil))))
abbrev st__law_spans : Stmt := top 32
theorem sc__law_spans : FnScope (["round_of", "first", "last", "second", "found", "size"] : List Str) (["round_of", "first", "last"] : List Str) (defScope st__law_spans) := ⟨rfl, rfl, rfl, by decide +kernel, rfl, by decide +kernel, by decide +kernel⟩
set_option maxHeartbeats 4000000 in
theorem w__law_spans {P : Program} {w : World} {K : PySem.W.Frag} {mg : Str → Option Value} (G : Gm mg) {C : Cfg} {f : Addr} (base : Heap) (cf : CF) (cdv : Value) (A : Around) (outer : List PySem.Env) (s : Shared) (H : Hp) (E : XK) (vx : Vx (cxOf (L2.CX P w) P w K mg base (["round_of", "first", "last", "second", "found", "size"] : List Str) "_law_spans" (defScope st__law_spans) f cdv A outer s H E) C (fun cls d _ H => E cls d H) cf TT) :
    VSs (cxOf (L2.CX P w) P w K mg base (["round_of", "first", "last", "second", "found", "size"] : List Str) "_law_spans" (defScope st__law_spans) f cdv A outer s H E) C (fun cls d _ H => E cls d H) (defBody st__law_spans) (b__law_spans cf) := by
  unfold b__law_spans
  exact (vss_cons (vs_par (i := 4) (j := 5) vx rfl rfl (by decide) rfl rfl (ve_lst va_nil (by show (0 : Nat) ≤ 1000; decide)) (ve_cb (cn_len vx.K) (by rfl) G.z_len (by rfl) (va_cons (ve_var 0) va_nil)) rfl)
  (vss_cons (vs_for vx (vi_range2 (by rfl) G.z_range (va_cons (ve_var 1) (va_cons (ve_bo (o2_add vx.K) (ve_var 2) ve_int) va_nil))) (vg_name vx 3) only_name (vss_one (vs_if (vt_co (o2_eq vx.K vx.hu) (ve_ix vx (ve_var 0) (ve_bo o2_mod (ve_ct cn_int (by rfl) G.z_int (by rfl) (va_cons (ve_var 3) va_nil)) (ve_var 5))) ve_int) (vss_one (vs_if (vw_and (vt_co (o2_ne vx.K vx.hu) (ve_var 4) (ve_lst va_nil (by show (0 : Nat) ≤ 1000; decide))) (vw_and1 (vt_co (o2_eq vx.K vx.hu) (ve_ix vx (ve_ix vx (ve_var 4) (ve_neg ve_int)) ve_int) (ve_bo o2_sub (ve_var 3) ve_int)))).vt (vss_one (vs_asg (ve_tup (va_cons (ve_ix vx (ve_ix vx (ve_var 4) (ve_neg ve_int)) ve_int) (va_cons (ve_var 3) va_nil)) (by show (2 : Nat) ≤ 1000; decide)) (vg_ix (i := 4) rfl (ve_neg ve_int)) only_ix)) (vss_one (vs_expr (ve_app (i := 4) rfl (ve_tup (va_cons (ve_var 3) (va_cons (ve_var 3) va_nil)) (by show (2 : Nat) ≤ 1000; decide))))))) vss_nil)))
  (vss_one (vs_ret (ve_ct (cn_tuple vx.K) (by rfl) G.z_tuple (by rfl) (va_cons (ve_var 4) va_nil))))))
abbrev st__law_is_told_right : Stmt := top 33
theorem sc__law_is_told_right : FnScope (["hand", "pattern", "round_of", "size", "second", "first", "last", "lit", "later", "more", "one", "two"] : List Str) (["hand", "pattern"] : List Str) (defScope st__law_is_told_right) := ⟨rfl, rfl, rfl, by decide +kernel, rfl, by decide +kernel, by decide +kernel⟩
set_option maxHeartbeats 4000000 in
theorem w__law_is_told_right {P : Program} {w : World} {K : PySem.W.Frag} {mg : Str → Option Value} (G : Gm mg) {C : Cfg} {f : Addr} (base : Heap) (cf : CF) (cdv : Value) (A : Around) (outer : List PySem.Env) (s : Shared) (H : Hp) (E : XK) (vx : Vx (cxOf (L2.CX P w) P w K mg base (["hand", "pattern", "round_of", "size", "second", "first", "last", "lit", "later", "more", "one", "two"] : List Str) "_law_is_told_right" (defScope st__law_is_told_right) f cdv A outer s H E) C (fun cls d _ H => E cls d H) cf TT) :
    VSs (cxOf (L2.CX P w) P w K mg base (["hand", "pattern", "round_of", "size", "second", "first", "last", "lit", "later", "more", "one", "two"] : List Str) "_law_is_told_right" (defScope st__law_is_told_right) f cdv A outer s H E) C (fun cls d _ H => E cls d H) (defBody st__law_is_told_right) (b__law_is_told_right cf) := by
  unfold b__law_is_told_right
  exact (vss_cons (vs_set (i := 2) vx rfl (by first | exact Or.inl rfl | exact Or.inr rfl) (ve_call vx (i := 18) (np := 1) rfl (by rfl) (va_cons (ve_var 1) va_nil) rfl))
  (vss_cons (vs_set (i := 3) vx rfl (by first | exact Or.inl rfl | exact Or.inr rfl) (ve_cb (cn_len vx.K) (by rfl) G.z_len (by rfl) (va_cons (ve_var 2) va_nil)))
  (vss_cons (vs_if (vw_and (vt_tru vx (ve_call vx (i := 19) (np := 1) rfl (by rfl) (va_cons (ve_var 1) va_nil) rfl)) (vw_and1 (vt_not (vt_tru vx (ve_call vx (i := 15) (np := 2) rfl (by rfl) (va_cons (ve_call vx (i := 8) (np := 1) rfl (by rfl) (va_cons (ve_var 1) va_nil) rfl) (va_cons (ve_var 3) va_nil)) rfl))))).vt (vss_one (vs_ret ve_bl)) vss_nil)
  (vss_cons (vs_if (vt_not (vt_tru vx (ve_call vx (i := 15) (np := 2) rfl (by rfl) (va_cons (ve_call vx (i := 10) (np := 1) rfl (by rfl) (va_cons (ve_var 1) va_nil) rfl) (va_cons (ve_call vx (i := 17) (np := 2) rfl (by rfl) (va_cons (ve_cb (cn_sum vx.K vx.calm) (by rfl) G.z_sum (by rfl) (va_cons (ve_var 2) va_nil)) (va_cons (ve_var 3) va_nil)) rfl) va_nil)) rfl))) (vss_one (vs_ret ve_bl)) vss_nil)
  (vss_cons (vs_for vx (vi_seq vx (ve_tup (va_cons ve_int (va_cons (ve_call vx (i := 13) (np := 2) rfl (by rfl) (va_cons (ve_var 0) (va_cons (ve_var 3) va_nil)) rfl) (va_cons (ve_call vx (i := 13) (np := 2) rfl (by rfl) (va_cons (ve_var 0) (va_cons ve_int va_nil)) rfl) (va_cons (ve_call vx (i := 13) (np := 2) rfl (by rfl) (va_cons (ve_var 0) (va_cons (ve_bo (o2_add vx.K) (ve_bo o2_pow ve_int ve_int) ve_int) va_nil)) rfl) (va_cons (ve_bo o2_pow ve_int ve_int) va_nil))))) (by show (5 : Nat) ≤ 1000; decide))) (vg_name vx 4) only_name (vss_cons (vs_if (vt_not (vt_tru vx (ve_call vx (i := 15) (np := 2) rfl (by rfl) (va_cons (ve_call vx (i := 9) (np := 2) rfl (by rfl) (va_cons (ve_var 1) (va_cons (ve_var 4) va_nil)) rfl) (va_cons (ve_co (o2_eq vx.K vx.hu) (ve_ix vx (ve_var 2) (ve_bo o2_mod (ve_ct cn_int (by rfl) G.z_int (by rfl) (va_cons (ve_var 4) va_nil)) (ve_var 3))) ve_int) va_nil)) rfl))) (vss_one (vs_ret ve_bl)) vss_nil)
  (vss_cons (vs_setLc (i := 8) vx rfl rfl rfl (own := [("more", 9)]) rfl (by decide) (vi_range1 (by rfl) G.z_range (va_cons (ve_var 3) va_nil)) (by show BlkOk (["hand", "pattern", "round_of", "size", "second", "first", "last", "lit", "later", "more", "one", "two"] : List Str) (defScope st__law_is_told_right) _ _; exact ⟨rfl, by decide +kernel, by decide +kernel, by decide +kernel, by decide +kernel⟩) (fun s H P cl fp vx => ⟨(vc_one vx 9), (vts_one (vt_co (o2_eq vx.K vx.hu) (ve_ix vx (ve_var 2) (ve_bo o2_mod (ve_ct cn_int (by rfl) G.z_int (by rfl) (va_cons (ve_bo (o2_add vx.K) (ve_var 4) (ve_var 9)) va_nil)) (ve_var 3))) ve_int)), (ve_var 9)⟩))
  (vss_one (vs_if (vt_not (vt_tru vx (ve_call vx (i := 15) (np := 2) rfl (by rfl) (va_cons (ve_call vx (i := 12) (np := 2) rfl (by rfl) (va_cons (ve_var 1) (va_cons (ve_var 4) va_nil)) rfl) (va_cons (ve_bo (o2_add vx.K) (ve_var 4) (ve_ix vx (ve_var 8) ve_int)) va_nil)) rfl))) (vss_one (vs_ret ve_bl)) vss_nil)))))
  (vss_cons (vs_set (i := 5) vx rfl (by first | exact Or.inl rfl | exact Or.inr rfl) (ve_call vx (i := 13) (np := 2) rfl (by rfl) (va_cons (ve_var 0) (va_cons ve_int va_nil)) rfl))
  (vss_cons (vs_set (i := 6) vx rfl (by first | exact Or.inl rfl | exact Or.inr rfl) (ve_bo (o2_add vx.K) (ve_var 5) (ve_call vx (i := 13) (np := 2) rfl (by rfl) (va_cons (ve_var 0) (va_cons (ve_cb (cn_min vx.K vx.calm) (by rfl) G.z_min (by rfl) (va_cons ve_int (va_cons (ve_bo o2_sub ve_int (ve_var 5)) va_nil))) va_nil)) rfl)))
  (vss_cons (vs_if (vt_not (vt_tru vx (ve_call vx (i := 15) (np := 2) rfl (by rfl) (va_cons (ve_call vx (i := 11) (np := 3) rfl (by rfl) (va_cons (ve_var 1) (va_cons (ve_var 5) (va_cons (ve_var 6) va_nil))) rfl) (va_cons (ve_call vx (i := 21) (np := 3) rfl (by rfl) (va_cons (ve_var 2) (va_cons (ve_var 5) (va_cons (ve_var 6) va_nil))) rfl) va_nil)) rfl))) (vss_one (vs_ret ve_bl)) vss_nil)
  (vss_cons (vs_set (i := 7) vx rfl (by first | exact Or.inl rfl | exact Or.inr rfl) (ve_cb (cn_sum vx.K vx.calm) (by rfl) G.z_sum (by rfl) (va_cons (ve_lc vx (own := [("one", 10), ("two", 11)]) rfl (by decide) (vi_seq vx (ve_call vx (i := 11) (np := 3) rfl (by rfl) (va_cons (ve_var 1) (va_cons (ve_var 5) (va_cons (ve_var 6) va_nil))) rfl)) (by show BlkOk (["hand", "pattern", "round_of", "size", "second", "first", "last", "lit", "later", "more", "one", "two"] : List Str) (defScope st__law_is_told_right) _ _; exact ⟨rfl, by decide +kernel, by decide +kernel, by decide +kernel, by decide +kernel⟩) (fun s H P cl fp vx => ⟨(vc_many vx (vcs_cons vx 10 (vcs_cons vx 11 vcs_nil))), vts_nil, (ve_bo (o2_add vx.K) (ve_bo o2_sub (ve_var 11) (ve_var 10)) ve_int)⟩)) va_nil)))
  (vss_one (vs_ret (ve_co (o2_eq vx.K vx.hu) (ve_var 7) (ve_cb (cn_len vx.K) (by rfl) G.z_len (by rfl) (va_cons (ve_lc vx (own := [("second", 4)]) rfl (by decide) (vi_range2 (by rfl) G.z_range (va_cons (ve_var 5) (va_cons (ve_bo (o2_add vx.K) (ve_var 6) ve_int) va_nil))) (by show BlkOk (["hand", "pattern", "round_of", "size", "second", "first", "last", "lit", "later", "more", "one", "two"] : List Str) (defScope st__law_is_told_right) _ _; exact ⟨rfl, by decide +kernel, by decide +kernel, by decide +kernel, by decide +kernel⟩) (fun s H P cl fp vx => ⟨(vc_one vx 4), (vts_one (vt_tru vx (ve_call vx (i := 9) (np := 2) rfl (by rfl) (va_cons (ve_var 1) (va_cons (ve_var 4) va_nil)) rfl))), (ve_var 4)⟩)) va_nil))))))))))))))
abbrev st_law : Stmt := top 34
theorem sc_law : FnScope (["script", "hand", "known", "step"] : List Str) (["script"] : List Str) (defScope st_law) := ⟨rfl, rfl, rfl, by decide +kernel, rfl, by decide +kernel, by decide +kernel⟩
set_option maxHeartbeats 4000000 in
theorem w_law {P : Program} {w : World} {K : PySem.W.Frag} {mg : Str → Option Value} (G : Gm mg) {C : Cfg} {f : Addr} (base : Heap) (cf : CF) (cdv : Value) (A : Around) (outer : List PySem.Env) (s : Shared) (H : Hp) (E : XK) (vx : Vx (cxOf (L2.CX P w) P w K mg base (["script", "hand", "known", "step"] : List Str) "law" (defScope st_law) f cdv A outer s H E) C (fun cls d _ H => E cls d H) cf TT) :
    VSs (cxOf (L2.CX P w) P w K mg base (["script", "hand", "known", "step"] : List Str) "law" (defScope st_law) f cdv A outer s H E) C (fun cls d _ H => E cls d H) (defBody st_law) (b_law cf) := by
  unfold b_law
  exact (vss_cons (vs_set (i := 1) vx rfl (by first | exact Or.inl rfl | exact Or.inr rfl) (ve_call vx (i := 16) (np := 1) rfl (by rfl) (va_cons (ve_var 0) va_nil) rfl))
  (vss_cons (vs_set (i := 2) vx rfl (by first | exact Or.inl rfl | exact Or.inr rfl) (ve_lst (va_cons (ve_call vx (i := 9) (np := 2) rfl (by rfl) (va_cons (ve_tup (va_cons ve_int (va_cons ve_int va_nil)) (by show (2 : Nat) ≤ 1000; decide)) (va_cons ve_int va_nil)) rfl) (va_cons (ve_call vx (i := 9) (np := 2) rfl (by rfl) (va_cons (ve_tup (va_cons ve_int (va_cons ve_int va_nil)) (by show (2 : Nat) ≤ 1000; decide)) (va_cons ve_int va_nil)) rfl) (va_cons (ve_call vx (i := 12) (np := 2) rfl (by rfl) (va_cons (ve_tup (va_cons ve_int (va_cons ve_int va_nil)) (by show (2 : Nat) ≤ 1000; decide)) (va_cons ve_int va_nil)) rfl) (va_cons (ve_call vx (i := 10) (np := 1) rfl (by rfl) (va_cons (ve_tup (va_cons ve_int (va_cons ve_int va_nil)) (by show (2 : Nat) ≤ 1000; decide)) va_nil) rfl) (va_cons (ve_call vx (i := 11) (np := 3) rfl (by rfl) (va_cons (ve_tup (va_cons ve_int (va_cons ve_int va_nil)) (by show (2 : Nat) ≤ 1000; decide)) (va_cons ve_int (va_cons ve_int va_nil))) rfl) va_nil))))) (by show (5 : Nat) ≤ 1000; decide)))
  (vss_cons (vs_if (vw_or (vt_not (vt_tru vx (ve_call vx (i := 15) (np := 2) rfl (by rfl) (va_cons (ve_var 2) (va_cons (ve_lst (va_cons ve_bl (va_cons ve_bl (va_cons ve_int (va_cons (ve_tup (va_cons ve_int (va_cons ve_int va_nil)) (by show (2 : Nat) ≤ 1000; decide)) (va_cons (ve_tup (va_cons (ve_tup (va_cons ve_int (va_cons ve_int va_nil)) (by show (2 : Nat) ≤ 1000; decide)) (va_cons (ve_tup (va_cons ve_int (va_cons ve_int va_nil)) (by show (2 : Nat) ≤ 1000; decide)) va_nil)) (by show (2 : Nat) ≤ 1000; decide)) va_nil))))) (by show (5 : Nat) ≤ 1000; decide)) va_nil)) rfl))) (vw_or1 (vt_co (o2_ne vx.K vx.hu) (ve_call vx (i := 8) (np := 1) rfl (by rfl) (va_cons (ve_tup (va_cons ve_int (va_cons ve_int va_nil)) (by show (2 : Nat) ≤ 1000; decide)) va_nil) rfl) ve_int))).vt (vss_one (vs_ret ve_bl)) vss_nil)
  (vss_cons (vs_for vx (vi_range1 (by rfl) G.z_range (va_cons ve_int va_nil)) (vg_name vx 3) only_name (vss_one (vs_if (vt_not (vt_tru vx (ve_call vx (i := 22) (np := 2) rfl (by rfl) (va_cons (ve_var 1) (va_cons (ve_call vx (i := 20) (np := 3) rfl (by rfl) (va_cons (ve_var 1) (va_cons ve_int (va_cons (ve_call vx (i := 14) (np := 2) rfl (by rfl) (va_cons (ve_var 1) (va_cons (ve_lst (va_cons ve_int (va_cons ve_int (va_cons ve_int va_nil))) (by show (3 : Nat) ≤ 1000; decide)) va_nil)) rfl) va_nil))) rfl) va_nil)) rfl))) (vss_one (vs_ret ve_bl)) vss_nil)))
  (vss_one (vs_ret ve_bl))))))
end Lw

namespace Lw
open PySem VL
theorem cn {k i : Nat} {f : CF → M RV} (h : tab[i]? = some f) : callN tab (k + 1) i = f (callN tab k) := callN_succ h
variable {k : Nat}
abbrev pt (ps : List Int) : D := .tup (ps.map .int)
structure Pat (ps : List Int) : Prop where
  b : ∀ x ∈ ps, 1 ≤ x ∧ x ≤ 20
  l2 : 2 ≤ ps.length
  l12 : ps.length ≤ 12
  ev : ps.length % 2 = 0
@[simp] theorem eqB_int (i j : Int) : eqB (.int i) (.int j) = some (i == j) := rfl
@[simp] theorem eqB_bl (i j : Bool) : eqB (.bl i) (.bl j) = some (i == j) := rfl
@[simp] theorem eqD_int (i j : Int) : eqD (.int i) (.int j) = some (.val (.bl (i == j))) := rfl
@[simp] theorem eqD_bl (i j : Bool) : eqD (.bl i) (.bl j) = some (.val (.bl (i == j))) := rfl
@[simp] theorem neD_int (i j : Int) : neD (.int i) (.int j) = some (.val (.bl (!(i == j)))) := rfl
@[simp] theorem neD_bl (i j : Bool) : neD (.bl i) (.bl j) = some (.val (.bl (!(i == j)))) := rfl
@[simp] theorem ltD_int (i j : Int) : ltD (.int i) (.int j) = some (.val (.bl (decide (i < j)))) := rfl
@[simp] theorem leD_int (i j : Int) : leD (.int i) (.int j) = some (.val (.bl (decide (i ≤ j)))) := rfl
@[simp] theorem gtD_int (i j : Int) : gtD (.int i) (.int j) = some (.val (.bl (decide (j < i)))) := rfl
@[simp] theorem geD_int (i j : Int) : geD (.int i) (.int j) = some (.val (.bl (decide (j ≤ i)))) := rfl
@[simp] theorem addD_int (i j : Int) : addD (.int i) (.int j) = some (.val (.int (i + j))) := rfl
@[simp] theorem addI_int (i j : Int) : addI (.int i) (.int j) = some (.val (.int (i + j))) := rfl
@[simp] theorem subD_int (i j : Int) : subD (.int i) (.int j) = some (.val (.int (i - j))) := rfl
@[simp] theorem negD_int (i : Int) : negD (.int i) = some (.val (.int (-i))) := rfl
theorem mulD_int {i j : Int} (h : mulOk i j = true) : mulD (.int i) (.int j) = some (.val (.int (i * j))) := by
  show (if mulOk i j then vI (i * j) else none) = _
  rw [if_pos h]; rfl
theorem mul_l {i j : Int} (h : i.natAbs < 18446744073709551616) : mulD (.int i) (.int j) = some (.val (.int (i * j))) := mulD_int (by simp [mulOk, h])
theorem mul_r {i j : Int} (h : j.natAbs < 18446744073709551616) : mulD (.int i) (.int j) = some (.val (.int (i * j))) := mulD_int (by simp [mulOk, h])
theorem divD_pos {i j : Int} (h : 0 < j) (h2 : j < 1073741824) : divD (.int i) (.int j) = some (.val (.int (i / j))) := by
  show (if divOk j then vI (i.fdiv j) else none) = _
  rw [if_pos (by simp only [divOk, Bool.or_eq_true, decide_eq_true_eq]; exact .inl ⟨by omega, by omega⟩), Int.fdiv_eq_ediv_of_nonneg i (by omega)]; rfl
theorem modD_pos {i j : Int} (h : 0 < j) : modD (.int i) (.int j) = some (.val (.int (i % j))) := by
  show (if decide (j ≠ 0) then vI (i.fmod j) else none) = _
  rw [if_pos (by simp; omega), Int.fmod_eq_emod_of_nonneg i (by omega)]; rfl
@[simp] theorem absD_int (i : Int) : absD (.int i) = some (.val (.int (if i < 0 then -i else i))) := rfl
@[simp] theorem intD_int (i : Int) : intD (.int i) = some (.val (.int i)) := rfl
@[simp] theorem one1_1 (f : D → Option RV) (d : D) : one1 f [d] = f d := rfl
@[simp] theorem lenD_tup (ds : List D) : lenD (.tup ds) = some (.val (.int ds.length)) := rfl
@[simp] theorem lenD_lst (ds : List D) : lenD (.lst ds) = some (.val (.int ds.length)) := rfl
theorem sumD_tup (ns : List Int) : sumD (.tup (ns.map .int)) = some (.val (.int ns.sum)) := by
  show ((intsD (ns.map .int)).map fun ns => RV.val (.int ns.sum)) = _
  rw [intsD_map]; rfl
theorem sumD_lst (ns : List Int) : sumD (.lst (ns.map .int)) = some (.val (.int ns.sum)) := by
  show ((intsD (ns.map .int)).map fun ns => RV.val (.int ns.sum)) = _
  rw [intsD_map]; rfl
theorem allD_lst (bs : List Bool) : allD (.lst (bs.map .bl)) = some (.val (.bl (bs.all id))) := by
  show ((blsD (bs.map .bl)).map fun bs => RV.val (.bl (bs.all id))) = _
  rw [blsD_map]; rfl
theorem is_integer (i : Int) : callN tab (k + 1) 0 [.val (.int i)] = .ok (.val (.bl true)) [.val (.int i)] := by
  rw [cn rfl]
  exact run_ret (ρ' := [.val (.int i)]) rfl (by simp [b_is_integer, isiD, isPlain, Ty.has]) (by simp)
theorem is_within (v a b : Int) : callN tab (k + 2) 1 [.val (.int v), .val (.int a), .val (.int b)] = .ok (.val (.bl (decide (a ≤ v ∧ v ≤ b)))) [.val (.int v), .val (.int a), .val (.int b)] := by
  rw [cn rfl]
  exact run_ret (ρ' := [.val (.int v), .val (.int a), .val (.int b)]) rfl (by
    by_cases h1 : a ≤ v <;> by_cases h2 : v ≤ b <;> simp [b_is_within, is_integer, h1, h2]) (by simp)
theorem LIM_big {n : Nat} (h : n ≤ 16777216) : n ≤ LIM := h
def wf (a b : Int) : D → Option D
  | .int x => some (.bl (decide (a ≤ x ∧ x ≤ b)))
  | _ => none
theorem wf_map (a b : Int) (ps : List Int) : (ps.map D.int).filterMap (wf a b) = (ps.map fun x => decide (a ≤ x ∧ x ≤ b)).map D.bl := by
  induction ps with
  | nil => rfl
  | cons x xs ih => rw [List.map_cons, List.filterMap_cons]; show _ :: _ = _; rw [ih]; rfl
theorem allB (bs : List Bool) (h : ∀ b ∈ bs, b = true) : bs.all id = true := by
  rw [List.all_eq_true]; exact h
theorem are_within (ps : List Int) (a b : Int) (hl : ps.length ≤ LIM) (hb : ∀ x ∈ ps, a ≤ x ∧ x ≤ b) : callN tab (k + 3) 2 [.val (pt ps), .val (.int a), .val (.int b)] = .ok (.val (.bl true)) [.val (pt ps), .val (.int a), .val (.int b)] := by
  rw [cn rfl]
  refine run_ret (ρ' := [.val (pt ps), .val (.int a), .val (.int b), .un]) rfl ?_ (by simp)
  have h : lcGo (.one 3) (pure true) (callM (callN tab (k + 2)) 1 [varM 3, varM 1, varM 2]) [3] (ps.map D.int) [.val (pt ps), .val (.int a), .val (.int b), .un] = .ok (.own (.lst ((ps.map D.int).filterMap (wf a b)))) [.val (pt ps), .val (.int a), .val (.int b), .un] := by
    refine lcGo_pure (wf a b) (by rw [List.length_map]; exact hl) (by simp [wipeE, restoreE]) fun d hd => ?_
    obtain ⟨x, hx, rfl⟩ := List.mem_map.mp hd
    exact ⟨.nx, [.val (pt ps), .val (.int a), .val (.int b), .val (.int x)], true, [.val (pt ps), .val (.int a), .val (.int b), .val (.int x)], by simp [ctG, wipeE], rfl, .inl ⟨rfl, .bl (decide (a ≤ x ∧ x ≤ b)), [.val (pt ps), .val (.int a), .val (.int b), .val (.int x)], by simp [is_within], by simp [wipeE], rfl⟩⟩
  rw [wf_map] at h
  generalize hbs : (ps.map fun x => decide (a ≤ x ∧ x ≤ b)) = bs at h
  have hall : bs.all id = true := allB bs fun c hc => by
    rw [← hbs] at hc
    obtain ⟨x, hx, rfl⟩ := List.mem_map.mp hc
    exact decide_eq_true (hb x hx)
  simp only [b_are_within, retS_ap, andM_ap, opd_ap, unM_ap, varM_ap, valD_val, var1_some, opd1_val, un1_ok, lookO_val, opLift_some, isiD, isPlain, if_true, liftR_some, andV_ok, truO_some, truD_bl, andV3_some, List.any_cons, List.any_nil, Ty.has, Bool.or_false, ifR_true, primM_ap, argsM_cons, argsM_nil, lcM_ap, seqM_ap, fzM_ap, fz1_ok, frz_val, seqm1_ok, itemsD, lc1_ok, List.length_cons, List.length_nil, List.replicate, List.append, List.cons_append, List.nil_append, Nat.reduceAdd, Nat.reduceSub, Nat.zero_add]
  rw [h]
  simp [allD_lst, hall]
theorem check_ok (ps : List Int) (P : Pat ps) : callN tab (k + 5) 6 [.val (pt ps)] = .ok (.val .non) [.val (pt ps)] := by
  have hl : ps.length ≤ LIM := LIM_big (by have := P.l12; omega)
  have h5 : callN tab (k + 4) 5 [.val (pt ps)] = .ok (.val (.bl true)) [.val (pt ps)] := by
    rw [cn rfl]
    refine run_ret (ρ' := [.val (pt ps)]) rfl ?_ (by simp)
    have e1 : (2 : Int) ≤ (ps.length : Int) := by have := P.l2; omega
    have e2 : (ps.length : Int) ≤ 12 := by have := P.l12; omega
    have e3 : ((ps.length : Int) % 2) = 0 := by have := P.ev; omega
    simp [b_is_pattern, are_within ps 1 20 hl P.b, e1, e2, modD_pos, e3]
  rw [cn rfl]
  exact run_nx (ρ' := [.val (pt ps)]) rfl (by simp [b_check_pattern, h5]) (by simp)
/-! ### the common part -/
theorem gcd_step {a b : Int} : Int.gcd b (a - b * (a / b)) = Int.gcd a b := by
  rw [Int.mul_comm b, Int.gcd_sub_mul_right_right, Int.gcd_comm]
theorem while_end {t : M Bool} {body : MS} (I : Nat → VL.Env → Prop) (hs : ∀ n ρ, I n ρ → (∃ ρ', t ρ = .ok false ρ' ∧ I 0 ρ' ∧ n = 0) ∨ ∃ ρ1 f ρ' m, t ρ = .ok true ρ1 ∧ body ρ1 = .ok f ρ' ∧ (f = .nx ∨ f = .cont) ∧ m < n ∧ I m ρ') {n : Nat} {ρ : VL.Env} (hn : n < 1000000000000) (h : I n ρ) : ∃ ρ', whileS t body ρ = .ok .nx ρ' ∧ I 0 ρ' := by
  obtain ⟨ρ', h1, h2, _⟩ := while_ind I hs FUEL n ρ (Nat.lt_of_lt_of_le hn FUEL_ge) h
  exact ⟨ρ', h1, h2⟩
theorem common_part (one other : Int) (h1 : 0 ≤ one) (h2 : 0 ≤ other) (h3 : other < 1073741824) (h4 : one < 1073741824) : callN tab (k + 1) 3 [.val (.int one), .val (.int other)] = .ok (.val (.int (Int.gcd one other : Nat))) [.val (.int one), .val (.int other)] := by
  rw [cn rfl]
  obtain ⟨ρ', hw, a, b, e1, a0, b0, b1, e2, e3, a1⟩ := while_end (t := binM neD (varM 1) (constM (.int 0)) >>= asB) (body := parS 0 1 (varM 1) (binM subD (varM 0) (binM mulD (varM 1) (binM divD (varM 0) (varM 1)))))
    (fun n ρ => ∃ a b : Int, ρ = [.val (.int a), .val (.int b)] ∧ 0 ≤ a ∧ 0 ≤ b ∧ b < 1073741824 ∧ n = b.toNat ∧ Int.gcd a b = Int.gcd one other ∧ a < 1073741824) (fun n ρ ⟨a, b, e1, a0, b0, b1, e2, e3, a1⟩ => by
      subst e1
      by_cases hb : b = 0
      · subst hb
        exact .inl ⟨_, by simp, ⟨a, 0, rfl, a0, b0, b1, rfl, e3, a1⟩, by rw [e2]; rfl⟩
      · have b0' : 0 < b := by omega
        refine .inr ⟨[.val (.int a), .val (.int b)], .nx, [.val (.int b), .val (.int (a - b * (a / b)))], (a - b * (a / b)).toNat, by simp [hb], ?_, .inl rfl, ?_, b, _, rfl, b0, ?_, ?_, rfl, by rw [gcd_step, e3], b1⟩
        · simp [divD_pos b0' b1, mul_l (i := b) (j := a / b) (by omega)]
        all_goals
          have e : a - b * (a / b) = a % b := by rw [Int.emod_def]
          have := Int.emod_nonneg a hb
          have := Int.emod_lt_of_pos a b0'
          omega)
    (n := other.toNat) (ρ := [.val (.int one), .val (.int other)]) (by omega) ⟨one, other, rfl, h1, h2, h3, rfl, rfl, h4⟩
  subst e1
  have hb : b = 0 := by omega
  subst hb
  refine run_ret (ρ' := [.val (.int a), .val (.int 0)]) rfl ?_ (by simp)
  have ea : (Int.gcd one other : Nat) = a := by rw [← e3, Int.gcd_zero_right]; omega
  simp [b_common_part, hw]
  rw [if_neg (by omega)]
  exact ea.symm
theorem gcd_pos' {a b : Int} (h : 0 < b) : (0 : Int) < (Int.gcd a b : Nat) := by
  have : Int.gcd a b ≠ 0 := fun z => by rw [Int.gcd_eq_zero_iff] at z; omega
  omega
theorem gcd_le' {a b : Int} (h : 0 < b) : ((Int.gcd a b : Nat) : Int) ≤ b := Int.le_of_dvd h (Int.gcd_dvd_right a b)
theorem fraction (top bottom : Int) (h1 : 0 < top) (h2 : 0 < bottom) (h3 : top < 1073741824) (h4 : bottom < 1073741824) : callN tab (k + 2) 4 [.val (.int top), .val (.int bottom)] = .ok (.val (pt [top / (Int.gcd top bottom : Nat), bottom / (Int.gcd top bottom : Nat)])) [.val (.int top), .val (.int bottom)] := by
  rw [cn rfl]
  have hg := gcd_pos' (a := top) h2
  have hg2 := gcd_le' (a := top) h2
  refine run_ret (ρ' := [.val (.int top), .val (.int bottom), .val (.int (Int.gcd top bottom : Nat)), .val (.int 1)]) rfl ?_ (by simp)
  have hc := common_part (k := k) bottom top (by omega) (by omega) h3 h4
  rw [Int.gcd_comm] at hc
  simp [b_fraction, hc, h2, mul_l, divD_pos hg (by omega)]
theorem law_low (top bottom : Int) (h1 : 0 < top) (h2 : 0 < bottom) (h3 : top < 1073741824) (h4 : bottom < 1073741824) : callN tab (k + 1) 17 [.val (.int top), .val (.int bottom)] = .ok (.val (pt [top / (Int.gcd top bottom : Nat), bottom / (Int.gcd top bottom : Nat)])) [.val (.int top), .val (.int bottom)] := by
  rw [cn rfl]
  have hg := gcd_pos' (a := top) h2
  have hg2 := gcd_le' (a := top) h2
  obtain ⟨ρ', hw, a, b, e1, a0, b0, b1, e2, e3⟩ := while_end (t := binM gtD (varM 3) (constM (.int 0)) >>= asB) (body := parS 3 2 (binM modD (primM (one1 intD) [varM 2]) (varM 3)) (varM 3))
    (fun n ρ => ∃ a b : Int, ρ = [.val (.int top), .val (.int bottom), .val (.int a), .val (.int b)] ∧ 0 ≤ a ∧ 0 ≤ b ∧ b < 1073741824 ∧ n = b.toNat ∧ Int.gcd a b = Int.gcd top bottom) (fun n ρ ⟨a, b, e1, a0, b0, b1, e2, e3⟩ => by
      subst e1
      by_cases hb : b = 0
      · subst hb
        exact .inl ⟨_, by simp, ⟨a, 0, rfl, a0, b0, b1, rfl, e3⟩, by rw [e2]; rfl⟩
      · have b0' : 0 < b := by omega
        have := Int.emod_nonneg a hb
        have := Int.emod_lt_of_pos a b0'
        refine .inr ⟨[.val (.int top), .val (.int bottom), .val (.int a), .val (.int b)], .nx, [.val (.int top), .val (.int bottom), .val (.int b), .val (.int (a % b))], (a % b).toNat, by simp [b0'], ?_, .inl rfl, by omega, b, _, rfl, by omega, by omega, by omega, rfl, ?_⟩
        · simp [modD_pos b0']
        · rw [Int.emod_def, gcd_step, e3])
    (n := top.toNat) (ρ := [.val (.int top), .val (.int bottom), .val (.int bottom), .val (.int top)]) (by omega) ⟨bottom, top, rfl, by omega, by omega, h3, rfl, Int.gcd_comm ..⟩
  subst e1
  have hb : b = 0 := by omega
  subst hb
  have ea : (Int.gcd top bottom : Nat) = a := by rw [← e3, Int.gcd_zero_right]; omega
  rw [ea] at hg hg2 ⊢
  refine run_ret (ρ' := [.val (.int top), .val (.int bottom), .val (.int a), .val (.int 0)]) rfl ?_ (by simp)
  have n1 : ¬ top < 0 := by omega
  have n2 : ¬ bottom < 0 := by omega
  simp [b__law_low, n1, n2, hw, h2, divD_pos hg (by omega)]
/-! ### the signs -/
def sg : Nat → List Int → List Int
  | _, [] => []
  | n, x :: xs => List.replicate x.toNat (1 - (n : Int) % 2) ++ sg (n + 1) xs
theorem rep_flat (n : Nat) (v : Int) : (List.replicate n [D.int v]).flatten = (List.replicate n v).map D.int := by
  induction n with
  | zero => rfl
  | succ n ih => rw [List.replicate_succ, List.replicate_succ, List.flatten_cons, ih]; rfl
theorem mul_rep {v x : Int} (h0 : 0 ≤ x) (h1 : x ≤ 1000) : mulD (.lst [.int v]) (.int x) = some (.own (.lst ((List.replicate x.toNat v).map .int))) := by
  have e : (2 : Int) ^ 63 = 9223372036854775808 := by decide
  show (if decide (-(2 ^ 63) ≤ x ∧ x < 2 ^ 63 ∧ [D.int v].length * x.toNat ≤ LIM) then some (RV.own (.lst (List.replicate x.toNat [D.int v]).flatten)) else none) = _
  rw [if_pos, rep_flat]
  refine decide_eq_true ⟨by rw [e]; omega, by rw [e]; omega, ?_⟩
  show 1 * x.toNat ≤ LIM
  exact LIM_big (by omega)
theorem pushed {ds es : List D} (h : ds.length + es.length ≤ 16777216) : extD es (.lst ds) = some (.lst (ds ++ es)) := by
  show (if ds.length + es.length ≤ LIM then some (D.lst (ds ++ es)) else none) = _
  rw [if_pos (LIM_big h)]
theorem catted {ds es : List D} (h : ds.length + es.length ≤ 16777216) : addD (.lst ds) (.lst es) = some (.own (.lst (ds ++ es))) := by
  show (if ds.length + es.length ≤ LIM then some (RV.own (.lst (ds ++ es))) else none) = _
  rw [if_pos (LIM_big h)]
def vs (s : Slot) : Prop := s = .un ∨ ∃ d, s = .val d
@[simp] theorem set1_vs {i : Nat} {s t : Slot} {ρ : VL.Env} (h : vs t) : set1 i s ρ (some t) = .ok .nx (ρ.set i s) := by
  rcases h with rfl | ⟨d, rfl⟩ <;> rfl
theorem vs_v (d : D) : vs (.val d) := .inr ⟨d, rfl⟩
theorem enumL_nil {ds : List D} {n : Nat} (h : [] = enumL n ds) : ds = [] := by
  cases ds with
  | nil => rfl
  | cons d ds => cases h
theorem enum_cons {d : D} {es : List D} {n : Nat} {rest : List Int} (h : d :: es = enumL n (rest.map .int)) : ∃ x xs, rest = x :: xs ∧ d = .tup [.int (n : Int), .int x] ∧ es = enumL (n + 1) (xs.map .int) := by
  cases rest with
  | nil => cases h
  | cons x xs => cases h; exact ⟨x, xs, rfl, rfl, rfl⟩
theorem sgs_loop {g : D → MS} {body : MS} {ps : List Int} (P : Pat ps) (hg : g = tupG [nameG 2, nameG 3])
    (hb : ∀ (n : Nat) (x : Int) (acc : List Int) (d2 : D), 1 ≤ x → x ≤ 20 → acc.length ≤ 240 → body [.val (pt ps), .own (.lst (acc.map .int)), .val (.int (n : Int)), .val (.int x)] = .ok .nx [.val (pt ps), .own (.lst ((acc ++ List.replicate x.toNat (1 - (n : Int) % 2)).map .int)), .val (.int (n : Int)), .val (.int x)]) :
    ∃ s2 s3, loopS g body (enumL 0 (ps.map .int)) [.val (pt ps), .own (.lst []), .un, .un] = .ok .nx [.val (pt ps), .own (.lst ((sg 0 ps).map .int)), s2, s3] := by
  obtain ⟨ρ', h1, n, rest, acc, s2, s3, e1, e2, e3, -, -, -, -⟩ := loop_ind (g := g) (body := body) (fun es ρ => ∃ (n : Nat) (rest acc : List Int) (s2 s3 : Slot), es = enumL n (rest.map .int) ∧ ρ = [.val (pt ps), .own (.lst (acc.map .int)), s2, s3] ∧ acc ++ sg n rest = sg 0 ps ∧ (∀ x ∈ rest, 1 ≤ x ∧ x ≤ 20) ∧ acc.length + 20 * rest.length ≤ 240 ∧ vs s2 ∧ vs s3)
    (fun d es ρ ⟨n, rest, acc, s2, s3, e1, e2, e3, e4, e5, v2, v3⟩ => by
      obtain ⟨x, xs, rfl, rfl, rfl⟩ := enum_cons e1
      subst e2
      have hx := e4 x (by simp)
      have hl : (x :: xs).length = xs.length + 1 := rfl
      refine ⟨[.val (pt ps), .own (.lst (acc.map .int)), .val (.int (n : Int)), .val (.int x)], .nx, _, ?_, hb n x acc (.int x) hx.1 hx.2 (by omega), .inl rfl, n + 1, xs, acc ++ List.replicate x.toNat (1 - (n : Int) % 2), _, _, rfl, rfl, ?_, fun y hy => e4 y (by simp [hy]), ?_, vs_v _, vs_v _⟩
      · subst hg
        simp [v2, v3]
      · rw [← e3, List.append_assoc]; rfl
      · rw [List.length_append, List.length_replicate]; omega)
    (enumL 0 (ps.map .int)) [.val (pt ps), .own (.lst []), .un, .un] ⟨0, ps, [], .un, .un, rfl, rfl, rfl, P.b, by have := P.l12; simp; omega, .inl rfl, .inl rfl⟩
  have e4 := enumL_nil e1
  have e5 : rest = [] := by simpa using e4
  subst e5
  have e3 : acc = sg 0 ps := by rw [← e3]; show acc = acc ++ []; simp
  subst e3
  exact ⟨s2, s3, by rw [h1, e2]⟩
theorem signs_of (ps : List Int) (P : Pat ps) : callN tab (k + 1) 7 [.val (pt ps)] = .ok (.own (.lst ((sg 0 ps).map .int))) [.val (pt ps)] := by
  rw [cn rfl]
  obtain ⟨s2, s3, h⟩ := sgs_loop (g := tupG [nameG 2, nameG 3]) (body := dropS (extM 1 (binM mulD (lstM [binM subD (constM (.int 1)) (binM modD (varM 2) (constM (.int 2)))]) (varM 3)))) P rfl (fun n x acc d2 h1 h2 h3 => by
    have hp := pushed (ds := acc.map .int) (es := (List.replicate x.toNat (1 - (n : Int) % 2)).map .int) (by simp; omega)
    simp only [List.map_append]
    simp only [dropS_ap, extM_ap, hasOwn_ap, ownD_s, ownD_own, has1_lst, ext1_ok, opd_ap, binM_ap, lstM_ap, argsM_cons, argsM_nil, constM_ap, opd1_val, bin1_ok, varM_ap, valD_s, valD_val, var1_some, bin2_ok, lookO_val, bin3_some, modD_pos (show (0 : Int) < 2 by decide), liftR_some, subD_int, args1_ok, args2_ok, lst1_ok, frzs_cons, frz_val, frzs1_ok, frzs_nil, frzs2_ok, lst2_ok, opd1_own, mul_rep (show (0 : Int) ≤ x by omega) (show x ≤ 1000 by omega), ext2_ok, Option.bind_some, lstOf, ext4_some, updSlot_ap, List.getElem?_cons_succ, List.getElem?_cons_zero, upd1_own, hp, updO_some, app3_ok, drop1_ok, List.set_cons_succ, List.set_cons_zero])
  refine run_ret (ρ' := [.val (pt ps), .un, s2, s3]) rfl ?_ (by simp)
  simp [b_signs_of, enumD, itemsD, h]
theorem seconds (ps : List Int) (P : Pat ps) : callN tab (k + 1) 18 [.val (pt ps)] = .ok (.own (.lst ((sg 0 ps).map .int))) [.val (pt ps)] := by
  rw [cn rfl]
  obtain ⟨s2, s3, h⟩ := sgs_loop (g := tupG [nameG 2, nameG 3]) (body := asgS 1 (binM addD (varM 1) (binM mulD (lstM [binM modD (primM (one1 intD) [binM addD (varM 2) (constM (.int 1))]) (constM (.int 2))]) (varM 3)))) P rfl (fun n x acc d2 h1 h2 h3 => by
    have hm : ((n : Int) + 1) % 2 = 1 - (n : Int) % 2 := by omega
    have hp := catted (ds := acc.map .int) (es := (List.replicate x.toNat (1 - (n : Int) % 2)).map .int) (by simp; omega)
    simp only [List.map_append]
    simp [modD_pos, hm, mul_rep (show (0 : Int) ≤ x by omega) (show x ≤ 1000 by omega), -List.map_replicate, hp])
  refine run_ret (ρ' := [.val (pt ps), .un, s2, s3]) rfl ?_ (by simp)
  simp [b__law_seconds, enumD, itemsD, h]
/-! ### sums -/
theorem sg_len : ∀ (ps : List Int) (n : Nat), (∀ x ∈ ps, 0 ≤ x) → ((sg n ps).length : Int) = ps.sum
  | [], _, _ => rfl
  | x :: xs, n, h => by
    have := sg_len xs (n + 1) fun y hy => h y (by simp [hy])
    have := h x (by simp)
    show (((List.replicate x.toNat (1 - (n : Int) % 2) ++ sg (n + 1) xs).length : Nat) : Int) = _
    rw [List.length_append, List.length_replicate, List.sum_cons]
    omega
theorem sum_rep (n : Nat) (v : Int) : (List.replicate n v).sum = n * v := by
  induction n with
  | zero => simp
  | succ n ih =>
    rw [List.replicate_succ, List.sum_cons, ih]
    have e : ((n + 1 : Nat) : Int) * v = v + n * v := by
      have : ((n + 1 : Nat) : Int) = (n : Int) + 1 := by omega
      rw [this, Int.add_mul]; omega
    exact e.symm
def ev : List Int → List Int
  | [] => []
  | [x] => [x]
  | x :: _ :: r => x :: ev r
theorem sg_sum : ∀ (ps : List Int) (n : Nat), (∀ x ∈ ps, 0 ≤ x) → n % 2 = 0 → (sg n ps).sum = (ev ps).sum
  | [], _, _, _ => rfl
  | [x], n, h, hn => by
    have := h x (by simp)
    show (List.replicate x.toNat (1 - (n : Int) % 2) ++ []).sum = _
    rw [List.append_nil, sum_rep]
    have e : (n : Int) % 2 = 0 := by omega
    rw [e]
    show _ = x + 0
    simp; omega
  | x :: y :: r, n, h, hn => by
    have := h x (by simp)
    have ih := sg_sum r (n + 2) (fun z hz => h z (by simp [hz])) (by omega)
    show (List.replicate x.toNat (1 - (n : Int) % 2) ++ (List.replicate y.toNat (1 - ((n + 1 : Nat) : Int) % 2) ++ sg (n + 2) r)).sum = x + (ev r).sum
    rw [List.sum_append, List.sum_append, sum_rep, sum_rep, ih]
    have e : (n : Int) % 2 = 0 := by omega
    have e2 : ((n + 1 : Nat) : Int) % 2 = 1 := by omega
    rw [e, e2]
    simp; omega
theorem sum_le : ∀ (ps : List Int), (∀ x ∈ ps, 1 ≤ x ∧ x ≤ 20) → (ps.length : Int) ≤ ps.sum ∧ ps.sum ≤ 20 * ps.length
  | [], _ => by simp
  | x :: xs, h => by
    have := sum_le xs fun y hy => h y (by simp [hy])
    have := h x (by simp)
    rw [List.sum_cons, List.length_cons]
    omega
theorem ev_le : ∀ (ps : List Int), (∀ x ∈ ps, 1 ≤ x ∧ x ≤ 20) → 0 ≤ (ev ps).sum ∧ (ev ps).sum ≤ ps.sum
  | [], _ => by simp [ev]
  | [x], h => by have := h x (by simp); simp [ev]; omega
  | x :: y :: r, h => by
    have := ev_le r fun z hz => h z (by simp [hz])
    have := h x (by simp)
    have := h y (by simp)
    rw [ev, List.sum_cons, List.sum_cons, List.sum_cons]
    omega
structure Nums (ps : List Int) : Prop where
  s2 : 2 ≤ ps.sum
  s240 : ps.sum ≤ 240
  len : ((sg 0 ps).length : Int) = ps.sum
  sum : (sg 0 ps).sum = (ev ps).sum
  e1 : 1 ≤ (ev ps).sum
  e2 : (ev ps).sum ≤ ps.sum
theorem Pat.nums {ps : List Int} (P : Pat ps) : Nums ps := by
  have h := sum_le ps P.b
  have h2 := P.l2
  have h3 := P.l12
  have h4 := ev_le ps P.b
  have h0 : ∀ x ∈ ps, 0 ≤ x := fun x hx => by have := P.b x hx; omega
  refine ⟨by omega, by omega, sg_len ps 0 h0, sg_sum ps 0 h0 rfl, ?_, h4.2⟩
  match ps, P with
  | [], P => have := P.l2; simp at this
  | [x], P => have := P.l2; simp at this
  | x :: y :: r, P =>
    have := (ev_le r fun z hz => P.b z (by simp [hz])).1
    have := P.b x (by simp)
    show 1 ≤ (x :: Lw.ev r).sum
    rw [List.sum_cons]; omega
theorem st_of {ds : List D} {is : List Nat} {n : Nat} (hn : ds.length = n) (h : stepIx none none 2 n = is) (hl : is.length ≤ 1000) : stD none none (some 2) (.tup ds) = some (.val (.tup (pickAt ds is))) := by
  show (if decide ((2 : Int) ≠ 0 ∧ (2 : Int) ≠ 1 ∧ (stepIx none none 2 ds.length).length ≤ LIM) then some (RV.val (.tup (pickAt ds (stepIx none none 2 ds.length)))) else none) = _
  rw [hn, h, if_pos (decide_eq_true ⟨by decide, by decide, LIM_big (by omega)⟩)]
theorem st_even (ps : List Int) (P : Pat ps) : stD none none (some 2) (pt ps) = some (.val (.tup ((ev ps).map .int))) := by
  have h1 := P.l2; have h2 := P.l12; have h3 := P.ev
  match ps with
  | [] => simp at h1
  | [_] => simp at h1
  | [_, _] => exact (st_of (n := 2) (is := [0]) rfl (by decide) (by decide)).trans rfl
  | [_, _, _] => simp at h3
  | [_, _, _, _] => exact (st_of (n := 4) (is := [0, 2]) rfl (by decide) (by decide)).trans rfl
  | [_, _, _, _, _] => simp at h3
  | [_, _, _, _, _, _] => exact (st_of (n := 6) (is := [0, 2, 4]) rfl (by decide) (by decide)).trans rfl
  | [_, _, _, _, _, _, _] => simp at h3
  | [_, _, _, _, _, _, _, _] => exact (st_of (n := 8) (is := [0, 2, 4, 6]) rfl (by decide) (by decide)).trans rfl
  | [_, _, _, _, _, _, _, _, _] => simp at h3
  | [_, _, _, _, _, _, _, _, _, _] => exact (st_of (n := 10) (is := [0, 2, 4, 6, 8]) rfl (by decide) (by decide)).trans rfl
  | [_, _, _, _, _, _, _, _, _, _, _] => simp at h3
  | [_, _, _, _, _, _, _, _, _, _, _, _] => exact (st_of (n := 12) (is := [0, 2, 4, 6, 8, 10]) rfl (by decide) (by decide)).trans rfl
  | _ :: _ :: _ :: _ :: _ :: _ :: _ :: _ :: _ :: _ :: _ :: _ :: _ :: _ => simp at h2
theorem period (ps : List Int) (P : Pat ps) : callN tab (k + 6) 8 [.val (pt ps)] = .ok (.val (.int ps.sum)) [.val (pt ps)] := by
  rw [cn rfl]
  exact run_ret (ρ' := [.val (pt ps)]) rfl (by simp [b_period, check_ok ps P, sumD_tup]) (by simp)
/-- the sign at a second -/
def sat (ps : List Int) (s : Int) : Int := (sg 0 ps).getD (s % ps.sum).toNat 0
theorem ix_ints {xs : List Int} {i : Int} (h0 : 0 ≤ i) (h1 : i < xs.length) : ixD (.lst (xs.map .int)) (.int i) = some (.val (.int (xs.getD i.toNat 0))) := by
  show (L2.atI (xs.map D.int) i).map RV.val = _
  rw [atI_map]
  have e : L2.atI xs i = some (xs.getD i.toNat 0) := by
    unfold L2.atI L2.ixN
    rw [if_pos h0, if_pos h1]
    show xs[i.toNat]? = _
    have hi : i.toNat < xs.length := by omega
    rw [List.getElem?_eq_getElem hi, List.getD_eq_getElem?_getD, List.getElem?_eq_getElem hi]; rfl
  rw [e]; rfl
theorem ix_sat {ps : List Int} (P : Pat ps) (s : Int) : ixD (.lst ((sg 0 ps).map .int)) (.int (s % ps.sum)) = some (.val (.int (sat ps s))) := by
  have N := P.nums
  have h1 := Int.emod_nonneg s (b := ps.sum) (by have := N.s2; omega)
  have h2 := Int.emod_lt_of_pos s (b := ps.sum) (by have := N.s2; omega)
  exact ix_ints h1 (by rw [N.len]; exact h2)
theorem is_lit (ps : List Int) (P : Pat ps) (s : Int) (h0 : 0 ≤ s) (h1 : s ≤ 1000000) : callN tab (k + 6) 9 [.val (pt ps), .val (.int s)] = .ok (.val (.bl (sat ps s == 1))) [.val (pt ps), .val (.int s)] := by
  rw [cn rfl]
  have hw : callN tab (k + 5) 1 [.val (.int s), .val (.int 0), .val (.int 1000000)] = .ok (.val (.bl true)) [.val (.int s), .val (.int 0), .val (.int 1000000)] := by
    rw [is_within, decide_eq_true ⟨h0, h1⟩]
  have := P.nums.s2
  exact run_ret (ρ' := [.val (pt ps), .val (.int s)]) rfl (by simp [b_is_lit, check_ok ps P, sumD_tup, hw, signs_of ps P, modD_pos (i := s) (j := ps.sum) (by omega), ix_sat P]) (by simp)
theorem lit_share (ps : List Int) (P : Pat ps) : callN tab (k + 6) 10 [.val (pt ps)] = .ok (.val (pt [(ev ps).sum / (Int.gcd (ev ps).sum ps.sum : Nat), ps.sum / (Int.gcd (ev ps).sum ps.sum : Nat)])) [.val (pt ps)] := by
  rw [cn rfl]
  have N := P.nums
  have hf := fraction (k := k + 3) (ev ps).sum ps.sum (by have := N.e1; omega) (by have := N.s2; omega) (by have := N.e2; have := N.s240; omega) (by have := N.s240; omega)
  refine run_ret (ρ' := [.val (pt ps)]) rfl ?_ (by simp)
  have he := st_even ps P
  simp [b_lit_share, check_ok ps P, sumD_tup, he, hf]
end Lw

namespace Lw
open PySem VL
variable {k : Nat}
/-! ### the hand -/
def hd (cells : List Int) (a b c d : Int) : D := .lst [.lst (cells.map .int), .int a, .int b, .int c, .int d]
def Hd (h : D) : Prop := ∃ cells a b c d, h = hd cells a b c d ∧ (∀ x ∈ cells, 0 ≤ x) ∧ 0 ≤ a ∧ 0 ≤ b
section
variable {cells : List Int} {a b c d v : Int}
@[simp] theorem hd_0 : ixD (hd cells a b c d) (.int 0) = some (.val (.lst (cells.map .int))) := rfl
@[simp] theorem hd_1 : ixD (hd cells a b c d) (.int 1) = some (.val (.int a)) := rfl
@[simp] theorem hd_2 : ixD (hd cells a b c d) (.int 2) = some (.val (.int b)) := rfl
@[simp] theorem hd_3 : ixD (hd cells a b c d) (.int 3) = some (.val (.int c)) := rfl
@[simp] theorem hd_4 : ixD (hd cells a b c d) (.int 4) = some (.val (.int d)) := rfl
@[simp] theorem hd_s1 : setD (.int v) (.int 1) (hd cells a b c d) = some (hd cells v b c d) := rfl
@[simp] theorem hd_s2 : setD (.int v) (.int 2) (hd cells a b c d) = some (hd cells a v c d) := rfl
@[simp] theorem hd_s3 : setD (.int v) (.int 3) (hd cells a b c d) = some (hd cells a b v d) := rfl
@[simp] theorem hd_s4 : setD (.int v) (.int 4) (hd cells a b c d) = some (hd cells a b c v) := rfl
@[simp] theorem hd_has (ρ : VL.Env) : has1 ρ (some (hd cells a b c d)) = .ok () ρ := rfl
end
@[simp] theorem pow18 : powD (.int 10) (.int 18) = some (.val (.int 1000000000000000000)) := rfl
@[simp] theorem pow6 : powD (.int 10) (.int 6) = some (.val (.int 1000000)) := rfl
theorem draw {h : D} (H : Hd h) (span : Int) (h0 : 0 < span) (h1 : span < 1073741824) :
    ∃ h' d, Hd h' ∧ 0 ≤ d ∧ d < span ∧ callN tab (k + 1) 13 [.bow h, .val (.int span)] = .ok (.val (.int d)) [.bow h', .val (.int span)] := by
  obtain ⟨cells, a, b, c, d, rfl, hc, ha, hb⟩ := H
  -- the first statement
  have first : ∃ a' b' c' s3, 0 ≤ a' ∧ 0 ≤ b' ∧ ifS (andT (binM eqD (binM ixD (varM 0) (constM (.int 2))) (constM (.int 0)) >>= asB) (binM ltD (binM ixD (varM 0) (constM (.int 1))) (primM (one1 lenD) [binM ixD (varM 0) (constM (.int 0))]) >>= asB)) ((seqS (asgS 3 (binM ixD (binM ixD (varM 0) (constM (.int 0))) (binM ixD (varM 0) (constM (.int 1)))))
      (seqS (asgG (ixG 0 (constM (.int 1))) (binM addD (binM ixD (varM 0) (constM (.int 1))) (constM (.int 1))))
      (seqS (asgG (ixG 0 (constM (.int 3))) (binM modD (primM (one1 intD) [binM addD (binM addD (binM mulD (binM ixD (varM 0) (constM (.int 3))) (constM (.int 69621))) (varM 3)) (constM (.int 43))]) (constM (.int 2147483629))))
      (ifS (binM geD (varM 3) (binM powD (constM (.int 10)) (constM (.int 18))) >>= asB) ((asgG (ixG 0 (constM (.int 2))) (varM 3))) (pure .nx)))))) (pure .nx) [.bow (hd cells a b c d), .val (.int span), .un, .un, .un] = .ok .nx [.bow (hd cells a' b' c' d), .val (.int span), .un, s3, .un] := by
    by_cases h2 : b = 0
    · by_cases h3 : a < cells.length
      · have hx : ixD (.lst (cells.map .int)) (.int a) = some (.val (.int (cells.getD a.toNat 0))) := ix_ints ha h3
        have hx0 : 0 ≤ cells.getD a.toNat 0 := by
          have hi : a.toNat < cells.length := by omega
          rw [List.getD_eq_getElem?_getD, List.getElem?_eq_getElem hi]
          exact hc _ (List.getElem_mem hi)
        generalize cells.getD a.toNat 0 = x at hx hx0
        subst h2
        by_cases h4 : 1000000000000000000 ≤ x
        · exact ⟨a + 1, x, (c * 69621 + x + 43) % 2147483629, .val (.int x), by omega, hx0, by simp [h3, hx, mul_r, modD_pos, h4]⟩
        · exact ⟨a + 1, 0, (c * 69621 + x + 43) % 2147483629, .val (.int x), by omega, by omega, by simp [h3, hx, mul_r, modD_pos, h4]⟩
      · exact ⟨a, b, c, .un, ha, hb, by simp [h2, h3]⟩
    · have h2' : (b == 0) = false := beq_eq_false_iff_ne.mpr h2
      exact ⟨a, b, c, .un, ha, hb, by simp [h2']⟩
  obtain ⟨a', b', c', s3, ha', hb', hf⟩ := first
  rw [cn rfl]
  by_cases h5 : 0 < b'
  · refine ⟨hd cells a' (b' / span) c' d, b' % span, ⟨cells, a', b' / span, c', d, rfl, hc, ha', Int.ediv_nonneg hb' (by omega)⟩, Int.emod_nonneg _ (by omega), Int.emod_lt_of_pos _ h0, ?_⟩
    refine run_ret (ρ' := [.bow (hd cells a' (b' / span) c' d), .val (.int span), .un, s3, .val (.int (b' % span))]) rfl ?_ (by simp)
    show b__law_draw (callN tab k) [.bow (hd cells a b c d), .val (.int span), .un, .un, .un] = _
    unfold b__law_draw
    rw [seqS_ap, hf]
    simp [h5, modD_pos h0, divD_pos h0 h1]
  · refine ⟨hd cells a' b' c' (d + 1), ((((c' + 7919 * (d + 1)) * 48271 % 2147483647 * ((c' + 7919 * (d + 1)) * 48271 % 2147483647 / 1009 + 69621) % 2147483647) * (((c' + 7919 * (d + 1)) * 48271 % 2147483647 * ((c' + 7919 * (d + 1)) * 48271 % 2147483647 / 1009 + 69621) % 2147483647) / 2003 + 40692) % 2147483399) / 16) % span, ⟨cells, a', b', c', d + 1, rfl, hc, ha', hb'⟩, Int.emod_nonneg _ (by omega), Int.emod_lt_of_pos _ h0, ?_⟩
    generalize hn1 : (c' + 7919 * (d + 1)) * 48271 % 2147483647 = n1
    have b1 : 0 ≤ n1 ∧ n1 < 2147483647 := by subst hn1; exact ⟨Int.emod_nonneg _ (by decide), Int.emod_lt_of_pos _ (by decide)⟩
    generalize hn2 : n1 * (n1 / 1009 + 69621) % 2147483647 = n2
    have b2 : 0 ≤ n2 ∧ n2 < 2147483647 := by subst hn2; exact ⟨Int.emod_nonneg _ (by decide), Int.emod_lt_of_pos _ (by decide)⟩
    refine run_ret (ρ' := [.bow (hd cells a' b' c' (d + 1)), .val (.int span), .val (.int (n2 * (n2 / 2003 + 40692) % 2147483399)), s3, .un]) rfl ?_ (by simp)
    show b__law_draw (callN tab k) [.bow (hd cells a b c d), .val (.int span), .un, .un, .un] = _
    unfold b__law_draw
    rw [seqS_ap, hf]
    simp [h5, modD_pos h0, modD_pos, divD_pos, mul_l (i := 7919), mul_r (j := 48271), hn1, mul_l (i := n1) (by omega), hn2, mul_l (i := n2) (by omega)]
theorem some_ {h : D} (H : Hd h) (things : List D) (hl : 0 < things.length) (hl2 : things.length < 1000) :
    ∃ h' d, Hd h' ∧ d ∈ things ∧ callN tab (k + 2) 14 [.bow h, .val (.lst things)] = .ok (.val d) [.bow h', .val (.lst things)] := by
  obtain ⟨h', d, H', d0, d1, hd⟩ := draw (k := k) H (things.length : Int) (by omega) (by omega)
  have hi : d.toNat < things.length := by omega
  refine ⟨h', things[d.toNat], H', List.getElem_mem hi, ?_⟩
  rw [cn rfl]
  have hx : ixD (.lst things) (.int d) = some (.val things[d.toNat]) := by
    show (L2.atI things d).map RV.val = _
    unfold L2.atI L2.ixN
    rw [if_pos d0, if_pos d1]
    show (things[d.toNat]?).map RV.val = _
    rw [List.getElem?_eq_getElem hi]; rfl
  exact run_ret (ρ' := [.bow h', .val (.lst things)]) rfl (by simp [b__law_some, hd, hx]) (by simp)
theorem hand_ok (ns : List Int) (hl : ns.length ≤ 63) : ∃ h, Hd h ∧ callN tab (k + 1) 16 [.val (.scr ns)] = .ok (.own h) [.val (.scr ns)] := by
  have hz : (ns.map fun n => if n < 0 then -n else n) = ns.map fun n => if n < 0 then -n else n := rfl
  refine ⟨hd (ns.map fun n => if n < 0 then -n else n) 0 0 (317 + 3 * ((ns.map fun n => if n < 0 then -n else n).length : Int)) 0, ⟨_, _, _, _, _, rfl, fun x hx => ?_, by omega, by omega⟩, ?_⟩
  · obtain ⟨n, _, rfl⟩ := List.mem_map.mp hx
    show 0 ≤ if n < 0 then -n else n
    split <;> omega
  rw [cn rfl]
  have hs : slD none (some 63) (.scr ns) = some (.own (.lst (ns.map .int))) := by
    show some (RV.own (.lst ((cutL ns none (some 63)).map .int))) = _
    have e : cutL ns none (some 63) = ns := cutL_whole ⟨rfl, by show min 63 ns.length = ns.length; omega⟩
    rw [e]
  have h : lcGo (.one 2) (pure true) (primM (one1 absD) [primM (one1 intD) [varM 2]]) [2] (ns.map D.int) [.val (.scr ns), .un, .un] = .ok (.own (.lst ((ns.map D.int).filterMap fun d => match d with | .int n => some (.int (if n < 0 then -n else n)) | _ => none))) [.val (.scr ns), .un, .un] := by
    refine lcGo_pure _ (by rw [List.length_map]; exact LIM_big (by omega)) (by simp [wipeE, restoreE]) fun d hd => ?_
    obtain ⟨x, hx, rfl⟩ := List.mem_map.mp hd
    exact ⟨.nx, [.val (.scr ns), .un, .val (.int x)], true, [.val (.scr ns), .un, .val (.int x)], by simp [ctG, wipeE], rfl, .inl ⟨rfl, .int (if x < 0 then -x else x), [.val (.scr ns), .un, .val (.int x)], by simp, by simp [wipeE], rfl⟩⟩
  have e : ((ns.map D.int).filterMap fun d => match d with | .int n => some (D.int (if n < 0 then -n else n)) | _ => none) = (ns.map fun n => if n < 0 then -n else n).map D.int := by
    clear h hs hl hz
    induction ns with
    | nil => rfl
    | cons n ns ih => rw [List.map_cons, List.filterMap_cons]; show _ :: _ = _; rw [ih]; rfl
  rw [e] at h
  generalize (ns.map fun n => if n < 0 then -n else n) = cs at h
  refine run_ret (ρ' := [.val (.scr ns), .val (.lst (cs.map .int)), .un]) rfl ?_ (by simp)
  simp [b__law_hand, hs, itemsD, h, mul_l]
  rfl
theorem pattern {h : D} (H : Hd h) (most : Int) (h0 : 1 ≤ most) (h1 : most ≤ 20) : ∃ h' ps, Hd h' ∧ Pat ps ∧ callN tab (k + 2) 20 [.bow h, .val (.int 6), .val (.int most)] = .ok (.val (pt ps)) [.bow h', .val (.int 6), .val (.int most)] := by
  obtain ⟨h', d, H', d0, d1, hd⟩ := draw (k := k) H 6 (by omega) (by omega)
  have hr : range1D [.int (2 + 2 * d)] = some (rngD 0 (2 + 2 * d)) := by
    show (if lim62 (2 + 2 * d) then some (rngD 0 (2 + 2 * d)) else none) = _
    rw [if_pos]
    have e : (2 : Int) ^ 62 = 4611686018427387904 := by decide
    refine decide_eq_true ⟨by rw [e]; omega, by rw [e]; omega⟩
  have hlen : (rngD 0 (2 + 2 * d)).length = 2 + 2 * d.toNat := by unfold rngD; simp; omega
  generalize hes : rngD 0 (2 + 2 * d) = es at hr hlen
  have hl : es.length ≤ LIM := LIM_big (by omega)
  obtain ⟨ρ', acc, hg, h2, ps, H2, e1, e2, e3, e4⟩ := lcGo_inv (ct := .one 3) (t := pure true) (el := binM addD (constM (.int 1)) (callM (callN tab (k + 1)) 13 [varM 0, varM 2])) (vs := [3]) (ρ := [.bow h', .val (.int 6), .val (.int most), .un]) (ds := es)
    (fun fs ρ acc => ∃ h2 ps, Hd h2 ∧ ρ = [.bow h2, .val (.int 6), .val (.int most), .un] ∧ acc = ps.map D.int ∧ (∀ x ∈ ps, 1 ≤ x ∧ x ≤ 20) ∧ ps.length + fs.length = es.length) hl ⟨h', [], H', by simp [wipeE], rfl, by simp, by simp⟩ (fun d0 fs ρ acc ⟨h2, ps, H2, e1, e2, e3, e4⟩ => by
      obtain ⟨h3, x, H3, x0, x1, hx⟩ := draw (k := k) H2 most (by omega) (by omega)
      subst e1
      refine ⟨.nx, [.bow h2, .val (.int 6), .val (.int most), .val d0], true, [.bow h2, .val (.int 6), .val (.int most), .val d0], by simp [ctG], rfl, .inl ⟨rfl, .int (1 + x), [.bow h3, .val (.int 6), .val (.int most), .val d0], by simp [hx], h3, ps ++ [1 + x], H3, by simp [wipeE], by simp [e2], fun y hy => ?_, by simp at e4 ⊢; omega⟩⟩
      rcases List.mem_append.mp hy with hy | hy
      · exact e3 y hy
      · simp at hy; omega)
  subst e1
  refine ⟨h2, ps, H2, ⟨e3, by simp at e4; omega, by simp at e4; omega, by simp at e4; omega⟩, ?_⟩
  rw [cn rfl]
  have hre : restoreE [.bow h', .val (.int 6), .val (.int most), .un] [.bow h2, .val (.int 6), .val (.int most), .un] [3] = [.bow h2, .val (.int 6), .val (.int most), .un] := by simp [restoreE]
  rw [hre] at hg
  refine run_ret (ρ' := [.bow h2, .val (.int 6), .val (.int most), .un]) rfl ?_ (by simp)
  subst e2
  simp [b__law_pattern, mul_l, hd, hr, hg, tupleD]
end Lw

namespace Lw
open PySem VL
variable {k : Nat}
/-! ### _law_is on equal things -/
inductive Same : Nat → D → Prop
  | int {n : Nat} (i : Int) : Same n (.int i)
  | bl {n : Nat} (i : Bool) : Same n (.bl i)
  | tup {n : Nat} {ds : List D} (h : ∀ d ∈ ds, Same n d) (hl : ds.length ≤ 100000) : Same (n + 1) (.tup ds)
  | lst {n : Nat} {ds : List D} (h : ∀ d ∈ ds, Same n d) (hl : ds.length ≤ 100000) : Same (n + 1) (.lst ds)
theorem zip_mem : ∀ {ds : List D} {d : D}, d ∈ zipL ds ds → ∃ e, e ∈ ds ∧ d = .tup [e, e]
  | [], _, h => by simp [zipL] at h
  | x :: xs, d, h => by
    have h : d ∈ .tup [x, x] :: zipL xs xs := h
    rcases List.mem_cons.mp h with h | h
    · exact ⟨x, by simp, h⟩
    · obtain ⟨e, h1, h2⟩ := zip_mem h
      exact ⟨e, by simp [h1], h2⟩
theorem fm_true (ds : List D) : (ds.filterMap fun _ => some (D.bl true)) = (ds.map fun _ => true).map D.bl := by
  induction ds with
  | nil => rfl
  | cons d ds ih => rw [List.filterMap_cons]; show _ :: _ = _; rw [ih]; rfl
theorem all_true (ds : List D) : (ds.map fun _ => true).all id = true := allB _ fun b hb => by
  obtain ⟨_, _, rfl⟩ := List.mem_map.mp hb; rfl
theorem is_zip (n : Nat) (cf : CF) (D0 : D) (ds : List D) (hz : itemsD D0 = some ds) (hl : ds.length ≤ 100000) (h : ∀ d ∈ ds, cf 15 [.val d, .val d] = .ok (.val (.bl true)) [.val d, .val d]) :
    primM (one1 allD) [lcM (srcF zipD [varM 0, varM 1]) (.many [2, 3]) (pure true) (callM cf 15 [varM 2, varM 3]) [2, 3]] [.val D0, .val D0, .un, .un] = .ok (.val (.bl true)) [.val D0, .val D0, .un, .un] := by
  have hg : lcGo (.many [2, 3]) (pure true) (callM cf 15 [varM 2, varM 3]) [2, 3] (zipL ds ds) [.val D0, .val D0, .un, .un] = .ok (.own (.lst ((zipL ds ds).filterMap fun _ => some (D.bl true)))) [.val D0, .val D0, .un, .un] := by
    refine lcGo_pure _ (LIM_big (by rw [zipL_len]; omega)) (by simp [wipeE, restoreE]) fun d hd => ?_
    obtain ⟨e, he, rfl⟩ := zip_mem hd
    exact ⟨.nx, [.val D0, .val D0, .val e, .val e], true, [.val D0, .val D0, .val e, .val e], by simp [ctG, wipeE], rfl, .inl ⟨rfl, .bl true, [.val D0, .val D0, .val e, .val e], by simp [h e he], by simp [wipeE], rfl⟩⟩
  rw [fm_true] at hg
  have ha := all_true (zipL ds ds)
  generalize ((zipL ds ds).map fun _ => true) = bs at hg ha
  have hzz : zipD [D0, D0] = some (zipL ds ds) := by
    show (match itemsD D0, itemsD D0 with
      | some xs, some ys => some (zipL xs ys)
      | _, _ => none) = _
    rw [hz]
  simp [hzz, hg, allD_lst, ha]
theorem is_refl : ∀ (n : Nat) (d : D), Same n d → ∀ k, callN tab (k + n + 1) 15 [.val d, .val d] = .ok (.val (.bl true)) [.val d, .val d] := by
  intro n
  induction n with
  | zero =>
    intro d h k
    rw [cn rfl]
    cases h with
    | int i => exact run_ret (ρ' := [.val (.int i), .val (.int i), .un, .un]) rfl (by simp [b__law_is, isiD, isPlain, Ty.has, isD, isNonD]) (by simp)
    | bl i => exact run_ret (ρ' := [.val (.bl i), .val (.bl i), .un, .un]) rfl (by simp [b__law_is, isiD, isPlain, Ty.has, isD, isNonD]) (by simp)
  | succ n ih =>
    intro d h k
    rw [cn rfl]
    cases h with
    | int i => exact run_ret (ρ' := [.val (.int i), .val (.int i), .un, .un]) rfl (by simp [b__law_is, isiD, isPlain, Ty.has, isD, isNonD]) (by simp)
    | bl i => exact run_ret (ρ' := [.val (.bl i), .val (.bl i), .un, .un]) rfl (by simp [b__law_is, isiD, isPlain, Ty.has, isD, isNonD]) (by simp)
    | @tup _ ds hm hl =>
      have hz := is_zip n (callN tab (k + (n + 1))) (.tup ds) ds rfl hl fun d hd => ih d (hm d hd) k
      refine run_ret (ρ' := [.val (.tup ds), .val (.tup ds), .un, .un]) rfl ?_ (by simp)
      show b__law_is (callN tab (k + (n + 1))) [.val (.tup ds), .val (.tup ds), .un, .un] = _
      generalize callN tab (k + (n + 1)) = cf at hz
      unfold b__law_is
      generalize primM (one1 allD) [lcM (srcF zipD [varM 0, varM 1]) (.many [2, 3]) (pure true) (callM cf 15 [varM 2, varM 3]) [2, 3]] = m at hz
      simp [isiD, isPlain, Ty.has, hz]
    | @lst _ ds hm hl =>
      have hz := is_zip n (callN tab (k + (n + 1))) (.lst ds) ds rfl hl fun d hd => ih d (hm d hd) k
      refine run_ret (ρ' := [.val (.lst ds), .val (.lst ds), .un, .un]) rfl ?_ (by simp)
      show b__law_is (callN tab (k + (n + 1))) [.val (.lst ds), .val (.lst ds), .un, .un] = _
      generalize callN tab (k + (n + 1)) = cf at hz
      unfold b__law_is
      generalize primM (one1 allD) [lcM (srcF zipD [varM 0, varM 1]) (.many [2, 3]) (pure true) (callM cf 15 [varM 2, varM 3]) [2, 3]] = m at hz
      simp [isiD, isPlain, Ty.has, hz]
/-! ### a loop that may return -/
theorem loop_ret {g : D → MS} {body : MS} (I : List D → VL.Env → Prop) (R : RV → VL.Env → Prop) (hs : ∀ d ds ρ, I (d :: ds) ρ → ∃ ρ1 f ρ', g d ρ = .ok .nx ρ1 ∧ body ρ1 = .ok f ρ' ∧ (((f = .nx ∨ f = .cont) ∧ I ds ρ') ∨ ∃ rv, f = .ret rv ∧ R rv ρ')) :
    ∀ (ds : List D) (ρ : VL.Env), I ds ρ → ∃ f ρ', loopS g body ds ρ = .ok f ρ' ∧ ((f = .nx ∧ I [] ρ') ∨ ∃ rv, f = .ret rv ∧ R rv ρ')
  | [], ρ, h => ⟨.nx, ρ, rfl, .inl ⟨rfl, h⟩⟩
  | d :: ds, ρ, h => by
    obtain ⟨ρ1, f, ρ', h1, h2, h3⟩ := hs d ds ρ h
    rcases h3 with ⟨h3, h4⟩ | ⟨rv, h3, h4⟩
    · obtain ⟨f2, ρ2, h5, h6⟩ := loop_ret I R hs ds ρ' h4
      refine ⟨f2, ρ2, ?_, h6⟩
      rw [loopS_cons, seqS_ap, h1, seq1_nx, stepS_ap, h2]
      rcases h3 with rfl | rfl <;> exact h5
    · subst h3
      exact ⟨.ret rv, ρ', by rw [loopS_cons, seqS_ap, h1, seq1_nx, stepS_ap, h2]; rfl, .inr ⟨rv, rfl, h4⟩⟩
/-! ### roots -/
theorem canLayAll_ints (ns : List Int) : PyData.canLayAll0 (ns.map PyData.int) = true := by
  induction ns with
  | nil => rfl
  | cons n ns ih => show (PyData.canLay0 (.int n) && PyData.canLayAll0 (ns.map PyData.int)) = true; rw [ih]; rfl
theorem depthAll_ints (ns : List Int) : PyData.depthAll (ns.map PyData.int) = 0 := by
  induction ns with
  | nil => rfl
  | cons n ns ih => show max (PyData.depth (.int n)) (PyData.depthAll (ns.map PyData.int)) = 0; rw [ih]; rfl
theorem shaped_ints (ns : List Int) : SeqAt.shaped (.tuple (ns.map PyData.int)) = true := by
  show (PyData.canLayAll0 (ns.map PyData.int) && decide (PyData.depthAll (ns.map PyData.int) + 1 ≤ 64)) = true
  rw [canLayAll_ints, depthAll_ints]; rfl
theorem eqD_tups (ns ms : List Int) : ∃ b, eqD (pt ns) (pt ms) = some (.val (.bl b)) := by
  refine ⟨PyData.eqv (.tuple (ns.map PyData.int)) (.tuple (ms.map PyData.int)), ?_⟩
  have t : ∀ ns : List Int, toPy (pt ns) = some (.tuple (ns.map PyData.int)) := fun ns => by
    show (toPys (ns.map D.int)).map PyData.tuple = _
    rw [toPys_ints]; rfl
  show (eqB (pt ns) (pt ms)).map _ = _
  unfold eqB
  rw [t, t]
  show Option.map _ (if (SeqAt.shaped (.tuple (ns.map PyData.int)) && SeqAt.shaped (.tuple (ms.map PyData.int))) = true then some _ else none) = _
  rw [shaped_ints, shaped_ints]; rfl
theorem cut_map (ps : List Int) (s : Int) : cutL (ps.map D.int) none (some s) = (cutL ps none (some s)).map D.int := by
  unfold cutL; rw [List.length_map, List.map_take, List.map_drop]
theorem small_2 (n : Nat) (h1 : 2 ≤ n) (h2 : n ≤ 12) : Builtin.Range.small 2 (n : Int) 2 = true := by
  have : n = 2 ∨ n = 3 ∨ n = 4 ∨ n = 5 ∨ n = 6 ∨ n = 7 ∨ n = 8 ∨ n = 9 ∨ n = 10 ∨ n = 11 ∨ n = 12 := by omega
  rcases this with rfl | rfl | rfl | rfl | rfl | rfl | rfl | rfl | rfl | rfl | rfl <;> decide +kernel
theorem rs_2 (n : Int) : Builtin.Range.rangeSize 2 n 2 = if (2 : Int) < n then (n - 2 - 1) / 2 + 1 else 0 := by
  unfold Builtin.Range.rangeSize
  rw [if_pos (by decide)]
theorem range_2 (n : Nat) (h1 : 2 ≤ n) (h2 : n ≤ 12) : ∃ es, range3D [.int 2, .int n, .int 2] = some es ∧ ∀ e ∈ es, ∃ s : Int, e = .int s ∧ 2 ≤ s ∧ s < n := by
  have hsm := small_2 n h1 h2
  refine ⟨(List.range (Builtin.Range.rangeSize 2 n 2).toNat).map fun (i : Nat) => D.int (2 + (i : Int) * 2), ?_, ?_⟩
  · unfold range3D
    simp only [hsm, Bool.true_and]
    rw [if_pos (decide_eq_true ⟨by decide, by decide⟩)]
  · intro e he
    obtain ⟨i, hi, rfl⟩ := List.mem_map.mp he
    have hi := List.mem_range.mp hi
    refine ⟨_, rfl, by omega, ?_⟩
    rw [rs_2] at hi
    split at hi <;> omega
theorem cut_len (ps : List Int) (s : Int) (h0 : 0 ≤ s) (h1 : s ≤ ps.length) : (cutL ps none (some s)).length = s.toNat := by
  unfold cutL
  have e1 : HT.sIx ps.length 0 none = 0 := rfl
  have e2 : HT.sIx ps.length ps.length (some s) = min s.toNat ps.length := by
    show (if s < 0 then _ else _) = _
    rw [if_neg (by omega)]
  rw [e1, e2]; simp; omega
theorem sl_pt (ps : List Int) (s : Int) : slD none (some s) (pt ps) = some (.val (pt (cutL ps none (some s)))) := by
  show some (RV.val (.tup (cutL (ps.map D.int) none (some s)))) = _
  rw [cut_map]
theorem mul_tup (c : List Int) (q : Int) (h1 : 2 ≤ q) (h2 : q ≤ 1000) (h3 : c.length ≤ 1000) (h4 : c ≠ []) : mulD (pt c) (.int q) = some (.val (pt (List.replicate q.toNat c).flatten)) := by
  have hf : (List.replicate q.toNat (c.map D.int)).flatten = ((List.replicate q.toNat c).flatten).map D.int := by rw [List.map_flatten, List.map_replicate]
  have hne : (c.map D.int).isEmpty = false := by
    cases c with
    | nil => exact (h4 rfl).elim
    | cons _ _ => rfl
  unfold mulD
  simp only [pt, hne, hf]
  rw [if_pos (by rw [List.length_map]; simp; omega)]
theorem root_body (ps : List Int) (P : Pat ps) (s : Int) (s0 : 2 ≤ s) (s1 : s < ps.length) : ∃ f, (f = .nx ∨ f = .ret (.val (.bl false))) ∧ ifS (andT (binM eqD (binM modD (primM (one1 intD) [varM 1]) (varM 2)) (constM (.int 0)) >>= asB) (binM eqD (varM 0) (binM mulD (slM (varM 0) noO (intO (varM 2))) (binM divD (varM 1) (varM 2))) >>= asB)) ((retS (constM (.bl false)))) (pure .nx) [.val (pt ps), .val (.int ps.length), .val (.int s)] = .ok f [.val (pt ps), .val (.int ps.length), .val (.int s)] := by
  have hl : (2 : Int) ≤ ps.length ∧ (ps.length : Int) ≤ 12 := by have := P.l2; have := P.l12; omega
  have hm := modD_pos (i := ps.length) (j := s) (by omega)
  have hdv := divD_pos (i := ps.length) (j := s) (by omega) (by omega)
  by_cases hd : (ps.length : Int) % s = 0
  · have hk : 2 ≤ (ps.length : Int) / s := by
      have h3 := Int.ediv_mul_add_emod ps.length s
      rw [hd] at h3
      have h5 : ¬ ((ps.length : Int) / s ≤ 1) := fun h => by
        have h6 : (ps.length : Int) / s * s ≤ 1 * s := Int.mul_le_mul_of_nonneg_right h (by omega)
        omega
      omega
    have hk2 : (ps.length : Int) / s ≤ 12 := by
      have := Int.ediv_le_self (a := ps.length) s (by omega); omega
    have hcl := cut_len ps s (by omega) (by omega)
    have hmu := mul_tup (cutL ps none (some s)) ((ps.length : Int) / s) hk (by omega) (by omega) (fun z => by rw [z] at hcl; simp at hcl; omega)
    have hsl := sl_pt ps s
    generalize (ps.length : Int) / s = q at hdv hmu
    generalize (ps.length : Int) % s = r at hm hd
    subst hd
    generalize cutL ps none (some s) = c at hsl hmu
    obtain ⟨b, hb⟩ := eqD_tups ps (List.replicate q.toNat c).flatten
    cases b with
    | true => exact ⟨_, .inr rfl, by simp [hm, hsl, hdv, hmu, hb]⟩
    | false => exact ⟨_, .inl rfl, by simp [hm, hsl, hdv, hmu, hb]⟩
  · have hd' : ((ps.length : Int) % s == 0) = false := beq_eq_false_iff_ne.mpr hd
    generalize (ps.length : Int) % s = r at hm hd'
    exact ⟨.nx, .inl rfl, by simp [hm, hd']⟩
def rootT (S : M (List D)) (body : MS) : MS := seqS (asgS 1 (primM (one1 lenD) [varM 0])) (seqS (forS S (nameG 2) body) (retS (constM (.bl true))))
theorem root_eq (cf : CF) : b__law_is_root cf = rootT (srcF range3D [constM (.int 2), varM 1, constM (.int 2)]) (ifS (andT (binM eqD (binM modD (primM (one1 intD) [varM 1]) (varM 2)) (constM (.int 0)) >>= asB) (binM eqD (varM 0) (binM mulD (slM (varM 0) noO (intO (varM 2))) (binM divD (varM 1) (varM 2))) >>= asB)) ((retS (constM (.bl false)))) (pure .nx)) := rfl
theorem rootT_run {S : M (List D)} {body : MS} {ps : List Int} {es : List D} {f : Fl} {ρ' : VL.Env} (hS : S [.val (pt ps), .val (.int ps.length), .un] = .ok es [.val (pt ps), .val (.int ps.length), .un]) (hl : loopS (nameG 2) body es [.val (pt ps), .val (.int ps.length), .un] = .ok f ρ') :
    rootT S body [.val (pt ps), .un, .un] = seq1 (retS (constM (.bl true))) (.ok f ρ') := by simp [rootT, hS, hl]
theorem src_ok {ps : List Int} {es : List D} (hr : range3D [.int 2, .int ps.length, .int 2] = some es) : srcF range3D [constM (.int 2), varM 1, constM (.int 2)] [.val (pt ps), .val (.int ps.length), .un] = .ok es [.val (pt ps), .val (.int ps.length), .un] := by
  simp only [srcF_ap, argsM_cons, argsM_nil, opd_ap, constM_ap, opd1_val, varM_ap, valD_s, valD_val, var1_some, args1_ok, args2_ok, src1_ok, frzs_cons, frzs_nil, frz_val, frzs1_ok, frzs2_ok, src2_ok]
  rw [hr]; rfl
theorem is_root (ps : List Int) (P : Pat ps) : ∃ b, callN tab (k + 1) 19 [.val (pt ps)] = .ok (.val (.bl b)) [.val (pt ps)] := by
  rw [cn rfl]
  obtain ⟨es, hr, hes⟩ := range_2 ps.length P.l2 P.l12
  obtain ⟨f, ρ', h1, h2⟩ := loop_ret (g := nameG 2) (body := ifS (andT (binM eqD (binM modD (primM (one1 intD) [varM 1]) (varM 2)) (constM (.int 0)) >>= asB) (binM eqD (varM 0) (binM mulD (slM (varM 0) noO (intO (varM 2))) (binM divD (varM 1) (varM 2))) >>= asB)) ((retS (constM (.bl false)))) (pure .nx))
    (fun es ρ => (∀ e ∈ es, ∃ s : Int, e = .int s ∧ 2 ≤ s ∧ s < ps.length) ∧ ∃ s2, vs s2 ∧ ρ = [.val (pt ps), .val (.int ps.length), s2]) (fun rv ρ => rv = .val (.bl false) ∧ ∃ s2, ρ = [.val (pt ps), .val (.int ps.length), s2]) (fun d es ρ ⟨hm, s2, v2, e1⟩ => by
      obtain ⟨s, rfl, s0, s1⟩ := hm d (by simp)
      subst e1
      obtain ⟨f, hf, hb⟩ := root_body ps P s s0 s1
      refine ⟨[.val (pt ps), .val (.int ps.length), .val (.int s)], f, _, by simp [v2], hb, ?_⟩
      rcases hf with rfl | rfl
      · exact .inl ⟨.inl rfl, fun e he => hm e (by simp [he]), _, vs_v _, rfl⟩
      · exact .inr ⟨_, rfl, rfl, _, rfl⟩)
    es [.val (pt ps), .val (.int ps.length), .un] ⟨hes, .un, .inl rfl, rfl⟩
  have hf := (congrFun (root_eq (callN tab k)) [.val (pt ps), .un, .un]).trans (rootT_run (src_ok hr) h1)
  rcases h2 with ⟨rfl, _, s2, v2, e1⟩ | ⟨rv, rfl, rfl, s2, e1⟩
  · subst e1
    exact ⟨true, run_ret (ρ' := [.val (pt ps), .val (.int ps.length), s2]) rfl (hf.trans rfl) (by simp)⟩
  · subst e1
    exact ⟨false, run_ret (ρ' := [.val (pt ps), .val (.int ps.length), s2]) rfl (hf.trans rfl) (by simp)⟩
end Lw

namespace Lw
open PySem VL
variable {k : Nat}
/-! ### spans -/
abbrev pr (p : Int × Int) : D := .tup [.int p.1, .int p.2]
def stp (ps : List Int) (acc : List (Int × Int)) (s : Int) : List (Int × Int) :=
  if sat ps s = 1 then (match acc.getLast? with
    | some p => if p.2 = s - 1 then acc.dropLast ++ [(p.1, s)] else acc ++ [(s, s)]
    | none => acc ++ [(s, s)]) else acc
def tot (acc : List (Int × Int)) : Int := (acc.map fun p => p.2 - p.1 + 1).sum
theorem nil_or_snoc {α : Type} (l : List α) : l = [] ∨ ∃ xs x, l = xs ++ [x] := by
  cases h : l.reverse with
  | nil => exact .inl (by simpa using h)
  | cons x xs => exact .inr ⟨xs.reverse, x, by have := congrArg List.reverse h; simpa using this⟩
theorem stp_snoc {ps : List Int} {xs : List (Int × Int)} {p : Int × Int} {s : Int} (h : sat ps s = 1) : stp ps (xs ++ [p]) s = if p.2 = s - 1 then xs ++ [(p.1, s)] else xs ++ [p] ++ [(s, s)] := by
  unfold stp
  rw [if_pos h]
  simp
theorem stp_nil {ps : List Int} {s : Int} (h : sat ps s = 1) : stp ps [] s = [(s, s)] := by
  unfold stp
  rw [if_pos h]
  rfl
theorem stp_no {ps : List Int} {acc : List (Int × Int)} {s : Int} (h : sat ps s ≠ 1) : stp ps acc s = acc := by
  unfold stp
  rw [if_neg h]
theorem tot_app (a b : List (Int × Int)) : tot (a ++ b) = tot a + tot b := by
  unfold tot; rw [List.map_append, List.sum_append]
theorem tot_stp (ps : List Int) (acc : List (Int × Int)) (s : Int) : tot (stp ps acc s) = tot acc + if sat ps s = 1 then 1 else 0 := by
  by_cases h : sat ps s = 1
  · rw [if_pos h]
    rcases nil_or_snoc acc with rfl | ⟨xs, p, rfl⟩
    · rw [stp_nil h]; unfold tot; simp <;> omega
    · rw [stp_snoc h]
      split
      · rename_i hp
        rw [tot_app, tot_app]; unfold tot; simp <;> omega
      · rw [tot_app (xs ++ [p])]; unfold tot; simp <;> omega
  · rw [if_neg h, stp_no h]; omega
theorem stp_len (ps : List Int) (acc : List (Int × Int)) (s : Int) : (stp ps acc s).length ≤ acc.length + 1 := by
  by_cases h : sat ps s = 1
  · rcases nil_or_snoc acc with rfl | ⟨xs, p, rfl⟩
    · rw [stp_nil h]; simp
    · rw [stp_snoc h]
      split <;> simp
  · rw [stp_no h]; omega
def spans (ps : List Int) (l : List Int) : List (Int × Int) := l.foldl (stp ps) []
theorem tot_foldl (ps : List Int) : ∀ (l : List Int) (acc : List (Int × Int)), tot (l.foldl (stp ps) acc) = tot acc + ((l.filter fun s => sat ps s == 1).length : Int)
  | [], acc => by simp
  | s :: l, acc => by
    rw [List.foldl_cons, tot_foldl ps l, tot_stp, List.filter_cons]
    by_cases h : sat ps s = 1
    · rw [if_pos h, if_pos (by simp [h]), List.length_cons]; omega
    · rw [if_neg h, if_neg (by simp [h])]; omega
theorem last_ix {xs : List (Int × Int)} {p : Int × Int} : ixD (.lst ((xs ++ [p]).map pr)) (.int (-1)) = some (.val (pr p)) := by
  show (L2.atI ((xs ++ [p]).map pr) (-1)).map RV.val = _
  rw [atI_map]
  have e : L2.atI (xs ++ [p]) (-1) = some p := by
    unfold L2.atI L2.ixN
    rw [if_neg (by decide), if_pos (by simp; omega)]
    show (xs ++ [p])[((-1 : Int) + ((xs ++ [p]).length : Nat)).toNat]? = _
    have : ((-1 : Int) + ((xs ++ [p]).length : Nat)).toNat = xs.length := by simp; omega
    rw [this]; simp
  rw [e]; rfl
theorem last_set {xs : List (Int × Int)} {p : Int × Int} {v : D} : setD v (.int (-1)) (.lst ((xs ++ [p]).map pr)) = some (.lst (xs.map pr ++ [v])) := by
  show (L2.ixN ((xs ++ [p]).map pr).length (-1)).map (fun j => D.lst (((xs ++ [p]).map pr).set j v)) = _
  have e : L2.ixN ((xs ++ [p]).map pr).length (-1) = some xs.length := by
    unfold L2.ixN
    rw [if_neg (by decide), if_pos (by simp; omega)]
    congr 1
    simp; omega
  rw [e]
  simp
theorem pair_0 (a b : Int) : ixD (.tup [.int a, .int b]) (.int 0) = some (.val (.int a)) := rfl
theorem pair_1 (a b : Int) : ixD (.tup [.int a, .int b]) (.int 1) = some (.val (.int b)) := rfl
theorem push_ok {ds : List D} {d : D} (h : ds.length < 16777216) : pushD d (.lst ds) = some (.lst (ds ++ [d])) := by
  show (if ds.length < LIM then some (D.lst (ds ++ [d])) else none) = _
  rw [if_pos (show ds.length < LIM from h)]
/-- the loop over the seconds, in either text -/
theorem span_loop {body : MS} (ps : List Int) (A : Slot → List (Int × Int) → VL.Env) (l : List Int)
    (hg : ∀ t acc s, vs t → nameG 3 (.int s) (A t acc) = .ok .nx (A (.val (.int s)) acc))
    (hb : ∀ s acc, s ∈ l → acc.length ≤ 10000 → body (A (.val (.int s)) acc) = .ok .nx (A (.val (.int s)) (stp ps acc s))) (hl : l.length ≤ 10000) (t0 : Slot) (v0 : vs t0) :
    ∃ t, loopS (nameG 3) body (l.map .int) (A t0 []) = .ok .nx (A t (spans ps l)) := by
  obtain ⟨ρ', h1, t, rest, acc, e1, v1, e2, e3, e4, e5⟩ := loop_ind (g := nameG 3) (body := body) (fun es ρ => ∃ (t : Slot) (rest : List Int) (acc : List (Int × Int)), ρ = A t acc ∧ vs t ∧ es = rest.map D.int ∧ (∀ s ∈ rest, s ∈ l) ∧ rest.foldl (stp ps) acc = spans ps l ∧ acc.length + rest.length ≤ 10000)
    (fun d es ρ ⟨t, rest, acc, e1, v1, e2, e3, e4, e5⟩ => by
      cases rest with
      | nil => cases e2
      | cons s rest =>
        cases e2
        subst e1
        have hl2 : (s :: rest).length = rest.length + 1 := rfl
        refine ⟨_, .nx, _, hg t acc s v1, hb s acc (e3 s (by simp)) (by omega), .inl rfl, .val (.int s), rest, stp ps acc s, rfl, vs_v _, rfl, fun x hx => e3 x (by simp [hx]), e4, ?_⟩
        have := stp_len ps acc s
        omega)
    (l.map .int) (A t0 []) ⟨t0, l, [], rfl, v0, rfl, fun s hs => hs, rfl, by simpa using hl⟩
  have e6 : rest = [] := by cases rest with | nil => rfl | cons _ _ => cases e2
  subst e6
  have e4 : acc = spans ps l := e4
  subst e4
  exact ⟨t, by rw [h1, e1]⟩
def rngI (a b : Int) : List Int := (List.range (b - a).toNat).map fun (i : Nat) => a + (i : Int)
theorem rng_map (a b : Int) : rngD a b = (rngI a b).map .int := by unfold rngD rngI; rw [List.map_map]; rfl
theorem rng_mem {a b s : Int} (h : s ∈ rngI a b) : a ≤ s ∧ s < b := by
  obtain ⟨i, hi, rfl⟩ := List.mem_map.mp h
  have := List.mem_range.mp hi
  omega
theorem rng_len (a b : Int) : (rngI a b).length = (b - a).toNat := by unfold rngI; simp
theorem range2 {a b : Int} (ha : -1000000000 ≤ a ∧ a ≤ 1000000000) (hb : -1000000000 ≤ b ∧ b ≤ 1000000000) : range2D [.int a, .int b] = some ((rngI a b).map .int) := by
  have e : (2 : Int) ^ 62 = 4611686018427387904 := by decide
  have l1 : lim62 a = true := decide_eq_true ⟨by rw [e]; omega, by rw [e]; omega⟩
  have l2 : lim62 b = true := decide_eq_true ⟨by rw [e]; omega, by rw [e]; omega⟩
  show (if lim62 a && lim62 b then some (rngD a b) else none) = _
  rw [l1, l2, rng_map]; rfl
theorem lit_spans (ps : List Int) (P : Pat ps) (a b : Int) (a0 : 0 ≤ a) (a1 : a ≤ 1000) (b0 : 0 ≤ b) (b1 : b ≤ 1000) : callN tab (k + 6) 11 [.val (pt ps), .val (.int a), .val (.int b)] = .ok (.val (.tup ((spans ps (rngI a (b + 1))).map pr))) [.val (pt ps), .val (.int a), .val (.int b)] := by
  rw [cn rfl]
  have N := P.nums
  have hwa : callN tab (k + 5) 1 [.val (.int a), .val (.int 0), .val (.int 1000)] = .ok (.val (.bl true)) [.val (.int a), .val (.int 0), .val (.int 1000)] := by
    rw [is_within, decide_eq_true ⟨a0, a1⟩]
  have hwb : callN tab (k + 5) 1 [.val (.int b), .val (.int 0), .val (.int 1000)] = .ok (.val (.bl true)) [.val (.int b), .val (.int 0), .val (.int 1000)] := by
    rw [is_within, decide_eq_true ⟨b0, b1⟩]
  obtain ⟨t, hlp⟩ := span_loop (body := (ifS (binM eqD (binM ixD (varM 4) (binM modD (varM 3) (primM (one1 lenD) [varM 4]))) (constM (.int 1)) >>= asB) ((ifS (andT (binM gtD (primM (one1 lenD) [varM 5]) (constM (.int 0)) >>= asB) (binM eqD (binM ixD (binM ixD (varM 5) (unM negD (constM (.int 1)))) (constM (.int 1))) (binM subD (varM 3) (constM (.int 1))) >>= asB)) ((asgG (ixG 5 (unM negD (constM (.int 1)))) (tupM [binM ixD (binM ixD (varM 5) (unM negD (constM (.int 1)))) (constM (.int 0)), varM 3]))) ((dropS (appM 5 (tupM [varM 3, varM 3])))))) (pure .nx))) ps
    (fun t acc => [.val (pt ps), .val (.int a), .val (.int b), t, .own (.lst ((sg 0 ps).map .int)), .own (.lst (acc.map pr))]) (rngI a (b + 1)) (fun t acc s v => by simp [v]) (fun s acc hs hacc => by
      have hx := ix_sat P s
      have hm := modD_pos (i := s) (j := ps.sum) (by have := N.s2; omega)
      have hlen := N.len
      by_cases h : sat ps s = 1
      · rw [h] at hx
        rcases nil_or_snoc acc with rfl | ⟨xs, p, rfl⟩
        · rw [stp_nil h]
          have hp := push_ok (ds := []) (d := .tup [.int s, .int s]) (by decide)
          simp [hlen, hm, hx, hp]
        · rw [stp_snoc h]
          have hpos : 0 < ((xs ++ [p]).map pr).length := by simp
          have hne : (xs ++ [p]).map pr ≠ [] := by simp
          have h1 := last_ix (xs := xs) (p := p)
          have h2 := last_set (xs := xs) (p := p) (v := .tup [.int p.1, .int s])
          have h3 := push_ok (ds := (xs ++ [p]).map pr) (d := .tup [.int s, .int s]) (by simp at hacc ⊢; omega)
          have h4 : (xs ++ [p] ++ [(s, s)]).map pr = (xs ++ [p]).map pr ++ [.tup [.int s, .int s]] := by simp
          have h5 : (xs ++ [(p.1, s)]).map pr = xs.map pr ++ [.tup [.int p.1, .int s]] := by simp
          by_cases hp : p.2 = s - 1
          · rw [if_pos hp, h5]
            generalize (xs ++ [p]).map pr = ds at h1 h2 h3 hpos hne
            simp [hlen, hm, hx, hpos, hne, h1, h2, pair_0, pair_1, hp]
          · rw [if_neg hp, h4]
            generalize (xs ++ [p]).map pr = ds at h1 h2 h3 hpos hne
            have hp' : (p.2 == s - 1) = false := beq_eq_false_iff_ne.mpr hp
            simp [hlen, hm, hx, hpos, hne, h1, h3, pair_0, pair_1, hp']
      · rw [stp_no h]
        have h' : (sat ps s == 1) = false := beq_eq_false_iff_ne.mpr h
        simp [hlen, hm, hx, h']) (by rw [rng_len]; omega) (.val (.int b)) (vs_v _)
  rw [List.map_nil] at hlp
  have hr := range2 (a := a) (b := b + 1) (by omega) (by omega)
  refine run_ret (ρ' := [.val (pt ps), .val (.int a), .val (.int b), t, .own (.lst ((sg 0 ps).map .int)), .own (.lst ((spans ps (rngI a (b + 1))).map pr))]) rfl ?_ (by simp)
  generalize (spans ps (rngI a (b + 1))).map pr = out at hlp
  simp [b_lit_spans, check_ok ps P, itemsD, loopS_cons, hwa, hwb, signs_of ps P, hr, hlp, tupleD]
theorem toPys_pr (acc : List (Int × Int)) : toPys (acc.map pr) = some (acc.map fun p => PyData.tuple [.int p.1, .int p.2]) := by
  induction acc with
  | nil => rfl
  | cons p acc ih => show (match toPy (pr p), toPys (acc.map pr) with | some x, some xs => some (x :: xs) | _, _ => none) = _; rw [ih]; rfl
theorem shaped_pr (acc : List (Int × Int)) : SeqAt.shaped (.list (acc.map fun p => PyData.tuple [.int p.1, .int p.2])) = true := by
  have h1 : PyData.canLayAll0 (acc.map fun p => PyData.tuple [.int p.1, .int p.2]) = true := by
    induction acc with
    | nil => rfl
    | cons p acc ih => show (PyData.canLay0 (.tuple [.int p.1, .int p.2]) && PyData.canLayAll0 (acc.map fun p => PyData.tuple [.int p.1, .int p.2])) = true; rw [ih]; rfl
  have h2 : PyData.depthAll (acc.map fun p => PyData.tuple [.int p.1, .int p.2]) ≤ 1 := by
    induction acc with
    | nil => exact Nat.zero_le _
    | cons p acc ih =>
      have ih := ih (by
        have h1 : (PyData.canLay0 (.tuple [.int p.1, .int p.2]) && PyData.canLayAll0 (acc.map fun p => PyData.tuple [.int p.1, .int p.2])) = true := h1
        exact (Bool.and_eq_true_iff.mp h1).2)
      show max (PyData.depth (.tuple [.int p.1, .int p.2])) (PyData.depthAll (acc.map fun p => PyData.tuple [.int p.1, .int p.2])) ≤ 1
      have e : PyData.depth (.tuple [.int p.1, .int p.2]) = 1 := rfl
      omega
  show (PyData.canLayAll0 _ && decide (PyData.depthAll _ + 1 ≤ 64)) = true
  rw [h1, decide_eq_true (by omega)]; rfl
theorem ne_nil (acc : List (Int × Int)) : neD (.lst (acc.map pr)) (.lst []) = some (.val (.bl (!acc.isEmpty))) := by
  show (eqB (.lst (acc.map pr)) (.lst [])).map _ = _
  have e1 : toPy (.lst (acc.map pr)) = some (.list (acc.map fun p => PyData.tuple [.int p.1, .int p.2])) := by
    show (toPys (acc.map pr)).map PyData.list = _
    rw [toPys_pr]; rfl
  have e2 : toPy (.lst []) = some (.list []) := rfl
  unfold eqB
  rw [e1, e2]
  show Option.map _ (if (SeqAt.shaped (.list (acc.map fun p => PyData.tuple [.int p.1, .int p.2])) && SeqAt.shaped (.list [])) = true then some _ else none) = _
  rw [shaped_pr]
  have e3 : SeqAt.shaped (.list []) = true := rfl
  rw [e3]
  cases acc <;> rfl
theorem law_spans (ps : List Int) (P : Pat ps) (a b : Int) (a0 : 0 ≤ a) (a1 : a ≤ 1000) (b0 : 0 ≤ b) (b1 : b ≤ 1000) : callN tab (k + 1) 21 [.bow (.lst ((sg 0 ps).map .int)), .val (.int a), .val (.int b)] = .ok (.val (.tup ((spans ps (rngI a (b + 1))).map pr))) [.bow (.lst ((sg 0 ps).map .int)), .val (.int a), .val (.int b)] := by
  rw [cn rfl]
  have N := P.nums
  obtain ⟨t, hlp⟩ := span_loop (body := (ifS (binM eqD (binM ixD (varM 0) (binM modD (primM (one1 intD) [varM 3]) (varM 5))) (constM (.int 1)) >>= asB) ((ifS (andT (binM neD (varM 4) (lstM []) >>= asB) (binM eqD (binM ixD (binM ixD (varM 4) (unM negD (constM (.int 1)))) (constM (.int 1))) (binM subD (varM 3) (constM (.int 1))) >>= asB)) ((asgG (ixG 4 (unM negD (constM (.int 1)))) (tupM [binM ixD (binM ixD (varM 4) (unM negD (constM (.int 1)))) (constM (.int 0)), varM 3]))) ((dropS (appM 4 (tupM [varM 3, varM 3])))))) (pure .nx))) ps
    (fun t acc => [.bow (.lst ((sg 0 ps).map .int)), .val (.int a), .val (.int b), t, .own (.lst (acc.map pr)), .val (.int ps.sum)]) (rngI a (b + 1)) (fun t acc s v => by simp [v]) (fun s acc hs hacc => by
      have hx := ix_sat P s
      have hm := modD_pos (i := s) (j := ps.sum) (by have := N.s2; omega)
      by_cases h : sat ps s = 1
      · rw [h] at hx
        rcases nil_or_snoc acc with rfl | ⟨xs, p, rfl⟩
        · rw [stp_nil h]
          have hp := push_ok (ds := []) (d := .tup [.int s, .int s]) (by decide)
          have hn := ne_nil []
          rw [List.map_nil] at hn
          simp [hm, hx, hp, hn]
        · rw [stp_snoc h]
          have hn := ne_nil (xs ++ [p])
          have hne : (xs ++ [p]).isEmpty = false := by cases xs <;> rfl
          rw [hne] at hn
          have h1 := last_ix (xs := xs) (p := p)
          have h2 := last_set (xs := xs) (p := p) (v := .tup [.int p.1, .int s])
          have h3 := push_ok (ds := (xs ++ [p]).map pr) (d := .tup [.int s, .int s]) (by simp at hacc ⊢; omega)
          have h4 : (xs ++ [p] ++ [(s, s)]).map pr = (xs ++ [p]).map pr ++ [.tup [.int s, .int s]] := by simp
          have h5 : (xs ++ [(p.1, s)]).map pr = xs.map pr ++ [.tup [.int p.1, .int s]] := by simp
          by_cases hp : p.2 = s - 1
          · rw [if_pos hp, h5]
            generalize (xs ++ [p]).map pr = ds at h1 h2 h3 hn
            simp [hm, hx, hn, h1, h2, pair_0, pair_1, hp]
          · rw [if_neg hp, h4]
            generalize (xs ++ [p]).map pr = ds at h1 h2 h3 hn
            have hp' : (p.2 == s - 1) = false := beq_eq_false_iff_ne.mpr hp
            simp [hm, hx, hn, h1, h3, pair_0, pair_1, hp']
      · rw [stp_no h]
        have h' : (sat ps s == 1) = false := beq_eq_false_iff_ne.mpr h
        simp [hm, hx, h']) (by rw [rng_len]; omega) .un (.inl rfl)
  rw [List.map_nil] at hlp
  have hr := range2 (a := a) (b := b + 1) (by omega) (by omega)
  have hlen := N.len
  refine run_ret (ρ' := [.bow (.lst ((sg 0 ps).map .int)), .val (.int a), .val (.int b), t, .own (.lst ((spans ps (rngI a (b + 1))).map pr)), .val (.int ps.sum)]) rfl ?_ (by simp)
  generalize (spans ps (rngI a (b + 1))).map pr = out at hlp
  simp [b__law_spans, hlen, hr, hlp, tupleD]
/-! ### the next lit second -/
theorem sg_01 : ∀ (ps : List Int) (n : Nat), ∀ x ∈ sg n ps, x = 0 ∨ x = 1
  | [], _, _, h => by simp [sg] at h
  | p :: ps, n, x, h => by
    have h : x ∈ List.replicate p.toNat (1 - (n : Int) % 2) ++ sg (n + 1) ps := h
    rcases List.mem_append.mp h with h | h
    · have := (List.mem_replicate.mp h).2
      omega
    · exact sg_01 ps (n + 1) x h
theorem sat_01 {ps : List Int} (P : Pat ps) (s : Int) : sat ps s = 0 ∨ sat ps s = 1 := by
  have N := P.nums
  have h1 := Int.emod_nonneg s (b := ps.sum) (by have := N.s2; omega)
  have h2 := Int.emod_lt_of_pos s (b := ps.sum) (by have := N.s2; omega)
  have hi : (s % ps.sum).toNat < (sg 0 ps).length := by have := N.len; omega
  unfold sat
  rw [List.getD_eq_getElem?_getD, List.getElem?_eq_getElem hi]
  exact sg_01 ps 0 _ (List.getElem_mem hi)
theorem sat_0 {ps : List Int} (P : Pat ps) (s : Int) (h : s % ps.sum = 0) : sat ps s = 1 := by
  unfold sat
  rw [h]
  match ps, P with
  | [], P => have := P.l2; simp at this
  | x :: r, P =>
    have hx := P.b x (by simp)
    have e : x.toNat = (x.toNat - 1) + 1 := by omega
    show (List.replicate x.toNat (1 - ((0 : Nat) : Int) % 2) ++ sg 1 r).getD 0 0 = 1
    rw [e, List.replicate_succ]; rfl
/-- the waits until a lit second -/
def waits (ps : List Int) (s : Int) : List Int := (rngI 0 ps.sum).filter fun m => sat ps (s + m) == 1
theorem rng_cons {a b : Int} (h : a < b) : rngI a b = a :: rngI (a + 1) b := by
  unfold rngI
  have e : (b - a).toNat = (b - (a + 1)).toNat + 1 := by omega
  rw [e, List.range_succ_eq_map, List.map_cons, List.map_map]
  congr 1
  · simp
  · apply List.map_congr_left
    intro i _
    simp; omega
theorem first_wait {q : Int → Bool} : ∀ (n : Nat) (a b : Int), (b - a).toNat = n → (∃ m, a ≤ m ∧ m < b ∧ q m = true) → ∃ m rest, (rngI a b).filter q = m :: rest ∧ a ≤ m ∧ m < b ∧ q m = true ∧ ∀ j, a ≤ j → j < m → q j = false
  | 0, a, b, hn, ⟨m, h1, h2, _⟩ => by omega
  | n + 1, a, b, hn, ⟨m, h1, h2, h3⟩ => by
    rw [rng_cons (by omega), List.filter_cons]
    by_cases h : q a = true
    · exact ⟨a, _, by rw [if_pos h], by omega, by omega, h, fun j _ _ => by omega⟩
    · have hne : m ≠ a := fun z => h (z ▸ h3)
      obtain ⟨m', rest, e, g1, g2, g3, g4⟩ := first_wait n (a + 1) b (by omega) ⟨m, by omega, h2, h3⟩
      refine ⟨m', rest, by rw [if_neg h]; exact e, by omega, g2, g3, fun j j1 j2 => ?_⟩
      by_cases z : j = a
      · subst z; simpa using h
      · exact g4 j (by omega) j2
theorem waits_ok {ps : List Int} (P : Pat ps) (s : Int) : ∃ m rest, waits ps s = m :: rest ∧ 0 ≤ m ∧ m < ps.sum ∧ sat ps (s + m) = 1 ∧ ∀ j, 0 ≤ j → j < m → sat ps (s + j) = 0 := by
  have N := P.nums
  have h1 := Int.emod_nonneg (-s) (b := ps.sum) (by have := N.s2; omega)
  have h2 := Int.emod_lt_of_pos (-s) (b := ps.sum) (by have := N.s2; omega)
  obtain ⟨m, rest, e, g1, g2, g3, g4⟩ := first_wait (q := fun m => sat ps (s + m) == 1) _ 0 ps.sum rfl ⟨(-s) % ps.sum, h1, h2, by
    have hz : (s + (-s) % ps.sum) % ps.sum = 0 := by
      rw [Int.add_emod, Int.emod_emod_of_dvd _ (Int.dvd_refl _), ← Int.add_emod, Int.add_right_neg, Int.zero_emod]
    rw [beq_iff_eq]; exact sat_0 P _ hz⟩
  refine ⟨m, rest, e, g1, g2, by simpa using g3, fun j j1 j2 => ?_⟩
  have := g4 j j1 j2
  rcases sat_01 P (s + j) with h | h
  · exact h
  · rw [h] at this; simp at this
theorem next_lit (ps : List Int) (P : Pat ps) (s : Int) (h0 : 0 ≤ s) (h1 : s ≤ 1000000) (m : Int) (rest : List Int) (hw : waits ps s = m :: rest) : callN tab (k + 6) 12 [.val (pt ps), .val (.int s)] = .ok (.val (.int (s + m))) [.val (pt ps), .val (.int s)] := by
  rw [cn rfl]
  have N := P.nums
  obtain ⟨m', rest', e, g1, g2, g3, g4⟩ := waits_ok P s
  have e := hw.symm.trans e
  cases e
  have hwi : callN tab (k + 5) 1 [.val (.int s), .val (.int 0), .val (.int 1000000)] = .ok (.val (.bl true)) [.val (.int s), .val (.int 0), .val (.int 1000000)] := by
    rw [is_within, decide_eq_true ⟨h0, h1⟩]
  obtain ⟨ρ', hwl, c, e1, c0, c1, c2⟩ := while_end (t := binM eqD (binM ixD (varM 2) (binM modD (varM 1) (primM (one1 lenD) [varM 2]))) (constM (.int 0)) >>= asB) (body := augS 1 addI (constM (.int 1)))
    (fun n ρ => ∃ c : Int, ρ = [.val (pt ps), .val (.int (s + c)), .own (.lst ((sg 0 ps).map .int))] ∧ 0 ≤ c ∧ c ≤ m ∧ n = (m - c).toNat) (fun n ρ ⟨c, e1, c0, c1, c2⟩ => by
      subst e1
      have hx := ix_sat P (s + c)
      have hm := modD_pos (i := s + c) (j := ps.sum) (by omega)
      have hlen := N.len
      by_cases hc : c = m
      · subst hc
        rw [g3] at hx
        exact .inl ⟨_, by simp [hlen, hm, hx], ⟨c, rfl, c0, c1, by omega⟩, by omega⟩
      · have := g4 c c0 (by omega)
        rw [this] at hx
        exact .inr ⟨_, .nx, [.val (pt ps), .val (.int (s + (c + 1))), .own (.lst ((sg 0 ps).map .int))], (m - (c + 1)).toNat, by simp [hlen, hm, hx]; rfl, by simp [Int.add_assoc], .inl rfl, by omega, c + 1, rfl, by omega, by omega, rfl⟩)
    (n := m.toNat) (ρ := [.val (pt ps), .val (.int s), .own (.lst ((sg 0 ps).map .int))]) (by have := N.s240; omega) ⟨0, by simp, by omega, g1, by simp⟩
  subst e1
  have hc : c = m := by omega
  subst hc
  refine run_ret (ρ' := [.val (pt ps), .val (.int (s + c)), .own (.lst ((sg 0 ps).map .int))]) rfl ?_ (by simp)
  rw [augS_ap] at hwl
  simp [b_next_lit, check_ok ps P, hwi, signs_of ps P, hwl]
end Lw

namespace Lw
open PySem VL
variable {k : Nat}
theorem seq_nx {m n : MS} {ρ ρ' : VL.Env} (h : m ρ = .ok .nx ρ') : seqS m n ρ = n ρ' := by rw [seqS_ap, h, seq1_nx]
theorem is_int (i : Int) (k : Nat) : callN tab (k + 1) 15 [.val (.int i), .val (.int i)] = .ok (.val (.bl true)) [.val (.int i), .val (.int i)] := is_refl 0 _ (.int i) k
theorem is_bl (i : Bool) (k : Nat) : callN tab (k + 1) 15 [.val (.bl i), .val (.bl i)] = .ok (.val (.bl true)) [.val (.bl i), .val (.bl i)] := is_refl 0 _ (.bl i) k
theorem same_pt (n : Nat) (ns : List Int) (h : ns.length ≤ 100000) : Same (n + 1) (pt ns) := .tup (fun d hd => by obtain ⟨x, _, rfl⟩ := List.mem_map.mp hd; exact .int x) (by rw [List.length_map]; exact h)
theorem is_pt (ns : List Int) (h : ns.length ≤ 100000) (k : Nat) : callN tab (k + 2) 15 [.val (pt ns), .val (pt ns)] = .ok (.val (.bl true)) [.val (pt ns), .val (pt ns)] := is_refl 1 _ (same_pt 0 ns h) k
theorem same_pr (l : List (Int × Int)) (h : l.length ≤ 100000) : Same 2 (.tup (l.map pr)) := .tup (fun d hd => by
  obtain ⟨x, _, rfl⟩ := List.mem_map.mp hd
  exact .tup (fun e he => by
    rcases List.mem_cons.mp he with rfl | he
    · exact .int _
    · rcases List.mem_cons.mp he with rfl | he
      · exact .int _
      · cases he) (by show 2 ≤ 100000; decide)) (by rw [List.length_map]; exact h)
theorem is_prs (l : List (Int × Int)) (h : l.length ≤ 100000) (k : Nat) : callN tab (k + 3) 15 [.val (.tup (l.map pr)), .val (.tup (l.map pr))] = .ok (.val (.bl true)) [.val (.tup (l.map pr)), .val (.tup (l.map pr))] := is_refl 2 _ (same_pr l h) k
theorem foldl_len (ps : List Int) : ∀ (l : List Int) (acc : List (Int × Int)), (l.foldl (stp ps) acc).length ≤ acc.length + l.length
  | [], acc => by simp
  | s :: l, acc => by
    have h1 := foldl_len ps l (stp ps acc s)
    have h2 := stp_len ps acc s
    rw [List.foldl_cons, List.length_cons]; omega
theorem spans_len (ps : List Int) (l : List Int) : (spans ps l).length ≤ l.length := by
  have := foldl_len ps l []
  simpa [spans] using this
/-- what is done at one second -/
theorem told_second {ps : List Int} (P : Pat ps) (h : D) (s : Int) (h0 : 0 ≤ s) (h1 : s ≤ 1000000) (t : Slot) (vt : vs t ∨ ∃ d, t = .own d) :
    ∃ t', (vs t' ∨ ∃ d, t' = .own d) ∧ ((seqS (ifS (notT (truM (callM (callN tab (k + 10)) 15 [callM (callN tab (k + 10)) 9 [varM 1, varM 4], binM eqD (binM ixD (varM 2) (binM modD (primM (one1 intD) [varM 4]) (varM 3))) (constM (.int 1))]))) ((retS (constM (.bl false)))) (pure .nx))
    (seqS (asgS 8 (lcM (srcF range1D [varM 3]) (.one 9) (binM eqD (binM ixD (varM 2) (binM modD (primM (one1 intD) [binM addD (varM 4) (varM 9)]) (varM 3))) (constM (.int 1)) >>= asB) (varM 9) [9]))
    (ifS (notT (truM (callM (callN tab (k + 10)) 15 [callM (callN tab (k + 10)) 12 [varM 1, varM 4], binM addD (varM 4) (binM ixD (varM 8) (constM (.int 0)))]))) ((retS (constM (.bl false)))) (pure .nx)))))
    [.bow h, .val (pt ps), .own (.lst ((sg 0 ps).map .int)), .val (.int ps.sum), .val (.int s), .un, .un, .un, t, .un, .un, .un] = .ok .nx [.bow h, .val (pt ps), .own (.lst ((sg 0 ps).map .int)), .val (.int ps.sum), .val (.int s), .un, .un, .un, t', .un, .un, .un] := by
  have N := P.nums
  have hl : callN tab (k + 10) 9 [.val (pt ps), .val (.int s)] = .ok (.val (.bl (sat ps s == 1))) [.val (pt ps), .val (.int s)] := is_lit (k := k + 4) ps P s h0 h1
  have hx := ix_sat P s
  have hm := modD_pos (i := s) (j := ps.sum) (by have := N.s2; omega)
  have hb : callN tab (k + 10) 15 [.val (.bl (sat ps s == 1)), .val (.bl (sat ps s == 1))] = .ok (.val (.bl true)) [.val (.bl (sat ps s == 1)), .val (.bl (sat ps s == 1))] := is_bl (sat ps s == 1) (k + 9)
  obtain ⟨m, rest, hw, _, _, _, _⟩ := waits_ok P s
  have hn : callN tab (k + 10) 12 [.val (pt ps), .val (.int s)] = .ok (.val (.int (s + m))) [.val (pt ps), .val (.int s)] := next_lit (k := k + 4) ps P s h0 h1 m rest hw
  have hi : callN tab (k + 10) 15 [.val (.int (s + m)), .val (.int (s + m))] = .ok (.val (.bl true)) [.val (.int (s + m)), .val (.int (s + m))] := is_int (s + m) (k + 9)
  have hr : range1D [.int ps.sum] = some ((rngI 0 ps.sum).map .int) := by
    have e : (2 : Int) ^ 62 = 4611686018427387904 := by decide
    show (if lim62 ps.sum then some (rngD 0 ps.sum) else none) = _
    have l1 : lim62 ps.sum = true := decide_eq_true ⟨by rw [e]; have := N.s2; omega, by rw [e]; have := N.s240; omega⟩
    rw [if_pos l1, rng_map]
  have hall : ∀ m, ixD (.lst ((sg 0 ps).map .int)) (.int ((s + m) % ps.sum)) = some (.val (.int (sat ps (s + m)))) := fun m => ix_sat P (s + m)
  have hmm : ∀ m, modD (.int (s + m)) (.int ps.sum) = some (.val (.int ((s + m) % ps.sum))) := fun m => modD_pos (by have := N.s2; omega)
  have hg : ∀ t, lcGo (.one 9) (binM eqD (binM ixD (varM 2) (binM modD (primM (one1 intD) [binM addD (varM 4) (varM 9)]) (varM 3))) (constM (.int 1)) >>= asB) (varM 9) [9] ((rngI 0 ps.sum).map .int) [.bow h, .val (pt ps), .own (.lst ((sg 0 ps).map .int)), .val (.int ps.sum), .val (.int s), .un, .un, .un, t, .un, .un, .un] =
      .ok (.own (.lst (((rngI 0 ps.sum).map D.int).filterMap fun d => match d with | .int m => if (sat ps (s + m) == 1) = true then some (.int m) else none | _ => none))) [.bow h, .val (pt ps), .own (.lst ((sg 0 ps).map .int)), .val (.int ps.sum), .val (.int s), .un, .un, .un, t, .un, .un, .un] := fun t => by
    refine lcGo_pure _ (LIM_big (by rw [List.length_map, rng_len]; have := N.s240; omega)) (by simp [wipeE, restoreE]) fun d hd => ?_
    obtain ⟨x, hx', rfl⟩ := List.mem_map.mp hd
    refine ⟨.nx, [.bow h, .val (pt ps), .own (.lst ((sg 0 ps).map .int)), .val (.int ps.sum), .val (.int s), .un, .un, .un, t, .val (.int x), .un, .un], sat ps (s + x) == 1, [.bow h, .val (pt ps), .own (.lst ((sg 0 ps).map .int)), .val (.int ps.sum), .val (.int s), .un, .un, .un, t, .val (.int x), .un, .un], by simp [ctG, wipeE], by simp [hmm x, hall x], ?_⟩
    by_cases hq : (sat ps (s + x) == 1) = true
    · exact .inl ⟨hq, .int x, [.bow h, .val (pt ps), .own (.lst ((sg 0 ps).map .int)), .val (.int ps.sum), .val (.int s), .un, .un, .un, t, .val (.int x), .un, .un], by simp, by simp [wipeE], by simp only [hq, if_true]⟩
    · exact .inr ⟨by simpa using hq, by simp [wipeE], if_neg hq⟩
  have hfm : (((rngI 0 ps.sum).map D.int).filterMap fun d => match d with | .int m => if (sat ps (s + m) == 1) = true then some (D.int m) else none | _ => none) = .int m :: rest.map D.int := by
    have : ∀ l : List Int, ((l.map D.int).filterMap fun d => match d with | .int m => if (sat ps (s + m) == 1) = true then some (D.int m) else none | _ => none) = (l.filter fun m => sat ps (s + m) == 1).map D.int := by
      intro l
      induction l with
      | nil => rfl
      | cons x l ih =>
        rw [List.map_cons, List.filterMap_cons, List.filter_cons]
        by_cases hq : (sat ps (s + x) == 1) = true
        · simp only [hq, if_true]; rw [ih]; rfl
        · rw [if_neg hq, ← ih]; simp only [if_neg hq]
    rw [this]
    show (waits ps s).map D.int = _
    rw [hw]; rfl
  rw [hfm] at hg
  have h0' : ∀ r : List D, ixD (.lst (.int m :: r)) (.int 0) = some (.val (.int m)) := fun r => by
    show (L2.atI (D.int m :: r) 0).map RV.val = _
    unfold L2.atI L2.ixN
    rw [if_pos (by decide), if_pos (by simp <;> omega)]; rfl
  refine ⟨.own (.lst (.int m :: rest.map .int)), .inr ⟨_, rfl⟩, ?_⟩
  have hxe : (RV.val (.int (sat ps s))) = RV.val (.int (sat ps s)) := rfl
  have hbq : eqD (.int (sat ps s)) (.int 1) = some (.val (.bl (sat ps s == 1))) := rfl
  generalize (sat ps s == 1) = q at hl hb hbq
  generalize hS : D.lst ((sg 0 ps).map .int) = S at hx hall hg ⊢
  refine (seq_nx (ρ' := [.bow h, .val (pt ps), .own S, .val (.int ps.sum), .val (.int s), .un, .un, .un, t, .un, .un, .un]) ?_).trans ((seq_nx (ρ' := [.bow h, .val (pt ps), .own S, .val (.int ps.sum), .val (.int s), .un, .un, .un, .own (.lst (.int m :: rest.map .int)), .un, .un, .un]) ?_).trans ?_)
  · simp [hl, hx, hm, hbq, hb, -eqD_int]
  · rcases vt with vt | ⟨d, rfl⟩
    · simp [hr, hg, vt]
    · simp [hr, hg]
  · simp [hn, h0', hi]
def secondB (cf : CF) : MS := (seqS (ifS (notT (truM (callM cf 15 [callM cf 9 [varM 1, varM 4], binM eqD (binM ixD (varM 2) (binM modD (primM (one1 intD) [varM 4]) (varM 3))) (constM (.int 1))]))) ((retS (constM (.bl false)))) (pure .nx))
    (seqS (asgS 8 (lcM (srcF range1D [varM 3]) (.one 9) (binM eqD (binM ixD (varM 2) (binM modD (primM (one1 intD) [binM addD (varM 4) (varM 9)]) (varM 3))) (constM (.int 1)) >>= asB) (varM 9) [9]))
    (ifS (notT (truM (callM cf 15 [callM cf 12 [varM 1, varM 4], binM addD (varM 4) (binM ixD (varM 8) (constM (.int 0)))]))) ((retS (constM (.bl false)))) (pure .nx))))
theorem told_loop {ps : List Int} (P : Pat ps) (h : D) (ss : List Int) (hs : ∀ s ∈ ss, 0 ≤ s ∧ s ≤ 1000000) : ∃ s4 s8, vs s4 ∧ loopS (nameG 4) (secondB (callN tab (k + 10))) (ss.map .int) [.bow h, .val (pt ps), .own (.lst ((sg 0 ps).map .int)), .val (.int ps.sum), .un, .un, .un, .un, .un, .un, .un, .un] =
    .ok .nx [.bow h, .val (pt ps), .own (.lst ((sg 0 ps).map .int)), .val (.int ps.sum), s4, .un, .un, .un, s8, .un, .un, .un] := by
  obtain ⟨ρ', h1, rest, s4, s8, e1, v4, v8, e2, e3⟩ := loop_ind (g := nameG 4) (body := secondB (callN tab (k + 10))) (fun es ρ => ∃ (rest : List Int) (s4 s8 : Slot), es = rest.map D.int ∧ vs s4 ∧ (vs s8 ∨ ∃ d, s8 = .own d) ∧ (∀ s ∈ rest, 0 ≤ s ∧ s ≤ 1000000) ∧ ρ = [.bow h, .val (pt ps), .own (.lst ((sg 0 ps).map .int)), .val (.int ps.sum), s4, .un, .un, .un, s8, .un, .un, .un])
    (fun d es ρ ⟨rest, s4, s8, e1, v4, v8, e2, e3⟩ => by
      cases rest with
      | nil => cases e1
      | cons s rest =>
        cases e1
        subst e3
        obtain ⟨t', vt', ht⟩ := told_second (k := k) P h s (e2 s (by simp)).1 (e2 s (by simp)).2 s8 v8
        exact ⟨_, .nx, _, by simp [v4] <;> rfl, ht, .inl rfl, rest, .val (.int s), t', rfl, vs_v _, vt', fun x hx => e2 x (by simp [hx]), rfl⟩)
    (ss.map .int) _ ⟨ss, .un, .un, rfl, .inl rfl, .inl (.inl rfl), hs, rfl⟩
  subst e3
  exact ⟨s4, s8, v4, h1⟩
theorem stp3 {cf : CF} {PT h S : D} {q : Int} {b : Bool} (hroot : cf 19 [.val PT] = .ok (.val (.bl b)) [.val PT]) (hper : cf 8 [.val PT] = .ok (.val (.int q)) [.val PT]) (hi1 : cf 15 [.val (.int q), .val (.int q)] = .ok (.val (.bl true)) [.val (.int q), .val (.int q)]) :
  (ifS (andT (truM (callM cf 19 [varM 1])) (notT (truM (callM cf 15 [callM cf 8 [varM 1], varM 3])))) ((retS (constM (.bl false)))) (pure .nx)) [.bow h, .val PT, .own S, .val (.int q), .un, .un, .un, .un, .un, .un, .un, .un] = .ok .nx [.bow h, .val PT, .own S, .val (.int q), .un, .un, .un, .un, .un, .un, .un, .un] := by
  cases b <;> simp [hroot, hper, hi1]
theorem told {h : D} (H : Hd h) {ps : List Int} (P : Pat ps) : ∃ h', Hd h' ∧ callN tab (k + 11) 22 [.bow h, .val (pt ps)] = .ok (.val (.bl true)) [.bow h', .val (pt ps)] := by
  have N := P.nums
  have n1 := N.s2
  have n2 := N.s240
  have hsec : callN tab (k + 10) 18 [.val (pt ps)] = .ok (.own (.lst ((sg 0 ps).map .int))) [.val (pt ps)] := seconds (k := k + 9) ps P
  obtain ⟨b, hroot⟩ := is_root (k := k + 9) ps P
  have hroot : callN tab (k + 10) 19 [.val (pt ps)] = .ok (.val (.bl b)) [.val (pt ps)] := hroot
  have hper : callN tab (k + 10) 8 [.val (pt ps)] = .ok (.val (.int ps.sum)) [.val (pt ps)] := period (k := k + 4) ps P
  have hi1 : callN tab (k + 10) 15 [.val (.int ps.sum), .val (.int ps.sum)] = .ok (.val (.bl true)) [.val (.int ps.sum), .val (.int ps.sum)] := is_int ps.sum (k + 9)
  have hsh : callN tab (k + 10) 10 [.val (pt ps)] = .ok (.val (pt [(ev ps).sum / (Int.gcd (ev ps).sum ps.sum : Nat), ps.sum / (Int.gcd (ev ps).sum ps.sum : Nat)])) [.val (pt ps)] := lit_share (k := k + 4) ps P
  have hlow : callN tab (k + 10) 17 [.val (.int (ev ps).sum), .val (.int ps.sum)] = .ok (.val (pt [(ev ps).sum / (Int.gcd (ev ps).sum ps.sum : Nat), ps.sum / (Int.gcd (ev ps).sum ps.sum : Nat)])) [.val (.int (ev ps).sum), .val (.int ps.sum)] :=
    law_low (k := k + 9) (ev ps).sum ps.sum (by have := N.e1; omega) (by omega) (by have := N.e2; omega) (by omega)
  have hi2 : callN tab (k + 10) 15 [.val (pt [(ev ps).sum / (Int.gcd (ev ps).sum ps.sum : Nat), ps.sum / (Int.gcd (ev ps).sum ps.sum : Nat)]), .val (pt [(ev ps).sum / (Int.gcd (ev ps).sum ps.sum : Nat), ps.sum / (Int.gcd (ev ps).sum ps.sum : Nat)])] = .ok (.val (.bl true)) [.val (pt [(ev ps).sum / (Int.gcd (ev ps).sum ps.sum : Nat), ps.sum / (Int.gcd (ev ps).sum ps.sum : Nat)]), .val (pt [(ev ps).sum / (Int.gcd (ev ps).sum ps.sum : Nat), ps.sum / (Int.gcd (ev ps).sum ps.sum : Nat)])] := is_pt _ (by show 2 ≤ 100000; decide) (k + 8)
  generalize pt [(ev ps).sum / (Int.gcd (ev ps).sum ps.sum : Nat), ps.sum / (Int.gcd (ev ps).sum ps.sum : Nat)] = Q at hsh hlow hi2
  obtain ⟨h1, d1, H1, a1, b1, e1⟩ := draw (k := k + 9) H ps.sum (by omega) (by omega)
  obtain ⟨h2, d2, H2, a2, b2, e2⟩ := draw (k := k + 9) H1 1000 (by omega) (by omega)
  obtain ⟨h3, d3, H3, a3, b3, e3⟩ := draw (k := k + 9) H2 1000001 (by omega) (by omega)
  have e1 : callN tab (k + 10) 13 [.bow h, .val (.int ps.sum)] = .ok (.val (.int d1)) [.bow h1, .val (.int ps.sum)] := e1
  have e2 : callN tab (k + 10) 13 [.bow h1, .val (.int 1000)] = .ok (.val (.int d2)) [.bow h2, .val (.int 1000)] := e2
  have e3 : callN tab (k + 10) 13 [.bow h2, .val (.int 1000001)] = .ok (.val (.int d3)) [.bow h3, .val (.int 1000001)] := e3
  obtain ⟨h4, f, H4, a4, b4, e4⟩ := draw (k := k + 9) H3 1001 (by omega) (by omega)
  have e4 : callN tab (k + 10) 13 [.bow h3, .val (.int 1001)] = .ok (.val (.int f)) [.bow h4, .val (.int 1001)] := e4
  have hmin : ∃ q : Int, minD [.int 200, .int (1001 - f)] = some (.val (.int q)) ∧ 0 < q ∧ q ≤ 1001 - f ∧ q ≤ 200 := by
    refine ⟨if 1001 - f < 200 then 1001 - f else 200, rfl, ?_⟩
    split <;> omega
  obtain ⟨q, hq, q0, q1, q2⟩ := hmin
  obtain ⟨h5, g, H5, a5, b5, e5⟩ := draw (k := k + 9) H4 q (by omega) (by omega)
  have e5 : callN tab (k + 10) 13 [.bow h4, .val (.int q)] = .ok (.val (.int g)) [.bow h5, .val (.int q)] := e5
  have hsp : callN tab (k + 10) 11 [.val (pt ps), .val (.int f), .val (.int (f + g))] = .ok (.val (.tup ((spans ps (rngI f (f + g + 1))).map pr))) [.val (pt ps), .val (.int f), .val (.int (f + g))] := lit_spans (k := k + 4) ps P f (f + g) (by omega) (by omega) (by omega) (by omega)
  have hlsp : callN tab (k + 10) 21 [.bow (.lst ((sg 0 ps).map .int)), .val (.int f), .val (.int (f + g))] = .ok (.val (.tup ((spans ps (rngI f (f + g + 1))).map pr))) [.bow (.lst ((sg 0 ps).map .int)), .val (.int f), .val (.int (f + g))] := law_spans (k := k + 9) ps P f (f + g) (by omega) (by omega) (by omega) (by omega)
  have hlen1 : (spans ps (rngI f (f + g + 1))).length ≤ 2000 := by
    have := spans_len ps (rngI f (f + g + 1))
    rw [rng_len] at this; omega
  have hi3 : callN tab (k + 10) 15 [.val (.tup ((spans ps (rngI f (f + g + 1))).map pr)), .val (.tup ((spans ps (rngI f (f + g + 1))).map pr))] = .ok (.val (.bl true)) [.val (.tup ((spans ps (rngI f (f + g + 1))).map pr)), .val (.tup ((spans ps (rngI f (f + g + 1))).map pr))] := is_prs _ (by omega) (k + 7)
  obtain ⟨s4, s8, v4, hloop⟩ := told_loop (k := k) P h3 [0, d1, d2, d3, 1000000] (fun s hs => by
    simp only [List.mem_cons, List.not_mem_nil, or_false] at hs
    rcases hs with rfl | rfl | rfl | rfl | rfl <;> omega)
  have htot : tot (spans ps (rngI f (f + g + 1))) = (((rngI f (f + g + 1)).filter fun s => sat ps s == 1).length : Int) := by
    have := tot_foldl ps (rngI f (f + g + 1)) []
    simpa [spans, tot] using this
  have hrr := range2 (a := f) (b := f + g + 1) (by omega) (by omega)
  have hlit : ∀ s ∈ rngI f (f + g + 1), callN tab (k + 10) 9 [.val (pt ps), .val (.int s)] = .ok (.val (.bl (sat ps s == 1))) [.val (pt ps), .val (.int s)] := fun s hs => by
    have := rng_mem hs
    exact is_lit (k := k + 4) ps P s (by omega) (by omega)
  have hrl : (rngI f (f + g + 1)).length ≤ 2000 := by rw [rng_len]; omega
  generalize rngI f (f + g + 1) = L at hsp hlsp hi3 hlen1 htot hrr hlit hrl
  generalize spans ps L = sp at hsp hlsp hi3 hlen1 htot
  refine ⟨h5, H5, ?_⟩
  rw [cn rfl]
  generalize hcf : callN tab (k + 10) = cf at *
  have hsum : sumD (.lst ((sg 0 ps).map .int)) = some (.val (.int (ev ps).sum)) := by rw [sumD_lst, N.sum]
  have hlenS : lenD (.lst ((sg 0 ps).map .int)) = some (.val (.int ps.sum)) := by rw [lenD_lst, List.length_map, N.len]
  generalize D.lst ((sg 0 ps).map .int) = S at hsec hlsp hloop hsum hlenS
  generalize pt ps = PT at *
  generalize ps.sum = sz at *
  refine run_ret (ρ' := [.bow h5, .val PT, .own S, .val (.int sz), s4, .val (.int f), .val (.int (f + g)), .val (.int (tot sp)), s8, .un, .un, .un]) rfl ?_ (by simp)
  show b__law_is_told_right cf [.bow h, .val PT, .un, .un, .un, .un, .un, .un, .un, .un, .un, .un] = _
  unfold b__law_is_told_right
  refine (seq_nx (ρ' := [.bow h, .val PT, .own S, .un, .un, .un, .un, .un, .un, .un, .un, .un]) (by simp [hsec])).trans ?_
  refine (seq_nx (ρ' := [.bow h, .val PT, .own S, .val (.int sz), .un, .un, .un, .un, .un, .un, .un, .un]) (by simp [hlenS])).trans ?_
  refine (seq_nx (ρ' := [.bow h, .val PT, .own S, .val (.int sz), .un, .un, .un, .un, .un, .un, .un, .un]) (stp3 hroot hper hi1)).trans ?_
  refine (seq_nx (ρ' := [.bow h, .val PT, .own S, .val (.int sz), .un, .un, .un, .un, .un, .un, .un, .un]) (by simp [hsh, hsum, hlow, hi2])).trans ?_
  refine (seq_nx (ρ' := [.bow h3, .val PT, .own S, .val (.int sz), s4, .un, .un, .un, s8, .un, .un, .un]) ?_).trans ?_
  · have hsrc : seqM (tupM [constM (.int 0), callM cf 13 [varM 0, varM 3], callM cf 13 [varM 0, constM (.int 1000)], callM cf 13 [varM 0, binM addD (binM powD (constM (.int 10)) (constM (.int 6))) (constM (.int 1))], binM powD (constM (.int 10)) (constM (.int 6))]) [.bow h, .val PT, .own S, .val (.int sz), .un, .un, .un, .un, .un, .un, .un, .un] = .ok (([0, d1, d2, d3, 1000000] : List Int).map .int) [.bow h3, .val PT, .own S, .val (.int sz), .un, .un, .un, .un, .un, .un, .un, .un] := by
      simp [e1, e2, e3, itemsD]
    rw [forS_ap, hsrc, for1_ok]
    exact hloop
  refine (seq_nx (ρ' := [.bow h4, .val PT, .own S, .val (.int sz), s4, .val (.int f), .un, .un, s8, .un, .un, .un]) (by simp [e4])).trans ?_
  refine (seq_nx (ρ' := [.bow h5, .val PT, .own S, .val (.int sz), s4, .val (.int f), .val (.int (f + g)), .un, s8, .un, .un, .un]) (by simp [hq, e5])).trans ?_
  refine (seq_nx (ρ' := [.bow h5, .val PT, .own S, .val (.int sz), s4, .val (.int f), .val (.int (f + g)), .un, s8, .un, .un, .un]) (by simp [hsp, hlsp, hi3])).trans ?_
  refine (seq_nx (ρ' := [.bow h5, .val PT, .own S, .val (.int sz), s4, .val (.int f), .val (.int (f + g)), .val (.int (tot sp)), s8, .un, .un, .un]) ?_).trans ?_
  · have hg : lcGo (.many [10, 11]) (pure true) (binM addD (binM subD (varM 11) (varM 10)) (constM (.int 1))) [10, 11] (sp.map pr) [.bow h5, .val PT, .own S, .val (.int sz), s4, .val (.int f), .val (.int (f + g)), .un, s8, .un, .un, .un] = .ok (.own (.lst ((sp.map pr).filterMap fun d => match d with | .tup [.int a, .int b] => some (.int (b - a + 1)) | _ => none))) [.bow h5, .val PT, .own S, .val (.int sz), s4, .val (.int f), .val (.int (f + g)), .un, s8, .un, .un, .un] := by
      refine lcGo_pure _ (by rw [List.length_map]; exact LIM_big (by omega)) (by simp [wipeE, restoreE]) fun d hd => ?_
      obtain ⟨p, hp, rfl⟩ := List.mem_map.mp hd
      exact ⟨.nx, [.bow h5, .val PT, .own S, .val (.int sz), s4, .val (.int f), .val (.int (f + g)), .un, s8, .un, .val (.int p.1), .val (.int p.2)], true, [.bow h5, .val PT, .own S, .val (.int sz), s4, .val (.int f), .val (.int (f + g)), .un, s8, .un, .val (.int p.1), .val (.int p.2)], by simp [ctG, wipeE], rfl, .inl ⟨rfl, .int (p.2 - p.1 + 1), [.bow h5, .val PT, .own S, .val (.int sz), s4, .val (.int f), .val (.int (f + g)), .un, s8, .un, .val (.int p.1), .val (.int p.2)], by simp, by simp [wipeE], rfl⟩⟩
    have hfm : ((sp.map pr).filterMap fun d => match d with | .tup [.int a, .int b] => some (D.int (b - a + 1)) | _ => none) = (sp.map fun p => p.2 - p.1 + 1).map D.int := by
      clear hsp hlsp hi3 hlen1 htot hg
      induction sp with
      | nil => rfl
      | cons p sp ih => rw [List.map_cons, List.filterMap_cons]; show _ :: _ = _; rw [ih]; rfl
    rw [hfm] at hg
    have hsl := sumD_lst (sp.map fun p => p.2 - p.1 + 1)
    have htd : tot sp = (sp.map fun p => p.2 - p.1 + 1).sum := rfl
    rw [htd]
    generalize (sp.map fun p => p.2 - p.1 + 1) = T at hg hsl
    simp [hsp, itemsD, hg, hsl]
  · have hg : lcGo (.one 4) (truM (callM cf 9 [varM 1, varM 4])) (varM 4) [4] (L.map D.int) [.bow h5, .val PT, .own S, .val (.int sz), s4, .val (.int f), .val (.int (f + g)), .val (.int (tot sp)), s8, .un, .un, .un] = .ok (.own (.lst ((L.map D.int).filterMap fun d => match d with | .int m => if (sat ps m == 1) = true then some (.int m) else none | _ => none))) [.bow h5, .val PT, .own S, .val (.int sz), s4, .val (.int f), .val (.int (f + g)), .val (.int (tot sp)), s8, .un, .un, .un] := by
      refine lcGo_pure _ (by rw [List.length_map]; exact LIM_big (by omega)) (by simp [wipeE, restoreE]) fun d hd => ?_
      obtain ⟨x, hx', rfl⟩ := List.mem_map.mp hd
      have hlx := hlit x hx'
      refine ⟨.nx, [.bow h5, .val PT, .own S, .val (.int sz), .val (.int x), .val (.int f), .val (.int (f + g)), .val (.int (tot sp)), s8, .un, .un, .un], sat ps x == 1, [.bow h5, .val PT, .own S, .val (.int sz), .val (.int x), .val (.int f), .val (.int (f + g)), .val (.int (tot sp)), s8, .un, .un, .un], by simp [ctG, wipeE], ?_, ?_⟩
      · generalize (sat ps x == 1) = c at hlx
        simp [hlx]
      · by_cases hq : (sat ps x == 1) = true
        · exact .inl ⟨hq, .int x, [.bow h5, .val PT, .own S, .val (.int sz), .val (.int x), .val (.int f), .val (.int (f + g)), .val (.int (tot sp)), s8, .un, .un, .un], by simp, by simp [wipeE], by simp only [hq, if_true]⟩
        · exact .inr ⟨by simpa using hq, by simp [wipeE], if_neg hq⟩
    have hfm : ((L.map D.int).filterMap fun d => match d with | .int m => if (sat ps m == 1) = true then some (D.int m) else none | _ => none) = (L.filter fun m => sat ps m == 1).map D.int := by
      clear hsp hlsp hi3 htot hrr hlit hrl hg
      induction L with
      | nil => rfl
      | cons x l ih =>
        rw [List.map_cons, List.filterMap_cons, List.filter_cons]
        by_cases hq : (sat ps x == 1) = true
        · simp only [hq, if_true]; rw [ih]; rfl
        · rw [if_neg hq, ← ih]; simp only [if_neg hq]
    rw [hfm] at hg
    have hll : lenD (.lst ((L.filter fun m => sat ps m == 1).map D.int)) = some (.val (.int (tot sp))) := by
      rw [lenD_lst, List.length_map, htot]
    generalize ((L.filter fun m => sat ps m == 1).map D.int) = T at hg hll
    simp [hrr, hg, hll]
end Lw

namespace Lw
open PySem VL
theorem pat2 (a b : Int) (ha : 1 ≤ a ∧ a ≤ 20) (hb : 1 ≤ b ∧ b ≤ 20) : Pat [a, b] := ⟨fun x hx => by
  simp only [List.mem_cons, List.not_mem_nil, or_false] at hx
  rcases hx with rfl | rfl <;> assumption, by simp, by simp, by simp⟩
def T23 : D := .tup [.int 2, .int 3]
theorem law_body {cf : CF} {SC T h1 h2 h3 h' d1 p d : D} (a1 : cf 14 [.bow h1, .val (.lst [.int 2, .int 5, .int 20])] = .ok (.val d1) [.bow h2, .val (.lst [.int 2, .int 5, .int 20])]) (a2 : cf 20 [.bow h2, .val (.int 6), .val d1] = .ok (.val p) [.bow h3, .val (.int 6), .val d1]) (a3 : cf 22 [.bow h3, .val p] = .ok (.val (.bl true)) [.bow h', .val p]) :
    (ifS (notT (truM (callM cf 22 [varM 1, callM cf 20 [varM 1, constM (.int 6), callM cf 14 [varM 1, lstM [constM (.int 2), constM (.int 5), constM (.int 20)]]]]))) ((retS (constM (.bl false)))) (pure .nx)) [.val SC, .own h1, .val T, .val d] = .ok .nx [.val SC, .own h', .val T, .val d] := by
  simp [a1, a2, a3]
theorem known_ok {cf : CF} {SC h S1 S2 P3 P4 : D} (l1 : cf 9 [.val P3, .val (.int 1)] = .ok (.val (.bl true)) [.val P3, .val (.int 1)]) (l2 : cf 9 [.val P3, .val (.int 2)] = .ok (.val (.bl false)) [.val P3, .val (.int 2)])
    (l3 : cf 12 [.val P3, .val (.int 2)] = .ok (.val (.int 5)) [.val P3, .val (.int 2)]) (l4 : cf 10 [.val P4] = .ok (.val S1) [.val P4]) (l5 : cf 11 [.val P3, .val (.int 1), .val (.int 6)] = .ok (.val S2) [.val P3, .val (.int 1), .val (.int 6)])
    (h3 : P3 = .tup [.int 2, .int 3]) (h4 : P4 = .tup [.int 2, .int 4]) :
    asgS 2 (lstM [callM cf 9 [tupM [constM (.int 2), constM (.int 3)], constM (.int 1)], callM cf 9 [tupM [constM (.int 2), constM (.int 3)], constM (.int 2)], callM cf 12 [tupM [constM (.int 2), constM (.int 3)], constM (.int 2)], callM cf 10 [tupM [constM (.int 2), constM (.int 4)]], callM cf 11 [tupM [constM (.int 2), constM (.int 3)], constM (.int 1), constM (.int 6)]]) [.val SC, .own h, .un, .un] = .ok .nx [.val SC, .own h, .own (.lst [.bl true, .bl false, .int 5, S1, S2]), .un] := by
  subst h3 h4
  simp [l1, l2, l3, l4, l5]
theorem zip_bow (cf : CF) (ds : List D) (hl : ds.length ≤ 100000) (h : ∀ d ∈ ds, cf 15 [.val d, .val d] = .ok (.val (.bl true)) [.val d, .val d]) :
    primM (one1 allD) [lcM (srcF zipD [varM 0, varM 1]) (.many [2, 3]) (pure true) (callM cf 15 [varM 2, varM 3]) [2, 3]] [.bow (.lst ds), .val (.lst ds), .un, .un] = .ok (.val (.bl true)) [.bfz (.lst ds), .val (.lst ds), .un, .un] := by
  have hg : lcGo (.many [2, 3]) (pure true) (callM cf 15 [varM 2, varM 3]) [2, 3] (zipL ds ds) [.bfz (.lst ds), .val (.lst ds), .un, .un] = .ok (.own (.lst ((zipL ds ds).filterMap fun _ => some (D.bl true)))) [.bfz (.lst ds), .val (.lst ds), .un, .un] := by
    refine lcGo_pure _ (LIM_big (by rw [zipL_len]; omega)) (by simp [wipeE, restoreE]) fun d hd => ?_
    obtain ⟨e, he, rfl⟩ := zip_mem hd
    exact ⟨.nx, [.bfz (.lst ds), .val (.lst ds), .val e, .val e], true, [.bfz (.lst ds), .val (.lst ds), .val e, .val e], by simp [ctG, wipeE], rfl, .inl ⟨rfl, .bl true, [.bfz (.lst ds), .val (.lst ds), .val e, .val e], by simp [h e he], by simp [wipeE], rfl⟩⟩
  rw [fm_true] at hg
  have ha := all_true (zipL ds ds)
  generalize ((zipL ds ds).map fun _ => true) = bs at hg ha
  have hzz : zipD [.lst ds, .lst ds] = some (zipL ds ds) := rfl
  simp [hzz, hg, allD_lst, ha]
theorem is_bow (n : Nat) (ds : List D) (hl : ds.length ≤ 100000) (hm : ∀ d ∈ ds, Same n d) (k : Nat) : callN tab (k + n + 2) 15 [.bow (.lst ds), .val (.lst ds)] = .ok (.val (.bl true)) [.bfz (.lst ds), .val (.lst ds)] := by
  rw [cn rfl]
  have hz := zip_bow (callN tab (k + n + 1)) ds hl fun d hd => is_refl n d (hm d hd) k
  refine run_ret (ρ' := [.bfz (.lst ds), .val (.lst ds), .un, .un]) rfl ?_ (by simp)
  show b__law_is (callN tab (k + n + 1)) [.bow (.lst ds), .val (.lst ds), .un, .un] = _
  generalize callN tab (k + n + 1) = cf at hz
  unfold b__law_is
  generalize primM (one1 allD) [lcM (srcF zipD [varM 0, varM 1]) (.many [2, 3]) (pure true) (callM cf 15 [varM 2, varM 3]) [2, 3]] = m at hz
  simp [isiD, isPlain, Ty.has, hz]
theorem known_is {cf : CF} {SC h : D} (l7 : cf 15 [.bow (.lst [.bl true, .bl false, .int 5, .tup [.int 1, .int 3], .tup [.tup [.int 1, .int 1], .tup [.int 5, .int 6]]]), .val (.lst [.bl true, .bl false, .int 5, .tup [.int 1, .int 3], .tup [.tup [.int 1, .int 1], .tup [.int 5, .int 6]]])] = .ok (.val (.bl true)) [.bfz (.lst [.bl true, .bl false, .int 5, .tup [.int 1, .int 3], .tup [.tup [.int 1, .int 1], .tup [.int 5, .int 6]]]), .val (.lst [.bl true, .bl false, .int 5, .tup [.int 1, .int 3], .tup [.tup [.int 1, .int 1], .tup [.int 5, .int 6]]])])
    (l6 : cf 8 [.val (.tup [.int 2, .int 3])] = .ok (.val (.int 5)) [.val (.tup [.int 2, .int 3])]) :
    (ifS (orT (notT (truM (callM cf 15 [varM 2, lstM [constM (.bl true), constM (.bl false), constM (.int 5), tupM [constM (.int 1), constM (.int 3)], tupM [tupM [constM (.int 1), constM (.int 1)], tupM [constM (.int 5), constM (.int 6)]]]]))) (binM neD (callM cf 8 [tupM [constM (.int 2), constM (.int 3)]]) (constM (.int 5)) >>= asB)) ((retS (constM (.bl false)))) (pure .nx)) [.val SC, .own h, .own (.lst [.bl true, .bl false, .int 5, .tup [.int 1, .int 3], .tup [.tup [.int 1, .int 1], .tup [.int 5, .int 6]]]), .un] = .ok .nx [.val SC, .own h, .val (.lst [.bl true, .bl false, .int 5, .tup [.int 1, .int 3], .tup [.tup [.int 1, .int 1], .tup [.int 5, .int 6]]]), .un] := by
  simp [l6, l7]
theorem math0 (k : Nat) (ns : List Int) (hl : ns.length ≤ 63) : ∃ ρ', callN tab (k + 13) 23 [.val (.scr ns)] = .ok (.val (.bl true)) ρ' := by
  have P23 : Pat [2, 3] := pat2 2 3 (by omega) (by omega)
  have P24 : Pat [2, 4] := pat2 2 4 (by omega) (by omega)
  obtain ⟨h, H, hh⟩ := hand_ok (k := k + 11) ns hl
  have hh : callN tab (k + 12) 16 [.val (.scr ns)] = .ok (.own h) [.val (.scr ns)] := hh
  have l1 : callN tab (k + 12) 9 [.val (.tup [.int 2, .int 3]), .val (.int 1)] = .ok (.val (.bl true)) [.val (.tup [.int 2, .int 3]), .val (.int 1)] := is_lit (k := k + 6) [2, 3] P23 1 (by omega) (by omega)
  have l2 : callN tab (k + 12) 9 [.val (.tup [.int 2, .int 3]), .val (.int 2)] = .ok (.val (.bl false)) [.val (.tup [.int 2, .int 3]), .val (.int 2)] := is_lit (k := k + 6) [2, 3] P23 2 (by omega) (by omega)
  have l3 : callN tab (k + 12) 12 [.val (.tup [.int 2, .int 3]), .val (.int 2)] = .ok (.val (.int 5)) [.val (.tup [.int 2, .int 3]), .val (.int 2)] := next_lit (k := k + 6) [2, 3] P23 2 (by omega) (by omega) 3 [4] (by decide)
  have l4 : callN tab (k + 12) 10 [.val (.tup [.int 2, .int 4])] = .ok (.val (.tup [.int 1, .int 3])) [.val (.tup [.int 2, .int 4])] := lit_share (k := k + 6) [2, 4] P24
  have l5 : callN tab (k + 12) 11 [.val (.tup [.int 2, .int 3]), .val (.int 1), .val (.int 6)] = .ok (.val (.tup [.tup [.int 1, .int 1], .tup [.int 5, .int 6]])) [.val (.tup [.int 2, .int 3]), .val (.int 1), .val (.int 6)] := lit_spans (k := k + 6) [2, 3] P23 1 6 (by omega) (by omega) (by omega) (by omega)
  have l6 : callN tab (k + 12) 8 [.val (.tup [.int 2, .int 3])] = .ok (.val (.int 5)) [.val (.tup [.int 2, .int 3])] := period (k := k + 6) [2, 3] P23
  have l7 : callN tab (k + 12) 15 [.bow (.lst [.bl true, .bl false, .int 5, .tup [.int 1, .int 3], .tup [.tup [.int 1, .int 1], .tup [.int 5, .int 6]]]), .val (.lst [.bl true, .bl false, .int 5, .tup [.int 1, .int 3], .tup [.tup [.int 1, .int 1], .tup [.int 5, .int 6]]])] = .ok (.val (.bl true)) [.bfz (.lst [.bl true, .bl false, .int 5, .tup [.int 1, .int 3], .tup [.tup [.int 1, .int 1], .tup [.int 5, .int 6]]]), .val (.lst [.bl true, .bl false, .int 5, .tup [.int 1, .int 3], .tup [.tup [.int 1, .int 1], .tup [.int 5, .int 6]]])] := by
    have s1 : Same 2 (.tup [.int 1, .int 3]) := same_pt 1 [1, 3] (by show 2 ≤ 100000; decide)
    have s2 : Same 2 (.tup [.tup [.int 1, .int 1], .tup [.int 5, .int 6]]) := same_pr [(1, 1), (5, 6)] (by show 2 ≤ 100000; decide)
    refine is_bow 2 _ (by show 5 ≤ 100000; decide) (fun d hd => ?_) (k + 8)
    simp only [List.mem_cons, List.not_mem_nil, or_false] at hd
    rcases hd with rfl | rfl | rfl | rfl | rfl
    · exact .bl _
    · exact .bl _
    · exact .int _
    · exact s1
    · exact s2
  have step : ∀ h, Hd h → ∃ h', Hd h' ∧ ∃ d h2, callN tab (k + 12) 14 [.bow h, .val (.lst [.int 2, .int 5, .int 20])] = .ok (.val d) [.bow h2, .val (.lst [.int 2, .int 5, .int 20])] ∧ ∃ p h3, callN tab (k + 12) 20 [.bow h2, .val (.int 6), .val d] = .ok (.val p) [.bow h3, .val (.int 6), .val d] ∧ callN tab (k + 12) 22 [.bow h3, .val p] = .ok (.val (.bl true)) [.bow h', .val p] := fun h H => by
    obtain ⟨h2, d, H2, hd, e2⟩ := some_ (k := k + 10) H [.int 2, .int 5, .int 20] (by decide) (by decide)
    have hd' : ∃ m : Int, d = .int m ∧ 1 ≤ m ∧ m ≤ 20 := by
      simp only [List.mem_cons, List.not_mem_nil, or_false] at hd
      rcases hd with rfl | rfl | rfl
      · exact ⟨2, rfl, by omega, by omega⟩
      · exact ⟨5, rfl, by omega, by omega⟩
      · exact ⟨20, rfl, by omega, by omega⟩
    obtain ⟨m, rfl, m0, m1⟩ := hd'
    obtain ⟨h3, ps, H3, P, e3⟩ := pattern (k := k + 10) H2 m m0 m1
    obtain ⟨h4, H4, e4⟩ := told (k := k + 1) H3 P
    exact ⟨h4, H4, _, h2, e2, _, h3, e3, e4⟩
  have hr : range1D [.int 5] = some [.int 0, .int 1, .int 2, .int 3, .int 4] := rfl
  rw [cn rfl]
  generalize callN tab (k + 12) = cf at *
  obtain ⟨ρ', hlp, h', v3, H', w3, e1⟩ := loop_ind (g := nameG 3) (body := ifS (notT (truM (callM cf 22 [varM 1, callM cf 20 [varM 1, constM (.int 6), callM cf 14 [varM 1, lstM [constM (.int 2), constM (.int 5), constM (.int 20)]]]]))) ((retS (constM (.bl false)))) (pure .nx))
    (fun es ρ => ∃ h' v3, Hd h' ∧ vs v3 ∧ ρ = [.val (.scr ns), .own h', .val (.lst [.bl true, .bl false, .int 5, .tup [.int 1, .int 3], .tup [.tup [.int 1, .int 1], .tup [.int 5, .int 6]]]), v3])
    (fun d es ρ ⟨h1, v3, H1, w3, e1⟩ => by
      subst e1
      obtain ⟨h', H', d1, h2, a1, p, h3, a2, a3⟩ := step h1 H1
      refine ⟨[.val (.scr ns), .own h1, .val (.lst [.bl true, .bl false, .int 5, .tup [.int 1, .int 3], .tup [.tup [.int 1, .int 1], .tup [.int 5, .int 6]]]), .val d], .nx, [.val (.scr ns), .own h', .val (.lst [.bl true, .bl false, .int 5, .tup [.int 1, .int 3], .tup [.tup [.int 1, .int 1], .tup [.int 5, .int 6]]]), .val d], by simp [w3], law_body a1 a2 a3, .inl rfl, h', _, H', vs_v _, rfl⟩)
    [.int 0, .int 1, .int 2, .int 3, .int 4] [.val (.scr ns), .own h, .val (.lst [.bl true, .bl false, .int 5, .tup [.int 1, .int 3], .tup [.tup [.int 1, .int 1], .tup [.int 5, .int 6]]]), .un] ⟨h, .un, H, .inl rfl, rfl⟩
  subst e1
  have k1 := known_ok (SC := .scr ns) (h := h) l1 l2 l3 l4 l5 rfl rfl
  have k2 := known_is (SC := .scr ns) (h := h) l7 l6
  have k0 : asgS 1 (callM cf 16 [varM 0]) [.val (.scr ns), .un, .un, .un] = .ok .nx [.val (.scr ns), .own h, .un, .un] := by simp [hh]
  have k3 : forS (srcF range1D [constM (.int 5)]) (nameG 3) (ifS (notT (truM (callM cf 22 [varM 1, callM cf 20 [varM 1, constM (.int 6), callM cf 14 [varM 1, lstM [constM (.int 2), constM (.int 5), constM (.int 20)]]]]))) ((retS (constM (.bl false)))) (pure .nx)) [.val (.scr ns), .own h, .val (.lst [.bl true, .bl false, .int 5, .tup [.int 1, .int 3], .tup [.tup [.int 1, .int 1], .tup [.int 5, .int 6]]]), .un] = .ok .nx [.val (.scr ns), .own h', .val (.lst [.bl true, .bl false, .int 5, .tup [.int 1, .int 3], .tup [.tup [.int 1, .int 1], .tup [.int 5, .int 6]]]), v3] := by
    have hs : srcF range1D [constM (.int 5)] [.val (.scr ns), .own h, .val (.lst [.bl true, .bl false, .int 5, .tup [.int 1, .int 3], .tup [.tup [.int 1, .int 1], .tup [.int 5, .int 6]]]), .un] = .ok [.int 0, .int 1, .int 2, .int 3, .int 4] [.val (.scr ns), .own h, .val (.lst [.bl true, .bl false, .int 5, .tup [.int 1, .int 3], .tup [.tup [.int 1, .int 1], .tup [.int 5, .int 6]]]), .un] := by
      simp only [srcF_ap, argsM_cons, argsM_nil, opd_ap, constM_ap, opd1_val, args1_ok, args2_ok, src1_ok, frzs_cons, frzs_nil, frz_val, frzs1_ok, frzs2_ok, src2_ok, hr, liftR_some]
    rw [forS_ap, hs, for1_ok]
    exact hlp
  refine ⟨_, run_ret (ρ' := [.val (.scr ns), .own h', .val (.lst [.bl true, .bl false, .int 5, .tup [.int 1, .int 3], .tup [.tup [.int 1, .int 1], .tup [.int 5, .int 6]]]), v3]) rfl ?_ rfl⟩
  show b_law cf [.val (.scr ns), .un, .un, .un] = _
  unfold b_law
  exact (seq_nx k0).trans ((seq_nx k1).trans ((seq_nx k2).trans ((seq_nx k3).trans rfl)))
theorem math (ns : List Int) (hl : ns.length ≤ 63) : ∃ ρ', callN tab 40 23 [.val (.scr ns)] = .ok (.val (.bl true)) ρ' := math0 27 ns hl
end Lw

namespace Lw
open PySem L2 VL PySem.Spec PyProof PyProof.Rows
structure DefF (K : PySem.W.Frag) (x : Str) (st : Stmt) : Prop where
  ex : ∃ (f : Addr) (oc : Value) (od : Option Addr) (kV doc pm : Value) (an : Option Addr) (cdv ct : Value) (osl : Array (Option Value)), PySem.W.nsIn K mainGlobals x = some (some (.ref f)) ∧
    K.lookup f = some ⟨oc, od, .func (PySem.W.fnOf x x (defArgs st) (defBody st) (defScope st) .none kV doc pm an cdv ct), osl⟩ ∧ PySem.W.codeIn K cdv x = true ∧ PySem.W.keepIn K (.ref f) = true
theorem cI {K : PySem.W.Frag} {h : Heap} {mg : Str → Option Value} {x : Str} {v : Value} {i : Int} (KX : K.In h) (G : h.Ns mainGlobals mg) (a : PySem.W.nsIn K mainGlobals x = some (some v)) (e : ∃ t, v = .int i t) : ∃ t, mg x = some (.int i t) := by
  obtain ⟨t, rfl⟩ := e
  exact ⟨t, PySem.W.mg_of KX G a⟩
theorem cS {K : PySem.W.Frag} {h : Heap} {mg : Str → Option Value} {x : Str} {v : Value} {i : Str} (KX : K.In h) (G : h.Ns mainGlobals mg) (a : PySem.W.nsIn K mainGlobals x = some (some v)) (e : ∃ t, v = .str i t) : ∃ t, mg x = some (.str i t) := by
  obtain ⟨t, rfl⟩ := e
  exact ⟨t, PySem.W.mg_of KX G a⟩
theorem DefF.of {K : PySem.W.Frag} {x : Str} {st : Stmt} {f : Addr} {oc : Value} {od : Option Addr} {kV doc pm : Value} {an : Option Addr} {cdv ct : Value} {osl : Array (Option Value)} (a : PySem.W.nsIn K mainGlobals x = some (some (.ref f)))
    (l : K.lookup f = some ⟨oc, od, .func (PySem.W.fnOf x x (defArgs st) (defBody st) (defScope st) .none kV doc pm an cdv ct), osl⟩) (c : PySem.W.codeIn K cdv x = true) (k : PySem.W.keepIn K (.ref f) = true) : DefF K x st := ⟨_, _, _, _, _, _, _, _, _, _, a, l, c, k⟩
theorem DefF.fn {K : PySem.W.Frag} {x : Str} {st : Stmt} {h : Heap} {mg : Str → Option Value} (KX : K.In h) (G : h.Ns mainGlobals mg) (d : DefF K x st) : ∃ f fd, Fun K x x st f fd ∧ mg x = some (.ref f) := by
  obtain ⟨f, oc, od, kV, doc, pm, an, cdv, ct, osl, a, l, c, k⟩ := d.ex
  exact ⟨f, _, fun_mk l c k, PySem.W.mg_of KX G a⟩
theorem defs_at {P : Program} {w : World} {K : PySem.W.Frag} {mg : Str → Option Value} {h : Heap} (KX : K.In h) (Gh : h.Ns mainGlobals mg) (G : Gm mg) {C : Cfg} (d_is_integer : DefF K "is_integer" st_is_integer) (d_is_within : DefF K "is_within" st_is_within) (d_are_within : DefF K "are_within" st_are_within) (d_common_part : DefF K "common_part" st_common_part) (d_fraction : DefF K "fraction" st_fraction) (d_is_pattern : DefF K "is_pattern" st_is_pattern) (d_check_pattern : DefF K "check_pattern" st_check_pattern) (d_signs_of : DefF K "signs_of" st_signs_of) (d_period : DefF K "period" st_period) (d_is_lit : DefF K "is_lit" st_is_lit) (d_lit_share : DefF K "lit_share" st_lit_share) (d_lit_spans : DefF K "lit_spans" st_lit_spans) (d_next_lit : DefF K "next_lit" st_next_lit) (d__law_draw : DefF K "_law_draw" st__law_draw) (d__law_some : DefF K "_law_some" st__law_some) (d__law_is : DefF K "_law_is" st__law_is) (d__law_hand : DefF K "_law_hand" st__law_hand) (d__law_low : DefF K "_law_low" st__law_low) (d__law_seconds : DefF K "_law_seconds" st__law_seconds) (d__law_is_root : DefF K "_law_is_root" st__law_is_root) (d__law_pattern : DefF K "_law_pattern" st__law_pattern) (d__law_spans : DefF K "_law_spans" st__law_spans) (d__law_is_told_right : DefF K "_law_is_told_right" st__law_is_told_right) (d_law : DefF K "law" st_law) : DefAt P w K mg C TT tab := by
  intro i x np hT
  match i, hT with
  | 0, hT =>
    cases hT
    obtain ⟨f, fd, F, hm⟩ := d_is_integer.fn KX Gh
    exact ⟨1, b_is_integer, rfl, st_is_integer, f, fd, _, _, F, sc_is_integer, rfl, rfl, hm, F.binds fun _ _ _ _ _ _ us hl => (match us, hl with | [_], _ => rfl), fun base cf cdv A outer s H E vx => w_is_integer G base cf cdv A outer s H E vx⟩
  | 1, hT =>
    cases hT
    obtain ⟨f, fd, F, hm⟩ := d_is_within.fn KX Gh
    exact ⟨3, b_is_within, rfl, st_is_within, f, fd, _, _, F, sc_is_within, rfl, rfl, hm, F.binds fun _ _ _ _ _ _ us hl => (match us, hl with | [_, _, _], _ => rfl), fun base cf cdv A outer s H E vx => w_is_within G base cf cdv A outer s H E vx⟩
  | 2, hT =>
    cases hT
    obtain ⟨f, fd, F, hm⟩ := d_are_within.fn KX Gh
    exact ⟨4, b_are_within, rfl, st_are_within, f, fd, _, _, F, sc_are_within, rfl, rfl, hm, F.binds fun _ _ _ _ _ _ us hl => (match us, hl with | [_, _, _], _ => rfl), fun base cf cdv A outer s H E vx => w_are_within G base cf cdv A outer s H E vx⟩
  | 3, hT =>
    cases hT
    obtain ⟨f, fd, F, hm⟩ := d_common_part.fn KX Gh
    exact ⟨2, b_common_part, rfl, st_common_part, f, fd, _, _, F, sc_common_part, rfl, rfl, hm, F.binds fun _ _ _ _ _ _ us hl => (match us, hl with | [_, _], _ => rfl), fun base cf cdv A outer s H E vx => w_common_part G base cf cdv A outer s H E vx⟩
  | 4, hT =>
    cases hT
    obtain ⟨f, fd, F, hm⟩ := d_fraction.fn KX Gh
    exact ⟨4, b_fraction, rfl, st_fraction, f, fd, _, _, F, sc_fraction, rfl, rfl, hm, F.binds fun _ _ _ _ _ _ us hl => (match us, hl with | [_, _], _ => rfl), fun base cf cdv A outer s H E vx => w_fraction G base cf cdv A outer s H E vx⟩
  | 5, hT =>
    cases hT
    obtain ⟨f, fd, F, hm⟩ := d_is_pattern.fn KX Gh
    exact ⟨1, b_is_pattern, rfl, st_is_pattern, f, fd, _, _, F, sc_is_pattern, rfl, rfl, hm, F.binds fun _ _ _ _ _ _ us hl => (match us, hl with | [_], _ => rfl), fun base cf cdv A outer s H E vx => w_is_pattern G base cf cdv A outer s H E vx⟩
  | 6, hT =>
    cases hT
    obtain ⟨f, fd, F, hm⟩ := d_check_pattern.fn KX Gh
    exact ⟨1, b_check_pattern, rfl, st_check_pattern, f, fd, _, _, F, sc_check_pattern, rfl, rfl, hm, F.binds fun _ _ _ _ _ _ us hl => (match us, hl with | [_], _ => rfl), fun base cf cdv A outer s H E vx => w_check_pattern G base cf cdv A outer s H E vx⟩
  | 7, hT =>
    cases hT
    obtain ⟨f, fd, F, hm⟩ := d_signs_of.fn KX Gh
    exact ⟨4, b_signs_of, rfl, st_signs_of, f, fd, _, _, F, sc_signs_of, rfl, rfl, hm, F.binds fun _ _ _ _ _ _ us hl => (match us, hl with | [_], _ => rfl), fun base cf cdv A outer s H E vx => w_signs_of G base cf cdv A outer s H E vx⟩
  | 8, hT =>
    cases hT
    obtain ⟨f, fd, F, hm⟩ := d_period.fn KX Gh
    exact ⟨1, b_period, rfl, st_period, f, fd, _, _, F, sc_period, rfl, rfl, hm, F.binds fun _ _ _ _ _ _ us hl => (match us, hl with | [_], _ => rfl), fun base cf cdv A outer s H E vx => w_period G base cf cdv A outer s H E vx⟩
  | 9, hT =>
    cases hT
    obtain ⟨f, fd, F, hm⟩ := d_is_lit.fn KX Gh
    exact ⟨2, b_is_lit, rfl, st_is_lit, f, fd, _, _, F, sc_is_lit, rfl, rfl, hm, F.binds fun _ _ _ _ _ _ us hl => (match us, hl with | [_, _], _ => rfl), fun base cf cdv A outer s H E vx => w_is_lit G base cf cdv A outer s H E vx⟩
  | 10, hT =>
    cases hT
    obtain ⟨f, fd, F, hm⟩ := d_lit_share.fn KX Gh
    exact ⟨1, b_lit_share, rfl, st_lit_share, f, fd, _, _, F, sc_lit_share, rfl, rfl, hm, F.binds fun _ _ _ _ _ _ us hl => (match us, hl with | [_], _ => rfl), fun base cf cdv A outer s H E vx => w_lit_share G base cf cdv A outer s H E vx⟩
  | 11, hT =>
    cases hT
    obtain ⟨f, fd, F, hm⟩ := d_lit_spans.fn KX Gh
    exact ⟨6, b_lit_spans, rfl, st_lit_spans, f, fd, _, _, F, sc_lit_spans, rfl, rfl, hm, F.binds fun _ _ _ _ _ _ us hl => (match us, hl with | [_, _, _], _ => rfl), fun base cf cdv A outer s H E vx => w_lit_spans G base cf cdv A outer s H E vx⟩
  | 12, hT =>
    cases hT
    obtain ⟨f, fd, F, hm⟩ := d_next_lit.fn KX Gh
    exact ⟨3, b_next_lit, rfl, st_next_lit, f, fd, _, _, F, sc_next_lit, rfl, rfl, hm, F.binds fun _ _ _ _ _ _ us hl => (match us, hl with | [_, _], _ => rfl), fun base cf cdv A outer s H E vx => w_next_lit G base cf cdv A outer s H E vx⟩
  | 13, hT =>
    cases hT
    obtain ⟨f, fd, F, hm⟩ := d__law_draw.fn KX Gh
    exact ⟨5, b__law_draw, rfl, st__law_draw, f, fd, _, _, F, sc__law_draw, rfl, rfl, hm, F.binds fun _ _ _ _ _ _ us hl => (match us, hl with | [_, _], _ => rfl), fun base cf cdv A outer s H E vx => w__law_draw G base cf cdv A outer s H E vx⟩
  | 14, hT =>
    cases hT
    obtain ⟨f, fd, F, hm⟩ := d__law_some.fn KX Gh
    exact ⟨2, b__law_some, rfl, st__law_some, f, fd, _, _, F, sc__law_some, rfl, rfl, hm, F.binds fun _ _ _ _ _ _ us hl => (match us, hl with | [_, _], _ => rfl), fun base cf cdv A outer s H E vx => w__law_some G base cf cdv A outer s H E vx⟩
  | 15, hT =>
    cases hT
    obtain ⟨f, fd, F, hm⟩ := d__law_is.fn KX Gh
    exact ⟨4, b__law_is, rfl, st__law_is, f, fd, _, _, F, sc__law_is, rfl, rfl, hm, F.binds fun _ _ _ _ _ _ us hl => (match us, hl with | [_, _], _ => rfl), fun base cf cdv A outer s H E vx => w__law_is G base cf cdv A outer s H E vx⟩
  | 16, hT =>
    cases hT
    obtain ⟨f, fd, F, hm⟩ := d__law_hand.fn KX Gh
    exact ⟨3, b__law_hand, rfl, st__law_hand, f, fd, _, _, F, sc__law_hand, rfl, rfl, hm, F.binds fun _ _ _ _ _ _ us hl => (match us, hl with | [_], _ => rfl), fun base cf cdv A outer s H E vx => w__law_hand G base cf cdv A outer s H E vx⟩
  | 17, hT =>
    cases hT
    obtain ⟨f, fd, F, hm⟩ := d__law_low.fn KX Gh
    exact ⟨4, b__law_low, rfl, st__law_low, f, fd, _, _, F, sc__law_low, rfl, rfl, hm, F.binds fun _ _ _ _ _ _ us hl => (match us, hl with | [_, _], _ => rfl), fun base cf cdv A outer s H E vx => w__law_low G base cf cdv A outer s H E vx⟩
  | 18, hT =>
    cases hT
    obtain ⟨f, fd, F, hm⟩ := d__law_seconds.fn KX Gh
    exact ⟨4, b__law_seconds, rfl, st__law_seconds, f, fd, _, _, F, sc__law_seconds, rfl, rfl, hm, F.binds fun _ _ _ _ _ _ us hl => (match us, hl with | [_], _ => rfl), fun base cf cdv A outer s H E vx => w__law_seconds G base cf cdv A outer s H E vx⟩
  | 19, hT =>
    cases hT
    obtain ⟨f, fd, F, hm⟩ := d__law_is_root.fn KX Gh
    exact ⟨3, b__law_is_root, rfl, st__law_is_root, f, fd, _, _, F, sc__law_is_root, rfl, rfl, hm, F.binds fun _ _ _ _ _ _ us hl => (match us, hl with | [_], _ => rfl), fun base cf cdv A outer s H E vx => w__law_is_root G base cf cdv A outer s H E vx⟩
  | 20, hT =>
    cases hT
    obtain ⟨f, fd, F, hm⟩ := d__law_pattern.fn KX Gh
    exact ⟨4, b__law_pattern, rfl, st__law_pattern, f, fd, _, _, F, sc__law_pattern, rfl, rfl, hm, F.binds fun _ _ _ _ _ _ us hl => (match us, hl with | [_, _, _], _ => rfl), fun base cf cdv A outer s H E vx => w__law_pattern G base cf cdv A outer s H E vx⟩
  | 21, hT =>
    cases hT
    obtain ⟨f, fd, F, hm⟩ := d__law_spans.fn KX Gh
    exact ⟨6, b__law_spans, rfl, st__law_spans, f, fd, _, _, F, sc__law_spans, rfl, rfl, hm, F.binds fun _ _ _ _ _ _ us hl => (match us, hl with | [_, _, _], _ => rfl), fun base cf cdv A outer s H E vx => w__law_spans G base cf cdv A outer s H E vx⟩
  | 22, hT =>
    cases hT
    obtain ⟨f, fd, F, hm⟩ := d__law_is_told_right.fn KX Gh
    exact ⟨12, b__law_is_told_right, rfl, st__law_is_told_right, f, fd, _, _, F, sc__law_is_told_right, rfl, rfl, hm, F.binds fun _ _ _ _ _ _ us hl => (match us, hl with | [_, _], _ => rfl), fun base cf cdv A outer s H E vx => w__law_is_told_right G base cf cdv A outer s H E vx⟩
  | 23, hT =>
    cases hT
    obtain ⟨f, fd, F, hm⟩ := d_law.fn KX Gh
    exact ⟨4, b_law, rfl, st_law, f, fd, _, _, F, sc_law, rfl, rfl, hm, F.binds fun _ _ _ _ _ _ us hl => (match us, hl with | [_], _ => rfl), fun base cf cdv A outer s H E vx => w_law G base cf cdv A outer s H E vx⟩
  | k + 24, hT => cases hT
theorem law_fn {l : PySem.W.OpenLaw} {w : World} {K : PySem.W.Frag} {h : Heap} {mg : Str → Option Value} {fa : Addr} (KX : K.In h) (Gh : h.Ns mainGlobals mg) (hfa : mg "law" = some (.ref fa)) (G : Gm mg) (d_is_integer : DefF K "is_integer" st_is_integer) (d_is_within : DefF K "is_within" st_is_within) (d_are_within : DefF K "are_within" st_are_within) (d_common_part : DefF K "common_part" st_common_part) (d_fraction : DefF K "fraction" st_fraction) (d_is_pattern : DefF K "is_pattern" st_is_pattern) (d_check_pattern : DefF K "check_pattern" st_check_pattern) (d_signs_of : DefF K "signs_of" st_signs_of) (d_period : DefF K "period" st_period) (d_is_lit : DefF K "is_lit" st_is_lit) (d_lit_share : DefF K "lit_share" st_lit_share) (d_lit_spans : DefF K "lit_spans" st_lit_spans) (d_next_lit : DefF K "next_lit" st_next_lit) (d__law_draw : DefF K "_law_draw" st__law_draw) (d__law_some : DefF K "_law_some" st__law_some) (d__law_is : DefF K "_law_is" st__law_is) (d__law_hand : DefF K "_law_hand" st__law_hand) (d__law_low : DefF K "_law_low" st__law_low) (d__law_seconds : DefF K "_law_seconds" st__law_seconds) (d__law_is_root : DefF K "_law_is_root" st__law_is_root) (d__law_pattern : DefF K "_law_pattern" st__law_pattern) (d__law_spans : DefF K "_law_spans" st__law_spans) (d__law_is_told_right : DefF K "_law_is_told_right" st__law_is_told_right) (d_law : DefF K "law" st_law) (k : Nat) :
    ∃ fd : FuncData, (∀ (s : Shared) (v : Value), BindsTo s fd ⟨[v], []⟩ [("script", v)]) ∧ ∀ base : Heap, K.In base → base.Ns mainGlobals mg → FnOk l.prog w K mg base (L2.CX l.prog w) (k + 1) fa fd ["script"] (spOf ⟨K, fun _ _ _ _ => False⟩ (callN tab (k + 1)) 23 1) := by
  have T := fun (base : Heap) => tab_ok (base := base) (C := ⟨K, fun _ _ _ _ => False⟩) (P := l.prog) (w := w) rfl (defs_at KX Gh G d_is_integer d_is_within d_are_within d_common_part d_fraction d_is_pattern d_check_pattern d_signs_of d_period d_is_lit d_lit_share d_lit_spans d_next_lit d__law_draw d__law_some d__law_is d__law_hand d__law_low d__law_seconds d__law_is_root d__law_pattern d__law_spans d__law_is_told_right d_law)
  obtain ⟨f, oc, od, kV, doc, pm, an, cdv, ct, osl, a, lk, c, kp⟩ := d_law.ex
  have e := hfa.symm.trans (PySem.W.mg_of KX Gh a)
  cases e
  have F := fun_mk lk c kp
  refine ⟨_, fun s v => .of_eq rfl, fun base _ _ => def_ok (C := ⟨K, fun _ _ _ _ => False⟩) (np := 1) (ns := 4) F sc_law rfl rfl rfl (callN_succ (f := fun cf => runDef 4 (b_law cf)) rfl) (T base k) fun cdv A outer s H E vx => w_law G base _ cdv A outer s H E vx⟩
end Lw
open PySem PySem.W PyProof.Rows
set_option maxRecDepth 100000 in
set_option maxHeartbeats 0 in
theorem PySem.Challenge.cw_tidequays_k12_whole_lights_second_by_sec_holds : PySem.Challenge.rw_tidequays_k12_whole_lights_second_by_sec.Holds := by
  w_on; o_law; k_head; (case hw => w_witness2)
  k_fill
  refine VL.law_walk (l := PySem.Challenge.rw_tidequays_k12_whole_lights_second_by_sec) (tab := Lw.tab) (k := 39 + 1) (i := 23) rfl rfl ⟨rfl, by decide, by decide⟩ (fun w h Y => PySem.W.kIn_of Y) Lw.math ?F
  case F =>
    intro w mg fa h KX G hmg
    have c_MOST_PARTS : ∃ t, mg "MOST_PARTS" = some (.int 12 t) := by (refine' Lw.cI KX G ?a ?e; (case a => k_is); (case e => exact ⟨_, rfl⟩))
    have c_MOST_SECONDS : ∃ t, mg "MOST_SECONDS" = some (.int 20 t) := by (refine' Lw.cI KX G ?a ?e; (case a => k_is); (case e => exact ⟨_, rfl⟩))
    have c_MOST_SECOND : ∃ t, mg "MOST_SECOND" = some (.int 1000000 t) := by (refine' Lw.cI KX G ?a ?e; (case a => k_is); (case e => exact ⟨_, rfl⟩))
    have c_MOST_SPAN : ∃ t, mg "MOST_SPAN" = some (.int 1000 t) := by (refine' Lw.cI KX G ?a ?e; (case a => k_is); (case e => exact ⟨_, rfl⟩))
    refine' Lw.law_fn KX G hmg ⟨PySem.W.mg_none_of KX G ?z_isinstance, PySem.W.mg_none_of KX G ?z_bool, PySem.W.mg_none_of KX G ?z_int, PySem.W.mg_none_of KX G ?z_all, PySem.W.mg_none_of KX G ?z_tuple, PySem.W.mg_none_of KX G ?z_abs, PySem.W.mg_none_of KX G ?z_len, PySem.W.mg_none_of KX G ?z_enumerate, PySem.W.mg_none_of KX G ?z_sum, PySem.W.mg_none_of KX G ?z_range, PySem.W.mg_none_of KX G ?z_str, PySem.W.mg_none_of KX G ?z_list, PySem.W.mg_none_of KX G ?z_zip, PySem.W.mg_none_of KX G ?z_min, c_MOST_PARTS, c_MOST_SECONDS, c_MOST_SECOND, c_MOST_SPAN⟩ ?d_is_integer ?d_is_within ?d_are_within ?d_common_part ?d_fraction ?d_is_pattern ?d_check_pattern ?d_signs_of ?d_period ?d_is_lit ?d_lit_share ?d_lit_spans ?d_next_lit ?d__law_draw ?d__law_some ?d__law_is ?d__law_hand ?d__law_low ?d__law_seconds ?d__law_is_root ?d__law_pattern ?d__law_spans ?d__law_is_told_right ?d_law 39
    (case d_is_integer => (refine' Lw.DefF.of ?a ?l ?c ?k; (case a => k_is); (case l => k_is); (case c => k_is); (case k => k_is)))
    (case d_is_within => (refine' Lw.DefF.of ?a ?l ?c ?k; (case a => k_is); (case l => k_is); (case c => k_is); (case k => k_is)))
    (case d_are_within => (refine' Lw.DefF.of ?a ?l ?c ?k; (case a => k_is); (case l => k_is); (case c => k_is); (case k => k_is)))
    (case d_common_part => (refine' Lw.DefF.of ?a ?l ?c ?k; (case a => k_is); (case l => k_is); (case c => k_is); (case k => k_is)))
    (case d_fraction => (refine' Lw.DefF.of ?a ?l ?c ?k; (case a => k_is); (case l => k_is); (case c => k_is); (case k => k_is)))
    (case d_is_pattern => (refine' Lw.DefF.of ?a ?l ?c ?k; (case a => k_is); (case l => k_is); (case c => k_is); (case k => k_is)))
    (case d_check_pattern => (refine' Lw.DefF.of ?a ?l ?c ?k; (case a => k_is); (case l => k_is); (case c => k_is); (case k => k_is)))
    (case d_signs_of => (refine' Lw.DefF.of ?a ?l ?c ?k; (case a => k_is); (case l => k_is); (case c => k_is); (case k => k_is)))
    (case d_period => (refine' Lw.DefF.of ?a ?l ?c ?k; (case a => k_is); (case l => k_is); (case c => k_is); (case k => k_is)))
    (case d_is_lit => (refine' Lw.DefF.of ?a ?l ?c ?k; (case a => k_is); (case l => k_is); (case c => k_is); (case k => k_is)))
    (case d_lit_share => (refine' Lw.DefF.of ?a ?l ?c ?k; (case a => k_is); (case l => k_is); (case c => k_is); (case k => k_is)))
    (case d_lit_spans => (refine' Lw.DefF.of ?a ?l ?c ?k; (case a => k_is); (case l => k_is); (case c => k_is); (case k => k_is)))
    (case d_next_lit => (refine' Lw.DefF.of ?a ?l ?c ?k; (case a => k_is); (case l => k_is); (case c => k_is); (case k => k_is)))
    (case d__law_draw => (refine' Lw.DefF.of ?a ?l ?c ?k; (case a => k_is); (case l => k_is); (case c => k_is); (case k => k_is)))
    (case d__law_some => (refine' Lw.DefF.of ?a ?l ?c ?k; (case a => k_is); (case l => k_is); (case c => k_is); (case k => k_is)))
    (case d__law_is => (refine' Lw.DefF.of ?a ?l ?c ?k; (case a => k_is); (case l => k_is); (case c => k_is); (case k => k_is)))
    (case d__law_hand => (refine' Lw.DefF.of ?a ?l ?c ?k; (case a => k_is); (case l => k_is); (case c => k_is); (case k => k_is)))
    (case d__law_low => (refine' Lw.DefF.of ?a ?l ?c ?k; (case a => k_is); (case l => k_is); (case c => k_is); (case k => k_is)))
    (case d__law_seconds => (refine' Lw.DefF.of ?a ?l ?c ?k; (case a => k_is); (case l => k_is); (case c => k_is); (case k => k_is)))
    (case d__law_is_root => (refine' Lw.DefF.of ?a ?l ?c ?k; (case a => k_is); (case l => k_is); (case c => k_is); (case k => k_is)))
    (case d__law_pattern => (refine' Lw.DefF.of ?a ?l ?c ?k; (case a => k_is); (case l => k_is); (case c => k_is); (case k => k_is)))
    (case d__law_spans => (refine' Lw.DefF.of ?a ?l ?c ?k; (case a => k_is); (case l => k_is); (case c => k_is); (case k => k_is)))
    (case d__law_is_told_right => (refine' Lw.DefF.of ?a ?l ?c ?k; (case a => k_is); (case l => k_is); (case c => k_is); (case k => k_is)))
    (case d_law => (refine' Lw.DefF.of ?a ?l ?c ?k; (case a => k_is); (case l => k_is); (case c => k_is); (case k => k_is)))
    (case z_isinstance => k_is)
    (case z_bool => k_is)
    (case z_int => k_is)
    (case z_all => k_is)
    (case z_tuple => k_is)
    (case z_abs => k_is)
    (case z_len => k_is)
    (case z_enumerate => k_is)
    (case z_sum => k_is)
    (case z_range => k_is)
    (case z_str => k_is)
    (case z_list => k_is)
    (case z_zip => k_is)
    (case z_min => k_is)
