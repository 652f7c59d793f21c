import PyProof.Rows.All
import Wide.All
import OpenK.AllK
import Wide.FinOn
import HandS.ForMost
import HandS.WordsExc
import HandS.Wide
import HandS.Zip
import HandS.IsInst
import HandS.Conv
import HandS.CallSlots
import HandS.Walk
import HandS.Deep
import HandS.Flow
import HandS.Style
import HandS.TupAny
import HandS.TupMul
import HandS.TupLe
import HandS.SortInts
import HandS.RevRange
import KE.GoesEnum
import KE.GoesMore
import KE.GoesZip
import HandS.Small
import HandS.WordsDict
import HandS.More
import HandS.Ends
import HandS.RaiseMore
import HandS.SortOrd
import PySem.Challenge.RW_tidequays_k32_whole_cranes_on_one_rail
set_option Elab.async false
set_option maxRecDepth 100000
set_option maxHeartbeats 4000000
set_option linter.all false
/-! VL: a layer of plain values over the hand layer. Part a: data, slots, the monad, what represents what. -/
namespace VL
open PySem L2

/-- plain data -/
inductive D where
  | non | bl (b : Bool) | int (i : Int) | str (s : Str)
  | tup (xs : List D) | lst (xs : List D) | dic (kvs : List (Sum Int Str × D)) | dit (kvs : List (List (Sum Int Str) × D))
  | scr (ns : List Int) | ty (n : String)
  | fn (i : Nat) | cls (i : Nat) | obj (c : Nat) (fs : List D)
  deriving Inhabited

/-- a name's state: unbound; a value; a list of one's own; a list lent by the caller, still lent, or frozen by now -/
inductive Slot where
  | un | val (d : D) | own (d : D) | bow (d : D) | bfz (d : D)
  deriving Inhabited
abbrev Env := List Slot

inductive Res (α : Type) where
  | stuck
  | ok (a : α) (r : Env)
  | exc (x : D) (r : Env)
def M (α : Type) := Env → Res α
def Res.bnd {α β : Type} (r : Res α) (f : α → M β) : Res β :=
  match r with
  | .stuck => .stuck
  | .ok a ρ => f a ρ
  | .exc x ρ => .exc x ρ
def M.pur {α : Type} (a : α) : M α := fun ρ => .ok a ρ
def M.bnd {α β : Type} (m : M α) (f : α → M β) : M β := fun ρ => (m ρ).bnd f
instance : Monad M where
  pure := M.pur
  bind := M.bnd
def M.stuck {α : Type} : M α := fun _ => .stuck
def M.lift {α : Type} (o : Option α) : M α := fun ρ => match o with | some a => .ok a ρ | none => .stuck
@[simp] theorem pur_ap {α : Type} (a : α) (ρ : Env) : (pure a : M α) ρ = .ok a ρ := rfl
@[simp] theorem pur_ap' {α : Type} (a : α) (ρ : Env) : (M.pur a : M α) ρ = .ok a ρ := rfl
@[simp] theorem bnd_ap {α β : Type} (m : M α) (f : α → M β) (ρ : Env) : (m >>= f) ρ = (m ρ).bnd f := rfl
@[simp] theorem bnd_ap' {α β : Type} (m : M α) (f : α → M β) (ρ : Env) : (M.bnd m f) ρ = (m ρ).bnd f := rfl
@[simp] theorem bnd_ok {α β : Type} (a : α) (ρ : Env) (f : α → M β) : (Res.ok a ρ).bnd f = f a ρ := rfl
@[simp] theorem bnd_exc {α β : Type} (x : D) (ρ : Env) (f : α → M β) : (Res.exc x ρ).bnd f = .exc x ρ := rfl
@[simp] theorem bnd_stuck {α β : Type} (f : α → M β) : (Res.stuck).bnd f = .stuck := rfl
@[simp] theorem lift_some {α : Type} (a : α) (ρ : Env) : (M.lift (some a)) ρ = .ok a ρ := rfl
@[simp] theorem lift_none {α : Type} (ρ : Env) : (M.lift (none : Option α)) ρ = .stuck := rfl
@[simp] theorem stuck_ap {α : Type} (ρ : Env) : (M.stuck : M α) ρ = .stuck := rfl

/-- what an expression comes to: a value, a new list of one's own, the list that a name holds -/
inductive RV where
  | val (d : D) | own (d : D) | bor (i : Nat)
inductive Opd where
  | val (d : D) | bor (i : Nat)

def ownD (ρ : Env) (i : Nat) : Option D := match ρ[i]? with | some (.own d) => some d | some (.bow d) => some d | _ => none
def valD (ρ : Env) (i : Nat) : Option D := match ρ[i]? with | some (.val d) => some d | some (.bfz d) => some d | _ => none
def markB (ρ : Env) (i : Nat) : Bool := match ρ[i]? with | some (.bow _) => true | some (.bfz _) => true | _ => false

/-! ### what represents what -/
mutual
inductive Rep (K : PySem.W.Frag) (S : Hp) : V → D → Prop
  | non : Rep K S .non .non
  | bl (b : Bool) : Rep K S (.bl b) (.bl b)
  | int (i : Int) : Rep K S (.int i) (.int i)
  | str (x : Str) : Rep K S (.str x) (.str x)
  | ty (n : String) : Rep K S (.ty n) (.ty n)
  | tup {a : Addr} {xs : List V} {ds : List D} : SqT K S a xs → Reps K S xs ds → Rep K S (.ref a) (.tup ds)
  | lst {a : Addr} {xs : List V} {ds : List D} : S a = some (.lst xs) → Reps K S xs ds → Rep K S (.ref a) (.lst ds)
  | scr {a : Addr} {ns : List Int} : SqL K S a (ns.map V.int) → Rep K S (.ref a) (.scr ns)
  | dic {a : Addr} {kvs : List (Key × V)} {ds : List (Key × D)} : S a = some (.dK kvs) → kvs.map Prod.fst = ds.map Prod.fst → Reps K S (kvs.map Prod.snd) (ds.map Prod.snd) → Rep K S (.ref a) (.dic ds)
  | dit {a : Addr} {kvs : List (List Key × V)} {ds : List (List Key × D)} : S a = some (.dT kvs) → kvs.map Prod.fst = ds.map Prod.fst → Reps K S (kvs.map Prod.snd) (ds.map Prod.snd) → Rep K S (.ref a) (.dit ds)
inductive Reps (K : PySem.W.Frag) (S : Hp) : List V → List D → Prop
  | nil : Reps K S [] []
  | cons {v : V} {vs : List V} {d : D} {ds : List D} : Rep K S v d → Reps K S vs ds → Reps K S (v :: vs) (d :: ds)
end
theorem same_t {K : PySem.W.Frag} {H H' : Hp} {a : Addr} {xs : List V} (e : Same H H') (h : SqT K H a xs) : SqT K H' a xs := by
  rcases h with (h | ⟨o, h⟩) | h
  · exact .inl (.inl (e _ _ h))
  · exact .inl (.inr ⟨o, e _ _ h⟩)
  · exact .inr h
mutual
theorem Rep.mono {K : PySem.W.Frag} {S S' : Hp} (e : Same S S') : ∀ {v : V} {d : D}, Rep K S v d → Rep K S' v d
  | _, _, .non => .non
  | _, _, .bl b => .bl b
  | _, _, .int i => .int i
  | _, _, .str x => .str x
  | _, _, .ty x => .ty x
  | _, _, .tup h r => .tup (same_t e h) (Reps.mono e r)
  | _, _, .lst h r => .lst (e _ _ h) (Reps.mono e r)
  | _, _, .scr h => .scr (e.seq h)
  | _, _, .dic h k r => .dic (e _ _ h) k (Reps.mono e r)
  | _, _, .dit h k r => .dit (e _ _ h) k (Reps.mono e r)
theorem Reps.mono {K : PySem.W.Frag} {S S' : Hp} (e : Same S S') : ∀ {vs : List V} {ds : List D}, Reps K S vs ds → Reps K S' vs ds
  | _, _, .nil => .nil
  | _, _, .cons h r => .cons (Rep.mono e h) (Reps.mono e r)
end
section
variable {K : PySem.W.Frag} {S H : Hp} {v : V} {vs : List V} {d : D} {ds : List D}
theorem Reps.len (h : Reps K S vs ds) : vs.length = ds.length := by
  induction ds generalizing vs with
  | nil => cases h; rfl
  | cons d ds ih => cases h with | cons _ r => simp [ih r]
theorem Reps.at {i : Nat} {d : D} (h : Reps K S vs ds) (e : ds[i]? = some d) : ∃ v, vs[i]? = some v ∧ Rep K S v d := by
  induction ds generalizing vs i with
  | nil => simp at e
  | cons d0 ds ih =>
    cases h with
    | cons h0 r =>
      cases i with
      | zero => simp at e; subst e; exact ⟨_, rfl, h0⟩
      | succ i => simpa using ih r (by simpa using e)
theorem Reps.at' {i : Nat} {v : V} (h : Reps K S vs ds) (e : vs[i]? = some v) : ∃ d, ds[i]? = some d ∧ Rep K S v d := by
  induction ds generalizing vs i with
  | nil => cases h; simp at e
  | cons d0 ds ih =>
    cases h with
    | cons h0 r =>
      cases i with
      | zero => simp at e; subst e; exact ⟨_, rfl, h0⟩
      | succ i => simpa using ih r (by simpa using e)
theorem Reps.app {vs' : List V} {ds' : List D} (h : Reps K S vs ds) (h' : Reps K S vs' ds') : Reps K S (vs ++ vs') (ds ++ ds') := by
  induction ds generalizing vs with
  | nil => cases h; exact h'
  | cons d ds ih => cases h with | cons h0 r => exact .cons h0 (ih r)
theorem Reps.take (n : Nat) (h : Reps K S vs ds) : Reps K S (vs.take n) (ds.take n) := by
  induction ds generalizing vs n with
  | nil => cases h; simp; exact .nil
  | cons d ds ih => cases h with | cons h0 r => cases n with | zero => exact .nil | succ n => exact .cons h0 (ih n r)
theorem Reps.drop (n : Nat) (h : Reps K S vs ds) : Reps K S (vs.drop n) (ds.drop n) := by
  induction ds generalizing vs n with
  | nil => cases h; simp; exact .nil
  | cons d ds ih => cases h with | cons h0 r => cases n with | zero => exact .cons h0 r | succ n => exact ih n r
theorem Reps.set (n : Nat) (h : Reps K S vs ds) (q : Rep K S v d) : Reps K S (vs.set n v) (ds.set n d) := by
  induction ds generalizing vs n with
  | nil => cases h; exact .nil
  | cons d0 ds ih => cases h with | cons h0 r => cases n with | zero => exact .cons q r | succ n => exact .cons h0 (ih n r)
theorem Reps.rev (h : Reps K S vs ds) : Reps K S vs.reverse ds.reverse := by
  induction ds generalizing vs with
  | nil => cases h; exact .nil
  | cons d0 ds ih => cases h with | cons h0 r => rw [List.reverse_cons, List.reverse_cons]; exact (ih r).app (.cons h0 .nil)
theorem Reps.rep (k : Nat) (h : Reps K S vs ds) : Reps K S (List.replicate k vs).flatten (List.replicate k ds).flatten := by
  induction k with
  | zero => exact .nil
  | succ k ih => rw [List.replicate_succ, List.replicate_succ, List.flatten_cons, List.flatten_cons]; exact h.app ih
theorem Reps.ints : ∀ {vs : List V} {ns : List Int}, Reps K S vs (ns.map D.int) → vs = ns.map V.int
  | _, [], h => by cases h; rfl
  | _, n :: ns, h => by
    cases h with
    | cons h0 r => cases h0; rw [Reps.ints r]; rfl
theorem Reps.of_ints (ns : List Int) : Reps K S (ns.map V.int) (ns.map D.int) := by
  induction ns with
  | nil => exact .nil
  | cons n ns ih => exact .cons (.int n) ih
theorem Reps.bls : ∀ {vs : List V} {ns : List Bool}, Reps K S vs (ns.map D.bl) → vs = ns.map V.bl
  | _, [], h => by cases h; rfl
  | _, n :: ns, h => by
    cases h with
    | cons h0 r => cases h0; rw [Reps.bls r]; rfl
theorem Reps.strs : ∀ {vs : List V} {ns : List Str}, Reps K S vs (ns.map D.str) → vs = ns.map V.str
  | _, [], h => by cases h; rfl
  | _, n :: ns, h => by
    cases h with
    | cons h0 r => cases h0; rw [Reps.strs r]; rfl

/-- a list at p, its items stand in S -/
def OwnAt (K : PySem.W.Frag) (S H : Hp) (p : Addr) : D → Prop
  | .lst ds => ∃ xs, H p = some (.lst xs) ∧ Reps K S xs ds
  | .dic ds => ∃ kvs : List (Key × V), H p = some (.dK kvs) ∧ kvs.map Prod.fst = ds.map Prod.fst ∧ Reps K S (kvs.map Prod.snd) (ds.map Prod.snd)
  | .dit ds => ∃ kvs : List (List Key × V), H p = some (.dT kvs) ∧ kvs.map Prod.fst = ds.map Prod.fst ∧ Reps K S (kvs.map Prod.snd) (ds.map Prod.snd)
  | _ => False
theorem OwnAt.ex (h : OwnAt K S H a d) : ∃ o, H a = some o := by
  cases d <;> first | exact h.elim | (obtain ⟨xs, h, _⟩ := h; exact ⟨_, h⟩)
/-- what may be read: its items stand in S -/
def Rd (K : PySem.W.Frag) (S H : Hp) (v : V) : D → Prop
  | .non => v = .non
  | .bl b => v = .bl b
  | .int i => v = .int i
  | .str x => v = .str x
  | .ty n => v = .ty n
  | .tup ds => ∃ a xs, v = .ref a ∧ SqT K H a xs ∧ Reps K S xs ds ∧ SqT K S a xs
  | .lst ds => ∃ a xs, v = .ref a ∧ H a = some (.lst xs) ∧ Reps K S xs ds
  | .scr ns => ∃ a, v = .ref a ∧ SqL K H a (ns.map V.int)
  | .dic ds => ∃ a, v = .ref a ∧ ∃ kvs : List (Key × V), H a = some (.dK kvs) ∧ kvs.map Prod.fst = ds.map Prod.fst ∧ Reps K S (kvs.map Prod.snd) (ds.map Prod.snd)
  | .dit ds => ∃ a, v = .ref a ∧ ∃ kvs : List (List Key × V), H a = some (.dT kvs) ∧ kvs.map Prod.fst = ds.map Prod.fst ∧ Reps K S (kvs.map Prod.snd) (ds.map Prod.snd)
  | _ => False
theorem Rep.rd (h : Rep K S v d) (e : Same S H) : Rd K S H v d := by
  cases h with
  | non => rfl
  | bl b => rfl
  | int i => rfl
  | str x => rfl
  | ty x => rfl
  | tup h r => exact ⟨_, _, rfl, same_t e h, r, h⟩
  | lst h r => exact ⟨_, _, rfl, e _ _ h, r⟩
  | scr h => exact ⟨_, rfl, e.seq h⟩
  | dic h k r => exact ⟨_, rfl, _, e _ _ h, k, r⟩
  | dit h k r => exact ⟨_, rfl, _, e _ _ h, k, r⟩
theorem OwnAt.rd {p : Addr} (h : OwnAt K S H p d) : Rd K S H (.ref p) d := by
  cases d <;> first | exact h.elim | (obtain ⟨xs, h, k, r⟩ := h; exact ⟨_, rfl, _, h, k, r⟩) | (obtain ⟨xs, h, r⟩ := h; exact ⟨_, _, rfl, h, r⟩)
/-- a flat value stands anywhere -/
theorem Rd.flat_rep (h : Rd K S H v d) (f : match d with | .non | .bl _ | .int _ | .str _ | .ty _ => True | _ => False) : Rep K S v d := by
  cases d with
  | non => cases h; exact .non
  | bl b => cases h; exact .bl b
  | int b => cases h; exact .int b
  | str b => cases h; exact .str b
  | ty b => cases h; exact .ty b
  | _ => exact f.elim
end
end VL

/-! VL part b: the state of the names, steps, what is good. -/
namespace VL
open PySem L2

/-- p is owned by a name -/
def OwnA (ρ : Env) (σ : St) (p : Addr) : Prop := ∃ i d, ownD ρ i = some d ∧ σ[i]? = some (some (V.ref p))

structure Cfg where
  K : PySem.W.Frag
  xr : D → Hp → Value → Option Addr → Prop

structure StRel (C : Cfg) (S : Hp) (ρ : Env) (σ : St) (H : Hp) : Prop where
  same : Same S H
  len : σ.length = ρ.length
  val : ∀ i d, valD ρ i = some d → ∃ v, σ[i]? = some (some v) ∧ Rep C.K S v d
  own : ∀ i d, ownD ρ i = some d → ∃ p, σ[i]? = some (some (V.ref p)) ∧ S p = none ∧ OwnAt C.K S H p d
  dis : ∀ i j d e p, ownD ρ i = some d → ownD ρ j = some e → σ[i]? = some (some (V.ref p)) → σ[j]? = some (some (V.ref p)) → i = j

structure Ext (O : Addr → Prop) (S H S' H' : Hp) : Prop where
  sS : Same S S'
  keep : ∀ p o, ¬ O p → H p = some o → H' p = some o
  grow : ∀ p, S p = none → S' p ≠ none → O p ∨ H p = none
theorem Ext.refl {O : Addr → Prop} {S H : Hp} : Ext O S H S H := ⟨Same.refl _, fun _ _ _ h => h, fun _ h h' => absurd h h'⟩
theorem Ext.mono {O O' : Addr → Prop} {S H S' H' : Hp} (e : Ext O S H S' H') (h : ∀ p, O p → O' p) : Ext O' S H S' H' :=
  ⟨e.sS, fun p o n q => e.keep p o (fun z => n (h p z)) q, fun p a b => (e.grow p a b).imp (h p) id⟩
theorem Ext.back {O : Addr → Prop} {S H S' H' : Hp} (e : Ext O S H S' H') {p : Addr} (h : H' p = none) : O p ∨ H p = none := by
  by_cases o : O p
  · exact .inl o
  · cases q : H p with
    | none => exact .inr rfl
    | some u => rw [e.keep p u o q] at h; cases h
/-- O1: what is owned behind the first step -/
theorem Ext.trans {O O1 : Addr → Prop} {S H S1 H1 S2 H2 : Hp} (a : Ext O S H S1 H1) (b : Ext O1 S1 H1 S2 H2) (h : ∀ p, O1 p → O p ∨ H p = none) : Ext O S H S2 H2 := by
  refine ⟨a.sS.trans b.sS, fun p o n q => ?_, fun p s0 s2 => ?_⟩
  · refine b.keep p o (fun z => ?_) (a.keep p o n q)
    rcases h p z with z | z
    · exact n z
    · rw [q] at z; cases z
  · cases e : S1 p with
    | some u => exact a.grow p s0 (by rw [e]; simp)
    | none =>
      rcases b.grow p e s2 with z | z
      · exact h p z
      · exact a.back z

structure Stp (C : Cfg) (σ : St) (S : Hp) (ρ : Env) (H S' : Hp) (ρ' : Env) (H' : Hp) : Prop where
  ext : Ext (OwnA ρ σ) S H S' H'
  st : StRel C S' ρ' σ H'
  sub : ∀ i d, ownD ρ' i = some d → ∃ e, ownD ρ i = some e
  mrk : ∀ i, markB ρ i = true → markB ρ' i = true
theorem Stp.subA {C : Cfg} {σ : St} {S : Hp} {ρ : Env} {H S' : Hp} {ρ' : Env} {H' : Hp} (e : Stp C σ S ρ H S' ρ' H') : ∀ p, OwnA ρ' σ p → OwnA ρ σ p := fun _ ⟨i, _, h1, h2⟩ =>
  let ⟨e', h'⟩ := e.sub i _ h1; ⟨i, e', h', h2⟩
theorem Stp.refl {C : Cfg} {σ : St} {S : Hp} {ρ : Env} {H : Hp} (h : StRel C S ρ σ H) : Stp C σ S ρ H S ρ H := ⟨Ext.refl, h, fun _ d h => ⟨d, h⟩, fun _ h => h⟩
theorem Stp.trans {C : Cfg} {σ : St} {S : Hp} {ρ : Env} {H S1 : Hp} {ρ1 : Env} {H1 S2 : Hp} {ρ2 : Env} {H2 : Hp} (a : Stp C σ S ρ H S1 ρ1 H1) (b : Stp C σ S1 ρ1 H1 S2 ρ2 H2) : Stp C σ S ρ H S2 ρ2 H2 :=
  ⟨a.ext.trans b.ext fun p h => .inl (a.subA p h), b.st, fun i d h => let ⟨e, h⟩ := b.sub i d h; a.sub i e h, fun i h => b.mrk i (a.mrk i h)⟩

/-- R tells how the answer is represented; it may speak of the begin (ρ, H) and of the end (S', ρ', H') -/
abbrev Rl (α β : Type) := Env → Hp → α → Hp → Env → Hp → β → Prop
def Good {α β : Type} (C : Cfg) (W : WX) (σ : St) (S : Hp) (ρ : Env) (H : Hp) (r : Res α) (R : Rl α β) (Q : β → Hp → Prop) : Prop :=
  match r with
  | .stuck => False
  | .ok a ρ' => ∀ S' H' b, Stp C σ S ρ H S' ρ' H' → R ρ H a S' ρ' H' b → Q b H'
  | .exc x ρ' => ∀ S' H' cls d, Stp C σ S ρ H S' ρ' H' → C.xr x H' cls d → W cls d σ H'
/-- a relation that may be told from an earlier begin -/
def Back {α β : Type} (C : Cfg) (σ : St) (R : Rl α β) : Prop := ∀ S ρ H S1 ρ1 H1 a S' ρ' H' b, Stp C σ S ρ H S1 ρ1 H1 → R ρ1 H1 a S' ρ' H' b → R ρ H a S' ρ' H' b
section
variable {α β γ δ : Type} {C : Cfg} {W : WX} {σ : St} {S : Hp} {ρ : Env} {H : Hp}
theorem Good.from {r : Res α} {R : Rl α β} {Q : β → Hp → Prop} {S1 : Hp} {ρ1 : Env} {H1 : Hp} (hR : Back C σ R) (e : Stp C σ S ρ H S1 ρ1 H1) (h : Good C W σ S ρ H r R Q) : Good C W σ S1 ρ1 H1 r R Q := by
  cases r with
  | stuck => exact h
  | ok a ρ' => exact fun S' H' b e' r' => h S' H' b (e.trans e') (hR _ _ _ _ _ _ _ _ _ _ _ e r')
  | exc x ρ' => exact fun S' H' cls d e' r' => h S' H' cls d (e.trans e') r'
/-- the first part of two -/
theorem Good.bnd {m : M α} {f : α → M γ} {R : Rl α β} {R' : Rl γ δ} {Q : β → Hp → Prop} {Q' : δ → Hp → Prop} (hR : Back C σ R') (h : Good C W σ S ρ H ((m >>= f) ρ) R' Q')
    (k : ∀ a ρ1 S1 H1 b, m ρ = .ok a ρ1 → Stp C σ S ρ H S1 ρ1 H1 → R ρ H a S1 ρ1 H1 b → Good C W σ S1 ρ1 H1 (f a ρ1) R' Q' → Q b H1) : Good C W σ S ρ H (m ρ) R Q := by
  rw [bnd_ap] at h
  cases e : m ρ with
  | stuck => rw [e] at h; exact h
  | ok a ρ1 =>
    rw [e] at h
    exact fun S1 H1 b st r => k a ρ1 S1 H1 b e st r (Good.from hR st h)
  | exc x ρ1 => rw [e] at h; exact h
theorem Good.mono {r : Res α} {R : Rl α β} {Q Q' : β → Hp → Prop} (h : Good C W σ S ρ H r R Q) (hQ : ∀ b H, Q b H → Q' b H) : Good C W σ S ρ H r R Q' := by
  cases r with
  | stuck => exact h
  | ok a ρ' => exact fun S' H' b e r => hQ _ _ (h S' H' b e r)
  | exc x ρ' => exact h
end

/-- a value v behind an expression: a value stands in S; an own one is new, owned by no name; a lent one is what the name holds -/
def RVr (C : Cfg) (σ : St) : Rl RV V := fun ρ H rv S' ρ' H' v => match rv with
  | .val d => Rep C.K S' v d
  | .own d => ∃ p, v = V.ref p ∧ S' p = none ∧ OwnAt C.K S' H' p d ∧ ¬ OwnA ρ' σ p ∧ (OwnA ρ σ p ∨ H p = none)
  | .bor i => σ[i]? = some (some v) ∧ ∃ d, ownD ρ' i = some d
/-- an operand: a value, or what a name holds -/
def Op (C : Cfg) (σ : St) (S' : Hp) (o : Opd) (v : V) : Prop := match o with
  | .val d => Rep C.K S' v d
  | .bor i => σ[i]? = some (some v)
abbrev Opr (C : Cfg) (σ : St) : Rl Opd V := fun _ _ o S' _ _ v => Op C σ S' o v
theorem RVr.back {C : Cfg} {σ : St} : Back C σ (RVr C σ) := by
  intro S ρ H S1 ρ1 H1 a S' ρ' H' b e r
  cases a with
  | val d => exact r
  | bor i => exact r
  | own d =>
    obtain ⟨p, h1, h2, h3, h4, h5⟩ := r
    refine ⟨p, h1, h2, h3, h4, ?_⟩
    rcases h5 with h5 | h5
    · exact .inl (e.subA p h5)
    · exact e.ext.back h5
theorem Opr.back {C : Cfg} {σ : St} : Back C σ (Opr C σ) := fun _ _ _ _ _ _ a _ _ _ _ _ r => by cases a <;> exact r

/-! ### a new object of one's own goes to S -/
theorem upd_Same {S : Hp} {p : Addr} {o : HO} (h : S p = none) : Same S (upd S p o) := fun b u e => by rw [upd_ne (ne_of_none e h)]; exact e
def froz (S H : Hp) (p : Addr) : Hp := fun b => if b = p then H p else S b
theorem froz_same {S H : Hp} {p : Addr} (h : S p = none) : Same S (froz S H p) := fun b u e => by
  unfold froz
  rw [if_neg (ne_of_none e h)]; exact e
theorem froz_le {S H : Hp} {p : Addr} (e : Same S H) : Same (froz S H p) H := fun b u h => by
  unfold froz at h
  split at h
  · subst b; exact h
  · exact e b u h
theorem froz_ne {S H : Hp} {p b : Addr} (h : b ≠ p) : froz S H p b = S b := by unfold froz; rw [if_neg h]
theorem froz_at {S H : Hp} {p : Addr} : froz S H p p = H p := by unfold froz; rw [if_pos rfl]
theorem OwnAt.mono {K : PySem.W.Frag} {S S' H H' : Hp} {p : Addr} {d : D} (h : OwnAt K S H p d) (e : Same S S') (k : ∀ o, H p = some o → H' p = some o) : OwnAt K S' H' p d := by
  cases d <;> first | exact h.elim | (obtain ⟨xs, h, q, r⟩ := h; exact ⟨xs, k _ h, q, r.mono e⟩) | (obtain ⟨xs, h, r⟩ := h; exact ⟨xs, k _ h, r.mono e⟩)
theorem OwnAt.froz {K : PySem.W.Frag} {S H : Hp} {p : Addr} {d : D} (h : OwnAt K S H p d) (n : S p = none) : Rep K (froz S H p) (V.ref p) d := by
  cases d <;> first | exact h.elim | (obtain ⟨xs, h, q, r⟩ := h; exact .dic (by rw [froz_at]; exact h) q (r.mono (froz_same n))) | (obtain ⟨xs, h, q, r⟩ := h; exact .dit (by rw [froz_at]; exact h) q (r.mono (froz_same n))) | (obtain ⟨xs, h, r⟩ := h; exact .lst (by rw [froz_at]; exact h) (r.mono (froz_same n)))
theorem StRel.froz {C : Cfg} {S : Hp} {ρ : Env} {σ : St} {H : Hp} {p : Addr} (h : StRel C S ρ σ H) (n : S p = none) (no : ¬ OwnA ρ σ p) : StRel C (froz S H p) ρ σ H := by
  refine ⟨froz_le h.same, h.len, fun i d e => ?_, fun i d e => ?_, h.dis⟩
  · obtain ⟨v, h1, h2⟩ := h.val i d e
    exact ⟨v, h1, h2.mono (froz_same n)⟩
  · obtain ⟨q, h1, h2, h3⟩ := h.own i d e
    have hq : q ≠ p := fun z => no ⟨i, d, e, z ▸ h1⟩
    exact ⟨q, h1, by rw [froz_ne hq]; exact h2, OwnAt.mono h3 (froz_same n) fun _ z => z⟩
/-- a temporary of one's own is given up -/
theorem give {C : Cfg} {σ : St} {S : Hp} {ρ : Env} {H S' : Hp} {ρ' : Env} {H' : Hp} {p : Addr} {d : D} (e : Stp C σ S ρ H S' ρ' H') (h2 : S' p = none) (h3 : OwnAt C.K S' H' p d) (h4 : ¬ OwnA ρ' σ p) (h5 : OwnA ρ σ p ∨ H p = none) :
    ∃ S2, Stp C σ S ρ H S2 ρ' H' ∧ Rep C.K S2 (V.ref p) d := by
  refine ⟨froz S' H' p, ⟨⟨e.ext.sS.trans (froz_same h2), e.ext.keep, fun q hq hq' => ?_⟩, e.st.froz h2 h4, e.sub, e.mrk⟩, h3.froz h2⟩
  by_cases z : q = p
  · subst z; exact h5
  · rw [froz_ne z] at hq'
    exact e.ext.grow q hq hq'
/-- an expression's value as an operand: an own one is given up -/
def opd (m : M RV) : M Opd := m >>= fun rv => match rv with
  | .val d => pure (.val d)
  | .own d => pure (.val d)
  | .bor i => pure (.bor i)
def look : Opd → M D
  | .val d => pure d
  | .bor i => fun ρ => match ownD ρ i with | some d => .ok d ρ | none => .stuck
def frzSlot (i : Nat) (ρ : Env) : Option (D × Env) := match ρ[i]? with
  | some (.own d) => some (d, ρ.set i (.val d))
  | some (.bow d) => some (d, ρ.set i (.bfz d))
  | _ => none
def frz : Opd → M D
  | .val d => pure d
  | .bor i => fun ρ => match frzSlot i ρ with | some (d, ρ') => .ok d ρ' | none => .stuck
/-- a value that is read at once; one that is given up -/
def rdM (m : M RV) : M D := opd m >>= look
def fzM (m : M RV) : M D := opd m >>= frz

theorem Good.opd {C : Cfg} {W : WX} {σ : St} {S : Hp} {ρ : Env} {H : Hp} {m : M RV} {Q : V → Hp → Prop} (h : Good C W σ S ρ H (opd m ρ) (Opr C σ) Q) : Good C W σ S ρ H (m ρ) (RVr C σ) Q := by
  unfold VL.opd at h
  rw [bnd_ap] at h
  cases e : m ρ with
  | stuck => rw [e] at h; exact h
  | exc x ρ1 => rw [e] at h; exact h
  | ok a ρ1 =>
    rw [e] at h
    cases a with
    | val d => exact fun S1 H1 b st r => h S1 H1 b st r
    | bor i => exact fun S1 H1 b st r => h S1 H1 b st r.1
    | own d =>
      intro S1 H1 b st r
      obtain ⟨p, h1, h2, h3, h4, h5⟩ := r
      subst h1
      obtain ⟨S2, st2, rp⟩ := give st h2 h3 h4 h5
      exact h S2 H1 _ st2 rp

theorem look_ok {C : Cfg} {σ : St} {S1 : Hp} {ρ1 : Env} {H1 S : Hp} {ρ : Env} {H : Hp} {o : Opd} {v : V} {d : D} {ρ' : Env} (r : Op C σ S1 o v) (e : Stp C σ S1 ρ1 H1 S ρ H) (h : look o ρ = .ok d ρ') : ρ' = ρ ∧ Rd C.K S H v d := by
  cases o with
  | val d' =>
    cases h
    exact ⟨rfl, (Rep.mono e.ext.sS r).rd e.st.same⟩
  | bor i =>
    have h : (match ownD ρ i with | some d => Res.ok d ρ | none => .stuck) = Res.ok d ρ' := h
    cases q : ownD ρ i with
    | none => rw [q] at h; cases h
    | some d' =>
      rw [q] at h; cases h
      obtain ⟨p, h1, h2, h3⟩ := e.st.own i d q
      have z := h1.symm.trans r
      cases z
      exact ⟨rfl, h3.rd⟩
theorem look_nox {o : Opd} {ρ ρ' : Env} {x : D} (h : look o ρ = .exc x ρ') : False := by
  cases o with
  | val d => cases h
  | bor i =>
    have h : (match ownD ρ i with | some d => Res.ok d ρ | none => .stuck) = Res.exc x ρ' := h
    split at h <;> cases h

/-! ### slots that are set -/
theorem get_set {ρ : Env} {i j : Nat} {s : Slot} : (ρ.set i s)[j]? = if i = j then (if i < ρ.length then some s else none) else ρ[j]? := by
  rw [List.getElem?_set]
theorem ownD_ne {ρ : Env} {i j : Nat} {s : Slot} (h : i ≠ j) : ownD (ρ.set i s) j = ownD ρ j := by unfold ownD; rw [get_set, if_neg h]
theorem valD_ne {ρ : Env} {i j : Nat} {s : Slot} (h : i ≠ j) : valD (ρ.set i s) j = valD ρ j := by unfold valD; rw [get_set, if_neg h]
theorem markB_ne {ρ : Env} {i j : Nat} {s : Slot} (h : i ≠ j) : markB (ρ.set i s) j = markB ρ j := by unfold markB; rw [get_set, if_neg h]
theorem lt_own {ρ : Env} {i : Nat} {d : D} (h : ownD ρ i = some d) : i < ρ.length := by
  unfold ownD at h
  by_cases z : i < ρ.length
  · exact z
  · rw [List.getElem?_eq_none (by omega)] at h; cases h
theorem ownD_at {ρ : Env} {i : Nat} {s : Slot} (h : i < ρ.length) : ownD (ρ.set i s) i = match s with | .own d => some d | .bow d => some d | _ => none := by
  unfold ownD; rw [get_set, if_pos rfl, if_pos h]; cases s <;> rfl
theorem valD_at {ρ : Env} {i : Nat} {s : Slot} (h : i < ρ.length) : valD (ρ.set i s) i = match s with | .val d => some d | .bfz d => some d | _ => none := by
  unfold valD; rw [get_set, if_pos rfl, if_pos h]; cases s <;> rfl
theorem markB_at {ρ : Env} {i : Nat} {s : Slot} (h : i < ρ.length) : markB (ρ.set i s) i = match s with | .bow _ => true | .bfz _ => true | _ => false := by
  unfold markB; rw [get_set, if_pos rfl, if_pos h]; cases s <;> rfl

theorem frzSlot_own {ρ ρ' : Env} {i : Nat} {d : D} (h : frzSlot i ρ = some (d, ρ')) : ownD ρ i = some d ∧ ∃ s, ρ' = ρ.set i s ∧ (s = .val d ∨ s = .bfz d) ∧ (markB ρ i = true → s = .bfz d) := by
  unfold frzSlot at h
  split at h
  · rename_i d' e
    cases h
    exact ⟨by unfold ownD; rw [e], _, rfl, .inl rfl, fun z => by unfold markB at z; rw [e] at z; cases z⟩
  · rename_i d' e
    cases h
    exact ⟨by unfold ownD; rw [e], _, rfl, .inr rfl, fun z => rfl⟩
  · cases h
/-- what a name holds is given up -/
theorem frz_step {C : Cfg} {σ : St} {S : Hp} {ρ : Env} {H : Hp} {i : Nat} {d : D} {ρ' : Env} (st : StRel C S ρ σ H) (h : frzSlot i ρ = some (d, ρ')) : ∃ p S', σ[i]? = some (some (V.ref p)) ∧ Stp C σ S ρ H S' ρ' H ∧ Rep C.K S' (V.ref p) d := by
  obtain ⟨ho, s, rfl, hs, hm⟩ := frzSlot_own h
  have hi := lt_own ho
  obtain ⟨p, h1, h2, h3⟩ := st.own i d ho
  have fr := froz_same (H := H) h2
  refine ⟨p, froz S H p, h1, ⟨⟨fr, fun _ _ _ z => z, fun q hq hq' => ?_⟩, ⟨froz_le st.same, by rw [List.length_set]; exact st.len, fun j e hj => ?_, fun j e hj => ?_, fun j k e f q hj hk => ?_⟩, fun j e hj => ?_, fun j hj => ?_⟩, h3.froz h2⟩
  · by_cases z : q = p
    · subst z; exact .inl ⟨i, d, ho, h1⟩
    · rw [froz_ne z] at hq'; exact absurd hq hq'
  · by_cases z : i = j
    · subst z
      rw [valD_at hi] at hj
      have : e = d := by rcases hs with rfl | rfl <;> (cases hj; rfl)
      subst this
      exact ⟨_, h1, h3.froz h2⟩
    · rw [valD_ne z] at hj
      obtain ⟨v, a, b⟩ := st.val j e hj
      exact ⟨v, a, b.mono fr⟩
  · by_cases z : i = j
    · subst z
      rw [ownD_at hi] at hj
      rcases hs with rfl | rfl <;> cases hj
    · rw [ownD_ne z] at hj
      obtain ⟨q, a, b, c⟩ := st.own j e hj
      have hq : q ≠ p := fun y => z (st.dis i j d e p ho hj h1 (y ▸ a))
      exact ⟨q, a, by rw [froz_ne hq]; exact b, c.mono fr fun _ z => z⟩
  · by_cases z : i = j
    · subst z
      rw [ownD_at hi] at hj
      rcases hs with rfl | rfl <;> cases hj
    · by_cases y : i = k
      · subst y
        rw [ownD_at hi] at hk
        rcases hs with rfl | rfl <;> cases hk
      · rw [ownD_ne z] at hj
        rw [ownD_ne y] at hk
        exact st.dis j k e f q hj hk
  · by_cases z : i = j
    · subst z
      exact ⟨d, ho⟩
    · rw [ownD_ne z] at hj; exact ⟨e, hj⟩
  · by_cases z : i = j
    · subst z
      rw [hm hj, markB_at hi]
    · rw [markB_ne z]; exact hj

/-- an operand that is given up -/
def Fzr (C : Cfg) : Rl D V := fun _ _ d S' _ _ v => Rep C.K S' v d
theorem Fzr.back {C : Cfg} {σ : St} : Back C σ (Fzr C) := fun _ _ _ _ _ _ _ _ _ _ _ _ r => r
theorem Good.fz {C : Cfg} {W : WX} {σ : St} {S : Hp} {ρ : Env} {H : Hp} {m : M RV} {Q : V → Hp → Prop} (h : Good C W σ S ρ H (fzM m ρ) (Fzr C) Q) : Good C W σ S ρ H (m ρ) (RVr C σ) Q := by
  refine Good.opd (Good.bnd (f := frz) Fzr.back h fun o ρ1 S1 H1 v e st r g => ?_)
  cases o with
  | val d => exact g S1 H1 v (Stp.refl st.st) r
  | bor i =>
    have g : Good C W σ S1 ρ1 H1 (match frzSlot i ρ1 with | some (d, ρ') => Res.ok d ρ' | none => .stuck) (Fzr C) Q := g
    cases q : frzSlot i ρ1 with
    | none => rw [q] at g; exact g.elim
    | some dr =>
      obtain ⟨d, ρ'⟩ := dr
      rw [q] at g
      obtain ⟨p, S', h1, h2, h3⟩ := frz_step st.st q
      have z := h1.symm.trans r
      cases z
      exact g S' H1 _ h2 h3
end VL

/-! VL part bg: defs' promises told only where no repr is under way (so that repr of lists and tuples may be used within). -/
namespace VL
open PySem L2 PySem.Spec PyProof PyProof.Rows
/-- a def's promise, where no guard stands on the stack -/
structure FnG (P : Program) (w : World) (K : PySem.W.Frag) (mg : Str → Option Value) (base : Heap) (CX : CXT) (k : Nat) (f : Addr) (fd : FuncData) (ps : List Str) (sp : Sp) : Prop where
  many : ∀ vs H Q E, sp vs H Q E → vs.length = ps.length
  go : ∀ (A : Around) (outer : List PySem.Env) (s : Shared) (H : Hp) (args : Args) (us : List Value) (vs : List V) (Q : VK) (E : XK), Room k A → A.guards = some [] → Env0 P w K mg base A outer s H →
    BindsTo s fd args (ps.zip us) → Vals vs us → sp vs H Q E → codeAny (model P w) A (.call (.ref f) args) (CR CX outer P w H s Q E) s
section
variable {X : Cx} {CX : CXT} {k : Nat} {f : Addr} {fd : FuncData} {ps : List Str} {sp : Sp} {E : L2.St → XK} {x : Str} {p pos : Pos} {e : Expr} {es : List Expr} {t : TA}
theorem FnG.called {pins : List (Addr × Obj)} {σ : L2.St} {H : Hp} {s : Shared} {Q : VK} {us : List Value} {vs : List V} (F : FnG X.prog X.w X.K X.mg X.base CX k f fd ps sp) (room : Room k X.A) (quiet : X.A.guards = some []) (bi : Binds X.K fd ps [])
    (lets : PassesAt CX X σ (E σ)) (I : Inv X pins σ H s) (rv : Vals vs us) (want : sp vs H Q (E σ)) : wpAny (model X.prog X.w) X.A (call (.ref f) us) (EP X pins σ Q) X.xe s := by
  have hl : (us ++ ([] : List Value)).length = ps.length := by rw [List.append_nil, ← rv.length]; exact F.many _ _ _ _ want
  have b := bi s us I.kIn hl
  rw [List.append_nil] at b
  refine wpAny_call (codeAny_mono (F.go X.A X.stack s H ⟨us, []⟩ us vs Q (E σ) room quiet I.env0 b rv want) ?_)
  intro out s' got
  match out, got with
  | .error x, got => exact lets pins H s x s' I got
  | .ok (.ret u), got => exact I.after got
  | .ok .next, got => exact got.elim
  | .ok .brk, got => exact got.elim
  | .ok .cont, got => exact got.elim
def tCallG (sp : Sp) (E : L2.St → XK) (t : TA) : TE := fun σ H Q => t σ H fun vs H1 => sp vs H1 Q (E σ)
theorem pe_callG (F : FnG X.prog X.w X.K X.mg X.base CX k f fd ps sp) (room : Room k X.A) (quiet : X.A.guards = some []) (hg : Gl X x) (hm : X.mg x = some (.ref f)) (hk : PySem.W.keepIn X.K (.ref f) = true) (bi : Binds X.K fd ps []) (lets : ∀ σ, PassesAt CX X σ (E σ))
    (ha : PA X (e :: es) t) (nd : (x == ("__debug__" : Str)) = false := by decide) (he : starEach (e :: es) X.env = (false, eval e X.env) :: starEach es X.env := by rfl) (pl : (backTo pos (starEach es X.env)).any (·.1) = false := by rfl) :
    PE X (.Call (.Name x p) (e :: es) [] pos) (tCallG sp E t) := ⟨fun pins s σ H Q I h =>
  wpAny_Call_Name_kw (ld_glob I hg hm (PySem.W.callWith_K (h₀ := X.base) I.ok.mod.kin hk (thn (ha.run pos pins s σ H _ I h) fun us s1 ⟨vs, H1, I1, r, q⟩ => ⟨I1.kIn, F.called room quiet bi (lets σ) I1 r q⟩) he pl) nd)⟩
theorem pe_callG0 (F : FnG X.prog X.w X.K X.mg X.base CX k f fd ps sp) (room : Room k X.A) (quiet : X.A.guards = some []) (hg : Gl X x) (hm : X.mg x = some (.ref f)) (hk : PySem.W.keepIn X.K (.ref f) = true) (bi : Binds X.K fd ps []) (lets : ∀ σ, PassesAt CX X σ (E σ))
    (nd : (x == ("__debug__" : Str)) = false := by decide) : PE X (.Call (.Name x p) [] [] pos) (tCallG sp E tNil) := ⟨fun pins s σ H Q I h =>
  wpAny_Call_Name_kw (ld_glob I hg hm (PySem.W.callWith_K0 I.kIn hk (F.called (us := []) room quiet bi (lets σ) I .nil h)) nd)⟩
end
/-- a def of the text by its body, the guards known -/
theorem FnG.of_body {CX : CXT} {P : Program} {w : World} {K : PySem.W.Frag} {mg : Str → Option Value} {base : Heap} {k : Nat} {f : Addr} {name qual : Str} {params : Arguments} {body : List Stmt} {scope : Scope} {dV kV doc pm cdv ct oc : Value} {an od : Option Addr}
    {osl : Array (Option Value)} {N ps : List Str} {sp : Sp} (lk : K.lookup f = some ⟨oc, od, .func (PySem.W.fnOf name qual params body scope dV kV doc pm an cdv ct), osl⟩) (hcd : PySem.W.codeIn K cdv qual = true) (S : FnScope N ps scope)
    (many : ∀ vs H Q E, sp vs H Q E → vs.length = ps.length)
    (inner : ∀ (A : Around) (outer : List PySem.Env) (s : Shared) (H : Hp) (vs : List V) (Q : VK) (E : XK), Room k (A.deeper (envOfC qual scope s.heap.objs.size f cdv)) → A.guards = some [] → sp vs H Q E →
      ∃ t, PSs (cxOf CX P w K mg base N qual scope f cdv A outer s H E) body t ∧ t { nx := fun _ H' => Q .non H', rt := Q } (start N vs) H) :
    FnG P w K mg base CX (k + 1) f (PySem.W.fnOf name qual params body scope dV kV doc pm an cdv ct) ps sp := by
  constructor
  · exact many
  intro A outer s H args us vs Q E room quiet e0 bi rv want
  have hl := many _ _ _ _ want
  have grown : ∀ b o, base.get? b = some o → s.heap.get? b = some o := fun b o z => (e0.bs b o z).1
  have kinds : ∀ y ∈ ps.zip us, scope.names.lookup y.1 = some .local ∨ (scope.names.lookup y.1 = some .cell ∧ ((cellsFrom (s.heap.objs.size + 1) scope.names []).lookup y.1).isSome = true) := by
    rintro ⟨n, v⟩ hy
    rcases S.par n (List.of_mem_zip hy).1 with q | q
    · left; exact q
    · right; exact ⟨q, PySem.W.cellsFrom_some _ _ _ (.inl q)⟩
  have KX : K.In s.heap := e0.mod.kin.keeps grown
  refine codeAny_call_function room.depth (KX _ _ lk) rfl S.co S.gen rfl (PySem.W.codeRec_of KX hcd) (bi _ _ _ _ (wpAny_newFunctionEnv_cells S.kind kinds fun env he s1 born => ?_))
  subst he
  refine ⟨(e0.mod.nolimit.keeps grown).keeps born.toInCall.keep, codeAny_func ?_⟩
  obtain ⟨t, ht, hq⟩ := inner A outer s H vs Q E (room.deeper _) quiet want
  have I := inv_start (CX := CX) (E := E) S room.hd e0 hl rv born
  refine wpAny_mono (ht.run [] s1 (start N vs) H _ I hq) ?_ fun e s' hs => hs
  intro fl s' hs
  match fl, hs with
  | .ret u, ⟨v, σ', H', J, r', q⟩ => exact ⟨v, H', J.os, J.bare, J.base, J.hok, r', q⟩
  | .next, ⟨σ', H', J, q⟩ => exact ⟨V.non, H', J.os, J.bare, J.base, J.hok, rfl, q⟩
  | .brk, ⟨_, _, _, q⟩ => exact q.elim
  | .cont, ⟨_, _, _, q⟩ => exact q.elim
/-- a law's promise, at the heap behind the top -/
theorem law_top {P : Program} {w : World} {K : PySem.W.Frag} {mg mb : Str → Option Value} {CX : CXT} {k : Nat} {fa a : Addr} {fd : FuncData} {x : Str} {sp : Sp} {s₁ : Shared} {vs : List Value} {ns : List Int}
    (KX : K.In s₁.heap) (hns : s₁.heap.Ns mainGlobals mg) (hb : s₁.heap.Ns builtinsNs mb) (hbb : ∀ x : Str, x ≠ "__name__" → mb x = bootBuiltins x) (hlim : s₁.heap.NoLimit) (hg : s₁.gens = #[])
    (ha : s₁.heap.get? a = some { cls := .type "list", data := .seq vs.toArray }) (hi : IntsAre vs ns) (hl : ns.length ≤ sizeLine) (hr : Room k callerA)
    (F : ∀ base : Heap, K.In base → base.Ns mainGlobals mg → FnG P w K mg base CX k fa fd [x] sp) (hbind : ∀ (s : Shared) (u : Value), BindsTo s fd ⟨[u], []⟩ [(x, u)])
    (hsp : ∀ H : Hp, Only H → SqL K H a (ns.map V.int) → sp [.ref a] H (fun v _ => v = .bl true) fun _ _ _ => False)
    (hCX : ∀ H e s', CX [] H s₁ (fun _ _ _ => False) e s' → False) :
    codeAny (model P w) callerA (.call (.ref fa) ⟨[.ref a], []⟩) (fun r s' => r = .ok (.ret (.bool true)) ∧ OldK s₁.heap s'.heap ∧ s'.os = s₁.os ∧ AllBare s'.gens) s₁ := by
  have main : ∀ H : Hp, Only H → SqL K H a (ns.map V.int) → HOk P w H s₁.heap → (∀ b, H b ≠ none → b = a) → (H a ≠ none → K.lookup a = none) →
      codeAny (model P w) callerA (.call (.ref fa) ⟨[.ref a], []⟩) (fun r s' => r = .ok (.ret (.bool true)) ∧ OldK s₁.heap s'.heap ∧ s'.os = s₁.os ∧ AllBare s'.gens) s₁ := by
    intro H only seq hok alone script
    have off : ∀ {b : Addr} {o : Obj} {ds : Array DictEntry} {ep : Nat}, s₁.heap.get? b = some o → o.data = .dict ds ep → H b = none := by
      intro b o ds ep e d
      by_cases q : H b = none
      · exact q
      · obtain rfl := alone b q
        rw [ha] at e; cases e
        cases (d : Data.seq vs.toArray _ = Data.dict ds ep)
    have names : ∀ {b : Addr} {m : Str → Option Value}, s₁.heap.Ns b m → (hidT s₁.heap H).Ns b m := by
      rintro b m ⟨o, ds, ep, e, d, r⟩
      exact ⟨o, ds, ep, hidT_get e (off e d), d, r⟩
    have kin : K.In (hidT s₁.heap H) := by
      intro b o e
      refine hidT_get (KX b o e) ?_
      by_cases q : H b = none
      · exact q
      · obtain rfl := alone b q
        rw [script q] at e; cases e
    obtain ⟨mc, lim1, lim2⟩ := hlim
    have e0 : Env0 P w K mg (hidT s₁.heap H) callerA [] s₁ H := by
      refine ⟨rfl, ⟨kin, names hns, ⟨mb, names hb, hbb⟩, mc, names lim1, lim2⟩, fun b o e => of_hidT e, Nat.le_of_eq (hidT_size _ _), trivial, ?_, hok, .of_eq hg⟩
      intro b hb
      cases (show b ∈ ([] : List Addr) from hb)
    refine codeAny_mono ((F _ kin (names hns)).go callerA [] s₁ H ⟨[.ref a], []⟩ [.ref a] [.ref a] _ _ hr rfl e0 (hbind s₁ (.ref a)) (.cons rfl .nil) (hsp H only seq)) ?_
    intro out s' got
    match out, got with
    | .error e, got => exact (hCX H e s' got).elim
    | .ok .next, got => exact got.elim
    | .ok .brk, got => exact got.elim
    | .ok .cont, got => exact got.elim
    | .ok (.ret u), ⟨v, H', os, bare, un, hok', rv, q⟩ =>
      cases (show v = .bl true from q)
      cases (show u = Value.bool true from rv)
      refine ⟨rfl, OldK.of_keep ?_, os, bare⟩
      intro b o e
      by_cases free : H b = none
      · exact un.keep b o e free (fun z => by cases (show b ∈ ([] : List Addr) from z)) (by simp)
      · rcases only b with z | ⟨ob, xs, z⟩
        · exact absurd z free
        · have was := (hok b _ z).1
          have is := (hok' b _ (un.frzs b ob _ z)).1
          rw [e] at was; cases was
          exact is
  have lenV := hi.length
  have rv := vals_ints hi
  cases hk : K.lookup a with
  | some o =>
    have e := KX a o hk
    rw [ha] at e
    cases e
    exact main (fun _ => none) (fun _ => .inl rfl) (.inr ⟨_, vs.toArray, _, hk, rfl, rfl, rfl, by rw [List.size_toArray, lenV]; exact hl, by simpa using rv⟩) (fun b u z => by cases (z : (none : Option HO) = some u)) (fun b z => absurd rfl z) fun z => absurd rfl z
  | none =>
    let G : Hp := fun b => if b = a then some (.frz { cls := .type "list", data := .seq vs.toArray } (.lst (ns.map V.int))) else none
    have at_ : ∀ b u, G b = some u → b = a ∧ u = .frz { cls := .type "list", data := .seq vs.toArray } (.lst (ns.map V.int)) := by
      intro b u z
      have z : (if b = a then some (HO.frz { cls := .type "list", data := .seq vs.toArray } (.lst (ns.map V.int))) else none) = some u := z
      split at z
      · cases z; exact ⟨‹_›, rfl⟩
      · cases z
    refine main G (fun b => ?_) (.inl (.inr ⟨_, if_pos rfl⟩)) (fun b u z => ?_) (fun b z => ?_) fun _ => hk
    · cases q : G b with
      | none => exact .inl rfl
      | some u =>
        obtain ⟨_, rfl⟩ := at_ b u q
        exact .inr ⟨_, _, rfl⟩
    · obtain ⟨rfl, rfl⟩ := at_ b u z
      exact ⟨ha, by rw [List.length_map]; exact hl, vs, _, rv, ha⟩
    · cases q : G b with
      | none => exact absurd q z
      | some u => exact (at_ b u q).1
theorem walk_top {l : PySem.W.OpenLaw} {n k : Nat} {q : Program} {loose : List Str} {XP : (Str → Option Value) → Heap → Prop} {YP : World → Heap → Prop} {d : DefRec} {K : Params → PySem.W.Frag} {CX : World → CXT} {sp : World → Sp} {x : Str}
    (hn : l.most = some n) (hn2 : n ≤ sizeLine) (hdf : d.params.defaults = []) (hr : Room k callerA) (hY : ∀ (w : World) (h : Heap), YP w h → (K w.params).In h)
    (F : ∀ (w : World) (mg : Str → Option Value) (fa : Addr) (h : Heap), (K w.params).In h → h.Ns mainGlobals mg → mg d.name = some (.ref fa) →
      ∃ fd : FuncData, (∀ (s : Shared) (u : Value), BindsTo s fd ⟨[u], []⟩ [(x, u)]) ∧ ∀ base : Heap, (K w.params).In base → base.Ns mainGlobals mg → FnG l.prog w (K w.params) mg base (CX w) k fa fd [x] (sp w))
    (hsp : ∀ (w : World) (H : Hp) (a : Addr) (ns : List Int), ns.length ≤ n → Only H → SqL (K w.params) H a (ns.map V.int) → sp w [.ref a] H (fun v _ => v = .bl true) fun _ _ _ => False)
    (hCX : ∀ (w : World) (H : Hp) (s : Shared) (e : Value) (s' : Shared), CX w [] H s (fun _ _ _ => False) e s' → False) :
    PySem.W.WalkO q loose XP YP l.row.toRowW d [] (fun f vs => PySem.call f vs) :=
  Att.attach_call hn hdf fun w s₀ s₁ mg mb fa o pm cd doc a vs ns G Y ho hd hcd hmg hobj hints hlen hg =>
    let KX := hY w _ Y
    let ⟨_, hb, hF⟩ := F w mg fa _ KX G.T.g hmg
    law_top KX G.T.g G.T.b G.T.builtins G.T.nolimit hg hobj hints (Nat.le_trans hlen hn2) hr hF hb (fun H only seq => hsp w H a ns hlen only seq) fun H e s' => hCX w H s₁ e s'
end VL

/-! VL part c: the judgements VE, VT, VA; operands; operators, tests, calls. -/
namespace VL
open PySem L2

/-! ### what a def does: by its number, from its parameters' slots -/
abbrev CF := Nat → M RV
/-- a call's arguments as slots -/
def ArgsAt (C : Cfg) (S : Hp) (args : Env) (vs : List V) (H : Hp) : Prop := StRel C S args (vs.map some) H
/-- how a call's answer is represented: as an expression's, the slots being the parameters' -/
def spOf (C : Cfg) (cf : CF) (i : Nat) (np : Nat) : Sp := fun vs H Q E => ∃ S args, vs.length = np ∧ StRel C S args (vs.map some) H ∧
  Good C (fun cls d _ H' => E cls d H') (vs.map some) S args H (cf i args) (RVr C (vs.map some)) Q
structure FnAt (P : Program) (w : World) (K : PySem.W.Frag) (mg : Str → Option Value) (base : Heap) (k : Nat) (C : Cfg) (cf : CF) (i : Nat) (x : Str) (np : Nat) : Prop where
  ex : ∃ (f : Addr) (fd : FuncData) (ps : List Str), mg x = some (.ref f) ∧ PySem.W.keepIn K (.ref f) = true ∧ Binds K fd ps [] ∧ ps.length = np ∧ FnG P w K mg base (L2.CX P w) k f fd ps (spOf C cf i np)
/-- the defs of a table -/
def TabOk (P : Program) (w : World) (K : PySem.W.Frag) (mg : Str → Option Value) (base : Heap) (k : Nat) (C : Cfg) (cf : CF) (T : List (Str × Nat)) : Prop :=
  ∀ i x np, T[i]? = some (x, np) → FnAt P w K mg base k C cf i x np

/-- what stands around an expression -/
structure Vx (X : Cx) (C : Cfg) (W : WX) (cf : CF) (T : List (Str × Nat)) : Prop where
  K : X.K = C.K
  calm : X.calm = true
  tk : Takes X W
  nd : X.N.Nodup
  hu : X.A.units + 65 < cLine
  po : PassesOwn (model X.prog X.w) X.A X.env X.xe
  gd : X.A.guards = some []
  tab : ∃ k, Room k X.A ∧ TabOk X.prog X.w X.K X.mg X.base k C cf T

def tE (C : Cfg) (W : WX) (m : M RV) : TE := fun σ H Q => ∃ S ρ, StRel C S ρ σ H ∧ Good C W σ S ρ H (m ρ) (RVr C σ) Q
def Blr : Rl Bool Bool := fun _ _ a _ _ _ b => b = a
theorem Blr.back {C : Cfg} {σ : St} : Back C σ Blr := fun _ _ _ _ _ _ _ _ _ _ _ _ r => r
def tT (C : Cfg) (W : WX) (m : M Bool) : TT := fun σ H Q => ∃ S ρ, StRel C S ρ σ H ∧ Good C W σ S ρ H (m ρ) Blr Q
/-- operands -/
inductive Oprs (C : Cfg) (σ : St) (S : Hp) : List Opd → List V → Prop
  | nil : Oprs C σ S [] []
  | cons {o : Opd} {v : V} {os : List Opd} {vs : List V} : Op C σ S o v → Oprs C σ S os vs → Oprs C σ S (o :: os) (v :: vs)
def OprsR (C : Cfg) (σ : St) : Rl (List Opd) (List V) := fun _ _ os S' _ _ vs => Oprs C σ S' os vs
theorem OprsR.back {C : Cfg} {σ : St} : Back C σ (OprsR C σ) := fun _ _ _ _ _ _ _ _ _ _ _ _ r => r
def tA (C : Cfg) (W : WX) (m : M (List Opd)) : TA := fun σ H Q => ∃ S ρ, StRel C S ρ σ H ∧ Good C W σ S ρ H (m ρ) (OprsR C σ) Q
def argsM : List (M RV) → M (List Opd)
  | [] => pure []
  | m :: ms => opd m >>= fun o => argsM ms >>= fun os => pure (o :: os)

structure VE (X : Cx) (C : Cfg) (W : WX) (e : Expr) (m : M RV) : Prop where pe : PE X e (tE C W m)
structure VT (X : Cx) (C : Cfg) (W : WX) (e : Expr) (m : M Bool) : Prop where pt : PT X e (tT C W m)
structure VW (X : Cx) (C : Cfg) (W : WX) (e : Expr) (m : M Bool) : Prop where pw : PW X e (tT C W m)
structure VA (X : Cx) (C : Cfg) (W : WX) (es : List Expr) (ms : List (M RV)) : Prop where pa : PA X es (tA C W (argsM ms))

section
variable {X : Cx} {C : Cfg} {W : WX} {e a b c : Expr}
theorem PE.imp {t t' : TE} (h : PE X e t) (i : ∀ σ H Q, t' σ H Q → t σ H Q) : PE X e t' := ⟨fun pins s σ H Q I q => h.run pins s σ H Q I (i σ H Q q)⟩
theorem PT.imp {t t' : TT} (h : PT X e t) (i : ∀ σ H Q, t' σ H Q → t σ H Q) : PT X e t' := ⟨fun pins s σ H Q I q => h.run pins s σ H Q I (i σ H Q q)⟩
theorem PW.imp {t t' : TT} (h : PW X e t) (i : ∀ σ H Q, t' σ H Q → t σ H Q) : PW X e t' := ⟨fun wh pins s σ H Q I q => h.run wh pins s σ H Q I (i σ H Q q)⟩
theorem PA.imp {es : List Expr} {t t' : TA} (h : PA X es t) (i : ∀ σ H Q, t' σ H Q → t σ H Q) : PA X es t' := ⟨fun pos pins s σ H Q I q => h.run pos pins s σ H Q I (i σ H Q q)⟩
theorem VW.vt {m : M Bool} (h : VW X C W e m) : VT X C W e m := ⟨h.pw.pt⟩
end

/-! ### operands, read -/
section
variable {α β γ : Type} {C : Cfg} {W : WX} {σ : St} {S : Hp} {ρ : Env} {H : Hp}
theorem Op.fwd {o : Opd} {v : V} {S1 : Hp} (r : Op C σ S o v) (e : Same S S1) : Op C σ S1 o v := by
  cases o with
  | val d => exact Rep.mono (S := S) e r
  | bor i => exact r
theorem Oprs.fwd {os : List Opd} {vs : List V} {S1 : Hp} (r : Oprs C σ S os vs) (e : Same S S1) : Oprs C σ S1 os vs := by
  induction r with
  | nil => exact .nil
  | cons h _ ih => exact .cons (Op.fwd h e) ih
theorem Oprs.len {os : List Opd} {vs : List V} (r : Oprs C σ S os vs) : os.length = vs.length := by
  induction r with
  | nil => rfl
  | cons _ _ ih => simp [ih]
/-- an operand looked at, of now -/
theorem look_now {o : Opd} {v : V} {d : D} {ρ' : Env} (st : StRel C S ρ σ H) (r : Op C σ S o v) (h : look o ρ = .ok d ρ') : ρ' = ρ ∧ Rd C.K S H v d :=
  look_ok r (Stp.refl st) h
theorem Good.look {o : Opd} {v : V} {f : D → M α} {R : Rl α β} {Q : β → Hp → Prop} (st : StRel C S ρ σ H) (r : Op C σ S o v) (g : Good C W σ S ρ H ((look o >>= f) ρ) R Q) :
    ∃ d, Rd C.K S H v d ∧ Good C W σ S ρ H (f d ρ) R Q := by
  rw [bnd_ap] at g
  cases e : VL.look o ρ with
  | stuck => rw [e] at g; exact g.elim
  | exc x ρ1 => exact (look_nox e).elim
  | ok d ρ1 =>
    rw [e] at g
    obtain ⟨rfl, h⟩ := look_now st r e
    exact ⟨d, h, g⟩
def looks : List Opd → M (List D)
  | [] => pure []
  | o :: os => look o >>= fun d => looks os >>= fun ds => pure (d :: ds)
inductive Rds (K : PySem.W.Frag) (S H : Hp) : List V → List D → Prop
  | nil : Rds K S H [] []
  | cons {v : V} {vs : List V} {d : D} {ds : List D} : Rd K S H v d → Rds K S H vs ds → Rds K S H (v :: vs) (d :: ds)
theorem bnd_assoc {m : M α} {f : α → M β} {g : β → M γ} : ((m >>= f) >>= g) = (m >>= fun a => f a >>= g) := by
  funext ρ
  show ((m ρ).bnd f).bnd g = (m ρ).bnd fun a => f a >>= g
  cases m ρ <;> rfl
theorem pur_bnd {a : α} {f : α → M β} : ((pure a : M α) >>= f) = f a := rfl
theorem Good.looks {os : List Opd} {vs : List V} {f : List D → M α} {R : Rl α β} {Q : β → Hp → Prop} (st : StRel C S ρ σ H) (r : Oprs C σ S os vs) (g : Good C W σ S ρ H ((looks os >>= f) ρ) R Q) :
    ∃ ds, Rds C.K S H vs ds ∧ Good C W σ S ρ H (f ds ρ) R Q := by
  induction r generalizing f with
  | nil => exact ⟨[], .nil, g⟩
  | cons h _ ih =>
    rename_i o v os vs _
    have g : Good C W σ S ρ H (((VL.look o >>= fun d => VL.looks os >>= fun ds => pure (d :: ds)) >>= f) ρ) R Q := g
    rw [bnd_assoc] at g
    obtain ⟨d, hd, g⟩ := Good.look st h g
    rw [bnd_assoc] at g
    obtain ⟨ds, hds, g⟩ := ih g
    exact ⟨d :: ds, .cons hd hds, g⟩
end

/-- what a primitive operation may hand back: it changes nothing that stands -/
def OutP (C : Cfg) (S H : Hp) (rv : RV) (Q : VK) : Prop := match rv with
  | .val d => ∀ S' H' v, Same S S' → Same H H' → Same S' H' → (∀ p, S p = none → S' p ≠ none → H p = none) → Rep C.K S' v d → Q v H'
  | .own d => ∀ H' p, Same H H' → H p = none → OwnAt C.K S H' p d → Q (.ref p) H'
  | .bor _ => False
section
variable {α β : Type} {C : Cfg} {W : WX} {σ : St} {S : Hp} {ρ : Env} {H : Hp} {Q : VK}
theorem OutP.flat {d : D} {v : V} (h : OutP C S H (.val d) Q) (st : Same S H) (r : Rep C.K S v d) : Q v H := h S H v (Same.refl _) (Same.refl _) st (fun _ a b => absurd a b) r
theorem OutP.tup {ds : List D} {xs : List V} (h : OutP C S H (.val (.tup ds)) Q) (st : Same S H) (r : Reps C.K S xs ds) {p : Addr} (n : H p = none) : Q (.ref p) (upd H p (.tup xs)) := by
  have nS : S p = none := st.free n
  refine h (upd S p (.tup xs)) _ _ (upd_Same nS) (upd_Same n) (fun b u e => ?_) (fun q a b => ?_) (.tup (SqT.of upd_same) (r.mono (upd_Same nS)))
  · by_cases z : b = p
    · subst z; rw [upd_same] at e ⊢; exact e
    · rw [upd_ne z] at e ⊢; exact st b u e
  · by_cases z : q = p
    · subst z; exact n
    · rw [upd_ne z] at b; exact absurd a b
theorem OutP.lst {ds : List D} {xs : List V} (h : OutP C S H (.own (.lst ds)) Q) (r : Reps C.K S xs ds) {p : Addr} (n : H p = none) : Q (.ref p) (upd H p (.lst xs)) :=
  h _ p (upd_Same n) n ⟨xs, upd_same, r⟩
/-- the end of an expression by a primitive operation -/
theorem Good.out (st : StRel C S ρ σ H) {o : Option RV} (g : Good C W σ S ρ H (M.lift o ρ) (RVr C σ) Q) : ∃ rv, o = some rv ∧ ((∀ i, rv ≠ .bor i) → OutP C S H rv Q) := by
  cases o with
  | none => exact g.elim
  | some rv =>
    refine ⟨rv, rfl, fun nb => ?_⟩
    have g : ∀ S' H' b, Stp C σ S ρ H S' ρ H' → RVr C σ ρ H rv S' ρ H' b → Q b H' := g
    cases rv with
    | bor i => exact (nb i rfl).elim
    | val d =>
      intro S' H' v a b c gr r
      refine g S' H' v ⟨⟨a, fun p o _ h => b p o h, fun p h h' => .inr (gr p h h')⟩, ⟨c, st.len, fun i d e => ?_, fun i d e => ?_, st.dis⟩, fun i d h => ⟨d, h⟩, fun _ h => h⟩ r
      · obtain ⟨w, h1, h2⟩ := st.val i d e
        exact ⟨w, h1, h2.mono a⟩
      · obtain ⟨p, h1, h2, h3⟩ := st.own i d e
        refine ⟨p, h1, ?_, h3.mono a fun o h => b p o h⟩
        cases q : S' p with
        | none => rfl
        | some u =>
          have z := gr p h2 (by rw [q]; simp)
          obtain ⟨o, ho⟩ := h3.ex
          rw [z] at ho; cases ho
    | own d =>
      intro H' p b n r
      have nS : S p = none := st.same.free n
      have no : ¬ OwnA ρ σ p := fun ⟨i, d', h1, h2⟩ => by
        obtain ⟨q, h3, h4, h5⟩ := st.own i d' h1
        have z := h3.symm.trans h2
        cases z
        obtain ⟨o, ho⟩ := h5.ex
        rw [n] at ho; cases ho
      refine g S H' _ ⟨⟨Same.refl _, fun p o _ h => b p o h, fun p h h' => absurd h h'⟩, ⟨st.same.trans b, st.len, st.val, fun i d e => ?_, st.dis⟩, fun i d h => ⟨d, h⟩, fun _ h => h⟩ ⟨p, rfl, nS, r, no, .inr n⟩
      obtain ⟨p, h1, h2, h3⟩ := st.own i d e
      exact ⟨p, h1, h2, h3.mono (Same.refl _) fun o h => b p o h⟩
end

/-! ### primitive operations -/
def Prim1 (C : Cfg) (r : V → Hp → VK → Prop) (f : D → Option RV) : Prop := ∀ S H x dx rv Q, Same S H → Rd C.K S H x dx → f dx = some rv → ((∀ i, rv ≠ .bor i) → OutP C S H rv Q) → r x H Q
def Prim2 (C : Cfg) (r : R2) (f : D → D → Option RV) : Prop := ∀ S H x y dx dy rv Q, Same S H → Rd C.K S H x dx → Rd C.K S H y dy → f dx dy = some rv → ((∀ i, rv ≠ .bor i) → OutP C S H rv Q) → r x y H Q
def PrimN (C : Cfg) (r : List V → Hp → VK → Prop) (f : List D → Option RV) : Prop := ∀ S H xs ds rv Q, Same S H → Rds C.K S H xs ds → f ds = some rv → ((∀ i, rv ≠ .bor i) → OutP C S H rv Q) → r xs H Q
def binM (f : D → D → Option RV) (ma mb : M RV) : M RV := opd ma >>= fun x => opd mb >>= fun y => look x >>= fun dx => look y >>= fun dy => M.lift (f dx dy)
def unM (f : D → Option RV) (ma : M RV) : M RV := opd ma >>= fun x => look x >>= fun dx => M.lift (f dx)
def primM (f : List D → Option RV) (ms : List (M RV)) : M RV := argsM ms >>= fun os => looks os >>= fun ds => M.lift (f ds)
def constM (d : D) : M RV := pure (.val d)
def varM (i : Nat) : M RV := fun ρ => match valD ρ i with
  | some d => .ok (.val d) ρ
  | none => match ownD ρ i with
    | some _ => .ok (.bor i) ρ
    | none => .stuck
def asB : RV → M Bool
  | .val (.bl b) => pure b
  | _ => M.stuck
section
variable {X : Cx} {C : Cfg} {W : WX} {cf : CF} {T : List (Str × Nat)} {e a b c : Expr} {ma mb mc : M RV} {pos : Pos}

theorem tE_bin {r : R2} {f : D → D → Option RV} (p : Prim2 C r f) {σ : St} {H : Hp} {Q : VK} (h : tE C W (binM f ma mb) σ H Q) : tOp r (tE C W ma) (tE C W mb) σ H Q := by
  obtain ⟨S, ρ, st, g⟩ := h
  refine ⟨S, ρ, st, Good.opd (Good.bnd RVr.back g fun x ρ1 S1 H1 v _ e1 r1 g1 => ?_)⟩
  refine ⟨S1, ρ1, e1.st, Good.opd (Good.bnd RVr.back g1 fun y ρ2 S2 H2 u _ e2 r2 g2 => ?_)⟩
  obtain ⟨dx, h1, g3⟩ := Good.look e2.st (Op.fwd r1 e2.ext.sS) g2
  obtain ⟨dy, h2, g4⟩ := Good.look e2.st r2 g3
  obtain ⟨rv, h3, g5⟩ := Good.out e2.st g4
  exact p S2 H2 v u dx dy rv Q e2.st.same h1 h2 h3 g5
theorem tE_un {r : V → Hp → VK → Prop} {f : D → Option RV} (p : Prim1 C r f) {σ : St} {H : Hp} {Q : VK} (h : tE C W (unM f ma) σ H Q) : tE C W ma σ H fun x H1 => r x H1 Q := by
  obtain ⟨S, ρ, st, g⟩ := h
  refine ⟨S, ρ, st, Good.opd (Good.bnd RVr.back g fun x ρ1 S1 H1 v _ e1 r1 g1 => ?_)⟩
  obtain ⟨dx, h1, g3⟩ := Good.look e1.st r1 g1
  obtain ⟨rv, h3, g5⟩ := Good.out e1.st g3
  exact p S1 H1 v dx rv Q e1.st.same h1 h3 g5
theorem tE_prim {r : List V → Hp → VK → Prop} {f : List D → Option RV} (p : PrimN C r f) {ms : List (M RV)} {σ : St} {H : Hp} {Q : VK} (h : tE C W (primM f ms) σ H Q) : tA C W (argsM ms) σ H fun xs H1 => r xs H1 Q := by
  obtain ⟨S, ρ, st, g⟩ := h
  refine ⟨S, ρ, st, Good.bnd RVr.back g fun x ρ1 S1 H1 v _ e1 r1 g1 => ?_⟩
  obtain ⟨dx, h1, g3⟩ := Good.looks e1.st r1 g1
  obtain ⟨rv, h3, g5⟩ := Good.out e1.st g3
  exact p S1 H1 v dx rv Q e1.st.same h1 h3 g5

/-! ### constants and names -/
theorem tE_const {d : D} {v : V} (hr : ∀ K S, Rep K S v d) {σ : St} {H : Hp} {Q : VK} (h : tE C W (constM d) σ H Q) : tC v σ H Q := by
  obtain ⟨S, ρ, st, g⟩ := h
  have g : ∀ S' H' b, Stp C σ S ρ H S' ρ H' → Rep C.K S' b d → Q b H' := g
  exact g S H v (Stp.refl st) (hr _ _)
theorem ve_int {i j pos} : VE X C W (.Constant (.int i) j pos) (constM (.int i)) := ⟨PE.imp pe_int fun _ _ _ => tE_const fun _ _ => .int i⟩
theorem ve_bl {i j pos} : VE X C W (.Constant (.bool i) j pos) (constM (.bl i)) := ⟨PE.imp pe_bl fun _ _ _ => tE_const fun _ _ => .bl i⟩
theorem ve_non {j pos} : VE X C W (.Constant .none j pos) (constM .non) := ⟨PE.imp pe_non fun _ _ _ => tE_const fun _ _ => .non⟩
theorem ve_str {i j pos} : VE X C W (.Constant (.str i) j pos) (constM (.str i)) := ⟨PE.imp pe_str fun _ _ _ => tE_const fun _ _ => .str i⟩
/-- a module's number or text -/
theorem ve_gInt {x : Str} {i : Int} {t : Tok} (hg : Gl X x) (hm : X.mg x = some (.int i t)) (hd : (x == ("__debug__" : Str)) = false := by decide) : VE X C W (.Name x pos) (constM (.int i)) :=
  ⟨PE.imp (pe_glob (v := .int i) hg hm ⟨t, rfl⟩ hd) fun _ _ _ => tE_const fun _ _ => .int i⟩
theorem ve_gStr {x : Str} {i : Str} {t : Tok} (hg : Gl X x) (hm : X.mg x = some (.str i t)) (hd : (x == ("__debug__" : Str)) = false := by decide) : VE X C W (.Name x pos) (constM (.str i)) :=
  ⟨PE.imp (pe_glob (v := .str i) hg hm ⟨t, rfl⟩ hd) fun _ _ _ => tE_const fun _ _ => .str i⟩
/-- a built-in class -/
theorem ve_ty {x : Str} {n : String} (hg : Gl X x) (hm : X.mg x = none) (hv : bootBuiltins x = some (.type n)) (hn : x ≠ "__name__" := by decide) (hd : (x == ("__debug__" : Str)) = false := by decide) : VE X C W (.Name x pos) (constM (.ty n)) :=
  ⟨PE.imp (pe_bltn (v := .ty n) hg hm hv rfl hn hd) fun _ _ _ => tE_const fun _ _ => .ty n⟩
theorem ve_var (i : Nat) {x : Str} (hN : X.N[i]? = some x := by rfl) (hv : Vis X.env.scope x := by first | exact Or.inl rfl | exact Or.inr (Or.inl rfl) | exact Or.inr (Or.inr rfl)) (hd : (x == ("__debug__" : Str)) = false := by decide)
    (hcd : (x == ("__classdict__" : Str)) = false := by decide) : VE X C W (.Name x pos) (varM i) := by
  refine ⟨PE.imp (pe_var hN hv hd hcd) fun σ H Q h => ?_⟩
  obtain ⟨S, ρ, st, g⟩ := h
  unfold varM at g
  cases e : valD ρ i with
  | some d =>
    obtain ⟨v, h1, h2⟩ := st.val i d e
    simp only [e] at g
    exact ⟨v, h1, g S H v (Stp.refl st) h2⟩
  | none =>
    simp only [e] at g
    cases e2 : ownD ρ i with
    | none => simp only [e2] at g; exact g.elim
    | some d =>
      simp only [e2] at g
      obtain ⟨p, h1, h2, h3⟩ := st.own i d e2
      exact ⟨_, h1, g S H _ (Stp.refl st) ⟨h1, d, e2⟩⟩

/-! ### operators, comparisons, tests -/
theorem ve_op {op : Operator} {r : R2} {f : D → D → Option RV} (ho : OpR X (binaryOp op) r) (p : Prim2 C r f) (ha : VE X C W a ma) (hb : VE X C W b mb) : VE X C W (.BinOp a op b pos) (binM f ma mb) :=
  ⟨PE.imp (pe_op ho ha.pe hb.pe) fun _ _ _ => tE_bin p⟩
theorem ve_un {op : UnaryOp} {r : V → Hp → VK → Prop} {f : D → Option RV} (ho : UnR X (unaryOp op) r) (p : Prim1 C r f) (ha : VE X C W a ma) : VE X C W (.UnaryOp op a pos) (unM f ma) :=
  ⟨PE.imp (pe_un ho ha.pe) fun _ _ _ => tE_un p⟩
theorem ve_cmp {op : CmpOp} {r : R2} {f : D → D → Option RV} (ho : OpR X (compareOp op) r) (p : Prim2 C r f) (ha : VE X C W a ma) (hb : VE X C W b mb) (hm : behindInMarks op b = false) : VE X C W (.Compare a [op] [b] pos) (binM f ma mb) :=
  ⟨PE.imp (pe_cmpR ho ha.pe hb.pe hm) fun _ _ _ => tE_bin p⟩
theorem asB_ok {rv : RV} {ρ : Env} {σ : St} {S : Hp} {H : Hp} {Q : Bool → Hp → Prop} {v : V} (st : StRel C S ρ σ H) (h : Good C W σ S ρ H (asB rv ρ) Blr Q) {ρ0 : Env} {H0 : Hp} (r : RVr C σ ρ0 H0 rv S ρ H v) : ∃ k, v = .bl k ∧ Q k H := by
  cases rv with
  | own d => exact h.elim
  | bor i => exact h.elim
  | val d =>
    cases d with
    | bl b =>
      cases r
      have h : ∀ S' H' k, Stp C σ S ρ H S' ρ H' → k = b → Q k H' := h
      exact ⟨b, rfl, h S H b (Stp.refl st) rfl⟩
    | _ => exact h.elim
theorem tT_val {m : M RV} {σ : St} {H : Hp} {Q : Bool → Hp → Prop} (h : tT C W (m >>= asB) σ H Q) : tE C W m σ H fun x H1 => ∃ k, x = .bl k ∧ Q k H1 := by
  obtain ⟨S, ρ, st, g⟩ := h
  exact ⟨S, ρ, st, Good.bnd Blr.back g fun rv ρ1 S1 H1 v _ e1 r1 g1 => asB_ok e1.st g1 r1⟩
theorem vt_cmp {op : CmpOp} {r : R2} {f : D → D → Option RV} (ho : OpR X (compareOp op) r) (p : Prim2 C r f) (ha : VE X C W a ma) (hb : VE X C W b mb) (hm : behindInMarks op b = false) : VT X C W (.Compare a [op] [b] pos) (binM f ma mb >>= asB) :=
  ⟨PT.imp (pt_cmpR ho ha.pe hb.pe hm) fun _ _ _ h => tE_bin p (tT_val h)⟩
/-- a < b < c: the middle one asked once -/
def chainM (f g : D → D → Option RV) (ma mb mc : M RV) : M RV := opd ma >>= fun x => opd mb >>= fun y => look x >>= fun dx => look y >>= fun dy => M.lift (f dx dy) >>= fun rv => asB rv >>= fun k =>
  if k = true then opd mc >>= fun z => look y >>= fun dy => look z >>= fun dz => M.lift (g dy dz) else pure (.val (.bl false))
theorem tE_chain {r r' : R2} {f g : D → D → Option RV} (p : Prim2 C r f) (p' : Prim2 C r' g) {σ : St} {H : Hp} {Q : VK} (h : tE C W (chainM f g ma mb mc) σ H Q) : tChain r r' (tE C W ma) (tE C W mb) (tE C W mc) σ H Q := by
  obtain ⟨S, ρ, st, gd⟩ := h
  refine ⟨S, ρ, st, Good.opd (Good.bnd RVr.back gd fun x ρ1 S1 H1 v _ e1 r1 g1 => ?_)⟩
  refine ⟨S1, ρ1, e1.st, Good.opd (Good.bnd RVr.back g1 fun y ρ2 S2 H2 u _ e2 r2 g2 => ?_)⟩
  obtain ⟨dx, h1, g3⟩ := Good.look e2.st (Op.fwd r1 e2.ext.sS) g2
  obtain ⟨dy, h2, g4⟩ := Good.look e2.st r2 g3
  have g5 := Good.bnd (R := RVr C σ) (Q := fun z H3 => ∃ k, z = V.bl k ∧ (if k = true then tE C W mc σ H3 fun w' H4 => r' u w' H4 Q else Q (.bl false) H3)) RVr.back g4 fun rv ρ3 S3 H3 w _ e3 r3 g6 => by
    cases rv with
    | own d => exact g6.elim
    | bor i => exact g6.elim
    | val d =>
      cases d with
      | bl k =>
        cases r3
        refine ⟨k, rfl, ?_⟩
        cases k with
        | true =>
          rw [if_pos rfl]
          have g6 : Good C W σ S3 ρ3 H3 ((opd mc >>= fun z => look y >>= fun dy => look z >>= fun dz => M.lift (g dy dz)) ρ3) (RVr C σ) Q := g6
          refine ⟨S3, ρ3, e3.st, Good.opd (Good.bnd RVr.back g6 fun z ρ4 S4 H4 q _ e4 r4 g7 => ?_)⟩
          obtain ⟨dy', h5, g8⟩ := Good.look e4.st (Op.fwd r2 (e3.ext.sS.trans e4.ext.sS)) g7
          obtain ⟨dz, h6, g9⟩ := Good.look e4.st r4 g8
          obtain ⟨rv, h7, g10⟩ := Good.out e4.st g9
          exact p' S4 H4 u q dy' dz rv Q e4.st.same h5 h6 h7 g10
        | false =>
          rw [if_neg Bool.false_ne_true]
          have g6 : ∀ S' H' b, Stp C σ S3 ρ3 H3 S' ρ3 H' → Rep C.K S' b (.bl false) → Q b H' := g6
          exact g6 S3 H3 _ (Stp.refl e3.st) (.bl false)
      | _ => exact g6.elim
  obtain ⟨rv, h7, g10⟩ := Good.out e2.st g5
  exact p S2 H2 v u dx dy rv _ e2.st.same h1 h2 h7 g10
theorem ve_chain {op op' : CmpOp} {r r' : R2} {f g : D → D → Option RV} (ho : OpR X (compareOp op) r) (p : Prim2 C r f) (ho' : OpR X (compareOp op') r') (p' : Prim2 C r' g) (ha : VE X C W a ma) (hb : VE X C W b mb) (hc : VE X C W c mc)
    (hm : lastMarks [op, op'] [b, c] = false := by with_unfolding_all rfl) : VE X C W (.Compare a [op, op'] [b, c] pos) (chainM f g ma mb mc) :=
  ⟨PE.imp (pe_chain ho ho' ha.pe hb.pe hc.pe hm) fun _ _ _ => tE_chain p p'⟩
theorem vt_chain {op op' : CmpOp} {r r' : R2} {f g : D → D → Option RV} (ho : OpR X (compareOp op) r) (p : Prim2 C r f) (ho' : OpR X (compareOp op') r') (p' : Prim2 C r' g) (ha : VE X C W a ma) (hb : VE X C W b mb) (hc : VE X C W c mc)
    (hm : lastMarks [op, op'] [b, c] = false := by with_unfolding_all rfl) : VT X C W (.Compare a [op, op'] [b, c] pos) (chainM f g ma mb mc >>= asB) :=
  ⟨PT.imp (pt_chain ho ho' ha.pe hb.pe hc.pe hm) fun _ _ _ h => tE_chain p p' (tT_val h)⟩

def andT (m n : M Bool) : M Bool := m >>= fun c => if c = true then n else pure false
def orT (m n : M Bool) : M Bool := m >>= fun c => if c = true then pure true else n
def notT (m : M Bool) : M Bool := m >>= fun c => pure (!c)
variable {rest : List Expr} {m n : M Bool}
theorem Good.pureB {σ : St} {S : Hp} {ρ : Env} {H : Hp} {k : Bool} {Q : Bool → Hp → Prop} (st : StRel C S ρ σ H) (g : Good C W σ S ρ H ((pure k : M Bool) ρ) Blr Q) : Q k H := by
  have g : ∀ S' H' b, Stp C σ S ρ H S' ρ H' → b = k → Q b H' := g
  exact g S H k (Stp.refl st) rfl
theorem vw_and1 (ha : VT X C W a m) : VW X C W (.BoolOp .And [a] pos) m := ⟨pw_and1 ha.pt⟩
theorem vw_or1 (ha : VT X C W a m) : VW X C W (.BoolOp .Or [a] pos) m := ⟨pw_or1 ha.pt⟩
theorem vw_and (ha : VT X C W a m) (hb : VW X C W (.BoolOp .And (b :: rest) pos) n) : VW X C W (.BoolOp .And (a :: b :: rest) pos) (andT m n) := by
  refine ⟨PW.imp (pw_and ha.pt hb.pw) fun σ H Q h => ?_⟩
  obtain ⟨S, ρ, st, g⟩ := h
  refine ⟨S, ρ, st, Good.bnd Blr.back g fun k ρ1 S1 H1 v _ e1 r1 g1 => ?_⟩
  cases r1
  cases k with
  | true => rw [if_pos rfl] at g1 ⊢; exact ⟨S1, ρ1, e1.st, g1⟩
  | false => rw [if_neg Bool.false_ne_true] at g1 ⊢; exact Good.pureB e1.st g1
theorem vw_or (ha : VT X C W a m) (hb : VW X C W (.BoolOp .Or (b :: rest) pos) n) : VW X C W (.BoolOp .Or (a :: b :: rest) pos) (orT m n) := by
  refine ⟨PW.imp (pw_or ha.pt hb.pw) fun σ H Q h => ?_⟩
  obtain ⟨S, ρ, st, g⟩ := h
  refine ⟨S, ρ, st, Good.bnd Blr.back g fun k ρ1 S1 H1 v _ e1 r1 g1 => ?_⟩
  cases r1
  cases k with
  | true => rw [if_pos rfl] at g1 ⊢; exact Good.pureB e1.st g1
  | false => rw [if_neg Bool.false_ne_true] at g1 ⊢; exact ⟨S1, ρ1, e1.st, g1⟩
theorem vt_not (ha : VT X C W a m) : VT X C W (.UnaryOp .Not a pos) (notT m) := by
  refine ⟨PT.imp (pt_not ha.pt) fun σ H Q h => ?_⟩
  obtain ⟨S, ρ, st, g⟩ := h
  refine ⟨S, ρ, st, Good.bnd Blr.back g fun k ρ1 S1 H1 v _ e1 r1 g1 => ?_⟩
  cases r1
  exact Good.pureB e1.st g1
/-- a value that is True or False, as a test -/
theorem vt_val (ha : VE X C W e ma) (he : ∀ whole, isTrue e X.env whole = (do let v ← whole; standAt e.pos; holding [v] (truthy v)) := by intro _; rfl) : VT X C W e (ma >>= asB) :=
  ⟨PT.imp (pt_val ha.pe he) fun _ _ _ h => tT_val h⟩
/-- truth -/
def LIM : Nat := 16777216
theorem LIM_eq : LIM = sizeLine := sizeLine_eq.symm
def truD : D → Option Bool
  | .non => some false
  | .bl b => some b
  | .int i => some (i != 0)
  | .str s => if s.length ≤ LIM then some ((s.length : Int) != 0) else none
  | .tup ds => some (!ds.isEmpty)
  | .lst ds => some (!ds.isEmpty)
  | _ => none
theorem empty_len {α β : Type} {xs : List α} {ys : List β} (h : xs.length = ys.length) : xs.isEmpty = ys.isEmpty := by
  cases xs <;> cases ys <;> first | rfl | cases h
theorem truD_ok {S H : Hp} {x : V} {d : D} {k : Bool} (h : Rd C.K S H x d) (e : truD d = some k) : TruV C.K x H k := by
  cases d with
  | non => cases h; cases e; rfl
  | bl b => cases h; cases e; rfl
  | int i => cases h; cases e; rfl
  | str s =>
    cases h
    have e : (if s.length ≤ LIM then some ((s.length : Int) != 0) else none) = some k := e
    split at e
    · rename_i hl
      cases e
      exact ⟨by rw [← LIM_eq]; exact hl, rfl⟩
    · cases e
  | tup ds =>
    obtain ⟨a, xs, rfl, h1, h2, _⟩ := h
    cases e
    exact .inr (.inl ⟨xs, h1, by rw [empty_len h2.len]⟩)
  | lst ds =>
    obtain ⟨a, xs, rfl, h1, h2⟩ := h
    cases e
    exact .inl ⟨xs, SqL.of h1, by rw [empty_len h2.len]⟩
  | _ => cases e
def truM (m : M RV) : M Bool := opd m >>= fun o => look o >>= fun d => M.lift (truD d)
theorem Good.liftB {σ : St} {S : Hp} {ρ : Env} {H : Hp} {o : Option Bool} {Q : Bool → Hp → Prop} (st : StRel C S ρ σ H) (g : Good C W σ S ρ H (M.lift o ρ) Blr Q) : ∃ k, o = some k ∧ Q k H := by
  cases o with
  | none => exact g.elim
  | some k => exact ⟨k, rfl, Good.pureB st g⟩
theorem tT_tru {σ : St} {H : Hp} {Q : Bool → Hp → Prop} (h : tT C W (truM ma) σ H Q) : tE C W ma σ H fun x H' => ∃ k, TruV C.K x H' k ∧ Q k H' := by
  obtain ⟨S, ρ, st, g⟩ := h
  refine ⟨S, ρ, st, Good.opd (Good.bnd Blr.back g fun x ρ1 S1 H1 v _ e1 r1 g1 => ?_)⟩
  obtain ⟨d, h1, g2⟩ := Good.look e1.st r1 g1
  obtain ⟨k, h2, q⟩ := Good.liftB e1.st g2
  exact ⟨k, truD_ok h1 h2, q⟩
theorem vt_tru (vx : Vx X C W cf T) (ha : VE X C W e ma) (he : ∀ whole, isTrue e X.env whole = (do let v ← whole; standAt e.pos; holding [v] (truthy v)) := by intro _; rfl) : VT X C W e (truM ma) :=
  ⟨PT.imp (pt_truth ha.pe he) fun σ H Q h => by rw [vx.K]; exact tT_tru h⟩
/-- not, and, or as values (and, or of flags alone but the last one) -/
def notM (m : M RV) : M RV := truM m >>= fun k => pure (.val (.bl (!k)))
def andM (m n : M RV) : M RV := opd m >>= fun o => look o >>= fun d => M.lift (truD d) >>= fun k => if k = true then n else frz o >>= fun d => pure (.val d)
def orM (m n : M RV) : M RV := opd m >>= fun o => look o >>= fun d => M.lift (truD d) >>= fun k => if k = true then frz o >>= fun d => pure (.val d) else n
theorem Good.pureV {σ : St} {S : Hp} {ρ : Env} {H : Hp} {d : D} {v : V} {Q : VK} (st : StRel C S ρ σ H) (r : Rep C.K S v d) (g : Good C W σ S ρ H ((pure (.val d) : M RV) ρ) (RVr C σ) Q) : Q v H := by
  have g : ∀ S' H' b, Stp C σ S ρ H S' ρ H' → Rep C.K S' b d → Q b H' := g
  exact g S H v (Stp.refl st) r
theorem ve_not (vx : Vx X C W cf T) (ha : VE X C W a ma) : VE X C W (.UnaryOp .Not a pos) (notM ma) := by
  refine ⟨PE.imp (pe_notT ha.pe) fun σ H Q h => ?_⟩
  obtain ⟨S, ρ, st, g⟩ := h
  have h2 : tT C W (truM ma) σ H fun k H1 => Q (.bl (!k)) H1 := ⟨S, ρ, st, Good.bnd RVr.back g fun k ρ1 S1 H1 v _ e1 r1 g1 => by cases r1; exact Good.pureV e1.st (.bl _) g1⟩
  rw [vx.K]
  exact tT_tru h2
/-- an operand that is handed on -/
theorem Good.frz {σ : St} {S : Hp} {ρ : Env} {H : Hp} {o : Opd} {v : V} {Q : VK} (st : StRel C S ρ σ H) (r : Op C σ S o v) (g : Good C W σ S ρ H ((VL.frz o >>= fun d => (pure (.val d) : M RV)) ρ) (RVr C σ) Q) : Q v H := by
  cases o with
  | val d => exact Good.pureV st r g
  | bor i =>
    have g : Good C W σ S ρ H ((match frzSlot i ρ with | some (d, ρ') => Res.ok d ρ' | none => .stuck).bnd fun d => (pure (.val d) : M RV)) (RVr C σ) Q := g
    cases q : frzSlot i ρ with
    | none => rw [q] at g; exact g.elim
    | some dr =>
      obtain ⟨d, ρ'⟩ := dr
      rw [q] at g
      have g : ∀ S' H' b, Stp C σ S ρ H S' ρ' H' → Rep C.K S' b d → Q b H' := g
      obtain ⟨p, S', h1, h2, h3⟩ := frz_step st q
      have z := h1.symm.trans r
      cases z
      exact g S' H _ h2 h3
theorem ve_one {op} (h : VE X C W a ma) : VE X C W (.BoolOp op [a] pos) ma := ⟨pe_one h.pe⟩
theorem ve_and (vx : Vx X C W cf T) (ha : VE X C W a ma) (hb : VE X C W (.BoolOp .And (b :: rest) pos) mb) : VE X C W (.BoolOp .And (a :: b :: rest) pos) (andM ma mb) := by
  refine ⟨PE.imp (pe_andT ha.pe hb.pe) fun σ H Q h => ?_⟩
  obtain ⟨S, ρ, st, g⟩ := h
  refine ⟨S, ρ, st, Good.opd (Good.bnd RVr.back g fun x ρ1 S1 H1 v _ e1 r1 g1 => ?_)⟩
  obtain ⟨d, h1, g2⟩ := Good.look e1.st r1 g1
  rw [bnd_ap] at g2
  cases e : truD d with
  | none => rw [e] at g2; exact g2.elim
  | some k =>
    rw [e] at g2
    rw [vx.K]
    refine ⟨k, truD_ok h1 e, ?_⟩
    cases k with
    | true => rw [if_pos rfl]; exact ⟨S1, ρ1, e1.st, g2⟩
    | false => rw [if_neg Bool.false_ne_true]; exact Good.frz e1.st r1 g2
theorem ve_or (vx : Vx X C W cf T) (ha : VE X C W a ma) (hb : VE X C W (.BoolOp .Or (b :: rest) pos) mb) : VE X C W (.BoolOp .Or (a :: b :: rest) pos) (orM ma mb) := by
  refine ⟨PE.imp (pe_orT ha.pe hb.pe) fun σ H Q h => ?_⟩
  obtain ⟨S, ρ, st, g⟩ := h
  refine ⟨S, ρ, st, Good.opd (Good.bnd RVr.back g fun x ρ1 S1 H1 v _ e1 r1 g1 => ?_)⟩
  obtain ⟨d, h1, g2⟩ := Good.look e1.st r1 g1
  rw [bnd_ap] at g2
  cases e : truD d with
  | none => rw [e] at g2; exact g2.elim
  | some k =>
    rw [e] at g2
    rw [vx.K]
    refine ⟨k, truD_ok h1 e, ?_⟩
    cases k with
    | false => rw [if_neg Bool.false_ne_true]; exact ⟨S1, ρ1, e1.st, g2⟩
    | true => rw [if_pos rfl]; exact Good.frz e1.st r1 g2
def ifM (t : M Bool) (m n : M RV) : M RV := t >>= fun k => if k = true then m else n
theorem ve_if {t : M Bool} (hc : VT X C W c t) (ha : VE X C W a ma) (hb : VE X C W b mb) : VE X C W (.IfExp c a b pos) (ifM t ma mb) := by
  refine ⟨PE.imp (pe_ifExp hc.pt ha.pe hb.pe) fun σ H Q h => ?_⟩
  obtain ⟨S, ρ, st, g⟩ := h
  refine ⟨S, ρ, st, Good.bnd RVr.back g fun k ρ1 S1 H1 v _ e1 r1 g1 => ?_⟩
  cases r1
  cases k with
  | true => rw [if_pos rfl] at g1 ⊢; exact ⟨S1, ρ1, e1.st, g1⟩
  | false => rw [if_neg Bool.false_ne_true] at g1 ⊢; exact ⟨S1, ρ1, e1.st, g1⟩

/-! ### argument lists -/
variable {es : List Expr} {ms : List (M RV)}
theorem va_nil : VA X C W [] [] := ⟨PA.imp pa_nil fun σ H Q h => by
  obtain ⟨S, ρ, st, g⟩ := h
  have g : ∀ S' H' b, Stp C σ S ρ H S' ρ H' → Oprs C σ S' [] b → Q b H' := g
  exact g S H [] (Stp.refl st) .nil⟩
theorem va_cons (ha : VE X C W e ma) (hr : VA X C W es ms) (hs : starEach (e :: es) X.env = (false, eval e X.env) :: starEach es X.env := by rfl) : VA X C W (e :: es) (ma :: ms) := by
  refine ⟨PA.imp (pa_cons ha.pe hr.pa hs) fun σ H Q h => ?_⟩
  obtain ⟨S, ρ, st, g⟩ := h
  refine ⟨S, ρ, st, Good.opd (Good.bnd OprsR.back g fun x ρ1 S1 H1 v _ e1 r1 g1 => ?_)⟩
  refine ⟨S1, ρ1, e1.st, Good.bnd OprsR.back g1 fun os ρ2 S2 H2 vs _ e2 r2 g2 => ?_⟩
  have g2 : ∀ S' H' b, Stp C σ S2 ρ2 H2 S' ρ2 H' → Oprs C σ S' (x :: os) b → Q b H' := g2
  exact g2 S2 H2 (v :: vs) (Stp.refl e2.st) (.cons (Op.fwd r1 e2.ext.sS) r2)
end
end VL

/-! VL part d: calls of defs; displays; statements; targets; loops; defs. -/
namespace VL
open PySem L2 PySem.Spec

/-! ### arguments go in and come back -/
def mkArgs (ρ : Env) : List Opd → Option Env
  | [] => some []
  | .val d :: os => (mkArgs ρ os).map fun as => .val d :: as
  | .bor j :: os => match ownD ρ j with
    | some d => (mkArgs ρ os).map fun as => .bow d :: as
    | none => none
def bors : List Opd → List Nat
  | [] => []
  | .val _ :: os => bors os
  | .bor j :: os => j :: bors os
def merge : Slot → Slot → Slot
  | .own _, .bow d => .own d
  | .own _, .bfz d => .val d
  | .bow _, .bow d => .bow d
  | .bow _, .bfz d => .bfz d
  | s, _ => s
def backArgs : Env → List Opd → Env → Env
  | ρ, .bor j :: os, s :: as => backArgs (match ρ[j]? with | some t => ρ.set j (merge t s) | none => ρ) os as
  | ρ, .val _ :: os, _ :: as => backArgs ρ os as
  | ρ, _, _ => ρ
def enterM (cf : CF) (i : Nat) (os : List Opd) : M RV := fun ρ =>
  match mkArgs ρ os with
  | none => .stuck
  | some args => if (bors os).Nodup then match cf i args with
    | .stuck => .stuck
    | .exc x as => .exc x (backArgs ρ os as)
    | .ok (.val d) as => .ok (.val d) (backArgs ρ os as)
    | .ok (.own d) as => .ok (.own d) (backArgs ρ os as)
    | .ok (.bor _) _ => .stuck
    else .stuck
def callM (cf : CF) (i : Nat) (ms : List (M RV)) : M RV := argsM ms >>= enterM cf i

theorem mkArgs_len : ∀ {ρ : Env} {os : List Opd} {as : Env}, mkArgs ρ os = some as → as.length = os.length
  | ρ, [], as, h => by cases h; rfl
  | ρ, .val d :: os, as, h => by
    unfold mkArgs at h
    cases e : mkArgs ρ os with
    | none => rw [e] at h; cases h
    | some a => rw [e] at h; cases h; simp [mkArgs_len e]
  | ρ, .bor j :: os, as, h => by
    unfold mkArgs at h
    cases q : ownD ρ j with
    | none => rw [q] at h; cases h
    | some d =>
      rw [q] at h
      cases e : mkArgs ρ os with
      | none => simp [e] at h
      | some a => simp [e] at h; subst h; simp [mkArgs_len e]
theorem mkArgs_at : ∀ {ρ : Env} {os : List Opd} {as : Env} {k : Nat}, mkArgs ρ os = some as → k < os.length → (∃ d, os[k]? = some (Opd.val d) ∧ as[k]? = some (.val d)) ∨ ∃ j d, os[k]? = some (Opd.bor j) ∧ ownD ρ j = some d ∧ as[k]? = some (.bow d)
  | ρ, [], as, k, h, hk => by cases hk
  | ρ, .val d :: os, as, k, h, hk => by
    unfold mkArgs at h
    cases e : mkArgs ρ os with
    | none => rw [e] at h; cases h
    | some a =>
      rw [e] at h; cases h
      cases k with
      | zero => exact .inl ⟨d, rfl, rfl⟩
      | succ k => simpa using mkArgs_at e (k := k) (by simpa using hk)
  | ρ, .bor j :: os, as, k, h, hk => by
    unfold mkArgs at h
    cases q : ownD ρ j with
    | none => rw [q] at h; cases h
    | some d =>
      rw [q] at h
      cases e : mkArgs ρ os with
      | none => simp [e] at h
      | some a =>
        simp [e] at h; subst h
        cases k with
        | zero => exact .inr ⟨j, d, rfl, q, rfl⟩
        | succ k => simpa using mkArgs_at e (k := k) (by simpa using hk)
theorem mem_bors : ∀ {os : List Opd} {j : Nat}, j ∈ bors os → ∃ k : Nat, os[k]? = some (Opd.bor j)
  | [], j, h => by cases h
  | .val d :: os, j, h => by
    obtain ⟨k, e⟩ := mem_bors (os := os) h
    exact ⟨k + 1, by simpa using e⟩
  | .bor i :: os, j, h => by
    rcases List.mem_cons.mp h with rfl | h
    · exact ⟨0, rfl⟩
    · obtain ⟨k, e⟩ := mem_bors (os := os) h
      exact ⟨k + 1, by simpa using e⟩
theorem bors_mem : ∀ {os : List Opd} {j k : Nat}, os[k]? = some (Opd.bor j) → j ∈ bors os
  | [], j, k, h => by simp at h
  | .val d :: os, j, k, h => by
    cases k with
    | zero => simp at h
    | succ k => exact bors_mem (os := os) (k := k) (by simpa using h)
  | .bor i :: os, j, k, h => by
    cases k with
    | zero => simp at h; subst h; exact List.mem_cons_self
    | succ k => exact List.mem_cons_of_mem _ (bors_mem (os := os) (k := k) (by simpa using h))
theorem bors_inj : ∀ {os : List Opd} {j k k' : Nat}, (bors os).Nodup → os[k]? = some (Opd.bor j) → os[k']? = some (Opd.bor j) → k = k'
  | [], j, k, k', _, h, _ => by simp at h
  | .val d :: os, j, k, k', nd, h, h' => by
    cases k with
    | zero => simp at h
    | succ k =>
      cases k' with
      | zero => simp at h'
      | succ k' => exact congrArg (· + 1) (bors_inj (os := os) (j := j) (k := k) (k' := k') nd (by simpa using h) (by simpa using h'))
  | .bor i :: os, j, k, k', nd, h, h' => by
    have nd' : i ∉ bors os ∧ (bors os).Nodup := List.nodup_cons.mp nd
    cases k with
    | zero =>
      simp at h; subst h
      cases k' with
      | zero => rfl
      | succ k' => exact absurd (bors_mem (os := os) (k := k') (by simpa using h')) nd'.1
    | succ k =>
      cases k' with
      | zero =>
        simp at h'; subst h'
        exact absurd (bors_mem (os := os) (k := k) (by simpa using h)) nd'.1
      | succ k' => exact congrArg (· + 1) (bors_inj (os := os) (j := j) (k := k) (k' := k') nd'.2 (by simpa using h) (by simpa using h'))
theorem backArgs_len : ∀ {ρ : Env} {os : List Opd} {as : Env}, (backArgs ρ os as).length = ρ.length
  | ρ, [], as => by unfold backArgs; rfl
  | ρ, .bor j :: os, [] => by unfold backArgs; rfl
  | ρ, .val d :: os, [] => by unfold backArgs; rfl
  | ρ, .val d :: os, s :: as => by
    show (backArgs ρ os as).length = _
    exact backArgs_len
  | ρ, .bor j :: os, s :: as => by
    show (backArgs (match ρ[j]? with | some t => ρ.set j (merge t s) | none => ρ) os as).length = _
    refine backArgs_len.trans ?_
    cases ρ[j]? <;> simp
theorem backArgs_get : ∀ {ρ : Env} {os : List Opd} {as : Env} (j : Nat), (bors os).Nodup → as.length = os.length →
    (∃ (k : Nat) (s : Slot), os[k]? = some (Opd.bor j) ∧ as[k]? = some s ∧ (backArgs ρ os as)[j]? = (ρ[j]?).map fun t => merge t s) ∨ ((∀ k : Nat, os[k]? ≠ some (Opd.bor j)) ∧ (backArgs ρ os as)[j]? = ρ[j]?)
  | ρ, [], as, j, _, _ => .inr ⟨fun k => by simp, by unfold backArgs; rfl⟩
  | ρ, .val d :: os, [], j, _, h => by simp at h
  | ρ, .bor i :: os, [], j, _, h => by simp at h
  | ρ, .val d :: os, s :: as, j, nd, h => by
    show (∃ (k : Nat) (s' : Slot), _ ∧ _ ∧ (backArgs ρ os as)[j]? = _) ∨ (_ ∧ (backArgs ρ os as)[j]? = _)
    rcases backArgs_get (ρ := ρ) (os := os) (as := as) j nd (by simpa using h) with ⟨k, s', h1, h2, h3⟩ | ⟨h1, h2⟩
    · exact .inl ⟨k + 1, s', by simpa using h1, by simpa using h2, h3⟩
    · refine .inr ⟨fun k => ?_, h2⟩
      cases k with
      | zero => simp
      | succ k => simpa using h1 k
  | ρ, .bor i :: os, s :: as, j, nd, h => by
    have nd' : i ∉ bors os ∧ (bors os).Nodup := List.nodup_cons.mp nd
    show (∃ (k : Nat) (s' : Slot), _ ∧ _ ∧ (backArgs (match ρ[i]? with | some t => ρ.set i (merge t s) | none => ρ) os as)[j]? = _) ∨ (_ ∧ (backArgs (match ρ[i]? with | some t => ρ.set i (merge t s) | none => ρ) os as)[j]? = _)
    generalize hρ : (match ρ[i]? with | some t => ρ.set i (merge t s) | none => ρ) = ρ1
    by_cases z : j = i
    · subst z
      rcases backArgs_get (ρ := ρ1) (os := os) (as := as) j nd'.2 (by simpa using h) with ⟨k, s', h1, h2, h3⟩ | ⟨h1, h2⟩
      · exact absurd (bors_mem h1) nd'.1
      · refine .inl ⟨0, s, rfl, rfl, h2.trans ?_⟩
        subst hρ
        cases q : ρ[j]? with
        | none => simp [q]
        | some t =>
          have hj : j < ρ.length := (List.getElem?_eq_some_iff.mp q).1
          simp [hj]
    · have e1 : ρ1[j]? = ρ[j]? := by
        subst hρ
        cases q : ρ[i]? with
        | none => rfl
        | some t => exact List.getElem?_set_ne (Ne.symm z)
      rcases backArgs_get (ρ := ρ1) (os := os) (as := as) j nd'.2 (by simpa using h) with ⟨k, s', h1, h2, h3⟩ | ⟨h1, h2⟩
      · exact .inl ⟨k + 1, s', by simpa using h1, by simpa using h2, by rw [h3, e1]⟩
      · refine .inr ⟨fun k => ?_, h2.trans e1⟩
        cases k with
        | zero => intro e; simp at e; exact z e.symm
        | succ k => simpa using h1 k

section
variable {C : Cfg} {W : WX} {σ : St} {S : Hp} {ρ : Env} {H : Hp} {os : List Opd} {vs : List V}
theorem Oprs.at {k : Nat} {o : Opd} (r : Oprs C σ S os vs) (e : os[k]? = some o) : ∃ v, vs[k]? = some v ∧ Op C σ S o v := by
  induction r generalizing k with
  | nil => simp at e
  | cons h _ ih =>
    cases k with
    | zero => simp at e; subst e; exact ⟨_, rfl, h⟩
    | succ k => simpa using ih (k := k) (by simpa using e)
theorem own_bow {as : Env} {k : Nat} {d : D} (h : as[k]? = some (.bow d)) : ownD as k = some d := by unfold ownD; rw [h]
theorem args_own (hm : mkArgs ρ os = some as) {k : Nat} {d : D} (h : ownD as k = some d) : ∃ j, os[k]? = some (Opd.bor j) ∧ ownD ρ j = some d := by
  have hk : k < os.length := by rw [← mkArgs_len hm]; exact lt_own h
  rcases mkArgs_at hm hk with ⟨d', h1, h2⟩ | ⟨j, d', h1, h2, h3⟩
  · unfold ownD at h; rw [h2] at h; cases h
  · rw [own_bow h3] at h; cases h
    exact ⟨j, h1, h2⟩
theorem args_ownA (r : Oprs C σ S os vs) (hm : mkArgs ρ os = some as) {p : Addr} (h : OwnA as (vs.map some) p) : ∃ (k j : Nat) (d : D), os[k]? = some (Opd.bor j) ∧ ownD ρ j = some d ∧ σ[j]? = some (some (V.ref p)) ∧ vs[k]? = some (V.ref p) := by
  obtain ⟨k, d, h1, h2⟩ := h
  obtain ⟨j, h3, h4⟩ := args_own hm h1
  obtain ⟨v, h5, h6⟩ := r.at h3
  have e : v = V.ref p := by simp [h5] at h2; exact h2
  subst e
  exact ⟨k, j, d, h3, h4, h6, h5⟩
/-- the callee's slots -/
theorem args_st (st : StRel C S ρ σ H) (r : Oprs C σ S os vs) (hm : mkArgs ρ os = some as) (nd : (bors os).Nodup) : StRel C S as (vs.map some) H := by
  have hl := mkArgs_len hm
  refine ⟨st.same, by rw [List.length_map, ← r.len, hl], fun k d h => ?_, fun k d h => ?_, fun k k' d e p h1 h2 h3 h4 => ?_⟩
  · have hk : k < os.length := by
      rw [← hl]
      unfold valD at h
      by_cases z : k < as.length
      · exact z
      · rw [List.getElem?_eq_none (by omega)] at h; cases h
    rcases mkArgs_at hm hk with ⟨d', h1, h2⟩ | ⟨j, d', h1, h2, h3⟩
    · obtain ⟨v, h5, h6⟩ := r.at h1
      unfold valD at h; rw [h2] at h; cases h
      exact ⟨v, by simp [h5], h6⟩
    · unfold valD at h; rw [h3] at h; cases h
  · obtain ⟨j, h3, h4⟩ := args_own hm h
    obtain ⟨v, h5, h6⟩ := r.at h3
    obtain ⟨p, a, b, c⟩ := st.own j d h4
    have z := a.symm.trans h6
    cases z
    exact ⟨p, by simp [h5], b, c⟩
  · obtain ⟨j, a1, a2⟩ := args_own hm h1
    obtain ⟨j', b1, b2⟩ := args_own hm h2
    obtain ⟨v, a5, a6⟩ := r.at a1
    obtain ⟨v', b5, b6⟩ := r.at b1
    have ev : v = V.ref p := by simp [a5] at h3; exact h3
    have ev' : v' = V.ref p := by simp [b5] at h4; exact h4
    subst ev ev'
    have := st.dis j j' d e p a2 b2 a6 b6
    subst this
    exact bors_inj nd a1 b1
theorem get_len {α : Type} {l : List α} {i : Nat} {a : α} (h : l[i]? = some a) : i < l.length := (List.getElem?_eq_some_iff.mp h).1
/-- behind the call -/
theorem back_stp (st : StRel C S ρ σ H) (r : Oprs C σ S os vs) (hm : mkArgs ρ os = some as) (nd : (bors os).Nodup) {S' H' : Hp} {as' : Env} (e : Stp C (vs.map some) S as H S' as' H') : Stp C σ S ρ H S' (backArgs ρ os as') H' := by
  have hl : as'.length = os.length := by
    have h1 := e.st.len
    rw [List.length_map, ← r.len] at h1
    exact h1.symm
  have mk : ∀ {k j : Nat}, os[k]? = some (Opd.bor j) → markB as' k = true := fun {k j} h => by
    refine e.mrk k ?_
    rcases mkArgs_at hm (get_len h) with ⟨d', h1, h2⟩ | ⟨j', d', h1, h2, h3⟩
    · rw [h] at h1; cases h1
    · unfold markB; rw [h3]
  have OA : ∀ p, OwnA as (vs.map some) p → OwnA ρ σ p := fun p h => by
    obtain ⟨k, j, d, h1, h2, h3, h4⟩ := args_ownA r hm h
    exact ⟨j, d, h2, h3⟩
  have sub : ∀ j d, ownD (backArgs ρ os as') j = some d → ∃ e, ownD ρ j = some e := fun j d h => by
    rcases backArgs_get (ρ := ρ) j nd hl with ⟨k, s, h1, h2, h3⟩ | ⟨h1, h2⟩
    · unfold ownD at h
      rw [h3] at h
      unfold ownD
      cases q : ρ[j]? with
      | none => rw [q] at h; cases h
      | some t =>
        rw [q] at h
        have h : (match merge t s with | .own d => some d | .bow d => some d | _ => none) = some d := by
          simp only [Option.map_some] at h
          revert h
          cases merge t s <;> exact fun h => h
        cases t with
        | own d' => exact ⟨d', rfl⟩
        | bow d' => exact ⟨d', rfl⟩
        | _ => cases s <;> cases h
    · unfold ownD at h ⊢
      rw [h2] at h
      exact ⟨d, h⟩
  refine ⟨e.ext.mono OA, ⟨e.st.same, by rw [backArgs_len]; exact st.len, fun j d h => ?_, fun j d h => ?_, fun i j d d' p h1 h2 h3 h4 => ?_⟩, sub, fun j h => ?_⟩
  · rcases backArgs_get (ρ := ρ) j nd hl with ⟨k, s, h1, h2, h3⟩ | ⟨h1, h2⟩
    · obtain ⟨v, h5, h6⟩ := r.at h1
      rcases mkArgs_at hm (get_len h1) with ⟨d', a1, a2⟩ | ⟨j', d', a1, a2, a3⟩
      · rw [h1] at a1; cases a1
      · rw [h1] at a1; cases a1
        have mk' := mk h1
        unfold valD at h
        rw [h3] at h
        unfold ownD at a2
        unfold markB at mk'
        rw [h2] at mk'
        have vk : ∀ d, s = .bfz d → ∃ w, σ[j]? = some (some w) ∧ Rep C.K S' w d := fun d es => by
          obtain ⟨w, b1, b2⟩ := e.st.val k d (by unfold valD; rw [h2, es])
          simp [h5] at b1
          subst b1
          exact ⟨v, h6, b2⟩
        cases q : ρ[j]? with
        | none => rw [q] at a2; cases a2
        | some t =>
          rw [q] at a2 h
          simp only [Option.map_some] at h
          cases s with
          | bow d2 => cases t <;> first | (cases a2; done) | (cases h; done)
          | bfz d2 =>
            cases t with
            | own d3 => cases h; exact vk _ rfl
            | bow d3 => cases h; exact vk _ rfl
            | _ => cases a2
          | _ => cases mk'
    · unfold valD at h
      rw [h2] at h
      obtain ⟨v, b1, b2⟩ := st.val j d (by unfold valD; exact h)
      exact ⟨v, b1, b2.mono e.ext.sS⟩
  · rcases backArgs_get (ρ := ρ) j nd hl with ⟨k, s, h1, h2, h3⟩ | ⟨h1, h2⟩
    · obtain ⟨v, h5, h6⟩ := r.at h1
      obtain ⟨d0, hd0⟩ := sub j d h
      have mk' := mk h1
      unfold ownD at h
      rw [h3] at h
      unfold markB at mk'
      rw [h2] at mk'
      have es : s = .bow d := by
        cases q : ρ[j]? with
        | none => rw [q] at h; cases h
        | some t =>
          rw [q] at h
          simp only [Option.map_some] at h
          unfold ownD at hd0
          rw [q] at hd0
          cases s with
          | bow d2 => cases t <;> first | (cases h; rfl) | cases hd0
          | bfz d2 => cases t <;> first | (cases h; done) | (cases hd0; done)
          | _ => cases mk'
      subst es
      obtain ⟨p, b1, b2, b3⟩ := e.st.own k d (own_bow h2)
      simp [h5] at b1
      subst b1
      exact ⟨p, h6, b2, b3⟩
    · have hd : ownD ρ j = some d := by unfold ownD at h ⊢; rw [h2] at h; exact h
      obtain ⟨p, b1, b2, b3⟩ := st.own j d hd
      have nA : ¬ OwnA as (vs.map some) p := fun z => by
        obtain ⟨k, j', d', c1, c2, c3, c4⟩ := args_ownA r hm z
        have := st.dis j j' d d' p hd c2 b1 c3
        subst this
        exact h1 k c1
      refine ⟨p, b1, ?_, b3.mono e.ext.sS fun o ho => e.ext.keep p o nA ho⟩
      cases q : S' p with
      | none => rfl
      | some u =>
        obtain ⟨o, ho⟩ := b3.ex
        rcases e.ext.grow p b2 (by rw [q]; simp) with z | z
        · exact absurd z nA
        · rw [z] at ho; cases ho
  · obtain ⟨d1, e1⟩ := sub i d h1
    obtain ⟨d2, e2⟩ := sub j d' h2
    exact st.dis i j d1 d2 p e1 e2 h3 h4
  · rcases backArgs_get (ρ := ρ) j nd hl with ⟨k, s, h1, h2, h3⟩ | ⟨h1, h2⟩
    · unfold markB at h ⊢
      have mk' := mk h1
      unfold markB at mk'
      rw [h2] at mk'
      rw [h3]
      cases q : ρ[j]? with
      | none => rw [q] at h; cases h
      | some t =>
        rw [q] at h
        cases t with
        | bow d => cases s <;> first | rfl | cases mk'
        | bfz d => cases s <;> first | rfl | cases mk'
        | _ => cases h
    · unfold markB at h ⊢
      rw [h2]; exact h
/-- the answer of a call -/
theorem back_rv (st : StRel C S ρ σ H) (r : Oprs C σ S os vs) (hm : mkArgs ρ os = some as) (nd : (bors os).Nodup) {S' H' : Hp} {as' : Env} {rv : RV} {v : V} (e : Stp C (vs.map some) S as H S' as' H') (h : RVr C (vs.map some) as H rv S' as' H' v)
    (nb : ∀ i, rv ≠ .bor i) : RVr C σ ρ H rv S' (backArgs ρ os as') H' v := by
  have e2 := back_stp st r hm nd e
  have hl : as'.length = os.length := by
    have h1 := e.st.len
    rw [List.length_map, ← r.len] at h1
    exact h1.symm
  cases rv with
  | bor i => exact (nb i rfl).elim
  | val d => exact h
  | own d =>
    obtain ⟨p, h1, h2, h3, h4, h5⟩ := h
    refine ⟨p, h1, h2, h3, fun z => ?_, ?_⟩
    · obtain ⟨j, d', c1, c2⟩ := z
      obtain ⟨d0, hd0⟩ := e2.sub j d' c1
      rcases h5 with h5 | h5
      · obtain ⟨k, j', d'', b1, b2, b3, b4⟩ := args_ownA r hm h5
        have := st.dis j j' d0 d'' p hd0 b2 c2 b3
        subst this
        obtain ⟨q, a1, a2, a3⟩ := e2.st.own j d' c1
        rcases backArgs_get (ρ := ρ) j nd hl with ⟨k2, s, x1, x2, x3⟩ | ⟨x1, x2⟩
        · have ek := bors_inj nd b1 x1
          subst ek
          have mk' : markB as' k = true := by
            refine e.mrk k ?_
            rcases mkArgs_at hm (get_len b1) with ⟨d', y1, y2⟩ | ⟨j', d', y1, y2, y3⟩
            · rw [b1] at y1; cases y1
            · unfold markB; rw [y3]
          refine h4 ⟨k, d', ?_, by simp [b4]⟩
          unfold ownD at c1
          rw [x3] at c1
          unfold markB at mk'
          rw [x2] at mk'
          unfold ownD
          rw [x2]
          unfold ownD at b2
          cases q : ρ[j]? with
          | none => rw [q] at b2; cases b2
          | some t =>
            rw [q] at c1 b2
            simp only [Option.map_some] at c1
            cases s with
            | bow d2 => cases t <;> first | (cases c1; rfl) | cases b2
            | bfz d2 => cases t <;> first | (cases c1; done) | (cases b2; done)
            | _ => cases mk'
        · exact x1 k b1
      · obtain ⟨q, a1, a2, a3⟩ := st.own j d0 hd0
        rw [c2] at a1; cases a1
        obtain ⟨o, ho⟩ := a3.ex
        rw [h5] at ho; cases ho
    · rcases h5 with h5 | h5
      · obtain ⟨k, j', d'', b1, b2, b3, b4⟩ := args_ownA r hm h5
        exact .inl ⟨j', d'', b2, b3⟩
      · exact .inr h5
theorem enter_ok {cf : CF} {i np : Nat} {Q : VK} (st : StRel C S ρ σ H) (r : Oprs C σ S os vs) (hn : os.length = np) (g : Good C W σ S ρ H (enterM cf i os ρ) (RVr C σ) Q) : spOf C cf i np vs H Q (WE W σ) := by
  unfold enterM at g
  cases hm : mkArgs ρ os with
  | none => simp only [hm] at g; exact g.elim
  | some as =>
    simp only [hm] at g
    by_cases nd : (bors os).Nodup
    · rw [if_pos nd] at g
      refine ⟨S, as, by rw [← r.len]; exact hn, args_st st r hm nd, ?_⟩
      cases q : cf i as with
      | stuck => rw [q] at g; exact g
      | exc x as' =>
        rw [q] at g
        intro S' H' cls d e h
        exact g S' H' cls d (back_stp st r hm nd e) h
      | ok rv as' =>
        rw [q] at g
        cases rv with
        | bor j => exact g.elim
        | val d =>
          intro S' H' v e h
          exact g S' H' v (back_stp st r hm nd e) (back_rv st r hm nd e h fun _ z => by cases z)
        | own d =>
          intro S' H' v e h
          exact g S' H' v (back_stp st r hm nd e) (back_rv st r hm nd e h fun _ z => by cases z)
    · rw [if_neg nd] at g; exact g.elim
end

section
variable {X : Cx} {C : Cfg} {W : WX} {cf : CF} {T : List (Str × Nat)} {e a b c : Expr} {es : List Expr} {ma mb mc : M RV} {ms : List (M RV)} {pos p : Pos} {x : Str}
theorem argsM_len : ∀ {ms : List (M RV)} {os : List Opd} {ρ ρ' : Env}, argsM ms ρ = .ok os ρ' → os.length = ms.length
  | [], os, ρ, ρ', h => by cases h; rfl
  | m :: ms, os, ρ, ρ', h => by
    have h : ((opd m ρ).bnd fun o => argsM ms >>= fun os => pure (o :: os)) = .ok os ρ' := h
    cases e : opd m ρ with
    | stuck => rw [e] at h; cases h
    | exc x r => rw [e] at h; cases h
    | ok o r =>
      rw [e] at h
      have h : ((argsM ms r).bnd fun os => pure (o :: os)) = .ok os ρ' := h
      cases e2 : argsM ms r with
      | stuck => rw [e2] at h; cases h
      | exc x r2 => rw [e2] at h; cases h
      | ok os2 r2 =>
        rw [e2] at h
        have h : Res.ok (o :: os2) r2 = .ok os ρ' := h
        cases h
        simp [argsM_len (os := os2) e2]
theorem ve_call (vx : Vx X C W cf T) {i np : Nat} (ht : T[i]? = some (x, np)) (hg : Gl X x) (ha : VA X C W (e :: es) ms) (hn : ms.length = np) (hdb : (x == ("__debug__" : Str)) = false := by decide)
    (he : starEach (e :: es) X.env = (false, eval e X.env) :: starEach es X.env := by rfl) (hpl : (backTo pos (starEach es X.env)).any (·.1) = false := by rfl) : VE X C W (.Call (.Name x p) (e :: es) [] pos) (callM cf i ms) := by
  obtain ⟨k, hr, tab⟩ := vx.tab
  obtain ⟨f, fd, ps, hm, hk, hb, hl, F⟩ := (tab i x np ht).ex
  refine ⟨PE.imp (pe_callG (E := WE W) F hr vx.gd hg hm hk hb (fun σ => passAt vx.tk σ) ha.pa hdb he hpl) fun σ H Q h => ?_⟩
  obtain ⟨S, ρ, st, g⟩ := h
  refine ⟨S, ρ, st, Good.bnd RVr.back g fun os ρ1 S1 H1 vs e0 e1 r1 g1 => enter_ok e1.st r1 ((argsM_len e0).trans hn) g1⟩
theorem ve_call0 (vx : Vx X C W cf T) {i : Nat} (ht : T[i]? = some (x, 0)) (hg : Gl X x) (hdb : (x == ("__debug__" : Str)) = false := by decide) : VE X C W (.Call (.Name x p) [] [] pos) (callM cf i []) := by
  obtain ⟨k, hr, tab⟩ := vx.tab
  obtain ⟨f, fd, ps, hm, hk, hb, hl, F⟩ := (tab i x 0 ht).ex
  refine ⟨PE.imp (pe_callG0 (E := WE W) F hr vx.gd hg hm hk hb (fun σ => passAt vx.tk σ) hdb) fun σ H Q h => ?_⟩
  obtain ⟨S, ρ, st, g⟩ := h
  exact enter_ok st .nil rfl g
end
end VL

/-! VL part e: displays; statements; targets; loops; a def by its body. -/
namespace VL
open PySem L2

inductive Fl where
  | nx | brk | cont | ret (rv : RV)
abbrev MS := M Fl

structure StpS (C : Cfg) (S : Hp) (ρ : Env) (σ : St) (H S' : Hp) (ρ' : Env) (σ' : St) (H' : Hp) : Prop where
  ext : Ext (OwnA ρ σ) S H S' H'
  st : StRel C S' ρ' σ' H'
  new : ∀ p, OwnA ρ' σ' p → OwnA ρ σ p ∨ H p = none
  mrk : ∀ i, markB ρ i = true → markB ρ' i = true ∧ σ'[i]? = σ[i]?
section
variable {C : Cfg} {W : WX} {S S1 S2 : Hp} {ρ ρ1 ρ2 : Env} {σ σ1 σ2 : St} {H H1 H2 : Hp}
theorem StpS.refl (h : StRel C S ρ σ H) : StpS C S ρ σ H S ρ σ H := ⟨Ext.refl, h, fun _ h => .inl h, fun _ h => ⟨h, rfl⟩⟩
theorem StpS.trans (a : StpS C S ρ σ H S1 ρ1 σ1 H1) (b : StpS C S1 ρ1 σ1 H1 S2 ρ2 σ2 H2) : StpS C S ρ σ H S2 ρ2 σ2 H2 := by
  refine ⟨a.ext.trans b.ext a.new, b.st, fun p h => ?_, fun i h => ?_⟩
  · rcases b.new p h with h | h
    · exact a.new p h
    · exact a.ext.back h
  · obtain ⟨h1, h2⟩ := a.mrk i h
    obtain ⟨h3, h4⟩ := b.mrk i h1
    exact ⟨h3, h4.trans h2⟩
theorem Stp.toS (e : Stp C σ S ρ H S1 ρ1 H1) : StpS C S ρ σ H S1 ρ1 σ H1 := ⟨e.ext, e.st, fun p h => .inl (e.subA p h), fun i h => ⟨e.mrk i h, rfl⟩⟩

def RetR (C : Cfg) (ρ : Env) (σ : St) (H : Hp) (rv : RV) (S' : Hp) (ρ' : Env) (σ' : St) (H' : Hp) (v : V) : Prop := match rv with
  | .val d => Rep C.K S' v d
  | .own d => ∃ p, v = V.ref p ∧ S' p = none ∧ OwnAt C.K S' H' p d ∧ ¬ OwnA ρ' σ' p ∧ (OwnA ρ σ p ∨ H p = none)
  | .bor _ => False
def GoodS (C : Cfg) (W : WX) (S : Hp) (ρ : Env) (σ : St) (H : Hp) (r : Res Fl) (D : Ends) : Prop := match r with
  | .stuck => False
  | .ok .nx ρ' => ∀ S' H' σ', StpS C S ρ σ H S' ρ' σ' H' → D.nx σ' H'
  | .ok .brk ρ' => ∀ S' H' σ', StpS C S ρ σ H S' ρ' σ' H' → D.bk σ' H'
  | .ok .cont ρ' => ∀ S' H' σ', StpS C S ρ σ H S' ρ' σ' H' → D.ct σ' H'
  | .ok (.ret rv) ρ' => ∀ S' H' σ' v, StpS C S ρ σ H S' ρ' σ' H' → RetR C ρ σ H rv S' ρ' σ' H' v → D.rt v H'
  | .exc x ρ' => ∀ S' H' σ' cls d, StpS C S ρ σ H S' ρ' σ' H' → C.xr x H' cls d → W cls d σ' H'
theorem RetR.back (a : StpS C S ρ σ H S1 ρ1 σ1 H1) {rv : RV} {S' : Hp} {ρ' : Env} {σ' : St} {H' : Hp} {v : V} (r : RetR C ρ1 σ1 H1 rv S' ρ' σ' H' v) : RetR C ρ σ H rv S' ρ' σ' H' v := by
  cases rv with
  | val d => exact r
  | bor i => exact r
  | own d =>
    obtain ⟨p, h1, h2, h3, h4, h5⟩ := r
    refine ⟨p, h1, h2, h3, h4, ?_⟩
    rcases h5 with h5 | h5
    · exact a.new p h5
    · exact a.ext.back h5
theorem GoodS.from {r : Res Fl} {D : Ends} (a : StpS C S ρ σ H S1 ρ1 σ1 H1) (h : GoodS C W S ρ σ H r D) : GoodS C W S1 ρ1 σ1 H1 r D := by
  cases r with
  | stuck => exact h
  | exc x ρ' => exact fun S' H' σ' cls d e q => h S' H' σ' cls d (a.trans e) q
  | ok f ρ' =>
    cases f with
    | nx => exact fun S' H' σ' e => h S' H' σ' (a.trans e)
    | brk => exact fun S' H' σ' e => h S' H' σ' (a.trans e)
    | cont => exact fun S' H' σ' e => h S' H' σ' (a.trans e)
    | ret rv => exact fun S' H' σ' v e q => h S' H' σ' v (a.trans e) (q.back a)
/-- an expression ahead of the rest of a statement -/
theorem GoodS.bnd {α β : Type} {m : M α} {f : α → MS} {R : Rl α β} {Q : β → Hp → Prop} {D : Ends} (h : GoodS C W S ρ σ H ((m >>= f) ρ) D)
    (k : ∀ a ρ1 S1 H1 b, m ρ = .ok a ρ1 → Stp C σ S ρ H S1 ρ1 H1 → R ρ H a S1 ρ1 H1 b → GoodS C W S1 ρ1 σ H1 (f a ρ1) D → Q b H1) : Good C W σ S ρ H (m ρ) R Q := by
  rw [bnd_ap] at h
  cases e : m ρ with
  | stuck => rw [e] at h; exact h
  | ok a ρ1 =>
    rw [e] at h
    exact fun S1 H1 b st r => k a ρ1 S1 H1 b e st r (GoodS.from st.toS h)
  | exc x ρ1 =>
    rw [e] at h
    exact fun S' H' cls d st q => h S' H' σ cls d st.toS q
/-- .. told from the begin -/
theorem GoodS.bnd0 {α β : Type} {m : M α} {f : α → MS} {R : Rl α β} {Q : β → Hp → Prop} {D : Ends} (h : GoodS C W S ρ σ H ((m >>= f) ρ) D)
    (k : ∀ a ρ1 S1 H1 b, m ρ = .ok a ρ1 → Stp C σ S ρ H S1 ρ1 H1 → R ρ H a S1 ρ1 H1 b → GoodS C W S ρ σ H (f a ρ1) D → Q b H1) : Good C W σ S ρ H (m ρ) R Q := by
  rw [bnd_ap] at h
  cases e : m ρ with
  | stuck => rw [e] at h; exact h
  | ok a ρ1 =>
    rw [e] at h
    exact fun S1 H1 b st r => k a ρ1 S1 H1 b e st r h
  | exc x ρ1 =>
    rw [e] at h
    exact fun S' H' cls d st q => h S' H' σ cls d st.toS q
end

def tS (C : Cfg) (W : WX) (m : MS) : TS := fun D σ H => ∃ S ρ, StRel C S ρ σ H ∧ GoodS C W S ρ σ H (m ρ) D
structure VS (X : Cx) (C : Cfg) (W : WX) (st : Stmt) (m : MS) : Prop where ps : PS X st (tS C W m)
structure VSs (X : Cx) (C : Cfg) (W : WX) (st : List Stmt) (m : MS) : Prop where ps : PSs X st (tS C W m)
def seqS (m n : MS) : MS := m >>= fun f => match f with
  | .nx => n
  | f => pure f
section
variable {X : Cx} {C : Cfg} {W : WX} {cf : CF} {T : List (Str × Nat)} {e a b c : Expr} {es : List Expr} {ma mb mc : M RV} {ms : List (M RV)} {pos p : Pos} {x : Str} {st : Stmt} {sts : List Stmt} {m n : MS}
theorem PS.imp {t t' : TS} (h : PS X st t) (i : ∀ D σ H, t' D σ H → t D σ H) : PS X st t' := ⟨fun pins s σ H D I q => h.run pins s σ H D I (i D σ H q)⟩
theorem PSs.imp {t t' : TS} (h : PSs X sts t) (i : ∀ D σ H, t' D σ H → t D σ H) : PSs X sts t' := ⟨fun pins s σ H D I q => h.run pins s σ H D I (i D σ H q)⟩
/-- a statement ahead of a block -/
theorem GoodS.seq {S : Hp} {ρ : Env} {σ : St} {H : Hp} {D : Ends} (g : GoodS C W S ρ σ H (seqS m n ρ) D) : GoodS C W S ρ σ H (m ρ) { D with nx := tS C W n D } := by
  unfold seqS at g
  rw [bnd_ap] at g
  cases q : m ρ with
  | stuck => rw [q] at g; exact g
  | exc x ρ' => rw [q] at g; exact g
  | ok f ρ' =>
    rw [q] at g
    cases f with
    | nx => exact fun S' H' σ' e => ⟨S', ρ', e.st, GoodS.from e g⟩
    | brk => exact g
    | cont => exact g
    | ret rv => exact g
theorem vss_nil : VSs X C W [] (pure .nx) := ⟨PSs.imp pss_nil fun D σ H h => by
  obtain ⟨S, ρ, st, g⟩ := h
  have g : ∀ S' H' σ', StpS C S ρ σ H S' ρ σ' H' → D.nx σ' H' := g
  exact g S H σ (StpS.refl st)⟩
theorem vss_cons (h1 : VS X C W st m) (h2 : VSs X C W sts n) : VSs X C W (st :: sts) (seqS m n) := ⟨PSs.imp (pss_cons h1.ps h2.ps) fun D σ H h => by
  obtain ⟨S, ρ, st, g⟩ := h
  exact ⟨S, ρ, st, GoodS.seq g⟩⟩
theorem vss_one (h1 : VS X C W st m) : VSs X C W [st] m := ⟨pss_one h1.ps⟩
theorem vs_pass : VS X C W (.Pass pos) (pure .nx) := ⟨PS.imp ps_pass fun D σ H h => by
  obtain ⟨S, ρ, st, g⟩ := h
  have g : ∀ S' H' σ', StpS C S ρ σ H S' ρ σ' H' → D.nx σ' H' := g
  exact g S H σ (StpS.refl st)⟩
theorem vs_break : VS X C W (.Break pos) (pure .brk) := ⟨PS.imp ps_break fun D σ H h => by
  obtain ⟨S, ρ, st, g⟩ := h
  have g : ∀ S' H' σ', StpS C S ρ σ H S' ρ σ' H' → D.bk σ' H' := g
  exact g S H σ (StpS.refl st)⟩
theorem vs_continue : VS X C W (.Continue pos) (pure .cont) := ⟨PS.imp ps_continue fun D σ H h => by
  obtain ⟨S, ρ, st, g⟩ := h
  have g : ∀ S' H' σ', StpS C S ρ σ H S' ρ σ' H' → D.ct σ' H' := g
  exact g S H σ (StpS.refl st)⟩
theorem vs_never : VS X C W st M.stuck := ⟨PS.imp ps_never fun D σ H h => by
  obtain ⟨S, ρ, st, g⟩ := h
  exact g⟩
/-- an expression whose value is dropped -/
def dropS (m : M RV) : MS := m >>= fun _ => pure .nx
theorem vs_expr (he : VE X C W e ma) (hs : swapsWith e none pos.line X.env = pure false := by rfl) : VS X C W (.Expr e pos) (dropS ma) := by
  refine ⟨PS.imp (ps_expr he.pe hs) fun D σ H h => ?_⟩
  obtain ⟨S, ρ, st, g⟩ := h
  refine ⟨S, ρ, st, GoodS.bnd g fun rv ρ1 S1 H1 v _ e1 r1 g1 => ?_⟩
  have g1 : ∀ S' H' σ', StpS C S1 ρ1 σ H1 S' ρ1 σ' H' → D.nx σ' H' := g1
  exact g1 S1 H1 σ (StpS.refl e1.st)
/-- return -/
def retS (m : M RV) : MS := m >>= fun rv => match rv with
  | .val d => pure (.ret (.val d))
  | .own d => pure (.ret (.own d))
  | .bor i => fun ρ => match ρ[i]? with
    | some (.own d) => .ok (.ret (.own d)) (ρ.set i .un)
    | some (.bow d) => .ok (.ret (.val d)) (ρ.set i (.bfz d))
    | _ => .stuck
/-- a name is forgotten -/
theorem un_stp {S : Hp} {ρ : Env} {σ : St} {H : Hp} {i : Nat} {d : D} (st : StRel C S ρ σ H) (h : ρ[i]? = some (.own d)) : StpS C S ρ σ H S (ρ.set i .un) σ H := by
  have hi := get_len h
  have sub : ∀ j e, ownD (ρ.set i .un) j = some e → ownD ρ j = some e ∧ i ≠ j := fun j e q => by
    by_cases z : i = j
    · subst z; rw [ownD_at hi] at q; cases q
    · rw [ownD_ne z] at q; exact ⟨q, z⟩
  refine ⟨Ext.refl, ⟨st.same, by rw [List.length_set]; exact st.len, fun j e q => ?_, fun j e q => st.own j e (sub j e q).1, fun j k e f p q1 q2 q3 q4 => st.dis j k e f p (sub j e q1).1 (sub k f q2).1 q3 q4⟩, fun p ⟨j, e, q1, q2⟩ => .inl ⟨j, e, (sub j e q1).1, q2⟩, fun j q => ⟨?_, rfl⟩⟩
  · by_cases z : i = j
    · subst z; rw [valD_at hi] at q; cases q
    · rw [valD_ne z] at q; exact st.val j e q
  · by_cases z : i = j
    · subst z; unfold markB at q; rw [h] at q; cases q
    · rw [markB_ne z]; exact q
theorem vs_ret (he : VE X C W e ma) : VS X C W (.Return (some e) pos) (retS ma) := by
  refine ⟨PS.imp (ps_ret he.pe) fun D σ H h => ?_⟩
  obtain ⟨S, ρ, st, g⟩ := h
  refine ⟨S, ρ, st, GoodS.bnd0 g fun rv ρ1 S1 H1 v _ e1 r1 g0 => ?_⟩
  cases rv with
  | val d =>
    have g1 : ∀ S' H' σ' v, StpS C S ρ σ H S' ρ1 σ' H' → Rep C.K S' v d → D.rt v H' := g0
    exact g1 S1 H1 σ v e1.toS r1
  | own d =>
    have g1 : ∀ S' H' σ' v, StpS C S ρ σ H S' ρ1 σ' H' → RetR C ρ σ H (.own d) S' ρ1 σ' H' v → D.rt v H' := g0
    exact g1 S1 H1 σ v e1.toS r1
  | bor i =>
    have g1 := GoodS.from e1.toS g0
    obtain ⟨h1, d', h2⟩ := r1
    cases q : ρ1[i]? with
    | none => unfold ownD at h2; rw [q] at h2; cases h2
    | some s =>
      have g1 : GoodS C W S1 ρ1 σ H1 (match ρ1[i]? with
        | some (.own d) => Res.ok (Fl.ret (.own d)) (ρ1.set i .un)
        | some (.bow d) => .ok (.ret (.val d)) (ρ1.set i (.bfz d))
        | _ => .stuck) D := g1
      rw [q] at g1
      cases s with
      | own d =>
        have ho : ownD ρ1 i = some d := by unfold ownD; rw [q]
        obtain ⟨p, a1, a2, a3⟩ := e1.st.own i d ho
        have z := h1.symm.trans a1
        cases z
        have us := un_stp e1.st q
        refine g1 S1 H1 σ _ us ⟨p, rfl, a2, a3, fun ⟨j, e, b1, b2⟩ => ?_, .inl ⟨i, d, ho, a1⟩⟩
        by_cases z : i = j
        · subst z; rw [ownD_at (get_len q)] at b1; cases b1
        · rw [ownD_ne z] at b1
          exact z (e1.st.dis i j d e p ho b1 a1 b2)
      | bow d =>
        have hf : frzSlot i ρ1 = some (d, ρ1.set i (.bfz d)) := by unfold frzSlot; rw [q]
        obtain ⟨p, S', b1, b2, b3⟩ := frz_step e1.st hf
        have z := h1.symm.trans b1
        cases z
        exact g1 S' H1 σ _ b2.toS b3
      | _ => exact g1.elim
theorem vs_retN : VS X C W (.Return none pos) (pure (.ret (.val .non))) := ⟨PS.imp ps_retN fun D σ H h => by
  obtain ⟨S, ρ, st, g⟩ := h
  have g : ∀ S' H' σ' v, StpS C S ρ σ H S' ρ σ' H' → Rep C.K S' v .non → D.rt v H' := g
  exact g S H σ _ (StpS.refl st) .non⟩
def ifS (t : M Bool) (m n : MS) : MS := t >>= fun k => if k = true then m else n
theorem vs_if {t : M Bool} {sa sb : List Stmt} (hc : VT X C W c t) (ha : VSs X C W sa m) (hb : VSs X C W sb n) : VS X C W (.If c sa sb pos) (ifS t m n) := by
  refine ⟨PS.imp (ps_if hc.pt ha.ps hb.ps) fun D σ H h => ?_⟩
  obtain ⟨S, ρ, st, g⟩ := h
  refine ⟨S, ρ, st, GoodS.bnd g fun k ρ1 S1 H1 v _ e1 r1 g1 => ?_⟩
  cases r1
  cases k with
  | true => rw [if_pos rfl] at g1 ⊢; exact ⟨S1, ρ1, e1.st, g1⟩
  | false => rw [if_neg Bool.false_ne_true] at g1 ⊢; exact ⟨S1, ρ1, e1.st, g1⟩
end
end VL

/-! VL part f: stores, targets, changed lists, loops, a def by its body. -/
namespace VL
open PySem L2

section
variable {C : Cfg} {W : WX} {S : Hp} {ρ : Env} {σ : St} {H : Hp}
def setM (i : Nat) (s : Slot) : MS := fun ρ => match ρ[i]? with
  | none => .stuck
  | some (.bow _) => .stuck
  | some (.bfz _) => .stuck
  | some _ => .ok .nx (ρ.set i s)
theorem setM_ok {i : Nat} {s : Slot} {f : Fl} {ρ' : Env} (h : setM i s ρ = .ok f ρ') : f = .nx ∧ ρ' = ρ.set i s ∧ i < ρ.length ∧ markB ρ i = false := by
  unfold setM at h
  cases q : ρ[i]? with
  | none => rw [q] at h; cases h
  | some t =>
    rw [q] at h
    cases t <;> first
      | (cases h; done)
      | (cases h; exact ⟨rfl, rfl, get_len q, by unfold markB; rw [q]⟩)
theorem setM_nox {i : Nat} {s : Slot} {x : D} {ρ' : Env} (h : setM i s ρ = .exc x ρ') : False := by
  unfold setM at h
  split at h <;> cases h
/-- a name holds a value -/
theorem set_val {i : Nat} {d : D} {v : V} (st : StRel C S ρ σ H) (hi : i < ρ.length) (hm : markB ρ i = false) (r : Rep C.K S v d) : StpS C S ρ σ H S (ρ.set i (.val d)) (σ.set i (some v)) H := by
  have hσ : i < σ.length := by rw [st.len]; exact hi
  have own : ∀ j e, ownD (ρ.set i (.val d)) j = some e → ownD ρ j = some e ∧ i ≠ j := fun j e q => by
    by_cases z : i = j
    · subst z; rw [ownD_at hi] at q; cases q
    · rw [ownD_ne z] at q; exact ⟨q, z⟩
  refine ⟨Ext.refl, ⟨st.same, by simp [st.len], fun j e q => ?_, fun j e q => ?_, fun j k e f p q1 q2 q3 q4 => ?_⟩, fun p ⟨j, e, q1, q2⟩ => ?_, fun j q => ?_⟩
  · by_cases z : i = j
    · subst z
      rw [valD_at hi] at q; cases q
      exact ⟨v, by rw [List.getElem?_set_self hσ], r⟩
    · rw [valD_ne z] at q
      obtain ⟨w, a, b⟩ := st.val j e q
      exact ⟨w, by rw [List.getElem?_set_ne z]; exact a, b⟩
  · obtain ⟨q, z⟩ := own j e q
    obtain ⟨p, a, b, c⟩ := st.own j e q
    exact ⟨p, by rw [List.getElem?_set_ne z]; exact a, b, c⟩
  · obtain ⟨q1, z1⟩ := own j e q1
    obtain ⟨q2, z2⟩ := own k f q2
    rw [List.getElem?_set_ne z1] at q3
    rw [List.getElem?_set_ne z2] at q4
    exact st.dis j k e f p q1 q2 q3 q4
  · obtain ⟨q1, z1⟩ := own j e q1
    rw [List.getElem?_set_ne z1] at q2
    exact .inl ⟨j, e, q1, q2⟩
  · by_cases z : i = j
    · subst z; rw [hm] at q; cases q
    · exact ⟨by rw [markB_ne z]; exact q, List.getElem?_set_ne z⟩
/-- a name holds a new list of one's own -/
theorem set_own {i : Nat} {d : D} {p : Addr} {S0 : Hp} {ρ0 : Env} {H0 : Hp} (e : Stp C σ S0 ρ0 H0 S ρ H) (hi : i < ρ.length) (hm : markB ρ i = false) (h2 : S p = none) (h3 : OwnAt C.K S H p d) (h4 : ¬ OwnA ρ σ p) (h5 : OwnA ρ0 σ p ∨ H0 p = none) :
    StpS C S0 ρ0 σ H0 S (ρ.set i (.own d)) (σ.set i (some (V.ref p))) H := by
  have st := e.st
  have hσ : i < σ.length := by rw [st.len]; exact hi
  have own : ∀ j g, ownD (ρ.set i (.own d)) j = some g → (i = j ∧ g = d) ∨ (ownD ρ j = some g ∧ i ≠ j) := fun j g q => by
    by_cases z : i = j
    · subst z; rw [ownD_at hi] at q; cases q; exact .inl ⟨rfl, rfl⟩
    · rw [ownD_ne z] at q; exact .inr ⟨q, z⟩
  refine ⟨e.ext, ⟨st.same, by simp [st.len], fun j e q => ?_, fun j e q => ?_, fun j k e f q q1 q2 q3 q4 => ?_⟩, fun q ⟨j, f, q1, q2⟩ => ?_, fun j q => ?_⟩
  · by_cases z : i = j
    · subst z
      rw [valD_at hi] at q; cases q
    · rw [valD_ne z] at q
      obtain ⟨w, a, b⟩ := st.val j e q
      exact ⟨w, by rw [List.getElem?_set_ne z]; exact a, b⟩
  · rcases own j e q with ⟨rfl, rfl⟩ | ⟨q, z⟩
    · exact ⟨p, by rw [List.getElem?_set_self hσ], h2, h3⟩
    · obtain ⟨p, a, b, c⟩ := st.own j e q
      exact ⟨p, by rw [List.getElem?_set_ne z]; exact a, b, c⟩
  · rcases own j e q1 with ⟨rfl, rfl⟩ | ⟨q1, z1⟩
    · rcases own k f q2 with ⟨rfl, rfl⟩ | ⟨q2, z2⟩
      · rfl
      · rw [List.getElem?_set_self hσ] at q3
        cases q3
        rw [List.getElem?_set_ne z2] at q4
        exact absurd ⟨k, _, q2, q4⟩ h4
    · rw [List.getElem?_set_ne z1] at q3
      have w1 := q1
      rcases own k f q2 with ⟨rfl, rfl⟩ | ⟨q2, z2⟩
      · rw [List.getElem?_set_self hσ] at q4
        cases q4
        exact absurd ⟨j, _, w1, q3⟩ h4
      · rw [List.getElem?_set_ne z2] at q4
        exact st.dis j k e f q q1 q2 q3 q4
  · rcases own j f q1 with ⟨rfl, rfl⟩ | ⟨q1, z1⟩
    · rw [List.getElem?_set_self hσ] at q2
      cases q2
      exact h5
    · rw [List.getElem?_set_ne z1] at q2
      exact .inl (e.subA q ⟨j, _, q1, q2⟩)
  · have q' := e.mrk j q
    by_cases z : i = j
    · subst z; rw [hm] at q'; cases q'
    · exact ⟨by rw [markB_ne z]; exact q', List.getElem?_set_ne z⟩
def asgS (i : Nat) (m : M RV) : MS := m >>= fun rv => match rv with
  | .val d => setM i (.val d)
  | .own d => setM i (.own d)
  | .bor j => frz (.bor j) >>= fun d => setM i (.val d)
theorem GoodS.setv {i : Nat} {d : D} {v : V} {D' : Ends} (st : StRel C S ρ σ H) (r : Rep C.K S v d) (g : GoodS C W S ρ σ H (setM i (.val d) ρ) D') : D'.nx (σ.set i (some v)) H := by
  cases q : setM i (.val d) ρ with
  | stuck => rw [q] at g; exact g.elim
  | exc x ρ' => exact (setM_nox q).elim
  | ok f ρ' =>
    obtain ⟨rfl, rfl, hi, hm⟩ := setM_ok q
    rw [q] at g
    have g : ∀ S' H' σ', StpS C S ρ σ H S' (ρ.set i (.val d)) σ' H' → D'.nx σ' H' := g
    exact g S H _ (set_val st hi hm r)
theorem GoodS.frz {o : Opd} {v : V} {f : D → MS} {D' : Ends} (st : StRel C S ρ σ H) (r : Op C σ S o v) (g : GoodS C W S ρ σ H ((VL.frz o >>= f) ρ) D') :
    ∃ S' ρ' d, Stp C σ S ρ H S' ρ' H ∧ Rep C.K S' v d ∧ GoodS C W S' ρ' σ H (f d ρ') D' := by
  cases o with
  | val d => exact ⟨S, ρ, d, Stp.refl st, r, g⟩
  | bor i =>
    have g : GoodS C W S ρ σ H ((match frzSlot i ρ with | some (d, ρ') => Res.ok d ρ' | none => .stuck).bnd f) D' := g
    cases q : frzSlot i ρ with
    | none => rw [q] at g; exact g.elim
    | some dr =>
      obtain ⟨d, ρ'⟩ := dr
      rw [q] at g
      obtain ⟨p, S', h1, h2, h3⟩ := frz_step st q
      have z := h1.symm.trans r
      cases z
      exact ⟨S', ρ', d, h2, h3, GoodS.from h2.toS g⟩
theorem tS_asg {i : Nat} {m : M RV} {D' : Ends} (h : tS C W (asgS i m) D' σ H) : tE C W m σ H fun x H1 => D'.nx (σ.set i (some x)) H1 := by
  obtain ⟨S, ρ, st, g⟩ := h
  refine ⟨S, ρ, st, GoodS.bnd0 g fun rv ρ1 S1 H1 v _ e1 r1 g0 => ?_⟩
  cases rv with
  | val d => exact GoodS.setv e1.st r1 (GoodS.from e1.toS g0)
  | own d =>
    obtain ⟨p, rfl, h2, h3, h4, h5⟩ := r1
    have g0 : GoodS C W S ρ σ H (setM i (.own d) ρ1) D' := g0
    cases q : setM i (.own d) ρ1 with
    | stuck => rw [q] at g0; exact g0.elim
    | exc x ρ' => exact (setM_nox q).elim
    | ok f ρ' =>
      obtain ⟨rfl, rfl, hi, hm⟩ := setM_ok q
      rw [q] at g0
      have g0 : ∀ S' H' σ', StpS C S ρ σ H S' (ρ1.set i (.own d)) σ' H' → D'.nx σ' H' := g0
      exact g0 S1 H1 _ (set_own e1 hi hm h2 h3 h4 h5)
  | bor j =>
    obtain ⟨S2, ρ2, d, e2, r2, g2⟩ := GoodS.frz (o := .bor j) e1.st r1.1 (GoodS.from e1.toS g0)
    exact GoodS.setv e2.st r2 g2
end

section
variable {X : Cx} {C : Cfg} {W : WX} {cf : CF} {T : List (Str × Nat)} {e a b c o : Expr} {es : List Expr} {ma mb mc : M RV} {ms : List (M RV)} {pos p py : Pos} {x y : Str} {st : Stmt} {sts : List Stmt} {m n : MS} {i j : Nat}
theorem vs_set (vx : Vx X C W cf T) (hi : X.N[i]? = some x) (hx : Loc X.env.scope x) (he : VE X C W e ma) (hs : swapsWith e (some (.Name x p)) pos.line X.env = pure false := by rfl) (hf : X.fn x = true ∨ X.env.scope.names.lookup x = some .local := by first | exact .inl rfl | exact .inr rfl | assumption) :
    VS X C W (.Assign [.Name x p] e pos) (asgS i ma) := ⟨PS.imp (ps_set vx.nd hi hx he.pe hs hf) fun D σ H h => tS_asg h⟩
/-- name op= e -/
def augS (i : Nat) (f : D → D → Option RV) (m : M RV) : MS := asgS i (binM f (varM i) m)
theorem vs_aug {op : Operator} {r : TIp} {f : D → D → Option RV} (vx : Vx X C W cf T) (hi : X.N[i]? = some x) (hx : Loc X.env.scope x) (ho : PIp X op r) (pr : Prim2 C r f) (he : VE X C W e ma) (hf : X.fn x = true ∨ X.env.scope.names.lookup x = some .local := by first | exact .inl rfl | exact .inr rfl | assumption) :
    VS X C W (.AugAssign (.Name x p) op e pos) (augS i f ma) := by
  refine ⟨PS.imp (ps_aug vx.nd hi hx he.pe ho hf) fun D σ H h => ?_⟩
  have h2 := tE_bin pr (tS_asg h)
  -- the name's value first
  obtain ⟨S, ρ, st, g⟩ := h2
  have g : Good C W σ S ρ H (varM i ρ) (RVr C σ) fun x H1 => tE C W ma σ H1 fun y H2 => r x y H2 fun x H1 => D.nx (σ.set i (some x)) H1 := g
  unfold varM at g
  cases q : valD ρ i with
  | some d =>
    simp only [q] at g
    obtain ⟨v, h1, h2⟩ := st.val i d q
    exact ⟨v, h1, g S H v (Stp.refl st) h2⟩
  | none =>
    simp only [q] at g
    cases q2 : ownD ρ i with
    | none => simp only [q2] at g; exact g.elim
    | some d =>
      simp only [q2] at g
      obtain ⟨p, h1, h2, h3⟩ := st.own i d q2
      exact ⟨_, h1, g S H _ (Stp.refl st) ⟨h1, d, q2⟩⟩

/-! ### operands that are handed into containers -/
def frzs : List Opd → M (List D)
  | [] => pure []
  | o :: os => frz o >>= fun d => frzs os >>= fun ds => pure (d :: ds)
theorem Good.frz1 {α β : Type} {σ : St} {S : Hp} {ρ : Env} {H : Hp} {o : Opd} {v : V} {f : D → M α} {R : Rl α β} {Q : β → Hp → Prop} (hR : Back C σ R) (st : StRel C S ρ σ H) (r : Op C σ S o v) (g : Good C W σ S ρ H ((VL.frz o >>= f) ρ) R Q) :
    ∃ S' ρ' d, Stp C σ S ρ H S' ρ' H ∧ Rep C.K S' v d ∧ Good C W σ S' ρ' H (f d ρ') R Q := by
  cases o with
  | val d => exact ⟨S, ρ, d, Stp.refl st, r, g⟩
  | bor i =>
    have g : Good C W σ S ρ H ((match frzSlot i ρ with | some (d, ρ') => Res.ok d ρ' | none => .stuck).bnd f) R Q := g
    cases q : frzSlot i ρ with
    | none => rw [q] at g; exact g.elim
    | some dr =>
      obtain ⟨d, ρ'⟩ := dr
      rw [q] at g
      obtain ⟨p, S', h1, h2, h3⟩ := frz_step st q
      have z := h1.symm.trans r
      cases z
      exact ⟨S', ρ', d, h2, h3, Good.from hR h2 g⟩
theorem Good.frzs {α β : Type} {σ : St} {S : Hp} {ρ : Env} {H : Hp} {os : List Opd} {vs : List V} {f : List D → M α} {R : Rl α β} {Q : β → Hp → Prop} (hR : Back C σ R) (st : StRel C S ρ σ H) (r : Oprs C σ S os vs) (g : Good C W σ S ρ H ((VL.frzs os >>= f) ρ) R Q) :
    ∃ S' ρ' ds, Stp C σ S ρ H S' ρ' H ∧ Reps C.K S' vs ds ∧ Good C W σ S' ρ' H (f ds ρ') R Q := by
  induction os generalizing vs S ρ f with
  | nil => cases r; exact ⟨S, ρ, [], Stp.refl st, .nil, g⟩
  | cons o os ih =>
    cases r with
    | cons h r =>
      have g : Good C W σ S ρ H (((VL.frz o >>= fun d => VL.frzs os >>= fun ds => pure (d :: ds)) >>= f) ρ) R Q := g
      rw [bnd_assoc] at g
      obtain ⟨S1, ρ1, d, e1, r1, g1⟩ := Good.frz1 hR st h g
      rw [bnd_assoc] at g1
      obtain ⟨S2, ρ2, ds, e2, r2, g2⟩ := ih e1.st (r.fwd e1.ext.sS) g1
      exact ⟨S2, ρ2, d :: ds, e1.trans e2, .cons (r1.mono e2.ext.sS) r2, g2⟩
def tupM (ms : List (M RV)) : M RV := argsM ms >>= fun os => frzs os >>= fun ds => pure (.val (.tup ds))
def lstM (ms : List (M RV)) : M RV := argsM ms >>= fun os => frzs os >>= fun ds => pure (.own (.lst ds))
theorem Good.pureP {σ : St} {S : Hp} {ρ : Env} {H : Hp} {rv : RV} {Q : VK} (st : StRel C S ρ σ H) (nb : ∀ i, rv ≠ .bor i) (g : Good C W σ S ρ H ((pure rv : M RV) ρ) (RVr C σ) Q) : OutP C S H rv Q := by
  obtain ⟨rv', e, h⟩ := Good.out (o := some rv) st g
  cases e
  exact h nb
theorem ve_tup {k : Nat} (ha : VA X C W es ms) (hl : ms.length ≤ 1000 := by decide) : VE X C W (.Tuple es k pos) (tupM ms) := by
  refine ⟨PE.imp (pe_tup ha.pa) fun σ H Q h => ?_⟩
  obtain ⟨S, ρ, st, g⟩ := h
  refine ⟨S, ρ, st, Good.bnd RVr.back g fun os ρ1 S1 H1 vs e0 e1 r1 g1 => ?_⟩
  obtain ⟨S2, ρ2, ds, e2, r2, g2⟩ := Good.frzs RVr.back e1.st r1 g1
  have hn : vs.length ≤ sizeLine := by
    have h1 := argsM_len e0
    have h2 := r1.len
    have h3 : (1000 : Nat) ≤ sizeLine := by decide
    omega
  exact ⟨hn, fun p np => (Good.pureP e2.st (fun _ z => by cases z) g2).tup e2.st.same r2 np⟩
theorem ve_lst (ha : VA X C W es ms) (hl : ms.length ≤ 1000 := by decide) : VE X C W (.List es pos) (lstM ms) := by
  refine ⟨PE.imp (pe_lst ha.pa) fun σ H Q h => ?_⟩
  obtain ⟨S, ρ, st, g⟩ := h
  refine ⟨S, ρ, st, Good.bnd RVr.back g fun os ρ1 S1 H1 vs e0 e1 r1 g1 => ?_⟩
  obtain ⟨S2, ρ2, ds, e2, r2, g2⟩ := Good.frzs RVr.back e1.st r1 g1
  have hn : vs.length ≤ sizeLine := by
    have h1 := argsM_len e0
    have h2 := r1.len
    have h3 : (1000 : Nat) ≤ sizeLine := by decide
    omega
  exact ⟨hn, fun p np => (Good.pureP e2.st (fun _ z => by cases z) g2).lst r2 np⟩

/-! ### a list of one's own is changed -/
def updSlot (i : Nat) (f : D → Option D) : M Unit := fun ρ => match ρ[i]? with
  | some (.own d) => (match f d with | some d' => .ok () (ρ.set i (.own d')) | none => .stuck)
  | some (.bow d) => (match f d with | some d' => .ok () (ρ.set i (.bow d')) | none => .stuck)
  | _ => .stuck
theorem updSlot_ok {i : Nat} {f : D → Option D} {ρ ρ' : Env} {u : Unit} (h : updSlot i f ρ = .ok u ρ') : ∃ d d' s, ownD ρ i = some d ∧ f d = some d' ∧ ρ' = ρ.set i s ∧ (s = .own d' ∨ s = .bow d') ∧ (markB ρ i = true → s = .bow d') := by
  unfold updSlot at h
  cases q : ρ[i]? with
  | none => rw [q] at h; cases h
  | some t =>
    rw [q] at h
    cases t with
    | own d =>
      cases q2 : f d with
      | none => simp only [q2] at h; cases h
      | some d' => simp only [q2] at h; cases h; exact ⟨d, d', _, by unfold ownD; rw [q], q2, rfl, .inl rfl, fun z => by unfold markB at z; rw [q] at z; cases z⟩
    | bow d =>
      cases q2 : f d with
      | none => simp only [q2] at h; cases h
      | some d' => simp only [q2] at h; cases h; exact ⟨d, d', _, by unfold ownD; rw [q], q2, rfl, .inr rfl, fun _ => rfl⟩
    | _ => cases h
theorem updSlot_nox {i : Nat} {f : D → Option D} {ρ ρ' : Env} {x : D} (h : updSlot i f ρ = .exc x ρ') : False := by
  unfold updSlot at h
  cases q : ρ[i]? with
  | none => rw [q] at h; cases h
  | some t =>
    rw [q] at h
    cases t with
    | own d => cases q2 : f d <;> (simp only [q2] at h; cases h)
    | bow d => cases q2 : f d <;> (simp only [q2] at h; cases h)
    | _ => cases h
theorem upd_stp {σ : St} {S : Hp} {ρ : Env} {H : Hp} {d d' : D} {s : Slot} {q : Addr} {ob : HO} (st : StRel C S ρ σ H) (ho : ownD ρ i = some d) (hs : s = .own d' ∨ s = .bow d') (hm : markB ρ i = true → s = .bow d') (hq : σ[i]? = some (some (V.ref q))) (h : OwnAt C.K S (upd H q ob) q d') :
    Stp C σ S ρ H S (ρ.set i s) (upd H q ob) := by
  have hi := lt_own ho
  obtain ⟨p, h1, h2, h3⟩ := st.own i d ho
  have z : p = q := by have z := h1.symm.trans hq; cases z; rfl
  subst z
  have own : ∀ j e, ownD (ρ.set i s) j = some e → (i = j ∧ e = d') ∨ (ownD ρ j = some e ∧ i ≠ j) := fun j e q => by
    by_cases z : i = j
    · subst z; rw [ownD_at hi] at q
      rcases hs with rfl | rfl <;> (cases q; exact .inl ⟨rfl, rfl⟩)
    · rw [ownD_ne z] at q; exact .inr ⟨q, z⟩
  refine ⟨⟨Same.refl _, fun b u nb hb => ?_, fun b hb hb' => absurd hb hb'⟩, ⟨fun b u hb => ?_, by simp [st.len], fun j e q => ?_, fun j e q => ?_, fun j k e f q q1 q2 q3 q4 => ?_⟩, fun j e q => ?_, fun j q => ?_⟩
  · rw [upd_ne (fun z => nb ⟨i, d, ho, by rw [z]; exact h1⟩)]; exact hb
  · rw [upd_ne (ne_of_none hb h2)]; exact st.same b u hb
  · by_cases z : i = j
    · subst z; rw [valD_at hi] at q
      rcases hs with rfl | rfl <;> cases q
    · rw [valD_ne z] at q; exact st.val j e q
  · rcases own j e q with ⟨rfl, rfl⟩ | ⟨q, z⟩
    · exact ⟨_, h1, h2, h⟩
    · obtain ⟨p', a, b, c⟩ := st.own j e q
      have hp : p' ≠ p := fun y => z (st.dis i j d e p ho q h1 (by rw [← y]; exact a))
      exact ⟨p', a, b, c.mono (Same.refl _) fun u hu => by rw [upd_ne hp]; exact hu⟩
  · have o1 : ∃ e, ownD ρ j = some e := by
      rcases own j e q1 with ⟨rfl, _⟩ | ⟨q1, _⟩
      · exact ⟨d, ho⟩
      · exact ⟨e, q1⟩
    have o2 : ∃ e, ownD ρ k = some e := by
      rcases own k f q2 with ⟨rfl, _⟩ | ⟨q2, _⟩
      · exact ⟨d, ho⟩
      · exact ⟨f, q2⟩
    obtain ⟨e', o1⟩ := o1
    obtain ⟨f', o2⟩ := o2
    exact st.dis j k e' f' q o1 o2 q3 q4
  · rcases own j e q with ⟨rfl, _⟩ | ⟨q, _⟩
    · exact ⟨d, ho⟩
    · exact ⟨e, q⟩
  · by_cases z : i = j
    · subst z; rw [hm q, markB_at hi]
    · rw [markB_ne z]; exact q
/-- behind an update of slot i -/
theorem Good.upd {α β : Type} {σ : St} {S : Hp} {ρ : Env} {H : Hp} {f : D → Option D} {k : Unit → M α} {R : Rl α β} {Q : β → Hp → Prop} (hR : Back C σ R) (st : StRel C S ρ σ H) (g : Good C W σ S ρ H ((updSlot i f >>= k) ρ) R Q) :
    ∃ q d d', σ[i]? = some (some (V.ref q)) ∧ S q = none ∧ OwnAt C.K S H q d ∧ f d = some d' ∧ ∀ ob, OwnAt C.K S (upd H q ob) q d' → ∃ ρ', Stp C σ S ρ H S ρ' (upd H q ob) ∧ Good C W σ S ρ' (upd H q ob) (k () ρ') R Q := by
  rw [bnd_ap] at g
  cases e : updSlot i f ρ with
  | stuck => rw [e] at g; exact g.elim
  | exc x ρ' => exact (updSlot_nox e).elim
  | ok u ρ' =>
    rw [e] at g
    obtain ⟨d, d', s, h1, h2, rfl, h3, h4⟩ := updSlot_ok e
    obtain ⟨q, a, b, c⟩ := st.own i d h1
    refine ⟨q, d, d', a, b, c, h2, fun ob h => ?_⟩
    have st' := upd_stp st h1 h3 h4 a h
    exact ⟨_, st', Good.from hR st' g⟩
theorem GoodS.upd {σ : St} {S : Hp} {ρ : Env} {H : Hp} {f : D → Option D} {k : Unit → MS} {D' : Ends} (st : StRel C S ρ σ H) (g : GoodS C W S ρ σ H ((updSlot i f >>= k) ρ) D') :
    ∃ q d d', σ[i]? = some (some (V.ref q)) ∧ S q = none ∧ OwnAt C.K S H q d ∧ f d = some d' ∧ ∀ ob, OwnAt C.K S (L2.upd H q ob) q d' → ∃ ρ', Stp C σ S ρ H S ρ' (L2.upd H q ob) ∧ GoodS C W S ρ' σ (L2.upd H q ob) (k () ρ') D' := by
  rw [bnd_ap] at g
  cases e : updSlot i f ρ with
  | stuck => rw [e] at g; exact g.elim
  | exc x ρ' => exact (updSlot_nox e).elim
  | ok u ρ' =>
    rw [e] at g
    obtain ⟨d, d', s, h1, h2, rfl, h3, h4⟩ := updSlot_ok e
    obtain ⟨q, a, b, c⟩ := st.own i d h1
    refine ⟨q, d, d', a, b, c, h2, fun ob h => ?_⟩
    have st' := upd_stp st h1 h3 h4 a h
    exact ⟨_, st', GoodS.from st'.toS g⟩
/-- slot i holds a list of one's own, now and ahead -/
def hasOwn (i : Nat) : M Unit := fun ρ => match ownD ρ i with | some (.lst _) => .ok () ρ | _ => .stuck
theorem hasOwn_ok {σ : St} {S : Hp} {ρ ρ' : Env} {H : Hp} {u : Unit} (st : StRel C S ρ σ H) (h : hasOwn i ρ = .ok u ρ') : ρ' = ρ ∧ ∃ q xs, σ[i]? = some (some (V.ref q)) ∧ H q = some (.lst xs) := by
  unfold hasOwn at h
  cases e : ownD ρ i with
  | none => rw [e] at h; cases h
  | some d =>
    rw [e] at h
    cases d with
    | lst ds =>
      cases h
      obtain ⟨q, a, b, xs, c, d⟩ := st.own i _ e
      exact ⟨rfl, q, xs, a, c⟩
    | _ => cases h
theorem Good.hasOwn {α β : Type} {σ : St} {S : Hp} {ρ : Env} {H : Hp} {k : Unit → M α} {R : Rl α β} {Q : β → Hp → Prop} (st : StRel C S ρ σ H) (g : Good C W σ S ρ H ((VL.hasOwn i >>= k) ρ) R Q) :
    ∃ q xs, σ[i]? = some (some (V.ref q)) ∧ H q = some (.lst xs) ∧ Good C W σ S ρ H (k () ρ) R Q := by
  rw [bnd_ap] at g
  cases e : VL.hasOwn i ρ with
  | stuck => rw [e] at g; exact g.elim
  | exc x ρ' =>
    unfold VL.hasOwn at e
    split at e <;> cases e
  | ok u ρ' =>
    rw [e] at g
    obtain ⟨rfl, q, xs, a, b⟩ := hasOwn_ok st e
    exact ⟨q, xs, a, b, g⟩
def pushD (d : D) : D → Option D
  | .lst ds => if ds.length < LIM then some (.lst (ds ++ [d])) else none
  | _ => none
def extD (e : List D) : D → Option D
  | .lst ds => if ds.length + e.length ≤ LIM then some (.lst (ds ++ e)) else none
  | _ => none
def lstOf : D → Option (List D)
  | .lst ds => some ds
  | _ => none
def appM (i : Nat) (m : M RV) : M RV := hasOwn i >>= fun _ => fzM m >>= fun d => updSlot i (pushD d) >>= fun _ => pure (.val .non)
def extM (i : Nat) (m : M RV) : M RV := hasOwn i >>= fun _ => opd m >>= fun o => look o >>= fun d => M.lift (lstOf d) >>= fun e => updSlot i (extD e) >>= fun _ => pure (.val .non)
theorem tE_pos {σ : St} {H : Hp} {Q : VK} {q : Addr} (h1 : σ[i]? = some (some (V.ref q))) (h : Q (.ref q) H) : tVar i σ H Q := ⟨_, h1, h⟩
theorem Good.fzB {α β : Type} {σ : St} {S : Hp} {ρ : Env} {H : Hp} {m : M RV} {f : D → M α} {R : Rl α β} {Q' : β → Hp → Prop} {Q : V → Hp → Prop} (hR : Back C σ R) (g : Good C W σ S ρ H ((fzM m >>= f) ρ) R Q')
    (k : ∀ d ρ1 S1 H1 v, Stp C σ S ρ H S1 ρ1 H1 → Rep C.K S1 v d → Good C W σ S1 ρ1 H1 (f d ρ1) R Q' → Q v H1) : Good C W σ S ρ H (m ρ) (RVr C σ) Q :=
  Good.fz (Good.bnd (R := Fzr C) hR g fun d ρ1 S1 H1 v _ e r g => k d ρ1 S1 H1 v e r g)
theorem ve_app (hN : X.N[i]? = some x) (he : VE X C W e ma) {ap : Pos} (hv : Vis X.env.scope x := by first | exact Or.inl rfl | exact Or.inr (Or.inl rfl) | exact Or.inr (Or.inr rfl)) (hd : (x == ("__debug__" : Str)) = false := by decide) (hcd : (x == ("__classdict__" : Str)) = false := by decide)
    (h1 : starEach [e] X.env = (false, eval e X.env) :: starEach [] X.env := by rfl)
    (hfew : ((backTo pos (starEach (e :: []) X.env)).all (fun x => !x.1) && (backToKw pos (keywordEach [] X.env)).all (fun x => x.1.isSome) && decide ((e :: []).length + ([] : List Keyword).length + (if ([] : List Keyword).isEmpty then 0 else 1) < 30)) = true := by rfl)
    (hline : (ap.endLine == pos.line) = true := by rfl) (hplain : (backTo pos (starEach [] X.env)).any (·.1) = false := by rfl) : VE X C W (.Call (.Attribute (.Name x p) "append" ap) [e] [] pos) (appM i ma) := by
  refine ⟨PE.imp (pe_bm PySem.F.plainAttrs_list PySem.F.slot_list_append PySem.F.type_list_append mt_append (pe_var hN hv hd hcd) (pa_cons he.pe pa_nil h1) rfl hfew hline h1 hplain) fun σ H Q h => ?_⟩
  obtain ⟨S, ρ, st, g⟩ := h
  obtain ⟨q, xs, hq, hH, g⟩ := Good.hasOwn st g
  refine tE_pos hq ⟨.inl ⟨rfl, xs, SqL.of hH⟩, S, ρ, st, Good.fzB RVr.back g fun d ρ1 S1 H1 v e1 r1 g1 => ?_⟩
  obtain ⟨q', d0, d', hq', nS, own, hf, up⟩ := Good.upd RVr.back e1.st g1
  have z := hq.symm.trans hq'
  cases z
  cases d0 with
  | lst ds =>
    obtain ⟨ys, hy, ry⟩ := own
    have hf : (if ds.length < LIM then some (D.lst (ds ++ [d])) else none) = some d' := hf
    split at hf
    · rename_i hl
      cases hf
      refine ⟨q, ys, v, rfl, rfl, hy, by rw [ry.len, ← LIM_eq]; exact hl, ?_⟩
      obtain ⟨ρ', e2, g2⟩ := up (.lst (ys ++ [v])) ⟨_, upd_same, ry.app (.cons r1 .nil)⟩
      exact Good.pureV e2.st .non g2
    · cases hf
  | _ => first | exact own.elim | cases hf
theorem ve_ext (hN : X.N[i]? = some x) (he : VE X C W e ma) {ap : Pos} (hv : Vis X.env.scope x := by first | exact Or.inl rfl | exact Or.inr (Or.inl rfl) | exact Or.inr (Or.inr rfl)) (hd : (x == ("__debug__" : Str)) = false := by decide) (hcd : (x == ("__classdict__" : Str)) = false := by decide)
    (h1 : starEach [e] X.env = (false, eval e X.env) :: starEach [] X.env := by rfl)
    (hfew : ((backTo pos (starEach (e :: []) X.env)).all (fun x => !x.1) && (backToKw pos (keywordEach [] X.env)).all (fun x => x.1.isSome) && decide ((e :: []).length + ([] : List Keyword).length + (if ([] : List Keyword).isEmpty then 0 else 1) < 30)) = true := by rfl)
    (hline : (ap.endLine == pos.line) = true := by rfl) (hplain : (backTo pos (starEach [] X.env)).any (·.1) = false := by rfl) : VE X C W (.Call (.Attribute (.Name x p) "extend" ap) [e] [] pos) (extM i ma) := by
  refine ⟨PE.imp (pe_bm PySem.F.plainAttrs_list PySem.F.slot_list_extend PySem.F.type_list_extend mt_extend (pe_var hN hv hd hcd) (pa_cons he.pe pa_nil h1) rfl hfew hline h1 hplain) fun σ H Q h => ?_⟩
  obtain ⟨S, ρ, st, g⟩ := h
  obtain ⟨q, xs, hq, hH, g⟩ := Good.hasOwn st g
  refine tE_pos hq ⟨.inl ⟨rfl, xs, SqL.of hH⟩, S, ρ, st, Good.opd (Good.bnd RVr.back g fun o ρ1 S1 H1 v _ e1 r1 g1 => ?_)⟩
  obtain ⟨d, hr, g2⟩ := Good.look e1.st r1 g1
  rw [bnd_ap] at g2
  cases el : lstOf d with
  | none => rw [el] at g2; exact g2.elim
  | some es' =>
    rw [el] at g2
    cases d with
    | lst es2 =>
      cases el
      obtain ⟨b, zs, rfl, hb, rz⟩ := hr
      obtain ⟨q', d0, d', hq', nS, own, hf, up⟩ := Good.upd RVr.back e1.st g2
      have z := hq.symm.trans hq'
      cases z
      cases d0 with
      | lst ds =>
        obtain ⟨ys, hy, ry⟩ := own
        have hf : (if ds.length + es'.length ≤ LIM then some (D.lst (ds ++ es')) else none) = some d' := hf
        split at hf
        · rename_i hl
          cases hf
          refine ⟨q, b, ys, zs, rfl, rfl, hy, hb, by rw [ry.len, rz.len, ← LIM_eq]; exact hl, ?_⟩
          obtain ⟨ρ', e2, g2⟩ := up (.lst (ys ++ zs)) ⟨_, upd_same, ry.app rz⟩
          exact Good.pureV e2.st .non g2
        · cases hf
      | _ => first | exact own.elim | cases hf
    | _ => cases el
end
end VL

/-! VL part g: targets, loops, comprehensions, a def by its body. -/
namespace VL
open PySem L2

def eNx (Q : St → Hp → Prop) : Ends := { nx := Q, rt := fun _ _ => False, bk := fun _ _ => False, ct := fun _ _ => False }
def tG (C : Cfg) (W : WX) (g : D → MS) : TG := fun v σ H Q => ∃ S ρ d, StRel C S ρ σ H ∧ Rep C.K S v d ∧ GoodS C W S ρ σ H (g d ρ) (eNx Q)
def tGs (C : Cfg) (W : WX) (g : List D → MS) : TGs := fun vs σ H Q => ∃ S ρ ds, StRel C S ρ σ H ∧ Reps C.K S vs ds ∧ GoodS C W S ρ σ H (g ds ρ) (eNx Q)
structure VG (X : Cx) (C : Cfg) (W : WX) (e : Expr) (g : D → MS) : Prop where pg : PG X e (tG C W g)
def seqG : List (D → MS) → List D → MS
  | [], [] => pure .nx
  | g :: gs, d :: ds => seqS (g d) (seqG gs ds)
  | _, _ => M.stuck
structure VGs (X : Cx) (C : Cfg) (W : WX) (es : List Expr) (g : List (D → MS)) : Prop where
  pgs : PGs X es (tGs C W (seqG g))
def nameG (i : Nat) : D → MS := fun d => setM i (.val d)
def tupG (gs : List (D → MS)) : D → MS := fun d => match d with
  | .tup ds => if ds.length = gs.length then seqG gs ds else M.stuck
  | _ => M.stuck
/-! ### dicts of numbers or texts as keys -/
def keyD : D → Option Key
  | .int i => some (.inl i)
  | .str x => some (.inr x)
  | _ => none
def hasKD (kvs : List (Key × D)) (k : Key) : Bool := kvs.any fun kv => decide (kv.1 = k)
def getKD (kvs : List (Key × D)) (k : Key) : Option D := (kvs.find? fun kv => decide (kv.1 = k)).map (·.2)
def putKD (kvs : List (Key × D)) (k : Key) (d : D) : List (Key × D) :=
  if hasKD kvs k = true then kvs.map (fun kv => if kv.1 = k then (kv.1, d) else kv) else kvs ++ [(k, d)]
/-- pairs of a key and a value, side by side -/
structure KReps (K : PySem.W.Frag) (S : Hp) (kvs : List (Key × V)) (ds : List (Key × D)) : Prop where
  ks : kvs.map Prod.fst = ds.map Prod.fst
  vs : Reps K S (kvs.map Prod.snd) (ds.map Prod.snd)
/-- x[k] = d -/
def setD (d : D) (k : D) : D → Option D
  | .lst ds => match k with
    | .int k => (ixN ds.length k).map fun j => .lst (ds.set j d)
    | _ => none
  | .dic kvs => match keyD k with
    | some k => if kvs.length < LIM then some (.dic (putKD kvs k d)) else none
    | none => none
  | _ => none
def hasAny (i : Nat) : M Unit := fun ρ => match ownD ρ i with | some _ => .ok () ρ | none => .stuck
def ixG (i : Nat) (mi : M RV) : D → MS := fun d => hasAny i >>= fun _ => opd mi >>= fun o => look o >>= fun k => updSlot i (setD d k) >>= fun _ => pure .nx
section
variable {K : PySem.W.Frag} {S : Hp}
theorem KReps.nil : KReps K S [] [] := ⟨rfl, .nil⟩
theorem KReps.cons {k : Key} {v : V} {d : D} {kvs : List (Key × V)} {ds : List (Key × D)} (h : Rep K S v d) (t : KReps K S kvs ds) : KReps K S ((k, v) :: kvs) ((k, d) :: ds) := ⟨by simp [t.ks], .cons h t.vs⟩
theorem KReps.uncons {p : Key × D} {kvs : List (Key × V)} {ds : List (Key × D)} (h : KReps K S kvs (p :: ds)) : ∃ v r, kvs = (p.1, v) :: r ∧ Rep K S v p.2 ∧ KReps K S r ds := by
  cases kvs with
  | nil => have := h.ks; simp at this
  | cons q r =>
    have h1 := h.ks
    simp only [List.map_cons, List.cons.injEq] at h1
    have h2 := h.vs
    cases h2 with
    | cons a b => exact ⟨q.2, r, by rw [← h1.1], a, h1.2, b⟩
theorem KReps.len {kvs : List (Key × V)} {ds : List (Key × D)} (h : KReps K S kvs ds) : kvs.length = ds.length := by
  have := congrArg List.length h.ks
  simpa using this
theorem KReps.get : ∀ {ds : List (Key × D)} {kvs : List (Key × V)} {k : Key} {d : D}, KReps K S kvs ds → getKD ds k = some d → ∃ v, valV kvs k = some v ∧ Rep K S v d
  | [], _, _, _, _, h => by cases h
  | p :: ds, kvs, k, d, t, h => by
    obtain ⟨v, r, rfl, h1, h2⟩ := t.uncons
    unfold getKD at h
    rw [List.find?_cons] at h
    by_cases e : p.1 = k
    · simp only [e, decide_true] at h
      cases h
      exact ⟨v, valV_pos (p := (p.1, v)) e, h1⟩
    · simp only [e, decide_false] at h
      obtain ⟨w, h3, h4⟩ := KReps.get h2 h
      exact ⟨w, by rw [valV_neg (p := (p.1, v)) e]; exact h3, h4⟩
theorem KReps.none : ∀ {ds : List (Key × D)} {kvs : List (Key × V)} {k : Key}, KReps K S kvs ds → getKD ds k = none → valV kvs k = none
  | [], kvs, k, t, h => by
    have := t.len
    cases kvs with
    | nil => rfl
    | cons _ _ => simp at this
  | p :: ds, kvs, k, t, h => by
    obtain ⟨v, r, rfl, h1, h2⟩ := t.uncons
    unfold getKD at h
    rw [List.find?_cons] at h
    by_cases e : p.1 = k
    · simp only [e, decide_true] at h
      cases h
    · simp only [e, decide_false] at h
      rw [valV_neg (p := (p.1, v)) e]
      exact KReps.none h2 h
theorem KReps.has : ∀ {ds : List (Key × D)} {kvs : List (Key × V)} {k : Key}, KReps K S kvs ds → (kvs.any fun kv => decide (kv.1 = k)) = hasKD ds k
  | [], kvs, k, t => by
    have := t.len
    cases kvs with
    | nil => rfl
    | cons _ _ => simp at this
  | p :: ds, kvs, k, t => by
    obtain ⟨v, r, rfl, h1, h2⟩ := t.uncons
    show ((p.1, v) :: r).any _ = (p :: ds).any _
    rw [List.any_cons, List.any_cons, KReps.has h2]; rfl
theorem KReps.repl {k : Key} {v : V} {d : D} (hv : Rep K S v d) : ∀ {ds : List (Key × D)} {kvs : List (Key × V)}, KReps K S kvs ds → KReps K S (kvs.map fun kv => if kv.1 = k then (kv.1, v) else kv) (ds.map fun kv => if kv.1 = k then (kv.1, d) else kv)
  | [], kvs, t => by
    have := t.len
    cases kvs with
    | nil => exact .nil
    | cons _ _ => simp at this
  | p :: ds, kvs, t => by
    obtain ⟨w, r, rfl, h1, h2⟩ := t.uncons
    rw [List.map_cons, List.map_cons]
    by_cases e : p.1 = k
    · rw [if_pos e, if_pos e]; exact .cons hv (KReps.repl hv h2)
    · rw [if_neg e, if_neg e]; exact .cons h1 (KReps.repl hv h2)
theorem KReps.app {kvs kvs' : List (Key × V)} {ds ds' : List (Key × D)} (h : KReps K S kvs ds) (h' : KReps K S kvs' ds') : KReps K S (kvs ++ kvs') (ds ++ ds') :=
  ⟨by rw [List.map_append, List.map_append, h.ks, h'.ks], by rw [List.map_append, List.map_append]; exact h.vs.app h'.vs⟩
theorem KReps.put {k : Key} {v : V} {d : D} {kvs : List (Key × V)} {ds : List (Key × D)} (h : KReps K S kvs ds) (hv : Rep K S v d) : KReps K S (putK kvs k v) (putKD ds k d) := by
  unfold putK putKD
  rw [h.has]
  split
  · exact h.repl hv
  · exact h.app (.cons hv .nil)
theorem keyD_ok {H : Hp} {v : V} {d : D} {k : Key} (r : Rd K S H v d) (h : keyD d = some k) : v = kV k := by
  cases d with
  | int i => cases r; cases h; rfl
  | str x => cases r; cases h; rfl
  | _ => cases h
end
section
variable {X : Cx} {C : Cfg} {W : WX} {cf : CF} {T : List (Str × Nat)} {e a b c o : Expr} {es : List Expr} {ma mb mc : M RV} {ms : List (M RV)} {pos p py : Pos} {x y : Str} {st : Stmt} {sts : List Stmt} {m n : MS} {i j : Nat}
theorem PG.imp {t t' : TG} (h : PG X e t) (k : ∀ v σ H Q, t' v σ H Q → t v σ H Q) : PG X e t' := ⟨fun pins s σ H v u Q I r q => h.run pins s σ H v u Q I r (k v σ H Q q)⟩
theorem PGs.imp {t t' : TGs} (h : PGs X es t) (k : ∀ v σ H Q, t' v σ H Q → t v σ H Q) : PGs X es t' := ⟨fun pins s σ H v u Q I r q => h.run pins s σ H v u Q I r (k v σ H Q q)⟩
theorem vg_name (vx : Vx X C W cf T) (i : Nat) (hi : X.N[i]? = some x := by rfl) (hx : Loc X.env.scope x := by first | exact Or.inl rfl | exact Or.inr rfl) (hf : X.fn x = true ∨ X.env.scope.names.lookup x = some .local := by first | exact .inl rfl | exact .inr rfl | assumption) : VG X C W (.Name x p) (nameG i) := by
  refine ⟨PG.imp (pg_name vx.nd hi hx hf) fun v σ H Q h => ?_⟩
  obtain ⟨S, ρ, d, st, r, g⟩ := h
  exact GoodS.setv st r g
theorem vgs_nil : VGs X C W [] [] := ⟨PGs.imp pgs_nil fun vs σ H Q h => by
  obtain ⟨S, ρ, ds, st, r, g⟩ := h
  cases r with
  | nil =>
    have g : ∀ S' H' σ', StpS C S ρ σ H S' ρ σ' H' → Q σ' H' := g
    exact ⟨rfl, g S H σ (StpS.refl st)⟩
  | cons _ _ => exact g.elim⟩
theorem vgs_cons {g : D → MS} {gs : List (D → MS)} (h1 : VG X C W e g) (h2 : VGs X C W es gs) (hs : (assignEach (e :: es) X.env).map (·.2) = assign e X.env :: (assignEach es X.env).map (·.2) := by rfl) : VGs X C W (e :: es) (g :: gs) := ⟨PGs.imp (pgs_cons h1.pg h2.pgs hs) fun vs σ H Q h => by
  obtain ⟨S, ρ, ds, st, r, gd⟩ := h
  cases r with
  | nil => exact gd.elim
  | cons r0 r =>
    rename_i v vs d ds
    have gd : GoodS C W S ρ σ H (seqS (g d) (seqG gs ds) ρ) (eNx Q) := gd
    refine ⟨v, vs, rfl, S, ρ, d, st, r0, ?_⟩
    have g2 := GoodS.seq gd
    cases q : g d ρ with
    | stuck => rw [q] at g2; exact g2
    | exc x ρ' => rw [q] at g2; exact g2
    | ok f ρ' =>
      rw [q] at g2
      cases f with
      | brk => exact g2
      | cont => exact g2
      | ret rv => exact g2
      | nx =>
        intro S' H' σ' e'
        have gd : GoodS C W S ρ σ H (((g d ρ).bnd fun f => match f with
          | .nx => seqG gs ds
          | f => pure f)) (eNx Q) := gd
        rw [q] at gd
        exact ⟨S', ρ', ds, e'.st, r.mono e'.ext.sS, GoodS.from e' gd⟩⟩
theorem vg_tup (vx : Vx X C W cf T) {gs : List (D → MS)} {k : Nat} (h : VGs X C W es gs) (hl : gs.length = es.length := by rfl) (hn : (assignEach es X.env).length = es.length := by rfl) (hst : (assignEach es X.env).findIdx? (·.1) = none := by rfl) : VG X C W (.Tuple es k p) (tupG gs) := ⟨PG.imp (pg_tup vx.calm h.pgs hn hst) fun v σ H Q h => by
  obtain ⟨S, ρ, d, st, r, g⟩ := h
  cases d with
  | tup ds =>
    cases r with
    | tup h1 h2 =>
      rename_i a xs
      have g : GoodS C W S ρ σ H ((if ds.length = gs.length then seqG gs ds else M.stuck) ρ) (eNx Q) := g
      by_cases z : ds.length = gs.length
      · rw [if_pos z] at g
        rw [vx.K]
        exact ⟨a, xs, rfl, same_t st.same h1, by rw [h2.len, z, hl], S, ρ, ds, st, h2, g⟩
      · rw [if_neg z] at g; exact g.elim
  | _ => exact g.elim⟩
theorem hasAny_ok {σ : St} {S : Hp} {ρ ρ' : Env} {H : Hp} {u : Unit} (st : StRel C S ρ σ H) (h : hasAny i ρ = .ok u ρ') : ρ' = ρ ∧ ∃ q, σ[i]? = some (some (V.ref q)) := by
  unfold hasAny at h
  cases e : ownD ρ i with
  | none => rw [e] at h; cases h
  | some d =>
    rw [e] at h; cases h
    obtain ⟨p, h1, _⟩ := st.own i d e
    exact ⟨rfl, p, h1⟩
theorem PSet.or {r r' : TSet} (h : PSet X r) (h' : PSet X r') : PSet X (fun o i v H Q => r o i v H Q ∨ r' o i v H Q) := by
  intro pins s σ H o i v ov iv u Q I ro ri rv q
  rcases q with q | q
  · exact h pins s σ H o i v ov iv u Q I ro ri rv q
  · exact h' pins s σ H o i v ov iv u Q I ro ri rv q
theorem vg_ix (vx : Vx X C W cf T) (hN : X.N[i]? = some x) (he : VE X C W e ma) (hv : Vis X.env.scope x := by first | exact Or.inl rfl | exact Or.inr (Or.inl rfl) | exact Or.inr (Or.inr rfl)) (hd : (x == ("__debug__" : Str)) = false := by decide) (hcd : (x == ("__classdict__" : Str)) = false := by decide)
    (ha : ∀ v, assign (.Subscript (.Name x py) e pos) X.env v = (do
      let ov ← holding [v] (eval (.Name x py) X.env)
      let iv ← holding [v, ov] (eval e X.env)
      standAt pos
      holding [v, ov, iv] (setItem ov iv v)
      release [v, ov, iv] []) := by intro _; rfl) : VG X C W (.Subscript (.Name x py) e pos) (ixG i ma) := by
  refine ⟨PG.imp (pg_sub (pe_var hN hv hd hcd) he.pe (PSet.or set_list (set_dict (by have := vx.hu; omega))) ha) fun v σ H Q h => ?_⟩
  obtain ⟨S, ρ, d, st, r, g⟩ := h
  have g : GoodS C W S ρ σ H ((hasAny i >>= fun _ => opd ma >>= fun o => look o >>= fun k => updSlot i (setD d k) >>= fun _ => pure Fl.nx) ρ) (eNx Q) := g
  rw [bnd_ap] at g
  cases q : hasAny i ρ with
  | stuck => rw [q] at g; exact g.elim
  | exc x ρ' =>
    unfold hasAny at q
    split at q <;> cases q
  | ok u ρ' =>
    rw [q] at g
    obtain ⟨rfl, p1, hq⟩ := hasAny_ok st q
    refine ⟨_, hq, S, ρ', st, Good.opd (GoodS.bnd g fun o ρ1 S1 H1 w _ e1 r1 g1 => ?_)⟩
    rw [bnd_ap] at g1
    cases q2 : look o ρ1 with
    | stuck => rw [q2] at g1; exact g1.elim
    | exc x ρ2 => exact (look_nox q2).elim
    | ok k ρ2 =>
      rw [q2] at g1
      obtain ⟨rfl, hk⟩ := look_now e1.st r1 q2
      obtain ⟨p2, d0, d', hq', nS, own, hf, up⟩ := GoodS.upd e1.st g1
      have z := hq.symm.trans hq'
      cases z
      cases d0 with
      | lst ds =>
        obtain ⟨ys, hy, ry⟩ := own
        cases k with
        | int k =>
          cases hk
          have hf : ((ixN ds.length k).map fun j => D.lst (ds.set j d)) = some d' := hf
          cases q3 : ixN ds.length k with
          | none => rw [q3] at hf; cases hf
          | some j =>
            rw [q3] at hf; cases hf
            refine .inl ⟨p1, ys, k, j, rfl, rfl, hy, by rw [ry.len]; exact q3, ?_⟩
            obtain ⟨ρ', e2, g2⟩ := up (.lst (ys.set j v)) ⟨_, upd_same, ry.set j (r.mono e1.ext.sS)⟩
            have g2 : ∀ S' H' σ', StpS C S1 ρ' σ _ S' ρ' σ' H' → Q σ' H' := g2
            exact g2 _ _ _ (StpS.refl e2.st)
        | _ => cases hf
      | dic ds =>
        obtain ⟨ys, hy, k1, k2⟩ := own
        have hf : (match keyD k with
          | some k => if ds.length < LIM then some (D.dic (putKD ds k d)) else none
          | none => none) = some d' := hf
        cases q3 : keyD k with
        | none => rw [q3] at hf; cases hf
        | some kk =>
          rw [q3] at hf
          have kr : KReps C.K S1 ys ds := ⟨k1, k2⟩
          have hf : (if ds.length < LIM then some (D.dic (putKD ds kk d)) else none) = some d' := hf
          split at hf
          · rename_i hl
            cases hf
            rw [keyD_ok hk q3]
            have kp := kr.put (k := kk) (r.mono e1.ext.sS)
            refine .inr ⟨p1, _, rfl, DPut.k hy (by rw [kr.len]; rw [LIM_eq] at hl; exact hl), ?_⟩
            obtain ⟨ρ', e2, g2⟩ := up (.dK (putK ys kk v)) ⟨_, upd_same, kp.ks, kp.vs⟩
            have g2 : ∀ S' H' σ', StpS C S1 ρ' σ _ S' ρ' σ' H' → Q σ' H' := g2
            exact g2 _ _ _ (StpS.refl e2.st)
          · cases hf
      | _ => first | exact own.elim | cases hf
/-- target = value -/
def asgG (g : D → MS) (m : M RV) : MS := fzM m >>= g
theorem eNx_mono {S : Hp} {ρ : Env} {σ : St} {H : Hp} {r : Res Fl} {Q : St → Hp → Prop} {D' : Ends} (h : GoodS C W S ρ σ H r D') (k : ∀ f ρ', r = .ok f ρ' → f = .nx) (hq : D'.nx = Q) : GoodS C W S ρ σ H r (eNx Q) := by
  cases r with
  | stuck => exact h
  | exc x ρ' => exact h
  | ok f ρ' =>
    have := k f ρ' rfl
    subst this
    subst hq
    exact h
/-- a target gives no break, no return -/
def OnlyNx (g : D → MS) : Prop := ∀ d ρ f ρ', g d ρ = .ok f ρ' → f = .nx
theorem only_name : OnlyNx (nameG i) := fun d ρ f ρ' h => (setM_ok h).1
theorem only_seq {m n : MS} {ρ ρ' : Env} {f : Fl} (h : seqS m n ρ = .ok f ρ') (h1 : ∀ ρ f ρ', m ρ = .ok f ρ' → f = .nx) (h2 : ∀ ρ f ρ', n ρ = .ok f ρ' → f = .nx) : f = .nx := by
  have h : ((m ρ).bnd fun f => match f with
    | .nx => n
    | f => pure f) = .ok f ρ' := h
  cases q : m ρ with
  | stuck => rw [q] at h; cases h
  | exc x r => rw [q] at h; cases h
  | ok f1 r =>
    rw [q] at h
    have := h1 _ _ _ q
    subst this
    exact h2 _ _ _ h
theorem only_seqG : ∀ {gs : List (D → MS)} {ds : List D} {ρ ρ' : Env} {f : Fl}, (∀ g ∈ gs, OnlyNx g) → seqG gs ds ρ = .ok f ρ' → f = .nx
  | [], [], ρ, ρ', f, _, h => by cases h; rfl
  | [], _ :: _, _, _, _, _, h => by cases h
  | _ :: _, [], _, _, _, _, h => by cases h
  | g :: gs, d :: ds, ρ, ρ', f, hg, h => only_seq (m := g d) (n := seqG gs ds) h (fun ρ f ρ' q => hg g List.mem_cons_self d ρ f ρ' q) fun ρ f ρ' q => only_seqG (gs := gs) (ds := ds) (fun g' hg' => hg g' (List.mem_cons_of_mem _ hg')) q
theorem only_tup {gs : List (D → MS)} (hg : ∀ g ∈ gs, OnlyNx g) : OnlyNx (tupG gs) := fun d ρ f ρ' h => by
  cases d with
  | tup ds =>
    have h : (if ds.length = gs.length then seqG gs ds else M.stuck) ρ = .ok f ρ' := h
    split at h
    · exact only_seqG hg h
    · cases h
  | _ => cases h
theorem only_ix : OnlyNx (ixG i ma) := fun d ρ f ρ' h => by
  have h : ((hasAny i ρ).bnd fun _ => opd ma >>= fun o => look o >>= fun k => updSlot i (setD d k) >>= fun _ => pure Fl.nx) = .ok f ρ' := h
  cases q : hasAny i ρ with
  | stuck => rw [q] at h; cases h
  | exc x r => rw [q] at h; cases h
  | ok u r =>
    rw [q] at h
    have h : ((opd ma r).bnd fun o => look o >>= fun k => updSlot i (setD d k) >>= fun _ => pure Fl.nx) = .ok f ρ' := h
    cases q : opd ma r with
    | stuck => rw [q] at h; cases h
    | exc x r => rw [q] at h; cases h
    | ok o r2 =>
      rw [q] at h
      have h : ((look o r2).bnd fun k => updSlot i (setD d k) >>= fun _ => pure Fl.nx) = .ok f ρ' := h
      cases q : look o r2 with
      | stuck => rw [q] at h; cases h
      | exc x r => rw [q] at h; cases h
      | ok k r3 =>
        rw [q] at h
        have h : ((updSlot i (setD d k) r3).bnd fun _ => pure Fl.nx) = .ok f ρ' := h
        cases q : updSlot i (setD d k) r3 with
        | stuck => rw [q] at h; cases h
        | exc x r => rw [q] at h; cases h
        | ok k r3 => rw [q] at h; cases h; rfl
theorem vs_asg {g : D → MS} {tg : Expr} (he : VE X C W e ma) (hg : VG X C W tg g) (on : OnlyNx g) (hs : swapsWithSole [tg] e pos.line X.env = pure false := by rfl) (hw : swappedStores [tg] e X.env = pure none := by rfl)
    (h1 : (assignEach [tg] X.env).map (·.2) = [assign tg X.env] := by rfl) : VS X C W (.Assign [tg] e pos) (asgG g ma) := by
  refine ⟨PS.imp (ps_asg he.pe hg.pg hs hw h1) fun D' σ H h => ?_⟩
  obtain ⟨S, ρ, st, gd⟩ := h
  refine ⟨S, ρ, st, Good.fz (GoodS.bnd gd fun d ρ1 S1 H1 v _ e1 r1 g1 => ?_)⟩
  exact ⟨S1, ρ1, d, e1.st, r1, eNx_mono g1 (fun f ρ' q => on d ρ1 f ρ' q) rfl⟩
/-- a, b = x, y with plain local names -/
def stoM (i : Nat) (rv : RV) : MS := match rv with
  | .val d => setM i (.val d)
  | .own d => setM i (.own d)
  | .bor j => frz (.bor j) >>= fun d => setM i (.val d)
def parS (i j : Nat) (m n : M RV) : MS := m >>= fun ra => match ra with
  | .own da => n >>= fun rb => match rb with
    | .val db => seqS (setM i (.own da)) (setM j (.val db))
    | .own db => seqS (setM i (.own da)) (setM j (.own db))
    | .bor _ => M.stuck
  | .val da => n >>= fun rb => match rb with
    | .val db => seqS (setM i (.val da)) (setM j (.val db))
    | .own db => seqS (setM i (.val da)) (setM j (.own db))
    | .bor _ => M.stuck
  | .bor _ => M.stuck
theorem GoodS.set2 {S : Hp} {ρ : Env} {σ : St} {H : Hp} {s : Slot} {n : MS} {D' : Ends} (g : GoodS C W S ρ σ H (seqS (setM i s) n ρ1) D') : i < ρ1.length ∧ markB ρ1 i = false ∧ GoodS C W S ρ σ H (n (ρ1.set i s)) D' := by
  have g : GoodS C W S ρ σ H ((setM i s ρ1).bnd fun f => match f with
    | .nx => n
    | f => pure f) D' := g
  cases q : setM i s ρ1 with
  | stuck => rw [q] at g; exact g.elim
  | exc x ρ' => exact (setM_nox q).elim
  | ok f ρ' =>
    obtain ⟨rfl, rfl, hi, hm⟩ := setM_ok q
    rw [q] at g
    exact ⟨hi, hm, g⟩
theorem GoodS.set1 {S : Hp} {ρ : Env} {σ : St} {H : Hp} {s : Slot} {D' : Ends} (g : GoodS C W S ρ σ H (setM i s ρ1) D') : i < ρ1.length ∧ markB ρ1 i = false ∧ ∀ S' H' σ', StpS C S ρ σ H S' (ρ1.set i s) σ' H' → D'.nx σ' H' := by
  cases q : setM i s ρ1 with
  | stuck => rw [q] at g; exact g.elim
  | exc x ρ' => exact (setM_nox q).elim
  | ok f ρ' =>
    obtain ⟨rfl, rfl, hi, hm⟩ := setM_ok q
    rw [q] at g
    exact ⟨hi, hm, g⟩
/-- set_own over a statement's step -/
theorem set_ownS {S0 S : Hp} {ρ0 ρ : Env} {σ0 σ : St} {H0 H : Hp} {d : D} {p : Addr} (e : StpS C S0 ρ0 σ0 H0 S ρ σ H) (hi : i < ρ.length) (hm : markB ρ i = false) (h2 : S p = none) (h3 : OwnAt C.K S H p d) (h4 : ¬ OwnA ρ σ p) (h5 : OwnA ρ0 σ0 p ∨ H0 p = none) :
    StpS C S0 ρ0 σ0 H0 S (ρ.set i (.own d)) (σ.set i (some (V.ref p))) H := by
  have s1 := set_own (Stp.refl e.st) hi hm h2 h3 h4
  have st := e.st
  have hσ : i < σ.length := by rw [st.len]; exact hi
  have st2 : StRel C S (ρ.set i (.own d)) (σ.set i (some (V.ref p))) H := by
    refine ⟨st.same, by simp [st.len], fun j g q => ?_, fun j g q => ?_, fun j k g f q q1 q2 q3 q4 => ?_⟩
    · by_cases z : i = j
      · subst z; rw [valD_at hi] at q; cases q
      · rw [valD_ne z] at q
        obtain ⟨w, a, b⟩ := st.val j g q
        exact ⟨w, by rw [List.getElem?_set_ne z]; exact a, b⟩
    · by_cases z : i = j
      · subst z; rw [ownD_at hi] at q; cases q
        exact ⟨p, by rw [List.getElem?_set_self hσ], h2, h3⟩
      · rw [ownD_ne z] at q
        obtain ⟨p, a, b, c⟩ := st.own j g q
        exact ⟨p, by rw [List.getElem?_set_ne z]; exact a, b, c⟩
    · by_cases z : i = j
      · subst z
        rw [List.getElem?_set_self hσ] at q3
        cases q3
        by_cases z2 : i = k
        · exact z2
        · rw [ownD_ne z2] at q2
          rw [List.getElem?_set_ne z2] at q4
          exact absurd ⟨k, _, q2, q4⟩ h4
      · rw [ownD_ne z] at q1
        rw [List.getElem?_set_ne z] at q3
        by_cases z2 : i = k
        · subst z2
          rw [List.getElem?_set_self hσ] at q4
          cases q4
          exact absurd ⟨j, _, q1, q3⟩ h4
        · rw [ownD_ne z2] at q2
          rw [List.getElem?_set_ne z2] at q4
          exact st.dis j k g f q q1 q2 q3 q4
  refine ⟨e.ext, st2, fun q ⟨j, f, q1, q2⟩ => ?_, fun j q => ?_⟩
  · by_cases z : i = j
    · subst z
      rw [List.getElem?_set_self hσ] at q2
      cases q2
      exact h5
    · rw [ownD_ne z] at q1
      rw [List.getElem?_set_ne z] at q2
      exact e.new q ⟨j, f, q1, q2⟩
  · obtain ⟨a, b⟩ := e.mrk j q
    by_cases z : i = j
    · subst z; rw [hm] at a; cases a
    · exact ⟨by rw [markB_ne z]; exact a, by rw [List.getElem?_set_ne z]; exact b⟩
/-- an expression within a statement, told from the statement's begin -/
theorem GoodS.bndR {α β : Type} {S S1 : Hp} {ρ ρ1 : Env} {σ : St} {H H1 : Hp} {m : M α} {f : α → MS} {R : Rl α β} {Q : β → Hp → Prop} {D : Ends} (e1 : Stp C σ S ρ H S1 ρ1 H1) (h : GoodS C W S ρ σ H ((m >>= f) ρ1) D)
    (k : ∀ a ρ2 S2 H2 b, m ρ1 = .ok a ρ2 → Stp C σ S1 ρ1 H1 S2 ρ2 H2 → R ρ1 H1 a S2 ρ2 H2 b → GoodS C W S ρ σ H (f a ρ2) D → Q b H2) : Good C W σ S1 ρ1 H1 (m ρ1) R Q := by
  rw [bnd_ap] at h
  cases e : m ρ1 with
  | stuck => rw [e] at h; exact h
  | ok a ρ2 =>
    rw [e] at h
    exact fun S2 H2 b st r => k a ρ2 S2 H2 b e st r h
  | exc x ρ2 =>
    rw [e] at h
    exact fun S' H' cls d st q => h S' H' σ cls d (e1.trans st).toS q
theorem vs_par {kt k2 : Nat} {px pt pt2 : Pos} (vx : Vx X C W cf T) (hi : X.N[i]? = some x) (hj : X.N[j]? = some y) (hij : i ≠ j) (hx : X.env.scope.names.lookup x = some .local) (hy : X.env.scope.names.lookup y = some .local)
    (ha : VE X C W a ma) (hb : VE X C W b mb) (hw : swappedStores [.Tuple [.Name x px, .Name y py] kt pt] (.Tuple [a, b] k2 pt2) X.env = pure (some [x, y])) (hs1 : starEach [a, b] X.env = (false, eval a X.env) :: starEach [b] X.env := by rfl) (hs2 : starEach [b] X.env = (false, eval b X.env) :: starEach [] X.env := by rfl)
    (hs : swapsWithSole [.Tuple [.Name x px, .Name y py] kt pt] (.Tuple [a, b] k2 pt2) pos.line X.env = pure false := by rfl) : VS X C W (.Assign [.Tuple [.Name x px, .Name y py] kt pt] (.Tuple [a, b] k2 pt2) pos) (parS i j ma mb) := by
  refine ⟨PS.imp (ps_par vx.calm vx.nd hi hj hij hx hy (pa_cons ha.pe (pa_cons hb.pe pa_nil hs2) hs1) hw hs) fun D' σ H h => ?_⟩
  obtain ⟨S, ρ, st, g⟩ := h
  refine ⟨S, ρ, st, GoodS.bnd0 g fun ra ρ1 S1 H1 v _ e1 r1 g1 => ?_⟩
  cases ra with
  | bor k => exact g1.elim
  | val da =>
    refine ⟨S1, ρ1, e1.st, GoodS.bnd0 (GoodS.from e1.toS g1) fun rb ρ2 S2 H2 w _ e2 r2 g2 => ⟨v, w, rfl, ?_⟩⟩
    cases rb with
    | bor k => exact g2.elim
    | val db =>
      obtain ⟨hi', hm, g3⟩ := GoodS.set2 g2
      obtain ⟨hj', hmj, g4⟩ := GoodS.set1 g3
      have s1 := set_val e2.st hi' hm (Rep.mono e2.ext.sS (show Rep C.K S1 v da from r1))
      exact g4 _ _ _ ((e2.toS.trans s1).trans (set_val s1.st hj' hmj (show Rep C.K S2 w db from r2)))
    | own db =>
      obtain ⟨q, rfl, b2, b3, b4, b5⟩ := r2
      obtain ⟨hi', hm, g3⟩ := GoodS.set2 g2
      obtain ⟨hj', hmj, g4⟩ := GoodS.set1 g3
      have s1 := set_val e2.st hi' hm (Rep.mono e2.ext.sS (show Rep C.K S1 v da from r1))
      have hiσ : i < σ.length := by rw [e2.st.len]; exact hi'
      refine g4 _ _ _ (set_ownS (e2.toS.trans s1) hj' hmj b2 b3 (fun ⟨k, f, c1, c2⟩ => ?_) b5)
      by_cases z : i = k
      · subst z; rw [ownD_at hi'] at c1; cases c1
      · rw [ownD_ne z] at c1
        rw [List.getElem?_set_ne z] at c2
        exact b4 ⟨k, f, c1, c2⟩
  | own da =>
    obtain ⟨p1, rfl, a2, a3, a4, a5⟩ := r1
    refine ⟨S1, ρ1, e1.st, ?_⟩
    have k : ∀ {ρ2 S2 H2}, Stp C σ S1 ρ1 H1 S2 ρ2 H2 → S2 p1 = none ∧ OwnAt C.K S2 H2 p1 da ∧ ¬ OwnA ρ2 σ p1 := fun {ρ2 S2 H2} e2 => by
      obtain ⟨o, ho⟩ := a3.ex
      refine ⟨?_, a3.mono e2.ext.sS fun o h => e2.ext.keep p1 o a4 h, fun z => a4 (e2.subA p1 z)⟩
      cases q : S2 p1 with
      | none => rfl
      | some u =>
        rcases e2.ext.grow p1 a2 (by rw [q]; simp) with z | z
        · exact absurd z a4
        · rw [ho] at z; cases z
    refine GoodS.bndR e1 g1 fun rb ρ2 S2 H2 w _ e2 r2 g2 => ⟨_, w, rfl, ?_⟩
    obtain ⟨k1, k2, k3⟩ := k e2
    cases rb with
    | bor k => exact g2.elim
    | val db =>
      obtain ⟨hi', hm, g3⟩ := GoodS.set2 g2
      obtain ⟨hj', hmj, g4⟩ := GoodS.set1 g3
      have s1 := set_own (e1.trans e2) hi' hm k1 k2 k3 a5
      exact g4 _ _ _ (s1.trans (set_val s1.st hj' hmj (show Rep C.K S2 w db from r2)))
    | own db =>
      obtain ⟨q, rfl, b2, b3, b4, b5⟩ := r2
      obtain ⟨hi', hm, g3⟩ := GoodS.set2 g2
      obtain ⟨hj', hmj, g4⟩ := GoodS.set1 g3
      have s1 := set_own (e1.trans e2) hi' hm k1 k2 k3 a5
      have hiσ : i < σ.length := by rw [e2.st.len]; exact hi'
      refine g4 _ _ _ (set_ownS s1 hj' hmj b2 b3 (fun ⟨k, f, c1, c2⟩ => ?_) ?_)
      · by_cases z : i = k
        · subst z
          rw [List.getElem?_set_self hiσ] at c2
          cases c2
          obtain ⟨o, ho⟩ := a3.ex
          rcases b5 with b5 | b5
          · exact a4 b5
          · rw [ho] at b5; cases b5
        · rw [ownD_ne z] at c1
          rw [List.getElem?_set_ne z] at c2
          exact b4 ⟨k, f, c1, c2⟩
      · rcases b5 with b5 | b5
        · exact .inl (e1.subA q b5)
        · exact e1.ext.back b5
end
end VL

/-! VL part h: what is walked, loops, comprehensions, a def by its body. -/
namespace VL
open PySem L2

def WalkD (C : Cfg) (S : Hp) (J : It) (ds : List D) : Prop := ∃ (G : Hp → Prop) (Y : Nat → Hp → V → Hp → Prop), Walk J ds.length G Y ∧ (∀ H, Same S H → G H) ∧
  ∀ i H x H' S1, Same S S1 → Same S1 H → i < ds.length → Y i H x H' → ∃ S2 d, Same S1 S2 ∧ Same H H' ∧ Same S2 H' ∧ (∀ p, S1 p = none → S2 p ≠ none → H p = none) ∧ ds[i]? = some d ∧ Rep C.K S2 x d
def SrcR (C : Cfg) : Rl (List D) It := fun _ _ ds S' _ _ J => WalkD C S' J ds
theorem SrcR.back {C : Cfg} {σ : St} : Back C σ (SrcR C) := fun _ _ _ _ _ _ _ _ _ _ _ _ r => r
def tI (C : Cfg) (W : WX) (src : M (List D)) : TI := fun σ H R => ∃ S ρ, StRel C S ρ σ H ∧ Good C W σ S ρ H (src ρ) (SrcR C) R
structure VI (X : Cx) (C : Cfg) (W : WX) (tg e : Expr) (src : M (List D)) : Prop where pi : PI X tg e (tI C W src)
section
variable {X : Cx} {C : Cfg} {W : WX} {cf : CF} {T : List (Str × Nat)} {e a b c o tg : Expr} {es : List Expr} {ma mb mc : M RV} {ms : List (M RV)} {pos p py : Pos} {x y : Str} {st : Stmt} {sts : List Stmt} {m n : MS} {i j : Nat} {src : M (List D)} {g : D → MS}
/-- a step that only adds -/
theorem add_stp {S : Hp} {ρ : Env} {σ : St} {H S2 H' : Hp} (st : StRel C S ρ σ H) (a : Same S S2) (b : Same H H') (c : Same S2 H') (gr : ∀ p, S p = none → S2 p ≠ none → H p = none) : Stp C σ S ρ H S2 ρ H' := by
  refine ⟨⟨a, fun p o _ h => b p o h, fun p h h' => .inr (gr p h h')⟩, ⟨c, st.len, fun i d e => ?_, fun i d e => ?_, st.dis⟩, fun i d h => ⟨d, h⟩, fun _ h => h⟩
  · obtain ⟨w, h1, h2⟩ := st.val i d e
    exact ⟨w, h1, h2.mono a⟩
  · obtain ⟨p, h1, h2, h3⟩ := st.own i d e
    refine ⟨p, h1, ?_, h3.mono a fun o h => b p o h⟩
    cases q : S2 p with
    | none => rfl
    | some u =>
      have z := gr p h2 (by rw [q]; simp)
      obtain ⟨o, ho⟩ := h3.ex
      rw [z] at ho; cases ho
def stepS (body : MS) (k : MS) : MS := body >>= fun f => match f with
  | .nx => k
  | .cont => k
  | .brk => pure .nx
  | .ret rv => pure (.ret rv)
def loopS (g : D → MS) (body : MS) : List D → MS
  | [] => pure .nx
  | d :: ds => seqS (g d) (stepS body (loopS g body ds))
def forS (src : M (List D)) (g : D → MS) (body : MS) : MS := src >>= fun ds => loopS g body ds
/-- a turn's body ahead of the rest -/
theorem GoodS.turn {S : Hp} {ρ : Env} {σ : St} {H : Hp} {D' : Ends} {N : St → Hp → Prop} (gd : GoodS C W S ρ σ H (stepS m n ρ) D')
    (k : ∀ S' ρ' σ' H', StpS C S ρ σ H S' ρ' σ' H' → GoodS C W S' ρ' σ' H' (n ρ') D' → N σ' H') : GoodS C W S ρ σ H (m ρ) { D' with nx := N, ct := N, bk := D'.nx } := by
  unfold stepS at gd
  rw [bnd_ap] at gd
  cases q : m ρ with
  | stuck => rw [q] at gd; exact gd
  | exc x ρ' => rw [q] at gd; exact gd
  | ok f ρ' =>
    rw [q] at gd
    cases f with
    | nx => exact fun S' H' σ' e => k S' ρ' σ' H' e (GoodS.from e gd)
    | cont => exact fun S' H' σ' e => k S' ρ' σ' H' e (GoodS.from e gd)
    | brk => exact gd
    | ret rv => exact gd
theorem vs_for (vx : Vx X C W cf T) (hi : VI X C W tg e src) (hg : VG X C W tg g) (on : OnlyNx g) (hb : VSs X C W sts m) (hs : ∀ x, foldedSetIterable e X.env x = pure x := by intro _; rfl) : VS X C W (.For tg e sts [] pos) (forS src g m) := by
  refine ⟨PS.imp (ps_for vx.po vx.calm hi.pi hg.pg hb.ps hs) fun D' σ H h => ?_⟩
  obtain ⟨S, ρ, st, gd⟩ := h
  refine ⟨S, ρ, st, GoodS.bnd gd fun ds ρ1 S1 H1 J _ e1 r1 g1 => ?_⟩
  obtain ⟨G, Y, wk, hG, hY⟩ := r1
  refine for_it wk (fun i σ' H' => ∃ S' ρ', Same S1 S' ∧ StRel C S' ρ' σ' H' ∧ GoodS C W S' ρ' σ' H' (loopS g m (ds.drop i) ρ') D') ⟨S1, ρ1, Same.refl _, e1.st, g1⟩ (fun i σ' H' _ ⟨S', ρ', h1, h2, _⟩ => hG _ (h1.trans h2.same)) ?_ ?_
  · rintro i x σ' H' H2 hi ⟨S', ρ', h1, h2, h3⟩ y
    obtain ⟨S2, d, a1, a2, a3, a4, a5, a6⟩ := hY i H' x H2 S' h1 h2.same hi y
    have e2 := add_stp h2 a1 a2 a3 a4
    have ed : ds.drop i = d :: ds.drop (i + 1) := by
      rw [List.drop_eq_getElem_cons hi]
      congr 1
      rw [List.getElem?_eq_getElem hi] at a5
      exact Option.some.inj a5
    rw [ed] at h3
    have h4 : GoodS C W S2 ρ' σ' H2 (seqS (g d) (stepS m (loopS g m (ds.drop (i + 1)))) ρ') D' := GoodS.from e2.toS h3
    refine ⟨S2, ρ', d, e2.st, a6, ?_⟩
    unfold seqS at h4
    rw [bnd_ap] at h4
    cases q : g d ρ' with
    | stuck => rw [q] at h4; exact h4
    | exc x ρ2 => rw [q] at h4; exact h4
    | ok f ρ2 =>
      rw [q] at h4
      have := on d ρ' f ρ2 q
      subst this
      intro S3 H3 σ3 e3
      have h5 : GoodS C W S3 ρ2 σ3 H3 (stepS m (loopS g m (ds.drop (i + 1))) ρ2) D' := GoodS.from e3 h4
      refine ⟨S3, ρ2, e3.st, GoodS.turn h5 fun S4 ρ4 σ4 H4 e4 g4 => ⟨S4, ρ4, ?_, e4.st, g4⟩⟩
      exact ((h1.trans a1).trans e3.ext.sS).trans e4.ext.sS
  · rintro σ' H' ⟨S', ρ', h1, h2, h3⟩
    rw [List.drop_length] at h3
    have h3 : ∀ S2 H2 σ2, StpS C S' ρ' σ' H' S2 ρ' σ2 H2 → D'.nx σ2 H2 := h3
    exact h3 S' H' σ' (StpS.refl h2)
def whileL (t : M Bool) (body : MS) : Nat → MS
  | 0 => M.stuck
  | k + 1 => t >>= fun b => if b = true then stepS body (whileL t body k) else pure .nx
/-- more turns than any law wants -/
@[irreducible] def FUEL : Nat := 1000000000000
theorem FUEL_ge : 1000000000000 ≤ FUEL := by unfold FUEL; exact Nat.le_refl _
def whileS (t : M Bool) (body : MS) : MS := whileL t body FUEL
theorem vs_while {t : M Bool} (vx : Vx X C W cf T) (hc : VT X C W c t) (hb : VSs X C W sts m) : VS X C W (.While c sts [] pos) (whileS t m) := by
  refine ⟨PS.imp (ps_while vx.po hc.pt hb.ps) fun D' σ H h => ?_⟩
  obtain ⟨S, ρ, st, gd⟩ := h
  refine ⟨fun k σ' H' => ∃ S' ρ', StRel C S' ρ' σ' H' ∧ GoodS C W S' ρ' σ' H' (whileL t m k ρ') D', ⟨FUEL, S, ρ, st, gd⟩, ?_⟩
  rintro k σ' H' ⟨S', ρ', h1, h2⟩
  cases k with
  | zero => exact h2.elim
  | succ k =>
    have h2 : GoodS C W S' ρ' σ' H' ((t >>= fun b => if b = true then stepS m (whileL t m k) else pure .nx) ρ') D' := h2
    refine ⟨S', ρ', h1, GoodS.bnd h2 fun b ρ1 S1 H1 v _ e1 r1 g1 => ?_⟩
    cases r1
    cases b with
    | true =>
      rw [if_pos rfl] at g1 ⊢
      refine ⟨fun σ2 H2 => ∃ S' ρ', StRel C S' ρ' σ2 H2 ∧ GoodS C W S' ρ' σ2 H2 (whileL t m k ρ') D', fun σ2 H2 q => ⟨k, Nat.lt_succ_self _, q⟩, S1, ρ1, e1.st, GoodS.turn g1 fun S4 ρ4 σ4 H4 e4 g4 => ⟨S4, ρ4, e4.st, g4⟩⟩
    | false =>
      rw [if_neg Bool.false_ne_true] at g1 ⊢
      have g1 : ∀ S2 H2 σ2, StpS C S1 ρ1 σ' H1 S2 ρ1 σ2 H2 → D'.nx σ2 H2 := g1
      exact g1 S1 H1 σ' (StpS.refl e1.st)
end

/-! ### a def by its body -/
def argsOk : Env → Bool
  | [] => true
  | .val _ :: as => argsOk as
  | .bow _ :: as => argsOk as
  | _ :: _ => false
def fin : Env → Env → Env
  | .bow _ :: as, s :: ss => s :: fin as ss
  | a :: as, _ :: ss => a :: fin as ss
  | as, _ => as
def runDef (ns : Nat) (body : MS) : M RV := fun args => if argsOk args = true then match body (args ++ List.replicate (ns - args.length) .un) with
    | .stuck => .stuck
    | .exc x ρ' => .exc x (fin args ρ')
    | .ok (.ret rv) ρ' => .ok rv (fin args ρ')
    | .ok .nx ρ' => .ok (.val .non) (fin args ρ')
    | .ok .brk _ => .stuck
    | .ok .cont _ => .stuck
  else .stuck
theorem argsOk_at : ∀ {as : Env} {i : Nat} {s : Slot}, argsOk as = true → as[i]? = some s → (∃ d, s = .val d) ∨ ∃ d, s = .bow d
  | [], i, s, _, h => by simp at h
  | a :: as, i, s, ok, h => by
    cases a with
    | val d => cases i with
      | zero => simp at h; exact .inl ⟨d, h.symm⟩
      | succ i => exact argsOk_at (as := as) (i := i) ok (by simpa using h)
    | bow d => cases i with
      | zero => simp at h; exact .inr ⟨d, h.symm⟩
      | succ i => exact argsOk_at (as := as) (i := i) ok (by simpa using h)
    | un => cases ok
    | own d => cases ok
    | bfz d => cases ok
theorem fin_len : ∀ {as ss : Env}, (fin as ss).length = as.length
  | [], ss => by cases ss <;> rfl
  | a :: as, [] => by cases a <;> rfl
  | a :: as, s :: ss => by cases a <;> (show (fin as ss).length + 1 = _; rw [fin_len]; rfl)
theorem fin_at : ∀ {as ss : Env} {i : Nat}, (∀ (j : Nat) (d : D), as[j]? = some (Slot.bow d) → j < ss.length) → (fin as ss)[i]? = match as[i]? with
    | some (.bow _) => ss[i]?
    | s => s
  | [], ss, i, _ => by cases ss <;> rfl
  | a :: as, [], i, h => by
    have e : fin (a :: as) [] = a :: as := by cases a <;> rfl
    rw [e]
    cases q : (a :: as)[i]? with
    | none => rfl
    | some t =>
      cases t with
      | bow d => exact absurd (h i d q) (by simp)
      | _ => rfl
  | a :: as, s :: ss, i, h => by
    have h' : ∀ (j : Nat) (d : D), as[j]? = some (Slot.bow d) → j < ss.length := fun j d e => by
      have := h (j + 1) d (by simpa using e)
      simpa using this
    cases i with
    | zero => cases a <;> rfl
    | succ i => cases a <;> exact fin_at (as := as) (ss := ss) (i := i) h'
section
variable {C : Cfg} {W : WX}
theorem start_at {N : List Str} {vs : List V} {i : Nat} : (L2.start N vs)[i]? = if i < vs.length then (vs.map some)[i]? else if i < N.length then some none else none := by
  unfold L2.start
  by_cases h : i < vs.length
  · rw [if_pos h, List.getElem?_append_left (by simpa using h)]
  · rw [if_neg h, List.getElem?_append_right (by simpa using h), List.getElem?_replicate]
    simp only [List.length_map]
    by_cases h2 : i < N.length
    · rw [if_pos h2, if_pos (by omega)]
    · rw [if_neg h2, if_neg (by omega)]
theorem rho_at {as : Env} {ns i : Nat} : (as ++ List.replicate (ns - as.length) Slot.un)[i]? = if i < as.length then as[i]? else if i < ns then some .un else none := by
  by_cases h : i < as.length
  · rw [if_pos h, List.getElem?_append_left h]
  · rw [if_neg h, List.getElem?_append_right (by omega), List.getElem?_replicate]
    by_cases h2 : i < ns
    · rw [if_pos h2, if_pos (by omega)]
    · rw [if_neg h2, if_neg (by omega)]
theorem start_st {S H : Hp} {as : Env} {vs : List V} {N : List Str} (st : StRel C S as (vs.map some) H) (hn : vs.length ≤ N.length) : StRel C S (as ++ List.replicate (N.length - as.length) .un) (L2.start N vs) H := by
  have hl : vs.length = as.length := by have := st.len; simpa using this
  have low : ∀ {i d}, (ownD (as ++ List.replicate (N.length - as.length) .un) i = some d → i < as.length ∧ ownD as i = some d) ∧ (valD (as ++ List.replicate (N.length - as.length) .un) i = some d → i < as.length ∧ valD as i = some d) := fun {i d} => by
    unfold ownD valD
    rw [rho_at]
    by_cases h : i < as.length
    · rw [if_pos h]; exact ⟨fun e => ⟨h, e⟩, fun e => ⟨h, e⟩⟩
    · rw [if_neg h]
      by_cases h2 : i < N.length
      · rw [if_pos h2]; exact ⟨fun z => (nomatch z), fun z => (nomatch z)⟩
      · rw [if_neg h2]; exact ⟨fun z => (nomatch z), fun z => (nomatch z)⟩
  have sl : ∀ {i}, i < as.length → (L2.start N vs)[i]? = (vs.map some)[i]? := fun {i} h => by rw [start_at, if_pos (by omega)]
  refine ⟨st.same, ?_, fun i d h => ?_, fun i d h => ?_, fun i j d e p h1 h2 h3 h4 => ?_⟩
  · unfold L2.start
    simp only [List.length_append, List.length_map, List.length_replicate]
    omega
  · obtain ⟨h1, h2⟩ := low.2 h
    rw [sl h1]; exact st.val i d h2
  · obtain ⟨h1, h2⟩ := low.1 h
    rw [sl h1]; exact st.own i d h2
  · obtain ⟨a1, a2⟩ := low.1 h1
    obtain ⟨b1, b2⟩ := low.1 h2
    rw [sl a1] at h3
    rw [sl b1] at h4
    exact st.dis i j d e p a2 b2 h3 h4
/-- the def's end, told at its parameters -/
theorem fin_stp {S H S' H' : Hp} {as ρ' : Env} {vs : List V} {N : List Str} {σ' : St} (ok : argsOk as = true) (st : StRel C S as (vs.map some) H) (hn : vs.length ≤ N.length) (e : StpS C S (as ++ List.replicate (N.length - as.length) .un) (L2.start N vs) H S' ρ' σ' H') : Stp C (vs.map some) S as H S' (fin as ρ') H' := by
  have hl : vs.length = as.length := by have := st.len; simpa using this
  have low : ∀ {i}, i < as.length → (as ++ List.replicate (N.length - as.length) Slot.un)[i]? = as[i]? := fun {i} h => by rw [rho_at, if_pos h]
  have bw : ∀ {i : Nat} {d : D}, as[i]? = some (Slot.bow d) → i < as.length ∧ markB ρ' i = true ∧ σ'[i]? = (vs.map some)[i]? := fun {i d} h => by
    have hi := get_len h
    obtain ⟨a, b⟩ := e.mrk i (by unfold markB; rw [low hi, h])
    exact ⟨hi, a, by rw [b, start_at, if_pos (by omega)]⟩
  have lenM : ∀ {i}, markB ρ' i = true → i < ρ'.length := fun {i} h => by
    unfold markB at h
    cases q : ρ'[i]? with
    | none => rw [q] at h; cases h
    | some t => exact get_len q
  have fa : ∀ {i : Nat}, (fin as ρ')[i]? = (match as[i]? with
    | some (Slot.bow _) => ρ'[i]?
    | s => s) := fun {i} => fin_at fun j d h => lenM (bw h).2.1
  -- a slot of the end
  have cas : ∀ {i : Nat} {s : Slot}, (fin as ρ')[i]? = some s → (∃ d, s = Slot.val d ∧ as[i]? = some (Slot.val d)) ∨ ∃ d, as[i]? = some (Slot.bow d) ∧ ρ'[i]? = some s ∧ (∃ d', s = Slot.bow d' ∨ s = Slot.bfz d') ∧ σ'[i]? = (vs.map some)[i]? := fun {i s} h => by
    rw [fa] at h
    cases q : as[i]? with
    | none => rw [q] at h; cases h
    | some t =>
      rcases argsOk_at ok q with ⟨d, rfl⟩ | ⟨d, rfl⟩
      · rw [q] at h; cases h; exact .inl ⟨d, rfl, rfl⟩
      · rw [q] at h
        have h : ρ'[i]? = some s := h
        obtain ⟨h1, h2, h3⟩ := bw q
        refine .inr ⟨d, rfl, h, ?_, h3⟩
        unfold markB at h2
        rw [h] at h2
        cases s with
        | bow d' => exact ⟨d', .inl rfl⟩
        | bfz d' => exact ⟨d', .inr rfl⟩
        | _ => cases h2
  have own : ∀ {i : Nat} {d : D}, ownD (fin as ρ') i = some d → ∃ d0, as[i]? = some (Slot.bow d0) ∧ ownD ρ' i = some d ∧ σ'[i]? = (vs.map some)[i]? := fun {i d} h => by
    unfold ownD at h
    cases q : (fin as ρ')[i]? with
    | none => rw [q] at h; cases h
    | some s =>
      rcases cas q with ⟨d', rfl, _⟩ | ⟨d0, a1, a2, ⟨d', a3⟩, a4⟩
      · rw [q] at h; cases h
      · rw [q] at h
        exact ⟨d0, a1, by unfold ownD; rw [a2]; exact h, a4⟩
  have OA : ∀ p, OwnA (as ++ List.replicate (N.length - as.length) .un) (L2.start N vs) p → OwnA as (vs.map some) p := fun p ⟨i, d, h1, h2⟩ => by
    have hi : i < as.length := by
      unfold ownD at h1
      rw [rho_at] at h1
      by_cases z : i < as.length
      · exact z
      · rw [if_neg z] at h1
        by_cases z2 : i < N.length
        · rw [if_pos z2] at h1; cases h1
        · rw [if_neg z2] at h1; cases h1
    refine ⟨i, d, ?_, ?_⟩
    · unfold ownD at h1 ⊢; rw [low hi] at h1; exact h1
    · rw [start_at, if_pos (by omega)] at h2; exact h2
  refine ⟨e.ext.mono OA, ⟨e.st.same, by rw [fin_len]; exact st.len, fun i d h => ?_, fun i d h => ?_, fun i j d d' p h1 h2 h3 h4 => ?_⟩, fun i d h => ?_, fun i h => ?_⟩
  · unfold valD at h
    cases q : (fin as ρ')[i]? with
    | none => rw [q] at h; cases h
    | some s =>
      rw [q] at h
      rcases cas q with ⟨d', rfl, a⟩ | ⟨d0, a1, a2, ⟨d', a3⟩, a4⟩
      · cases h
        obtain ⟨v, b1, b2⟩ := st.val i d (by unfold valD; rw [a])
        exact ⟨v, b1, b2.mono e.ext.sS⟩
      · rcases a3 with rfl | rfl
        · cases h
        · cases h
          obtain ⟨v, b1, b2⟩ := e.st.val i d (by unfold valD; rw [a2])
          exact ⟨v, by rw [← a4]; exact b1, b2⟩
  · obtain ⟨d0, a1, a2, a3⟩ := own h
    rw [← a3]; exact e.st.own i d a2
  · obtain ⟨d0, a1, a2, a3⟩ := own h1
    obtain ⟨d1, b1, b2, b3⟩ := own h2
    rw [← a3] at h3
    rw [← b3] at h4
    exact e.st.dis i j d d' p a2 b2 h3 h4
  · obtain ⟨d0, a1, a2, a3⟩ := own h
    exact ⟨d0, by unfold ownD; rw [a1]⟩
  · unfold markB at h
    cases q : as[i]? with
    | none => rw [q] at h; cases h
    | some t =>
      rcases argsOk_at ok q with ⟨d, rfl⟩ | ⟨d, rfl⟩
      · rw [q] at h; cases h
      · obtain ⟨h1, h2, h3⟩ := bw q
        unfold markB at h2 ⊢
        rw [fa, q]
        exact h2
theorem fin_rv {S H S' H' : Hp} {as ρ' : Env} {vs : List V} {N : List Str} {σ' : St} {rv : RV} {v : V} (ok : argsOk as = true) (st : StRel C S as (vs.map some) H) (hn : vs.length ≤ N.length) (e : StpS C S (as ++ List.replicate (N.length - as.length) .un) (L2.start N vs) H S' ρ' σ' H')
    (r : RetR C (as ++ List.replicate (N.length - as.length) .un) (L2.start N vs) H rv S' ρ' σ' H' v) : RVr C (vs.map some) as H rv S' (fin as ρ') H' v := by
  have hl : vs.length = as.length := by have := st.len; simpa using this
  cases rv with
  | bor i => exact r.elim
  | val d => exact r
  | own d =>
    obtain ⟨p, h1, h2, h3, h4, h5⟩ := r
    have low : ∀ {i}, i < as.length → (as ++ List.replicate (N.length - as.length) Slot.un)[i]? = as[i]? := fun {i} h => by rw [rho_at, if_pos h]
    refine ⟨p, h1, h2, h3, fun ⟨i, d', c1, c2⟩ => h4 ?_, ?_⟩
    · unfold ownD at c1
      have bw : ∀ {i : Nat} {d : D}, as[i]? = some (Slot.bow d) → i < as.length ∧ markB ρ' i = true ∧ σ'[i]? = (vs.map some)[i]? := fun {i d} h => by
        have hi := get_len h
        obtain ⟨a, b⟩ := e.mrk i (by unfold markB; rw [low hi, h])
        exact ⟨hi, a, by rw [b, start_at, if_pos (by omega)]⟩
      have lenM : ∀ {i}, markB ρ' i = true → i < ρ'.length := fun {i} h => by
        unfold markB at h
        cases q : ρ'[i]? with
        | none => rw [q] at h; cases h
        | some t => exact get_len q
      rw [fin_at fun j d h => lenM (bw h).2.1] at c1
      cases q : as[i]? with
      | none => rw [q] at c1; cases c1
      | some t =>
        rcases argsOk_at ok q with ⟨d, rfl⟩ | ⟨d, rfl⟩
        · rw [q] at c1; cases c1
        · rw [q] at c1
          exact ⟨i, d', c1, by rw [(bw q).2.2]; exact c2⟩
    · rcases h5 with ⟨i, d', c1, c2⟩ | h5
      · have hi : i < as.length := by
          unfold ownD at c1
          rw [rho_at] at c1
          by_cases z : i < as.length
          · exact z
          · rw [if_neg z] at c1
            by_cases z2 : i < N.length
            · rw [if_pos z2] at c1; cases c1
            · rw [if_neg z2] at c1; cases c1
        refine .inl ⟨i, d', ?_, ?_⟩
        · unfold ownD at c1 ⊢; rw [low hi] at c1; exact c1
        · rw [start_at, if_pos (by omega)] at c2; exact c2
      · exact .inr h5
/-- THE RULE: a def by its body -/
theorem def_ok {P : Program} {w : World} {K : PySem.W.Frag} {mg : Str → Option Value} {base : Heap} {x qual : Str} {st : Stmt} {f : Addr} {fd : FuncData} {N ps : List Str} {k i np ns : Nat} {T : List (Str × Nat)} {cf cf' : CF} {body : MS} (F : Fun K x qual st f fd) (Sc : FnScope N ps (defScope st)) (hC : C.K = K)
    (hp : ps.length = np) (hN : N.length = ns) (hcf : cf' i = runDef ns body) (tab : TabOk P w K mg base k C cf T)
    (hb : ∀ (cdv : Value) (A : Around) (outer : List PySem.Env) (s : Shared) (H : Hp) (E : XK), Vx (cxOf (L2.CX P w) P w K mg base N qual (defScope st) f cdv A outer s H E) C (fun cls d _ H => E cls d H) cf T →
      VSs (cxOf (L2.CX P w) P w K mg base N qual (defScope st) f cdv A outer s H E) C (fun cls d _ H => E cls d H) (defBody st) body) :
    FnG P w K mg base (L2.CX P w) (k + 1) f fd ps (spOf C cf' i np) := by
  obtain ⟨oc, od, kV, doc, pm, an, cdv, ct, osl, rfl, lk, hcd⟩ := F.ex
  refine FnG.of_body lk hcd Sc (fun vs H Q E h => ?_) fun A outer s H vs Q E hr gd h => ?_
  · obtain ⟨S, as, hl, _⟩ := h
    rw [hl, hp]
  · obtain ⟨S, as, hl, st0, g⟩ := h
    have vx : Vx (cxOf (L2.CX P w) P w K mg base N qual (defScope st) f cdv A outer s H E) C (fun cls d _ H => E cls d H) cf T :=
      ⟨hC.symm, rfl, takes_of rfl rfl rfl rfl, Sc.nd, by have := hr.units; show A.units + 3 + 65 < _; have h2 : (A.deeper (PyProof.Rows.envOfC qual (defScope st) s.heap.objs.size f cdv)).units = A.units + 3 := rfl; have := hr.un; omega, passes_of rfl, gd, k, hr, tab⟩
    refine ⟨tS C (fun cls d _ H => E cls d H) body, (hb cdv A outer s H E vx).ps, S, as ++ List.replicate (N.length - as.length) .un, ?_, ?_⟩
    · refine start_st st0 ?_
      have := congrArg List.length Sc.pre
      rw [List.length_take] at this
      omega
    · have hn : vs.length ≤ N.length := by
        have := congrArg List.length Sc.pre
        rw [List.length_take] at this
        omega
      rw [hcf] at g
      unfold runDef at g
      by_cases ok : argsOk as = true
      · rw [if_pos ok] at g
        rw [← hN] at g
        cases q : body (as ++ List.replicate (N.length - as.length) .un) with
        | stuck => rw [q] at g; exact g
        | exc x ρ' =>
          rw [q] at g
          exact fun S' H' σ' cls d e r => g S' H' cls d (fin_stp ok st0 hn e) r
        | ok fl ρ' =>
          rw [q] at g
          cases fl with
          | brk => exact g.elim
          | cont => exact g.elim
          | nx => exact fun S' H' σ' e => g S' H' V.non (fin_stp ok st0 hn e) .non
          | ret rv => exact fun S' H' σ' v e r => g S' H' v (fin_stp ok st0 hn e) (fin_rv ok st0 hn e r)
      · rw [if_neg ok] at g; exact g.elim
end
end VL

/-! VL part i: list comprehensions. -/
namespace VL
open PySem L2

inductive CT where
  | one (i : Nat) | many (is : List Nat)
def CT.ixs : CT → List Nat
  | .one i => [i]
  | .many is => is
def gNames : List Nat → TGs
  | [] => gNil
  | i :: is => gCons (gName i) (gNames is)
def gCT (K : PySem.W.Frag) : CT → TG
  | .one i => gName i
  | .many is => gTup K is.length (gNames is)
def ctG : CT → D → MS
  | .one i => nameG i
  | .many is => tupG (is.map nameG)
def setAll : Env → List Nat → List D → Env
  | ρ, i :: is, d :: ds => setAll (ρ.set i (.val d)) is ds
  | ρ, _, _ => ρ
def setAllV : St → List Nat → List V → St
  | σ, i :: is, d :: ds => setAllV (σ.set i (some d)) is ds
  | σ, _, _ => σ
def wipeE (ρ : Env) : List Nat → Env
  | [] => ρ
  | v :: vs => (wipeE ρ vs).set v .un
def restoreE (ρ1 ρ : Env) : List Nat → Env
  | [] => ρ
  | v :: vs => match ρ1[v]? with
    | some s => (restoreE ρ1 ρ vs).set v s
    | none => restoreE ρ1 ρ vs
theorem wipeE_len {ρ : Env} : ∀ {vs : List Nat}, (wipeE ρ vs).length = ρ.length
  | [] => rfl
  | v :: vs => by show ((wipeE ρ vs).set v .un).length = _; rw [List.length_set, wipeE_len]
theorem wipeE_get {ρ : Env} {j : Nat} : ∀ {vs : List Nat}, (wipeE ρ vs)[j]? = if j ∈ vs then (if j < ρ.length then some .un else none) else ρ[j]?
  | [] => by simp [wipeE]
  | v :: vs => by
    show ((wipeE ρ vs).set v .un)[j]? = _
    rw [get_set, wipeE_len, wipeE_get (vs := vs)]
    by_cases z : v = j
    · subst z; simp
    · rw [if_neg z]
      by_cases m : j ∈ vs
      · simp [m]
      · simp [m, Ne.symm z]
theorem wipe_get {σ : St} {j : Nat} : ∀ {vs : List Nat}, (wipe σ vs)[j]? = if j ∈ vs then (if j < σ.length then some none else none) else σ[j]?
  | [] => by simp [wipe]
  | v :: vs => by
    show ((wipe σ vs).set v none)[j]? = _
    rw [List.getElem?_set, wipe_length, wipe_get (vs := vs)]
    by_cases z : v = j
    · subst z; simp
    · rw [if_neg z]
      by_cases m : j ∈ vs
      · simp [m]
      · simp [m, Ne.symm z]
theorem restoreE_len {ρ1 ρ : Env} : ∀ {vs : List Nat}, (restoreE ρ1 ρ vs).length = ρ.length
  | [] => rfl
  | v :: vs => by
    unfold restoreE
    cases ρ1[v]? with
    | none => exact restoreE_len
    | some s => show ((restoreE ρ1 ρ vs).set v s).length = _; rw [List.length_set, restoreE_len]
theorem restoreE_get {ρ1 ρ : Env} {j : Nat} (hl : ρ.length = ρ1.length) : ∀ {vs : List Nat}, (restoreE ρ1 ρ vs)[j]? = if j ∈ vs then ρ1[j]? else ρ[j]?
  | [] => by simp [restoreE]
  | v :: vs => by
    unfold restoreE
    cases q : ρ1[v]? with
    | none =>
      show (restoreE ρ1 ρ vs)[j]? = _
      rw [restoreE_get hl (vs := vs)]
      by_cases z : j = v
      · subst z
        have h1 : ρ1.length ≤ j := List.getElem?_eq_none_iff.mp q
        have h2 : ρ[j]? = none := List.getElem?_eq_none_iff.mpr (by omega)
        simp [q, h2]
      · by_cases m : j ∈ vs
        · simp [m]
        · simp [m, z]
    | some s =>
      show ((restoreE ρ1 ρ vs).set v s)[j]? = _
      have hv := get_len q
      rw [get_set, restoreE_len, restoreE_get hl (vs := vs)]
      by_cases z : v = j
      · subst z
        rw [if_pos rfl, if_pos (by omega)]
        simp [q]
      · rw [if_neg z]
        by_cases m : j ∈ vs
        · simp [m]
        · simp [m, Ne.symm z]
theorem wipe_set {σ : St} {vs : List Nat} {i : Nat} {o : Option V} (h : i ∈ vs) : wipe (σ.set i o) vs = wipe σ vs := by
  apply List.ext_getElem?
  intro j
  rw [wipe_get, wipe_get]
  by_cases m : j ∈ vs
  · simp [m]
  · have : i ≠ j := fun z => m (z ▸ h)
    simp [m, List.getElem?_set_ne this]
theorem wipe_setAll {vs : List Nat} : ∀ {is : List Nat} {σ : St} {xs : List V}, (∀ i ∈ is, i ∈ vs) → wipe (setAllV σ is xs) vs = wipe σ vs
  | [], σ, xs, _ => by cases xs <;> rfl
  | i :: is, σ, [], _ => rfl
  | i :: is, σ, x :: xs, h => by
    show wipe (setAllV (σ.set i (some x)) is xs) vs = _
    rw [wipe_setAll fun j hj => h j (List.mem_cons_of_mem _ hj), wipe_set (h i List.mem_cons_self)]
theorem wipe_wipe {σ : St} {vs : List Nat} : wipe (wipe σ vs) vs = wipe σ vs := by
  apply List.ext_getElem?
  intro j
  rw [wipe_get, wipe_length, wipe_get]
  by_cases m : j ∈ vs <;> simp [m]

structure VC (X : Cx) (ct : CT) (tg : Expr) : Prop where pg : PG X tg (gCT X.K ct)
structure VCs (X : Cx) (is : List Nat) (es : List Expr) : Prop where pgs : PGs X es (gNames is)
/-- a clause's tests -/
structure VTs (X : Cx) (C : Cfg) (W : WX) (ifs : List Expr) (t : M Bool) : Prop where pts : PTs X ifs (tT C W t)
def lcLoop (ct : CT) (t : M Bool) (el : M RV) (vs : List Nat) : List D → List D → M (List D)
  | [], acc => pure acc
  | d :: ds, acc => ctG ct d >>= fun _ => t >>= fun k => if k = true then fzM el >>= fun y => fun ρ => lcLoop ct t el vs ds (acc ++ [y]) (wipeE ρ vs) else fun ρ => lcLoop ct t el vs ds acc (wipeE ρ vs)
def lcGo (ct : CT) (t : M Bool) (el : M RV) (vs : List Nat) (ds : List D) : M RV := fun ρ1 => if ds.length ≤ LIM then match lcLoop ct t el vs ds [] (wipeE ρ1 vs) with
    | .ok acc ρ2 => .ok (.own (.lst acc)) (restoreE ρ1 ρ2 vs)
    | _ => .stuck
  else .stuck
def lcM (src : M (List D)) (ct : CT) (t : M Bool) (el : M RV) (vs : List Nat) : M RV := src >>= lcGo ct t el vs
abbrev W0 : WX := fun _ _ _ _ => False
section
variable {C : Cfg} {W : WX} {σ σb σw : St} {S Sa Sb S' : Hp} {ρ ρ0 ρa ρb ρ1 ρ' : Env} {H Ha Hb H1 H' : Hp} {vs : List Nat}
theorem own_get {ρ ρ' : Env} {j : Nat} (h : ρ[j]? = ρ'[j]?) : ownD ρ j = ownD ρ' j := by unfold ownD; rw [h]
theorem val_get {ρ ρ' : Env} {j : Nat} (h : ρ[j]? = ρ'[j]?) : valD ρ j = valD ρ' j := by unfold valD; rw [h]
theorem mark_get {ρ ρ' : Env} {j : Nat} (h : ρ[j]? = ρ'[j]?) : markB ρ j = markB ρ' j := by unfold markB; rw [h]
theorem wiped {j : Nat} (h : j ∈ vs) : ownD (wipeE ρ vs) j = none ∧ valD (wipeE ρ vs) j = none ∧ markB (wipeE ρ vs) j = false := by
  unfold ownD valD markB
  rw [wipeE_get, if_pos h]
  by_cases z : j < ρ.length
  · rw [if_pos z]; exact ⟨rfl, rfl, rfl⟩
  · rw [if_neg z]; exact ⟨rfl, rfl, rfl⟩
theorem wipe_st (st : StRel C S ρ σ H) : StRel C S (wipeE ρ vs) (wipe σ vs) H := by
  have f : ∀ {j : Nat}, j ∉ vs → (wipeE ρ vs)[j]? = ρ[j]? := fun {j} h => by rw [wipeE_get, if_neg h]
  have fs : ∀ {j : Nat}, j ∉ vs → (wipe σ vs)[j]? = σ[j]? := fun {j} h => by rw [wipe_get, if_neg h]
  refine ⟨st.same, by rw [wipe_length, wipeE_len]; exact st.len, fun j d h => ?_, fun j d h => ?_, fun j k d e p h1 h2 h3 h4 => ?_⟩
  · by_cases m : j ∈ vs
    · rw [(wiped m).2.1] at h; cases h
    · rw [val_get (f m)] at h; rw [fs m]; exact st.val j d h
  · by_cases m : j ∈ vs
    · rw [(wiped m).1] at h; cases h
    · rw [own_get (f m)] at h; rw [fs m]; exact st.own j d h
  · by_cases m : j ∈ vs
    · rw [(wiped m).1] at h1; cases h1
    · by_cases m2 : k ∈ vs
      · rw [(wiped m2).1] at h2; cases h2
      · rw [own_get (f m)] at h1
        rw [own_get (f m2)] at h2
        rw [fs m] at h3
        rw [fs m2] at h4
        exact st.dis j k d e p h1 h2 h3 h4
/-- behind a turn -/
theorem wipe_stp (e : Stp C σb Sa ρa Ha Sb ρb Hb) (h1 : ∀ j : Nat, j ∉ vs → ρa[j]? = ρ0[j]?) (h2 : ∀ j : Nat, j ∉ vs → σb[j]? = σw[j]?) (h3 : ∀ j ∈ vs, ownD ρa j = none) (h4 : ∀ j ∈ vs, markB ρ0 j = false) (hl : σb.length = σw.length) :
    Stp C σw Sa ρ0 Ha Sb (wipeE ρb vs) Hb := by
  have f : ∀ {j : Nat}, j ∉ vs → (wipeE ρb vs)[j]? = ρb[j]? := fun {j} h => by rw [wipeE_get, if_neg h]
  have OA : ∀ p, OwnA ρa σb p → OwnA ρ0 σw p := fun p ⟨j, d, a, b⟩ => by
    have m : j ∉ vs := fun m => by rw [h3 j m] at a; cases a
    exact ⟨j, d, by rw [← own_get (h1 j m)]; exact a, by rw [← h2 j m]; exact b⟩
  have own : ∀ {j d}, ownD (wipeE ρb vs) j = some d → j ∉ vs ∧ ownD ρb j = some d := fun {j d} h => by
    by_cases m : j ∈ vs
    · rw [(wiped m).1] at h; cases h
    · exact ⟨m, by rw [← own_get (f m)]; exact h⟩
  refine ⟨e.ext.mono OA, ⟨e.st.same, by rw [wipeE_len, ← hl]; exact e.st.len, fun j d h => ?_, fun j d h => ?_, fun j k d d' p a1 a2 a3 a4 => ?_⟩, fun j d h => ?_, fun j h => ?_⟩
  · by_cases m : j ∈ vs
    · rw [(wiped m).2.1] at h; cases h
    · rw [val_get (f m)] at h; rw [← h2 j m]; exact e.st.val j d h
  · obtain ⟨m, h⟩ := own h
    rw [← h2 j m]; exact e.st.own j d h
  · obtain ⟨m, a1⟩ := own a1
    obtain ⟨m2, a2⟩ := own a2
    rw [← h2 j m] at a3
    rw [← h2 k m2] at a4
    exact e.st.dis j k d d' p a1 a2 a3 a4
  · obtain ⟨m, h⟩ := own h
    obtain ⟨d', h'⟩ := e.sub j d h
    exact ⟨d', by rw [← own_get (h1 j m)]; exact h'⟩
  · by_cases m : j ∈ vs
    · rw [h4 j m] at h; cases h
    · rw [mark_get (f m)]
      exact e.mrk j (by rw [mark_get (h1 j m)]; exact h)
/-- behind the last turn -/
theorem restore_stp (st : StRel C S ρ1 σ H1) (e : Stp C (wipe σ vs) S (wipeE ρ1 vs) H1 S' ρ' H') : Stp C σ S ρ1 H1 S' (restoreE ρ1 ρ' vs) H' := by
  have hl : ρ'.length = ρ1.length := by
    have a := e.st.len
    rw [wipe_length, st.len] at a
    exact a.symm
  have f : ∀ {j : Nat}, j ∉ vs → (wipeE ρ1 vs)[j]? = ρ1[j]? := fun {j} h => by rw [wipeE_get, if_neg h]
  have fs : ∀ {j : Nat}, j ∉ vs → (wipe σ vs)[j]? = σ[j]? := fun {j} h => by rw [wipe_get, if_neg h]
  have r1 : ∀ {j : Nat}, j ∈ vs → (restoreE ρ1 ρ' vs)[j]? = ρ1[j]? := fun {j} h => by rw [restoreE_get hl, if_pos h]
  have r2 : ∀ {j : Nat}, j ∉ vs → (restoreE ρ1 ρ' vs)[j]? = ρ'[j]? := fun {j} h => by rw [restoreE_get hl, if_neg h]
  have OA : ∀ p, OwnA (wipeE ρ1 vs) (wipe σ vs) p → OwnA ρ1 σ p := fun p ⟨j, d, a, b⟩ => by
    have m : j ∉ vs := fun m => by rw [(wiped m).1] at a; cases a
    exact ⟨j, d, by rw [← own_get (f m)]; exact a, by rw [← fs m]; exact b⟩
  have sub : ∀ j d, ownD (restoreE ρ1 ρ' vs) j = some d → ∃ e, ownD ρ1 j = some e := fun j d h => by
    by_cases m : j ∈ vs
    · rw [own_get (r1 m)] at h; exact ⟨d, h⟩
    · rw [own_get (r2 m)] at h
      obtain ⟨d', h'⟩ := e.sub j d h
      exact ⟨d', by rw [← own_get (f m)]; exact h'⟩
  refine ⟨e.ext.mono OA, ⟨e.st.same, by rw [restoreE_len, hl]; exact st.len, fun j d h => ?_, fun j d h => ?_, fun j k d d' p a1 a2 a3 a4 => ?_⟩, sub, fun j h => ?_⟩
  · by_cases m : j ∈ vs
    · rw [val_get (r1 m)] at h
      obtain ⟨v, a, b⟩ := st.val j d h
      exact ⟨v, a, b.mono e.ext.sS⟩
    · rw [val_get (r2 m)] at h
      rw [← fs m]; exact e.st.val j d h
  · by_cases m : j ∈ vs
    · rw [own_get (r1 m)] at h
      obtain ⟨p, a, b, c⟩ := st.own j d h
      have nA : ¬ OwnA (wipeE ρ1 vs) (wipe σ vs) p := fun ⟨k, d', x1, x2⟩ => by
        have m2 : k ∉ vs := fun m => by rw [(wiped m).1] at x1; cases x1
        rw [own_get (f m2)] at x1
        rw [fs m2] at x2
        have := st.dis j k d d' p h x1 a x2
        exact m2 (this ▸ m)
      refine ⟨p, a, ?_, c.mono e.ext.sS fun o ho => e.ext.keep p o nA ho⟩
      cases q : S' p with
      | none => rfl
      | some u =>
        obtain ⟨o, ho⟩ := c.ex
        rcases e.ext.grow p b (by rw [q]; simp) with z | z
        · exact absurd z nA
        · rw [z] at ho; cases ho
    · rw [own_get (r2 m)] at h
      rw [← fs m]; exact e.st.own j d h
  · obtain ⟨d1, b1⟩ := sub j d a1
    obtain ⟨d2, b2⟩ := sub k d' a2
    exact st.dis j k d1 d2 p b1 b2 a3 a4
  · by_cases m : j ∈ vs
    · rw [mark_get (r1 m)]; exact h
    · rw [mark_get (r2 m)]
      exact e.mrk j (by rw [mark_get (f m)]; exact h)
/-- the names of a turn are set -/
theorem names_ok {is : List Nat} {ds : List D} {xs : List V} {f : Fl} (st : StRel C S ρ σ H) (hi : ∀ i ∈ is, i ∈ vs) (hv : ∀ j ∈ vs, markB ρ j = false ∧ ownD ρ j = none) (r : Reps C.K S xs ds) (e : seqG (is.map nameG) ds ρ = .ok f ρ') :
    xs.length = is.length ∧ StRel C S ρ' (setAllV σ is xs) H ∧ (∀ j : Nat, j ∉ vs → ρ'[j]? = ρ[j]?) ∧ (∀ j : Nat, j ∉ vs → (setAllV σ is xs)[j]? = σ[j]?) ∧ (∀ j ∈ vs, markB ρ' j = false ∧ ownD ρ' j = none) := by
  induction is generalizing ds xs ρ σ with
  | nil =>
    cases r with
    | nil => cases e; exact ⟨rfl, st, fun _ _ => rfl, fun _ _ => rfl, hv⟩
    | cons _ _ => cases e
  | cons i is ih =>
    cases r with
    | nil => cases e
    | cons r0 r =>
      rename_i v xs d ds
      have e : ((setM i (.val d) ρ).bnd fun f => match f with
        | .nx => seqG (is.map nameG) ds
        | f => pure f) = .ok f ρ' := e
      cases q : setM i (.val d) ρ with
      | stuck => rw [q] at e; cases e
      | exc x ρ2 => rw [q] at e; cases e
      | ok f2 ρ2 =>
        obtain ⟨rfl, rfl, hil, hm⟩ := setM_ok q
        rw [q] at e
        have s1 := set_val st hil hm r0
        have hi0 := hi i List.mem_cons_self
        have hv' : ∀ j ∈ vs, markB (ρ.set i (.val d)) j = false ∧ ownD (ρ.set i (.val d)) j = none := fun j hj => by
          by_cases z : i = j
          · subst z; rw [markB_at hil, ownD_at hil]; exact ⟨rfl, rfl⟩
          · rw [markB_ne z, ownD_ne z]; exact hv j hj
        obtain ⟨a1, a2, a3, a4, a5⟩ := ih (σ := σ.set i (some v)) s1.st (fun j hj => hi j (List.mem_cons_of_mem _ hj)) hv' (r) e
        · refine ⟨by simp [a1], a2, fun j hj => ?_, fun j hj => ?_, a5⟩
          · have z : i ≠ j := fun z => hj (z ▸ hi0)
            rw [a3 j hj]
            exact List.getElem?_set_ne z
          · have z : i ≠ j := fun z => hj (z ▸ hi0)
            show (setAllV (σ.set i (some v)) is xs)[j]? = _
            rw [a4 j hj]
            exact List.getElem?_set_ne z
theorem gNames_ok {is : List Nat} {xs : List V} {Q : St → Hp → Prop} (hl : xs.length = is.length) (h : Q (setAllV σ is xs) H) : gNames is xs σ H Q := by
  induction is generalizing xs σ with
  | nil => cases xs with
    | nil => exact ⟨rfl, h⟩
    | cons _ _ => cases hl
  | cons i is ih => cases xs with
    | nil => cases hl
    | cons x xs => exact ⟨x, xs, rfl, ih (by simpa using hl) h⟩
/-- a turn's target -/
theorem ct_ok {ct : CT} {d : D} {x : V} {f : Fl} {Q : St → Hp → Prop} (st : StRel C S ρ σ H) (hi : ∀ i ∈ ct.ixs, i ∈ vs) (hv : ∀ j ∈ vs, markB ρ j = false ∧ ownD ρ j = none) (r : Rep C.K S x d) (e : ctG ct d ρ = .ok f ρ')
    (k : ∀ σb, StRel C S ρ' σb H → (∀ j : Nat, j ∉ vs → ρ'[j]? = ρ[j]?) → (∀ j : Nat, j ∉ vs → σb[j]? = σ[j]?) → (∀ j ∈ vs, ownD ρ' j = none) → wipe σb vs = wipe σ vs → σb.length = σ.length → Q σb H) : gCT C.K ct x σ H Q := by
  cases ct with
  | one i =>
    have hi0 := hi i (List.mem_cons_self)
    obtain ⟨rfl, rfl, hil, hm⟩ := setM_ok (show setM i (.val d) ρ = .ok f ρ' from e)
    have s1 := set_val st hil hm r
    refine k (σ.set i (some x)) s1.st (fun j hj => List.getElem?_set_ne fun z => hj (by rw [← z]; exact hi0)) (fun j hj => List.getElem?_set_ne fun z => hj (by rw [← z]; exact hi0)) (fun j hj => ?_) (wipe_set hi0) (List.length_set ..)
    by_cases z : i = j
    · subst z; rw [ownD_at hil]
    · rw [ownD_ne z]; exact (hv j hj).2
  | many is =>
    cases d with
    | tup ds =>
      have e : (if ds.length = (is.map nameG).length then seqG (is.map nameG) ds else M.stuck) ρ = .ok f ρ' := e
      split at e
      · cases r with
        | tup h1 h2 =>
          rename_i a xs
          obtain ⟨a1, a2, a3, a4, a5⟩ := names_ok st hi hv h2 e
          refine ⟨a, xs, rfl, same_t st.same h1, a1, gNames_ok a1 (k _ a2 a3 a4 (fun j hj => (a5 j hj).2) (wipe_setAll hi) ?_)⟩
          have hl : wipe (setAllV σ is xs) vs = wipe σ vs := wipe_setAll hi
          have h3 := congrArg List.length hl
          rw [wipe_length, wipe_length] at h3
          exact h3
      · cases e
    | _ => cases e
end
section
variable {X : Cx} {C : Cfg} {W : WX} {cf : CF} {T : List (Str × Nat)} {e a b c o tg elt iter : Expr} {es ifs : List Expr} {ma mb mc el : M RV} {ms : List (M RV)} {pos p py spos : Pos} {x y : Str} {i j : Nat} {src : M (List D)} {ct : CT} {t : M Bool} {vs : List Nat}
theorem vc_one (vx : Vx X C W cf T) (i : Nat) (hi : X.N[i]? = some x := by rfl) (hx : Loc X.env.scope x := by first | exact Or.inl rfl | exact Or.inr rfl) (hf : X.fn x = true ∨ X.env.scope.names.lookup x = some .local := by first | exact .inl rfl | exact .inr rfl | assumption) : VC X (.one i) (.Name x p) := ⟨pg_name vx.nd hi hx hf⟩
theorem vcs_nil : VCs X [] [] := ⟨pgs_nil⟩
theorem vcs_cons {is : List Nat} (vx : Vx X C W cf T) (i : Nat) (h2 : VCs X is es) (hi : X.N[i]? = some x := by rfl) (hx : Loc X.env.scope x := by first | exact Or.inl rfl | exact Or.inr rfl) (hf : X.fn x = true ∨ X.env.scope.names.lookup x = some .local := by first | exact .inl rfl | exact .inr rfl | assumption)
    (hs : (assignEach (.Name x p :: es) X.env).map (·.2) = assign (.Name x p) X.env :: (assignEach es X.env).map (·.2) := by rfl) : VCs X (i :: is) (.Name x p :: es) := ⟨pgs_cons (pg_name vx.nd hi hx hf) h2.pgs hs⟩
theorem vc_many {is : List Nat} {k : Nat} (vx : Vx X C W cf T) (h : VCs X is es) (hn : (assignEach es X.env).length = is.length := by rfl) (hst : (assignEach es X.env).findIdx? (·.1) = none := by rfl) : VC X (.many is) (.Tuple es k p) := ⟨pg_tup vx.calm h.pgs hn hst⟩
theorem vts_nil : VTs X C W [] (pure true) := ⟨⟨fun pins s σ H Q I h => pts_nil.run pins s σ H Q I (by
  obtain ⟨S, ρ, st, g⟩ := h
  exact Good.pureB st g)⟩⟩
theorem vts_one {c : Expr} (h : VT X C W c t) : VTs X C W [c] t := ⟨pts_one h.pt⟩
theorem Vx.blk (vx : Vx X C W cf T) (s : Shared) (H : Hp) (scope : Scope) (cenv : PySem.Env) (fp : List Addr) : Vx (X.blk s H scope cenv fp) C W0 cf T :=
  ⟨vx.K, vx.calm, takes0, vx.nd, vx.hu, PassesOwn.never, vx.gd, vx.tab⟩
theorem tE_lc (hi : ∀ i ∈ ct.ixs, i ∈ vs) {σ : St} {H : Hp} {Q : VK} (h : tE C W (lcM src ct t el vs) σ H Q) : tLc (tI C W src) (gCT C.K ct) (tT C W0 t) (tE C W0 el) vs σ H Q := by
  obtain ⟨S, ρ, st, g⟩ := h
  refine ⟨S, ρ, st, Good.bnd RVr.back g fun ds ρ1 S1 H1 J _ e1 r1 g1 => fun P nP => ?_⟩
  obtain ⟨G, Y, wk, hG, hY⟩ := r1
  have g1 : Good C W σ S1 ρ1 H1 (if ds.length ≤ LIM then match lcLoop ct t el vs ds [] (wipeE ρ1 vs) with
    | .ok acc ρ2 => Res.ok (RV.own (.lst acc)) (restoreE ρ1 ρ2 vs)
    | _ => .stuck
    else .stuck) (RVr C σ) Q := g1
  by_cases hz : ds.length ≤ LIM
  · rw [if_pos hz] at g1
    cases qL : lcLoop ct t el vs ds [] (wipeE ρ1 vs) with
    | stuck => rw [qL] at g1; exact g1.elim
    | exc x r => rw [qL] at g1; exact g1.elim
    | ok accF ρF =>
      rw [qL] at g1
      have g1 : ∀ S' H' b, Stp C σ S1 ρ1 H1 S' (restoreE ρ1 ρF vs) H' → RVr C σ ρ1 H1 (.own (.lst accF)) S' (restoreE ρ1 ρF vs) H' b → Q b H' := g1
      have stw := wipe_st (vs := vs) e1.st
      have nS1 : S1 P = none := e1.st.same.free nP
      have nO : ¬ OwnA (wipeE ρ1 vs) (wipe σ vs) P := fun ⟨j, d, a, b⟩ => by
        obtain ⟨q, x1, x2, x3⟩ := stw.own j d a
        rw [b] at x1; cases x1
        obtain ⟨o, ho⟩ := x3.ex
        rw [nP] at ho; cases ho
      refine lc_it wk (fun i H' => ∃ S' ρ' ys acc, Stp C (wipe σ vs) S1 (wipeE ρ1 vs) H1 S' ρ' H' ∧ (∀ j ∈ vs, markB ρ' j = false ∧ ownD ρ' j = none) ∧ H' P = some (.lst ys) ∧ S' P = none ∧ Reps C.K S' ys acc ∧ acc.length ≤ i ∧ lcLoop ct t el vs (ds.drop i) acc ρ' = .ok accF ρF)
        ⟨S1, wipeE ρ1 vs, [], [], add_stp stw (Same.refl _) (upd_Same nP) (stw.same.trans (upd_Same nP)) (fun p a b => absurd a b), fun j hj => ⟨(wiped hj).2.2, (wiped hj).1⟩, upd_same, nS1, .nil, Nat.le_refl _, qL⟩
        (fun i H' _ ⟨S', ρ', ys, acc, h1, _⟩ => hG _ (h1.ext.sS.trans h1.st.same)) ?_ ?_
      · rintro i x H' H2 hin ⟨S', ρ', ys, acc, h1, h2, h3, h4, h5, h6, h7⟩ y
        obtain ⟨S2, d, a1, a2, a3, a4, a5, a6⟩ := hY i H' x H2 S' h1.ext.sS h1.st.same hin y
        have e2 := add_stp h1.st a1 a2 a3 a4
        have ed : ds.drop i = d :: ds.drop (i + 1) := by
          rw [List.drop_eq_getElem_cons hin]
          congr 1
          rw [List.getElem?_eq_getElem hin] at a5
          exact Option.some.inj a5
        rw [ed] at h7
        have h7 : ((ctG ct d ρ').bnd fun _ => t >>= fun k => if k = true then fzM el >>= fun y => fun ρ => lcLoop ct t el vs (ds.drop (i + 1)) (acc ++ [y]) (wipeE ρ vs) else fun ρ => lcLoop ct t el vs (ds.drop (i + 1)) acc (wipeE ρ vs)) = .ok accF ρF := h7
        cases qc : ctG ct d ρ' with
        | stuck => rw [qc] at h7; cases h7
        | exc x r => rw [qc] at h7; cases h7
        | ok f ρb =>
          rw [qc] at h7
          refine ct_ok e2.st hi h2 a6 qc fun σb stb b1 b2 b3 b4 b5 => ⟨by rw [b4, wipe_wipe], S2, ρb, stb, ?_⟩
          have nP' : ¬ OwnA ρb σb P := fun ⟨j, d', x1, x2⟩ => by
            have m : j ∉ vs := fun m => by rw [b3 j m] at x1; cases x1
            rw [own_get (b1 j m)] at x1
            rw [b2 j m] at x2
            obtain ⟨d2, x3⟩ := h1.sub j d' x1
            exact nO ⟨j, d2, x3, x2⟩
          have keepP : ∀ {S4 ρ4 H4}, Stp C σb S2 ρb H2 S4 ρ4 H4 → H4 P = some (.lst ys) ∧ S4 P = none := fun {S4 ρ4 H4} e4 => by
            refine ⟨e4.ext.keep P _ nP' (a2 _ _ h3), ?_⟩
            cases q : S4 P with
            | none => rfl
            | some u =>
              have s2 : S2 P = none := by
                cases q2 : S2 P with
                | none => rfl
                | some u2 =>
                  have z := a4 P h4 (by rw [q2]; simp)
                  rw [h3] at z; cases z
              rcases e4.ext.grow P s2 (by rw [q]; simp) with z | z
              · exact absurd z nP'
              · rw [a2 _ _ h3] at z; cases z
          have back : ∀ {S4 ρ4 H4}, Stp C σb S2 ρb H2 S4 ρ4 H4 → Stp C (wipe σ vs) S1 (wipeE ρ1 vs) H1 S4 (wipeE ρ4 vs) H4 := fun {S4 ρ4 H4} e4 =>
            (h1.trans e2).trans (wipe_stp e4 b1 b2 b3 (fun j hj => (h2 j hj).1) b5)
          have h7 : ((t ρb).bnd fun k => if k = true then fzM el >>= fun y => fun ρ => lcLoop ct t el vs (ds.drop (i + 1)) (acc ++ [y]) (wipeE ρ vs) else fun ρ => lcLoop ct t el vs (ds.drop (i + 1)) acc (wipeE ρ vs)) = .ok accF ρF := h7
          cases qt : t ρb with
          | stuck => rw [qt] at h7; cases h7
          | exc x r => rw [qt] at h7; cases h7
          | ok k ρ3 =>
            rw [qt] at h7
            intro S3 H3 k' e3 ek
            cases ek
            cases k with
            | false =>
              rw [if_neg Bool.false_ne_true]
              obtain ⟨c1, c2⟩ := keepP e3
              exact ⟨S3, wipeE ρ3 vs, ys, acc, back e3, fun j hj => ⟨(wiped hj).2.2, (wiped hj).1⟩, c1, c2, h5.mono (a1.trans e3.ext.sS), Nat.le_succ_of_le h6, h7⟩
            | true =>
              rw [if_pos rfl]
              have h7 : ((fzM el ρ3).bnd fun y => fun ρ => lcLoop ct t el vs (ds.drop (i + 1)) (acc ++ [y]) (wipeE ρ vs)) = .ok accF ρF := h7
              refine ⟨S3, ρ3, e3.st, Good.fz ?_⟩
              cases qe : fzM el ρ3 with
              | stuck => rw [qe] at h7; cases h7
              | exc x r => rw [qe] at h7; cases h7
              | ok z ρ4 =>
                rw [qe] at h7
                intro S4 H4 v e4 rz
                have e34 := e3.trans e4
                obtain ⟨c1, c2⟩ := keepP e34
                have hlen : ys.length < sizeLine := by
                  have h8 := h5.len
                  rw [← LIM_eq]
                  omega
                refine ⟨ys, c1, hlen, S4, wipeE ρ4 vs, ys ++ [v], acc ++ [z], ?_, fun j hj => ⟨(wiped hj).2.2, (wiped hj).1⟩, upd_same, c2, (h5.mono (a1.trans e34.ext.sS)).app (.cons rz .nil), ?_, h7⟩
                · have bk := back e34
                  refine ⟨⟨bk.ext.sS, fun p o np hp => ?_, bk.ext.grow⟩, ⟨fun b u hb => ?_, bk.st.len, bk.st.val, fun j d' hj => ?_, bk.st.dis⟩, bk.sub, bk.mrk⟩
                  · rw [upd_ne (ne_of_none hp nP)]; exact bk.ext.keep p o np hp
                  · rw [upd_ne (ne_of_none hb c2)]; exact bk.st.same b u hb
                  · obtain ⟨q, x1, x2, x3⟩ := bk.st.own j d' hj
                    have hq : q ≠ P := fun z => by
                      obtain ⟨d2, x4⟩ := bk.sub j d' hj
                      exact nO ⟨j, d2, x4, z ▸ x1⟩
                    exact ⟨q, x1, x2, x3.mono (Same.refl _) fun u hu => by rw [upd_ne hq]; exact hu⟩
                · simp; omega
      · rintro H' ⟨S', ρ', ys, acc, h1, h2, h3, h4, h5, h6, h7⟩
        rw [List.drop_length] at h7
        have h7 : Res.ok acc ρ' = .ok accF ρF := h7
        cases h7
        have rs := restore_stp e1.st h1
        refine g1 S' H' _ rs ⟨P, rfl, h4, ⟨ys, h3, h5⟩, fun ⟨j, d, x1, x2⟩ => ?_, .inr nP⟩
        obtain ⟨d2, x3⟩ := rs.sub j d x1
        obtain ⟨q, y1, y2, y3⟩ := e1.st.own j d2 x3
        rw [x2] at y1; cases y1
        obtain ⟨o, ho⟩ := y3.ex
        rw [nP] at ho; cases ho
  · rw [if_neg hz] at g1; exact g1.elim
theorem ve_lc (vx : Vx X C W cf T) {scope : Scope} {own : List (Str × Nat)} (hvs : own.map (·.2) = vs) (hix : ∀ i ∈ ct.ixs, i ∈ vs) (hi : VI X C W tg iter src) (ok : BlkOk X.N X.env.scope scope own)
    (h : ∀ (s : Shared) (H : Hp) (P : Addr) (cl : List (Str × Addr)) (fp : List Addr), Vx (X.blk s H scope (compEnvC scope cl P X.env) fp) C W0 cf T → VC (X.blk s H scope (compEnvC scope cl P X.env) fp) ct tg ∧ VTs (X.blk s H scope (compEnvC scope cl P X.env) fp) C W0 ifs t ∧ VE (X.blk s H scope (compEnvC scope cl P X.env) fp) C W0 elt el)
    (hs : ∀ x, foldedSetIterable iter X.env x = pure x := by intro _; rfl) : VE X C W (.ListComp elt [⟨tg, iter, ifs, 0⟩] scope pos) (lcM src ct t el vs) := by
  subst hvs
  refine ⟨PE.imp (pe_lc vx.calm vx.nd hi.pi ok (g := gCT C.K ct) (fun s H P cl fp => ?_) (fun s H P cl fp => (h s H P cl fp (vx.blk ..)).2.1.pts) (fun s H P cl fp => (h s H P cl fp (vx.blk ..)).2.2.pe) hs) fun σ H Q q => tE_lc hix q⟩
  have z := (h s H P cl fp (vx.blk ..)).1.pg
  have ek : (X.blk s H scope (compEnvC scope cl P X.env) fp).K = C.K := vx.K
  rw [ek] at z
  exact z
/-- name = [..] on one line -/
theorem vs_setLc (vx : Vx X C W cf T) (hy : X.N[i]? = some y) (hyl : X.env.scope.names.lookup y = some .local) {scope : Scope} {own : List (Str × Nat)} (hsw : swapsWith (.ListComp elt [⟨tg, iter, ifs, 0⟩] scope pos) (some (.Name y py)) spos.line X.env = pure true) (hvs : own.map (·.2) = vs) (hix : ∀ i ∈ ct.ixs, i ∈ vs) (hi : VI X C W tg iter src) (ok : BlkOk X.N X.env.scope scope own)
    (h : ∀ (s : Shared) (H : Hp) (P : Addr) (cl : List (Str × Addr)) (fp : List Addr), Vx (X.blk s H scope (compEnvC scope cl P X.env) fp) C W0 cf T → VC (X.blk s H scope (compEnvC scope cl P X.env) fp) ct tg ∧ VTs (X.blk s H scope (compEnvC scope cl P X.env) fp) C W0 ifs t ∧ VE (X.blk s H scope (compEnvC scope cl P X.env) fp) C W0 elt el)
    (hs : ∀ x, foldedSetIterable iter X.env x = pure x := by intro _; rfl) : VS X C W (.Assign [.Name y py] (.ListComp elt [⟨tg, iter, ifs, 0⟩] scope pos) spos) (asgS i (lcM src ct t el vs)) := by
  subst hvs
  refine ⟨PS.imp (ps_setLc vx.calm vx.nd hy hyl hsw hi.pi ok (g := gCT C.K ct) (fun s H P cl fp => ?_) (fun s H P cl fp => (h s H P cl fp (vx.blk ..)).2.1.pts) (fun s H P cl fp => (h s H P cl fp (vx.blk ..)).2.2.pe) hs) fun D' σ H q => tE_lc hix (tS_asg q)⟩
  have z := (h s H P cl fp (vx.blk ..)).1.pg
  have ek : (X.blk s H scope (compEnvC scope cl P X.env) fp).K = C.K := vx.K
  rw [ek] at z
  exact z
end
end VL

/-! VL part j: enumerate and zip over lists, tuples and texts. -/
namespace VL
open PySem L2 PySem.Spec PyProof

theorem begin1 {v : Value} {o : Obj} {Hh : Heap → Prop} (B : Begins v o Hh) :
    Meets (Builtin.«enumerate.__new__» ⟨[.type "enumerate", v], []⟩) (fun _ R s => Hh s.heap ∧
      R (.ok (.ret (.ref (s.heap.push o).objs.size))) { s with heap := (s.heap.push o).push { cls := .type "enumerate", data := .fields #[.none, .bool false, .ref s.heap.objs.size, rawInt 0, .none, .none] } }) :=
  .of_wp fun prog w A R s h => by
    obtain ⟨hp, gs, dr, tk, os⟩ := s
    obtain ⟨h1, h⟩ := h
    have hsub := sub_enumerate
    have q1 : ∀ {A' : Around} {E : Value → Shared → Prop} {Q : Value → Shared → Prop}, Q (.ref hp.objs.size) ⟨hp.push o, gs, dr, tk, os⟩ → wpAny (model prog w) A' (pyIter v) Q E ⟨hp, gs, dr, tk, os⟩ :=
      fun q => B.iter prog w _ _ ⟨hp, gs, dr, tk, os⟩ _ h1 q
    wp_walk using q1
    refine wpAny_stack_any fun st => wpAny_pure ?_
    split
    · rename_i c _ _ _ _ _
      cases (c == Value.type "enumerate") <;> (wp_walk using q1; exact ⟨_, rfl, h⟩)
    · wp_walk using q1
      exact ⟨_, rfl, h⟩
end VL

/-! VL part j: enumerate and zip over lists, tuples and texts. -/
namespace VL
open PySem L2 PySem.Spec PyProof

theorem call_enum1 {prog : Program} {w : World} {A : Around} {E : Value → Shared → Prop} {s : Shared} {v : Value} {o : Obj} {Hh : Heap → Prop} {Q : Value → Shared → Prop} (B : Begins v o Hh) (h1 : Hh s.heap)
    (h : ∀ h', IsEnum h' (s.heap.objs.size + 1) s.heap.objs.size 0 .none → h'.get? s.heap.objs.size = some o → h'.objs.size = s.heap.objs.size + 2 → (∀ b u, s.heap.get? b = some u → h'.get? b = some u) → Q (.ref (s.heap.objs.size + 1)) { s with heap := h' }) :
    wpAny (model prog w) A (call (.type "enumerate") [v]) Q E s := by
  refine callType_new F.called_enumerate (by decide) (F.typeCall_enumerate_1 _) (F.newCall_enumerate_1 _) (fun obj => F.args_object_init_2 obj _) F.entry_enumerate_new (begin1 B) ⟨h1, ?_⟩
  have hz : (s.heap.push o).objs.size = s.heap.objs.size + 1 := Heap.size_push ..
  show _ ∧ _
  rw [hz]
  have he := Heap.get?_push_size (s.heap.push o) (o := { cls := .type "enumerate", data := .fields #[.none, .bool false, .ref s.heap.objs.size, rawInt 0, .none, .none] }) rfl
  rw [hz] at he
  exact ⟨⟨_, he, rfl⟩, h _ he (Heap.get?_push_of_some _ (Heap.get?_push_size _ B.free)) (by rw [Heap.size_push, hz]) fun b u x => Heap.get?_push_of_some _ (Heap.get?_push_of_some _ x)⟩

/-- what is drawn: the list at a, the tuple at a, a text -/
inductive SK where
  | l (a : Addr) | t (a : Addr) | s (x : Str) (tk : Tok)
def SK.at (h : Heap) (it : Addr) (i : Nat) : SK → Prop
  | .l a => h.IsListIter it a i
  | .t a => h.IsTupleIter it a i
  | .s x tk => h.IsStrIter it (strIterType x) x tk i
def signs (x : Str) : List V := x.cps.toList.map fun c => V.str ⟨#[c]⟩
def SK.has (K : PySem.W.Frag) (H : Hp) (xs : List V) : SK → Prop
  | .l a => SqL K H a xs
  | .t a => SqT K H a xs
  | .s x _ => xs = signs x
def SK.obj : SK → Obj
  | .l a => { cls := .type "list_iterator", data := .fields #[.ref a, .int 0 0] }
  | .t a => { cls := .type "tuple_iterator", data := .fields #[.ref a, .int 0 0] }
  | .s x tk => { cls := .type (strIterType x), data := .fields #[.str x tk, .int 0 0] }
def SK.val : SK → Value
  | .l a => .ref a
  | .t a => .ref a
  | .s x tk => .str x tk
section
variable {X : Cx} {pins : List (Addr × Obj)} {σ : L2.St} {H : Hp} {s : Shared} {k : SK} {xs ys : List V} {it : Addr} {i : Nat}
theorem SK.inj (I : L2.Inv X pins σ H s) (h : k.has X.K H xs) (h' : k.has X.K H ys) : xs = ys := by
  cases k with
  | l a => exact I.list_inj h h'
  | t a => exact I.tuple_inj h h'
  | s x tk => exact (show xs = _ from h).trans (show ys = _ from h').symm
theorem SK.at_keep {h h' : Heap} (x : k.at h it i) (e : ∀ o, h.get? it = some o → h'.get? it = some o) : k.at h' it i := by
  cases k with
  | l a => exact Heap.IsListIter.at x e
  | t a => exact Heap.IsTupleIter.at x e
  | s y tk =>
    obtain ⟨o, ho, r⟩ := (show h.IsStrIter it (strIterType y) y tk i from x)
    exact ⟨o, e o ho, r⟩
theorem SK.at_obj {h : Heap} (x : k.at h it i) : ∃ o, h.get? it = some o ∧ ∀ v, o.data ≠ .cell v := by
  cases k with
  | l a => obtain ⟨o, e, c, d⟩ := (show h.IsListIter it a i from x); exact ⟨o, e, fun v z => by rw [d] at z; cases z⟩
  | t a => obtain ⟨o, e, c, d⟩ := (show h.IsTupleIter it a i from x); exact ⟨o, e, fun v z => by rw [d] at z; cases z⟩
  | s y tk => obtain ⟨o, e, c, d⟩ := (show h.IsStrIter it (strIterType y) y tk i from x); exact ⟨o, e, fun v z => by rw [d] at z; cases z⟩
theorem SK.at_first {h : Heap} (e : h.get? it = some k.obj) : k.at h it 0 := by
  cases k with
  | l a => exact ⟨_, e, rfl, rfl⟩
  | t a => exact ⟨_, e, rfl, rfl⟩
  | s x tk => exact ⟨_, e, rfl, rfl⟩
theorem SK.begins (I : L2.Inv X pins σ H s) (h : k.has X.K H xs) : ∃ Hh, Begins k.val k.obj Hh ∧ Hh s.heap := by
  cases k with
  | l a => obtain ⟨its, r, p, _⟩ := I.list h; exact ⟨_, begins_list a its.toArray, p.isList⟩
  | t a => obtain ⟨its, r, p, _⟩ := I.tuple h; exact ⟨_, begins_tuple a its.toArray, p⟩
  | s x tk => exact ⟨_, begins_text x tk, trivial⟩
/-- what stands tracked or written is no untracked record of the loop's -/
theorem fp_ne {a c : Addr} {o : Obj} (I : L2.Inv X pins σ H s) (f : FpOk X pins H c) (h : (∃ u, H a = some u) ∨ X.K.lookup a = some o) : a ≠ c := by
  rintro rfl
  obtain ⟨f0, f1, f2, f3, _⟩ := f
  rcases h with ⟨u, h⟩ | h
  · rw [f0] at h; cases h
  · have hb := I.mod.kin a o h
    rcases f3 with f3 | f3
    · exact I.ok.noex a o hb f3
    · exact absurd (Nat.lt_of_lt_of_le (Heap.lt_size hb) (Nat.le_trans I.ok.bsz f3)) (Nat.lt_irrefl _)
theorem SK.draws {A : Around} (hh : A.handled = none) (I : L2.Inv X pins σ H s) (f : FpOk X pins H it) (h : k.has X.K H xs) (hit : k.at s.heap it i) : ∃ (fp : List Addr) (P : Nat → Value → Prop) (Sx : Nat → Heap → Prop),
    Draws X.prog X.w A it fp xs.length P Sx ∧ (∀ j, k.at s.heap it j → Sx j s.heap) ∧ (∀ j h, Sx j h → k.at h it j) ∧ (∀ j v, P j v → ∃ x, xs[j]? = some x ∧ RelV x v) ∧ it ∈ fp ∧ ∀ b ∈ fp, ∀ c, FpOk X pins H c → c ≠ it → b ≠ c := by
  cases k with
  | l a =>
    obtain ⟨its, r, p, _⟩ := I.list h
    have ne : ∀ c, FpOk X pins H c → a ≠ c := fun c fc => by
      rcases (show SqL X.K H a xs from h) with (z | ⟨o, z⟩) | ⟨o, _, _, z, _⟩
      · exact fp_ne (o := .mk .none none (.fields #[]) #[]) I fc (.inl ⟨_, z⟩)
      · exact fp_ne (o := .mk .none none (.fields #[]) #[]) I fc (.inl ⟨_, z⟩)
      · exact fp_ne I fc (.inr z)
    refine ⟨[it, a], fun i v => its.toArray[i]? = some v, fun i h => h.IsListIter it a i ∧ h.IsList a its.toArray, by rw [r.length]; have z := Draws.list (prog := X.prog) (w := X.w) hh it a (ne it f) its.toArray; rw [List.size_toArray] at z; exact z, fun j hj => ⟨hj, p.isList⟩, fun j h x => x.1, fun j v hv => ?_, by simp, fun b hb c fc nc => ?_⟩
    · have hv : its[j]? = some v := by simpa using hv
      have hjx : j < xs.length := by rw [r.length]; exact (List.getElem?_eq_some_iff.mp hv).1
      obtain ⟨u, h1, h2⟩ := r.get (List.getElem?_eq_getElem hjx)
      rw [hv] at h1; cases h1
      exact ⟨_, List.getElem?_eq_getElem hjx, h2⟩
    · have hb' : b = it ∨ b = a := by simpa using hb
      rcases hb' with z | z
      · rw [z]; exact nc.symm
      · rw [z]; exact ne c fc
  | t a =>
    obtain ⟨its, r, p, _⟩ := I.tuple h
    have ne : ∀ c, FpOk X pins H c → a ≠ c := fun c fc => by
      rcases (show SqT X.K H a xs from h) with (z | ⟨o, z⟩) | ⟨o, _, _, z, _⟩
      · exact fp_ne (o := .mk .none none (.fields #[]) #[]) I fc (.inl ⟨_, z⟩)
      · exact fp_ne (o := .mk .none none (.fields #[]) #[]) I fc (.inl ⟨_, z⟩)
      · exact fp_ne I fc (.inr z)
    refine ⟨[it, a], fun i v => its.toArray[i]? = some v, fun i h => h.IsTupleIter it a i ∧ h.IsTuple a its.toArray, by rw [r.length]; have z := Draws.tuple (prog := X.prog) (w := X.w) hh it a (ne it f) its.toArray; rw [List.size_toArray] at z; exact z, fun j hj => ⟨hj, p⟩, fun j h x => x.1, fun j v hv => ?_, by simp, fun b hb c fc nc => ?_⟩
    · have hv : its[j]? = some v := by simpa using hv
      have hjx : j < xs.length := by rw [r.length]; exact (List.getElem?_eq_some_iff.mp hv).1
      obtain ⟨u, h1, h2⟩ := r.get (List.getElem?_eq_getElem hjx)
      rw [hv] at h1; cases h1
      exact ⟨_, List.getElem?_eq_getElem hjx, h2⟩
    · have hb' : b = it ∨ b = a := by simpa using hb
      rcases hb' with z | z
      · rw [z]; exact nc.symm
      · rw [z]; exact ne c fc
  | s x tk =>
    have ex : xs = signs x := h
    subst ex
    refine ⟨[it], fun i v => ∃ c u, x.cps[i]? = some c ∧ v = .str ⟨#[c]⟩ u, fun i h => h.IsStrIter it (strIterType x) x tk i, by have z := Draws.text (prog := X.prog) (w := X.w) hh it x tk; unfold signs; rw [List.length_map, Array.length_toList]; exact z, fun j hj => hj, fun j h x => x, fun j v ⟨c, u, h1, h2⟩ => ?_, by simp, fun b hb c fc nc => ?_⟩
    · refine ⟨.str ⟨#[c]⟩, ?_, u, h2⟩
      unfold signs
      rw [List.getElem?_map, Array.getElem?_toList, h1]; rfl
    · have hb' : b = it := by simpa using hb
      rw [hb']; exact nc.symm

/-! ### enumerate -/
def IteX (K : PySem.W.Frag) (k : SK) : It :=
  ⟨fun i H => ∃ (xs : List V) (x : V), k.has K H xs ∧ xs[i]? = some x, fun i H v H' => ∃ T x, v = .ref T ∧ H T = none ∧ H' = upd H T (.tup [.int (i : Nat), x]) ∧ ∀ xs, k.has K H xs → xs[i]? = some x, fun i H => ∃ xs : List V, k.has K H xs ∧ xs.length = i⟩
theorem turn_enumX {P : Program} {w : World} {K : PySem.W.Frag} {elts : List Expr} {kk : Nat} {tpos : Pos} (k : SK) (e it : Addr) :
    Turn P w K (.Tuple elts kk tpos) (IteX K k) [e, it] e (fun i h => (∃ old, IsEnum h e it ((i : Nat) : Int) old) ∧ k.at h it i ∧ e ≠ it) where
  mem := by simp
  obj := fun i h st b hb => by
    obtain ⟨⟨old, he⟩, hi, _⟩ := st
    have e' : b = e ∨ b = it := by simpa using hb
    rcases e' with z | z
    · rw [z]; exact ⟨_, he, fun v q => nomatch q⟩
    · rw [z]; exact SK.at_obj hi
  keep := fun i h h' st kp => let ⟨⟨old, he⟩, hi, hne⟩ := st; ⟨⟨old, kp e (by simp) _ he⟩, SK.at_keep hi fun o q => kp it (by simp) o q, hne⟩
  item := by
    intro X hP hw hK hc i pins s σ H E I hf st hg
    subst hP hw hK
    obtain ⟨⟨old, he⟩, hit, hne⟩ := st
    obtain ⟨xs, x, hq, hx⟩ := hg
    obtain ⟨fp, Pp, Sx, D, d1, d2, d3, d4, d5⟩ := SK.draws (A := X.A.in1) (I.ok.hd hc) I (hf it (by simp)) hq hit
    have hel : e < s.heap.objs.size := Heap.lt_size he
    have hil : it < s.heap.objs.size := by obtain ⟨_, q, _⟩ := SK.at_obj hit; exact Heap.lt_size q
    have hef : e ∉ fp := fun z => d5 e z e (hf e (by simp)) hne rfl
    refine wpAny_pyNext_enum_itemC D he (d1 i hit) ((List.getElem?_eq_some_iff.mp hx).1) hne hef fun u h' tk hPu ho hS hT hsz hk => ?_
    obtain ⟨x', hx', ru⟩ := d3 i u hPu
    have ex : x' = x := Option.some.inj (hx'.symm.trans hx)
    subst ex
    refine ⟨_, rfl, wpAny_letOwnedTupleGo_enum (s := { s with heap := h', toks := tk + 1 }) ho fun h'' he' sb => ?_⟩
    have hT2 : h''.get? s.heap.objs.size = some { cls := .type "tuple", data := .seq #[.int (i : Int) tk, u] } := (sb.2 _ (Nat.ne_of_gt hel)).trans hT
    have new : ObjOk X.prog X.w (upd H s.heap.objs.size (.tup [.int (i : Nat), x'])) h'' s.heap.objs.size (.tup [.int (i : Nat), x']) :=
      ⟨by show 2 ≤ sizeLine; decide, [.int i tk, u], .cons ⟨_, rfl⟩ (.cons ru .nil), ⟨_, hT2, rfl, _, rfl⟩⟩
    have I1 : L2.Inv X pins σ (upd H s.heap.objs.size (.tup [.int (i : Nat), x'])) { s with heap := h'', toks := tk + 1 } :=
      I.turnedNew (ch := [e, it]) (fun b ob hb q => (sb.2 b (fun z => hb (by simp [z]))).trans (hk b ob (fun z => hb (by simp [z])) (fun z => hb (by simp [z])) q)) hf (Nat.le_refl _) new
    refine ⟨.ref s.heap.objs.size, _, I1, rfl, ⟨_, x', rfl, I.hok.fresh (Nat.le_refl _), rfl, fun zs hz => by rw [SK.inj I hz hq]; exact hx⟩, ⟨⟨u, ?_⟩, SK.at_keep (d2 _ _ hS) fun o q => (sb.2 it (Ne.symm hne)).trans q, hne⟩, fun b hb => ?_⟩
    · have e1 : ((i + 1 : Nat) : Int) = (i : Int) + 1 := by omega
      rw [e1]; exact he'
    · have hb' : b < s.heap.objs.size := by
        have e' : b = e ∨ b = it := by simpa using hb
        rcases e' with z | z
        · rw [z]; exact hel
        · rw [z]; exact hil
      rw [upd_ne (Nat.ne_of_lt hb')]
      exact (hf b hb).1
  done := by
    intro X hP hw hK hc i pins s σ H E I hf st hg
    subst hP hw hK
    obtain ⟨⟨old, he⟩, hit, hne⟩ := st
    obtain ⟨xs, hq, hx⟩ := hg
    obtain ⟨fp, Pp, Sx, D, d1, d2, d3, d4, d5⟩ := SK.draws (A := X.A.in1) (I.ok.hd hc) I (hf it (by simp)) hq hit
    obtain ⟨f0, f1, f2, f3, f4, f5⟩ := hf it (by simp)
    subst hx
    exact wpAny_pyNext_enum_endD D he (d1 _ hit) fun h' eb => ⟨rfl, I.turned (t' := s.toks) (fun b o hb q => eb b o hb q) f0 f1 f3 f4 f5⟩
  self := fun A i s Q E st h => let ⟨⟨_, he⟩, _⟩ := st; wpAny_pyIter_enum he h
theorem walk_enumX {K : PySem.W.Frag} : Walk (IteX K k) xs.length (fun H => k.has K H xs) (YPair (fun i => some (.int (i : Nat))) (fun i => xs[i]?)) := by
  refine ⟨fun i _ hi q => ⟨xs, xs[i], q, by simp [hi]⟩, fun _ q => ⟨xs, q, rfl⟩, fun i H v H' _ q y => ?_⟩
  obtain ⟨T, x, h1, h2, h3, h4⟩ := y
  exact ⟨T, .int (i : Nat), x, h1, h2, h3, rfl, h4 xs q⟩
/-- the value is drawn as k -/
def SK.rel (v : V) (k : SK) : Prop := match k with
  | .l a => v = .ref a
  | .t a => v = .ref a
  | .s x tk => v = .str x
/-- the same thing, but for a text's token -/
inductive SK.sim : SK → SK → Prop
  | l {a} : SK.sim (.l a) (.l a)
  | t {a} : SK.sim (.t a) (.t a)
  | s {x t u} : SK.sim (.s x t) (.s x u)
theorem SK.sim.has {k k' : SK} {K : PySem.W.Frag} {H : Hp} {xs : List V} (m : SK.sim k k') (h : k.has K H xs) : k'.has K H xs := by
  cases m <;> exact h
theorem SK.pick {v : V} {u : Value} {K : PySem.W.Frag} (rel : SK.rel v k) (r : RelV v u) (hq : k.has K H xs) : ∃ k' : SK, SK.sim k k' ∧ k'.has K H xs ∧ u = k'.val := by
  cases k with
  | l a => cases (show v = .ref a from rel); cases r; exact ⟨.l a, .l, hq, rfl⟩
  | t a => cases (show v = .ref a from rel); cases r; exact ⟨.t a, .t, hq, rfl⟩
  | s x tk => cases (show v = .str x from rel); obtain ⟨t, rfl⟩ := r; exact ⟨.s x t, .s, hq, rfl⟩
def iEnumX (K : PySem.W.Frag) (ta : TA) : TI := fun σ H R => ta σ H fun vs H1 => ∃ v, vs = [v] ∧ (∃ k xs, SK.rel v k ∧ k.has K H1 xs ∧ ∀ k', SK.sim k k' → R (IteX K k') H1)
theorem pi_enumX {X : Cx} {e : Expr} {ta : TA} {p pos tpos : Pos} {elts : List Expr} {kk : Nat} (hg : Gl X "enumerate") (hm : X.mg "enumerate" = none) (ha : PA X [e] ta) (hs : starEach [e] X.env = [(false, eval e X.env)] := by rfl) :
    PI X (.Tuple elts kk tpos) (.Call (.Name "enumerate" p) [e] [] pos) (iEnumX X.K ta) := by
  refine ⟨fun pins s σ H R I h => ?_⟩
  refine PyProof.Rows.Call_ (ld_blt I hg hm PyProof.Rows.boot_enumerate (PyProof.Rows.callWith_type1 (thn (ha.run pos pins s σ H _ I h) fun us s1 ⟨vs, H1, I1, r1, q1⟩ => ?_) hs rfl))
  obtain ⟨v, ex, k, xs, rel, hq, q⟩ := q1
  subst ex
  cases r1 with
  | cons r rr =>
    cases rr
    obtain ⟨k', rel', hq', rfl⟩ := SK.pick rel r hq
    obtain ⟨Hh, B, hB⟩ := SK.begins I1 hq'
    refine call_enum1 B hB fun h' he hit hsz hk => wpAny_pyIter_enum he ?_
    have I2 : L2.Inv X pins σ H1 { s1 with heap := h' } := I1.kept (t' := s1.toks) hk
    refine ⟨s1.heap.objs.size + 1, [s1.heap.objs.size + 1, s1.heap.objs.size], _, _, H1, rfl, I2, turn_enumX k' (s1.heap.objs.size + 1) s1.heap.objs.size, ⟨⟨.none, he⟩, SK.at_first hit, Nat.succ_ne_self _⟩, fun b hb => ?_, q k' rel'⟩
    have hle : s1.heap.objs.size ≤ b := by
      have e' : b = s1.heap.objs.size + 1 ∨ b = s1.heap.objs.size := by simpa using hb
      rcases e' with z | z
      · rw [z]; exact Nat.le_add_right _ _
      · rw [z]; exact Nat.le_refl _
    exact I1.fpOk hle (I1.hok.fresh hle)

/-! ### zip -/
def ItzX (K : PySem.W.Frag) (k1 k2 : SK) : It :=
  ⟨fun i H => ∃ (xs ys : List V) (x y : V), k1.has K H xs ∧ k2.has K H ys ∧ xs[i]? = some x ∧ ys[i]? = some y,
    fun i H v H' => ∃ T x y, v = .ref T ∧ H T = none ∧ H' = upd H T (.tup [x, y]) ∧ (∀ xs, k1.has K H xs → xs[i]? = some x) ∧ ∀ ys, k2.has K H ys → ys[i]? = some y,
    fun i H => ∃ xs ys : List V, k1.has K H xs ∧ k2.has K H ys ∧ i = min xs.length ys.length⟩
structure ZAp (z TI TO i1 i2 : Addr) : Prop where
  TIz : TI ≠ z
  TOz : TO ≠ z
  TITO : TI ≠ TO
  TIi1 : TI ≠ i1
  TIi2 : TI ≠ i2
  zi1 : z ≠ i1
  zi2 : z ≠ i2
  Ti1 : TO ≠ i1
  Ti2 : TO ≠ i2
  ii : i1 ≠ i2
theorem turn_zipX {P : Program} {w : World} {K : PySem.W.Frag} {elts : List Expr} {kk : Nat} {tpos : Pos} {k1 k2 : SK} {z TI TO i1 i2 : Addr} (D : ZAp z TI TO i1 i2) :
    Turn P w K (.Tuple elts kk tpos) (ItzX K k1 k2) [z, TI, TO, i1, i2] z (fun i h => IsZip h z TI TO .none ∧ IsTupOf2 h TI (.ref i1) (.ref i2) ∧ (∃ x y, IsTupOf2 h TO x y) ∧ k1.at h i1 i ∧ k2.at h i2 i) where
  mem := by simp
  obj := fun i h st c hc => by
    obtain ⟨hz, hTI, ⟨x, y, hTO⟩, h1, h2⟩ := st
    have e' : c = z ∨ c = TI ∨ c = TO ∨ c = i1 ∨ c = i2 := by simpa using hc
    rcases e' with q | q | q | q | q
    · rw [q]; exact ⟨_, hz, fun v q => nomatch q⟩
    · rw [q]; exact ⟨_, hTI, fun v q => nomatch q⟩
    · rw [q]; exact ⟨_, hTO, fun v q => nomatch q⟩
    · rw [q]; exact SK.at_obj h1
    · rw [q]; exact SK.at_obj h2
  keep := fun i h h' st kp => by
    obtain ⟨hz, hTI, ⟨x, y, hTO⟩, h1, h2⟩ := st
    exact ⟨kp z (by simp) _ hz, kp TI (by simp) _ hTI, ⟨x, y, kp TO (by simp) _ hTO⟩, SK.at_keep h1 fun o q => kp i1 (by simp) o q, SK.at_keep h2 fun o q => kp i2 (by simp) o q⟩
  item := by
    intro X hP hw hK hc i pins s σ H E I hf st hg
    subst hP hw hK
    obtain ⟨hz, hTI, ⟨x0, y0, hTO⟩, h1, h2⟩ := st
    obtain ⟨xs, ys, x, y, hqx, hqy, hx, hy⟩ := hg
    obtain ⟨fp1, P1, S1, D1, a1, a2, a3, a4, a5⟩ := SK.draws (A := X.A.in1) (I.ok.hd hc) I (hf i1 (by simp)) hqx h1
    obtain ⟨fp2, P2, S2, D2, b1, b2, b3, b4, b5⟩ := SK.draws (A := X.A.in1) (I.ok.hd hc) I (hf i2 (by simp)) hqy h2
    have hzl : z < s.heap.objs.size := Heap.lt_size hz
    have sep : ZipSep2 z TI TO i1 i2 fp1 fp2 := ⟨D.TIz, D.TOz, D.TITO, D.TIi1, a4, fun q => a5 z q z (hf z (by simp)) D.zi1 rfl, fun q => a5 TO q TO (hf TO (by simp)) D.Ti1 rfl, D.TIi2, b4,
      fun q => b5 z q z (hf z (by simp)) D.zi2 rfl, fun q => b5 TO q TO (hf TO (by simp)) D.Ti2 rfl, fun q => b5 i1 q i1 (hf i1 (by simp)) D.ii rfl, fun q => a5 i2 q i2 (hf i2 (by simp)) D.ii.symm rfl⟩
    refine wpAny_pyNext_zipD2_item sep D1 D2 hz hTI hTO (a1 i h1) (b1 i h2) (List.getElem?_eq_some_iff.mp hx).1 (List.getElem?_eq_some_iff.mp hy).1 fun u u2 h' tk hPu hPu2 z' TO' h1' h2' hT hsz hk => ?_
    obtain ⟨x', hx', ru⟩ := a3 i u hPu
    obtain ⟨y', hy', ru2⟩ := b3 i u2 hPu2
    have ex : x' = x := Option.some.inj (hx'.symm.trans hx)
    have ey : y' = y := Option.some.inj (hy'.symm.trans hy)
    subst ex ey
    refine ⟨_, rfl, wpAny_letOwnedTupleGo_zip (s := { s with heap := h', toks := tk }) z' fun h'' z'' sb => ?_⟩
    have hT2 : h''.get? s.heap.objs.size = some { cls := .type "tuple", data := .seq #[u, u2] } := (sb.2 _ (Nat.ne_of_gt hzl)).trans hT
    have new : ObjOk X.prog X.w (upd H s.heap.objs.size (.tup [x', y'])) h'' s.heap.objs.size (.tup [x', y']) :=
      ⟨by show 2 ≤ sizeLine; decide, [u, u2], .cons ru (.cons ru2 .nil), ⟨_, hT2, rfl, _, rfl⟩⟩
    have I1 : L2.Inv X pins σ (upd H s.heap.objs.size (.tup [x', y'])) { s with heap := h'', toks := tk } :=
      I.turnedNew (t' := tk) (ch := [z, TI, TO, i1, i2]) (fun c o hb q => (sb.2 c (fun q' => hb (by simp [q']))).trans (hk c o (fun q' => hb (by simp [q'])) (fun q' => hb (by simp [q'])) (fun q' => hb (by simp [q'])) (fun q' => hb (by simp [q'])) q)) hf (Nat.le_refl _) new
    refine ⟨.ref s.heap.objs.size, _, I1, rfl, ⟨_, x', y', rfl, I.hok.fresh (Nat.le_refl _), rfl, fun l hl => by rw [SK.inj I hl hqx]; exact hx, fun l hl => by rw [SK.inj I hl hqy]; exact hy⟩, ⟨z'', ?_, ⟨u, u2, ?_⟩, ?_, ?_⟩, fun c hcm => ?_⟩
    · exact (sb.2 _ D.TIz).trans (hk _ _ D.TIz D.TITO D.TIi1 D.TIi2 hTI)
    · exact (sb.2 _ D.TOz).trans TO'
    · exact SK.at_keep (a2 _ _ h1') fun o q => (sb.2 _ D.zi1.symm).trans q
    · exact SK.at_keep (b2 _ _ h2') fun o q => (sb.2 _ D.zi2.symm).trans q
    · have hlt : c < s.heap.objs.size := by
        have e' : c = z ∨ c = TI ∨ c = TO ∨ c = i1 ∨ c = i2 := by simpa using hcm
        rcases e' with q | q | q | q | q
        · rw [q]; exact hzl
        · rw [q]; exact Heap.lt_size hTI
        · rw [q]; exact Heap.lt_size hTO
        · rw [q]; obtain ⟨_, e1, _⟩ := SK.at_obj h1; exact Heap.lt_size e1
        · rw [q]; obtain ⟨_, e2, _⟩ := SK.at_obj h2; exact Heap.lt_size e2
      rw [upd_ne (Nat.ne_of_lt hlt)]
      exact (hf c hcm).1
  done := by
    intro X hP hw hK hc i pins s σ H E I hf st hg
    subst hP hw hK
    obtain ⟨hz, hTI, ⟨x0, y0, hTO⟩, h1, h2⟩ := st
    obtain ⟨xs, ys, hqx, hqy, hend⟩ := hg
    obtain ⟨fp1, P1, S1, D1, a1, a2, a3, a4, a5⟩ := SK.draws (A := X.A.in1) (I.ok.hd hc) I (hf i1 (by simp)) hqx h1
    obtain ⟨fp2, P2, S2, D2, b1, b2, b3, b4, b5⟩ := SK.draws (A := X.A.in1) (I.ok.hd hc) I (hf i2 (by simp)) hqy h2
    have sep : ZipSep2 z TI TO i1 i2 fp1 fp2 := ⟨D.TIz, D.TOz, D.TITO, D.TIi1, a4, fun q => a5 z q z (hf z (by simp)) D.zi1 rfl, fun q => a5 TO q TO (hf TO (by simp)) D.Ti1 rfl, D.TIi2, b4,
      fun q => b5 z q z (hf z (by simp)) D.zi2 rfl, fun q => b5 TO q TO (hf TO (by simp)) D.Ti2 rfl, fun q => b5 i1 q i1 (hf i1 (by simp)) D.ii rfl, fun q => a5 i2 q i2 (hf i2 (by simp)) D.ii.symm rfl⟩
    exact wpAny_pyNext_zipD2_end sep D1 D2 hz hTI hTO (a1 _ h1) (b1 _ h2) (by omega) (by omega) (by omega) fun h' tk hk => ⟨rfl, I.turnedL (t' := tk) (ch := [z, TI, TO, i1, i2]) (fun c o hb q =>
      hk c o (fun q' => hb (by simp [q'])) (fun q' => hb (by simp [q'])) (fun q' => hb (by simp [q'])) (fun q' => hb (by simp [q'])) q) hf⟩
  self := fun A i s Q E st h => wpAny_pyIter_zip st.1 h
theorem walk_zipX {K : PySem.W.Frag} {k1 k2 : SK} : Walk (ItzX K k1 k2) (min xs.length ys.length) (fun H => k1.has K H xs ∧ k2.has K H ys) (YPair (fun i => xs[i]?) (fun i => ys[i]?)) := by
  refine ⟨fun i _ hi q => ?_, fun _ q => ⟨xs, ys, q.1, q.2, rfl⟩, fun i H v H' _ q y => ?_⟩
  · have h1 : i < xs.length := by omega
    have h2 : i < ys.length := by omega
    exact ⟨xs, ys, xs[i], ys[i], q.1, q.2, by simp [h1], by simp [h2]⟩
  · obtain ⟨T, x, z, h1, h2, h3, h4, h5⟩ := y
    exact ⟨T, x, z, h1, h2, h3, h4 xs q.1, h5 ys q.2⟩
def iZipX (K : PySem.W.Frag) (ta : TA) : TI := fun σ H R => ta σ H fun vs H1 => ∃ v1 v2, vs = [v1, v2] ∧ (∃ k1 k2 xs ys, SK.rel v1 k1 ∧ SK.rel v2 k2 ∧ k1.has K H1 xs ∧ k2.has K H1 ys ∧ ∀ j1 j2, SK.sim k1 j1 → SK.sim k2 j2 → R (ItzX K j1 j2) H1)
theorem pi_zipX {X : Cx} {e e2 : Expr} {ta : TA} {p pos tpos : Pos} {elts : List Expr} {kk : Nat} (hg : Gl X "zip") (hm : X.mg "zip" = none) (ha : PA X [e, e2] ta)
    (hs : starEach [e, e2] X.env = (false, eval e X.env) :: starEach [e2] X.env := by rfl) (hpl : (backTo pos (starEach [e2] X.env)).any (·.1) = false := by rfl) :
    PI X (.Tuple elts kk tpos) (.Call (.Name "zip" p) [e, e2] [] pos) (iZipX X.K ta) := by
  refine ⟨fun pins s σ H R I h => ?_⟩
  refine PyProof.Rows.Call_ (ld_blt I hg hm PyProof.Rows.boot_zip (PyProof.Rows.callWith_type1 (thn (ha.run pos pins s σ H _ I h) fun us s1 ⟨vs, H1, I1, r1, q1⟩ => ?_) hs hpl))
  obtain ⟨v1, v2, ex, k1, k2, xs, ys, rel1, rel2, hq1, hq2, q⟩ := q1
  subst ex
  cases r1 with
  | cons r rr =>
    cases rr with
    | cons r' rr =>
      cases rr
      obtain ⟨j1, rel1', hj1, rfl⟩ := SK.pick rel1 r hq1
      obtain ⟨j2, rel2', hj2, rfl⟩ := SK.pick rel2 r' hq2
      obtain ⟨Hh1, B1, hB1⟩ := SK.begins I1 hj1
      obtain ⟨Hh2, B2, hB2⟩ := SK.begins I1 hj2
      refine zip_begins2 B1 B2 hB1 hB2 fun h' hz hTI hTO h1 h2 hsz hk => wpAny_pyIter_zip hz ?_
      have I2 : L2.Inv X pins σ H1 { s1 with heap := h' } := I1.kept (t' := s1.toks) hk
      refine ⟨s1.heap.objs.size + 4, [s1.heap.objs.size + 4, s1.heap.objs.size + 2, s1.heap.objs.size + 3, s1.heap.objs.size, s1.heap.objs.size + 1], _, _, H1, rfl, I2, turn_zipX ?_, ⟨hz, hTI, ⟨_, _, hTO⟩, SK.at_first h1, SK.at_first h2⟩, fun c hcm => ?_, q j1 j2 rel1' rel2'⟩
      · have a : ∀ {i j : Nat}, i ≠ j → (s1.heap.objs.size + i : Nat) ≠ s1.heap.objs.size + j := fun {i j} h => by omega
        exact ⟨a (i := 2) (j := 4) (by decide), a (i := 3) (j := 4) (by decide), a (i := 2) (j := 3) (by decide), a (i := 2) (j := 0) (by decide), a (i := 2) (j := 1) (by decide), a (i := 4) (j := 0) (by decide), a (i := 4) (j := 1) (by decide), a (i := 3) (j := 0) (by decide), a (i := 3) (j := 1) (by decide), a (i := 0) (j := 1) (by decide)⟩
      · have hle : s1.heap.objs.size ≤ c := by
          have e' : c = s1.heap.objs.size + 4 ∨ c = s1.heap.objs.size + 2 ∨ c = s1.heap.objs.size + 3 ∨ c = s1.heap.objs.size ∨ c = s1.heap.objs.size + 1 := by simpa using hcm
          rcases e' with z | z | z | z | z
          · rw [z]; exact Nat.le_add_right _ _
          · rw [z]; exact Nat.le_add_right _ _
          · rw [z]; exact Nat.le_add_right _ _
          · rw [z]; exact Nat.le_refl _
          · rw [z]; exact Nat.le_add_right _ _
        exact I1.fpOk hle (I1.hok.fresh hle)
end
end VL

/-! VL part k: what is walked; the primitive operations on numbers, texts, lists, tuples. -/
namespace VL
open PySem L2 PySem.Spec PyProof

/-! ### what is walked -/
def signD (s : Str) : List D := s.cps.toList.map fun c => D.str ⟨#[c]⟩
def itemsD : D → Option (List D)
  | .lst ds => some ds
  | .tup ds => some ds
  | .str s => some (signD s)
  | .scr ns => some (ns.map D.int)
  | _ => none
def seqM (m : M RV) : M (List D) := fzM m >>= fun d => M.lift (itemsD d)
def srcF (f : List D → Option (List D)) (ms : List (M RV)) : M (List D) := argsM ms >>= fun os => frzs os >>= fun ds => M.lift (f ds)
def rngD (a b : Int) : List D := (List.range (b - a).toNat).map fun (i : Nat) => D.int (a + (i : Int))
def lim62 (i : Int) : Bool := decide (-(2 ^ 62) ≤ i ∧ i < 2 ^ 62)
def range1D : List D → Option (List D)
  | [.int n] => if lim62 n then some (rngD 0 n) else none
  | _ => none
def range2D : List D → Option (List D)
  | [.int a, .int b] => if lim62 a && lim62 b then some (rngD a b) else none
  | _ => none
def enumL : Nat → List D → List D
  | _, [] => []
  | n, d :: ds => .tup [.int (n : Int), d] :: enumL (n + 1) ds
def enumD : List D → Option (List D)
  | [d] => (itemsD d).map (enumL 0)
  | _ => none
def zipL : List D → List D → List D
  | a :: as, b :: bs => .tup [a, b] :: zipL as bs
  | _, _ => []
def zipD : List D → Option (List D)
  | [a, b] => match itemsD a, itemsD b with
    | some xs, some ys => some (zipL xs ys)
    | _, _ => none
  | _ => none
theorem enumL_len : ∀ {ds : List D} {n : Nat}, (enumL n ds).length = ds.length
  | [], _ => rfl
  | d :: ds, n => by show (enumL (n + 1) ds).length + 1 = _; rw [enumL_len]; rfl
theorem enumL_at : ∀ {ds : List D} {n i : Nat} {d : D}, ds[i]? = some d → (enumL n ds)[i]? = some (.tup [.int ((n + i : Nat) : Int), d])
  | [], _, _, _, h => by simp at h
  | d0 :: ds, n, i, d, h => by
    cases i with
    | zero => simp at h; subst h; rfl
    | succ i =>
      have := enumL_at (ds := ds) (n := n + 1) (i := i) (d := d) (by simpa using h)
      show (enumL (n + 1) ds)[i]? = _
      rw [this]
      have e : n + 1 + i = n + (i + 1) := by omega
      rw [e]
theorem zipL_len : ∀ {as bs : List D}, (zipL as bs).length = min as.length bs.length
  | [], bs => by cases bs <;> simp [zipL]
  | a :: as, [] => by simp [zipL]
  | a :: as, b :: bs => by show (zipL as bs).length + 1 = _; rw [zipL_len]; simp only [List.length_cons]; omega
theorem zipL_at : ∀ {as bs : List D} {i : Nat} {a b : D}, as[i]? = some a → bs[i]? = some b → (zipL as bs)[i]? = some (.tup [a, b])
  | [], _, _, _, _, h, _ => by simp at h
  | _ :: _, [], _, _, _, _, h => by simp at h
  | a0 :: as, b0 :: bs, i, a, b, h1, h2 => by
    cases i with
    | zero => simp at h1 h2; subst h1 h2; rfl
    | succ i => exact zipL_at (as := as) (bs := bs) (i := i) (by simpa using h1) (by simpa using h2)
section
variable {C : Cfg} {S : Hp} {J : It} {ds : List D} {xs : List V}
theorem WalkD.at {G : Hp → Prop} (w : Walk J xs.length G (YAt xs)) (hG : ∀ H, Same S H → G H) (r : Reps C.K S xs ds) : WalkD C S J ds := by
  refine ⟨G, _, by rw [← r.len]; exact w, hG, fun i H x H' S1 a b hi y => ?_⟩
  obtain ⟨rfl, hx⟩ := y
  obtain ⟨d, hd, rd⟩ := r.at' hx
  exact ⟨S1, d, Same.refl _, Same.refl _, b, fun p h h' => absurd h h', hd, rd.mono a⟩
theorem WalkD.fn {G : Hp → Prop} {f : Nat → V} (w : Walk J ds.length G (YFn f)) (hG : ∀ H, Same S H → G H) (r : ∀ i, i < ds.length → ∃ d, ds[i]? = some d ∧ ∀ S, Rep C.K S (f i) d) : WalkD C S J ds := by
  refine ⟨G, _, w, hG, fun i H x H' S1 a b hi y => ?_⟩
  obtain ⟨rfl, rfl⟩ := y
  obtain ⟨d, hd, rd⟩ := r i hi
  exact ⟨S1, d, Same.refl _, Same.refl _, b, fun p h h' => absurd h h', hd, rd _⟩
theorem WalkD.pair {G : Hp → Prop} {f g : Nat → Option V} (w : Walk J ds.length G (YPair f g)) (hG : ∀ H, Same S H → G H)
    (r : ∀ i x y, i < ds.length → f i = some x → g i = some y → ∃ d e, ds[i]? = some (.tup [d, e]) ∧ Rep C.K S x d ∧ Rep C.K S y e) : WalkD C S J ds := by
  refine ⟨G, _, w, hG, fun i H x H' S1 a b hi y => ?_⟩
  obtain ⟨T, u, v, rfl, nT, rfl, h1, h2⟩ := y
  obtain ⟨d, e, hd, r1, r2⟩ := r i u v hi h1 h2
  have n1 : S1 T = none := b.free nT
  refine ⟨upd S1 T (.tup [u, v]), _, upd_Same n1, upd_Same nT, fun q o h => ?_, fun q h h' => ?_, hd, .tup (SqT.of upd_same) (.cons (r1.mono (a.trans (upd_Same n1))) (.cons (r2.mono (a.trans (upd_Same n1))) .nil))⟩
  · by_cases z : q = T
    · subst z; rw [upd_same] at h ⊢; exact h
    · rw [upd_ne z] at h ⊢; exact b q o h
  · by_cases z : q = T
    · subst z; exact nT
    · rw [upd_ne z] at h'; exact absurd h h'
theorem signs_rep (x : Str) : Reps C.K S (signs x) (signD x) := by
  unfold signs signD
  induction x.cps.toList with
  | nil => exact .nil
  | cons c l ih => exact .cons (.str _) ih
/-- how a frozen thing is drawn -/
theorem items_sk {d : D} {v : V} (r : Rep C.K S v d) (e : itemsD d = some ds) : ∃ k xs, SK.rel v k ∧ Reps C.K S xs ds ∧ ∀ H, Same S H → SK.has C.K H xs k := by
  cases r with
  | tup h1 h2 => cases e; exact ⟨.t _, _, rfl, h2, fun H st => same_t st h1⟩
  | lst h1 h2 => cases e; exact ⟨.l _, _, rfl, h2, fun H st => .inl (.inl (st _ _ h1))⟩
  | scr h1 => cases e; exact ⟨.l _, _, rfl, Reps.of_ints _, fun H st => st.seq h1⟩
  | str x => cases e; exact ⟨SK.s x 0, _, rfl, signs_rep x, fun H st => rfl⟩
  | _ => cases e
theorem tI_seq {m : M RV} {W : WX} {σ : St} {H : Hp} {R : It → Hp → Prop} (h : tI C W (seqM m) σ H R) :
    tE C W m σ H fun v H1 => ∃ S1 d ds, Same S1 H1 ∧ Rep C.K S1 v d ∧ itemsD d = some ds ∧ ∀ J, WalkD C S1 J ds → R J H1 := by
  obtain ⟨S, ρ, st, g⟩ := h
  unfold seqM fzM at g
  rw [bnd_assoc] at g
  refine ⟨S, ρ, st, Good.opd (Good.bnd SrcR.back g fun x ρ1 S1 H1 v _ e1 r1 g1 => ?_)⟩
  obtain ⟨S2, ρ2, d, e2, r2, g2⟩ := Good.frz1 SrcR.back e1.st r1 g1
  cases q : itemsD d with
  | none => rw [q] at g2; exact g2.elim
  | some ds =>
    rw [q] at g2
    have g2 : ∀ S' H' b, Stp C σ S2 ρ2 H1 S' ρ2 H' → WalkD C S' b ds → R b H' := g2
    exact ⟨S2, d, ds, e2.st.same, r2, q, fun J w => g2 S2 H1 J (Stp.refl e2.st) w⟩
theorem tI_src {ms : List (M RV)} {f : List D → Option (List D)} {W : WX} {σ : St} {H : Hp} {R : It → Hp → Prop} (h : tI C W (srcF f ms) σ H R) :
    tA C W (argsM ms) σ H fun vs H1 => ∃ S1 ds es, Same S1 H1 ∧ Reps C.K S1 vs ds ∧ f ds = some es ∧ ∀ J, WalkD C S1 J es → R J H1 := by
  obtain ⟨S, ρ, st, g⟩ := h
  refine ⟨S, ρ, st, Good.bnd SrcR.back g fun x ρ1 S1 H1 v _ e1 r1 g1 => ?_⟩
  obtain ⟨S2, ρ2, ds, e2, r2, g2⟩ := Good.frzs SrcR.back e1.st r1 g1
  cases q : f ds with
  | none => rw [q] at g2; exact g2.elim
  | some es =>
    rw [q] at g2
    have g2 : ∀ S' H' b, Stp C σ S2 ρ2 H1 S' ρ2 H' → WalkD C S' b es → R b H' := g2
    exact ⟨S2, ds, es, e2.st.same, r2, q, fun J w => g2 S2 H1 J (Stp.refl e2.st) w⟩
end
theorem PI.imp {X : Cx} {tg e : Expr} {t t' : TI} (h : PI X tg e t) (i : ∀ σ H R, t' σ H R → t σ H R) : PI X tg e t' := ⟨fun pins s σ H R I q => h.run pins s σ H R I (i σ H R q)⟩
def iSeq (K : PySem.W.Frag) (te : TE) : TI := fun σ H R => te σ H fun v H1 => (∃ a, v = .ref a ∧ (∃ xs, SqL K H1 a xs) ∧ R (Itl K a) H1) ∨ (∃ a, v = .ref a ∧ (∃ xs, SqT K H1 a xs) ∧ R (Itt K a) H1) ∨ ∃ x, v = .str x ∧ R (Its x) H1
theorem pi_seq {X : Cx} {tg l : Expr} {tl : TE} (hl : PE X l tl) : PI X tg l (iSeq X.K tl) := by
  refine ⟨fun pins s σ H R I h => ?_⟩
  refine thn (hl.run pins s σ H _ I h) fun v s1 ⟨x, H1, I1, r1, q1⟩ => ?_
  rcases q1 with ⟨a, e, ⟨xs, hq⟩, q⟩ | ⟨a, e, ⟨xs, hq⟩, q⟩ | ⟨x, ex, q⟩
  · subst e
    cases r1
    obtain ⟨its, rv, p, hz⟩ := I1.list hq
    refine wpAny_pyIter_list p.isList ?_
    refine ⟨s1.heap.objs.size, [s1.heap.objs.size], _, _, H1, rfl, I1.kept (t' := s1.toks) fun b o e => Heap.get?_push_of_some _ e, turn_list a _, ⟨_, Heap.get?_push_size _ rfl, rfl, rfl⟩, fun b hb => ?_, q⟩
    have e : b = s1.heap.objs.size := by simpa using hb
    subst e
    exact I1.fpOk (Nat.le_refl _) (I1.hok.fresh (Nat.le_refl _))
  · subst e
    cases r1
    obtain ⟨its, rv, p, hz⟩ := I1.tuple hq
    refine wpAny_pyIter_tuple (show s1.heap.IsTuple a its.toArray from p) ?_
    refine ⟨s1.heap.objs.size, [s1.heap.objs.size], _, _, H1, rfl, I1.kept (t' := s1.toks) fun b o e => Heap.get?_push_of_some _ e, turn_tuple a _, ⟨_, Heap.get?_push_size _ rfl, rfl, rfl⟩, fun b hb => ?_, q⟩
    have e : b = s1.heap.objs.size := by simpa using hb
    subst e
    exact I1.fpOk (Nat.le_refl _) (I1.hok.fresh (Nat.le_refl _))
  · subst ex
    obtain ⟨t, rfl⟩ := r1
    cases ha : x.cps.all (· < 128)
    · exact wpAny_pyIter_wide ha (pi_one (tk := s1.toks) I1 _ (turn_str _ x t "str_iterator" (.inr rfl)) ⟨_, Heap.get?_push_size _ rfl, rfl, rfl⟩ q)
    · exact wpAny_pyIter_ascii ha (pi_one (tk := s1.toks) I1 _ (turn_str _ x t "str_ascii_iterator" (.inl rfl)) ⟨_, Heap.get?_push_size _ rfl, rfl, rfl⟩ q)
section
variable {X : Cx} {C : Cfg} {W : WX} {cf : CF} {T : List (Str × Nat)} {e a b c tg : Expr} {es : List Expr} {m : M RV} {ms : List (M RV)} {pos p : Pos}
theorem signD_len {x : Str} : (signD x).length = x.cps.size := by unfold signD; rw [List.length_map, Array.length_toList]
theorem signD_at {x : Str} {i : Nat} {c : Nat} (h : x.cps[i]? = some c) : (signD x)[i]? = some (.str ⟨#[c]⟩) := by
  unfold signD; rw [List.getElem?_map, Array.getElem?_toList, h]; rfl
theorem walkD_seq {S : Hp} {v : V} {d : D} {ds : List D} (r : Rep C.K S v d) (e : itemsD d = some ds) :
    (∃ a, v = .ref a ∧ (∀ H, Same S H → ∃ xs, SqL C.K H a xs) ∧ WalkD C S (Itl C.K a) ds) ∨ (∃ a, v = .ref a ∧ (∀ H, Same S H → ∃ xs, SqT C.K H a xs) ∧ WalkD C S (Itt C.K a) ds) ∨ ∃ x, v = .str x ∧ WalkD C S (Its x) ds := by
  cases r with
  | tup h1 h2 => cases e; exact .inr (.inl ⟨_, rfl, fun H st => ⟨_, same_t st h1⟩, WalkD.at walk_tup (fun H st => same_t st h1) h2⟩)
  | lst h1 h2 => cases e; exact .inl ⟨_, rfl, fun H st => ⟨_, .inl (.inl (st _ _ h1))⟩, WalkD.at walk_list (fun H st => .inl (.inl (st _ _ h1))) h2⟩
  | scr h1 => cases e; exact .inl ⟨_, rfl, fun H st => ⟨_, st.seq h1⟩, WalkD.at walk_list (fun H st => st.seq h1) (Reps.of_ints _)⟩
  | str x =>
    cases e
    refine .inr (.inr ⟨x, rfl, fun _ => True, _, by rw [signD_len]; exact walk_str, fun _ _ => trivial, fun i H v H' S1 a b hi y => ?_⟩)
    obtain ⟨rfl, c, hc, rfl⟩ := y
    exact ⟨S1, _, Same.refl _, Same.refl _, b, fun p h h' => absurd h h', signD_at hc, .str _⟩
  | _ => cases e
theorem vi_seq (vx : Vx X C W cf T) (ha : VE X C W e m) : VI X C W tg e (seqM m) := by
  refine ⟨VL.PI.imp (pi_seq ha.pe) fun σ H R h => ?_⟩
  obtain ⟨S, ρ, st, g⟩ := tI_seq h
  refine ⟨S, ρ, st, Good.mono g fun v H1 ⟨S1, d, ds, s1, r1, q1, k⟩ => ?_⟩
  rw [vx.K]
  rcases walkD_seq r1 q1 with ⟨a, ex, h1, w⟩ | ⟨a, ex, h1, w⟩ | ⟨x, ex, w⟩
  · exact .inl ⟨a, ex, h1 _ s1, k _ w⟩
  · exact .inr (.inl ⟨a, ex, h1 _ s1, k _ w⟩)
  · exact .inr (.inr ⟨x, ex, k _ w⟩)
theorem walkD_range {S : Hp} {a b : Int} : WalkD C S (Itr a (b - a).toNat) (rngD a b) := by
  have hl : (rngD a b).length = (b - a).toNat := by unfold rngD; simp
  refine WalkD.fn (by rw [hl]; exact walk_range) (fun _ _ => trivial) fun i hi => ⟨.int (a + (i : Int)), ?_, fun S => .int _⟩
  unfold rngD
  rw [List.getElem?_map, List.getElem?_range (by omega)]; rfl
theorem lim62_ok {i : Int} (h : lim62 i = true) : -(2 ^ 62) ≤ i ∧ i < 2 ^ 62 := of_decide_eq_true h
theorem range1D_some {ds es : List D} (h : range1D ds = some es) : ∃ n, ds = [.int n] ∧ lim62 n = true ∧ es = rngD 0 n := by
  unfold range1D at h
  split at h
  · split at h
    · cases h; exact ⟨_, rfl, by assumption, rfl⟩
    · cases h
  · cases h
theorem range2D_some {ds es : List D} (h : range2D ds = some es) : ∃ a b, ds = [.int a, .int b] ∧ lim62 a = true ∧ lim62 b = true ∧ es = rngD a b := by
  unfold range2D at h
  split at h
  · split at h
    · rename_i q
      cases h
      rw [Bool.and_eq_true] at q
      exact ⟨_, _, rfl, q.1, q.2, rfl⟩
    · cases h
  · cases h
theorem enumD_some {ds es : List D} (h : enumD ds = some es) : ∃ d xs, ds = [d] ∧ itemsD d = some xs ∧ es = enumL 0 xs := by
  unfold enumD at h
  split at h
  · rename_i d
    cases q : itemsD d with
    | none => rw [q] at h; cases h
    | some xs => rw [q] at h; cases h; exact ⟨d, xs, rfl, q, rfl⟩
  · cases h
theorem zipD_some {ds es : List D} (h : zipD ds = some es) : ∃ d d' xs ys, ds = [d, d'] ∧ itemsD d = some xs ∧ itemsD d' = some ys ∧ es = zipL xs ys := by
  unfold zipD at h
  split at h
  · rename_i d d'
    cases q : itemsD d with
    | none => rw [q] at h; cases h
    | some xs =>
      cases q' : itemsD d' with
      | none => rw [q, q'] at h; cases h
      | some ys => rw [q, q'] at h; cases h; exact ⟨d, d', xs, ys, rfl, q, q', rfl⟩
  · cases h
theorem Reps.one {K : PySem.W.Frag} {S : Hp} {vs : List V} {d : D} (h : Reps K S vs [d]) : ∃ v, vs = [v] ∧ Rep K S v d := by
  cases h with | cons a r => cases r; exact ⟨_, rfl, a⟩
theorem Reps.two {K : PySem.W.Frag} {S : Hp} {vs : List V} {d e : D} (h : Reps K S vs [d, e]) : ∃ v w, vs = [v, w] ∧ Rep K S v d ∧ Rep K S w e := by
  cases h with | cons a r => cases r with | cons b r => cases r; exact ⟨_, _, rfl, a, b⟩
theorem vi_range1 (hg : Gl X "range") (hm : X.mg "range" = none) (ha : VA X C W [a] ms) (hs : starEach [a] X.env = [(false, eval a X.env)] := by rfl) : VI X C W tg (.Call (.Name "range" p) [a] [] pos) (srcF range1D ms) := by
  refine ⟨VL.PI.imp (pi_range1 hg hm ha.pa hs) fun σ H R h => ?_⟩
  obtain ⟨S, ρ, st, g⟩ := tI_src h
  refine ⟨S, ρ, st, Good.mono g fun vs H1 ⟨S1, ds, es, s1, r1, q1, k⟩ => ?_⟩
  obtain ⟨n, rfl, hl, rfl⟩ := range1D_some q1
  cases r1 with
  | cons r rr =>
    cases rr; cases r
    have z := walkD_range (C := C) (S := S1) (a := 0) (b := n)
    rw [Int.sub_zero] at z
    exact ⟨n, rfl, (lim62_ok hl).1, (lim62_ok hl).2, k _ z⟩
theorem vi_range2 (hg : Gl X "range") (hm : X.mg "range" = none) (ha : VA X C W [a, b] ms) (hs : starEach [a, b] X.env = [(false, eval a X.env), (false, eval b X.env)] := by rfl) (hs2 : starEach [b] X.env = [(false, eval b X.env)] := by rfl) :
    VI X C W tg (.Call (.Name "range" p) [a, b] [] pos) (srcF range2D ms) := by
  refine ⟨VL.PI.imp (pi_range2 hg hm ha.pa hs hs2) fun σ H R h => ?_⟩
  obtain ⟨S, ρ, st, g⟩ := tI_src h
  refine ⟨S, ρ, st, Good.mono g fun vs H1 ⟨S1, ds, es, s1, r1, q1, k⟩ => ?_⟩
  obtain ⟨i, j, rfl, h1, h2, rfl⟩ := range2D_some q1
  cases r1 with
  | cons r rr =>
    cases rr with
    | cons r' rr =>
      cases rr; cases r; cases r'
      exact ⟨i, j, rfl, ⟨(lim62_ok h1).1, (lim62_ok h1).2, (lim62_ok h2).1, (lim62_ok h2).2⟩, k _ walkD_range⟩
theorem vi_enum {elts : List Expr} {kk : Nat} {tpos : Pos} (vx : Vx X C W cf T) (hg : Gl X "enumerate") (hm : X.mg "enumerate" = none) (ha : VA X C W [e] ms) (hs : starEach [e] X.env = [(false, eval e X.env)] := by rfl) :
    VI X C W (.Tuple elts kk tpos) (.Call (.Name "enumerate" p) [e] [] pos) (srcF enumD ms) := by
  refine ⟨VL.PI.imp (pi_enumX hg hm ha.pa hs) fun σ H R h => ?_⟩
  obtain ⟨S, ρ, st, g⟩ := tI_src h
  refine ⟨S, ρ, st, Good.mono g fun vs H1 ⟨S1, ds, es, s1, r1, q1, k⟩ => ?_⟩
  obtain ⟨d, ds', rfl, q2, rfl⟩ := enumD_some q1
  obtain ⟨v, rfl, r⟩ := r1.one
  obtain ⟨kd, xs, h1, h2, h3⟩ := items_sk r q2
  rw [vx.K]
  refine ⟨v, rfl, kd, xs, h1, h3 _ s1, fun k' sm => k _ ?_⟩
  refine WalkD.pair (by rw [enumL_len, ← h2.len]; exact walk_enumX) (fun H st => sm.has (h3 H st)) fun i x y hi hx hy => ?_
  cases hx
  obtain ⟨d', hd, rd⟩ := h2.at' hy
  exact ⟨_, d', by rw [enumL_at hd, Nat.zero_add], .int _, rd⟩
theorem vi_zip {elts : List Expr} {kk : Nat} {tpos : Pos} (vx : Vx X C W cf T) (hg : Gl X "zip") (hm : X.mg "zip" = none) (ha : VA X C W [a, b] ms)
    (hs : starEach [a, b] X.env = (false, eval a X.env) :: starEach [b] X.env := by rfl) (hpl : (backTo pos (starEach [b] X.env)).any (·.1) = false := by rfl) :
    VI X C W (.Tuple elts kk tpos) (.Call (.Name "zip" p) [a, b] [] pos) (srcF zipD ms) := by
  refine ⟨VL.PI.imp (pi_zipX hg hm ha.pa hs hpl) fun σ H R h => ?_⟩
  obtain ⟨S, ρ, st, g⟩ := tI_src h
  refine ⟨S, ρ, st, Good.mono g fun vs H1 ⟨S1, ds, es, s1, r1, q1, k⟩ => ?_⟩
  obtain ⟨d, d', ds, ds', rfl, q2, q3, rfl⟩ := zipD_some q1
  obtain ⟨v, v', rfl, r, r'⟩ := r1.two
  obtain ⟨kd, xs, h1, h2, h3⟩ := items_sk r q2
  obtain ⟨kd', xs', h1', h2', h3'⟩ := items_sk r' q3
  rw [vx.K]
  refine ⟨v, v', rfl, kd, kd', xs, xs', h1, h1', h3 _ s1, h3' _ s1, fun j1 j2 sm sm' => k _ ?_⟩
  refine WalkD.pair (by rw [zipL_len, ← h2.len, ← h2'.len]; exact walk_zipX) (fun H st => And.intro (sm.has (h3 H st)) (sm'.has (h3' H st))) fun i x y hi hx hy => ?_
  obtain ⟨u, hu, ru⟩ := h2.at' hx
  obtain ⟨u', hu', ru'⟩ := h2'.at' hy
  exact ⟨u, u', zipL_at hu hu', ru, ru'⟩
end
end VL

/-! VL part l: operators on numbers, texts, lists, tuples; comparisons; items. -/
namespace VL
open PySem L2 PySem.Spec PyProof

/-- one relation or the other -/
structure O2 (X : Cx) (C : Cfg) (f : Value → Value → Sem Value) (g : D → D → Option RV) : Prop where
  ex : ∃ r, OpR X f r ∧ Prim2 C r g
theorem OpR.or {X : Cx} {f : Value → Value → Sem Value} {r r' : R2} (h : OpR X f r) (h' : OpR X f r') : OpR X f (fun x y H Q => r x y H Q ∨ r' x y H Q) := by
  intro pins s σ H x y v u Q I rx ry q
  rcases q with q | q
  · exact h pins s σ H x y v u Q I rx ry q
  · exact h' pins s σ H x y v u Q I rx ry q
theorem O2.or {X : Cx} {C : Cfg} {f : Value → Value → Sem Value} {g g' k : D → D → Option RV} (h : O2 X C f g) (h' : O2 X C f g') (e : ∀ x y rv, k x y = some rv → g x y = some rv ∨ g' x y = some rv) : O2 X C f k := by
  obtain ⟨r, h1, h2⟩ := h.ex
  obtain ⟨r', h1', h2'⟩ := h'.ex
  refine ⟨_, OpR.or h1 h1', fun S H x y dx dy rv Q st rx ry q o => ?_⟩
  rcases e dx dy rv q with q | q
  · exact .inl (h2 S H x y dx dy rv Q st rx ry q o)
  · exact .inr (h2' S H x y dx dy rv Q st rx ry q o)
def vI (i : Int) : Option RV := some (.val (.int i))
def vB (b : Bool) : Option RV := some (.val (.bl b))
theorem OutP.valI {C : Cfg} {S H : Hp} {Q : VK} {i : Int} {rv : RV} (e : vI i = some rv) (o : (∀ i, rv ≠ .bor i) → OutP C S H rv Q) (st : Same S H) : Q (.int i) H := by
  cases e
  exact (o fun _ z => by cases z).flat st (.int i)
theorem OutP.valB {C : Cfg} {S H : Hp} {Q : VK} {i : Bool} {rv : RV} (e : vB i = some rv) (o : (∀ i, rv ≠ .bor i) → OutP C S H rv Q) (st : Same S H) : Q (.bl i) H := by
  cases e
  exact (o fun _ z => by cases z).flat st (.bl i)
section
variable {X : Cx} {C : Cfg} {W : WX} {cf : CF} {T : List (Str × Nat)}

/-! ### numbers -/
def intI (g : Int → Int → Option RV) : D → D → Option RV
  | .int i, .int j => g i j
  | _, _ => none
theorem intI_some {g : Int → Int → Option RV} {x y : D} {rv : RV} (h : intI g x y = some rv) : ∃ i j, x = .int i ∧ y = .int j ∧ g i j = some rv := by
  unfold intI at h
  split at h
  · exact ⟨_, _, rfl, rfl, h⟩
  · cases h
theorem o2_I0 {f : Value → Value → Sem Value} {g : Int → Int → Int} (h : OpR X f (rI0 fun i j => .int (g i j))) : O2 X C f (intI fun i j => vI (g i j)) := by
  refine ⟨_, h, fun S H x y dx dy rv Q st rx ry e o => ?_⟩
  obtain ⟨i, j, rfl, rfl, e⟩ := intI_some e
  cases rx; cases ry
  exact ⟨i, j, rfl, rfl, OutP.valI e o st⟩
theorem o2_B0 {f : Value → Value → Sem Value} {g : Int → Int → Bool} (h : OpR X f (rI0 fun i j => .bl (g i j))) : O2 X C f (intI fun i j => vB (g i j)) := by
  refine ⟨_, h, fun S H x y dx dy rv Q st rx ry e o => ?_⟩
  obtain ⟨i, j, rfl, rfl, e⟩ := intI_some e
  cases rx; cases ry
  exact ⟨i, j, rfl, rfl, OutP.valB e o st⟩
theorem o2_I {f : Value → Value → Sem Value} {g : Int → Int → Int} {p : Int → Int → Prop} {b : Int → Int → Bool} (h : OpR X f (rI p fun i j => .int (g i j))) (hb : ∀ i j, b i j = true → p i j) : O2 X C f (intI fun i j => if b i j then vI (g i j) else none) := by
  refine ⟨_, h, fun S H x y dx dy rv Q st rx ry e o => ?_⟩
  obtain ⟨i, j, rfl, rfl, e'⟩ := intI_some e
  cases rx; cases ry
  cases hh : b i j with
  | true => rw [if_pos hh] at e'; exact ⟨i, j, rfl, rfl, hb i j hh, OutP.valI e' o st⟩
  | false => rw [hh, if_neg Bool.false_ne_true] at e'; cases e'
def subD : D → D → Option RV := intI fun i j => vI (i - j)
theorem o2_sub : O2 X C (binaryOp .Sub) subD := o2_I0 op_sub
def powOk (i j : Int) : Bool := decide (0 ≤ j ∧ j ≤ 1000000 ∧ i.natAbs < 2 ^ 64)
def powD : D → D → Option RV := intI fun i j => if powOk i j then vI (i ^ j.toNat) else none
theorem o2_pow : O2 X C (binaryOp .Pow) powD := o2_I op_pow fun i j h => of_decide_eq_true (p := 0 ≤ j ∧ j ≤ 1000000 ∧ i.natAbs < 2 ^ 64) h
def modD : D → D → Option RV := intI fun i j => if decide (j ≠ 0) then vI (i.fmod j) else none
theorem o2_mod : O2 X C (binaryOp .Mod) modD := o2_I op_modN fun _ _ h => of_decide_eq_true h
def divOk (j : Int) : Bool := decide (j ≠ 0 ∧ j.natAbs.log2 < 9000)
def divD : D → D → Option RV := intI fun i j => if divOk j then vI (i.fdiv j) else none
abbrev CDivG (_ j : Int) : Prop := j ≠ 0 ∧ j.natAbs.log2 < 9000
theorem op_fdivG : OpR X (binaryOp .FloorDiv) (rI CDivG fun i j => .int (i.fdiv j)) := opI fun i j _ _ _ _ _ hc q => PyProof.Rows.floordiv_int hc.1 q (.inl (PyProof.noPylong_of_log2 hc.2))
theorem o2_div : O2 X C (binaryOp .FloorDiv) divD := o2_I op_fdivG fun _ _ h => of_decide_eq_true h
def ltI : D → D → Option RV := intI fun i j => vB (decide (i < j))
def leI : D → D → Option RV := intI fun i j => vB (decide (i ≤ j))
def gtD : D → D → Option RV := intI fun i j => vB (decide (j < i))
def geD : D → D → Option RV := intI fun i j => vB (decide (j ≤ i))
theorem o2_gt : O2 X C (compareOp .Gt) gtD := o2_B0 op_gt
theorem o2_ge : O2 X C (compareOp .GtE) geD := o2_B0 op_ge
def negD : D → Option RV
  | .int i => vI (-i)
  | _ => none
theorem p1_neg : Prim1 C (rU fun i => .int (-i)) negD := by
  intro S H x dx rv Q st rx e o
  unfold negD at e
  split at e
  · cases rx
    exact ⟨_, rfl, OutP.valI e o st⟩
  · cases e

/-! ### adding -/
def catStr : D → D → Option RV
  | .str a, .str b => if a.length + b.length ≤ LIM then some (.val (.str (a ++ b))) else none
  | _, _ => none
theorem o2_addStr : O2 X C (binaryOp .Add) catStr := by
  refine ⟨_, op_add_str, fun S H x y dx dy rv Q st rx ry e o => ?_⟩
  unfold catStr at e
  split at e
  · split at e
    · rename_i h
      cases rx; cases ry; cases e
      rw [LIM_eq] at h
      exact ⟨_, _, rfl, rfl, h, (o fun _ z => by cases z).flat st (.str _)⟩
    · cases e
  · cases e
def catLst : D → D → Option RV
  | .lst a, .lst b => if a.length + b.length ≤ LIM then some (.own (.lst (a ++ b))) else none
  | _, _ => none
theorem o2_addLst : O2 X C (binaryOp .Add) catLst := by
  refine ⟨_, op_cat, fun S H x y dx dy rv Q st rx ry e o => ?_⟩
  unfold catLst at e
  split at e
  · split at e
    · rename_i h
      obtain ⟨a, xs, rfl, h1, h2⟩ := rx
      obtain ⟨b, ys, rfl, h3, h4⟩ := ry
      cases e
      rw [LIM_eq] at h
      exact ⟨a, b, xs, ys, rfl, rfl, h1, h3, by rw [← h2.len, ← h4.len] at h; exact h, fun p n => (o fun _ z => by cases z).lst (h2.app h4) n⟩
    · cases e
  · cases e
def catTup : D → D → Option RV
  | .tup a, .tup b => if a.length + b.length ≤ LIM then some (.val (.tup (a ++ b))) else none
  | _, _ => none
theorem o2_addTup (hK : X.K = C.K) : O2 X C (binaryOp .Add) catTup := by
  refine ⟨_, op_catA, fun S H x y dx dy rv Q st rx ry e o => ?_⟩
  rw [hK]
  unfold catTup at e
  split at e
  · split at e
    · rename_i h
      obtain ⟨a, xs, rfl, h1, h2, h1'⟩ := rx
      obtain ⟨b, ys, rfl, h3, h4, h3'⟩ := ry
      cases e
      have o := o fun _ z => by cases z
      rw [LIM_eq] at h
      refine ⟨a, b, xs, ys, rfl, rfl, h1, h3, by rw [← h2.len, ← h4.len] at h; exact h, fun z => ?_, fun _ z => ?_, fun _ _ p n => o.tup st (h2.app h4) n⟩
      · subst z; cases h2; exact o.flat st (.tup h3' h4)
      · subst z; cases h4; rw [List.append_nil] at o; exact o.flat st (.tup h1' h2)
    · cases e
  · cases e
def addD : D → D → Option RV
  | .int i, .int j => vI (i + j)
  | .str a, .str b => if a.length + b.length ≤ LIM then some (.val (.str (a ++ b))) else none
  | .lst a, .lst b => if a.length + b.length ≤ LIM then some (.own (.lst (a ++ b))) else none
  | .tup a, .tup b => if a.length + b.length ≤ LIM then some (.val (.tup (a ++ b))) else none
  | _, _ => none
theorem o2_add (hK : X.K = C.K) : O2 X C (binaryOp .Add) addD := by
  refine O2.or (k := addD) (O2.or (k := fun x y => (intI (fun i j => vI (i + j)) x y).or (catStr x y)) (o2_I0 op_add) o2_addStr ?_) (O2.or (k := fun x y => (catLst x y).or (catTup x y)) o2_addLst (o2_addTup hK) ?_) ?_
  · intro x y rv h
    exact (Option.or_eq_some_iff.mp h).imp id And.right
  · intro x y rv h
    exact (Option.or_eq_some_iff.mp h).imp id And.right
  · intro x y rv h
    unfold addD at h
    split at h
    · exact .inl h
    · exact .inl h
    · exact .inr (by show (catLst _ _).or none = _; rw [Option.or_none]; exact h)
    · exact .inr h
    · cases h

/-! ### times -/
def mulOk (i j : Int) : Bool := decide (i.natAbs < 18446744073709551616) || decide (j.natAbs < 18446744073709551616) || decide (i.natAbs.log2 + j.natAbs.log2 < 1000000)
def repLst : D → D → Option RV
  | .lst a, .int k => if decide (-(2 ^ 63) ≤ k ∧ k < 2 ^ 63 ∧ a.length * k.toNat ≤ LIM) then some (.own (.lst (List.replicate k.toNat a).flatten)) else none
  | _, _ => none
def repTup : D → D → Option RV
  | .tup a, .int k => if decide (2 ≤ k ∧ k ≤ 1000 ∧ a ≠ [] ∧ a.length ≤ 1000) then some (.val (.tup (List.replicate k.toNat a).flatten)) else none
  | _, _ => none
def mulD : D → D → Option RV
  | .int i, .int j => if mulOk i j then vI (i * j) else none
  | .lst a, .int k => if decide (-(2 ^ 63) ≤ k ∧ k < 2 ^ 63 ∧ a.length * k.toNat ≤ LIM) then some (.own (.lst (List.replicate k.toNat a).flatten)) else none
  | .tup a, .int k => if decide (2 ≤ k ∧ k ≤ 1000 ∧ a.length ≤ 1000) && !a.isEmpty then some (.val (.tup (List.replicate k.toNat a).flatten)) else none
  | _, _ => none
theorem lt64 {i : Int} (h : i.natAbs < 18446744073709551616) : -(2 ^ 64) < i ∧ i < 2 ^ 64 := by
  have e : (2 : Int) ^ 64 = 18446744073709551616 := by decide
  rw [e]; omega
theorem o2_mul (hK : X.K = C.K) : O2 X C (binaryOp .Mult) mulD := by
  refine ⟨_, OpR.or (OpR.or op_mul op_mulW) (OpR.or op_rep op_repT), fun S H x y dx dy rv Q st rx ry e o => ?_⟩
  unfold mulD at e
  split at e
  · split at e
    · rename_i i j h
      cases rx; cases ry
      unfold mulOk at h
      simp only [Bool.or_eq_true, decide_eq_true_eq] at h
      rcases h with (h | h) | h
      · exact .inl (.inl ⟨i, j, rfl, rfl, .inl (lt64 h), OutP.valI e o st⟩)
      · exact .inl (.inl ⟨i, j, rfl, rfl, .inr (lt64 h), OutP.valI e o st⟩)
      · exact .inl (.inr ⟨i, j, rfl, rfl, h, OutP.valI e o st⟩)
    · cases e
  · split at e
    · rename_i h
      obtain ⟨a, xs, rfl, h1, h2⟩ := rx
      cases ry; cases e
      have h := of_decide_eq_true h
      rw [LIM_eq, ← h2.len] at h
      exact .inr (.inl ⟨a, _, xs, rfl, rfl, h1, h.1, h.2.1, h.2.2, fun p n => (o fun _ z => by cases z).lst (h2.rep _) n⟩)
    · cases e
  · split at e
    · rename_i h
      obtain ⟨a, xs, rfl, h1, h2, _⟩ := rx
      cases ry; cases e
      simp only [Bool.and_eq_true, decide_eq_true_eq] at h
      rw [← h2.len] at h
      refine .inr (.inr ⟨a, _, xs, rfl, rfl, by rw [hK]; exact h1, fun z => ?_, h.1.1, h.1.2.1, h.1.2.2, fun p n => (o fun _ z => by cases z).tup st (h2.rep _) n⟩)
      subst z; cases h2; cases h.2
    · cases e
  · cases e

/-! ### less -/
def intsD : List D → Option (List Int)
  | [] => some []
  | .int i :: ds => (intsD ds).map (i :: ·)
  | _ :: _ => none
theorem intsD_some : ∀ {ds : List D} {ns : List Int}, intsD ds = some ns → ds = ns.map D.int
  | [], ns, h => by cases h; rfl
  | .int i :: ds, ns, h => by
    have h : (intsD ds).map (i :: ·) = some ns := h
    cases q : intsD ds with
    | none => rw [q] at h; cases h
    | some ms => rw [q] at h; cases h; rw [intsD_some q]; rfl
  | .non :: _, _, h => nomatch h
  | .bl _ :: _, _, h => nomatch h
  | .str _ :: _, _, h => nomatch h
  | .tup _ :: _, _, h => nomatch h
  | .lst _ :: _, _, h => nomatch h
  | .dic _ :: _, _, h => nomatch h
  | .scr _ :: _, _, h => nomatch h
  | .ty _ :: _, _, h => nomatch h
  | .fn _ :: _, _, h => nomatch h
  | .cls _ :: _, _, h => nomatch h
  | .obj _ _ :: _, _, h => nomatch h
theorem intsD_map (ns : List Int) : intsD (ns.map D.int) = some ns := by
  induction ns with
  | nil => rfl
  | cons n ns ih => show (intsD (ns.map D.int)).map (n :: ·) = _; rw [ih]; rfl
def ltD : D → D → Option RV
  | .int i, .int j => vB (decide (i < j))
  | .str a, .str b => vB (decide (a.cps.toList < b.cps.toList))
  | .tup a, .tup b => match intsD a, intsD b with
    | some ns, some ms => vB (HT.lexLt ns ms)
    | _, _ => none
  | _, _ => none
def leD : D → D → Option RV
  | .int i, .int j => vB (decide (i ≤ j))
  | .str a, .str b => vB (!decide (b.cps.toList < a.cps.toList))
  | _, _ => none
theorem o2_lt (hK : X.K = C.K) (hu : X.A.units < cLine) : O2 X C (compareOp .Lt) ltD := by
  refine ⟨_, OpR.or op_lt (OpR.or op_lt_str (op_ltT hu)), fun S H x y dx dy rv Q st rx ry e o => ?_⟩
  unfold ltD at e
  split at e
  · cases rx; cases ry
    exact .inl ⟨_, _, rfl, rfl, OutP.valB e o st⟩
  · cases rx; cases ry
    exact .inr (.inl ⟨_, _, rfl, rfl, OutP.valB e o st⟩)
  · split at e
    · rename_i q1 q2
      obtain ⟨a, xs, rfl, h1, h2, _⟩ := rx
      obtain ⟨b, ys, rfl, h3, h4, _⟩ := ry
      rw [intsD_some q1] at h2
      rw [intsD_some q2] at h4
      rw [h2.ints] at h1
      rw [h4.ints] at h3
      exact .inr (.inr ⟨a, b, _, _, rfl, rfl, by rw [hK]; exact h1, by rw [hK]; exact h3, OutP.valB e o st⟩)
    · cases e
  · cases e
theorem o2_le : O2 X C (compareOp .LtE) leD := by
  refine ⟨_, OpR.or op_le op_le_str, fun S H x y dx dy rv Q st rx ry e o => ?_⟩
  unfold leD at e
  split at e
  · cases rx; cases ry
    exact .inl ⟨_, _, rfl, rfl, OutP.valB e o st⟩
  · cases rx; cases ry
    exact .inr ⟨_, _, rfl, rfl, OutP.valB e o st⟩
  · cases e

/-! ### equal -/
mutual
def toPy : D → Option PyData
  | .non => some .none
  | .bl b => some (.bool b)
  | .int i => some (.int i)
  | .str s => some (.str s)
  | .tup ds => (toPys ds).map .tuple
  | .lst ds => (toPys ds).map .list
  | .scr ns => some (.list (ns.map .int))
  | _ => none
def toPys : List D → Option (List PyData)
  | [] => some []
  | d :: ds => match toPy d, toPys ds with
    | some x, some xs => some (x :: xs)
    | _, _ => none
end
section
variable {K : PySem.W.Frag} {S H : Hp}
theorem dpAll_ints (ns : List Int) : DpAll K H (ns.map V.int) (ns.map PyData.int) := by
  induction ns with
  | nil => exact .nil
  | cons n ns ih => exact .cons (.int n) ih
mutual
theorem Rep.dp (e : Same S H) : ∀ {v : V} {d : D} {p : PyData}, Rep K S v d → toPy d = some p → Dp K H v p
  | _, _, _, .non, h => by cases h; exact .non
  | _, _, _, .bl b, h => by cases h; exact .bl b
  | _, _, _, .int b, h => by cases h; exact .int b
  | _, _, _, .str b, h => by cases h; exact .str b
  | _, _, _, .ty b, h => by cases h
  | _, _, _, .tup (ds := ds) h1 h2, h => by
    have h : (toPys ds).map PyData.tuple = some _ := h
    cases q : toPys ds with
    | none => rw [q] at h; cases h
    | some ps => rw [q] at h; cases h; exact .tup (same_t e h1) (h2.dps e q)
  | _, _, _, .lst (ds := ds) h1 h2, h => by
    have h : (toPys ds).map PyData.list = some _ := h
    cases q : toPys ds with
    | none => rw [q] at h; cases h
    | some ps => rw [q] at h; cases h; exact .lst (SqL.of (e _ _ h1)) (h2.dps e q)
  | _, _, _, .scr h1, h => by cases h; exact .lst (e.seq h1) (dpAll_ints _)
theorem Reps.dps (e : Same S H) : ∀ {vs : List V} {ds : List D} {ps : List PyData}, Reps K S vs ds → toPys ds = some ps → DpAll K H vs ps
  | _, _, _, .nil, h => by cases h; exact .nil
  | _, _, _, .cons (d := d) (ds := ds) h1 h2, h => by
    have h : (match toPy d, toPys ds with | some x, some xs => some (x :: xs) | _, _ => none) = some _ := h
    cases q1 : toPy d with
    | none => rw [q1] at h; cases h
    | some x =>
      cases q2 : toPys ds with
      | none => rw [q1, q2] at h; cases h
      | some xs => rw [q1, q2] at h; cases h; exact .cons (h1.dp e q1) (h2.dps e q2)
end
theorem Rd.dp {v : V} {d : D} {p : PyData} (e : Same S H) (r : Rd K S H v d) (h : toPy d = some p) : Dp K H v p := by
  cases d with
  | non => cases r; cases h; exact .non
  | bl b => cases r; cases h; exact .bl b
  | int i => cases r; cases h; exact .int i
  | str x => cases r; cases h; exact .str x
  | tup ds =>
    obtain ⟨a, xs, rfl, h1, h2, h3⟩ := r
    exact Rep.dp e (.tup h3 h2) h
  | lst ds =>
    obtain ⟨a, xs, rfl, h1, h2⟩ := r
    have h : (toPys ds).map PyData.list = some _ := h
    cases q : toPys ds with
    | none => rw [q] at h; cases h
    | some ps => rw [q] at h; cases h; exact .lst (SqL.of h1) (h2.dps e q)
  | scr ns =>
    obtain ⟨a, rfl, h1⟩ := r
    cases h
    exact .lst h1 (dpAll_ints _)
  | _ => cases h
end
def eqB (x y : D) : Option Bool := match toPy x, toPy y with
  | some a, some b => if SeqAt.shaped a && SeqAt.shaped b then some (PyData.eqv a b) else none
  | _, _ => none
theorem eqB_some {x y : D} {b : Bool} (h : eqB x y = some b) : ∃ p q, toPy x = some p ∧ toPy y = some q ∧ SeqAt.shaped p = true ∧ SeqAt.shaped q = true ∧ b = PyData.eqv p q := by
  unfold eqB at h
  split at h
  · split at h
    · rename_i q1 q2 q3
      cases h
      rw [Bool.and_eq_true] at q3
      exact ⟨_, _, q1, q2, q3.1, q3.2, rfl⟩
    · cases h
  · cases h
def eqD (x y : D) : Option RV := (eqB x y).map fun b => .val (.bl b)
def neD (x y : D) : Option RV := (eqB x y).map fun b => .val (.bl (!b))
theorem o2_eq (hK : X.K = C.K) (hu : X.A.units + 65 < cLine) : O2 X C (compareOp .Eq) eqD := by
  refine ⟨_, op_eqD (by omega), fun S H x y dx dy rv Q st rx ry e o => ?_⟩
  unfold eqD at e
  cases q : eqB dx dy with
  | none => rw [q] at e; cases e
  | some b =>
    rw [q] at e
    obtain ⟨p, p', h1, h2, h3, h4, rfl⟩ := eqB_some q
    rw [hK]
    exact ⟨p, p', rx.dp st h1, ry.dp st h2, h3, h4, OutP.valB e o st⟩
theorem o2_ne (hK : X.K = C.K) (hu : X.A.units + 65 < cLine) : O2 X C (compareOp .NotEq) neD := by
  refine ⟨_, op_neD (by omega), fun S H x y dx dy rv Q st rx ry e o => ?_⟩
  unfold neD at e
  cases q : eqB dx dy with
  | none => rw [q] at e; cases e
  | some b =>
    rw [q] at e
    obtain ⟨p, p', h1, h2, h3, h4, rfl⟩ := eqB_some q
    rw [hK]
    exact ⟨p, p', rx.dp st h1, ry.dp st h2, h3, h4, OutP.valB (i := !PyData.eqv p p') e o st⟩

/-! ### in -/
def inB (d : D) (ds : List D) : Option Bool := match toPy d, toPys ds with
  | some p, some ps => if SeqAt.shaped p && SeqAt.shaped (.list ps) then some (ps.any fun z => PyData.eqv z p) else none
  | _, _ => none
def flatD : D → Bool
  | .non => true | .bl _ => true | .int _ => true | .str _ => true | _ => false
def seqD : D → Option (List D)
  | .lst ds => some ds
  | .scr ns => some (ns.map .int)
  | _ => none
def inD (d y : D) : Option Bool := match seqD y with
  | some ds => inB d ds
  | none => match d, y with
    | .str a, .str b => some (!(Builtin.Str.occurrences b a 0 b.length 1).isEmpty)
    | d, .tup ds => inB d ds
    | d, .dic kvs => (keyD d).map fun k => (getKD kvs k).isSome
    | _, _ => none
theorem toPys_ints (ns : List Int) : toPys (ns.map D.int) = some (ns.map PyData.int) := by
  induction ns with
  | nil => rfl
  | cons n ns ih => show (match toPy (.int n), toPys (ns.map D.int) with | some x, some xs => some (x :: xs) | _, _ => none) = _; rw [ih]; rfl
theorem seqD_dp {S H : Hp} {v : V} {d : D} {ds : List D} {ps : List PyData} (st : Same S H) (r : Rd C.K S H v d) (h : seqD d = some ds) (h' : toPys ds = some ps) : Dp C.K H v (.list ps) := by
  cases d with
  | lst xs => cases h; exact r.dp st (show (toPys ds).map PyData.list = _ by rw [h']; rfl)
  | scr ns => cases h; rw [toPys_ints] at h'; cases h'; exact r.dp st rfl
  | _ => cases h
theorem flat_eq {S : Hp} {v w : V} {d e : D} {p q : PyData} (r : Rep C.K S v d) (r' : Rep C.K S w e) (h : toPy d = some p) (h' : toPy e = some q) (f : flatD d = true) (f' : flatD e = true) : eqV v w = PyData.eqv p q := by
  cases r <;> first | exact (Bool.false_ne_true f).elim | (cases r' <;> first | exact (Bool.false_ne_true f').elim | (cases h; cases h'; rfl))
theorem flat_v {S : Hp} {v : V} {d : D} (r : Rep C.K S v d) (f : flatD d = true) : flatV v = true := by
  cases r <;> first | exact (Bool.false_ne_true f).elim | rfl
theorem flat_in {S : Hp} {v : V} {d : D} {p : PyData} (r : Rep C.K S v d) (h : toPy d = some p) (f : flatD d = true) : ∀ {vs : List V} {ds : List D} {ps : List PyData}, Reps C.K S vs ds → toPys ds = some ps → ds.all flatD = true → vs.all flatV = true ∧ inV v vs = ps.any fun z => PyData.eqv z p
  | [], [], ps, .nil, h', _ => by cases h'; exact ⟨rfl, rfl⟩
  | u :: us, e :: es, ps, .cons r1 r2, h', f' => by
    have h' : (match toPy e, toPys es with | some x, some xs => some (x :: xs) | _, _ => none) = some ps := h'
    rw [List.all_cons, Bool.and_eq_true] at f'
    cases q1 : toPy e with
    | none => rw [q1] at h'; cases h'
    | some x =>
      cases q2 : toPys es with
      | none => rw [q1, q2] at h'; cases h'
      | some xs =>
        rw [q1, q2] at h'; cases h'
        obtain ⟨a, b⟩ := flat_in r h f r2 q2 f'.2
        refine ⟨by rw [List.all_cons, a, flat_v r1 f'.1]; rfl, ?_⟩
        show ((u :: us).any fun y => eqV y v) = _
        rw [List.any_cons, List.any_cons, flat_eq r1 r q1 h f'.1 f]
        show (_ || inV v us) = _
        rw [b]
theorem inB_some {d : D} {ds : List D} {b : Bool} (h : inB d ds = some b) : ∃ p ps, toPy d = some p ∧ toPys ds = some ps ∧ SeqAt.shaped p = true ∧ SeqAt.shaped (.list ps) = true ∧ b = ps.any fun z => PyData.eqv z p := by
  unfold inB at h
  split at h
  · split at h
    · rename_i q1 q2 q3
      cases h
      rw [Bool.and_eq_true] at q3
      exact ⟨_, _, q1, q2, q3.1, q3.2, rfl⟩
    · cases h
  · cases h
theorem Rd.flat {S H : Hp} {v : V} {d : D} (r : Rd C.K S H v d) (f : flatD d = true) : Rep C.K S v d := by
  refine r.flat_rep ?_
  cases d <;> first | trivial | cases f
/-- x in y: the relation -/
theorem in_ok {S H : Hp} {x y : V} {dx dy : D} {b : Bool} (st : Same S H) (rx : Rd C.K S H x dx) (ry : Rd C.K S H y dy) (e : inD dx dy = some b) :
    (∃ d ds, Dp C.K H x d ∧ Dp C.K H y (.list ds) ∧ SeqAt.shaped d = true ∧ SeqAt.shaped (.list ds) = true ∧ b = ds.any fun z => PyData.eqv z d) ∨
    (∃ i j, x = .str i ∧ y = .str j ∧ b = !(Builtin.Str.occurrences j i 0 j.length 1).isEmpty) ∨
    (∃ d ds, Dp C.K H x d ∧ Dp C.K H y (.tuple ds) ∧ SeqAt.shaped d = true ∧ SeqAt.shaped (.list ds) = true ∧ b = ds.any fun z => PyData.eqv z d) ∨
    ∃ a o, y = .ref a ∧ DGet H a x o ∧ b = o.isSome := by
  unfold inD at e
  cases q : seqD dy with
  | some ds =>
    rw [q] at e
    obtain ⟨p, ps, h1, h2, h3, h4, h5⟩ := inB_some e
    exact .inl ⟨p, ps, rx.dp st h1, seqD_dp st ry q h2, h3, h4, h5⟩
  | none =>
    rw [q] at e
    simp only at e
    split at e
    · cases rx; cases ry; cases e
      exact .inr (.inl ⟨_, _, rfl, rfl, rfl⟩)
    · rename_i ds
      obtain ⟨p, ps, h1, h2, h3, h4, h5⟩ := inB_some e
      exact .inr (.inr (.inl ⟨p, ps, rx.dp st h1, ry.dp st (show (toPys ds).map PyData.tuple = _ by rw [h2]; rfl), h3, h4, h5⟩))
    · rename_i kvs
      obtain ⟨a, rfl, ys, h1, h2, h3⟩ := ry
      cases q2 : keyD dx with
      | none => rw [q2] at e; cases e
      | some kk =>
        rw [q2] at e; cases e
        rw [keyD_ok rx q2]
        have kr : KReps C.K S ys kvs := ⟨h2, h3⟩
        refine .inr (.inr (.inr ⟨a, valV ys kk, rfl, DGet.k h1, ?_⟩))
        cases q3 : getKD kvs kk with
        | none => show (getKD kvs kk).isSome = _; rw [kr.none q3, q3]; rfl
        | some d => obtain ⟨v, h4, _⟩ := kr.get q3; show (getKD kvs kk).isSome = _; rw [h4, q3]; rfl
    · cases e
/-- x in a tuple whose items are data of any depth -/
theorem op_inDT (hu : X.A.units + 65 < cLine) : OpR X (compareOp .In) (fun x y H Q => ∃ d ds, Dp X.K H x d ∧ Dp X.K H y (.tuple ds) ∧ SeqAt.shaped d = true ∧ SeqAt.shaped (.list ds) = true ∧ Q (.bl (ds.any fun z => PyData.eqv z d)) H) := fun pins s σ H x y v u Q I rx ry ⟨d, ds, hd, he, sd, se, q⟩ =>
  let ⟨_, r1⟩ := Dp.reads I d x v hd rx
  let ⟨_, r2⟩ := Dp.reads I (.tuple ds) y u he ry
  SeqAt.in_tuple_reads r2 r1 (SeqAt.canLay_of_shaped se) (SeqAt.canLay_of_shaped sd) (PyProof.Rows.room_in_shaped sd hu) ⟨.bl _, H, I, rfl, q⟩
theorem op_notInDT (hu : X.A.units + 65 < cLine) : OpR X (compareOp .NotIn) (fun x y H Q => ∃ d ds, Dp X.K H x d ∧ Dp X.K H y (.tuple ds) ∧ SeqAt.shaped d = true ∧ SeqAt.shaped (.list ds) = true ∧ Q (.bl (!ds.any fun z => PyData.eqv z d)) H) := fun pins s σ H x y v u Q I rx ry ⟨d, ds, hd, he, sd, se, q⟩ =>
  let ⟨_, r1⟩ := Dp.reads I d x v hd rx
  let ⟨_, r2⟩ := Dp.reads I (.tuple ds) y u he ry
  SeqAt.notIn_tuple_reads r2 r1 (SeqAt.canLay_of_shaped se) (SeqAt.canLay_of_shaped sd) (PyProof.Rows.room_in_shaped sd hu) ⟨.bl _, H, I, rfl, q⟩
theorem op_inK (hu : X.A.units + 1 < cLine) : OpR X (compareOp .In) (fun x y H Q => ∃ a o, y = .ref a ∧ DGet H a x o ∧ Q (.bl o.isSome) H) := by
  intro pins s σ H x y v u Q I rx ry h
  obtain ⟨a, o, rfl, g, q⟩ := h
  cases ry
  exact d_in hu I g rx fun s3 I3 => ⟨.bl o.isSome, H, I3, rfl, q⟩
theorem op_notInK (hu : X.A.units + 1 < cLine) : OpR X (compareOp .NotIn) (fun x y H Q => ∃ a o, y = .ref a ∧ DGet H a x o ∧ Q (.bl (!o.isSome)) H) := by
  intro pins s σ H x y v u Q I rx ry h
  obtain ⟨a, o, rfl, g, q⟩ := h
  cases ry
  exact d_notIn hu I g rx fun s3 I3 => ⟨.bl (!o.isSome), H, I3, rfl, q⟩
def inDV (x y : D) : Option RV := (inD x y).map fun b => .val (.bl b)
def notInDV (x y : D) : Option RV := (inD x y).map fun b => .val (.bl (!b))
theorem o2_in (hK : X.K = C.K) (hu : X.A.units + 65 < cLine) : O2 X C (compareOp .In) inDV := by
  refine ⟨_, OpR.or (op_inD hu) (OpR.or op_in_str (OpR.or (op_inDT hu) (op_inK (by omega)))), fun S H x y dx dy rv Q st rx ry e o => ?_⟩
  unfold inDV at e
  cases q : inD dx dy with
  | none => rw [q] at e; cases e
  | some b =>
    rw [q] at e
    have ob : Q (.bl b) H := OutP.valB e o st
    rw [hK]
    rcases in_ok st rx ry q with ⟨d, ds, h1, h2, h3, h4, h5⟩ | ⟨i, j, h1, h2, h3⟩ | ⟨p, xs, h1, h2, h3, h4, h5⟩ | ⟨a, o', h1, h2, h3⟩
    · exact .inl ⟨d, ds, h1, h2, h3, h4, by rw [← h5]; exact ob⟩
    · exact .inr (.inl ⟨i, j, h1, h2, by rw [← h3]; exact ob⟩)
    · exact .inr (.inr (.inl ⟨p, xs, h1, h2, h3, h4, by rw [← h5]; exact ob⟩))
    · exact .inr (.inr (.inr ⟨a, o', h1, h2, by rw [← h3]; exact ob⟩))
theorem o2_notIn (hK : X.K = C.K) (hu : X.A.units + 65 < cLine) : O2 X C (compareOp .NotIn) notInDV := by
  refine ⟨_, OpR.or (op_notInD hu) (OpR.or op_notIn_str (OpR.or (op_notInDT hu) (op_notInK (by omega)))), fun S H x y dx dy rv Q st rx ry e o => ?_⟩
  unfold notInDV at e
  cases q : inD dx dy with
  | none => rw [q] at e; cases e
  | some b =>
    rw [q] at e
    have ob : Q (.bl (!b)) H := OutP.valB (i := !b) e o st
    rw [hK]
    rcases in_ok st rx ry q with ⟨d, ds, h1, h2, h3, h4, h5⟩ | ⟨i, j, h1, h2, h3⟩ | ⟨p, xs, h1, h2, h3, h4, h5⟩ | ⟨a, o', h1, h2, h3⟩
    · exact .inl ⟨d, ds, h1, h2, h3, h4, by rw [← h5]; exact ob⟩
    · exact .inr (.inl ⟨i, j, h1, h2, by rw [← h3]; exact ob⟩)
    · exact .inr (.inr (.inl ⟨p, xs, h1, h2, h3, h4, by rw [← h5]; exact ob⟩))
    · exact .inr (.inr (.inr ⟨a, o', h1, h2, by rw [← h3]; exact ob⟩))
/-! ### is -/
def isNonD : D → Option Bool
  | .non => some true
  | .bl _ | .int _ | .str _ | .tup _ | .lst _ | .scr _ | .ty _ => some false
  | _ => none
theorem isNonD_ok {S H : Hp} {v : V} {d : D} {b : Bool} (r : Rd C.K S H v d) (h : isNonD d = some b) : decide (v = .non) = b := by
  cases d with
  | non => cases r; cases h; rfl
  | bl b => cases r; cases h; rfl
  | int i => cases r; cases h; rfl
  | str x => cases r; cases h; rfl
  | ty x => cases r; cases h; rfl
  | tup ds => obtain ⟨a, xs, rfl, _⟩ := r; cases h; rfl
  | lst ds => obtain ⟨a, xs, rfl, _⟩ := r; cases h; rfl
  | scr ds => obtain ⟨a, rfl, _⟩ := r; cases h; rfl
  | _ => cases h
def isD : D → D → Option RV
  | d, .non => (isNonD d).map fun b => .val (.bl b)
  | .bl a, .bl b => vB (decide (a = b))
  | _, _ => none
def isNotD : D → D → Option RV
  | d, .non => (isNonD d).map fun b => .val (.bl (!b))
  | .bl a, .bl b => vB (!decide (a = b))
  | _, _ => none
theorem o2_is : O2 X C (compareOp .Is) isD := by
  refine ⟨_, OpR.or op_isN op_isBl, fun S H x y dx dy rv Q st rx ry e o => ?_⟩
  unfold isD at e
  split at e
  · cases ry
    cases q : isNonD dx with
    | none => rw [q] at e; cases e
    | some b =>
      rw [q] at e
      exact .inl ⟨rfl, by rw [isNonD_ok rx q]; exact OutP.valB e o st⟩
  · cases rx; cases ry
    exact .inr ⟨_, _, rfl, rfl, OutP.valB e o st⟩
  · cases e
theorem o2_isNot : O2 X C (compareOp .IsNot) isNotD := by
  refine ⟨_, OpR.or op_notN op_notBl, fun S H x y dx dy rv Q st rx ry e o => ?_⟩
  unfold isNotD at e
  split at e
  · cases ry
    cases q : isNonD dx with
    | none => rw [q] at e; cases e
    | some b =>
      rw [q] at e
      exact .inl ⟨rfl, by rw [isNonD_ok rx q]; exact OutP.valB (i := !b) e o st⟩
  · cases rx; cases ry
    exact .inr ⟨_, _, rfl, rfl, OutP.valB e o st⟩
  · cases e
end
end VL

/-! VL part m: items, slices, calls of built-ins. -/
namespace VL
open PySem L2 PySem.Spec PyProof
section
variable {X : Cx} {C : Cfg} {W : WX} {cf : CF} {T : List (Str × Nat)} {e a b c : Expr} {es : List Expr} {ma mb mc : M RV} {ms : List (M RV)} {pos p : Pos}

/-! ### items -/
def ixD : D → D → Option RV
  | .lst ds, .int i => (atI ds i).map RV.val
  | .tup ds, .int i => (atI ds i).map RV.val
  | .scr ns, .int i => (atI ns i).map fun n => RV.val (.int n)
  | .str s, .int i => if s.length ≤ LIM then (atI s.cps.toList i).map fun c => RV.val (.str ⟨#[c]⟩) else none
  | .dic kvs, k => (keyD k).bind fun k => (getKD kvs k).map RV.val
  | _, _ => none
/-- d[k], k there -/
def rIxDic : R2 := fun x y H Q => ∃ a v, x = .ref a ∧ DGet H a y (some v) ∧ Q v H
theorem ix_dic (hu : X.A.units + 1 < cLine) : IxR X rIxDic := by
  intro value slice pins s σ H x y v u Q I rx ry h hs
  obtain ⟨a, w, rfl, g, q⟩ := h
  cases rx
  exact PyProof.Rows.tail_any (dict_typeIs I g) PySem.F.slot_dict_getitem.lookup (d_getItem hu I g ry fun w' s3 I3 rw' => ⟨w, H, I3, rw', q⟩) hs
theorem atI_reps {K : PySem.W.Frag} {S : Hp} {xs : List V} {ds : List D} {i : Int} {d : D} (r : Reps K S xs ds) (h : atI ds i = some d) : ∃ v, atI xs i = some v ∧ Rep K S v d := by
  unfold atI at h ⊢
  rw [r.len]
  cases q : ixN ds.length i with
  | none => rw [q] at h; cases h
  | some j =>
    rw [q] at h
    obtain ⟨v, h1, h2⟩ := r.at h
    exact ⟨v, h1, h2⟩
theorem atI_map {α β : Type} (f : α → β) (xs : List α) (i : Int) : atI (xs.map f) i = (atI xs i).map f := by
  unfold atI
  rw [List.length_map]
  cases ixN xs.length i with
  | none => rfl
  | some j => show (xs.map f)[j]? = (xs[j]?).map f; rw [List.getElem?_map]
theorem p2_ix : Prim2 C (fun x y H Q => ((rIxL C.K x y H Q ∨ rIxT C.K x y H Q) ∨ rIxS x y H Q) ∨ rIxDic x y H Q) ixD := by
  intro S H x y dx dy rv Q st rx ry e o
  unfold ixD at e
  split at e
  · rename_i ds i
    obtain ⟨a, xs, rfl, h1, h2⟩ := rx
    cases ry
    cases q : atI ds i with
    | none => rw [q] at e; cases e
    | some d =>
      rw [q] at e; cases e
      obtain ⟨v, h3, h4⟩ := atI_reps h2 q
      exact .inl (.inl (.inl ⟨a, xs, i, v, rfl, rfl, SqL.of h1, h3, (o fun _ z => by cases z).flat st h4⟩))
  · rename_i ds i
    obtain ⟨a, xs, rfl, h1, h2, _⟩ := rx
    cases ry
    cases q : atI ds i with
    | none => rw [q] at e; cases e
    | some d =>
      rw [q] at e; cases e
      obtain ⟨v, h3, h4⟩ := atI_reps h2 q
      exact .inl (.inl (.inr ⟨a, xs, i, v, rfl, rfl, h1, h3, (o fun _ z => by cases z).flat st h4⟩))
  · rename_i ns i
    obtain ⟨a, rfl, h1⟩ := rx
    cases ry
    cases q : atI ns i with
    | none => rw [q] at e; cases e
    | some n =>
      rw [q] at e; cases e
      exact .inl (.inl (.inl ⟨a, _, i, .int n, rfl, rfl, h1, by rw [atI_map, q]; rfl, (o fun _ z => by cases z).flat st (.int n)⟩))
  · rename_i s i
    cases rx; cases ry
    split at e
    · rename_i hl
      cases q : atI s.cps.toList i with
      | none => rw [q] at e; cases e
      | some c =>
        rw [q] at e; cases e
        rw [LIM_eq] at hl
        exact .inl (.inr ⟨s, i, c, rfl, rfl, hl, q, (o fun _ z => by cases z).flat st (.str _)⟩)
    · cases e
  · rename_i kvs
    obtain ⟨a, rfl, ys, h1, h2, h3⟩ := rx
    cases q : keyD dy with
    | none => rw [q] at e; cases e
    | some kk =>
      rw [q] at e
      have e : (getKD kvs kk).map RV.val = some rv := e
      cases q2 : getKD kvs kk with
      | none => rw [q2] at e; cases e
      | some d =>
        rw [q2] at e; cases e
        obtain ⟨v, h4, h5⟩ := KReps.get (⟨h2, h3⟩ : KReps C.K S ys kvs) q2
        rw [keyD_ok ry q]
        exact .inr ⟨a, v, rfl, by rw [← h4]; exact DGet.k h1, (o fun _ z => by cases z).flat st h5⟩
  · cases e
theorem ve_ix (vx : Vx X C W cf T) (ha : VE X C W a ma) (hb : VE X C W b mb) (hs : PlainIx b := by intro o i; rfl) : VE X C W (.Subscript a b pos) (binM ixD ma mb) := by
  refine ⟨PE.imp (pe_ix (IxR.or (IxR.or (IxR.or ix_list ix_tup) ix_str) (ix_dic (by have := vx.hu; omega))) ha.pe hb.pe hs) fun σ H Q h => ?_⟩
  rw [vx.K]
  exact tE_bin p2_ix h

/-! ### slices -/
def Optr : Rl (Option Int) (Option Int) := fun _ _ a _ _ _ b => b = a
theorem Optr.back {σ : L2.St} : Back C σ Optr := fun _ _ _ _ _ _ _ _ _ _ _ _ r => r
def tO (C : Cfg) (W : WX) (m : M (Option Int)) : TO := fun σ H Q => ∃ S ρ, StRel C S ρ σ H ∧ Good C W σ S ρ H (m ρ) Optr Q
structure VO (X : Cx) (C : Cfg) (W : WX) (e : Option Expr) (m : M (Option Int)) : Prop where po : PO X e (tO C W m)
theorem PO.imp {e : Option Expr} {t t' : TO} (h : PO X e t) (i : ∀ σ H Q, t' σ H Q → t σ H Q) : PO X e t' := ⟨fun pins s σ H Q I q => h.run pins s σ H Q I (i σ H Q q)⟩
def noO : M (Option Int) := pure none
def intO (m : M RV) : M (Option Int) := opd m >>= fun o => look o >>= fun d => M.lift (match d with | .int i => some (some i) | _ => none)
theorem vo_none : VO X C W none noO := by
  refine ⟨PO.imp po_none fun σ H Q h => ?_⟩
  obtain ⟨S, ρ, st, g⟩ := h
  have g : ∀ S' H' b, Stp C σ S ρ H S' ρ H' → b = none → Q b H' := g
  exact g S H none (Stp.refl st) rfl
theorem vo_some (ha : VE X C W a ma) : VO X C W (some a) (intO ma) := by
  refine ⟨PO.imp (po_some ha.pe) fun σ H Q h => ?_⟩
  obtain ⟨S, ρ, st, g⟩ := h
  refine ⟨S, ρ, st, Good.opd (Good.bnd Optr.back g fun x ρ1 S1 H1 v _ e1 r1 g1 => ?_)⟩
  obtain ⟨d, h1, g2⟩ := Good.look e1.st r1 g1
  cases d with
  | int i =>
    cases h1
    have g2 : ∀ S' H' b, Stp C σ S1 ρ1 H1 S' ρ1 H' → b = some i → Q b H' := g2
    exact ⟨i, rfl, g2 S1 H1 _ (Stp.refl e1.st) rfl⟩
  | _ => exact g2.elim
def cutL {α : Type} (xs : List α) (lo hi : Option Int) : List α := (xs.drop (HT.sIx xs.length 0 lo)).take (HT.sIx xs.length xs.length hi - HT.sIx xs.length 0 lo)
def slD (lo hi : Option Int) : D → Option RV
  | .lst ds => some (.own (.lst (cutL ds lo hi)))
  | .tup ds => some (.val (.tup (cutL ds lo hi)))
  | .scr ns => some (.own (.lst ((cutL ns lo hi).map .int)))
  | .str z => if z.length ≤ LIM then some (.val (.str (cutS z lo hi))) else none
  | _ => none
def slM (ma : M RV) (ml mh : M (Option Int)) : M RV := opd ma >>= fun o => ml >>= fun lo => mh >>= fun hi => look o >>= fun d => M.lift (slD lo hi d)
theorem cutL_whole {α : Type} {xs : List α} {lo hi : Option Int} (h : HT.sIx xs.length 0 lo = 0 ∧ HT.sIx xs.length xs.length hi = xs.length) : cutL xs lo hi = xs := by
  unfold cutL; rw [h.1, h.2, List.drop_zero, Nat.sub_zero, List.take_of_length_le (Nat.le_refl _)]
theorem Reps.cut {K : PySem.W.Frag} {S : Hp} {xs : List V} {ds : List D} (r : Reps K S xs ds) (lo hi : Option Int) : Reps K S (cutV xs lo hi) (cutL ds lo hi) := by
  show Reps K S (cutL xs lo hi) (cutL ds lo hi)
  unfold cutL
  rw [r.len]
  exact (r.drop _).take _
theorem ve_sl {ml mh : M (Option Int)} {lo hi : Option Expr} {p2 : Pos} (vx : Vx X C W cf T) (ha : VE X C W a ma) (hl : VO X C W lo ml) (hh : VO X C W hi mh) : VE X C W (.Subscript a (.Slice lo hi none p2) pos) (slM ma ml mh) := by
  refine ⟨PE.imp (pe_slice (SlR.or (SlR.or sl_list sl_tupA) sl_str) ha.pe hl.po hh.po) fun σ H Q h => ?_⟩
  obtain ⟨S, ρ, st, g⟩ := h
  refine ⟨S, ρ, st, Good.opd (Good.bnd RVr.back g fun x ρ1 S1 H1 v _ e1 r1 g1 => ?_)⟩
  refine ⟨S1, ρ1, e1.st, Good.bnd RVr.back g1 fun lo ρ2 S2 H2 lo' _ e2 r2 g2 => ?_⟩
  cases r2
  refine ⟨S2, ρ2, e2.st, Good.bnd RVr.back g2 fun hi ρ3 S3 H3 hi' _ e3 r3 g3 => ?_⟩
  cases r3
  obtain ⟨d, h1, g4⟩ := Good.look e3.st (Op.fwd r1 (e2.ext.sS.trans e3.ext.sS)) g3
  obtain ⟨rv, h3, g5⟩ := Good.out e3.st g4
  have s3 := e3.st.same
  rw [vx.K]
  cases d with
  | lst ds =>
    obtain ⟨a, xs, rfl, h4, h5⟩ := h1
    cases h3
    exact .inl (.inl ⟨a, xs, rfl, SqL.of h4, fun p n => (g5 fun _ z => by cases z).lst (h5.cut _ _) n⟩)
  | scr ns =>
    obtain ⟨a, rfl, h4⟩ := h1
    cases h3
    refine .inl (.inl ⟨a, _, rfl, h4, fun p n => ?_⟩)
    have z := (g5 fun _ z => by cases z).lst (Reps.of_ints _) n
    have e : cutV (ns.map V.int) lo hi = (cutL ns lo hi).map V.int := by
      show cutL (ns.map V.int) lo hi = _
      unfold cutL
      rw [List.length_map, List.map_take, List.map_drop]
    rw [e]; exact z
  | tup ds =>
    obtain ⟨a, xs, rfl, h4, h5, h6⟩ := h1
    cases h3
    have o := g5 fun _ z => by cases z
    refine .inl (.inr ⟨a, xs, rfl, h4, fun w => ?_, fun w p n => o.tup s3 (h5.cut _ _) n⟩)
    refine o.flat s3 (.tup h6 ?_)
    have z := h5.cut (S := S3) lo hi
    rw [show cutV xs lo hi = xs from cutL_whole w] at z
    exact z
  | str z =>
    cases h1
    have h3 : (if z.length ≤ LIM then some (RV.val (.str (cutS z lo hi))) else none) = some rv := h3
    split at h3
    · rename_i hl
      cases h3
      rw [LIM_eq] at hl
      exact .inr ⟨z, rfl, hl, (g5 fun _ z => by cases z).flat s3 (.str _)⟩
    · cases h3
  | _ => cases h3
end
end VL

/-! VL part n: calls of built-ins. -/
namespace VL
open PySem L2 PySem.Spec PyProof PyProof.Rows
section
variable {X : Cx} {C : Cfg} {W : WX} {cf : CF} {T : List (Str × Nat)} {e a b c : Expr} {es : List Expr} {ma mb mc : M RV} {ms : List (M RV)} {pos p py : Pos} {x : Str}
structure CN (X : Cx) (C : Cfg) (f : Value) (g : List D → Option RV) : Prop where
  ex : ∃ r, CallR X f r ∧ PrimN C r g
theorem ve_cb {id : String} {f : List D → Option RV} (hc : CN X C (.builtin id) f) (hg : Gl X x) (hm : X.mg x = none) (hv : bootBuiltins x = some (.builtin id)) (ha : VA X C W (e :: es) ms) (hn : x ≠ "__name__" := by decide) (hdb : (x == ("__debug__" : Str)) = false := by decide)
    (he : starEach (e :: es) X.env = (false, eval e X.env) :: starEach es X.env := by rfl) (hpl : (backTo pos (starEach es X.env)).any (·.1) = false := by rfl) : VE X C W (.Call (.Name x p) (e :: es) [] pos) (primM f ms) := by
  obtain ⟨r, h1, h2⟩ := hc.ex
  exact ⟨PE.imp (pe_callB h1 hg hm hv ha.pa hn hdb he hpl) fun σ H Q h => tE_prim h2 h⟩
theorem ve_ct {id : String} {f : List D → Option RV} (hc : CN X C (.type id) f) (hg : Gl X x) (hm : X.mg x = none) (hv : bootBuiltins x = some (.type id)) (ha : VA X C W (e :: es) ms) (hn : x ≠ "__name__" := by decide) (hdb : (x == ("__debug__" : Str)) = false := by decide)
    (he : starEach (e :: es) X.env = (false, eval e X.env) :: starEach es X.env := by rfl) (hpl : (backTo pos (starEach es X.env)).any (·.1) = false := by rfl) : VE X C W (.Call (.Name x p) (e :: es) [] pos) (primM f ms) := by
  obtain ⟨r, h1, h2⟩ := hc.ex
  exact ⟨PE.imp (pe_callTy h1 hg hm hv ha.pa hn hdb he hpl) fun σ H Q h => tE_prim h2 h⟩
theorem Rds.one {K : PySem.W.Frag} {S H : Hp} {vs : List V} {d : D} (h : Rds K S H vs [d]) : ∃ v, vs = [v] ∧ Rd K S H v d := by
  cases h with | cons a r => cases r; exact ⟨_, rfl, a⟩
theorem Rds.two {K : PySem.W.Frag} {S H : Hp} {vs : List V} {d e : D} (h : Rds K S H vs [d, e]) : ∃ v w, vs = [v, w] ∧ Rd K S H v d ∧ Rd K S H w e := by
  cases h with | cons a r => cases r with | cons b r => cases r; exact ⟨_, _, rfl, a, b⟩
def one1 (f : D → Option RV) : List D → Option RV
  | [d] => f d
  | _ => none
theorem one1_some {f : D → Option RV} {ds : List D} {rv : RV} (h : one1 f ds = some rv) : ∃ d, ds = [d] ∧ f d = some rv := by
  unfold one1 at h
  split at h
  · exact ⟨_, rfl, h⟩
  · cases h
def two2 (f : D → D → Option RV) : List D → Option RV
  | [d, e] => f d e
  | _ => none
theorem two2_some {f : D → D → Option RV} {ds : List D} {rv : RV} (h : two2 f ds = some rv) : ∃ d e, ds = [d, e] ∧ f d e = some rv := by
  unfold two2 at h
  split at h
  · exact ⟨_, _, rfl, h⟩
  · cases h

/-! ### len, abs, int, list, tuple -/
def lenN : D → Option Nat
  | .str z => if z.length ≤ LIM then some z.length else none
  | .tup ds => some ds.length
  | .lst ds => some ds.length
  | .scr ns => some ns.length
  | .dic kvs => some kvs.length
  | _ => none
def lenD (d : D) : Option RV := (lenN d).map fun (n : Nat) => .val (.int (n : Int))
theorem cn_len (hK : X.K = C.K) : CN X C (.builtin "len") (one1 lenD) := by
  refine ⟨_, CallR.or call_len call_lenD, fun S H xs ds rv Q st r e o => ?_⟩
  obtain ⟨d, hd, e'⟩ := one1_some e
  subst hd; clear e; have e := e'; clear e'
  obtain ⟨v, hv, r'⟩ := r.one
  subst hv; clear r; have r := r'; clear r'
  unfold lenD at e
  rw [hK]
  cases q : lenN d with
  | none => rw [q] at e; cases e
  | some n =>
    rw [q] at e
    have hq : Q (.int n) H := OutP.valI e o st
    cases d with
    | dic kvs =>
      obtain ⟨a, rfl, ys, h1, h2, h3⟩ := r
      cases q
      exact .inr ⟨a, ys, rfl, h1, by rw [(⟨h2, h3⟩ : KReps C.K S ys kvs).len]; exact hq⟩
    | _ =>
      refine .inl ⟨v, n, rfl, ?_, hq⟩
      first
        | (obtain ⟨a, xs, rfl, h1, h2, _⟩ := r; cases q; exact .inr ⟨xs, h1, h2.len.symm⟩)
        | (obtain ⟨a, xs, rfl, h1, h2⟩ := r; cases q; exact .inl ⟨xs, SqL.of h1, h2.len.symm⟩)
        | (obtain ⟨a, rfl, h1⟩ := r; cases q; exact .inl ⟨_, h1, by rw [List.length_map]⟩)
        | cases q
        | skip
      all_goals
        rename_i z
        cases r
        have q : (if z.length ≤ LIM then some z.length else none) = some n := q
        split at q
        · rename_i hl; cases q; rw [LIM_eq] at hl; exact ⟨hl, rfl⟩
        · cases q
def absD : D → Option RV
  | .int i => vI (if i < 0 then -i else i)
  | _ => none
theorem cn_abs : CN X C (.builtin "abs") (one1 absD) := by
  refine ⟨_, call_abs, fun S H xs ds rv Q st r e o => ?_⟩
  obtain ⟨d, hd, e'⟩ := one1_some e
  subst hd; clear e; have e := e'; clear e'
  obtain ⟨v, hv, r'⟩ := r.one
  subst hv; clear r; have r := r'; clear r'
  cases d with
  | int i => cases r; exact ⟨i, rfl, OutP.valI e o st⟩
  | _ => cases e
def intD : D → Option RV
  | .int i => vI i
  | .bl k => vI (if k then 1 else 0)
  | _ => none
theorem cn_int : CN X C (.type "int") (one1 intD) := by
  refine ⟨_, call_int1, fun S H xs ds rv Q st r e o => ?_⟩
  obtain ⟨d, hd, e'⟩ := one1_some e
  subst hd; clear e; have e := e'; clear e'
  obtain ⟨v, hv, r'⟩ := r.one
  subst hv; clear r; have r := r'; clear r'
  cases d with
  | int i => cases r; exact .inl ⟨i, rfl, OutP.valI e o st⟩
  | bl i => cases r; exact .inr ⟨i, rfl, OutP.valI e o st⟩
  | _ => cases e
def listD : D → Option RV
  | .lst ds => some (.own (.lst ds))
  | .tup ds => some (.own (.lst ds))
  | .scr ns => some (.own (.lst (ns.map .int)))
  | _ => none
theorem cn_list (hK : X.K = C.K) : CN X C (.type "list") (one1 listD) := by
  refine ⟨_, call_list_of, fun S H xs ds rv Q st r e o => ?_⟩
  obtain ⟨d, hd, e'⟩ := one1_some e
  subst hd; clear e; have e := e'; clear e'
  obtain ⟨v, hv, r'⟩ := r.one
  subst hv; clear r; have r := r'; clear r'
  rw [hK]
  cases d with
  | tup ds => obtain ⟨a, xs, rfl, h1, h2, _⟩ := r; cases e; exact ⟨a, xs, rfl, .inr h1, fun p n => (o fun _ z => by cases z).lst h2 n⟩
  | lst ds => obtain ⟨a, xs, rfl, h1, h2⟩ := r; cases e; exact ⟨a, xs, rfl, .inl (SqL.of h1), fun p n => (o fun _ z => by cases z).lst h2 n⟩
  | scr ns => obtain ⟨a, rfl, h1⟩ := r; cases e; exact ⟨a, _, rfl, .inl h1, fun p n => (o fun _ z => by cases z).lst (Reps.of_ints _) n⟩
  | _ => cases e
def tupleD : D → Option RV
  | .lst ds => some (.val (.tup ds))
  | .tup ds => some (.val (.tup ds))
  | .scr ns => some (.val (.tup (ns.map .int)))
  | _ => none
theorem cn_tuple (hK : X.K = C.K) : CN X C (.type "tuple") (one1 tupleD) := by
  refine ⟨_, call_tuple_of, fun S H xs ds rv Q st r e o => ?_⟩
  obtain ⟨d, hd, e'⟩ := one1_some e
  subst hd; clear e; have e := e'; clear e'
  obtain ⟨v, hv, r'⟩ := r.one
  subst hv; clear r; have r := r'; clear r'
  rw [hK]
  cases d with
  | tup ds => obtain ⟨a, xs, rfl, h1, h2, h3⟩ := r; cases e; exact ⟨a, xs, rfl, .inr ⟨h1, (o fun _ z => by cases z).flat st (.tup h3 h2)⟩⟩
  | lst ds => obtain ⟨a, xs, rfl, h1, h2⟩ := r; cases e; exact ⟨a, xs, rfl, .inl ⟨SqL.of h1, fun p n => (o fun _ z => by cases z).tup st h2 n⟩⟩
  | scr ns => obtain ⟨a, rfl, h1⟩ := r; cases e; exact ⟨a, _, rfl, .inl ⟨h1, fun p n => (o fun _ z => by cases z).tup st (Reps.of_ints _) n⟩⟩
  | _ => cases e

/-! ### sum, max, min, sorted of numbers; all, any of flags -/
/-- the numbers of a list -/
def lstI : D → Option (List Int)
  | .lst ds => intsD ds
  | .scr ns => some ns
  | _ => none
theorem lstI_ok {S H : Hp} {v : V} {d : D} {ns : List Int} (r : Rd C.K S H v d) (h : lstI d = some ns) : ∃ a, v = .ref a ∧ SqL C.K H a (ns.map V.int) := by
  cases d with
  | lst ds =>
    obtain ⟨a, xs, rfl, h1, h2⟩ := r
    rw [intsD_some h] at h2
    rw [h2.ints] at h1
    exact ⟨a, rfl, SqL.of h1⟩
  | scr ms => obtain ⟨a, rfl, h1⟩ := r; cases h; exact ⟨a, rfl, h1⟩
  | _ => cases h
def seqI : D → Option (List Int)
  | .lst ds => intsD ds
  | .scr ns => some ns
  | .tup ds => intsD ds
  | _ => none
theorem seqI_ok {S H : Hp} {v : V} {d : D} {ns : List Int} (r : Rd C.K S H v d) (h : seqI d = some ns) : ∃ a, v = .ref a ∧ (SqL C.K H a (ns.map V.int) ∨ SqT C.K H a (ns.map V.int)) := by
  cases d with
  | tup ds =>
    obtain ⟨a, xs, rfl, h1, h2, _⟩ := r
    rw [intsD_some h] at h2
    rw [h2.ints] at h1
    exact ⟨a, rfl, .inr h1⟩
  | lst ds =>
    obtain ⟨a, xs, rfl, h1, h2⟩ := r
    rw [intsD_some h] at h2
    rw [h2.ints] at h1
    exact ⟨a, rfl, .inl (SqL.of h1)⟩
  | scr ms => obtain ⟨a, rfl, h1⟩ := r; cases h; exact ⟨a, rfl, .inl h1⟩
  | _ => cases h
theorem keptT {s : Shared} {o' : Obj} {h' : Heap} (hk : ∀ b o, b ∉ [s.heap.objs.size] → (s.heap.push o').get? b = some o → h'.get? b = some o) : ∀ b o, s.heap.get? b = some o → h'.get? b = some o := fun b o e => by
  refine hk b o (fun hm => ?_) (Heap.get?_push_of_some _ e)
  rcases List.mem_cons.mp hm with e1 | hm
  · exact absurd (e1 ▸ Heap.lt_size e) (Nat.lt_irrefl _)
  · cases hm
theorem sumT_raw {prog : Program} {w : World} {A : Around} {E : Value → Shared → Prop} {s : Shared} {l : Addr} {its : List Value} {ns : List Int} {Q : Value → Shared → Prop} (hh : A.handled = none) (hl : s.heap.IsTuple l its.toArray) (hi : IntsAre its ns)
    (h : ∀ h' tk t', (∀ b o, s.heap.get? b = some o → h'.get? b = some o) → Q (.int ns.sum t') { s with heap := h', toks := tk }) : wpAny (model prog w) A (call (.builtin "sum") [.ref l]) Q E s := by
  obtain ⟨xs, e⟩ := hi.allInts.items
  have hn : numsOf (intItems xs).toList = ns := by rw [← e]; exact hi.numsOf
  rw [nums_intItems] at hn
  rw [e] at hl
  have hlt : l < s.heap.objs.size := by obtain ⟨_, e, _⟩ := hl; exact Heap.lt_size e
  have hp : ∀ o : Obj, (s.heap.push o).IsTuple l (intItems xs) := fun o => by
    obtain ⟨u, e1, e2⟩ := hl
    exact ⟨u, Heap.get?_push_of_some _ e1, e2⟩
  refine PySem.call_sum_walkG (wpAny_pyIter_tuple hl ?_)
  refine ⟨_, _, _, _, _, _, numAt xs, rfl, Walks.tuple (A := A.in1) hh _ l (Nat.ne_of_lt hlt) (intItems xs), ⟨⟨_, Heap.get?_push_size _ rfl, rfl, rfl⟩, hp _⟩, ?_, (fun _ _ => intItems_at), fun h' tk t' hk => ?_⟩
  · intro b hb
    show b < (s.heap.push _).objs.size
    rw [Heap.size_push]
    rcases List.mem_cons.mp hb with rfl | hb
    · exact Nat.lt_succ_self _
    · rcases List.mem_cons.mp hb with rfl | hb
      · exact Nat.lt_succ_of_lt hlt
      · cases hb
  · have := h h' tk t' (keptT hk)
    have e2 : preSum (numAt xs) (intItems xs).size = ns.sum := by
      have e3 : (intItems xs).size = xs.size := by simp [intItems]
      rw [e3, preSum_eq, List.take_of_length_le (by simp), hn]
    rw [e2]; exact this
def rSumX (K : PySem.W.Frag) : List V → Hp → VK → Prop := fun vs H Q => ∃ (a : Addr) (ns : List Int), vs = [V.ref a] ∧ (SqL K H a (ns.map V.int) ∨ SqT K H a (ns.map V.int)) ∧ Q (.int ns.sum) H
theorem cr_sumX (hc : X.calm = true) : CallR X (.builtin "sum") (rSumX X.K) := by
  intro pins s σ H vs us Q I r h
  obtain ⟨a, ns, rfl, hs | hs, q⟩ := h
  · exact cr_sum hc pins s σ H _ us Q I r ⟨a, ns, rfl, hs, q⟩
  · obtain ⟨its, rv, hl, _⟩ := I.tuple hs
    rw [Vals.ref1 r]
    exact sumT_raw (I.ok.hd hc) hl rv.ints fun h' tk t' hk => ⟨.int _, H, I.kept hk, ⟨_, rfl⟩, q⟩
def sumD (d : D) : Option RV := (seqI d).map fun ns => .val (.int ns.sum)
theorem cn_sum (hK : X.K = C.K) (hc : X.calm = true) : CN X C (.builtin "sum") (one1 sumD) := by
  refine ⟨_, cr_sumX hc, fun S H xs ds rv Q st r e o => ?_⟩
  obtain ⟨d, hd, e'⟩ := one1_some e
  subst hd; clear e; have e := e'; clear e'
  obtain ⟨v, hv, r'⟩ := r.one
  subst hv; clear r; have r := r'; clear r'
  rw [hK]
  unfold sumD at e
  cases q : seqI d with
  | none => rw [q] at e; cases e
  | some ns =>
    rw [q] at e
    obtain ⟨a, rfl, h⟩ := seqI_ok r q
    exact ⟨a, ns, rfl, h, OutP.valI e o st⟩
def maxL : List Int → Option Int
  | [] => none
  | n :: ns => some (ns.foldl max n)
def minL : List Int → Option Int
  | [] => none
  | n :: ns => some (ns.foldl min n)
theorem foldl_max : ∀ (ns : List Int) (n : Int), (ns.foldl max n ∈ n :: ns) ∧ ∀ y ∈ n :: ns, y ≤ ns.foldl max n
  | [], n => ⟨by simp, fun y hy => by simp at hy; subst hy; exact Int.le_refl _⟩
  | m :: ns, n => by
    obtain ⟨h1, h2⟩ := foldl_max ns (max n m)
    show (ns.foldl max (max n m) ∈ _) ∧ ∀ y ∈ _, y ≤ ns.foldl max (max n m)
    refine ⟨?_, fun y hy => ?_⟩
    · rcases List.mem_cons.mp h1 with h | h
      · rw [h]
        by_cases hm : n ≤ m
        · rw [Int.max_eq_right hm]; simp
        · rw [Int.max_eq_left (by omega)]; simp
      · simp [h]
    · have h3 := h2 (max n m) (by simp)
      rcases List.mem_cons.mp hy with h | h
      · subst h; omega
      · rcases List.mem_cons.mp h with h | h
        · subst h; omega
        · exact h2 y (by simp [h])
theorem foldl_min : ∀ (ns : List Int) (n : Int), (ns.foldl min n ∈ n :: ns) ∧ ∀ y ∈ n :: ns, ns.foldl min n ≤ y
  | [], n => ⟨by simp, fun y hy => by simp at hy; subst hy; exact Int.le_refl _⟩
  | m :: ns, n => by
    obtain ⟨h1, h2⟩ := foldl_min ns (min n m)
    show (ns.foldl min (min n m) ∈ _) ∧ ∀ y ∈ _, ns.foldl min (min n m) ≤ y
    refine ⟨?_, fun y hy => ?_⟩
    · rcases List.mem_cons.mp h1 with h | h
      · rw [h]
        by_cases hm : n ≤ m
        · rw [Int.min_eq_left hm]; simp
        · rw [Int.min_eq_right (by omega)]; simp
      · simp [h]
    · have h3 := h2 (min n m) (by simp)
      rcases List.mem_cons.mp hy with h | h
      · subst h; omega
      · rcases List.mem_cons.mp h with h | h
        · subst h; omega
        · exact h2 y (by simp [h])
def maxD : List D → Option RV
  | [.int i, .int j] => vI (if j > i then j else i)
  | [d] => ((lstI d).bind maxL).map fun n => .val (.int n)
  | _ => none
def minD : List D → Option RV
  | [.int i, .int j] => vI (if j < i then j else i)
  | [d] => ((lstI d).bind minL).map fun n => .val (.int n)
  | _ => none
theorem cn_max (hK : X.K = C.K) (hc : X.calm = true) : CN X C (.builtin "max") maxD := by
  refine ⟨_, CallR.or (call_max2 hc) (cr_max hc), fun S H xs ds rv Q st r e o => ?_⟩
  rw [hK]
  unfold maxD at e
  split at e
  · obtain ⟨v, w, rfl, r1, r2⟩ := r.two
    cases r1; cases r2
    exact .inl ⟨_, _, rfl, OutP.valI e o st⟩
  · rename_i d
    obtain ⟨v, hv, r'⟩ := r.one
    subst hv; clear r; have r := r'; clear r'
    cases q : lstI d with
    | none => rw [q] at e; cases e
    | some ns =>
      rw [q] at e
      obtain ⟨a, rfl, h⟩ := lstI_ok r q
      cases ns with
      | nil => cases e
      | cons n ns =>
        obtain ⟨h1, h2⟩ := foldl_max ns n
        refine .inr ⟨a, n :: ns, rfl, h, by simp, fun m hm hm' => ?_⟩
        have e2 : m = ns.foldl max n := Int.le_antisymm (h2 m hm) (hm' _ h1)
        subst e2
        exact OutP.valI e o st
  · cases e
theorem cn_min (hK : X.K = C.K) (hc : X.calm = true) : CN X C (.builtin "min") minD := by
  refine ⟨_, CallR.or (call_min2 hc) (cr_min hc), fun S H xs ds rv Q st r e o => ?_⟩
  rw [hK]
  unfold minD at e
  split at e
  · obtain ⟨v, w, rfl, r1, r2⟩ := r.two
    cases r1; cases r2
    exact .inl ⟨_, _, rfl, OutP.valI e o st⟩
  · rename_i d
    obtain ⟨v, hv, r'⟩ := r.one
    subst hv; clear r; have r := r'; clear r'
    cases q : lstI d with
    | none => rw [q] at e; cases e
    | some ns =>
      rw [q] at e
      obtain ⟨a, rfl, h⟩ := lstI_ok r q
      cases ns with
      | nil => cases e
      | cons n ns =>
        obtain ⟨h1, h2⟩ := foldl_min ns n
        refine .inr ⟨a, n :: ns, rfl, h, by simp, fun m hm hm' => ?_⟩
        have e2 : m = ns.foldl min n := Int.le_antisymm (hm' _ h1) (h2 m hm)
        subst e2
        exact OutP.valI e o st
  · cases e
def blsD : List D → Option (List Bool)
  | [] => some []
  | .bl i :: ds => (blsD ds).map (i :: ·)
  | _ :: _ => none
theorem blsD_some : ∀ {ds : List D} {ns : List Bool}, blsD ds = some ns → ds = ns.map D.bl
  | [], ns, h => by cases h; rfl
  | .bl i :: ds, ns, h => by
    have h : (blsD ds).map (i :: ·) = some ns := h
    cases q : blsD ds with
    | none => rw [q] at h; cases h
    | some ms => rw [q] at h; cases h; rw [blsD_some q]; rfl
  | .non :: _, _, h => nomatch h
  | .int _ :: _, _, h => nomatch h
  | .str _ :: _, _, h => nomatch h
  | .tup _ :: _, _, h => nomatch h
  | .lst _ :: _, _, h => nomatch h
  | .dic _ :: _, _, h => nomatch h
  | .scr _ :: _, _, h => nomatch h
  | .ty _ :: _, _, h => nomatch h
  | .fn _ :: _, _, h => nomatch h
  | .cls _ :: _, _, h => nomatch h
  | .obj _ _ :: _, _, h => nomatch h
theorem blsD_map (ns : List Bool) : blsD (ns.map D.bl) = some ns := by
  induction ns with
  | nil => rfl
  | cons n ns ih => show (blsD (ns.map D.bl)).map (n :: ·) = _; rw [ih]; rfl
def allD : D → Option RV
  | .lst ds => (blsD ds).map fun bs => .val (.bl (bs.all id))
  | _ => none
def anyD : D → Option RV
  | .lst ds => (blsD ds).map fun bs => .val (.bl (bs.any id))
  | _ => none
theorem cn_all (hK : X.K = C.K) (hc : CallR X (.builtin "all") (rAll X.K)) : CN X C (.builtin "all") (one1 allD) := by
  refine ⟨_, hc, fun S H xs ds rv Q st r e o => ?_⟩
  obtain ⟨d, hd, e'⟩ := one1_some e
  subst hd; clear e; have e := e'; clear e'
  obtain ⟨v, hv, r'⟩ := r.one
  subst hv; clear r; have r := r'; clear r'
  rw [hK]
  cases d with
  | lst ds =>
    obtain ⟨a, xs, rfl, h1, h2⟩ := r
    have e : (blsD ds).map (fun bs => RV.val (.bl (bs.all id))) = some rv := e
    cases q : blsD ds with
    | none => rw [q] at e; cases e
    | some bs =>
      rw [q] at e
      rw [blsD_some q] at h2
      rw [h2.bls] at h1
      exact ⟨a, bs, rfl, SqL.of h1, OutP.valB e o st⟩
  | _ => cases e
theorem cn_any (hK : X.K = C.K) (hc : CallR X (.builtin "any") (rAny X.K)) : CN X C (.builtin "any") (one1 anyD) := by
  refine ⟨_, hc, fun S H xs ds rv Q st r e o => ?_⟩
  obtain ⟨d, hd, e'⟩ := one1_some e
  subst hd; clear e; have e := e'; clear e'
  obtain ⟨v, hv, r'⟩ := r.one
  subst hv; clear r; have r := r'; clear r'
  rw [hK]
  cases d with
  | lst ds =>
    obtain ⟨a, xs, rfl, h1, h2⟩ := r
    have e : (blsD ds).map (fun bs => RV.val (.bl (bs.any id))) = some rv := e
    cases q : blsD ds with
    | none => rw [q] at e; cases e
    | some bs =>
      rw [q] at e
      rw [blsD_some q] at h2
      rw [h2.bls] at h1
      exact ⟨a, bs, rfl, SqL.of h1, OutP.valB e o st⟩
  | _ => cases e

/-! ### isinstance -/
def tyN : D → Option String
  | .non => some "NoneType"
  | .bl _ => some "bool"
  | .int _ => some "int"
  | .str _ => some "str"
  | .tup _ => some "tuple"
  | .lst _ => some "list"
  | .scr _ => some "list"
  | _ => none
inductive Ty where
  | int | bl | str | tup | lst
def Ty.nm : Ty → String
  | .int => "int" | .bl => "bool" | .str => "str" | .tup => "tuple" | .lst => "list"
def Ty.has : Ty → D → Bool
  | .int, .int _ => true
  | .int, .bl _ => true
  | .bl, .bl _ => true
  | .str, .str _ => true
  | .tup, .tup _ => true
  | .lst, .lst _ => true
  | .lst, .scr _ => true
  | _, _ => false
def isPlain : D → Bool
  | .non | .bl _ | .int _ | .str _ | .tup _ | .lst _ | .scr _ => true
  | _ => false
theorem tyN_ok {S H : Hp} {v : V} {d : D} {n : String} (r : Rd C.K S H v d) (h : tyN d = some n) : TyX C.K H v (.type n) := by
  cases d with
  | non => cases r; cases h; exact .base .non
  | bl b => cases r; cases h; exact .base (.bl b)
  | int b => cases r; cases h; exact .base (.int b)
  | str b => cases r; cases h; exact .base (.str b)
  | tup ds =>
    obtain ⟨a, xs, rfl, h1, _⟩ := r
    cases h
    rcases h1 with (h1 | ⟨o, h1⟩) | ⟨o, its, k, h1, h2, _⟩
    · exact .base (.tup h1)
    · exact .fTuple h1
    · exact .kTuple h1 h2
  | lst ds => obtain ⟨a, xs, rfl, h1, _⟩ := r; cases h; exact .base (.lst h1)
  | scr ns =>
    obtain ⟨a, rfl, h1⟩ := r
    cases h
    rcases h1 with (h1 | ⟨o, h1⟩) | ⟨o, its, k, h1, h2, _⟩
    · exact .base (.lst h1)
    · exact .base (.frz h1)
    · exact .kList h1 h2
  | _ => cases h
theorem Ty.ok (t : Ty) (d : D) (h : isPlain d = true) : ∃ n, tyN d = some n ∧ kitB n t.nm = some (t.has d) := by
  cases d <;> first | exact (Bool.false_ne_true h).elim | (cases t <;> exact ⟨_, rfl, by first | (show _ = some true; decide +kernel) | (show _ = some false; decide +kernel)⟩)
def isiD (ts : List Ty) (d : D) : Option RV := if isPlain d then some (.val (.bl (ts.any fun t => t.has d))) else none
theorem kit_any {K : PySem.W.Frag} {n : String} {d : D} (hn : tyN d = some n) (hp : isPlain d = true) : ∀ ts : List Ty, PySem.W.kitAny K (.type n) (ts.map fun t => Value.type t.nm) = some (ts.any fun t => t.has d)
  | [] => rfl
  | t :: ts => by
    obtain ⟨n', h1, h2⟩ := t.ok d hp
    rw [hn] at h1; cases h1
    refine kitAny_cons (b := t.has d) (kit_ty h2) (fun hb => ?_) (fun hb => ?_)
    · rw [kit_any hn hp ts, List.any_cons, hb, Bool.false_or]
    · rw [List.any_cons, hb, Bool.true_or]
def rIsiX (K : PySem.W.Frag) : List V → Hp → VK → Prop := fun xs H Q => ∃ (x : V) (tp : Addr) (cs : List V) (t : Value) (us : List Value) (b : Bool), xs = [x, .ref tp] ∧ SqT K H tp cs ∧ Paired ClsV cs us ∧ TyX K H x t ∧ PySem.W.kitAny K t us = some b ∧ Q (.bl b) H
theorem call_isiX : CallR X (.builtin "isinstance") (rIsiX X.K) := by
  intro pins s σ H xs us Q I r h
  obtain ⟨x, tp, cs, t, ws, b, rfl, hT, k, ty, e, q⟩ := h
  obtain ⟨u1, u2, rfl, r1, r2⟩ := vals2 r
  cases (show u2 = Value.ref tp from r2)
  obtain ⟨P, Z, p, hx⟩ := kit_of I r1 ty
  obtain ⟨its, rv, ⟨o, h1, h2, n, h3⟩, _⟩ := I.tuple hT
  have e3 := ClsV.all k rv
  subst e3
  obtain ⟨oc, od, dt, sl⟩ := o
  simp only at h2 h3
  subst h2 h3
  exact PySem.W.kia_tup Z I.kIn p h1 e hx fun tk => ⟨.bl b, H, I.tok tk, rfl, q⟩
/-- the classes asked for -/
def tyM : List Ty → M RV
  | [t] => constM (.ty t.nm)
  | ts => tupM (ts.map fun t => constM (.ty t.nm))
theorem reps_tys {K : PySem.W.Frag} {S : Hp} : ∀ {ts : List Ty} {vs : List V}, Reps K S vs (ts.map fun t => D.ty t.nm) → Paired ClsV vs (ts.map fun t => Value.type t.nm)
  | [], _, h => by cases h; exact .nil
  | t :: ts, _, h => by
    cases h with
    | cons a r => cases a; exact .cons (.ty _) (reps_tys r)
def isiF (ts : List Ty) : List D → Option RV
  | [d, .ty n] => match ts with
    | [t] => if n = t.nm then isiD [t] d else none
    | _ => none
  | [d, .tup ds] => none
  | _ => none
theorem argsM_consts (ts : List Ty) : argsM (ts.map fun t => constM (.ty t.nm)) = pure (ts.map fun t => Opd.val (.ty t.nm)) := by
  induction ts with
  | nil => rfl
  | cons t ts ih =>
    show (opd (constM (.ty t.nm)) >>= fun o => argsM (ts.map fun t => constM (.ty t.nm)) >>= fun os => pure (o :: os)) = _
    rw [ih]; rfl
theorem frzs_consts (ts : List Ty) : frzs (ts.map fun t => Opd.val (.ty t.nm)) = pure (ts.map fun t => D.ty t.nm) := by
  induction ts with
  | nil => rfl
  | cons t ts ih =>
    show (frz (.val (.ty t.nm)) >>= fun d => frzs (ts.map fun t => Opd.val (.ty t.nm)) >>= fun ds => pure (d :: ds)) = _
    rw [ih]; rfl
theorem tupM_consts (ts : List Ty) : tupM (ts.map fun t => constM (.ty t.nm)) = pure (.val (.tup (ts.map fun t => D.ty t.nm))) := by
  unfold tupM
  rw [argsM_consts]
  show (frzs (ts.map fun t => Opd.val (.ty t.nm)) >>= fun ds => (pure (.val (.tup ds)) : M RV)) = _
  rw [frzs_consts]; rfl
theorem Rds.of2 {K : PySem.W.Frag} {S H : Hp} {v w : V} {ds : List D} (h : Rds K S H [v, w] ds) : ∃ d e, ds = [d, e] ∧ Rd K S H v d ∧ Rd K S H w e := by
  cases h with | cons a r => cases r with | cons b r => cases r; exact ⟨_, _, rfl, a, b⟩
theorem Oprs.of2 {σ : L2.St} {S : Hp} {o q : Opd} {vs : List V} (h : Oprs C σ S [o, q] vs) : ∃ v w, vs = [v, w] ∧ Op C σ S o v ∧ Op C σ S q w := by
  cases h with | cons a r => cases r with | cons b r => cases r; exact ⟨_, _, rfl, a, b⟩
/-- isinstance(a, T) -/
theorem ve_isi1 (t : Ty) (vx : Vx X C W cf T) (hg : Gl X "isinstance") (hm : X.mg "isinstance" = none) (ha : VA X C W [a, b] [ma, constM (.ty t.nm)])
    (he : starEach [a, b] X.env = (false, eval a X.env) :: starEach [b] X.env := by rfl) (hpl : (backTo pos (starEach [b] X.env)).any (·.1) = false := by rfl) : VE X C W (.Call (.Name "isinstance" p) [a, b] [] pos) (unM (isiD [t]) ma) := by
  refine ⟨PE.imp (pe_callB call_isi hg hm rfl ha.pa (by decide) (by decide) he hpl) fun σ H Q h => ?_⟩
  rw [vx.K]
  obtain ⟨S, ρ, st, g⟩ := h
  have e : unM (isiD [t]) ma = argsM [ma, constM (.ty t.nm)] >>= fun os => looks os >>= fun ds => M.lift (match ds with | [d, _] => isiD [t] d | _ => none) := by
    funext ρ
    show ((opd ma ρ).bnd _) = ((((opd ma ρ).bnd _)).bnd _)
    cases opd ma ρ with
    | stuck => rfl
    | exc x r => rfl
    | ok o r =>
      show ((look o r).bnd _) = ((((look o r).bnd _)).bnd _)
      cases look o r <;> rfl
  rw [e] at g
  refine ⟨S, ρ, st, Good.bnd RVr.back g fun x ρ1 S1 H1 v e0 e1 r1 g1 => ?_⟩
  have hx : ∃ o, x = [o, .val (.ty t.nm)] := by
    have e0 : ((opd ma ρ).bnd fun o => (pure [o, .val (.ty t.nm)] : M (List Opd))) = .ok x ρ1 := e0
    cases q : opd ma ρ with
    | stuck => rw [q] at e0; cases e0
    | exc x r => rw [q] at e0; cases e0
    | ok o r => rw [q] at e0; cases e0; exact ⟨o, rfl⟩
  obtain ⟨o, rfl⟩ := hx
  obtain ⟨dx, h1, g3⟩ := Good.looks e1.st r1 g1
  obtain ⟨rv, h3, g5⟩ := Good.out e1.st g3
  obtain ⟨va, vb, rfl, ra, rb⟩ := r1.of2
  obtain ⟨d, d', rfl, k1, k3⟩ := h1.of2
  cases (show Rep C.K S1 _ (.ty t.nm) from rb)
  have h3 : isiD [t] d = some rv := h3
  unfold isiD at h3
  split at h3
  · rename_i hp
    cases h3
    obtain ⟨n, q1, q2⟩ := t.ok d hp
    refine ⟨_, _, .type n, .type t.nm, t.has d, rfl, .ty _, tyN_ok k1 q1, kit_ty q2, ?_⟩
    have z : Q (.bl ([t].any fun t => t.has d)) H1 := OutP.valB rfl g5 e1.st.same
    rw [List.any_cons, List.any_nil, Bool.or_false] at z
    exact z
  · cases h3
theorem ve_isiN (ts : List Ty) (vx : Vx X C W cf T) (hg : Gl X "isinstance") (hm : X.mg "isinstance" = none) (ha : VA X C W [a, b] [ma, tupM (ts.map fun t => constM (.ty t.nm))])
    (he : starEach [a, b] X.env = (false, eval a X.env) :: starEach [b] X.env := by rfl) (hpl : (backTo pos (starEach [b] X.env)).any (·.1) = false := by rfl) : VE X C W (.Call (.Name "isinstance" p) [a, b] [] pos) (unM (isiD ts) ma) := by
  refine ⟨PE.imp (pe_callB call_isiX hg hm rfl ha.pa (by decide) (by decide) he hpl) fun σ H Q h => ?_⟩
  rw [vx.K]
  obtain ⟨S, ρ, st, g⟩ := h
  rw [tupM_consts]
  have e : unM (isiD ts) ma = argsM [ma, pure (.val (.tup (ts.map fun t => D.ty t.nm)))] >>= fun os => looks os >>= fun ds => M.lift (match ds with | [d, _] => isiD ts d | _ => none) := by
    funext ρ
    show ((opd ma ρ).bnd _) = ((((opd ma ρ).bnd _)).bnd _)
    cases opd ma ρ with
    | stuck => rfl
    | exc x r => rfl
    | ok o r =>
      show ((look o r).bnd _) = ((((look o r).bnd _)).bnd _)
      cases look o r <;> rfl
  rw [e] at g
  refine ⟨S, ρ, st, Good.bnd RVr.back g fun x ρ1 S1 H1 v e0 e1 r1 g1 => ?_⟩
  have hx : ∃ o, x = [o, .val (.tup (ts.map fun t => D.ty t.nm))] := by
    have e0 : ((opd ma ρ).bnd fun o => (pure [o, .val (.tup (ts.map fun t => D.ty t.nm))] : M (List Opd))) = .ok x ρ1 := e0
    cases q : opd ma ρ with
    | stuck => rw [q] at e0; cases e0
    | exc x r => rw [q] at e0; cases e0
    | ok o r => rw [q] at e0; cases e0; exact ⟨o, rfl⟩
  obtain ⟨o, rfl⟩ := hx
  obtain ⟨dx, h1, g3⟩ := Good.looks e1.st r1 g1
  obtain ⟨rv, h3, g5⟩ := Good.out e1.st g3
  obtain ⟨va, vb, rfl, ra, rb⟩ := r1.of2
  obtain ⟨d, d', rfl, k1, k3⟩ := h1.of2
  have rb := (show Rep C.K S1 _ (.tup (ts.map fun t => D.ty t.nm)) from rb)
  have h3 : isiD ts d = some rv := h3
  cases rb with
  | tup t1 t2 =>
    unfold isiD at h3
    split at h3
    · rename_i hp
      cases h3
      have hn : ∃ n, tyN d = some n := by cases d <;> first | exact (Bool.false_ne_true hp).elim | exact ⟨_, rfl⟩
      obtain ⟨n, q1⟩ := hn
      exact ⟨_, _, _, .type n, _, _, rfl, same_t e1.st.same t1, reps_tys t2, tyN_ok k1 q1, kit_any q1 hp ts, OutP.valB rfl g5 e1.st.same⟩
    · cases h3
end
end VL

/-! VL part o: slices with a step; sorted. -/
namespace VL
open PySem L2 PySem.Spec PyProof PyProof.Rows
/-- the places of xs[lo:hi:c] -/
def stepIx (lo hi : Option Int) (c : Int) (n : Nat) : List Nat :=
  (List.range (Builtin.Slice.slicePlaces (Builtin.Slice.sliceAdjust lo hi c (n : Int)).1 (Builtin.Slice.sliceAdjust lo hi c (n : Int)).2 c)).map fun (m : Nat) => ((Builtin.Slice.sliceAdjust lo hi c (n : Int)).1 + (m : Int) * c).toNat
def pickAt {α : Type} (xs : List α) (is : List Nat) : List α := is.filterMap fun i => xs[i]?
section
variable {prog : Program} {w : World} {A : Around} {E : Value → Shared → Prop} {s : Shared}
theorem sliceApplied_step {sl : Addr} {vl vu vc : Value} {lo hi : Option Int} {c : Int} {n : Nat} {Q : Int × Int × Nat → Shared → Prop} (hs : s.heap.IsSliceOf sl vl vu vc) (pl : IsPart vl lo) (pu : IsPart vu hi) (pc : IsPart vc (some c)) (hc : c ≠ 0)
    (h : Q ((Builtin.Slice.sliceAdjust lo hi c (n : Int)).1, c, Builtin.Slice.slicePlaces (Builtin.Slice.sliceAdjust lo hi c (n : Int)).1 (Builtin.Slice.sliceAdjust lo hi c (n : Int)).2 c) s) : wpAny (model prog w) A (Builtin.Slice.sliceApplied (.ref sl) (pure (n : Int))) Q E s := by
  obtain ⟨os, hos, hcs, hds⟩ := id hs
  unfold Builtin.Slice.sliceApplied Builtin.Slice.sliceFields
  refine wpAny_bind (wpAny_bind (wpAny_field hos hds (x := vl) rfl (wpAny_bind (wpAny_field hos hds (x := vu) rfl (wpAny_bind (wpAny_field hos hds (x := vc) rfl (wpAny_pure ?_)))))))
  refine wpAny_bind (HT.slicePart_ pc ?_)
  show wpAny _ _ (if (c == 0) = true then _ else _) _ _ s
  rw [if_neg (by simpa using hc)]
  refine wpAny_bind (HT.slicePart_ pl (wpAny_bind (HT.slicePart_ pu (wpAny_bind (wpAny_pure ?_)))))
  show wpAny _ _ (match Builtin.Slice.sliceAdjust lo hi c (n : Int) with | (lo, hi) => pure (lo, c, Builtin.Slice.slicePlaces lo hi c)) _ _ s
  exact wpAny_pure h
theorem filterMap_le {α β : Type} (f : α → Option β) : ∀ l : List α, (l.filterMap f).length ≤ l.length
  | [] => Nat.le_refl _
  | a :: l => by
    rw [List.filterMap_cons]
    cases f a with
    | none => exact Nat.le_succ_of_le (filterMap_le f l)
    | some b => exact Nat.succ_le_succ (filterMap_le f l)
theorem getItem_tuple_step {t sl : Addr} {items : Array Value} {vl vu vc : Value} {lo hi : Option Int} {c : Int} {Q : Value → Shared → Prop} (ht : IsTup s.heap t items) (hs : s.heap.IsSliceOf sl vl vu vc) (pl : IsPart vl lo) (pu : IsPart vu hi) (pc : IsPart vc (some c)) (hc : c ≠ 0) (hc1 : c ≠ 1)
    (hz : (stepIx lo hi c items.size).length ≤ sizeLine)
    (h : Q (.ref s.heap.objs.size) { s with heap := s.heap.push { cls := .type "tuple", data := .seq (pickAt items.toList (stepIx lo hi c items.size)).toArray } }) : wpAny (model prog w) A (getItem (.ref t) (.ref sl)) Q E s := by
  have htake : sizeOk (.seq (pickAt items.toList (stepIx lo hi c items.size)).toArray) := by
    show (pickAt items.toList (stepIx lo hi c items.size)).toArray.size ≤ sizeLine
    rw [List.size_toArray]
    exact Nat.le_trans (filterMap_le _ _) hz
  obtain ⟨os, hos, hcs, hds⟩ := id hs
  have hTs : s.TypeIs (.ref sl) "slice" := ⟨os, hos, hcs⟩
  unfold getItem
  try with_reducible refine wpAny_holding ?_
  first | refine wpAny_bind (wpAny_pure ?_) | skip
  refine wpAny_bind (wpAny_sequenceKey ht.typeIs (by decide) ?_)
  refine wpAny_bind (wpAny_callSpecial?_slot (name := Str.ofString "__getitem__") ht.typeIs PyProof.Rows.slot_tuple_getitem
    (wpAny_call_entry PyProof.Rows.slot_tuple_getitem ht.typeIs entry_tuple_getitem ?_ (args_tuple_getitem _ _)))
  show wpAny _ _ (Builtin.Tuple.tupleItemsOf (.ref t) >>= _) _ _ s
  refine wpAny_bind (tupleItemsOf_ ht ?_)
  refine wpAny_bind (wpAny_typeOf hTs ?_)
  rw [if_pos (by decide)]
  refine wpAny_bind (sliceApplied_step hs pl pu pc hc ?_)
  have hno : ∀ (i : Int) (k : Nat), ¬ ((i == 0 && c == 1 && k == items.size) = true) := by
    intro i k q
    rw [Bool.and_eq_true, Bool.and_eq_true] at q
    exact hc1 (eq_of_beq q.1.2)
  have ep : ∀ (i : Int) (k : Nat), ((List.range k).filterMap fun (m : Nat) => items[(i + (m : Int) * c).toNat]?) = pickAt items.toList ((List.range k).map fun (m : Nat) => (i + (m : Int) * c).toNat) := by
    intro i k
    unfold pickAt
    rw [List.filterMap_map]
    congr 1
    funext m
    simp
  show wpAny _ _ (if ((Builtin.Slice.sliceAdjust lo hi c (items.size : Int)).1 == 0 && c == 1 && Builtin.Slice.slicePlaces (Builtin.Slice.sliceAdjust lo hi c (items.size : Int)).1 (Builtin.Slice.sliceAdjust lo hi c (items.size : Int)).2 c == items.size) = true then _ else _) _ _ s
  rw [if_neg (hno _ _), ep]
  first
    | exact wpAny_bind (m := Builtin.Tuple.tupleExact _) (wpAny_newObj_type (wpAny_pure ⟨_, rfl, wpAny_pure h⟩) htake)
    | exact wpAny_bind (m := Builtin.Tuple.tupleExact _) (wpAny_newObj_type (wpAny_bind (wpAny_pure (wpAny_pure ⟨_, rfl, wpAny_pure h⟩))) htake)
    | exact wpAny_bind (wpAny_bind (m := Builtin.Tuple.tupleExact _) (wpAny_newObj_type (wpAny_pure (wpAny_pure ⟨_, rfl, wpAny_pure h⟩)) htake))
    | exact wpAny_bind (wpAny_bind (m := Builtin.Tuple.tupleExact _) (wpAny_newObj_type (wpAny_pure ⟨_, rfl, wpAny_pure h⟩) htake))
end
section
variable {X : Cx} {C : Cfg} {W : WX} {cf : CF} {T : List (Str × Nat)} {e a b c : Expr} {ma mb mc : M RV} {pos p : Pos}
def rStep (K : PySem.W.Frag) : V → Option Int → Option Int → Int → Hp → VK → Prop := fun x lo hi c H Q => ∃ a xs, x = .ref a ∧ c ≠ 0 ∧
  ((SqL K H a xs ∧ ∀ p, H p = none → Q (.ref p) (upd H p (.lst (pickAt xs ((sliceRange (sliceBounds lo hi (some c) xs.length).1 (sliceBounds lo hi (some c) xs.length).2.1 (sliceBounds lo hi (some c) xs.length).2.2)))))) ∨
   (SqT K H a xs ∧ c ≠ 1 ∧ (stepIx lo hi c xs.length).length ≤ sizeLine ∧ ∀ p, H p = none → Q (.ref p) (upd H p (.tup (pickAt xs (stepIx lo hi c xs.length))))))
theorem vals_pick {xs : List V} {us : List Value} (r : Vals xs us) (is : List Nat) : Vals (pickAt xs is) (pickAt us is) := by
  unfold pickAt
  induction is with
  | nil => exact .nil
  | cons i is ih =>
    rw [List.filterMap_cons, List.filterMap_cons]
    cases q : xs[i]? with
    | none =>
      have : us[i]? = none := by
        rw [List.getElem?_eq_none_iff] at q ⊢
        rw [← r.length]; exact q
      rw [this]; exact ih
    | some v =>
      obtain ⟨u, h1, h2⟩ := r.get q
      rw [h1]
      exact .cons h2 ih
def tStep (K : PySem.W.Frag) (te : TE) (tl th tc : TO) : TE := fun σ H Q => te σ H fun x H1 => tl σ H1 fun l H2 => th σ H2 fun u H3 => tc σ H3 fun o H4 => ∃ c, o = some c ∧ rStep K x l u c H4 Q
theorem pe_step {lo hi : Option Expr} {st : Expr} {te : TE} {tl th tc : TO} {p2 : Pos} (he : PE X e te) (hl : PO X lo tl) (hu : PO X hi th) (hc : PO X (some st) tc) : PE X (.Subscript e (.Slice lo hi (some st) p2) pos) (tStep X.K te tl th tc) := by
  refine ⟨fun pins s σ H Q I h => ?_⟩
  refine Subscript_ (thn (he.run pins s σ H _ I h) fun v s1 ⟨x, H1, I1, r1, q1⟩ => ?_)
  refine wpAny_Slice (thn (hl.run pins s1 σ H1 _ I1 q1) fun vl s2 ⟨l, H2, I2, pl, q2⟩ => thn (hu.run pins s2 σ H2 _ I2 q2) fun vu s3 ⟨u, H3, I3, pu, q3⟩ => thn (hc.run pins s3 σ H3 _ I3 q3) fun vc s4 ⟨o, H4, I4, pc, q4⟩ => ?_)
  obtain ⟨c, rfl, a, xs, rfl, hc0, q5⟩ := q4
  cases r1
  have I5 : Inv X pins σ H4 { s4 with heap := s4.heap.push { cls := .type "slice", data := .fields #[vl, vu, vc] } } := I4.kept (t' := s4.toks) fun b ob q => Heap.get?_push_of_some _ q
  show wpAny (model X.prog X.w) X.A (subscriptTail e (.Slice lo hi (some st) p2) (.ref a) (.ref s4.heap.objs.size)) (EP X pins σ Q) X.xe { s4 with heap := s4.heap.push { cls := .type "slice", data := .fields #[vl, vu, vc] } }
  rcases q5 with ⟨hx, q⟩ | ⟨hx, hc1, hz1, q⟩
  · obtain ⟨its, r, ht, hz⟩ := I5.list hx
    have hlen := r.length
    refine tail_any (ops := [.ref a, .ref s4.heap.objs.size]) ht.isList.typeIs (PySem.slot_list_getitem.lookup) ?_ (by with_unfolding_all rfl)
    refine wpAny_getItem_list_slice ht.isList (Heap.IsSliceOf.new _ vl vu vc) pl pu pc (by simpa using hc0) ?_ (by rw [List.size_toArray]; omega)
    have e : slicePick its.toArray l u (some c) = (pickAt its (sliceRange (sliceBounds l u (some c) xs.length).1 (sliceBounds l u (some c) xs.length).2.1 (sliceBounds l u (some c) xs.length).2.2)).toArray := by
      unfold slicePick pickAt
      rw [List.size_toArray, ← hlen]
      congr 2
      funext i
      simp
    have hz2 := slicePick_size_le its.toArray l u (some c)
    rw [e] at hz2
    rw [e]
    refine ⟨.ref _, _, I5.laid (t' := s4.toks) (o := .lst _) (fun b ob q => Heap.get?_push_of_some _ q) (Nat.le_refl _) ?_, rfl, q _ (I5.hok.fresh (Nat.le_refl _))⟩
    have rp := vals_pick r (sliceRange (sliceBounds l u (some c) xs.length).1 (sliceBounds l u (some c) xs.length).2.1 (sliceBounds l u (some c) xs.length).2.2)
    refine ⟨?_, _, 0, rp, Heap.get?_push_size _ rfl⟩
    rw [rp.length]
    simp only [List.size_toArray] at hz2
    omega
  · obtain ⟨its, r, ht, hz⟩ := I5.tuple hx
    have hlen := r.length
    have hsz : its.toArray.size = xs.length := by rw [List.size_toArray]; exact hlen.symm
    refine tail_any (ops := [.ref a, .ref s4.heap.objs.size]) ht.typeIs (PyProof.Rows.slot_tuple_getitem.lookup) ?_ (by with_unfolding_all rfl)
    refine getItem_tuple_step ht (Heap.IsSliceOf.new _ vl vu vc) pl pu pc hc0 hc1 (by rw [hsz]; exact hz1) ?_
    rw [hsz]
    have rp := vals_pick r (stepIx l u c xs.length)
    refine ⟨.ref _, _, I5.laid (t' := s4.toks) (o := .tup _) (fun b ob q => Heap.get?_push_of_some _ q) (Nat.le_refl _) ?_, rfl, q _ (I5.hok.fresh (Nat.le_refl _))⟩
    exact ⟨Nat.le_trans (filterMap_le _ _) hz1, _, rp, IsTup.new _ _⟩
theorem Reps.pick {K : PySem.W.Frag} {S : Hp} {xs : List V} {ds : List D} (r : Reps K S xs ds) (is : List Nat) : Reps K S (pickAt xs is) (pickAt ds is) := by
  unfold pickAt
  induction is with
  | nil => exact .nil
  | cons i is ih =>
    rw [List.filterMap_cons, List.filterMap_cons]
    cases q : xs[i]? with
    | none =>
      have : ds[i]? = none := by
        rw [List.getElem?_eq_none_iff] at q ⊢
        rw [← r.len]; exact q
      rw [this]; exact ih
    | some v =>
      obtain ⟨d, h1, h2⟩ := r.at' q
      rw [h1]
      exact .cons h2 ih
def stD (lo hi c : Option Int) : D → Option RV
  | .tup ds => match c with
    | some c => if decide (c ≠ 0 ∧ c ≠ 1 ∧ (stepIx lo hi c ds.length).length ≤ LIM) then some (.val (.tup (pickAt ds (stepIx lo hi c ds.length)))) else none
    | none => none
  | .lst ds => match c with
    | some c => if decide (c ≠ 0) then some (.own (.lst (pickAt ds (sliceRange (sliceBounds lo hi (some c) ds.length).1 (sliceBounds lo hi (some c) ds.length).2.1 (sliceBounds lo hi (some c) ds.length).2.2)))) else none
    | none => none
  | _ => none
def stepM (ma : M RV) (ml mh mc : M (Option Int)) : M RV := opd ma >>= fun o => ml >>= fun lo => mh >>= fun hi => mc >>= fun c => look o >>= fun d => M.lift (stD lo hi c d)
theorem ve_step {ml mh mc : M (Option Int)} {lo hi : Option Expr} {st : Expr} {p2 : Pos} (vx : Vx X C W cf T) (ha : VE X C W a ma) (hl : VO X C W lo ml) (hh : VO X C W hi mh) (hc : VO X C W (some st) mc) : VE X C W (.Subscript a (.Slice lo hi (some st) p2) pos) (stepM ma ml mh mc) := by
  refine ⟨PE.imp (pe_step ha.pe hl.po hh.po hc.po) fun σ H Q h => ?_⟩
  obtain ⟨S, ρ, st, g⟩ := h
  refine ⟨S, ρ, st, Good.opd (Good.bnd RVr.back g fun x ρ1 S1 H1 v _ e1 r1 g1 => ?_)⟩
  refine ⟨S1, ρ1, e1.st, Good.bnd RVr.back g1 fun lo ρ2 S2 H2 lo' _ e2 r2 g2 => ?_⟩
  cases r2
  refine ⟨S2, ρ2, e2.st, Good.bnd RVr.back g2 fun hi ρ3 S3 H3 hi' _ e3 r3 g3 => ?_⟩
  cases r3
  refine ⟨S3, ρ3, e3.st, Good.bnd RVr.back g3 fun c ρ4 S4 H4 c' _ e4 r4 g4 => ?_⟩
  cases r4
  obtain ⟨d, h1, g4⟩ := Good.look e4.st (Op.fwd r1 (e2.ext.sS.trans (e3.ext.sS.trans e4.ext.sS))) g4
  obtain ⟨rv, h3, g5⟩ := Good.out e4.st g4
  have s3 := e4.st.same
  rw [vx.K]
  cases d with
  | lst ds =>
    obtain ⟨a, xs, rfl, h4, h5⟩ := h1
    cases c with
    | none => cases h3
    | some c =>
      have h3 : (if decide (c ≠ 0) then some (RV.own (.lst (pickAt ds (sliceRange (sliceBounds lo hi (some c) ds.length).1 (sliceBounds lo hi (some c) ds.length).2.1 (sliceBounds lo hi (some c) ds.length).2.2)))) else none) = some rv := h3
      split at h3
      · rename_i hc
        cases h3
        exact ⟨c, rfl, a, xs, rfl, of_decide_eq_true hc, .inl ⟨SqL.of h4, fun p n => by rw [h5.len]; exact (g5 fun _ z => by cases z).lst (h5.pick _) n⟩⟩
      · cases h3
  | tup ds =>
    obtain ⟨a, xs, rfl, h4, h5, h6⟩ := h1
    cases c with
    | none => cases h3
    | some c =>
      have h3 : (if decide (c ≠ 0 ∧ c ≠ 1 ∧ (stepIx lo hi c ds.length).length ≤ LIM) then some (RV.val (.tup (pickAt ds (stepIx lo hi c ds.length)))) else none) = some rv := h3
      split at h3
      · rename_i hc
        cases h3
        have hc := of_decide_eq_true hc
        rw [LIM_eq] at hc
        refine ⟨c, rfl, a, xs, rfl, hc.1, .inr ⟨h4, hc.2.1, by rw [h5.len]; exact hc.2.2, fun p n => ?_⟩⟩
        rw [h5.len]
        exact (g5 fun _ z => by cases z).tup s3 (h5.pick _) n
      · cases h3
  | _ => cases h3

/-! ### sorted numbers -/
def sortI (ns : List Int) : List Int := ns.mergeSort fun a b => decide (a ≤ b)
theorem sortI_perm (ns : List Int) : (sortI ns).Perm ns := List.mergeSort_perm _ _
theorem sortI_pw (ns : List Int) : (sortI ns).Pairwise (· ≤ ·) := by
  have h := List.pairwise_mergeSort (le := fun a b : Int => decide (a ≤ b)) (fun a b c h1 h2 => by simp at *; omega) (fun a b => by simp; omega) ns
  exact h.imp fun h => of_decide_eq_true h
theorem sorted_uniq : ∀ {xs ys : List Int}, xs.Perm ys → xs.Pairwise (· ≤ ·) → ys.Pairwise (· ≤ ·) → xs = ys :=
  fun h h1 h2 => h.eq_of_pairwise (fun a b _ _ hab hba => Int.le_antisymm hab hba) h1 h2
/-- the keys, all numbers -/
def dicI : D → Option (List Int)
  | .dic kvs => intsD (kvs.map fun kv => match kv.1 with | .inl i => D.int i | .inr x => D.str x)
  | _ => none
def sortedD (d : D) : Option RV := match lstI d with
  | some ns => some (.own (.lst ((sortI ns).map .int)))
  | none => match dicI d with
    | some ns => if ns.length < 64 then some (.own (.lst ((sortI ns).map .int))) else none
    | none => none
theorem inl_keys : ∀ {kvs : List (Key × D)} {ns : List Int}, intsD (kvs.map fun kv => match kv.1 with | .inl i => D.int i | .inr x => D.str x) = some ns → kvs.map Prod.fst = ns.map Sum.inl
  | [], ns, h => by cases h; rfl
  | (.inl i, d) :: r, ns, h => by
    have h : (intsD (r.map fun kv => match kv.1 with | .inl i => D.int i | .inr x => D.str x)).map (i :: ·) = some ns := h
    cases q : intsD (r.map fun kv => match kv.1 with | .inl i => D.int i | .inr x => D.str x) with
    | none => rw [q] at h; cases h
    | some ms => rw [q] at h; cases h; rw [List.map_cons, inl_keys q]; rfl
  | (.inr x, d) :: r, ns, h => nomatch h
theorem cn_sorted (hK : X.K = C.K) (hc : X.calm = true) : CN X C (.builtin "sorted") (one1 sortedD) := by
  refine ⟨_, CallR.or cr_sortedI (call_sortedDI hc), fun S H xs ds rv Q st r e o => ?_⟩
  obtain ⟨d, hd, e'⟩ := one1_some e
  subst hd; clear e; have e := e'; clear e'
  obtain ⟨v, hv, r'⟩ := r.one
  subst hv; clear r; have r := r'; clear r'
  rw [hK]
  unfold sortedD at e
  cases q : lstI d with
  | some ns =>
    rw [q] at e
    cases e
    obtain ⟨a, rfl, h⟩ := lstI_ok r q
    refine .inl ⟨a, ns, rfl, h, fun ns' p h1 h2 n => ?_⟩
    rw [sorted_uniq (h1.trans (sortI_perm ns).symm) h2 (sortI_pw ns)]
    exact (o fun _ z => by cases z).lst (Reps.of_ints _) n
  | none =>
    rw [q] at e
    cases q2 : dicI d with
    | none => rw [q2] at e; cases e
    | some ns =>
      rw [q2] at e
      have e : (if ns.length < 64 then some (RV.own (.lst ((sortI ns).map .int))) else none) = some rv := e
      split at e
      · rename_i hl
        cases e
        cases d with
        | dic kvs =>
          obtain ⟨a, rfl, ys, h1, h2, h3⟩ := r
          refine .inr ⟨a, ys, ns, rfl, .inl h1, h2.trans (inl_keys q2), hl, fun ns' p h1 h2 n => ?_⟩
          rw [sorted_uniq (h1.trans (sortI_perm ns).symm) h2 (sortI_pw ns)]
          exact (o fun _ z => by cases z).lst (Reps.of_ints _) n
        | _ => cases q2
      · cases e
end
end VL

/-! VL part p: short forms for the printed walks; the defs of a text; the law's end. -/
namespace VL
open PySem L2 PySem.Spec PyProof PyProof.Rows
section
variable {X : Cx} {C : Cfg} {W : WX} {cf : CF} {T : List (Str × Nat)} {e a b c : Expr} {es : List Expr} {ma mb mc : M RV} {ms : List (M RV)} {pos p py : Pos} {x : Str}
theorem ve_bo {op : Operator} {g : D → D → Option RV} (ho : O2 X C (binaryOp op) g) (ha : VE X C W a ma) (hb : VE X C W b mb) : VE X C W (.BinOp a op b pos) (binM g ma mb) := by
  obtain ⟨r, h1, h2⟩ := ho.ex
  exact ve_op h1 h2 ha hb
theorem ve_co {op : CmpOp} {g : D → D → Option RV} (ho : O2 X C (compareOp op) g) (ha : VE X C W a ma) (hb : VE X C W b mb) (hm : behindInMarks op b = false := by first | exact nomark _ | rfl) : VE X C W (.Compare a [op] [b] pos) (binM g ma mb) := by
  obtain ⟨r, h1, h2⟩ := ho.ex
  exact ve_cmp h1 h2 ha hb hm
theorem vt_co {op : CmpOp} {g : D → D → Option RV} (ho : O2 X C (compareOp op) g) (ha : VE X C W a ma) (hb : VE X C W b mb) (hm : behindInMarks op b = false := by first | exact nomark _ | rfl) : VT X C W (.Compare a [op] [b] pos) (binM g ma mb >>= asB) := by
  obtain ⟨r, h1, h2⟩ := ho.ex
  exact vt_cmp h1 h2 ha hb hm
theorem ve_co2 {op op' : CmpOp} {f g : D → D → Option RV} (ho : O2 X C (compareOp op) f) (ho' : O2 X C (compareOp op') g) (ha : VE X C W a ma) (hb : VE X C W b mb) (hc : VE X C W c mc)
    (hm : lastMarks [op, op'] [b, c] = false := by with_unfolding_all rfl) : VE X C W (.Compare a [op, op'] [b, c] pos) (chainM f g ma mb mc) := by
  obtain ⟨r, h1, h2⟩ := ho.ex
  obtain ⟨r', h1', h2'⟩ := ho'.ex
  exact ve_chain h1 h2 h1' h2' ha hb hc hm
theorem vt_co2 {op op' : CmpOp} {f g : D → D → Option RV} (ho : O2 X C (compareOp op) f) (ho' : O2 X C (compareOp op') g) (ha : VE X C W a ma) (hb : VE X C W b mb) (hc : VE X C W c mc)
    (hm : lastMarks [op, op'] [b, c] = false := by with_unfolding_all rfl) : VT X C W (.Compare a [op, op'] [b, c] pos) (chainM f g ma mb mc >>= asB) := by
  obtain ⟨r, h1, h2⟩ := ho.ex
  obtain ⟨r', h1', h2'⟩ := ho'.ex
  exact vt_chain h1 h2 h1' h2' ha hb hc hm
theorem ve_neg (ha : VE X C W a ma) : VE X C W (.UnaryOp .USub a pos) (unM negD ma) := ve_un un_neg p1_neg ha
def addI : D → D → Option RV := intI fun i j => vI (i + j)
theorem p2_addI : Prim2 C (ipI fun i j => i + j) addI := by
  intro S H x y dx dy rv Q st rx ry e o
  obtain ⟨i, j, rfl, rfl, e'⟩ := intI_some e
  cases rx; cases ry
  exact ⟨i, j, rfl, rfl, OutP.valI e' o st⟩
theorem p2_subI : Prim2 C (ipI fun i j => i - j) subD := by
  intro S H x y dx dy rv Q st rx ry e o
  obtain ⟨i, j, rfl, rfl, e'⟩ := intI_some e
  cases rx; cases ry
  exact ⟨i, j, rfl, rfl, OutP.valI e' o st⟩
theorem ve_gI {x : Str} {i : Int} (hg : Gl X x) (hm : ∃ t, X.mg x = some (.int i t)) (hd : (x == ("__debug__" : Str)) = false := by decide) : VE X C W (.Name x pos) (constM (.int i)) := by
  obtain ⟨t, hm⟩ := hm
  exact ve_gInt hg hm hd
theorem ve_gS {x : Str} {i : Str} (hg : Gl X x) (hm : ∃ t, X.mg x = some (.str i t)) (hd : (x == ("__debug__" : Str)) = false := by decide) : VE X C W (.Name x pos) (constM (.str i)) := by
  obtain ⟨t, hm⟩ := hm
  exact ve_gStr hg hm hd
end

/-! ### range with a step -/
def range3D : List D → Option (List D)
  | [.int a, .int b, .int c] => if Builtin.Range.small a b c && decide (c ≠ 0 ∧ c.natAbs < 1073741824) then some ((List.range (Builtin.Range.rangeSize a b c).toNat).map fun (i : Nat) => D.int (a + (i : Int) * c)) else none
  | _ => none
theorem range3D_some {ds es : List D} (h : range3D ds = some es) : ∃ a b c, ds = [.int a, .int b, .int c] ∧ RgC a b c (Builtin.Range.rangeSize a b c).toNat ∧ es = (List.range (Builtin.Range.rangeSize a b c).toNat).map fun (i : Nat) => D.int (a + (i : Int) * c) := by
  unfold range3D at h
  split at h
  · split at h
    · rename_i q
      cases h
      rw [Bool.and_eq_true, decide_eq_true_eq] at q
      exact ⟨_, _, _, rfl, ⟨q.2.1, q.2.2, q.1, rangeSize_toNat _ _ _⟩, rfl⟩
    · cases h
  · cases h
theorem Reps.three {K : PySem.W.Frag} {S : Hp} {vs : List V} {d e f : D} (h : Reps K S vs [d, e, f]) : ∃ v w u, vs = [v, w, u] ∧ Rep K S v d ∧ Rep K S w e ∧ Rep K S u f := by
  cases h with | cons a r => cases r with | cons b r => cases r with | cons c r => cases r; exact ⟨_, _, _, rfl, a, b, c⟩
theorem vi_range3 {X : Cx} {C : Cfg} {W : WX} {a b c tg : Expr} {ms : List (M RV)} {p pos : Pos} (hg : Gl X "range") (hm : X.mg "range" = none) (ha : VA X C W [a, b, c] ms) (hs : starEach [a, b, c] X.env = (false, eval a X.env) :: starEach [b, c] X.env := by rfl) (hpl : (backTo pos (starEach [b, c] X.env)).any (·.1) = false := by rfl) :
    VI X C W tg (.Call (.Name "range" p) [a, b, c] [] pos) (srcF range3D ms) := by
  refine ⟨VL.PI.imp (pi_range3 hg hm ha.pa hs hpl) fun σ H R h => ?_⟩
  obtain ⟨S, ρ, st, g⟩ := tI_src h
  refine ⟨S, ρ, st, Good.mono g fun vs H1 ⟨S1, ds, es, s1, r1, q1, k⟩ => ?_⟩
  obtain ⟨i, j, l, rfl, h1, rfl⟩ := range3D_some q1
  obtain ⟨v, w, u, rfl, r1, r2, r3⟩ := r1.three
  cases r1; cases r2; cases r3
  refine ⟨i, j, l, _, rfl, h1, k _ ?_⟩
  have hl : ((List.range (Builtin.Range.rangeSize i j l).toNat).map fun (m : Nat) => D.int (i + (m : Int) * l)).length = (Builtin.Range.rangeSize i j l).toNat := by simp
  refine WalkD.fn (by rw [hl]; exact walk_rangeC) (fun _ _ => trivial) fun m hm => ⟨.int (i + (m : Int) * l), ?_, fun S => .int _⟩
  rw [hl] at hm
  rw [List.getElem?_map, List.getElem?_range hm]; rfl

/-! ### the defs of a text -/
def callN (tab : List (CF → M RV)) : Nat → CF
  | 0, _ => M.stuck
  | k + 1, i => match tab[i]? with
    | some f => f (callN tab k)
    | none => M.stuck
theorem callN_succ {tab : List (CF → M RV)} {k i : Nat} {f : CF → M RV} (h : tab[i]? = some f) : callN tab (k + 1) i = f (callN tab k) := by
  show (match tab[i]? with | some f => f (callN tab k) | none => M.stuck) = _
  rw [h]
section
variable {P : Program} {w : World} {K : PySem.W.Frag} {mg : Str → Option Value} {base : Heap} {C : Cfg} {tab : List (CF → M RV)} {T : List (Str × Nat)}
/-- what is known of a def ahead of its body's walk -/
structure DefIn (P : Program) (w : World) (K : PySem.W.Frag) (mg : Str → Option Value) (C : Cfg) (T : List (Str × Nat)) (x : Str) (np ns : Nat) (body : CF → MS) : Prop where
  ex : ∃ (st : Stmt) (f : Addr) (fd : FuncData) (N ps : List Str), Fun K x x st f fd ∧ FnScope N ps (defScope st) ∧ ps.length = np ∧ N.length = ns ∧ mg x = some (.ref f) ∧ Binds K fd ps [] ∧
    ∀ (base : Heap) (cf : CF) (cdv : Value) (A : Around) (outer : List PySem.Env) (s : Shared) (H : Hp) (E : XK), Vx (cxOf (L2.CX P w) P w K mg base N x (defScope st) f cdv A outer s H E) C (fun cls d _ H => E cls d H) cf T →
      VSs (cxOf (L2.CX P w) P w K mg base N x (defScope st) f cdv A outer s H E) C (fun cls d _ H => E cls d H) (defBody st) (body cf)
def DefAt (P : Program) (w : World) (K : PySem.W.Frag) (mg : Str → Option Value) (C : Cfg) (T : List (Str × Nat)) (tab : List (CF → M RV)) : Prop :=
  ∀ (i : Nat) (x : Str) (np : Nat), T[i]? = some (x, np) → ∃ (ns : Nat) (body : CF → MS), tab[i]? = some (fun cf => runDef ns (body cf)) ∧ DefIn P w K mg C T x np ns body
theorem tab_ok (hC : C.K = K) (h : DefAt P w K mg C T tab) : ∀ k, TabOk P w K mg base k C (callN tab k) T
  | 0 => fun i x np hT => by
    obtain ⟨ns, body, h1, h2⟩ := h i x np hT
    obtain ⟨st, f, fd, N, ps, F, Sc, hp, hN, hm, hb, hw⟩ := h2.ex
    refine ⟨f, fd, ps, hm, F.kp, hb, hp, fun vs H Q E q => ?_, fun A outer s H args us vs Q E _ _ _ _ _ q => ?_⟩
    · obtain ⟨S, as, _, _, g⟩ := q; exact g.elim
    · obtain ⟨S, as, _, _, g⟩ := q; exact g.elim
  | k + 1 => fun i x np hT => by
    obtain ⟨ns, body, h1, h2⟩ := h i x np hT
    obtain ⟨st, f, fd, N, ps, F, Sc, hp, hN, hm, hb, hw⟩ := h2.ex
    exact ⟨f, fd, ps, hm, F.kp, hb, hp, def_ok F Sc hC hp hN (callN_succ h1) (tab_ok hC h k) fun cdv A outer s H E vx => hw base _ cdv A outer s H E vx⟩
/-- the law by its mirror -/
theorem sp_law {cf : CF} {i : Nat} {H : Hp} {a : Addr} {ns : List Int} (hS : SqL C.K H a (ns.map V.int)) (h : ∃ ρ', cf i [.val (.scr ns)] = .ok (.val (.bl true)) ρ') : spOf C cf i 1 [.ref a] H (fun v _ => v = .bl true) fun _ _ _ => False := by
  obtain ⟨ρ', h⟩ := h
  refine ⟨H, [.val (.scr ns)], rfl, ⟨Same.refl _, rfl, fun j d e => ?_, fun j d e => ?_, fun j1 j2 d1 d2 p e1 e2 => ?_⟩, ?_⟩
  · cases j with
    | zero => cases e; exact ⟨_, rfl, .scr hS⟩
    | succ j => cases e
  · cases j with
    | zero => cases e
    | succ j => cases e
  · cases j1 with
    | zero => cases e1
    | succ j => cases e1
  · rw [h]
    intro S' H' b st r
    cases (show Rep C.K S' b (.bl true) from r)
    rfl
end
theorem law_walk {l : PySem.W.OpenLaw} {q : Program} {loose : List Str} {XP : (Str → Option Value) → Heap → Prop} {YP : World → Heap → Prop} {d : DefRec} {K : Params → PySem.W.Frag} {tab : List (CF → M RV)} {k i : Nat} (hn : l.most = some 63) (hdf : d.params.defaults = []) (hr : Room k callerA)
    (hY : ∀ (w : World) (h : Heap), YP w h → (K w.params).In h)
    (math : ∀ ns : List Int, ns.length ≤ 63 → ∃ ρ', callN tab k i [.val (.scr ns)] = .ok (.val (.bl true)) ρ')
    (F : ∀ (w : World) (mg : Str → Option Value) (fa : Addr) (h : Heap), (K w.params).In h → h.Ns mainGlobals mg → mg d.name = some (.ref fa) →
      ∃ fd : FuncData, (∀ (s : Shared) (u : Value), BindsTo s fd ⟨[u], []⟩ [("script", u)]) ∧ ∀ base : Heap, (K w.params).In base → base.Ns mainGlobals mg →
        FnG l.prog w (K w.params) mg base (L2.CX l.prog w) k fa fd ["script"] (spOf ⟨K w.params, fun _ _ _ _ => False⟩ (callN tab k) i 1)) :
    PySem.W.WalkO q loose XP YP l.row.toRowW d [] (fun f vs => PySem.call f vs) :=
  walk_top (n := 63) (k := k) (x := "script") (CX := fun w => L2.CX l.prog w) (sp := fun w => spOf ⟨K w.params, fun _ _ _ _ => False⟩ (callN tab k) i 1) hn (by decide) hdf hr hY F
    (fun w H a ns hl _ hS => sp_law (C := ⟨K w.params, fun _ _ _ _ => False⟩) hS (math ns hl)) fun w H s e s' z => by
      obtain ⟨_, _, _, _, _, _, _, _, _, _, _, _, z⟩ := z
      exact z.elim
end VL

/-! VL part q: running a mirror, step by step (each step a name, so that simp looks at no continuation). -/
namespace VL
open PySem
section
variable {α β : Type}
def liftR (o : Option α) (ρ : Env) : Res α := M.lift o ρ
@[simp] theorem liftR_some (a : α) (ρ : Env) : liftR (some a) ρ = .ok a ρ := rfl
def ifR (c : Bool) (m n : M α) : M α := fun ρ => if c = true then m ρ else n ρ
@[simp] theorem ifR_true (m n : M α) (ρ : Env) : ifR true m n ρ = m ρ := rfl
@[simp] theorem ifR_false (m n : M α) (ρ : Env) : ifR false m n ρ = n ρ := rfl
def lookO : Opd → Env → Option D
  | .val d, _ => some d
  | .bor i, ρ => ownD ρ i
@[simp] theorem lookO_val (d : D) (ρ : Env) : lookO (.val d) ρ = some d := rfl
@[simp] theorem lookO_bor (i : Nat) (ρ : Env) : lookO (.bor i) ρ = ownD ρ i := rfl
theorem look_eq (o : Opd) (ρ : Env) : look o ρ = liftR (lookO o ρ) ρ := by
  cases o with
  | val d => rfl
  | bor i =>
    show (match ownD ρ i with | some d => Res.ok d ρ | none => .stuck) = M.lift (ownD ρ i) ρ
    cases ownD ρ i <;> rfl
theorem ite_M {α : Type} (c : Prop) [Decidable c] (m n : M α) (ρ : Env) : (if c then m else n) ρ = if c then m ρ else n ρ := by split <;> rfl
@[simp] theorem constM_ap (d : D) (ρ : Env) : constM d ρ = .ok (.val d) ρ := rfl
def var1 (i : Nat) (ρ : Env) : Option D → Option D → Res RV
  | some d, _ => .ok (.val d) ρ
  | none, some _ => .ok (.bor i) ρ
  | none, none => .stuck
@[simp] theorem varM_ap (i : Nat) (ρ : Env) : varM i ρ = var1 i ρ (valD ρ i) (ownD ρ i) := by
  show (match valD ρ i with
  | some d => Res.ok (RV.val d) ρ
  | none => match ownD ρ i with
    | some _ => .ok (.bor i) ρ
    | none => .stuck) = _
  cases valD ρ i <;> cases ownD ρ i <;> rfl
@[simp] theorem var1_some (i : Nat) (ρ : Env) (d : D) (o : Option D) : var1 i ρ (some d) o = .ok (.val d) ρ := rfl
@[simp] theorem var1_none (i : Nat) (ρ : Env) (d : D) : var1 i ρ none (some d) = .ok (.bor i) ρ := rfl
@[simp] theorem valD_val (d : D) (ρ : Env) : valD (.val d :: ρ) 0 = some d := rfl
@[simp] theorem valD_bfz (d : D) (ρ : Env) : valD (.bfz d :: ρ) 0 = some d := rfl
@[simp] theorem valD_own (d : D) (ρ : Env) : valD (.own d :: ρ) 0 = none := rfl
@[simp] theorem valD_bow (d : D) (ρ : Env) : valD (.bow d :: ρ) 0 = none := rfl
@[simp] theorem valD_s (s : Slot) (ρ : Env) (i : Nat) : valD (s :: ρ) (i + 1) = valD ρ i := rfl
@[simp] theorem ownD_val (d : D) (ρ : Env) : ownD (.val d :: ρ) 0 = none := rfl
@[simp] theorem ownD_bfz (d : D) (ρ : Env) : ownD (.bfz d :: ρ) 0 = none := rfl
@[simp] theorem ownD_own (d : D) (ρ : Env) : ownD (.own d :: ρ) 0 = some d := rfl
@[simp] theorem ownD_bow (d : D) (ρ : Env) : ownD (.bow d :: ρ) 0 = some d := rfl
@[simp] theorem ownD_s (s : Slot) (ρ : Env) (i : Nat) : ownD (s :: ρ) (i + 1) = ownD ρ i := rfl

def opd1 (r : Res RV) : Res Opd := r.bnd fun rv => match rv with
  | .val d => pure (.val d)
  | .own d => pure (.val d)
  | .bor i => pure (.bor i)
@[simp] theorem opd_ap (m : M RV) (ρ : Env) : opd m ρ = opd1 (m ρ) := rfl
@[simp] theorem opd1_val (d : D) (ρ : Env) : opd1 (.ok (.val d) ρ) = .ok (.val d) ρ := rfl
@[simp] theorem opd1_own (d : D) (ρ : Env) : opd1 (.ok (.own d) ρ) = .ok (.val d) ρ := rfl
@[simp] theorem opd1_bor (i : Nat) (ρ : Env) : opd1 (.ok (.bor i) ρ) = .ok (.bor i) ρ := rfl
def opLift (f : D → Option α) (o : Option D) (ρ : Env) : Res α := match o with
  | some d => liftR (f d) ρ
  | none => .stuck
@[simp] theorem opLift_some (f : D → Option α) (d : D) (ρ : Env) : opLift f (some d) ρ = liftR (f d) ρ := rfl
theorem look_lift (f : D → Option α) (o : Opd) (ρ : Env) : (look o ρ).bnd (fun d => M.lift (f d)) = opLift f (lookO o ρ) ρ := by
  rw [look_eq]; cases lookO o ρ <;> rfl
def un1 (f : D → Option RV) (r : Res Opd) : Res RV := r.bnd fun x => look x >>= fun dx => M.lift (f dx)
@[simp] theorem unM_ap (f : D → Option RV) (a : M RV) (ρ : Env) : unM f a ρ = un1 f (opd a ρ) := rfl
@[simp] theorem un1_ok (f : D → Option RV) (x : Opd) (ρ : Env) : un1 f (.ok x ρ) = opLift f (lookO x ρ) ρ := look_lift f x ρ
def bin3 (f : D → D → Option RV) (x y : Option D) (ρ : Env) : Res RV := match x, y with
  | some x, some y => liftR (f x y) ρ
  | _, _ => .stuck
@[simp] theorem bin3_some (f : D → D → Option RV) (x y : D) (ρ : Env) : bin3 f (some x) (some y) ρ = liftR (f x y) ρ := rfl
theorem look_bin (f : D → D → Option RV) (x y : Opd) (ρ : Env) : (look x ρ).bnd (fun dx => look y >>= fun dy => M.lift (f dx dy)) = bin3 f (lookO x ρ) (lookO y ρ) ρ := by
  rw [look_eq]
  cases lookO x ρ with
  | none => rfl
  | some dx =>
    show (look y ρ).bnd _ = _
    rw [look_eq]
    cases lookO y ρ <;> rfl
def bin2 (f : D → D → Option RV) (x : Opd) (r : Res Opd) : Res RV := r.bnd fun y => look x >>= fun dx => look y >>= fun dy => M.lift (f dx dy)
@[simp] theorem bin2_ok (f : D → D → Option RV) (x y : Opd) (ρ : Env) : bin2 f x (.ok y ρ) = bin3 f (lookO x ρ) (lookO y ρ) ρ := look_bin f x y ρ
def bin1 (f : D → D → Option RV) (b : M RV) (r : Res Opd) : Res RV := r.bnd fun x => opd b >>= fun y => look x >>= fun dx => look y >>= fun dy => M.lift (f dx dy)
@[simp] theorem binM_ap (f : D → D → Option RV) (a b : M RV) (ρ : Env) : binM f a b ρ = bin1 f b (opd a ρ) := rfl
@[simp] theorem bin1_ok (f : D → D → Option RV) (b : M RV) (x : Opd) (ρ : Env) : bin1 f b (.ok x ρ) = bin2 f x (opd b ρ) := rfl
def args2 (o : Opd) (r : Res (List Opd)) : Res (List Opd) := r.bnd fun os => pure (o :: os)
def args1 (ms : List (M RV)) (r : Res Opd) : Res (List Opd) := r.bnd fun o => argsM ms >>= fun os => pure (o :: os)
@[simp] theorem argsM_nil (ρ : Env) : argsM [] ρ = .ok [] ρ := rfl
@[simp] theorem argsM_cons (m : M RV) (ms : List (M RV)) (ρ : Env) : argsM (m :: ms) ρ = args1 ms (opd m ρ) := rfl
@[simp] theorem args1_ok (ms : List (M RV)) (o : Opd) (ρ : Env) : args1 ms (.ok o ρ) = args2 o (argsM ms ρ) := rfl
@[simp] theorem args2_ok (o : Opd) (os : List Opd) (ρ : Env) : args2 o (.ok os ρ) = .ok (o :: os) ρ := rfl
def looksO : List Opd → Env → Option (List D)
  | [], _ => some []
  | o :: os, ρ => match lookO o ρ, looksO os ρ with
    | some d, some ds => some (d :: ds)
    | _, _ => none
def consO : Option D → Option (List D) → Option (List D)
  | some d, some ds => some (d :: ds)
  | _, _ => none
@[simp] theorem consO_some (d : D) (ds : List D) : consO (some d) (some ds) = some (d :: ds) := rfl
@[simp] theorem looksO_nil (ρ : Env) : looksO [] ρ = some [] := rfl
@[simp] theorem looksO_cons (o : Opd) (os : List Opd) (ρ : Env) : looksO (o :: os) ρ = consO (lookO o ρ) (looksO os ρ) := by
  show (match lookO o ρ, looksO os ρ with
    | some d, some ds => some (d :: ds)
    | _, _ => none) = _
  cases lookO o ρ <;> cases looksO os ρ <;> rfl
theorem looks_eq : ∀ (os : List Opd) (ρ : Env), looks os ρ = liftR (looksO os ρ) ρ
  | [], ρ => rfl
  | o :: os, ρ => by
    show (look o ρ).bnd _ = _
    rw [look_eq, looksO_cons]
    cases lookO o ρ with
    | none => rfl
    | some d =>
      show (looks os ρ).bnd _ = _
      rw [looks_eq os ρ]
      cases looksO os ρ <;> rfl
def prim2 (f : List D → Option RV) (o : Option (List D)) (ρ : Env) : Res RV := match o with
  | some ds => liftR (f ds) ρ
  | none => .stuck
@[simp] theorem prim2_some (f : List D → Option RV) (ds : List D) (ρ : Env) : prim2 f (some ds) ρ = liftR (f ds) ρ := rfl
def prim1 (f : List D → Option RV) (r : Res (List Opd)) : Res RV := r.bnd fun os => looks os >>= fun ds => M.lift (f ds)
@[simp] theorem primM_ap (f : List D → Option RV) (ms : List (M RV)) (ρ : Env) : primM f ms ρ = prim1 f (argsM ms ρ) := rfl
@[simp] theorem prim1_ok (f : List D → Option RV) (os : List Opd) (ρ : Env) : prim1 f (.ok os ρ) = prim2 f (looksO os ρ) ρ := by
  show (looks os ρ).bnd _ = _
  rw [looks_eq]; cases looksO os ρ <;> rfl
def frz1 : Option (D × Env) → Res D
  | some (d, ρ) => .ok d ρ
  | none => .stuck
@[simp] theorem frz1_some (d : D) (ρ : Env) : frz1 (some (d, ρ)) = .ok d ρ := rfl
@[simp] theorem frz_val (d : D) (ρ : Env) : frz (.val d) ρ = .ok d ρ := rfl
@[simp] theorem frz_bor (i : Nat) (ρ : Env) : frz (.bor i) ρ = frz1 (frzSlot i ρ) := by
  show (match frzSlot i ρ with | some (d, ρ') => Res.ok d ρ' | none => .stuck) = _
  cases frzSlot i ρ <;> rfl
def frzS1 (i : Nat) (ρ : Env) : Option Slot → Option (D × Env)
  | some (.own d) => some (d, ρ.set i (.val d))
  | some (.bow d) => some (d, ρ.set i (.bfz d))
  | _ => none
@[simp] theorem frzSlot_ap (i : Nat) (ρ : Env) : frzSlot i ρ = frzS1 i ρ ρ[i]? := by
  show (match ρ[i]? with
  | some (.own d) => some (d, ρ.set i (.val d))
  | some (.bow d) => some (d, ρ.set i (.bfz d))
  | _ => none) = _
  cases ρ[i]? with
  | none => rfl
  | some s => cases s <;> rfl
@[simp] theorem frzS1_own (i : Nat) (ρ : Env) (d : D) : frzS1 i ρ (some (.own d)) = some (d, ρ.set i (.val d)) := rfl
@[simp] theorem frzS1_bow (i : Nat) (ρ : Env) (d : D) : frzS1 i ρ (some (.bow d)) = some (d, ρ.set i (.bfz d)) := rfl
def frzs2 (d : D) (r : Res (List D)) : Res (List D) := r.bnd fun ds => pure (d :: ds)
def frzs1 (os : List Opd) (r : Res D) : Res (List D) := r.bnd fun d => frzs os >>= fun ds => pure (d :: ds)
@[simp] theorem frzs_nil (ρ : Env) : frzs [] ρ = .ok [] ρ := rfl
@[simp] theorem frzs_cons (o : Opd) (os : List Opd) (ρ : Env) : frzs (o :: os) ρ = frzs1 os (frz o ρ) := rfl
@[simp] theorem frzs1_ok (os : List Opd) (d : D) (ρ : Env) : frzs1 os (.ok d ρ) = frzs2 d (frzs os ρ) := rfl
@[simp] theorem frzs2_ok (d : D) (ds : List D) (ρ : Env) : frzs2 d (.ok ds ρ) = .ok (d :: ds) ρ := rfl
def tup2 (r : Res (List D)) : Res RV := r.bnd fun ds => pure (.val (.tup ds))
def tup1 (r : Res (List Opd)) : Res RV := r.bnd fun os => frzs os >>= fun ds => pure (.val (.tup ds))
@[simp] theorem tupM_ap (ms : List (M RV)) (ρ : Env) : tupM ms ρ = tup1 (argsM ms ρ) := rfl
@[simp] theorem tup1_ok (os : List Opd) (ρ : Env) : tup1 (.ok os ρ) = tup2 (frzs os ρ) := rfl
@[simp] theorem tup2_ok (ds : List D) (ρ : Env) : tup2 (.ok ds ρ) = .ok (.val (.tup ds)) ρ := rfl
def lst2 (r : Res (List D)) : Res RV := r.bnd fun ds => pure (.own (.lst ds))
def lst1 (r : Res (List Opd)) : Res RV := r.bnd fun os => frzs os >>= fun ds => pure (.own (.lst ds))
@[simp] theorem lstM_ap (ms : List (M RV)) (ρ : Env) : lstM ms ρ = lst1 (argsM ms ρ) := rfl
@[simp] theorem lst1_ok (os : List Opd) (ρ : Env) : lst1 (.ok os ρ) = lst2 (frzs os ρ) := rfl
@[simp] theorem lst2_ok (ds : List D) (ρ : Env) : lst2 (.ok ds ρ) = .ok (.own (.lst ds)) ρ := rfl
def asB1 (r : Res RV) : Res Bool := r.bnd asB
@[simp] theorem asB_ap (m : M RV) (ρ : Env) : (m >>= asB) ρ = asB1 (m ρ) := rfl
@[simp] theorem asB1_ok (b : Bool) (ρ : Env) : asB1 (.ok (.val (.bl b)) ρ) = .ok b ρ := rfl
@[simp] theorem asB_val (b : Bool) (ρ : Env) : asB (.val (.bl b)) ρ = .ok b ρ := rfl
def tru1 (r : Res Opd) : Res Bool := r.bnd fun o => look o >>= fun d => M.lift (truD d)
@[simp] theorem truM_ap (m : M RV) (ρ : Env) : truM m ρ = tru1 (opd m ρ) := rfl
@[simp] theorem tru1_ok (o : Opd) (ρ : Env) : tru1 (.ok o ρ) = opLift truD (lookO o ρ) ρ := look_lift truD o ρ
@[simp] theorem truD_bl (b : Bool) : truD (.bl b) = some b := rfl
@[simp] theorem truD_int (i : Int) : truD (.int i) = some (i != 0) := rfl
def notR (r : Res Bool) : Res RV := r.bnd fun k => pure (.val (.bl (!k)))
@[simp] theorem notM_ap (m : M RV) (ρ : Env) : notM m ρ = notR (truM m ρ) := rfl
@[simp] theorem notR_ok (b : Bool) (ρ : Env) : notR (.ok b ρ) = .ok (.val (.bl (!b))) ρ := rfl
def notB (r : Res Bool) : Res Bool := r.bnd fun k => pure (!k)
@[simp] theorem notT_ap (m : M Bool) (ρ : Env) : notT m ρ = notB (m ρ) := rfl
@[simp] theorem notB_ok (b : Bool) (ρ : Env) : notB (.ok b ρ) = .ok (!b) ρ := rfl
def if1 (m n : M α) (r : Res Bool) : Res α := r.bnd fun c => ifR c m n
@[simp] theorem if1_ok (m n : M α) (c : Bool) (ρ : Env) : if1 m n (.ok c ρ) = ifR c m n ρ := rfl
theorem if1_eq (t : M Bool) (m n : M α) (ρ : Env) : (t >>= fun c => if c = true then m else n) ρ = if1 m n (t ρ) := by
  show (t ρ).bnd _ = (t ρ).bnd _
  cases t ρ with
  | ok c r => cases c <;> rfl
  | _ => rfl
@[simp] theorem andT_ap (m n : M Bool) (ρ : Env) : andT m n ρ = if1 n (pure false) (m ρ) := if1_eq m n (pure false) ρ
@[simp] theorem orT_ap (m n : M Bool) (ρ : Env) : orT m n ρ = if1 (pure true) n (m ρ) := if1_eq m (pure true) n ρ
@[simp] theorem ifM_ap (t : M Bool) (a b : M RV) (ρ : Env) : ifM t a b ρ = if1 a b (t ρ) := if1_eq t a b ρ
@[simp] theorem ifS_ap (t : M Bool) (a b : MS) (ρ : Env) : ifS t a b ρ = if1 a b (t ρ) := if1_eq t a b ρ
def frzV1 (r : Res D) : Res RV := r.bnd fun d => pure (.val d)
@[simp] theorem frzV1_ok (d : D) (ρ : Env) : frzV1 (.ok d ρ) = .ok (.val d) ρ := rfl
def frzV (o : Opd) : M RV := fun ρ => frzV1 (frz o ρ)
@[simp] theorem frzV_ap (o : Opd) (ρ : Env) : frzV o ρ = frzV1 (frz o ρ) := rfl
def andV3 (n : M RV) (o : Opd) (k : Option Bool) (ρ : Env) : Res RV := match k with
  | some k => ifR k n (frzV o) ρ
  | none => .stuck
def orV3 (n : M RV) (o : Opd) (k : Option Bool) (ρ : Env) : Res RV := match k with
  | some k => ifR k (frzV o) n ρ
  | none => .stuck
@[simp] theorem andV3_some (n : M RV) (o : Opd) (k : Bool) (ρ : Env) : andV3 n o (some k) ρ = ifR k n (frzV o) ρ := rfl
@[simp] theorem orV3_some (n : M RV) (o : Opd) (k : Bool) (ρ : Env) : orV3 n o (some k) ρ = ifR k (frzV o) n ρ := rfl
def truO (o : Option D) : Option Bool := o.bind truD
@[simp] theorem truO_some (d : D) : truO (some d) = truD d := rfl
def andV (n : M RV) (r : Res Opd) : Res RV := r.bnd fun o ρ => andV3 n o (truO (lookO o ρ)) ρ
def orV (n : M RV) (r : Res Opd) : Res RV := r.bnd fun o ρ => orV3 n o (truO (lookO o ρ)) ρ
@[simp] theorem andV_ok (n : M RV) (o : Opd) (ρ : Env) : andV n (.ok o ρ) = andV3 n o (truO (lookO o ρ)) ρ := rfl
@[simp] theorem orV_ok (n : M RV) (o : Opd) (ρ : Env) : orV n (.ok o ρ) = orV3 n o (truO (lookO o ρ)) ρ := rfl
@[simp] theorem andM_ap (m n : M RV) (ρ : Env) : andM m n ρ = andV n (opd m ρ) := by
  show (opd m ρ).bnd _ = (opd m ρ).bnd _
  congr 1; funext o ρ
  show (look o ρ).bnd _ = _
  rw [look_eq]
  cases lookO o ρ with
  | none => rfl
  | some d =>
    show (M.lift (truD d) ρ).bnd _ = andV3 n o (truD d) ρ
    cases truD d with
    | none => rfl
    | some k => cases k <;> rfl
@[simp] theorem orM_ap (m n : M RV) (ρ : Env) : orM m n ρ = orV n (opd m ρ) := by
  show (opd m ρ).bnd _ = (opd m ρ).bnd _
  congr 1; funext o ρ
  show (look o ρ).bnd _ = _
  rw [look_eq]
  cases lookO o ρ with
  | none => rfl
  | some d =>
    show (M.lift (truD d) ρ).bnd _ = orV3 n o (truD d) ρ
    cases truD d with
    | none => rfl
    | some k => cases k <;> rfl
def ch6 (g : D → D → Option RV) (y : Opd) (r : Res Opd) : Res RV := bin2 g y r
def ch5 (g : D → D → Option RV) (c : M RV) (y : Opd) : M RV := fun ρ => bin2 g y (opd c ρ)
@[simp] theorem ch5_ap (g : D → D → Option RV) (c : M RV) (y : Opd) (ρ : Env) : ch5 g c y ρ = bin2 g y (opd c ρ) := rfl
def ch4 (g : D → D → Option RV) (c : M RV) (y : Opd) (r : Res RV) : Res RV := (asB1 r).bnd fun k => ifR k (ch5 g c y) (constM (.bl false))
@[simp] theorem ch4_ok (g : D → D → Option RV) (c : M RV) (y : Opd) (k : Bool) (ρ : Env) : ch4 g c y (.ok (.val (.bl k)) ρ) = ifR k (ch5 g c y) (constM (.bl false)) ρ := rfl
def ch2 (f g : D → D → Option RV) (c : M RV) (x : Opd) (r : Res Opd) : Res RV := r.bnd fun y ρ => ch4 g c y (bin3 f (lookO x ρ) (lookO y ρ) ρ)
@[simp] theorem ch2_ok (f g : D → D → Option RV) (c : M RV) (x y : Opd) (ρ : Env) : ch2 f g c x (.ok y ρ) = ch4 g c y (bin3 f (lookO x ρ) (lookO y ρ) ρ) := rfl
def ch1 (f g : D → D → Option RV) (b c : M RV) (r : Res Opd) : Res RV := r.bnd fun x ρ => ch2 f g c x (opd b ρ)
@[simp] theorem ch1_ok (f g : D → D → Option RV) (b c : M RV) (x : Opd) (ρ : Env) : ch1 f g b c (.ok x ρ) = ch2 f g c x (opd b ρ) := rfl
@[simp] theorem chainM_ap (f g : D → D → Option RV) (a b c : M RV) (ρ : Env) : chainM f g a b c ρ = ch1 f g b c (opd a ρ) := by
  show (opd a ρ).bnd _ = (opd a ρ).bnd _
  congr 1; funext x ρ
  show (opd b ρ).bnd _ = (opd b ρ).bnd _
  congr 1; funext y ρ
  show (look x ρ).bnd _ = _
  rw [look_eq]
  cases lookO x ρ with
  | none => rfl
  | some dx =>
    show (look y ρ).bnd _ = _
    rw [look_eq]
    cases q : lookO y ρ with
    | none => rfl
    | some dy =>
      show (M.lift (f dx dy) ρ).bnd _ = ch4 g c y (liftR (f dx dy) ρ)
      cases f dx dy with
      | none => rfl
      | some rv =>
        show (asB rv ρ).bnd _ = (asB rv ρ).bnd _
        congr 1; funext k ρ
        cases k <;> rfl
def seq1 (n : MS) (r : Res Fl) : Res Fl := r.bnd fun f => match f with
  | .nx => n
  | f => pure f
@[simp] theorem seqS_ap (m n : MS) (ρ : Env) : seqS m n ρ = seq1 n (m ρ) := rfl
@[simp] theorem seq1_nx (n : MS) (ρ : Env) : seq1 n (.ok .nx ρ) = n ρ := rfl
@[simp] theorem seq1_ret (n : MS) (rv : RV) (ρ : Env) : seq1 n (.ok (.ret rv) ρ) = .ok (.ret rv) ρ := rfl
@[simp] theorem seq1_brk (n : MS) (ρ : Env) : seq1 n (.ok .brk ρ) = .ok .brk ρ := rfl
@[simp] theorem seq1_cont (n : MS) (ρ : Env) : seq1 n (.ok .cont ρ) = .ok .cont ρ := rfl
def enter2 (os : List Opd) (ρ : Env) (b : Bool) (r : Res RV) : Res RV := if b = true then match r with
    | .stuck => .stuck
    | .exc x as => .exc x (backArgs ρ os as)
    | .ok (.val d) as => .ok (.val d) (backArgs ρ os as)
    | .ok (.own d) as => .ok (.own d) (backArgs ρ os as)
    | .ok (.bor _) _ => .stuck
  else .stuck
@[simp] theorem enter2_val (os : List Opd) (ρ : Env) (d : D) (as : Env) : enter2 os ρ true (.ok (.val d) as) = .ok (.val d) (backArgs ρ os as) := rfl
@[simp] theorem enter2_own (os : List Opd) (ρ : Env) (d : D) (as : Env) : enter2 os ρ true (.ok (.own d) as) = .ok (.own d) (backArgs ρ os as) := rfl
def enter1 (cf : CF) (i : Nat) (os : List Opd) (ρ : Env) (a : Option Env) : Res RV := match a with
  | none => .stuck
  | some args => enter2 os ρ (decide (bors os).Nodup) (cf i args)
@[simp] theorem enter1_some (cf : CF) (i : Nat) (os : List Opd) (ρ args : Env) : enter1 cf i os ρ (some args) = enter2 os ρ (decide (bors os).Nodup) (cf i args) := rfl
@[simp] theorem enterM_ap (cf : CF) (i : Nat) (os : List Opd) (ρ : Env) : enterM cf i os ρ = enter1 cf i os ρ (mkArgs ρ os) := by
  unfold enterM enter1
  cases mkArgs ρ os with
  | none => rfl
  | some args =>
    show (if (bors os).Nodup then _ else _) = enter2 os ρ (decide (bors os).Nodup) (cf i args)
    unfold enter2
    by_cases h : (bors os).Nodup
    · rw [if_pos h, if_pos (by simp [h])]
      all_goals rfl
    · rw [if_neg h, if_neg (by simp [h])]
def call1 (cf : CF) (i : Nat) (r : Res (List Opd)) : Res RV := r.bnd (enterM cf i)
@[simp] theorem callM_ap (cf : CF) (i : Nat) (ms : List (M RV)) (ρ : Env) : callM cf i ms ρ = call1 cf i (argsM ms ρ) := rfl
@[simp] theorem call1_ok (cf : CF) (i : Nat) (os : List Opd) (ρ : Env) : call1 cf i (.ok os ρ) = enterM cf i os ρ := rfl
def mkC (s : D → Slot) (d : Option D) (r : Option Env) : Option Env := match d, r with
  | some d, some as => some (s d :: as)
  | _, _ => none
@[simp] theorem mkC_some (s : D → Slot) (d : D) (as : Env) : mkC s (some d) (some as) = some (s d :: as) := rfl
@[simp] theorem mkArgs_nil (ρ : Env) : mkArgs ρ [] = some [] := rfl
@[simp] theorem mkArgs_val (ρ : Env) (d : D) (os : List Opd) : mkArgs ρ (.val d :: os) = mkC .val (some d) (mkArgs ρ os) := by
  show (mkArgs ρ os).map _ = _
  cases mkArgs ρ os <;> rfl
@[simp] theorem mkArgs_bor (ρ : Env) (j : Nat) (os : List Opd) : mkArgs ρ (.bor j :: os) = mkC .bow (ownD ρ j) (mkArgs ρ os) := by
  show (match ownD ρ j with
    | some d => (mkArgs ρ os).map fun as => Slot.bow d :: as
    | none => none) = _
  cases ownD ρ j <;> cases mkArgs ρ os <;> rfl
@[simp] theorem bors_nil : bors [] = [] := rfl
@[simp] theorem bors_val (d : D) (os : List Opd) : bors (.val d :: os) = bors os := rfl
@[simp] theorem bors_bor (j : Nat) (os : List Opd) : bors (.bor j :: os) = j :: bors os := rfl
@[simp] theorem back_nil (ρ as : Env) : backArgs ρ [] as = ρ := by cases as <;> simp [backArgs]
@[simp] theorem back_val (ρ : Env) (d : D) (os : List Opd) (s : Slot) (as : Env) : backArgs ρ (.val d :: os) (s :: as) = backArgs ρ os as := by simp [backArgs]
def backB (ρ : Env) (j : Nat) (s : Slot) : Option Slot → Env
  | some t => ρ.set j (merge t s)
  | none => ρ
@[simp] theorem backB_some (ρ : Env) (j : Nat) (s t : Slot) : backB ρ j s (some t) = ρ.set j (merge t s) := rfl
@[simp] theorem back_bor (ρ : Env) (j : Nat) (os : List Opd) (s : Slot) (as : Env) : backArgs ρ (.bor j :: os) (s :: as) = backArgs (backB ρ j s ρ[j]?) os as := by
  cases h : ρ[j]? <;> simp [backArgs, backB, h]
@[simp] theorem merge_own (d e : D) : merge (.own d) (.bow e) = .own e := rfl
@[simp] theorem merge_bow (d e : D) : merge (.bow d) (.bow e) = .bow e := rfl
@[simp] theorem merge_ownf (d e : D) : merge (.own d) (.bfz e) = .val e := rfl
@[simp] theorem merge_bowf (d e : D) : merge (.bow d) (.bfz e) = .bfz e := rfl
def fz1 (r : Res Opd) : Res D := r.bnd frz
@[simp] theorem fzM_ap (m : M RV) (ρ : Env) : fzM m ρ = fz1 (opd m ρ) := rfl
@[simp] theorem fz1_ok (o : Opd) (ρ : Env) : fz1 (.ok o ρ) = frz o ρ := rfl
def seqm1 (r : Res D) : Res (List D) := r.bnd fun d => M.lift (itemsD d)
@[simp] theorem seqM_ap (m : M RV) (ρ : Env) : seqM m ρ = seqm1 (fzM m ρ) := rfl
@[simp] theorem seqm1_ok (d : D) (ρ : Env) : seqm1 (.ok d ρ) = liftR (itemsD d) ρ := rfl
def src2 (f : List D → Option (List D)) (r : Res (List D)) : Res (List D) := r.bnd fun ds => M.lift (f ds)
def src1 (f : List D → Option (List D)) (r : Res (List Opd)) : Res (List D) := r.bnd fun os => frzs os >>= fun ds => M.lift (f ds)
@[simp] theorem srcF_ap (f : List D → Option (List D)) (ms : List (M RV)) (ρ : Env) : srcF f ms ρ = src1 f (argsM ms ρ) := rfl
@[simp] theorem src1_ok (f : List D → Option (List D)) (os : List Opd) (ρ : Env) : src1 f (.ok os ρ) = src2 f (frzs os ρ) := rfl
@[simp] theorem src2_ok (f : List D → Option (List D)) (ds : List D) (ρ : Env) : src2 f (.ok ds ρ) = liftR (f ds) ρ := rfl
def set1 (i : Nat) (s : Slot) (ρ : Env) : Option Slot → Res Fl
  | none => .stuck
  | some (.bow _) => .stuck
  | some (.bfz _) => .stuck
  | some _ => .ok .nx (ρ.set i s)
@[simp] theorem setM_ap (i : Nat) (s : Slot) (ρ : Env) : setM i s ρ = set1 i s ρ ρ[i]? := by
  show (match ρ[i]? with
  | none => Res.stuck
  | some (.bow _) => .stuck
  | some (.bfz _) => .stuck
  | some _ => Res.ok Fl.nx (ρ.set i s)) = _
  cases ρ[i]? with
  | none => rfl
  | some t => cases t <;> rfl
@[simp] theorem set1_un (i : Nat) (s : Slot) (ρ : Env) : set1 i s ρ (some .un) = .ok .nx (ρ.set i s) := rfl
@[simp] theorem set1_val (i : Nat) (s : Slot) (ρ : Env) (d : D) : set1 i s ρ (some (.val d)) = .ok .nx (ρ.set i s) := rfl
@[simp] theorem set1_own (i : Nat) (s : Slot) (ρ : Env) (d : D) : set1 i s ρ (some (.own d)) = .ok .nx (ρ.set i s) := rfl
def asg2 (i : Nat) (r : Res D) : Res Fl := r.bnd fun d => setM i (.val d)
@[simp] theorem asg2_ok (i : Nat) (d : D) (ρ : Env) : asg2 i (.ok d ρ) = setM i (.val d) ρ := rfl
def asg1 (i : Nat) (r : Res RV) : Res Fl := r.bnd fun rv => match rv with
  | .val d => setM i (.val d)
  | .own d => setM i (.own d)
  | .bor j => frz (.bor j) >>= fun d => setM i (.val d)
@[simp] theorem asgS_ap (i : Nat) (m : M RV) (ρ : Env) : asgS i m ρ = asg1 i (m ρ) := rfl
@[simp] theorem asg1_val (i : Nat) (d : D) (ρ : Env) : asg1 i (.ok (.val d) ρ) = setM i (.val d) ρ := rfl
@[simp] theorem asg1_own (i : Nat) (d : D) (ρ : Env) : asg1 i (.ok (.own d) ρ) = setM i (.own d) ρ := rfl
@[simp] theorem asg1_bor (i j : Nat) (ρ : Env) : asg1 i (.ok (.bor j) ρ) = asg2 i (frz (.bor j) ρ) := rfl
def ret2 (i : Nat) (ρ : Env) : Option Slot → Res Fl
  | some (.own d) => .ok (.ret (.own d)) (ρ.set i .un)
  | some (.bow d) => .ok (.ret (.val d)) (ρ.set i (.bfz d))
  | _ => .stuck
@[simp] theorem ret2_own (i : Nat) (ρ : Env) (d : D) : ret2 i ρ (some (.own d)) = .ok (.ret (.own d)) (ρ.set i .un) := rfl
@[simp] theorem ret2_bow (i : Nat) (ρ : Env) (d : D) : ret2 i ρ (some (.bow d)) = .ok (.ret (.val d)) (ρ.set i (.bfz d)) := rfl
def ret1 (r : Res RV) : Res Fl := r.bnd fun rv ρ => match rv with
  | .val d => .ok (.ret (.val d)) ρ
  | .own d => .ok (.ret (.own d)) ρ
  | .bor i => ret2 i ρ ρ[i]?
@[simp] theorem ret1_val (d : D) (ρ : Env) : ret1 (.ok (.val d) ρ) = .ok (.ret (.val d)) ρ := rfl
@[simp] theorem ret1_own (d : D) (ρ : Env) : ret1 (.ok (.own d) ρ) = .ok (.ret (.own d)) ρ := rfl
@[simp] theorem ret1_bor (i : Nat) (ρ : Env) : ret1 (.ok (.bor i) ρ) = ret2 i ρ ρ[i]? := rfl
@[simp] theorem retS_ap (m : M RV) (ρ : Env) : retS m ρ = ret1 (m ρ) := by
  show (m ρ).bnd _ = (m ρ).bnd _
  congr 1; funext rv ρ
  cases rv with
  | val d => rfl
  | own d => rfl
  | bor i =>
    show (match ρ[i]? with
    | some (.own d) => Res.ok (Fl.ret (.own d)) (ρ.set i .un)
    | some (.bow d) => .ok (.ret (.val d)) (ρ.set i (.bfz d))
    | _ => .stuck) = ret2 i ρ ρ[i]?
    cases ρ[i]? with
    | none => rfl
    | some s => cases s <;> rfl
def drop1 (r : Res RV) : Res Fl := r.bnd fun _ => (pure Fl.nx : MS)
@[simp] theorem dropS_ap (m : M RV) (ρ : Env) : dropS m ρ = drop1 (m ρ) := rfl
@[simp] theorem drop1_ok (rv : RV) (ρ : Env) : drop1 (.ok rv ρ) = .ok .nx ρ := rfl
@[simp] theorem nameG_ap (i : Nat) (d : D) : nameG i d = setM i (.val d) := rfl
@[simp] theorem seqG_nil : seqG [] [] = pure .nx := rfl
@[simp] theorem seqG_cons (g : D → MS) (gs : List (D → MS)) (d : D) (ds : List D) : seqG (g :: gs) (d :: ds) = seqS (g d) (seqG gs ds) := rfl
theorem tupG_ap (gs : List (D → MS)) (ds : List D) (h : ds.length = gs.length) : tupG gs (.tup ds) = seqG gs ds := by
  show (if ds.length = gs.length then _ else _) = _
  rw [if_pos h]
@[simp] theorem tupG_2 (g1 g2 : D → MS) (d1 d2 : D) : tupG [g1, g2] (.tup [d1, d2]) = seqG [g1, g2] [d1, d2] := rfl
@[simp] theorem tupG_3 (g1 g2 g3 : D → MS) (d1 d2 d3 : D) : tupG [g1, g2, g3] (.tup [d1, d2, d3]) = seqG [g1, g2, g3] [d1, d2, d3] := rfl
def updO (i : Nat) (s : D → Slot) (ρ : Env) (o : Option D) : Res Unit := match o with
  | some d => .ok () (ρ.set i (s d))
  | none => .stuck
@[simp] theorem updO_some (i : Nat) (s : D → Slot) (ρ : Env) (d : D) : updO i s ρ (some d) = .ok () (ρ.set i (s d)) := rfl
def upd1 (i : Nat) (f : D → Option D) (ρ : Env) : Option Slot → Res Unit
  | some (.own d) => updO i .own ρ (f d)
  | some (.bow d) => updO i .bow ρ (f d)
  | _ => .stuck
@[simp] theorem upd1_own (i : Nat) (f : D → Option D) (ρ : Env) (d : D) : upd1 i f ρ (some (.own d)) = updO i .own ρ (f d) := rfl
@[simp] theorem upd1_bow (i : Nat) (f : D → Option D) (ρ : Env) (d : D) : upd1 i f ρ (some (.bow d)) = updO i .bow ρ (f d) := rfl
@[simp] theorem updSlot_ap (i : Nat) (f : D → Option D) (ρ : Env) : updSlot i f ρ = upd1 i f ρ ρ[i]? := by
  show (match ρ[i]? with
  | some (.own d) => (match f d with | some d' => Res.ok () (ρ.set i (.own d')) | none => .stuck)
  | some (.bow d) => (match f d with | some d' => .ok () (ρ.set i (.bow d')) | none => .stuck)
  | _ => .stuck) = _
  cases ρ[i]? with
  | none => rfl
  | some s =>
    cases s with
    | own d => show (match f d with | some d' => Res.ok () (ρ.set i (.own d')) | none => .stuck) = updO i .own ρ (f d); cases f d <;> rfl
    | bow d => show (match f d with | some d' => Res.ok () (ρ.set i (.bow d')) | none => .stuck) = updO i .bow ρ (f d); cases f d <;> rfl
    | _ => rfl
def has1 (ρ : Env) (o : Option D) : Res Unit := match o with | some (.lst _) => .ok () ρ | _ => .stuck
@[simp] theorem has1_lst (ρ : Env) (ds : List D) : has1 ρ (some (.lst ds)) = .ok () ρ := rfl
@[simp] theorem hasOwn_ap (i : Nat) (ρ : Env) : hasOwn i ρ = has1 ρ (ownD ρ i) := rfl
def app3 (r : Res Unit) : Res RV := r.bnd fun _ => pure (.val .non)
@[simp] theorem app3_ok (u : Unit) (ρ : Env) : app3 (.ok u ρ) = .ok (.val .non) ρ := rfl
def app2 (i : Nat) (r : Res D) : Res RV := r.bnd fun d => updSlot i (pushD d) >>= fun _ => pure (.val .non)
@[simp] theorem app2_ok (i : Nat) (d : D) (ρ : Env) : app2 i (.ok d ρ) = app3 (updSlot i (pushD d) ρ) := rfl
def app1 (i : Nat) (m : M RV) (r : Res Unit) : Res RV := r.bnd fun _ => fzM m >>= fun d => updSlot i (pushD d) >>= fun _ => pure (.val .non)
@[simp] theorem appM_ap (i : Nat) (m : M RV) (ρ : Env) : appM i m ρ = app1 i m (hasOwn i ρ) := rfl
@[simp] theorem app1_ok (i : Nat) (m : M RV) (u : Unit) (ρ : Env) : app1 i m (.ok u ρ) = app2 i (fzM m ρ) := rfl
def ext4 (i : Nat) (o : Option (List D)) (ρ : Env) : Res RV := match o with
  | some e => app3 (updSlot i (extD e) ρ)
  | none => .stuck
@[simp] theorem ext4_some (i : Nat) (e : List D) (ρ : Env) : ext4 i (some e) ρ = app3 (updSlot i (extD e) ρ) := rfl
def ext2 (i : Nat) (r : Res Opd) : Res RV := r.bnd fun o ρ => ext4 i ((lookO o ρ).bind lstOf) ρ
@[simp] theorem ext2_ok (i : Nat) (o : Opd) (ρ : Env) : ext2 i (.ok o ρ) = ext4 i ((lookO o ρ).bind lstOf) ρ := rfl
def ext1 (i : Nat) (m : M RV) (r : Res Unit) : Res RV := r.bnd fun _ ρ => ext2 i (opd m ρ)
@[simp] theorem ext1_ok (i : Nat) (m : M RV) (u : Unit) (ρ : Env) : ext1 i m (.ok u ρ) = ext2 i (opd m ρ) := rfl
@[simp] theorem extM_ap (i : Nat) (m : M RV) (ρ : Env) : extM i m ρ = ext1 i m (hasOwn i ρ) := by
  show (hasOwn i ρ).bnd _ = (hasOwn i ρ).bnd _
  congr 1; funext u ρ
  show (opd m ρ).bnd _ = (opd m ρ).bnd _
  congr 1; funext o ρ
  show (look o ρ).bnd _ = _
  rw [look_eq]
  cases lookO o ρ with
  | none => rfl
  | some d =>
    show (M.lift (lstOf d) ρ).bnd _ = ext4 i (lstOf d) ρ
    cases lstOf d <;> rfl
def ixg4 (r : Res Unit) : Res Fl := r.bnd fun _ => (pure Fl.nx : MS)
@[simp] theorem ixg4_ok (u : Unit) (ρ : Env) : ixg4 (.ok u ρ) = .ok .nx ρ := rfl
def ixg3 (i : Nat) (d : D) (o : Option D) (ρ : Env) : Res Fl := match o with
  | some k => ixg4 (updSlot i (setD d k) ρ)
  | none => .stuck
@[simp] theorem ixg3_some (i : Nat) (d k : D) (ρ : Env) : ixg3 i d (some k) ρ = ixg4 (updSlot i (setD d k) ρ) := rfl
def ixg2 (i : Nat) (d : D) (r : Res Opd) : Res Fl := r.bnd fun o ρ => ixg3 i d (lookO o ρ) ρ
@[simp] theorem ixg2_ok (i : Nat) (d : D) (o : Opd) (ρ : Env) : ixg2 i d (.ok o ρ) = ixg3 i d (lookO o ρ) ρ := rfl
def ixg1 (i : Nat) (mi : M RV) (d : D) (r : Res Unit) : Res Fl := r.bnd fun _ ρ => ixg2 i d (opd mi ρ)
@[simp] theorem ixg1_ok (i : Nat) (mi : M RV) (d : D) (u : Unit) (ρ : Env) : ixg1 i mi d (.ok u ρ) = ixg2 i d (opd mi ρ) := rfl
def any1 (ρ : Env) (o : Option D) : Res Unit := match o with | some _ => .ok () ρ | _ => .stuck
@[simp] theorem any1_some (ρ : Env) (d : D) : any1 ρ (some d) = .ok () ρ := rfl
@[simp] theorem hasAny_ap (i : Nat) (ρ : Env) : hasAny i ρ = any1 ρ (ownD ρ i) := by
  show (match ownD ρ i with | some _ => Res.ok () ρ | none => .stuck) = _
  cases ownD ρ i <;> rfl
@[simp] theorem ixG_ap (i : Nat) (mi : M RV) (d : D) (ρ : Env) : ixG i mi d ρ = ixg1 i mi d (hasAny i ρ) := by
  show (hasAny i ρ).bnd _ = (hasAny i ρ).bnd _
  congr 1; funext u ρ
  show (opd mi ρ).bnd _ = (opd mi ρ).bnd _
  congr 1; funext o ρ
  show (look o ρ).bnd _ = _
  rw [look_eq]
  cases lookO o ρ <;> rfl
def asgg1 (g : D → MS) (r : Res D) : Res Fl := r.bnd g
@[simp] theorem asgG_ap (g : D → MS) (m : M RV) (ρ : Env) : asgG g m ρ = asgg1 g (fzM m ρ) := rfl
@[simp] theorem asgg1_ok (g : D → MS) (d : D) (ρ : Env) : asgg1 g (.ok d ρ) = g d ρ := rfl
@[simp] theorem augS_ap (i : Nat) (f : D → D → Option RV) (m : M RV) : augS i f m = asgS i (binM f (varM i) m) := rfl
def par2 (i j : Nat) (s : Slot) (r : Res RV) : Res Fl := r.bnd fun rb => match rb with
    | .val db => seqS (setM i s) (setM j (.val db))
    | .own db => seqS (setM i s) (setM j (.own db))
    | .bor _ => M.stuck
@[simp] theorem par2_val (i j : Nat) (s : Slot) (d : D) (ρ : Env) : par2 i j s (.ok (.val d) ρ) = seqS (setM i s) (setM j (.val d)) ρ := rfl
@[simp] theorem par2_own (i j : Nat) (s : Slot) (d : D) (ρ : Env) : par2 i j s (.ok (.own d) ρ) = seqS (setM i s) (setM j (.own d)) ρ := rfl
def par1 (i j : Nat) (n : M RV) (r : Res RV) : Res Fl := r.bnd fun ra ρ => match ra with
  | .own da => par2 i j (.own da) (n ρ)
  | .val da => par2 i j (.val da) (n ρ)
  | .bor _ => .stuck
@[simp] theorem par1_val (i j : Nat) (n : M RV) (d : D) (ρ : Env) : par1 i j n (.ok (.val d) ρ) = par2 i j (.val d) (n ρ) := rfl
@[simp] theorem par1_own (i j : Nat) (n : M RV) (d : D) (ρ : Env) : par1 i j n (.ok (.own d) ρ) = par2 i j (.own d) (n ρ) := rfl
@[simp] theorem parS_ap (i j : Nat) (m n : M RV) (ρ : Env) : parS i j m n ρ = par1 i j n (m ρ) := by
  show (m ρ).bnd _ = (m ρ).bnd _
  congr 1; funext ra ρ
  cases ra <;> rfl
def for1 (g : D → MS) (body : MS) (r : Res (List D)) : Res Fl := r.bnd fun ds => loopS g body ds
@[simp] theorem forS_ap (src : M (List D)) (g : D → MS) (body : MS) (ρ : Env) : forS src g body ρ = for1 g body (src ρ) := rfl
@[simp] theorem for1_ok (g : D → MS) (body : MS) (ds : List D) (ρ : Env) : for1 g body (.ok ds ρ) = loopS g body ds ρ := rfl
@[simp] theorem loopS_nil (g : D → MS) (body : MS) (ρ : Env) : loopS g body [] ρ = .ok .nx ρ := rfl
theorem loopS_cons (g : D → MS) (body : MS) (d : D) (ds : List D) : loopS g body (d :: ds) = seqS (g d) (stepS body (loopS g body ds)) := rfl
def step1 (k : MS) (r : Res Fl) : Res Fl := r.bnd fun f => match f with
  | .nx => k
  | .cont => k
  | .brk => pure .nx
  | .ret rv => pure (.ret rv)
@[simp] theorem stepS_ap (body k : MS) (ρ : Env) : stepS body k ρ = step1 k (body ρ) := rfl
@[simp] theorem step1_nx (k : MS) (ρ : Env) : step1 k (.ok .nx ρ) = k ρ := rfl
@[simp] theorem step1_cont (k : MS) (ρ : Env) : step1 k (.ok .cont ρ) = k ρ := rfl
@[simp] theorem step1_brk (k : MS) (ρ : Env) : step1 k (.ok .brk ρ) = .ok .nx ρ := rfl
@[simp] theorem step1_ret (k : MS) (rv : RV) (ρ : Env) : step1 k (.ok (.ret rv) ρ) = .ok (.ret rv) ρ := rfl
@[simp] theorem noO_ap (ρ : Env) : noO ρ = .ok none ρ := rfl
def into1 (r : Res Opd) : Res (Option Int) := r.bnd fun o => look o >>= fun d => M.lift (match d with | .int i => some (some i) | _ => none)
def into2 (o : Option D) (ρ : Env) : Res (Option Int) := match o with
  | some (.int i) => .ok (some i) ρ
  | _ => .stuck
@[simp] theorem into2_int (i : Int) (ρ : Env) : into2 (some (.int i)) ρ = .ok (some i) ρ := rfl
@[simp] theorem intO_ap (m : M RV) (ρ : Env) : intO m ρ = into1 (opd m ρ) := rfl
@[simp] theorem into1_ok (o : Opd) (ρ : Env) : into1 (.ok o ρ) = into2 (lookO o ρ) ρ := by
  show (look o ρ).bnd _ = _
  rw [look_eq]
  cases lookO o ρ with
  | none => rfl
  | some d => cases d <;> rfl
def sl3 (o : Opd) (lo : Option Int) (r : Res (Option Int)) : Res RV := r.bnd fun hi => look o >>= fun d => M.lift (slD lo hi d)
def sl2 (mh : M (Option Int)) (o : Opd) (r : Res (Option Int)) : Res RV := r.bnd fun lo => mh >>= fun hi => look o >>= fun d => M.lift (slD lo hi d)
def sl1 (ml mh : M (Option Int)) (r : Res Opd) : Res RV := r.bnd fun o => ml >>= fun lo => mh >>= fun hi => look o >>= fun d => M.lift (slD lo hi d)
@[simp] theorem slM_ap (ma : M RV) (ml mh : M (Option Int)) (ρ : Env) : slM ma ml mh ρ = sl1 ml mh (opd ma ρ) := rfl
@[simp] theorem sl1_ok (ml mh : M (Option Int)) (o : Opd) (ρ : Env) : sl1 ml mh (.ok o ρ) = sl2 mh o (ml ρ) := rfl
@[simp] theorem sl2_ok (mh : M (Option Int)) (o : Opd) (lo : Option Int) (ρ : Env) : sl2 mh o (.ok lo ρ) = sl3 o lo (mh ρ) := rfl
@[simp] theorem sl3_ok (o : Opd) (lo hi : Option Int) (ρ : Env) : sl3 o lo (.ok hi ρ) = opLift (slD lo hi) (lookO o ρ) ρ := look_lift (slD lo hi) o ρ
def st4 (o : Opd) (lo hi : Option Int) (r : Res (Option Int)) : Res RV := r.bnd fun c => look o >>= fun d => M.lift (stD lo hi c d)
def st3 (mc : M (Option Int)) (o : Opd) (lo : Option Int) (r : Res (Option Int)) : Res RV := r.bnd fun hi => mc >>= fun c => look o >>= fun d => M.lift (stD lo hi c d)
def st2 (mh mc : M (Option Int)) (o : Opd) (r : Res (Option Int)) : Res RV := r.bnd fun lo => mh >>= fun hi => mc >>= fun c => look o >>= fun d => M.lift (stD lo hi c d)
def st1 (ml mh mc : M (Option Int)) (r : Res Opd) : Res RV := r.bnd fun o => ml >>= fun lo => mh >>= fun hi => mc >>= fun c => look o >>= fun d => M.lift (stD lo hi c d)
@[simp] theorem stepM_ap (ma : M RV) (ml mh mc : M (Option Int)) (ρ : Env) : stepM ma ml mh mc ρ = st1 ml mh mc (opd ma ρ) := rfl
@[simp] theorem st1_ok (ml mh mc : M (Option Int)) (o : Opd) (ρ : Env) : st1 ml mh mc (.ok o ρ) = st2 mh mc o (ml ρ) := rfl
@[simp] theorem st2_ok (mh mc : M (Option Int)) (o : Opd) (lo : Option Int) (ρ : Env) : st2 mh mc o (.ok lo ρ) = st3 mc o lo (mh ρ) := rfl
@[simp] theorem st3_ok (mc : M (Option Int)) (o : Opd) (lo hi : Option Int) (ρ : Env) : st3 mc o lo (.ok hi ρ) = st4 o lo hi (mc ρ) := rfl
@[simp] theorem st4_ok (o : Opd) (lo hi c : Option Int) (ρ : Env) : st4 o lo hi (.ok c ρ) = opLift (stD lo hi c) (lookO o ρ) ρ := look_lift (stD lo hi c) o ρ
def lc1 (ct : CT) (t : M Bool) (el : M RV) (vs : List Nat) (r : Res (List D)) : Res RV := r.bnd (lcGo ct t el vs)
@[simp] theorem lc1_ok (ct : CT) (t : M Bool) (el : M RV) (vs : List Nat) (ds : List D) (ρ : Env) : lc1 ct t el vs (.ok ds ρ) = lcGo ct t el vs ds ρ := rfl
/-- a loop by an invariant told by what is still to come -/
theorem loop_ind {g : D → MS} {body : MS} (I : List D → Env → Prop) (hs : ∀ d ds ρ, I (d :: ds) ρ → ∃ ρ1 f ρ', g d ρ = .ok .nx ρ1 ∧ body ρ1 = .ok f ρ' ∧ (f = .nx ∨ f = .cont) ∧ I ds ρ') : ∀ (ds : List D) (ρ : Env), I ds ρ → ∃ ρ', loopS g body ds ρ = .ok .nx ρ' ∧ I [] ρ'
  | [], ρ, h => ⟨ρ, rfl, h⟩
  | d :: ds, ρ, h => by
    obtain ⟨ρ1, f, ρ', h1, h2, h3, h4⟩ := hs d ds ρ h
    obtain ⟨ρ2, h5, h6⟩ := loop_ind I hs ds ρ' h4
    refine ⟨ρ2, ?_, h6⟩
    rw [loopS_cons, seqS_ap, h1, seq1_nx, stepS_ap, h2]
    rcases h3 with rfl | rfl <;> exact h5
/-- while, by an invariant and a measure -/
theorem while_ind {t : M Bool} {body : MS} (I : Nat → Env → Prop) (hs : ∀ n ρ, I n ρ → (∃ ρ', t ρ = .ok false ρ' ∧ I 0 ρ' ∧ n = 0) ∨ ∃ ρ1 f ρ' m, t ρ = .ok true ρ1 ∧ body ρ1 = .ok f ρ' ∧ (f = .nx ∨ f = .cont) ∧ m < n ∧ I m ρ') :
    ∀ (k n : Nat) (ρ : Env), n < k → I n ρ → ∃ ρ', whileL t body k ρ = .ok .nx ρ' ∧ I 0 ρ' ∧ True
  | 0, n, ρ, hk, h => by omega
  | k + 1, n, ρ, hk, h => by
    show ∃ ρ', (t ρ).bnd _ = _ ∧ _
    rcases hs n ρ h with ⟨ρ', h1, h2, _⟩ | ⟨ρ1, f, ρ', m, h1, h2, h3, h4, h5⟩
    · exact ⟨ρ', by rw [h1]; rfl, h2, trivial⟩
    · obtain ⟨ρ2, h6, h7, _⟩ := while_ind I hs k m ρ' (by omega) h5
      refine ⟨ρ2, ?_, h7, trivial⟩
      rw [h1]
      show stepS body (whileL t body k) ρ1 = _
      rw [stepS_ap, h2]
      rcases h3 with rfl | rfl <;> exact h6
@[simp] theorem lcM_ap (src : M (List D)) (ct : CT) (t : M Bool) (el : M RV) (vs : List Nat) (ρ : Env) : lcM src ct t el vs ρ = lc1 ct t el vs (src ρ) := rfl
theorem lcLoop_cons (ct : CT) (t : M Bool) (el : M RV) (vs : List Nat) (d : D) (ds acc : List D) : lcLoop ct t el vs (d :: ds) acc = (ctG ct d >>= fun _ => t >>= fun k => if k = true then fzM el >>= fun y => fun ρ => lcLoop ct t el vs ds (acc ++ [y]) (wipeE ρ vs) else fun ρ => lcLoop ct t el vs ds acc (wipeE ρ vs)) := rfl
/-- a comprehension, by an invariant: J tells the names' state and what has been made of what is behind -/
theorem lc_inv {ct : CT} {t : M Bool} {el : M RV} {vs : List Nat} (I : List D → Env → List D → Prop)
    (hs : ∀ d ds ρ acc, I (d :: ds) ρ acc → ∃ u ρ1 b ρ2, ctG ct d ρ = .ok u ρ1 ∧ t ρ1 = .ok b ρ2 ∧ ((b = true ∧ ∃ y ρ3, fzM el ρ2 = .ok y ρ3 ∧ I ds (wipeE ρ3 vs) (acc ++ [y])) ∨ (b = false ∧ I ds (wipeE ρ2 vs) acc))) :
    ∀ (ds : List D) (ρ : Env) (acc : List D), I ds ρ acc → ∃ ρ' acc', lcLoop ct t el vs ds acc ρ = .ok acc' ρ' ∧ I [] ρ' acc'
  | [], ρ, acc, h => ⟨ρ, acc, rfl, h⟩
  | d :: ds, ρ, acc, h => by
    obtain ⟨u, ρ1, b, ρ2, h1, h2, h3⟩ := hs d ds ρ acc h
    rcases h3 with ⟨rfl, y, ρ3, h4, h5⟩ | ⟨rfl, h5⟩
    · obtain ⟨ρ', acc', h6, h7⟩ := lc_inv I hs ds _ _ h5
      refine ⟨ρ', acc', ?_, h7⟩
      rw [lcLoop_cons, bnd_ap, h1]
      show ((t ρ1).bnd _) = _
      rw [h2]
      show ((fzM el ρ2).bnd _) = _
      rw [h4]
      exact h6
    · obtain ⟨ρ', acc', h6, h7⟩ := lc_inv I hs ds _ _ h5
      refine ⟨ρ', acc', ?_, h7⟩
      rw [lcLoop_cons, bnd_ap, h1]
      show ((t ρ1).bnd _) = _
      rw [h2]
      exact h6
theorem lcGo_inv {ct : CT} {t : M Bool} {el : M RV} {vs : List Nat} {ρ : Env} {ds : List D} (I : List D → Env → List D → Prop) (hl : ds.length ≤ LIM) (h0 : I ds (wipeE ρ vs) [])
    (hs : ∀ d ds ρ acc, I (d :: ds) ρ acc → ∃ u ρ1 b ρ2, ctG ct d ρ = .ok u ρ1 ∧ t ρ1 = .ok b ρ2 ∧ ((b = true ∧ ∃ y ρ3, fzM el ρ2 = .ok y ρ3 ∧ I ds (wipeE ρ3 vs) (acc ++ [y])) ∨ (b = false ∧ I ds (wipeE ρ2 vs) acc))) :
    ∃ ρ' acc, lcGo ct t el vs ds ρ = .ok (.own (.lst acc)) (restoreE ρ ρ' vs) ∧ I [] ρ' acc := by
  obtain ⟨ρ', acc, h1, h2⟩ := lc_inv I hs ds _ _ h0
  refine ⟨ρ', acc, ?_, h2⟩
  unfold lcGo
  rw [if_pos hl, h1]
/-- a comprehension that leaves the names as they are: f tells what it makes of an item -/
theorem lcGo_pure {ct : CT} {t : M Bool} {el : M RV} {vs : List Nat} {ρ : Env} {ds : List D} (f : D → Option D) (hl : ds.length ≤ LIM) (hr : restoreE ρ (wipeE ρ vs) vs = ρ)
    (hs : ∀ d, d ∈ ds → ∃ u ρ1 b ρ2, ctG ct d (wipeE ρ vs) = .ok u ρ1 ∧ t ρ1 = .ok b ρ2 ∧ ((b = true ∧ ∃ y ρ3, fzM el ρ2 = .ok y ρ3 ∧ wipeE ρ3 vs = wipeE ρ vs ∧ f d = some y) ∨ (b = false ∧ wipeE ρ2 vs = wipeE ρ vs ∧ f d = none))) :
    lcGo ct t el vs ds ρ = .ok (.own (.lst (ds.filterMap f))) ρ := by
  obtain ⟨ρ', acc, h1, h2, h3⟩ := lcGo_inv (ct := ct) (t := t) (el := el) (vs := vs) (ρ := ρ) (fun es ρ' acc => ρ' = wipeE ρ vs ∧ (∀ e, e ∈ es → e ∈ ds) ∧ acc ++ es.filterMap f = ds.filterMap f) hl ⟨rfl, fun _ h => h, rfl⟩ (fun d es ρ' acc ⟨e1, e2, e3⟩ => by
    subst e1
    obtain ⟨u, ρ1, b, ρ2, h1, h2, h3⟩ := hs d (e2 d (by simp))
    refine ⟨u, ρ1, b, ρ2, h1, h2, ?_⟩
    rcases h3 with ⟨hb, y, ρ3, h4, h5, h6⟩ | ⟨hb, h5, h6⟩
    · exact .inl ⟨hb, y, ρ3, h4, h5, fun e h => e2 e (by simp [h]), by rw [← e3, List.filterMap_cons, h6]; simp⟩
    · exact .inr ⟨hb, h5, fun e h => e2 e (by simp [h]), by rw [← e3, List.filterMap_cons, h6]⟩)
  subst h2
  simp only [List.filterMap_nil, List.append_nil] at h3
  rw [h1, hr, h3.2]
/-- runs a def -/
theorem run_ret {ns : Nat} {body : MS} {args ρ' out : Env} {rv : RV} (ha : argsOk args = true) (h : body (args ++ List.replicate (ns - args.length) .un) = .ok (.ret rv) ρ') (ho : fin args ρ' = out) : runDef ns body args = .ok rv out := by
  unfold runDef; rw [if_pos ha, h]; subst ho; rfl
theorem run_nx {ns : Nat} {body : MS} {args ρ' out : Env} (ha : argsOk args = true) (h : body (args ++ List.replicate (ns - args.length) .un) = .ok .nx ρ') (ho : fin args ρ' = out) : runDef ns body args = .ok (.val .non) out := by
  unfold runDef; rw [if_pos ha, h]; subst ho; rfl
@[simp] theorem fin_val (d : D) (s : Slot) (as ss : Env) : fin (.val d :: as) (s :: ss) = .val d :: fin as ss := by simp [fin]
@[simp] theorem fin_bow (d : D) (s : Slot) (as ss : Env) : fin (.bow d :: as) (s :: ss) = s :: fin as ss := by simp [fin]
@[simp] theorem fin_nil (ss : Env) : fin [] ss = [] := by cases ss <;> simp [fin]
end
end VL

/-! VL part r: three names at once; what a module has laid. -/
namespace VL
open PySem L2
section
variable {X : Cx} {C : Cfg} {W : WX} {cf : CF} {T : List (Str × Nat)} {e a b c o tg : Expr} {es : List Expr} {ma mb mc : M RV} {pos p : Pos} {x y z : Str} {i j l : Nat}
/-- an operand that is held: a value, or a list of one's own that no name holds -/
def Held1 (C : Cfg) (σ0 σ : St) (ρ0 : Env) (H0 S : Hp) (ρ : Env) (H : Hp) (v : V) : Slot → Prop
  | .val d => Rep C.K S v d
  | .own d => ∃ p, v = V.ref p ∧ S p = none ∧ OwnAt C.K S H p d ∧ ¬ OwnA ρ σ p ∧ (OwnA ρ0 σ0 p ∨ H0 p = none)
  | _ => False
def slotOf : RV → Option Slot
  | .val d => some (.val d)
  | .own d => some (.own d)
  | .bor _ => none
theorem Held1.of {σ : St} {S : Hp} {ρ0 ρ : Env} {H0 H : Hp} {rv : RV} {s : Slot} {v : V} (r : RVr C σ ρ0 H0 rv S ρ H v) (h : slotOf rv = some s) : Held1 C σ σ ρ0 H0 S ρ H v s := by
  cases rv with
  | val d => cases h; exact r
  | own d => cases h; exact r
  | bor k => cases h
theorem Held1.step {σ0 σ : St} {ρ0 ρ ρ' : Env} {H0 H H' S S' : Hp} {v : V} {s : Slot} (h : Held1 C σ0 σ ρ0 H0 S ρ H v s) (e : Stp C σ S ρ H S' ρ' H') : Held1 C σ0 σ ρ0 H0 S' ρ' H' v s := by
  cases s with
  | val d => exact Rep.mono e.ext.sS h
  | own d =>
    obtain ⟨p, rfl, a2, a3, a4, a5⟩ := h
    obtain ⟨o, ho⟩ := a3.ex
    refine ⟨p, rfl, ?_, a3.mono e.ext.sS fun o h => e.ext.keep p o a4 h, fun z => a4 (e.subA p z), a5⟩
    cases q : S' p with
    | none => rfl
    | some u =>
      rcases e.ext.grow p a2 (by rw [q]; simp) with z | z
      · exact absurd z a4
      · rw [ho] at z; cases z
  | _ => exact h
/-- apart: not the same list -/
def Apart (v w : V) (s t : Slot) : Prop := ∀ d e p, s = .own d → t = .own e → v = V.ref p → w = V.ref p → False
/-- a later one is apart from one that is held -/
theorem Held1.apart {σ : St} {ρ0 ρ ρ' : Env} {H0 H H' S S' : Hp} {v w : V} {s t : Slot} (h : Held1 C σ σ ρ0 H0 S ρ H v s) (h' : Held1 C σ σ ρ H S' ρ' H' w t) : Apart v w s t := by
  rintro d e p rfl rfl rfl rfl
  obtain ⟨q, hq, a2, a3, a4, a5⟩ := h
  cases hq
  obtain ⟨q, hq, b2, b3, b4, b5⟩ := h'
  cases hq
  obtain ⟨o, ho⟩ := a3.ex
  rcases b5 with z | z
  · exact a4 z
  · rw [ho] at z; cases z
/-- one that is held is stored -/
theorem Held1.store {S0 S : Hp} {ρ0 ρ : Env} {σ0 σ : St} {H0 H : Hp} {s : Slot} {v : V} (e : StpS C S0 ρ0 σ0 H0 S ρ σ H) (hi : i < ρ.length) (hm : markB ρ i = false) (h : Held1 C σ0 σ ρ0 H0 S ρ H v s) :
    StpS C S0 ρ0 σ0 H0 S (ρ.set i s) (σ.set i (some v)) H := by
  cases s with
  | val d => exact e.trans (set_val e.st hi hm h)
  | own d =>
    obtain ⟨p, rfl, a2, a3, a4, a5⟩ := h
    exact set_ownS e hi hm a2 a3 a4 a5
  | _ => exact h.elim
/-- the others are held on -/
theorem Held1.other {S : Hp} {ρ0 ρ : Env} {σ0 σ : St} {H0 H : Hp} {s t : Slot} {v w : V} (hi : i < ρ.length) (hσ : σ.length = ρ.length) (h : Held1 C σ0 σ ρ0 H0 S ρ H v s) (hb : ∀ e, t ≠ .bow e) (ap : Apart v w s t) : Held1 C σ0 (σ.set i (some w)) ρ0 H0 S (ρ.set i t) H v s := by
  cases s with
  | val d => exact h
  | own d =>
    obtain ⟨p, rfl, a2, a3, a4, a5⟩ := h
    refine ⟨p, rfl, a2, a3, fun ⟨k, f, c1, c2⟩ => ?_, a5⟩
    by_cases z : i = k
    · subst z
      rw [List.getElem?_set_self (by omega)] at c2
      cases c2
      rw [ownD_at hi] at c1
      cases t with
      | own e => exact ap d e p rfl rfl rfl rfl
      | bow e => exact hb e rfl
      | _ => cases c1
    · rw [ownD_ne z] at c1
      rw [List.getElem?_set_ne z] at c2
      exact a4 ⟨k, f, c1, c2⟩
  | _ => exact h
theorem Apart.symm {v w : V} {s t : Slot} (h : Apart v w s t) : Apart w v t s := fun d e p h1 h2 h3 h4 => h e d p h2 h1 h4 h3
theorem slotOf_nb {rv : RV} {s : Slot} (h : slotOf rv = some s) : ∀ e, s ≠ .bow e := fun e z => by
  cases rv <;> cases h <;> cases z
def parS3 (i j l : Nat) (m n q : M RV) : MS := m >>= fun ra => M.lift (slotOf ra) >>= fun s1 => n >>= fun rb => M.lift (slotOf rb) >>= fun s2 => q >>= fun rc => M.lift (slotOf rc) >>= fun s3 => seqS (setM i s1) (seqS (setM j s2) (setM l s3))
theorem lift_slot {S : Hp} {ρ ρ1 : Env} {σ : St} {H : Hp} {α : Type} {o : Option α} {f : α → MS} {D' : Ends} (g : GoodS C W S ρ σ H ((M.lift o >>= f) ρ1) D') : ∃ s, o = some s ∧ GoodS C W S ρ σ H (f s ρ1) D' := by
  cases o with
  | none => exact g.elim
  | some s => exact ⟨s, rfl, g⟩
theorem vs_par3 {kt k2 : Nat} {px pz pt pt2 py : Pos} (vx : Vx X C W cf T) (hi : X.N[i]? = some x) (hj : X.N[j]? = some y) (hl : X.N[l]? = some z) (hij : i ≠ j) (hil : i ≠ l) (hjl : j ≠ l) (hx : X.env.scope.names.lookup x = some .local) (hy : X.env.scope.names.lookup y = some .local) (hz : X.env.scope.names.lookup z = some .local)
    (ha : VE X C W a ma) (hb : VE X C W b mb) (hc : VE X C W c mc) (hw : swappedStores [.Tuple [.Name x px, .Name y py, .Name z pz] kt pt] (.Tuple [a, b, c] k2 pt2) X.env = pure (some [x, y, z]))
    (hs1 : starEach [a, b, c] X.env = (false, eval a X.env) :: starEach [b, c] X.env := by rfl) (hs2 : starEach [b, c] X.env = (false, eval b X.env) :: starEach [c] X.env := by rfl) (hs3 : starEach [c] X.env = (false, eval c X.env) :: starEach [] X.env := by rfl)
    (hs : swapsWithSole [.Tuple [.Name x px, .Name y py, .Name z pz] kt pt] (.Tuple [a, b, c] k2 pt2) pos.line X.env = pure false := by rfl) :
    VS X C W (.Assign [.Tuple [.Name x px, .Name y py, .Name z pz] kt pt] (.Tuple [a, b, c] k2 pt2) pos) (parS3 i j l ma mb mc) := by
  refine ⟨PS.imp (ps_par3 vx.calm vx.nd hi hj hl hij hil hjl hx hy hz (pa_cons ha.pe (pa_cons hb.pe (pa_cons hc.pe pa_nil hs3) hs2) hs1) hw hs) fun D' σ H h => ?_⟩
  obtain ⟨S, ρ, st, g⟩ := h
  refine ⟨S, ρ, st, GoodS.bnd0 g fun ra ρ1 S1 H1 v _ e1 r1 g1 => ?_⟩
  obtain ⟨s1, q1, g1⟩ := lift_slot g1
  have h1 := Held1.of r1 q1
  refine ⟨S1, ρ1, e1.st, GoodS.bndR e1 g1 fun rb ρ2 S2 H2 w _ e2 r2 g2 => ?_⟩
  obtain ⟨s2, q2, g2⟩ := lift_slot g2
  have a12 := h1.apart (Held1.of r2 q2)
  have h1 := h1.step e2
  have h2 := Held1.of (RVr.back _ _ _ _ _ _ _ _ _ _ _ e1 r2) q2
  refine ⟨S2, ρ2, e2.st, GoodS.bndR (e1.trans e2) g2 fun rc ρ3 S3 H3 u _ e3 r3 g3 => ⟨v, w, u, rfl, ?_⟩⟩
  obtain ⟨s3, q3, g3⟩ := lift_slot g3
  have a13 := h1.apart (Held1.of r3 q3)
  have a23 := h2.apart (Held1.of r3 q3)
  have h1 := h1.step e3
  have h2 := h2.step e3
  have h3 := Held1.of (RVr.back _ _ _ _ _ _ _ _ _ _ _ (e1.trans e2) r3) q3
  obtain ⟨i1, m1, g4⟩ := GoodS.set2 g3
  obtain ⟨i2, m2, g5⟩ := GoodS.set2 g4
  obtain ⟨i3, m3, g6⟩ := GoodS.set1 g5
  have hσ : σ.length = ρ3.length := e3.st.len
  have t1 := Held1.store ((e1.trans e2).trans e3).toS i1 m1 h1
  have h2 := Held1.other i1 hσ h2 (slotOf_nb q1) a12.symm
  have h3 := Held1.other i1 hσ h3 (slotOf_nb q1) a13.symm
  have t2 := Held1.store t1 i2 m2 h2
  have h3 := Held1.other i2 (by simp [hσ]) h3 (slotOf_nb q2) a23.symm
  exact g6 _ _ _ (Held1.store t2 i3 m3 h3)

/-! ### what a module has laid: a tuple of numbers, texts or tuples -/
/-- the value v stands for d whatever is tracked -/
def GRep (K : PySem.W.Frag) (v : V) (d : D) : Prop := ∀ S, Rep K S v d
def GReps (K : PySem.W.Frag) (vs : List V) (ds : List D) : Prop := ∀ S, Reps K S vs ds
theorem grep_int {K : PySem.W.Frag} (i : Int) : GRep K (.int i) (.int i) := fun _ => .int i
theorem grep_str {K : PySem.W.Frag} (i : Str) : GRep K (.str i) (.str i) := fun _ => .str i
theorem greps_nil {K : PySem.W.Frag} : GReps K [] [] := fun _ => .nil
theorem greps_cons {K : PySem.W.Frag} {v : V} {vs : List V} {d : D} {ds : List D} (h : GRep K v d) (hs : GReps K vs ds) : GReps K (v :: vs) (d :: ds) := fun S => .cons (h S) (hs S)
theorem grep_tup {K : PySem.W.Frag} {a : Addr} {vs : List V} {ds : List D} (h : ∀ S, SqT K S a vs) (hs : GReps K vs ds) : GRep K (.ref a) (.tup ds) := fun S => .tup (h S) (hs S)
theorem ve_gV {d : D} (hK : X.K = C.K) (hg : Gl X x) (hm : ∃ (v : V) (u : Value), X.mg x = some u ∧ RelV v u ∧ GRep X.K v d) (hd : (x == ("__debug__" : Str)) = false := by decide) : VE X C W (.Name x pos) (constM d) := by
  obtain ⟨v, u, h1, h2, h3⟩ := hm
  refine ⟨PE.imp (pe_glob (v := v) hg h1 h2 hd) fun σ H Q h => ?_⟩
  obtain ⟨S, ρ, st, g⟩ := h
  have g : ∀ S' H' b, Stp C σ S ρ H S' ρ H' → Rep C.K S' b d → Q b H' := g
  rw [hK] at h3
  exact g S H v (Stp.refl st) (h3 S)
end
mutual
/-- a module's value, by what is written out -/
inductive GVal (K : PySem.W.Frag) : Value → D → Prop
  | int (i : Int) (t : Tok) : GVal K (.int i t) (.int i)
  | str (x : Str) (t : Tok) : GVal K (.str x t) (.str x)
  | tup {a : Addr} {dd : Option Addr} {its : Array Value} {n : Nat} {sl : Array (Option Value)} {ds : List D} (l : K.lookup a = some ⟨.type "tuple", dd, .seq its n, sl⟩) (z : its.size ≤ 1000) (h : GVals K its.toList ds) : GVal K (.ref a) (.tup ds)
inductive GVals (K : PySem.W.Frag) : List Value → List D → Prop
  | nil : GVals K [] []
  | cons {u : Value} {us : List Value} {d : D} {ds : List D} (h : GVal K u d) (hs : GVals K us ds) : GVals K (u :: us) (d :: ds)
end
mutual
theorem GVal.rep {K : PySem.W.Frag} : ∀ {u : Value} {d : D}, GVal K u d → ∃ v, RelV v u ∧ GRep K v d
  | _, _, .int i t => ⟨.int i, ⟨t, rfl⟩, grep_int i⟩
  | _, _, .str i t => ⟨.str i, ⟨t, rfl⟩, grep_str i⟩
  | _, _, .tup (a := a) (n := n) l z h => by
    obtain ⟨vs, h1, h2⟩ := h.reps
    refine ⟨.ref a, rfl, grep_tup (fun S => .inr ⟨_, _, n, l, rfl, rfl, ?_, h1⟩) h2⟩
    have : (1000 : Nat) ≤ sizeLine := by decide
    omega
theorem GVals.reps {K : PySem.W.Frag} : ∀ {us : List Value} {ds : List D}, GVals K us ds → ∃ vs, Vals vs us ∧ GReps K vs ds
  | _, _, .nil => ⟨[], .nil, greps_nil⟩
  | _, _, .cons h hs => by
    obtain ⟨v, h1, h2⟩ := h.rep
    obtain ⟨vs, h3, h4⟩ := hs.reps
    exact ⟨v :: vs, .cons h1 h3, greps_cons h2 h4⟩
end
theorem gv_of {K : PySem.W.Frag} {h : Heap} {mg : Str → Option Value} {x : Str} {u : Value} {d : D} (KX : K.In h) (G : h.Ns mainGlobals mg) (a : PySem.W.nsIn K mainGlobals x = some (some u)) (e : GVal K u d) : ∃ (v : V) (u : Value), mg x = some u ∧ RelV v u ∧ GRep K v d := by
  obtain ⟨v, h1, h2⟩ := e.rep
  exact ⟨v, u, PySem.W.mg_of KX G a, h1, h2⟩
end VL

/-! VL part s: repr of flat things; list(range(..)), tuple(range(..)). -/
namespace VL
open PySem L2 PySem.Spec PyProof PyProof.Rows
section
variable {X : Cx} {C : Cfg} {W : WX} {cf : CF} {T : List (Str × Nat)} {e a b : Expr} {ma mb : M RV} {pos p p2 pos2 : Pos}
/-! ### repr -/
/-- the text of a list or tuple -/
def shownD (d : D) : Option Str := match toPy d with
  | some p => if p.showable && !p.hasDict && decide (p.depth ≤ 60) && decide (p.shown.length ≤ LIM) then some p.shown else none
  | none => none
def reprS : D → Option Str
  | .non => some "None"
  | .bl b => some (if b then "True" else "False")
  | .int i => if i.natAbs.log2 < 1920 then some (toString i) else none
  | .str x => if (reprText x).length ≤ LIM then some (reprText x) else none
  | .tup ds => shownD (.tup ds)
  | .lst ds => shownD (.lst ds)
  | _ => none
def reprD (d : D) : Option RV := (reprS d).map fun x => .val (.str x)
def rRepr1 (K : PySem.W.Frag) : List V → Hp → VK → Prop := fun xs H Q => ∃ x z, xs = [x] ∧ (match x with
  | .non => z = ("None" : Str)
  | .bl b => z = (if b then "True" else "False" : Str)
  | .int i => i.natAbs.log2 < 1920 ∧ z = (toString i : Str)
  | .str x => (reprText x).length ≤ sizeLine ∧ z = reprText x
  | .ref a => ∃ p : PyData, Dp K H (.ref a) p ∧ p.showable = true ∧ p.hasDict = false ∧ p.depth ≤ 60 ∧ p.shown.length ≤ sizeLine ∧ z = p.shown
  | _ => False) ∧ Q (.str z) H
theorem call_repr1 (hg : X.A.guards = some []) (hu : X.A.units + 65 < cLine) : CallR X (.builtin "repr") (rRepr1 X.K) := by
  intro pins s σ H xs us Q I r h
  obtain ⟨x, z, rfl, hx, q⟩ := h
  obtain ⟨u, rfl, rx⟩ := vals1 r
  cases x with
  | non => cases rx; subst hx; exact PySem.P.repr_of_none ⟨.str _, H, I.tok _, ⟨_, rfl⟩, q⟩
  | bl b => cases (show u = Value.bool b from rx); subst hx; exact PySem.P.repr_of_bool ⟨.str _, H, I.tok _, ⟨_, by cases b <;> rfl⟩, q⟩
  | int i => obtain ⟨t, rfl⟩ := rx; obtain ⟨hz, rfl⟩ := hx; exact PySem.P.repr_of_int hz ⟨.str _, H, I.tok _, ⟨_, rfl⟩, q⟩
  | str x => obtain ⟨t, rfl⟩ := rx; obtain ⟨hz, rfl⟩ := hx; exact PySem.P.repr_of_str ⟨.str _, H, I.tok _, ⟨_, rfl⟩, q⟩ hz
  | ref a =>
    obtain ⟨p, dp, h1, h2, h3, h4, rfl⟩ := hx
    obtain ⟨as, rd⟩ := Dp.reads I p _ u dp rx
    cases (show u = Value.ref a from rx)
    exact repr_of_reads' rd h1 (fun z => by rw [h2] at z; cases z) hg (by omega) (fun _ _ z => z) (fun h' t tk hk => ⟨.str _, H, I.kept (t' := tk) hk, ⟨_, rfl⟩, q⟩) h4
  | _ => exact hx.elim
theorem cn_repr (hK : X.K = C.K) (hg : X.A.guards = some []) (hu : X.A.units + 65 < cLine) : CN X C (.builtin "repr") (one1 reprD) := by
  refine ⟨_, call_repr1 hg hu, fun S H xs ds rv Q st r e o => ?_⟩
  obtain ⟨d, hd, e'⟩ := one1_some e
  subst hd; clear e; have e := e'; clear e'
  obtain ⟨v, hv, r'⟩ := r.one
  subst hv; clear r; have r := r'; clear r'
  have fin : ∀ z : Str, reprS d = some z → Q (.str z) H := fun z hz => by
    unfold reprD at e
    rw [hz] at e
    cases e
    exact (o fun _ z => by cases z).flat st (.str _)
  have deep : ∀ z : Str, (∃ a, v = .ref a) → shownD d = some z → Q (.str z) H → ∃ x z, [v] = [x] ∧ (match x with
      | .non => z = ("None" : Str)
      | .bl b => z = (if b then "True" else "False" : Str)
      | .int i => i.natAbs.log2 < 1920 ∧ z = (toString i : Str)
      | .str x => (reprText x).length ≤ sizeLine ∧ z = reprText x
      | .ref a => ∃ p : PyData, Dp X.K H (.ref a) p ∧ p.showable = true ∧ p.hasDict = false ∧ p.depth ≤ 60 ∧ p.shown.length ≤ sizeLine ∧ z = p.shown
      | _ => False) ∧ Q (.str z) H := fun z ⟨a, ha⟩ hz hq => by
    subst ha
    unfold shownD at hz
    split at hz
    · rename_i p hp
      split at hz
      · rename_i c
        cases hz
        rw [Bool.and_eq_true, Bool.and_eq_true, Bool.and_eq_true, decide_eq_true_eq, decide_eq_true_eq] at c
        exact ⟨_, _, rfl, ⟨p, hK ▸ r.dp st hp, c.1.1.1, by simpa using c.1.1.2, c.1.2, c.2, rfl⟩, hq⟩
      · cases hz
    · cases hz
  cases q : reprS d with
  | none => unfold reprD at e; rw [q] at e; cases e
  | some z =>
    have hq := fin z q
    cases d with
    | non => cases r; cases q; exact ⟨_, _, rfl, rfl, hq⟩
    | bl b => cases r; cases q; exact ⟨_, _, rfl, rfl, hq⟩
    | int i =>
      cases r
      have q : (if i.natAbs.log2 < 1920 then some (toString i : Str) else none) = some z := q
      split at q
      · rename_i hi; cases q; exact ⟨_, _, rfl, ⟨hi, rfl⟩, hq⟩
      · cases q
    | str x =>
      cases r
      have q : (if (reprText x).length ≤ LIM then some (reprText x) else none) = some z := q
      split at q
      · rename_i hi; cases q; rw [LIM_eq] at hi; exact ⟨_, _, rfl, ⟨hi, rfl⟩, hq⟩
      · cases q
    | tup ds => exact deep z (let ⟨a, _, h, _⟩ := r; ⟨a, h⟩) q hq
    | lst ds => exact deep z (let ⟨a, _, h, _⟩ := r; ⟨a, h⟩) q hq
    | _ => cases q

/-! ### list(range(..)), tuple(range(..)) -/
def rgOkB (a b : Int) : Bool := lim62 a && lim62 b && decide ((b - a).toNat ≤ 16777216)
theorem rgOk_of {a b : Int} (h : rgOkB a b = true) : RgOk a b := by
  unfold rgOkB at h
  rw [Bool.and_eq_true, Bool.and_eq_true, decide_eq_true_eq] at h
  exact ⟨(lim62_ok h.1.1).1, (lim62_ok h.1.1).2, (lim62_ok h.1.2).1, (lim62_ok h.1.2).2, h.2⟩
theorem reps_rg {K : PySem.W.Frag} {S : Hp} (a b : Int) : Reps K S (rgV a b) (rngD a b) := by
  have e1 : rgV a b = ((List.range (b - a).toNat).map fun (i : Nat) => a + (i : Int)).map V.int := by unfold rgV; rw [List.map_map]; rfl
  have e2 : rngD a b = ((List.range (b - a).toNat).map fun (i : Nat) => a + (i : Int)).map D.int := by unfold rngD; rw [List.map_map]; rfl
  rw [e1, e2]
  exact Reps.of_ints _
def lrg2 : D → D → Option RV
  | .int a, .int b => if rgOkB a b then some (.own (.lst (rngD a b))) else none
  | _, _ => none
def trg2 : D → D → Option RV
  | .int a, .int b => if rgOkB a b then some (.val (.tup (rngD a b))) else none
  | _, _ => none
def lrg1 : D → Option RV := fun d => lrg2 (.int 0) d
def trg1 : D → Option RV := fun d => trg2 (.int 0) d
theorem lrg2_some {x y : D} {rv : RV} (h : lrg2 x y = some rv) : ∃ a b, x = .int a ∧ y = .int b ∧ RgOk a b ∧ rv = .own (.lst (rngD a b)) := by
  unfold lrg2 at h
  split at h
  · split at h
    · rename_i hb; cases h; exact ⟨_, _, rfl, rfl, rgOk_of hb, rfl⟩
    · cases h
  · cases h
theorem trg2_some {x y : D} {rv : RV} (h : trg2 x y = some rv) : ∃ a b, x = .int a ∧ y = .int b ∧ RgOk a b ∧ rv = .val (.tup (rngD a b)) := by
  unfold trg2 at h
  split at h
  · split at h
    · rename_i hb; cases h; exact ⟨_, _, rfl, rfl, rgOk_of hb, rfl⟩
    · cases h
  · cases h
theorem ve_lrg1 (vx : Vx X C W cf T) (hl : Gl X "list") (hlm : X.mg "list" = none) (hg : Gl X "range") (hm : X.mg "range" = none) (ha : VE X C W a ma) (na : starEach [a] X.env = (false, eval a X.env) :: starEach [] X.env := by rfl)
    (nb : starEach [.Call (.Name "range" p) [a] [] pos] X.env = (false, eval (.Call (.Name "range" p) [a] [] pos) X.env) :: starEach [] X.env := by rfl) : VE X C W (.Call (.Name "list" p2) [.Call (.Name "range" p) [a] [] pos] [] pos2) (unM lrg1 ma) := by
  refine ⟨PE.imp (pe_listRg vx.calm hl hlm (prg_1 hg hm ha.pe na) nb) fun σ H Q h => ?_⟩
  refine tE_un (r := fun x H Q => ∃ n, x = .int n ∧ RgOk 0 n ∧ ∀ q, H q = none → Q (.ref q) (upd H q (.lst (rgV 0 n)))) (fun S H x dx rv Q st rx e o => ?_) h
  obtain ⟨a', b', h1, rfl, h3, rfl⟩ := lrg2_some e
  cases h1; cases rx
  exact ⟨_, rfl, h3, fun q n => (o fun _ z => by cases z).lst (reps_rg _ _) n⟩
theorem ve_trg1 (vx : Vx X C W cf T) (hl : Gl X "tuple") (hlm : X.mg "tuple" = none) (hg : Gl X "range") (hm : X.mg "range" = none) (ha : VE X C W a ma) (na : starEach [a] X.env = (false, eval a X.env) :: starEach [] X.env := by rfl)
    (nb : starEach [.Call (.Name "range" p) [a] [] pos] X.env = (false, eval (.Call (.Name "range" p) [a] [] pos) X.env) :: starEach [] X.env := by rfl) : VE X C W (.Call (.Name "tuple" p2) [.Call (.Name "range" p) [a] [] pos] [] pos2) (unM trg1 ma) := by
  refine ⟨PE.imp (pe_tupRg vx.calm hl hlm (prg_1 hg hm ha.pe na) nb) fun σ H Q h => ?_⟩
  refine tE_un (r := fun x H Q => ∃ n, x = .int n ∧ RgOk 0 n ∧ ∀ q, H q = none → Q (.ref q) (upd H q (.tup (rgV 0 n)))) (fun S H x dx rv Q st rx e o => ?_) h
  obtain ⟨a', b', h1, rfl, h3, rfl⟩ := trg2_some e
  cases h1; cases rx
  exact ⟨_, rfl, h3, fun q n => (o fun _ z => by cases z).tup st (reps_rg _ _) n⟩
theorem ve_lrg2 (vx : Vx X C W cf T) (hl : Gl X "list") (hlm : X.mg "list" = none) (hg : Gl X "range") (hm : X.mg "range" = none) (ha : VE X C W a ma) (hb : VE X C W b mb) (na : starEach [a, b] X.env = (false, eval a X.env) :: starEach [b] X.env := by rfl)
    (nb : starEach [b] X.env = (false, eval b X.env) :: starEach [] X.env := by rfl) (hp : (backTo pos (starEach [b] X.env)).any (·.1) = false := by rfl)
    (nc : starEach [.Call (.Name "range" p) [a, b] [] pos] X.env = (false, eval (.Call (.Name "range" p) [a, b] [] pos) X.env) :: starEach [] X.env := by rfl) : VE X C W (.Call (.Name "list" p2) [.Call (.Name "range" p) [a, b] [] pos] [] pos2) (binM lrg2 ma mb) := by
  refine ⟨PE.imp (pe_listRg vx.calm hl hlm (prg_2 hg hm ha.pe hb.pe na nb hp) nc) fun σ H Q h => ?_⟩
  refine tE_bin (r := fun x y H Q => ∃ i j, x = .int i ∧ y = .int j ∧ RgOk i j ∧ ∀ q, H q = none → Q (.ref q) (upd H q (.lst (rgV i j)))) (fun S H x y dx dy rv Q st rx ry e o => ?_) h
  obtain ⟨a', b', rfl, rfl, h3, rfl⟩ := lrg2_some e
  cases rx; cases ry
  exact ⟨_, _, rfl, rfl, h3, fun q n => (o fun _ z => by cases z).lst (reps_rg _ _) n⟩
theorem ve_trg2 (vx : Vx X C W cf T) (hl : Gl X "tuple") (hlm : X.mg "tuple" = none) (hg : Gl X "range") (hm : X.mg "range" = none) (ha : VE X C W a ma) (hb : VE X C W b mb) (na : starEach [a, b] X.env = (false, eval a X.env) :: starEach [b] X.env := by rfl)
    (nb : starEach [b] X.env = (false, eval b X.env) :: starEach [] X.env := by rfl) (hp : (backTo pos (starEach [b] X.env)).any (·.1) = false := by rfl)
    (nc : starEach [.Call (.Name "range" p) [a, b] [] pos] X.env = (false, eval (.Call (.Name "range" p) [a, b] [] pos) X.env) :: starEach [] X.env := by rfl) : VE X C W (.Call (.Name "tuple" p2) [.Call (.Name "range" p) [a, b] [] pos] [] pos2) (binM trg2 ma mb) := by
  refine ⟨PE.imp (pe_tupRg vx.calm hl hlm (prg_2 hg hm ha.pe hb.pe na nb hp) nc) fun σ H Q h => ?_⟩
  refine tE_bin (r := fun x y H Q => ∃ i j, x = .int i ∧ y = .int j ∧ RgOk i j ∧ ∀ q, H q = none → Q (.ref q) (upd H q (.tup (rgV i j)))) (fun S H x y dx dy rv Q st rx ry e o => ?_) h
  obtain ⟨a', b', rfl, rfl, h3, rfl⟩ := trg2_some e
  cases rx; cases ry
  exact ⟨_, _, rfl, rfl, h3, fun q n => (o fun _ z => by cases z).tup st (reps_rg _ _) n⟩
end
end VL

/-! VL part t: dict displays. -/
namespace VL
open PySem L2 PySem.Spec PyProof
section
variable {X : Cx} {C : Cfg} {W : WX} {cf : CF} {T : List (Str × Nat)} {e a b : Expr} {ma mb : M RV} {pos : Pos}
/-- the parts of a display, from the left, all handed over -/
def pairsM : List (M RV × M RV) → M (List (D × D))
  | [] => pure []
  | (mk, mv) :: r => fzM mk >>= fun k => fzM mv >>= fun v => pairsM r >>= fun t => pure ((k, v) :: t)
def keysD : List (D × D) → Option (List (Key × D))
  | [] => some []
  | (k, v) :: r => match keyD k, keysD r with
    | some k, some t => some ((k, v) :: t)
    | _, _ => none
def mergeD (kvs more : List (Key × D)) : List (Key × D) := more.foldl (fun acc kv => putKD acc kv.1 kv.2) kvs
def dicM (ps : List (M RV × M RV)) : M RV := pairsM ps >>= fun t => M.lift (keysD t) >>= fun kvs => if kvs.length ≤ 15 then pure (.own (.dic (mergeD [] kvs))) else M.stuck
theorem ve_dic0 : VE X C W (.Dict [] [] pos) (dicM []) := by
  refine ⟨PE.imp pe_dnewK fun σ H Q h => ?_⟩
  obtain ⟨S, ρ, st, g⟩ := h
  have g : Good C W σ S ρ H ((pure (.own (.dic [])) : M RV) ρ) (RVr C σ) Q := g
  have o := Good.pureP st (fun _ z => by cases z) g
  intro p n
  exact o _ p (upd_Same n) n ⟨[], upd_same, rfl, .nil⟩
theorem KReps.merge {K : PySem.W.Frag} {S : Hp} : ∀ {more : List (Key × D)} {mv kvs : List (Key × V)} {ds : List (Key × D)}, KReps K S kvs ds → KReps K S mv more → KReps K S (mergeK kvs mv) (mergeD ds more)
  | [], mv, kvs, ds, h, t => by
    have := t.len
    cases mv with
    | nil => exact h
    | cons _ _ => simp at this
  | p :: more, mv, kvs, ds, h, t => by
    obtain ⟨v, r, rfl, h1, h2⟩ := t.uncons
    show KReps K S (mergeK (putK kvs p.1 v) r) (mergeD (putKD ds p.1 p.2) more)
    exact KReps.merge (h.put h1) h2
/-- pairs that stand for pairs -/
inductive PReps (K : PySem.W.Frag) (S : Hp) : List (V × V) → List (D × D) → Prop
  | nil : PReps K S [] []
  | cons {k v : V} {dk dv : D} {ps : List (V × V)} {ds : List (D × D)} (hk : Rep K S k dk) (hv : Rep K S v dv) (t : PReps K S ps ds) : PReps K S ((k, v) :: ps) ((dk, dv) :: ds)
theorem PReps.mono {K : PySem.W.Frag} {S S' : Hp} (e : Same S S') : ∀ {ps : List (V × V)} {ds : List (D × D)}, PReps K S ps ds → PReps K S' ps ds
  | _, _, .nil => .nil
  | _, _, .cons a b t => .cons (a.mono e) (b.mono e) (t.mono e)
def PRl (C : Cfg) : Rl (List (D × D)) (List (V × V)) := fun _ _ ds S' _ _ ps => PReps C.K S' ps ds
theorem PRl.back {σ : L2.St} : Back C σ (PRl C) := fun _ _ _ _ _ _ _ _ _ _ _ _ r => r
theorem Rep.key {K : PySem.W.Frag} {S : Hp} {v : V} {d : D} {k : Key} (r : Rep K S v d) (h : keyD d = some k) : v = kV k := by
  cases r <;> cases h <;> rfl
theorem PReps.keys {K : PySem.W.Frag} {S : Hp} : ∀ {ps : List (V × V)} {ds : List (D × D)} {kvs : List (Key × D)}, PReps K S ps ds → keysD ds = some kvs → ∃ mv : List (Key × V), ps = mv.map (fun kv => (kV kv.1, kv.2)) ∧ KReps K S mv kvs
  | _, _, kvs, .nil, h => by cases h; exact ⟨[], rfl, .nil⟩
  | _, _, kvs, .cons (dk := dk) (ds := ds) a b t, h => by
    have h : (match keyD dk, keysD ds with | some k, some t => some ((k, _) :: t) | _, _ => none) = some kvs := h
    cases q1 : keyD dk with
    | none => rw [q1] at h; cases h
    | some k =>
      cases q2 : keysD ds with
      | none => rw [q1, q2] at h; cases h
      | some r =>
        rw [q1, q2] at h; cases h
        obtain ⟨mv, h1, h2⟩ := PReps.keys t q2
        exact ⟨(k, _) :: mv, by rw [a.key q1, h1]; rfl, .cons b h2⟩
/-- the parts' trees -/
structure VPs (X : Cx) (C : Cfg) (W : WX) (pos : Pos) (keys : List (Option Expr)) (values : List Expr) (ms : List (M RV × M RV)) : Prop where
  pps : PPs X pos keys values (ms.map fun m => (tE C W m.1, tE C W m.2))
theorem vps_nil : VPs X C W pos [] [] [] := ⟨pps_nil⟩
theorem vps_cons {ks : List (Option Expr)} {vs : List Expr} {ms : List (M RV × M RV)} (hk : VE X C W a ma) (hv : VE X C W b mb) (h : VPs X C W pos ks vs ms) : VPs X C W pos (some a :: ks) (b :: vs) ((ma, mb) :: ms) := ⟨pps_cons hk.pe hv.pe h.pps⟩
theorem tPairs_ok {σ : L2.St} : ∀ {ms : List (M RV × M RV)} {S : Hp} {ρ : Env} {H : Hp} {Q : List (V × V) → Hp → Prop}, StRel C S ρ σ H → Good C W σ S ρ H (pairsM ms ρ) (PRl C) Q → tPairs (ms.map fun m => (tE C W m.1, tE C W m.2)) σ H Q
  | [], S, ρ, H, Q, st, g => by
    have g : ∀ S' H' b, Stp C σ S ρ H S' ρ H' → PReps C.K S' b [] → Q b H' := g
    exact g S H [] (Stp.refl st) .nil
  | (mk, mv) :: r, S, ρ, H, Q, st, g => by
    refine ⟨S, ρ, st, Good.fzB PRl.back g fun dk ρ1 S1 H1 v e1 r1 g1 => ?_⟩
    refine ⟨S1, ρ1, e1.st, Good.fzB PRl.back g1 fun dv ρ2 S2 H2 w e2 r2 g2 => ?_⟩
    refine tPairs_ok e2.st (Good.bnd PRl.back g2 fun t ρ3 S3 H3 ps _ e3 r3 g3 => ?_)
    have g3 : ∀ S' H' b, Stp C σ S3 ρ3 H3 S' ρ3 H' → PReps C.K S' b ((dk, dv) :: t) → Q b H' := g3
    exact g3 S3 H3 _ (Stp.refl e3.st) (.cons (r1.mono (e2.ext.sS.trans e3.ext.sS)) (r2.mono e3.ext.sS) r3)
/-- {k: v, ..} with numbers or texts as keys -/
theorem ve_dic {keys : List (Option Expr)} {values : List Expr} {ms : List (M RV × M RV)} (h : VPs X C W pos keys values ms) (hall : keys.all (·.isSome) = true := by rfl) (hl : keys.length = values.length := by rfl) (h0 : keys ≠ [] := by intro z; cases z)
    (h15 : keys.length ≤ 15 := by decide) : VE X C W (.Dict keys values pos) (dicM ms) := by
  refine ⟨PE.imp (pe_disp h.pps hall hl h0 h15) fun σ H Q hq p n => ?_⟩
  obtain ⟨S, ρ, st, g⟩ := hq
  have no : ¬ OwnA ρ σ p := fun ⟨i, d', h1, h2⟩ => by
    obtain ⟨q, h3, h4, h5⟩ := st.own i d' h1
    have z := h3.symm.trans h2
    cases z
    obtain ⟨o, ho⟩ := h5.ex
    rw [n] at ho; cases ho
  have nS : S p = none := st.same.free n
  have e0 : Stp C σ S ρ H S ρ (upd H p (.dK [])) := add_stp st (Same.refl _) (upd_Same n) (st.same.trans (upd_Same n)) fun _ a b => absurd a b
  refine tPairs_ok e0.st ?_
  have g : Good C W σ S ρ H ((pairsM ms ρ).bnd fun t => M.lift (keysD t) >>= fun kvs => if kvs.length ≤ 15 then pure (.own (.dic (mergeD [] kvs))) else M.stuck) (RVr C σ) Q := g
  cases e : pairsM ms ρ with
  | stuck => rw [e] at g; exact g
  | exc x ρ' => rw [e] at g; exact fun S' H' cls d st' q => g S' H' cls d (e0.trans st') q
  | ok t ρ1 =>
    rw [e] at g
    intro S1 H1 ps e1 r1
    have E := e0.trans e1
    have nS1 : S1 p = none := by
      cases q : S1 p with
      | none => rfl
      | some u =>
        rcases e1.ext.grow p nS (by rw [q]; simp) with z | z
        · exact absurd z no
        · rw [upd_same] at z; cases z
    have no1 : ¬ OwnA ρ1 σ p := fun z => no (e1.subA p z)
    refine ⟨e1.ext.keep p _ no upd_same, ?_⟩
    have g : Good C W σ S ρ H ((M.lift (keysD t) ρ1).bnd fun kvs => if kvs.length ≤ 15 then pure (.own (.dic (mergeD [] kvs))) else M.stuck) (RVr C σ) Q := g
    cases q : keysD t with
    | none => rw [q] at g; exact g.elim
    | some kvs =>
      rw [q] at g
      have g : Good C W σ S ρ H ((if kvs.length ≤ 15 then pure (.own (.dic (mergeD [] kvs))) else M.stuck : M RV) ρ1) (RVr C σ) Q := g
      obtain ⟨mv, hm, kr⟩ := PReps.keys r1 q
      by_cases h5 : kvs.length ≤ 15
      · rw [if_pos h5] at g
        have g : ∀ S' H' b, Stp C σ S ρ H S' ρ1 H' → RVr C σ ρ H (.own (.dic (mergeD [] kvs))) S' ρ1 H' b → Q b H' := g
        refine ⟨mv, hm, by rw [kr.len]; exact h5, ?_⟩
        have km := KReps.merge (KReps.nil (K := C.K) (S := S1)) kr
        refine g S1 _ _ ⟨⟨E.ext.sS, fun b o nb hb => ?_, E.ext.grow⟩, ⟨fun b o hb => ?_, E.st.len, E.st.val, fun i d hi => ?_, E.st.dis⟩, E.sub, E.mrk⟩ ⟨p, rfl, nS1, ⟨_, upd_same, km.ks, km.vs⟩, no1, .inr n⟩
        · have hne : b ≠ p := fun z => by rw [z, n] at hb; cases hb
          rw [upd_ne hne]; exact E.ext.keep b o nb hb
        · have hne : b ≠ p := fun z => by rw [z, nS1] at hb; cases hb
          rw [upd_ne hne]; exact E.st.same b o hb
        · obtain ⟨a, h1, h2, h3⟩ := E.st.own i d hi
          have hne : a ≠ p := fun z => no1 ⟨i, d, hi, z ▸ h1⟩
          exact ⟨a, h1, h2, h3.mono (Same.refl _) fun o ho => by rw [upd_ne hne]; exact ho⟩
      · rw [if_neg h5] at g; exact g.elim
end
end VL

/-! VL part u: plain lemmas that every law's math wants (first met in k12). -/
namespace VL
open PySem
abbrev pt (ps : List Int) : D := .tup (ps.map .int)
@[simp] theorem eqB_int (i j : Int) : eqB (.int i) (.int j) = some (i == j) := rfl
@[simp] theorem eqB_bl (i j : Bool) : eqB (.bl i) (.bl j) = some (i == j) := rfl
@[simp] theorem eqD_int (i j : Int) : eqD (.int i) (.int j) = some (.val (.bl (i == j))) := rfl
@[simp] theorem eqD_bl (i j : Bool) : eqD (.bl i) (.bl j) = some (.val (.bl (i == j))) := rfl
@[simp] theorem neD_int (i j : Int) : neD (.int i) (.int j) = some (.val (.bl (!(i == j)))) := rfl
@[simp] theorem neD_bl (i j : Bool) : neD (.bl i) (.bl j) = some (.val (.bl (!(i == j)))) := rfl
@[simp] theorem ltD_int (i j : Int) : ltD (.int i) (.int j) = some (.val (.bl (decide (i < j)))) := rfl
@[simp] theorem leD_int (i j : Int) : leD (.int i) (.int j) = some (.val (.bl (decide (i ≤ j)))) := rfl
@[simp] theorem gtD_int (i j : Int) : gtD (.int i) (.int j) = some (.val (.bl (decide (j < i)))) := rfl
@[simp] theorem geD_int (i j : Int) : geD (.int i) (.int j) = some (.val (.bl (decide (j ≤ i)))) := rfl
@[simp] theorem addD_int (i j : Int) : addD (.int i) (.int j) = some (.val (.int (i + j))) := rfl
@[simp] theorem addI_int (i j : Int) : addI (.int i) (.int j) = some (.val (.int (i + j))) := rfl
@[simp] theorem subD_int (i j : Int) : subD (.int i) (.int j) = some (.val (.int (i - j))) := rfl
@[simp] theorem negD_int (i : Int) : negD (.int i) = some (.val (.int (-i))) := rfl
theorem mulD_int {i j : Int} (h : mulOk i j = true) : mulD (.int i) (.int j) = some (.val (.int (i * j))) := by
  show (if mulOk i j then vI (i * j) else none) = _
  rw [if_pos h]; rfl
theorem mul_l {i j : Int} (h : i.natAbs < 18446744073709551616) : mulD (.int i) (.int j) = some (.val (.int (i * j))) := mulD_int (by simp [mulOk, h])
theorem mul_r {i j : Int} (h : j.natAbs < 18446744073709551616) : mulD (.int i) (.int j) = some (.val (.int (i * j))) := mulD_int (by simp [mulOk, h])
theorem log2_small {n b : Nat} (h : n < 2 ^ b) (hb : 0 < b) : n.log2 < b := by
  by_cases h0 : n = 0
  · subst h0; simpa using hb
  · exact (Nat.log2_lt h0).mpr h
theorem divOk_small {j : Int} (h : j ≠ 0) (h2 : j.natAbs < 1073741824) : divOk j = true := by
  have := log2_small (b := 30) (n := j.natAbs) (by omega) (by omega)
  exact decide_eq_true (p := j ≠ 0 ∧ j.natAbs.log2 < 9000) ⟨h, by omega⟩
theorem divD_pos {i j : Int} (h : 0 < j) (h2 : j < 1073741824) : divD (.int i) (.int j) = some (.val (.int (i / j))) := by
  show (if divOk j then vI (i.fdiv j) else none) = _
  rw [if_pos (divOk_small (by omega) (by omega)), Int.fdiv_eq_ediv_of_nonneg i (by omega)]; rfl
theorem modD_pos {i j : Int} (h : 0 < j) : modD (.int i) (.int j) = some (.val (.int (i % j))) := by
  show (if decide (j ≠ 0) then vI (i.fmod j) else none) = _
  rw [if_pos (by simp; omega), Int.fmod_eq_emod_of_nonneg i (by omega)]; rfl
@[simp] theorem absD_int (i : Int) : absD (.int i) = some (.val (.int (if i < 0 then -i else i))) := rfl
@[simp] theorem intD_int (i : Int) : intD (.int i) = some (.val (.int i)) := rfl
@[simp] theorem one1_1 (f : D → Option RV) (d : D) : one1 f [d] = f d := rfl
@[simp] theorem lenD_tup (ds : List D) : lenD (.tup ds) = some (.val (.int ds.length)) := rfl
@[simp] theorem lenD_lst (ds : List D) : lenD (.lst ds) = some (.val (.int ds.length)) := rfl
theorem sumD_tup (ns : List Int) : sumD (.tup (ns.map .int)) = some (.val (.int ns.sum)) := by
  show ((intsD (ns.map .int)).map fun ns => RV.val (.int ns.sum)) = _
  rw [intsD_map]; rfl
theorem sumD_lst (ns : List Int) : sumD (.lst (ns.map .int)) = some (.val (.int ns.sum)) := by
  show ((intsD (ns.map .int)).map fun ns => RV.val (.int ns.sum)) = _
  rw [intsD_map]; rfl
theorem allD_lst (bs : List Bool) : allD (.lst (bs.map .bl)) = some (.val (.bl (bs.all id))) := by
  show ((blsD (bs.map .bl)).map fun bs => RV.val (.bl (bs.all id))) = _
  rw [blsD_map]; rfl
theorem LIM_big {n : Nat} (h : n ≤ 16777216) : n ≤ LIM := h
theorem allB (bs : List Bool) (h : ∀ b ∈ bs, b = true) : bs.all id = true := by
  rw [List.all_eq_true]; exact h
theorem gcd_step {a b : Int} : Int.gcd b (a - b * (a / b)) = Int.gcd a b := by
  rw [Int.mul_comm b, Int.gcd_sub_mul_right_right, Int.gcd_comm]
theorem while_end {t : M Bool} {body : MS} (I : Nat → Env → Prop) (hs : ∀ n ρ, I n ρ → (∃ ρ', t ρ = .ok false ρ' ∧ I 0 ρ' ∧ n = 0) ∨ ∃ ρ1 f ρ' m, t ρ = .ok true ρ1 ∧ body ρ1 = .ok f ρ' ∧ (f = .nx ∨ f = .cont) ∧ m < n ∧ I m ρ') {n : Nat} {ρ : Env} (hn : n < 1000000000000) (h : I n ρ) : ∃ ρ', whileS t body ρ = .ok .nx ρ' ∧ I 0 ρ' := by
  obtain ⟨ρ', h1, h2, _⟩ := while_ind I hs FUEL n ρ (Nat.lt_of_lt_of_le hn FUEL_ge) h
  exact ⟨ρ', h1, h2⟩
theorem gcd_pos' {a b : Int} (h : 0 < b) : (0 : Int) < (Int.gcd a b : Nat) := by
  have : Int.gcd a b ≠ 0 := fun z => by rw [Int.gcd_eq_zero_iff] at z; omega
  omega
theorem gcd_le' {a b : Int} (h : 0 < b) : ((Int.gcd a b : Nat) : Int) ≤ b := Int.le_of_dvd h (Int.gcd_dvd_right a b)
theorem rep_flat (n : Nat) (v : Int) : (List.replicate n [D.int v]).flatten = (List.replicate n v).map D.int := by
  induction n with
  | zero => rfl
  | succ n ih => rw [List.replicate_succ, List.replicate_succ, List.flatten_cons, ih]; rfl
theorem mul_rep {v x : Int} (h0 : 0 ≤ x) (h1 : x ≤ 1000) : mulD (.lst [.int v]) (.int x) = some (.own (.lst ((List.replicate x.toNat v).map .int))) := by
  have e : (2 : Int) ^ 63 = 9223372036854775808 := by decide
  show (if decide (-(2 ^ 63) ≤ x ∧ x < 2 ^ 63 ∧ [D.int v].length * x.toNat ≤ LIM) then some (RV.own (.lst (List.replicate x.toNat [D.int v]).flatten)) else none) = _
  rw [if_pos, rep_flat]
  refine decide_eq_true ⟨by rw [e]; omega, by rw [e]; omega, ?_⟩
  show 1 * x.toNat ≤ LIM
  exact LIM_big (by omega)
theorem pushed {ds es : List D} (h : ds.length + es.length ≤ 16777216) : extD es (.lst ds) = some (.lst (ds ++ es)) := by
  show (if ds.length + es.length ≤ LIM then some (D.lst (ds ++ es)) else none) = _
  rw [if_pos (LIM_big h)]
theorem catted {ds es : List D} (h : ds.length + es.length ≤ 16777216) : addD (.lst ds) (.lst es) = some (.own (.lst (ds ++ es))) := by
  show (if ds.length + es.length ≤ LIM then some (RV.own (.lst (ds ++ es))) else none) = _
  rw [if_pos (LIM_big h)]
def vs (s : Slot) : Prop := s = .un ∨ ∃ d, s = .val d
@[simp] theorem set1_vs {i : Nat} {s t : Slot} {ρ : Env} (h : vs t) : set1 i s ρ (some t) = .ok .nx (ρ.set i s) := by
  rcases h with rfl | ⟨d, rfl⟩ <;> rfl
theorem vs_v (d : D) : vs (.val d) := .inr ⟨d, rfl⟩
theorem enumL_nil {ds : List D} {n : Nat} (h : [] = enumL n ds) : ds = [] := by
  cases ds with
  | nil => rfl
  | cons d ds => cases h
theorem enum_cons {d : D} {es : List D} {n : Nat} {rest : List Int} (h : d :: es = enumL n (rest.map .int)) : ∃ x xs, rest = x :: xs ∧ d = .tup [.int (n : Int), .int x] ∧ es = enumL (n + 1) (xs.map .int) := by
  cases rest with
  | nil => cases h
  | cons x xs => cases h; exact ⟨x, xs, rfl, rfl, rfl⟩
theorem ix_ints {xs : List Int} {i : Int} (h0 : 0 ≤ i) (h1 : i < xs.length) : ixD (.lst (xs.map .int)) (.int i) = some (.val (.int (xs.getD i.toNat 0))) := by
  show (L2.atI (xs.map D.int) i).map RV.val = _
  rw [atI_map]
  have e : L2.atI xs i = some (xs.getD i.toNat 0) := by
    unfold L2.atI L2.ixN
    rw [if_pos h0, if_pos h1]
    show xs[i.toNat]? = _
    have hi : i.toNat < xs.length := by omega
    rw [List.getElem?_eq_getElem hi, List.getD_eq_getElem?_getD, List.getElem?_eq_getElem hi]; rfl
  rw [e]; rfl
@[simp] theorem pow18 : powD (.int 10) (.int 18) = some (.val (.int 1000000000000000000)) := rfl
@[simp] theorem pow6 : powD (.int 10) (.int 6) = some (.val (.int 1000000)) := rfl
theorem zip_mem : ∀ {ds : List D} {d : D}, d ∈ zipL ds ds → ∃ e, e ∈ ds ∧ d = .tup [e, e]
  | [], _, h => by simp [zipL] at h
  | x :: xs, d, h => by
    have h : d ∈ .tup [x, x] :: zipL xs xs := h
    rcases List.mem_cons.mp h with h | h
    · exact ⟨x, by simp, h⟩
    · obtain ⟨e, h1, h2⟩ := zip_mem h
      exact ⟨e, by simp [h1], h2⟩
theorem fm_true (ds : List D) : (ds.filterMap fun _ => some (D.bl true)) = (ds.map fun _ => true).map D.bl := by
  induction ds with
  | nil => rfl
  | cons d ds ih => rw [List.filterMap_cons]; show _ :: _ = _; rw [ih]; rfl
theorem all_true (ds : List D) : (ds.map fun _ => true).all id = true := allB _ fun b hb => by
  obtain ⟨_, _, rfl⟩ := List.mem_map.mp hb; rfl
theorem loop_ret {g : D → MS} {body : MS} (I : List D → Env → Prop) (R : RV → Env → Prop) (hs : ∀ d ds ρ, I (d :: ds) ρ → ∃ ρ1 f ρ', g d ρ = .ok .nx ρ1 ∧ body ρ1 = .ok f ρ' ∧ (((f = .nx ∨ f = .cont) ∧ I ds ρ') ∨ ∃ rv, f = .ret rv ∧ R rv ρ')) :
    ∀ (ds : List D) (ρ : Env), I ds ρ → ∃ f ρ', loopS g body ds ρ = .ok f ρ' ∧ ((f = .nx ∧ I [] ρ') ∨ ∃ rv, f = .ret rv ∧ R rv ρ')
  | [], ρ, h => ⟨.nx, ρ, rfl, .inl ⟨rfl, h⟩⟩
  | d :: ds, ρ, h => by
    obtain ⟨ρ1, f, ρ', h1, h2, h3⟩ := hs d ds ρ h
    rcases h3 with ⟨h3, h4⟩ | ⟨rv, h3, h4⟩
    · obtain ⟨f2, ρ2, h5, h6⟩ := loop_ret I R hs ds ρ' h4
      refine ⟨f2, ρ2, ?_, h6⟩
      rw [loopS_cons, seqS_ap, h1, seq1_nx, stepS_ap, h2]
      rcases h3 with rfl | rfl <;> exact h5
    · subst h3
      exact ⟨.ret rv, ρ', by rw [loopS_cons, seqS_ap, h1, seq1_nx, stepS_ap, h2]; rfl, .inr ⟨rv, rfl, h4⟩⟩
theorem canLayAll_ints (ns : List Int) : PyData.canLayAll0 (ns.map PyData.int) = true := by
  induction ns with
  | nil => rfl
  | cons n ns ih => show (PyData.canLay0 (.int n) && PyData.canLayAll0 (ns.map PyData.int)) = true; rw [ih]; rfl
theorem depthAll_ints (ns : List Int) : PyData.depthAll (ns.map PyData.int) = 0 := by
  induction ns with
  | nil => rfl
  | cons n ns ih => show max (PyData.depth (.int n)) (PyData.depthAll (ns.map PyData.int)) = 0; rw [ih]; rfl
theorem shaped_ints (ns : List Int) : SeqAt.shaped (.tuple (ns.map PyData.int)) = true := by
  show (PyData.canLayAll0 (ns.map PyData.int) && decide (PyData.depthAll (ns.map PyData.int) + 1 ≤ 64)) = true
  rw [canLayAll_ints, depthAll_ints]; rfl
theorem eqD_tups (ns ms : List Int) : ∃ b, eqD (pt ns) (pt ms) = some (.val (.bl b)) := by
  refine ⟨PyData.eqv (.tuple (ns.map PyData.int)) (.tuple (ms.map PyData.int)), ?_⟩
  have t : ∀ ns : List Int, toPy (pt ns) = some (.tuple (ns.map PyData.int)) := fun ns => by
    show (toPys (ns.map D.int)).map PyData.tuple = _
    rw [toPys_ints]; rfl
  show (eqB (pt ns) (pt ms)).map _ = _
  unfold eqB
  rw [t, t]
  show Option.map _ (if (SeqAt.shaped (.tuple (ns.map PyData.int)) && SeqAt.shaped (.tuple (ms.map PyData.int))) = true then some _ else none) = _
  rw [shaped_ints, shaped_ints]; rfl
theorem cut_map (ps : List Int) (s : Int) : cutL (ps.map D.int) none (some s) = (cutL ps none (some s)).map D.int := by
  unfold cutL; rw [List.length_map, List.map_take, List.map_drop]
theorem cut_len (ps : List Int) (s : Int) (h0 : 0 ≤ s) (h1 : s ≤ ps.length) : (cutL ps none (some s)).length = s.toNat := by
  unfold cutL
  have e1 : HT.sIx ps.length 0 none = 0 := rfl
  have e2 : HT.sIx ps.length ps.length (some s) = min s.toNat ps.length := by
    show (if s < 0 then _ else _) = _
    rw [if_neg (by omega)]
  rw [e1, e2]; simp; omega
theorem nil_or_snoc {α : Type} (l : List α) : l = [] ∨ ∃ xs x, l = xs ++ [x] := by
  cases h : l.reverse with
  | nil => exact .inl (by simpa using h)
  | cons x xs => exact .inr ⟨xs.reverse, x, by have := congrArg List.reverse h; simpa using this⟩
theorem push_ok {ds : List D} {d : D} (h : ds.length < 16777216) : pushD d (.lst ds) = some (.lst (ds ++ [d])) := by
  show (if ds.length < LIM then some (D.lst (ds ++ [d])) else none) = _
  rw [if_pos (show ds.length < LIM from h)]
def rngI (a b : Int) : List Int := (List.range (b - a).toNat).map fun (i : Nat) => a + (i : Int)
theorem rng_map (a b : Int) : rngD a b = (rngI a b).map .int := by unfold rngD rngI; rw [List.map_map]; rfl
theorem rng_mem {a b s : Int} (h : s ∈ rngI a b) : a ≤ s ∧ s < b := by
  obtain ⟨i, hi, rfl⟩ := List.mem_map.mp h
  have := List.mem_range.mp hi
  omega
theorem rng_len (a b : Int) : (rngI a b).length = (b - a).toNat := by unfold rngI; simp
theorem range2 {a b : Int} (ha : -1000000000 ≤ a ∧ a ≤ 1000000000) (hb : -1000000000 ≤ b ∧ b ≤ 1000000000) : range2D [.int a, .int b] = some ((rngI a b).map .int) := by
  have e : (2 : Int) ^ 62 = 4611686018427387904 := by decide
  have l1 : lim62 a = true := decide_eq_true ⟨by rw [e]; omega, by rw [e]; omega⟩
  have l2 : lim62 b = true := decide_eq_true ⟨by rw [e]; omega, by rw [e]; omega⟩
  show (if lim62 a && lim62 b then some (rngD a b) else none) = _
  rw [l1, l2, rng_map]; rfl
theorem rng_cons {a b : Int} (h : a < b) : rngI a b = a :: rngI (a + 1) b := by
  unfold rngI
  have e : (b - a).toNat = (b - (a + 1)).toNat + 1 := by omega
  rw [e, List.range_succ_eq_map, List.map_cons, List.map_map]
  congr 1
  · simp
  · apply List.map_congr_left
    intro i _
    simp; omega
theorem first_wait {q : Int → Bool} : ∀ (n : Nat) (a b : Int), (b - a).toNat = n → (∃ m, a ≤ m ∧ m < b ∧ q m = true) → ∃ m rest, (rngI a b).filter q = m :: rest ∧ a ≤ m ∧ m < b ∧ q m = true ∧ ∀ j, a ≤ j → j < m → q j = false
  | 0, a, b, hn, ⟨m, h1, h2, _⟩ => by omega
  | n + 1, a, b, hn, ⟨m, h1, h2, h3⟩ => by
    rw [rng_cons (by omega), List.filter_cons]
    by_cases h : q a = true
    · exact ⟨a, _, by rw [if_pos h], by omega, by omega, h, fun j _ _ => by omega⟩
    · have hne : m ≠ a := fun z => h (z ▸ h3)
      obtain ⟨m', rest, e, g1, g2, g3, g4⟩ := first_wait n (a + 1) b (by omega) ⟨m, by omega, h2, h3⟩
      refine ⟨m', rest, by rw [if_neg h]; exact e, by omega, g2, g3, fun j j1 j2 => ?_⟩
      by_cases z : j = a
      · subst z; simpa using h
      · exact g4 j (by omega) j2
theorem seq_nx {m n : MS} {ρ ρ' : Env} (h : m ρ = .ok .nx ρ') : seqS m n ρ = n ρ' := by rw [seqS_ap, h, seq1_nx]
def hd (cells : List Int) (a b c d : Int) : D := .lst [.lst (cells.map .int), .int a, .int b, .int c, .int d]
def Hd (h : D) : Prop := ∃ cells a b c d, h = hd cells a b c d ∧ (∀ x ∈ cells, 0 ≤ x) ∧ 0 ≤ a ∧ 0 ≤ b
section
variable {cells : List Int} {a b c d v : Int}
@[simp] theorem hd_0 : ixD (hd cells a b c d) (.int 0) = some (.val (.lst (cells.map .int))) := rfl
@[simp] theorem hd_1 : ixD (hd cells a b c d) (.int 1) = some (.val (.int a)) := rfl
@[simp] theorem hd_2 : ixD (hd cells a b c d) (.int 2) = some (.val (.int b)) := rfl
@[simp] theorem hd_3 : ixD (hd cells a b c d) (.int 3) = some (.val (.int c)) := rfl
@[simp] theorem hd_4 : ixD (hd cells a b c d) (.int 4) = some (.val (.int d)) := rfl
@[simp] theorem hd_s1 : setD (.int v) (.int 1) (hd cells a b c d) = some (hd cells v b c d) := rfl
@[simp] theorem hd_s2 : setD (.int v) (.int 2) (hd cells a b c d) = some (hd cells a v c d) := rfl
@[simp] theorem hd_s3 : setD (.int v) (.int 3) (hd cells a b c d) = some (hd cells a b v d) := rfl
@[simp] theorem hd_s4 : setD (.int v) (.int 4) (hd cells a b c d) = some (hd cells a b c v) := rfl
@[simp] theorem hd_any (ρ : Env) : any1 ρ (some (hd cells a b c d)) = .ok () ρ := rfl
end
theorem sum_rep (n : Nat) (v : Int) : (List.replicate n v).sum = n * v := by
  induction n with
  | zero => simp
  | succ n ih =>
    rw [List.replicate_succ, List.sum_cons, ih]
    have e : ((n + 1 : Nat) : Int) * v = v + n * v := by
      have : ((n + 1 : Nat) : Int) = (n : Int) + 1 := by omega
      rw [this, Int.add_mul]; omega
    exact e.symm
inductive Same : Nat → D → Prop
  | int {n : Nat} (i : Int) : Same n (.int i)
  | bl {n : Nat} (i : Bool) : Same n (.bl i)
  | non {n : Nat} : Same n .non
  | tup {n : Nat} {ds : List D} (h : ∀ d ∈ ds, Same n d) (hl : ds.length ≤ 100000) : Same (n + 1) (.tup ds)
  | lst {n : Nat} {ds : List D} (h : ∀ d ∈ ds, Same n d) (hl : ds.length ≤ 100000) : Same (n + 1) (.lst ds)
inductive SameR : Nat → D → Prop
  | int {n : Nat} (i : Int) (h : i.natAbs.log2 < 1920) : SameR n (.int i)
  | bl {n : Nat} (i : Bool) : SameR n (.bl i)
  | non {n : Nat} : SameR n .non
  | tup {n : Nat} {ds : List D} (h : ∀ d ∈ ds, SameR n d) (hl : ds.length ≤ 100000) : SameR (n + 1) (.tup ds)
  | lst {n : Nat} {ds : List D} (h : ∀ d ∈ ds, SameR n d) (hl : ds.length ≤ 100000) : SameR (n + 1) (.lst ds)
theorem strOk_of (s : String) : PyData.strOk (Str.ofString s) = true := by
  show (Str.ofString s).cps.all (fun x => decide (x < 1114112)) = true
  rw [Array.all_eq_true_iff_forall_mem]
  intro c hc
  simp only [decide_eq_true_eq]
  rw [Str.ofString_eq_toList] at hc
  simp at hc
  obtain ⟨ch, _, rfl⟩ := hc
  have h := ch.valid
  simp only [UInt32.isValidChar, Nat.isValidChar] at h
  show ch.val.toNat < _
  omega
theorem eqB_str {x y : Str} (hx : PyData.strOk x = true) (hy : PyData.strOk y = true) : eqB (.str x) (.str y) = some (x == y) := by
  show (if (PyData.strOk x && decide (0 ≤ 64)) && (PyData.strOk y && decide (0 ≤ 64)) then some (PyData.eqv (.str x) (.str y)) else none) = _
  rw [hx, hy]; rfl
@[simp] theorem eqD_ofString (s : String) : eqD (.str (Str.ofString s)) (.str (Str.ofString s)) = some (.val (.bl true)) := by
  unfold eqD; rw [eqB_str (strOk_of s) (strOk_of s)]; simp
theorem reprD_int {i : Int} (h : i.natAbs.log2 < 1920) : reprD (.int i) = some (.val (.str (Str.ofString (toString i)))) := by
  show Option.map _ (if i.natAbs.log2 < 1920 then _ else _) = _; rw [if_pos h]; rfl
theorem reprD_bl (b : Bool) : reprD (.bl b) = some (.val (.str (Str.ofString (if b then "True" else "False")))) := by cases b <;> rfl
theorem same_pt (n : Nat) (ns : List Int) (h : ns.length ≤ 100000) : Same (n + 1) (pt ns) := .tup (fun d hd => by obtain ⟨x, _, rfl⟩ := List.mem_map.mp hd; exact .int x) (by rw [List.length_map]; exact h)
end VL

/-! VL part v: a comprehension within another one: the inner block's scope. -/
namespace VL
open PySem hiding Env
open L2 PySem.Spec PyProof
theorem relabel_cf {p : Str → NameKind → Bool} : ∀ {names : List (Str × NameKind)} {x : Str}, names.lookup x = some .cell ∨ names.lookup x = some .free →
    (names.map fun (n, k) => if p n k = true ∧ k = .free then (n, NameKind.cell) else (n, k)).lookup x = some .cell ∨ (names.map fun (n, k) => if p n k = true ∧ k = .free then (n, NameKind.cell) else (n, k)).lookup x = some .free
  | [], x, h => by simp at h
  | (n, k) :: r, x, h => by
    have ih := @relabel_cf p r x
    show List.lookup x ((if p n k = true ∧ k = .free then (n, NameKind.cell) else (n, k)) :: _) = _ ∨ List.lookup x ((if p n k = true ∧ k = .free then (n, NameKind.cell) else (n, k)) :: _) = _
    cases hx : x == n with
    | true =>
      simp only [List.lookup_cons, hx] at h
      by_cases hc : p n k = true ∧ k = .free
      · rw [if_pos hc]; left; simp [List.lookup_cons, hx]
      · rw [if_neg hc]
        rcases h with h | h
        · cases h; left; simp [List.lookup_cons, hx]
        · cases h; right; simp [List.lookup_cons, hx]
    | false =>
      simp only [List.lookup_cons, hx] at h
      have e : ∀ q : Str × NameKind, q.1 = n → List.lookup x (q :: r.map fun (n, k) => if p n k = true ∧ k = .free then (n, NameKind.cell) else (n, k)) = List.lookup x (r.map fun (n, k) => if p n k = true ∧ k = .free then (n, NameKind.cell) else (n, k)) := fun q hq => by
        obtain ⟨a, b⟩ := q
        cases hq
        simp only [List.lookup_cons, hx]
      rw [e _ (by split <;> rfl)]
      exact ih h
theorem BlkOk_relabel {N : List Str} {outer scope : Scope} {own : List (Str × Nat)} {env : PySem.Env} (h : BlkOk N outer scope own) : BlkOk N (relabel outer env) scope own := by
  refine ⟨h.kind, h.uniq, h.ix, fun y hy hf => ?_, h.own⟩
  have := relabel_cf (p := fun n _ => env.scope.kind == .function && env.kindOf n == some .cell) (h.free y hy hf)
  have e : (relabel outer env).names = outer.names.map fun (n, k) => if (env.scope.kind == .function && env.kindOf n == some .cell) = true ∧ k = .free then (n, NameKind.cell) else (n, k) := by
    unfold relabel
    apply List.map_congr_left
    rintro ⟨n, k⟩ _
    show (if (k == NameKind.free && env.scope.kind == .function && env.kindOf n == some .cell) = true then (n, NameKind.cell) else (n, k)) = if (env.scope.kind == .function && env.kindOf n == some .cell) = true ∧ k = .free then (n, NameKind.cell) else (n, k)
    by_cases hk : k = .free
    · subst hk; simp
    · have : (k == NameKind.free) = false := by cases k <;> first | rfl | exact (hk rfl).elim
      rw [this]; simp [hk]
  rw [e]; exact this
end VL

/-! VL part w: zip of three. -/
namespace VL
open PySem hiding Env
open L2 PySem.Spec PyProof
def YTrip (f g k : Nat → Option V) : Nat → Hp → V → Hp → Prop := fun i H v H' => ∃ T x y z, v = .ref T ∧ H T = none ∧ H' = upd H T (.tup [x, y, z]) ∧ f i = some x ∧ g i = some y ∧ k i = some z
def ItzY (K : PySem.W.Frag) (k1 k2 k3 : SK) : It :=
  ⟨fun i H => ∃ (xs ys zs : List V) (x y z : V), k1.has K H xs ∧ k2.has K H ys ∧ k3.has K H zs ∧ xs[i]? = some x ∧ ys[i]? = some y ∧ zs[i]? = some z,
    fun i H v H' => ∃ T x y z, v = .ref T ∧ H T = none ∧ H' = upd H T (.tup [x, y, z]) ∧ (∀ xs, k1.has K H xs → xs[i]? = some x) ∧ (∀ ys, k2.has K H ys → ys[i]? = some y) ∧ ∀ zs, k3.has K H zs → zs[i]? = some z,
    fun i H => ∃ xs ys zs : List V, k1.has K H xs ∧ k2.has K H ys ∧ k3.has K H zs ∧ i = min (min xs.length ys.length) zs.length⟩
structure ZAp3 (z TI TO i1 i2 i3 : Addr) : Prop where
  a : ZAp z TI TO i1 i2
  b : ZAp z TI TO i1 i3
  c : ZAp z TI TO i2 i3
section
theorem turn_zipY {P : Program} {w : World} {K : PySem.W.Frag} {elts : List Expr} {kk : Nat} {tpos : Pos} {k1 k2 k3 : SK} {z TI TO i1 i2 i3 : Addr} (D : ZAp3 z TI TO i1 i2 i3) :
    Turn P w K (.Tuple elts kk tpos) (ItzY K k1 k2 k3) [z, TI, TO, i1, i2, i3] z (fun i h => IsZip h z TI TO .none ∧ IsTupOf3 h TI (.ref i1) (.ref i2) (.ref i3) ∧ (∃ x y q, IsTupOf3 h TO x y q) ∧ k1.at h i1 i ∧ k2.at h i2 i ∧ k3.at h i3 i) where
  mem := by simp
  obj := fun i h st c hc => by
    obtain ⟨hz, hTI, ⟨x, y, q, hTO⟩, h1, h2, h3⟩ := st
    have e' : c = z ∨ c = TI ∨ c = TO ∨ c = i1 ∨ c = i2 ∨ c = i3 := by simpa using hc
    rcases e' with q | q | q | q | q | q
    · rw [q]; exact ⟨_, hz, fun v q => nomatch q⟩
    · rw [q]; exact ⟨_, hTI, fun v q => nomatch q⟩
    · rw [q]; exact ⟨_, hTO, fun v q => nomatch q⟩
    · rw [q]; exact SK.at_obj h1
    · rw [q]; exact SK.at_obj h2
    · rw [q]; exact SK.at_obj h3
  keep := fun i h h' st kp => by
    obtain ⟨hz, hTI, ⟨x, y, q, hTO⟩, h1, h2, h3⟩ := st
    exact ⟨kp z (by simp) _ hz, kp TI (by simp) _ hTI, ⟨x, y, q, kp TO (by simp) _ hTO⟩, SK.at_keep h1 fun o q => kp i1 (by simp) o q, SK.at_keep h2 fun o q => kp i2 (by simp) o q, SK.at_keep h3 fun o q => kp i3 (by simp) o q⟩
  item := by
    intro X hP hw hK hc i pins s σ H E I hf st hg
    subst hP hw hK
    obtain ⟨hz, hTI, ⟨x0, y0, q0, hTO⟩, h1, h2, h3⟩ := st
    obtain ⟨xs, ys, zs, x, y, q, hqx, hqy, hqz, hx, hy, hq⟩ := hg
    obtain ⟨fp1, P1, S1, D1, a1, a2, a3, a4, a5⟩ := SK.draws (A := X.A.in1) (I.ok.hd hc) I (hf i1 (by simp)) hqx h1
    obtain ⟨fp2, P2, S2, D2, b1, b2, b3, b4, b5⟩ := SK.draws (A := X.A.in1) (I.ok.hd hc) I (hf i2 (by simp)) hqy h2
    obtain ⟨fp3, P3, S3, D3, c1, c2, c3, c4, c5⟩ := SK.draws (A := X.A.in1) (I.ok.hd hc) I (hf i3 (by simp)) hqz h3
    have hzl : z < s.heap.objs.size := Heap.lt_size hz
    have sep : ZipSep3 z TI TO i1 i2 i3 fp1 fp2 fp3 := ⟨D.a.TIz, D.a.TOz, D.a.TITO, D.a.TIi1, a4, fun q => a5 z q z (hf z (by simp)) D.a.zi1 rfl, fun q => a5 TO q TO (hf TO (by simp)) D.a.Ti1 rfl,
      D.a.TIi2, b4, fun q => b5 z q z (hf z (by simp)) D.a.zi2 rfl, fun q => b5 TO q TO (hf TO (by simp)) D.a.Ti2 rfl,
      D.b.TIi2, c4, fun q => c5 z q z (hf z (by simp)) D.b.zi2 rfl, fun q => c5 TO q TO (hf TO (by simp)) D.b.Ti2 rfl,
      fun q => b5 i1 q i1 (hf i1 (by simp)) D.a.ii rfl, fun q => c5 i1 q i1 (hf i1 (by simp)) D.b.ii rfl,
      fun q => a5 i2 q i2 (hf i2 (by simp)) D.a.ii.symm rfl, fun q => c5 i2 q i2 (hf i2 (by simp)) D.c.ii rfl,
      fun q => a5 i3 q i3 (hf i3 (by simp)) D.b.ii.symm rfl, fun q => b5 i3 q i3 (hf i3 (by simp)) D.c.ii.symm rfl⟩
    refine wpAny_pyNext_zipD3_item sep D1 D2 D3 hz hTI hTO (a1 i h1) (b1 i h2) (c1 i h3) (List.getElem?_eq_some_iff.mp hx).1 (List.getElem?_eq_some_iff.mp hy).1 (List.getElem?_eq_some_iff.mp hq).1 fun u u2 u3 h' tk hPu hPu2 hPu3 z' TO' h1' h2' h3' hT hsz hk => ?_
    obtain ⟨x', hx', ru⟩ := a3 i u hPu
    obtain ⟨y', hy', ru2⟩ := b3 i u2 hPu2
    obtain ⟨q', hq', ru3⟩ := c3 i u3 hPu3
    have ex : x' = x := Option.some.inj (hx'.symm.trans hx)
    have ey : y' = y := Option.some.inj (hy'.symm.trans hy)
    have eq : q' = q := Option.some.inj (hq'.symm.trans hq)
    subst ex ey eq
    refine ⟨_, rfl, wpAny_letOwnedTupleGo_zip (s := { s with heap := h', toks := tk }) z' fun h'' z'' sb => ?_⟩
    have hT2 : h''.get? s.heap.objs.size = some { cls := .type "tuple", data := .seq #[u, u2, u3] } := (sb.2 _ (Nat.ne_of_gt hzl)).trans hT
    have new : ObjOk X.prog X.w (upd H s.heap.objs.size (.tup [x', y', q'])) h'' s.heap.objs.size (.tup [x', y', q']) :=
      ⟨by show 3 ≤ sizeLine; decide, [u, u2, u3], .cons ru (.cons ru2 (.cons ru3 .nil)), ⟨_, hT2, rfl, _, rfl⟩⟩
    have I1 : L2.Inv X pins σ (upd H s.heap.objs.size (.tup [x', y', q'])) { s with heap := h'', toks := tk } :=
      I.turnedNew (t' := tk) (ch := [z, TI, TO, i1, i2, i3]) (fun c o hb q => (sb.2 c (fun q' => hb (by simp [q']))).trans (hk c o (fun q' => hb (by simp [q'])) (fun q' => hb (by simp [q'])) (fun q' => hb (by simp [q'])) (fun q' => hb (by simp [q'])) (fun q' => hb (by simp [q'])) q)) hf (Nat.le_refl _) new
    refine ⟨.ref s.heap.objs.size, _, I1, rfl, ⟨_, x', y', q', rfl, I.hok.fresh (Nat.le_refl _), rfl, fun l hl => by rw [SK.inj I hl hqx]; exact hx, fun l hl => by rw [SK.inj I hl hqy]; exact hy, fun l hl => by rw [SK.inj I hl hqz]; exact hq⟩, ⟨z'', ?_, ⟨u, u2, u3, ?_⟩, ?_, ?_, ?_⟩, fun c hcm => ?_⟩
    · exact (sb.2 _ D.a.TIz).trans (hk _ _ D.a.TIz D.a.TITO D.a.TIi1 D.a.TIi2 D.b.TIi2 hTI)
    · exact (sb.2 _ D.a.TOz).trans TO'
    · exact SK.at_keep (a2 _ _ h1') fun o q => (sb.2 _ D.a.zi1.symm).trans q
    · exact SK.at_keep (b2 _ _ h2') fun o q => (sb.2 _ D.a.zi2.symm).trans q
    · exact SK.at_keep (c2 _ _ h3') fun o q => (sb.2 _ D.b.zi2.symm).trans q
    · have hlt : c < s.heap.objs.size := by
        have e' : c = z ∨ c = TI ∨ c = TO ∨ c = i1 ∨ c = i2 ∨ c = i3 := by simpa using hcm
        rcases e' with q | q | q | q | q | q
        · rw [q]; exact hzl
        · rw [q]; exact Heap.lt_size hTI
        · rw [q]; exact Heap.lt_size hTO
        · rw [q]; obtain ⟨_, e1, _⟩ := SK.at_obj h1; exact Heap.lt_size e1
        · rw [q]; obtain ⟨_, e2, _⟩ := SK.at_obj h2; exact Heap.lt_size e2
        · rw [q]; obtain ⟨_, e3, _⟩ := SK.at_obj h3; exact Heap.lt_size e3
      rw [upd_ne (Nat.ne_of_lt hlt)]
      exact (hf c hcm).1
  done := by
    intro X hP hw hK hc i pins s σ H E I hf st hg
    subst hP hw hK
    obtain ⟨hz, hTI, ⟨x0, y0, q0, hTO⟩, h1, h2, h3⟩ := st
    obtain ⟨xs, ys, zs, hqx, hqy, hqz, hend⟩ := hg
    obtain ⟨fp1, P1, S1, D1, a1, a2, a3, a4, a5⟩ := SK.draws (A := X.A.in1) (I.ok.hd hc) I (hf i1 (by simp)) hqx h1
    obtain ⟨fp2, P2, S2, D2, b1, b2, b3, b4, b5⟩ := SK.draws (A := X.A.in1) (I.ok.hd hc) I (hf i2 (by simp)) hqy h2
    obtain ⟨fp3, P3, S3, D3, c1, c2, c3, c4, c5⟩ := SK.draws (A := X.A.in1) (I.ok.hd hc) I (hf i3 (by simp)) hqz h3
    have sep : ZipSep3 z TI TO i1 i2 i3 fp1 fp2 fp3 := ⟨D.a.TIz, D.a.TOz, D.a.TITO, D.a.TIi1, a4, fun q => a5 z q z (hf z (by simp)) D.a.zi1 rfl, fun q => a5 TO q TO (hf TO (by simp)) D.a.Ti1 rfl,
      D.a.TIi2, b4, fun q => b5 z q z (hf z (by simp)) D.a.zi2 rfl, fun q => b5 TO q TO (hf TO (by simp)) D.a.Ti2 rfl,
      D.b.TIi2, c4, fun q => c5 z q z (hf z (by simp)) D.b.zi2 rfl, fun q => c5 TO q TO (hf TO (by simp)) D.b.Ti2 rfl,
      fun q => b5 i1 q i1 (hf i1 (by simp)) D.a.ii rfl, fun q => c5 i1 q i1 (hf i1 (by simp)) D.b.ii rfl,
      fun q => a5 i2 q i2 (hf i2 (by simp)) D.a.ii.symm rfl, fun q => c5 i2 q i2 (hf i2 (by simp)) D.c.ii rfl,
      fun q => a5 i3 q i3 (hf i3 (by simp)) D.b.ii.symm rfl, fun q => b5 i3 q i3 (hf i3 (by simp)) D.c.ii.symm rfl⟩
    exact wpAny_pyNext_zipD3_end sep D1 D2 D3 hz hTI hTO (a1 _ h1) (b1 _ h2) (c1 _ h3) (by omega) (by omega) (by omega) (by omega) fun h' tk hk => ⟨rfl, I.turnedL (t' := tk) (ch := [z, TI, TO, i1, i2, i3]) (fun c o hb q =>
      hk c o (fun q' => hb (by simp [q'])) (fun q' => hb (by simp [q'])) (fun q' => hb (by simp [q'])) (fun q' => hb (by simp [q'])) (fun q' => hb (by simp [q'])) q) hf⟩
  self := fun A i s Q E st h => wpAny_pyIter_zip st.1 h
theorem walk_zipY {K : PySem.W.Frag} {k1 k2 k3 : SK} : Walk (ItzY K k1 k2 k3) (min (min xs.length ys.length) zs.length) (fun H => k1.has K H xs ∧ k2.has K H ys ∧ k3.has K H zs) (YTrip (fun i => xs[i]?) (fun i => ys[i]?) (fun i => zs[i]?)) := by
  refine ⟨fun i _ hi q => ?_, fun _ q => ⟨xs, ys, zs, q.1, q.2.1, q.2.2, rfl⟩, fun i H v H' _ q y => ?_⟩
  · have h1 : i < xs.length := by omega
    have h2 : i < ys.length := by omega
    have h3 : i < zs.length := by omega
    exact ⟨xs, ys, zs, xs[i], ys[i], zs[i], q.1, q.2.1, q.2.2, by simp [h1], by simp [h2], by simp [h3]⟩
  · obtain ⟨T, x, z, u, h1, h2, h3, h4, h5, h6⟩ := y
    exact ⟨T, x, z, u, h1, h2, h3, h4 xs q.1, h5 ys q.2.1, h6 zs q.2.2⟩
def iZipY (K : PySem.W.Frag) (ta : TA) : TI := fun σ H R => ta σ H fun vs H1 => ∃ v1 v2 v3, vs = [v1, v2, v3] ∧ (∃ k1 k2 k3 xs ys zs, SK.rel v1 k1 ∧ SK.rel v2 k2 ∧ SK.rel v3 k3 ∧ k1.has K H1 xs ∧ k2.has K H1 ys ∧ k3.has K H1 zs ∧ ∀ j1 j2 j3, SK.sim k1 j1 → SK.sim k2 j2 → SK.sim k3 j3 → R (ItzY K j1 j2 j3) H1)
theorem pi_zipY {X : Cx} {e e2 e3 : Expr} {ta : TA} {p pos tpos : Pos} {elts : List Expr} {kk : Nat} (hg : Gl X "zip") (hm : X.mg "zip" = none) (ha : PA X [e, e2, e3] ta)
    (hs : starEach [e, e2, e3] X.env = (false, eval e X.env) :: starEach [e2, e3] X.env := by rfl) (hpl : (backTo pos (starEach [e2, e3] X.env)).any (·.1) = false := by rfl) :
    PI X (.Tuple elts kk tpos) (.Call (.Name "zip" p) [e, e2, e3] [] pos) (iZipY X.K ta) := by
  refine ⟨fun pins s σ H R I h => ?_⟩
  refine PyProof.Rows.Call_ (ld_blt I hg hm PyProof.Rows.boot_zip (PyProof.Rows.callWith_type1 (thn (ha.run pos pins s σ H _ I h) fun us s1 ⟨vs, H1, I1, r1, q1⟩ => ?_) hs hpl))
  obtain ⟨v1, v2, v3, ex, k1, k2, k3, xs, ys, zs, rel1, rel2, rel3, hq1, hq2, hq3, q⟩ := q1
  subst ex
  cases r1 with
  | cons r rr =>
    cases rr with
    | cons r' rr =>
      cases rr with
      | cons r'' rr =>
        cases rr
        obtain ⟨j1, rel1', hj1, rfl⟩ := SK.pick rel1 r hq1
        obtain ⟨j2, rel2', hj2, rfl⟩ := SK.pick rel2 r' hq2
        obtain ⟨j3, rel3', hj3, rfl⟩ := SK.pick rel3 r'' hq3
        obtain ⟨Hh1, B1, hB1⟩ := SK.begins I1 hj1
        obtain ⟨Hh2, B2, hB2⟩ := SK.begins I1 hj2
        obtain ⟨Hh3, B3, hB3⟩ := SK.begins I1 hj3
        refine zip_begins3 B1 B2 B3 hB1 hB2 hB3 fun h' hz hTI hTO h1 h2 h3 hsz hk => wpAny_pyIter_zip hz ?_
        have I2 : L2.Inv X pins σ H1 { s1 with heap := h' } := I1.kept (t' := s1.toks) hk
        refine ⟨s1.heap.objs.size + 5, [s1.heap.objs.size + 5, s1.heap.objs.size + 3, s1.heap.objs.size + 4, s1.heap.objs.size, s1.heap.objs.size + 1, s1.heap.objs.size + 2], _, _, H1, rfl, I2, turn_zipY ?_, ⟨hz, hTI, ⟨_, _, _, hTO⟩, SK.at_first h1, SK.at_first h2, SK.at_first h3⟩, fun c hcm => ?_, q j1 j2 j3 rel1' rel2' rel3'⟩
        · have a : ∀ {i j : Nat}, i ≠ j → (s1.heap.objs.size + i : Nat) ≠ s1.heap.objs.size + j := fun {i j} h => by omega
          have z : ∀ {i j : Nat}, i < 3 → j < 3 → i ≠ j → ZAp (s1.heap.objs.size + 5) (s1.heap.objs.size + 3) (s1.heap.objs.size + 4) (s1.heap.objs.size + i) (s1.heap.objs.size + j) := fun {i j} hi hj hij =>
            ⟨a (by omega), a (by omega), a (by omega), a (by omega), a (by omega), a (by omega), a (by omega), a (by omega), a (by omega), a hij⟩
          exact ⟨z (i := 0) (j := 1) (by decide) (by decide) (by decide), z (i := 0) (j := 2) (by decide) (by decide) (by decide), z (i := 1) (j := 2) (by decide) (by decide) (by decide)⟩
        · have hle : s1.heap.objs.size ≤ c := by
            have e' : c = s1.heap.objs.size + 5 ∨ c = s1.heap.objs.size + 3 ∨ c = s1.heap.objs.size + 4 ∨ c = s1.heap.objs.size ∨ c = s1.heap.objs.size + 1 ∨ c = s1.heap.objs.size + 2 := by simpa using hcm
            rcases e' with z | z | z | z | z | z
            · rw [z]; exact Nat.le_add_right _ _
            · rw [z]; exact Nat.le_add_right _ _
            · rw [z]; exact Nat.le_add_right _ _
            · rw [z]; exact Nat.le_refl _
            · rw [z]; exact Nat.le_add_right _ _
            · rw [z]; exact Nat.le_add_right _ _
          exact I1.fpOk hle (I1.hok.fresh hle)
end
def zipL3 : List D → List D → List D → List D
  | a :: as, b :: bs, c :: cs => .tup [a, b, c] :: zipL3 as bs cs
  | _, _, _ => []
def zip3D : List D → Option (List D)
  | [d, e, f] => match itemsD d, itemsD e, itemsD f with
    | some xs, some ys, some zs => some (zipL3 xs ys zs)
    | _, _, _ => none
  | _ => none
theorem zipL3_len : ∀ {as bs cs : List D}, (zipL3 as bs cs).length = min (min as.length bs.length) cs.length
  | [], bs, cs => by simp [zipL3]
  | a :: as, [], cs => by simp [zipL3]
  | a :: as, b :: bs, [] => by simp [zipL3]
  | a :: as, b :: bs, c :: cs => by show (zipL3 as bs cs).length + 1 = _; rw [zipL3_len]; simp only [List.length_cons]; omega
theorem zipL3_at : ∀ {as bs cs : List D} {i : Nat} {a b c : D}, as[i]? = some a → bs[i]? = some b → cs[i]? = some c → (zipL3 as bs cs)[i]? = some (.tup [a, b, c])
  | [], _, _, _, _, _, _, h, _, _ => by simp at h
  | _ :: _, [], _, _, _, _, _, _, h, _ => by simp at h
  | _ :: _, _ :: _, [], _, _, _, _, _, _, h => by simp at h
  | a :: as, b :: bs, c :: cs, i, x, y, z, h1, h2, h3 => by
    show (D.tup [a, b, c] :: zipL3 as bs cs)[i]? = _
    cases i with
    | zero => simp at h1 h2 h3; subst h1 h2 h3; rfl
    | succ i => exact zipL3_at (as := as) (bs := bs) (cs := cs) (i := i) (by simpa using h1) (by simpa using h2) (by simpa using h3)
theorem zip3D_some {ds es : List D} (h : zip3D ds = some es) : ∃ d e f xs ys zs, ds = [d, e, f] ∧ itemsD d = some xs ∧ itemsD e = some ys ∧ itemsD f = some zs ∧ es = zipL3 xs ys zs := by
  unfold zip3D at h
  split at h
  · rename_i d e f
    cases q1 : itemsD d with
    | none => rw [q1] at h; cases h
    | some xs =>
      cases q2 : itemsD e with
      | none => rw [q1, q2] at h; cases h
      | some ys =>
        cases q3 : itemsD f with
        | none => rw [q1, q2, q3] at h; cases h
        | some zs => rw [q1, q2, q3] at h; cases h; exact ⟨d, e, f, xs, ys, zs, rfl, q1, q2, q3, rfl⟩
  · cases h
theorem WalkD.trip {C : Cfg} {S : Hp} {J : It} {ds : List D} {G : Hp → Prop} {f g k : Nat → Option V} (w : Walk J ds.length G (YTrip f g k)) (hG : ∀ H, L2.Same S H → G H)
    (r : ∀ i x y z, i < ds.length → f i = some x → g i = some y → k i = some z → ∃ a b c, ds[i]? = some (.tup [a, b, c]) ∧ Rep C.K S x a ∧ Rep C.K S y b ∧ Rep C.K S z c) : WalkD C S J ds := by
  refine ⟨G, _, w, hG, fun i H x H' S1 a b hi y => ?_⟩
  obtain ⟨T, u, v, z, rfl, nT, rfl, h1, h2, h3⟩ := y
  obtain ⟨d, e, f, hd, r1, r2, r3⟩ := r i u v z hi h1 h2 h3
  have n1 : S1 T = none := b.free nT
  refine ⟨upd S1 T (.tup [u, v, z]), _, upd_Same n1, upd_Same nT, fun q o h => ?_, fun q h h' => ?_, hd, .tup (SqT.of upd_same) (.cons (r1.mono (a.trans (upd_Same n1))) (.cons (r2.mono (a.trans (upd_Same n1))) (.cons (r3.mono (a.trans (upd_Same n1))) .nil)))⟩
  · by_cases z : q = T
    · subst z; rw [upd_same] at h ⊢; exact h
    · rw [upd_ne z] at h ⊢; exact b q o h
  · by_cases z : q = T
    · subst z; exact nT
    · rw [upd_ne z] at h'; exact absurd h h'
section
variable {X : Cx} {C : Cfg} {W : WX} {cf : CF} {T : List (Str × Nat)} {a b c : Expr} {ms : List (M RV)} {pos p : Pos}
theorem vi_zip3 {elts : List Expr} {kk : Nat} {tpos : Pos} (vx : Vx X C W cf T) (hg : Gl X "zip") (hm : X.mg "zip" = none) (ha : VA X C W [a, b, c] ms)
    (hs : starEach [a, b, c] X.env = (false, eval a X.env) :: starEach [b, c] X.env := by rfl) (hpl : (backTo pos (starEach [b, c] X.env)).any (·.1) = false := by rfl) :
    VI X C W (.Tuple elts kk tpos) (.Call (.Name "zip" p) [a, b, c] [] pos) (srcF zip3D ms) := by
  refine ⟨VL.PI.imp (pi_zipY hg hm ha.pa hs hpl) fun σ H R h => ?_⟩
  obtain ⟨S, ρ, st, g⟩ := tI_src h
  refine ⟨S, ρ, st, Good.mono g fun vs H1 ⟨S1, ds, es, s1, r1, q1, k⟩ => ?_⟩
  obtain ⟨d, d', d'', ds, ds', ds'', rfl, q2, q3, q4, rfl⟩ := zip3D_some q1
  obtain ⟨v, v', v'', rfl, r, r', r''⟩ := r1.three
  obtain ⟨kd, xs, h1, h2, h3⟩ := items_sk r q2
  obtain ⟨kd', xs', h1', h2', h3'⟩ := items_sk r' q3
  obtain ⟨kd'', xs'', h1'', h2'', h3''⟩ := items_sk r'' q4
  rw [vx.K]
  refine ⟨v, v', v'', rfl, kd, kd', kd'', xs, xs', xs'', h1, h1', h1'', h3 _ s1, h3' _ s1, h3'' _ s1, fun j1 j2 j3 sm sm' sm'' => k _ ?_⟩
  refine WalkD.trip (by rw [zipL3_len, ← h2.len, ← h2'.len, ← h2''.len]; exact walk_zipY) (fun H st => And.intro (sm.has (h3 H st)) (And.intro (sm'.has (h3' H st)) (sm''.has (h3'' H st)))) fun i x y z hi hx hy hz => ?_
  obtain ⟨u, hu, ru⟩ := h2.at' hx
  obtain ⟨u', hu', ru'⟩ := h2'.at' hy
  obtain ⟨u'', hu'', ru''⟩ := h2''.at' hz
  exact ⟨u, u', u'', zipL3_at hu hu' hu'', ru, ru', ru''⟩
end
end VL

/-! VL part y: x[k] op= e; x.pop(), x.pop(i); xs.index(y), xs.count(y). -/
namespace VL
open PySem hiding Env
open L2 PySem.Spec PyProof
section
variable {X : Cx} {C : Cfg} {W : WX} {cf : CF} {T : List (Str × Nat)} {a b e e2 : Expr} {ma mb mk me : M RV} {i : Nat} {x : Str} {pos p py : Pos}
/-! ### x[k] op= e, ints -/
def getI : D → D → Option Int
  | .lst ds, .int k => if 0 ≤ k ∧ k < 1000000000 then (match ds[k.toNat]? with | some (.int x) => some x | _ => none) else none
  | .dic kvs, k => (keyD k).bind fun k => match getKD kvs k with | some (.int x) => some x | _ => none
  | _, _ => none
def itemI (i : Nat) (k : D) : M Int := fun ρ => match ownD ρ i with
  | some d => (match getI d k with | some x => .ok x ρ | none => .stuck)
  | none => .stuck
def asInt : D → Option Int | .int i => some i | _ => none
def augIxS (i : Nat) (mk : M RV) (f : Int → Int → Int) (me : M RV) : MS := hasAny i >>= fun _ => opd mk >>= fun o => look o >>= fun k => itemI i k >>= fun x => opd me >>= fun o2 => look o2 >>= fun y => M.lift (asInt y) >>= fun y => updSlot i (setD (.int (f x y)) k) >>= fun _ => pure .nx
def rGetL (K : PySem.W.Frag) : V → V → Hp → VK → Prop := fun o k H Q => ∃ p xs n v, o = V.ref p ∧ k = V.int n ∧ H p = some (.lst xs) ∧ 0 ≤ n ∧ n < 1000000000 ∧ xs[n.toNat]? = some v ∧ Q v H
theorem get_list : PGet X (rGetL X.K) := fun pins s σ H o k ov kv Q I ro rk ⟨q, xs, n, v, e1, e2, hH, n0, n1, hv, want⟩ => by
  subst e1 e2
  cases ro
  obtain ⟨t, rfl⟩ := rk
  obtain ⟨its, r, pl, hz⟩ := I.list (SqL.of (K := X.K) hH)
  obtain ⟨w, ew, rw'⟩ := r.get hv
  exact PySem.wpAny_getItem_list pl.isList n0 (by omega) (by simpa using ew) ⟨v, H, I, rw', want⟩
theorem get_dict (hu : X.A.units + 1 < cLine) : PGet X rIxDic := fun pins s σ H o k ov kv Q I ro rk ⟨q, w, e1, g, want⟩ => by
  subst e1
  cases ro
  exact d_getItem hu I g rk fun w' s3 I3 rw' => ⟨w, H, I3, rw', want⟩
theorem PGet.or {t t' : V → V → Hp → VK → Prop} (h : PGet X t) (h' : PGet X t') : PGet X (fun o k H Q => t o k H Q ∨ t' o k H Q) := fun pins s σ H o k ov kv Q I ro rk w => w.elim (h pins s σ H o k ov kv Q I ro rk) (h' pins s σ H o k ov kv Q I ro rk)
theorem itemI_ok {σ : L2.St} {S : Hp} {ρ : Env} {H : Hp} {k : D} {kv : V} {n : Int} {ρ' : Env} {q : Addr} (st : StRel C S ρ σ H) (hq : σ[i]? = some (some (V.ref q))) (rk : Rd C.K S H kv k) (h : itemI i k ρ = .ok n ρ') (Q : VK) (want : Q (.int n) H) :
    ρ' = ρ ∧ (rGetL C.K (.ref q) kv H Q ∨ rIxDic (.ref q) kv H Q) := by
  unfold itemI at h
  cases e : ownD ρ i with
  | none => rw [e] at h; cases h
  | some d =>
    rw [e] at h
    obtain ⟨q', h1, h2, h3⟩ := st.own i d e
    cases h1.symm.trans hq
    cases e2 : getI d k with
    | none => simp only [e2] at h; cases h
    | some m =>
      simp only [e2] at h
      cases h
      refine ⟨rfl, ?_⟩
      cases d with
      | lst ds =>
        cases k with
        | int k =>
          have e2 : (if 0 ≤ k ∧ k < 1000000000 then (match ds[k.toNat]? with | some (.int x) => some x | _ => none) else none) = some n := e2
          cases rk
          split at e2
          · rename_i kk
            obtain ⟨xs, hH, r⟩ := h3
            cases e3 : ds[k.toNat]? with
            | none => rw [e3] at e2; cases e2
            | some d3 =>
              rw [e3] at e2
              cases d3 with
              | int z =>
                cases e2
                obtain ⟨v, hv, rv⟩ := r.at e3
                cases rv
                exact .inl ⟨_, xs, k, _, rfl, rfl, hH, kk.1, kk.2, hv, want⟩
              | _ => cases e2
          · cases e2
        | _ => cases e2
      | dic kvs =>
        have e2 : ((keyD k).bind fun k => match getKD kvs k with | some (.int x) => some x | _ => none) = some n := e2
        obtain ⟨ys, hy, k1, k2⟩ := h3
        cases e3 : keyD k with
        | none => rw [e3] at e2; cases e2
        | some kk =>
          rw [e3] at e2
          have kr : KReps C.K S ys kvs := ⟨k1, k2⟩
          cases e4 : getKD kvs kk with
          | none => simp only [Option.bind_some, e4] at e2; cases e2
          | some d3 =>
            simp only [Option.bind_some, e4] at e2
            cases d3 with
            | int z =>
              cases e2
              obtain ⟨v, hv, rv⟩ := kr.get e4
              cases rv
              rw [keyD_ok rk e3]
              exact .inr ⟨_, _, rfl, hv ▸ DGet.k hy, want⟩
            | _ => cases e2
      | _ => cases e2
theorem itemI_key {k : D} {ρ ρ' : Env} {n : Int} (h : itemI i k ρ = .ok n ρ') : (∃ z, k = .int z) ∨ ∃ z, k = .str z := by
  unfold itemI at h
  split at h
  · rename_i d _
    cases e : getI d k with
    | none => simp only [e] at h; cases h
    | some m =>
      cases k with
      | int z => exact .inl ⟨z, rfl⟩
      | str z => exact .inr ⟨z, rfl⟩
      | _ => cases d <;> cases e
  · cases h
theorem itemI_nox {k : D} {ρ ρ' : Env} {x : D} (h : itemI i k ρ = .exc x ρ') : False := by
  unfold itemI at h
  split at h
  · split at h <;> cases h
  · cases h
theorem hasAny_nox {ρ ρ' : Env} {x : D} (h : hasAny i ρ = .exc x ρ') : False := by
  unfold hasAny at h
  split at h <;> cases h
theorem vs_augIx {op : Operator} {f : Int → Int → Int} (vx : Vx X C W cf T) (hN : X.N[i]? = some x) (hk : VE X C W e mk) (he : VE X C W e2 me) (ho : PIp X op (ipI f)) (hv : Vis X.env.scope x := by first | exact Or.inl rfl | exact Or.inr (Or.inl rfl) | exact Or.inr (Or.inr rfl))
    (hd : (x == ("__debug__" : Str)) = false := by decide) (hcd : (x == ("__classdict__" : Str)) = false := by decide)
    (ha : ∀ ov iv new, augStore e ov iv new = (do holding [new, ov, iv] (setItem ov iv new); release [new, ov, iv] []; pure .next) := by intros; rfl) : VS X C W (.AugAssign (.Subscript (.Name x py) e p) op e2 pos) (augIxS i mk f me) := by
  refine ⟨PS.imp (ps_augS (pe_var hN hv hd hcd) hk.pe (PGet.or get_list (get_dict (by have := vx.hu; omega))) he.pe ho (PSet.or set_list (set_dict (by have := vx.hu; omega))) ha) fun D0 σ H h => ?_⟩
  obtain ⟨S, ρ, st, g⟩ := h
  have g : GoodS C W S ρ σ H ((hasAny i >>= fun _ => opd mk >>= fun o => look o >>= fun k => itemI i k >>= fun x => opd me >>= fun o2 => look o2 >>= fun y => M.lift (asInt y) >>= fun y => updSlot i (setD (.int (f x y)) k) >>= fun _ => pure Fl.nx) ρ) D0 := g
  rw [bnd_ap] at g
  cases q : hasAny i ρ with
  | stuck => rw [q] at g; exact g.elim
  | exc x ρ' => exact (hasAny_nox q).elim
  | ok u ρ' =>
    rw [q] at g
    obtain ⟨rfl, p1, hq⟩ := hasAny_ok st q
    refine ⟨_, hq, S, ρ', st, Good.opd (GoodS.bnd g fun o ρ1 S1 H1 w _ e1 r1 g1 => ?_)⟩
    rw [bnd_ap] at g1
    cases q2 : look o ρ1 with
    | stuck => rw [q2] at g1; exact g1.elim
    | exc x ρ2 => exact (look_nox q2).elim
    | ok k ρ2 =>
      rw [q2] at g1
      obtain ⟨rfl, rk⟩ := look_now e1.st r1 q2
      have g1 : GoodS C W S1 ρ2 σ H1 ((itemI i k >>= fun x => opd me >>= fun o2 => look o2 >>= fun y => M.lift (asInt y) >>= fun y => updSlot i (setD (.int (f x y)) k) >>= fun _ => pure Fl.nx) ρ2) D0 := g1
      rw [bnd_ap] at g1
      cases q3 : itemI i k ρ2 with
      | stuck => rw [q3] at g1; exact g1.elim
      | exc x ρ3 => exact (itemI_nox q3).elim
      | ok n ρ3 =>
        rw [q3] at g1
        rw [vx.K]
        have key := fun Q want => itemI_ok e1.st hq rk q3 Q want
        obtain ⟨rfl, _⟩ := key (fun _ _ => True) trivial
        refine (key (fun v H2 => tE C W me σ H2 fun y H4 => ipI f v y H4 fun z H5 => (rSetL (.ref p1) w z H5 fun H6 => D0.nx σ H6) ∨ (rSetD (.ref p1) w z H5 fun H6 => D0.nx σ H6)) ?_).2
        refine ⟨S1, ρ3, e1.st, Good.opd (GoodS.bnd g1 fun o2 ρ4 S4 H4 y _ e4 r4 g4 => ?_)⟩
        rw [bnd_ap] at g4
        cases q4 : look o2 ρ4 with
        | stuck => rw [q4] at g4; exact g4.elim
        | exc x ρ5 => exact (look_nox q4).elim
        | ok dy ρ5 =>
          rw [q4] at g4
          obtain ⟨rfl, ry⟩ := look_now e4.st r4 q4
          cases dy with
          | int m =>
            cases ry
            have g4 : GoodS C W S4 ρ5 σ H4 ((updSlot i (setD (.int (f n m)) k) >>= fun _ => pure Fl.nx) ρ5) D0 := g4
            refine ⟨n, m, rfl, rfl, ?_⟩
            have hk2 : Rd C.K S4 H4 w k := by
              rcases itemI_key q3 with ⟨z, rfl⟩ | ⟨z, rfl⟩
              · cases rk; rfl
              · cases rk; rfl
            obtain ⟨p2, d0, d', hq', nS, own, hf, up⟩ := GoodS.upd e4.st g4
            cases hq.symm.trans hq'
            cases d0 with
            | lst ds =>
              obtain ⟨ys, hy, ry⟩ := own
              cases k with
              | int k =>
                cases hk2
                have hf : ((ixN ds.length k).map fun j => D.lst (ds.set j (.int (f n m)))) = some d' := hf
                cases q5 : ixN ds.length k with
                | none => rw [q5] at hf; cases hf
                | some j =>
                  rw [q5] at hf; cases hf
                  refine .inl ⟨p1, ys, k, j, rfl, rfl, hy, by rw [ry.len]; exact q5, ?_⟩
                  obtain ⟨ρ', e6, g6⟩ := up (.lst (ys.set j (.int (f n m)))) ⟨_, upd_same, ry.set j (.int _)⟩
                  have g6 : ∀ S' H' σ', StpS C S4 ρ' σ _ S' ρ' σ' H' → D0.nx σ' H' := g6
                  exact g6 _ _ _ (StpS.refl e6.st)
              | _ => cases hf
            | dic ds =>
              obtain ⟨ys, hy, k1, k2⟩ := own
              have hf : (match keyD k with
                | some k => if ds.length < LIM then some (D.dic (putKD ds k (.int (f n m)))) else none
                | none => none) = some d' := hf
              cases q5 : keyD k with
              | none => rw [q5] at hf; cases hf
              | some kk =>
                rw [q5] at hf
                have kr : KReps C.K S4 ys ds := ⟨k1, k2⟩
                have hf : (if ds.length < LIM then some (D.dic (putKD ds kk (.int (f n m)))) else none) = some d' := hf
                split at hf
                · rename_i hl
                  cases hf
                  rw [keyD_ok hk2 q5]
                  have kp := kr.put (k := kk) (d := .int (f n m)) (v := .int (f n m)) (.int _)
                  refine .inr ⟨p1, _, rfl, DPut.k hy (by rw [kr.len]; rw [LIM_eq] at hl; exact hl), ?_⟩
                  obtain ⟨ρ', e6, g6⟩ := up (.dK (putK ys kk (.int (f n m)))) ⟨_, upd_same, kp.ks, kp.vs⟩
                  have g6 : ∀ S' H' σ', StpS C S4 ρ' σ _ S' ρ' σ' H' → D0.nx σ' H' := g6
                  exact g6 _ _ _ (StpS.refl e6.st)
                · cases hf
            | _ => first | exact own.elim | cases hf
          | _ => exact g4.elim
/-! ### x.pop(), x.pop(k) -/
def lastM (i : Nat) : M D := fun ρ => match ownD ρ i with
  | some (.lst ds) => (match ds[ds.length - 1]? with | some d => .ok d ρ | none => .stuck)
  | _ => .stuck
def popD : D → Option D | .lst ds => some (.lst ds.dropLast) | _ => none
def popM (i : Nat) : M RV := hasOwn i >>= fun _ => lastM i >>= fun d => updSlot i popD >>= fun _ => pure (.val d)
def atM (i : Nat) (k : D) : M D := fun ρ => match ownD ρ i, k with
  | some (.lst ds), .int k => if 0 ≤ k ∧ k < 1000000000 then (match ds[k.toNat]? with | some d => .ok d ρ | none => .stuck) else .stuck
  | _, _ => .stuck
def popAtD (k : D) : D → Option D
  | .lst ds => (match k with | .int k => some (.lst (ds.eraseIdx k.toNat)) | _ => none)
  | _ => none
def popAtM (i : Nat) (mk : M RV) : M RV := hasOwn i >>= fun _ => opd mk >>= fun o => look o >>= fun k => atM i k >>= fun d => updSlot i (popAtD k) >>= fun _ => pure (.val d)
theorem Reps.dropLast {K : PySem.W.Frag} {S : Hp} {vs : List V} {ds : List D} (h : Reps K S vs ds) : Reps K S vs.dropLast ds.dropLast := by
  rw [List.dropLast_eq_take, List.dropLast_eq_take, h.len]; exact h.take _
theorem Reps.erase {K : PySem.W.Frag} {S : Hp} {vs : List V} {ds : List D} (h : Reps K S vs ds) (n : Nat) : Reps K S (vs.eraseIdx n) (ds.eraseIdx n) := by
  rw [List.eraseIdx_eq_take_drop_succ, List.eraseIdx_eq_take_drop_succ]; exact (h.take _).app (h.drop _)
theorem ve_pop (hN : X.N[i]? = some x) {ap : Pos} (hv : Vis X.env.scope x := by first | exact Or.inl rfl | exact Or.inr (Or.inl rfl) | exact Or.inr (Or.inr rfl)) (hd : (x == ("__debug__" : Str)) = false := by decide) (hcd : (x == ("__classdict__" : Str)) = false := by decide)
    (hline : (ap.endLine == pos.line) = true := by rfl) : VE X C W (.Call (.Attribute (.Name x p) "pop" ap) [] [] pos) (popM i) := by
  refine ⟨PE.imp (pe_bm0 PySem.F.plainAttrs_list PySem.F.slot_list_pop PySem.F.type_list_pop mt_pop (pe_var hN hv hd hcd) rfl hline) fun σ H Q h => ?_⟩
  obtain ⟨S, ρ, st, g⟩ := h
  obtain ⟨q, xs, hq, hH, g⟩ := Good.hasOwn st g
  rw [bnd_ap] at g
  cases e : lastM i ρ with
  | stuck => rw [e] at g; exact g.elim
  | exc z r =>
    unfold lastM at e
    split at e
    · split at e <;> cases e
    · cases e
  | ok d r =>
    rw [e] at g
    unfold lastM at e
    split at e
    · rename_i ds eo
      split at e
      · rename_i d3 e3
        cases e
        obtain ⟨q1, h1, h2, ys, h3, rr⟩ := st.own i _ eo
        cases h1.symm.trans hq
        cases h3.symm.trans hH
        obtain ⟨v, hv', rv⟩ := rr.at e3
        have g : Good C W σ S ρ H ((updSlot i popD >>= fun _ => pure (RV.val d)) ρ) (RVr C σ) Q := g
        obtain ⟨q', d0, d', hq', nS, own, hf, up⟩ := Good.upd RVr.back st g
        cases hq.symm.trans hq'
        cases d0 with
        | lst ds0 =>
          obtain ⟨ys, hy, ry⟩ := own
          cases hy.symm.trans hH
          cases (show some (D.lst ds0.dropLast) = some d' from hf)
          refine tE_pos hq ⟨.inl ⟨rfl, xs, SqL.of hH⟩, q, xs, v, rfl, rfl, hH, by rw [rr.len]; exact hv', ?_⟩
          obtain ⟨ρ', e2, g2⟩ := up (.lst xs.dropLast) ⟨_, upd_same, ry.dropLast⟩
          have g2 : ∀ S' H' b, Stp C σ S ρ' _ S' ρ' H' → RVr C σ ρ' _ (.val d) S' ρ' H' b → Q b H' := g2
          exact g2 S _ v (Stp.refl e2.st) rv
        | _ => first | exact own.elim | cases hf
      · cases e
    · cases e
theorem ve_popAt (hN : X.N[i]? = some x) (he : VE X C W e mk) {ap : Pos} (hv : Vis X.env.scope x := by first | exact Or.inl rfl | exact Or.inr (Or.inl rfl) | exact Or.inr (Or.inr rfl)) (hd : (x == ("__debug__" : Str)) = false := by decide) (hcd : (x == ("__classdict__" : Str)) = false := by decide)
    (h1 : starEach [e] X.env = (false, eval e X.env) :: starEach [] X.env := by rfl)
    (few : ((backTo pos (starEach (e :: []) X.env)).all (fun x => !x.1) && (backToKw pos (keywordEach [] X.env)).all (fun x => x.1.isSome) && decide ((e :: []).length + ([] : List Keyword).length + (if ([] : List Keyword).isEmpty then 0 else 1) < 30)) = true := by rfl)
    (hline : (ap.endLine == pos.line) = true := by rfl) (plain : (backTo pos (starEach [] X.env)).any (·.1) = false := by rfl) : VE X C W (.Call (.Attribute (.Name x p) "pop" ap) [e] [] pos) (popAtM i mk) := by
  refine ⟨PE.imp (pe_bm PySem.F.plainAttrs_list PySem.F.slot_list_pop PySem.F.type_list_pop mt_popAt (pe_var hN hv hd hcd) (pa_cons he.pe pa_nil h1) rfl few hline h1 plain) fun σ H Q h => ?_⟩
  obtain ⟨S, ρ, st, g⟩ := h
  obtain ⟨q, xs, hq, hH, g⟩ := Good.hasOwn st g
  refine tE_pos hq ⟨.inl ⟨rfl, xs, SqL.of hH⟩, S, ρ, st, Good.opd (Good.bnd RVr.back g fun o ρ1 S1 H1 w _ e1 r1 g1 => ?_)⟩
  obtain ⟨k, rk, g1⟩ := Good.look e1.st r1 g1
  rw [bnd_ap] at g1
  cases e2 : atM i k ρ1 with
  | stuck => rw [e2] at g1; exact g1.elim
  | exc z r =>
    unfold atM at e2
    split at e2
    · split at e2
      · split at e2 <;> cases e2
      · cases e2
    · cases e2
  | ok d r =>
    rw [e2] at g1
    unfold atM at e2
    split at e2
    · rename_i ds n eo
      split at e2
      · rename_i kk
        split at e2
        · rename_i d3 e3
          cases e2
          cases rk
          obtain ⟨q1, h1, h2, ys, h3, rr⟩ := e1.st.own i _ eo
          cases h1.symm.trans hq
          obtain ⟨v, hv', rv⟩ := rr.at e3
          have g1 : Good C W σ S1 ρ1 H1 ((updSlot i (popAtD (.int n)) >>= fun _ => pure (RV.val d)) ρ1) (RVr C σ) Q := g1
          obtain ⟨q', d0, d', hq', nS, own, hf, up⟩ := Good.upd RVr.back e1.st g1
          cases hq.symm.trans hq'
          cases d0 with
          | lst ds0 =>
            obtain ⟨zs, hz, rz⟩ := own
            cases hz.symm.trans h3
            cases (show some (D.lst (ds0.eraseIdx n.toNat)) = some d' from hf)
            have hlen : n.toNat < ys.length := (List.getElem?_eq_some_iff.mp hv').1
            refine ⟨q, ys, n, n.toNat, v, rfl, rfl, h3, by omega, by omega, PySem.seqIndex_of kk.1 (by omega), hv', ?_⟩
            obtain ⟨ρ', e5, g2⟩ := up (.lst (ys.eraseIdx n.toNat)) ⟨_, upd_same, rz.erase _⟩
            have g2 : ∀ S' H' b, Stp C σ S1 ρ' _ S' ρ' H' → RVr C σ ρ' _ (.val d) S' ρ' H' b → Q b H' := g2
            exact g2 S1 _ v (Stp.refl e5.st) rv
          | _ => first | exact own.elim | cases hf
        · cases e2
      · cases e2
    · cases e2
/-! ### xs.index(y), xs.count(y) -/
def isLst : D → Bool | .lst _ => true | .scr _ => true | _ => false
def methM (f : D → D → Option RV) (ma mb : M RV) : M RV := opd ma >>= fun x => look x >>= fun d0 => if isLst d0 = true then (opd mb >>= fun y => look x >>= fun dx => look y >>= fun dy => M.lift (f dx dy)) else M.stuck
def seqPy (l x : D) : Option (List PyData × PyData) := match seqD l with
  | some ds => (match toPys ds, toPy x with
    | some ps, some p => if SeqAt.shaped p && SeqAt.shaped (.list ps) then some (ps, p) else none
    | _, _ => none)
  | none => none
def indexD (l x : D) : Option RV := (seqPy l x).bind fun q => (q.1.findIdx? fun z => PyData.eqv z q.2).map fun j => .val (.int (j : Nat))
def countD (l x : D) : Option RV := (seqPy l x).map fun q => .val (.int ((q.1.countP fun z => PyData.eqv z q.2 : Nat) : Int))
theorem seqPy_ok {S H : Hp} {l x : V} {dl dx : D} {ps : List PyData} {q : PyData} (st : L2.Same S H) (rl : Rd C.K S H l dl) (rx : Rd C.K S H x dx) (h : seqPy dl dx = some (ps, q)) : ∃ a, l = V.ref a ∧ Dp C.K H (V.ref a) (.list ps) ∧ Dp C.K H x q ∧ SeqAt.shaped (.list ps) = true ∧ SeqAt.shaped q = true := by
  unfold seqPy at h
  cases e : seqD dl with
  | none => rw [e] at h; cases h
  | some ds =>
    rw [e] at h
    cases e1 : toPys ds with
    | none => simp only [e1] at h; cases h
    | some p1 =>
      cases e2 : toPy dx with
      | none => simp only [e1, e2] at h; cases h
      | some p2 =>
        simp only [e1, e2] at h
        split at h
        · rename_i c
          cases h
          rw [Bool.and_eq_true] at c
          have d1 := seqD_dp st rl e e1
          have : ∃ a, l = V.ref a := by
            cases dl with
            | lst _ => obtain ⟨a, _, h, _⟩ := rl; exact ⟨a, h⟩
            | scr _ => obtain ⟨a, h, _⟩ := rl; exact ⟨a, h⟩
            | _ => cases e
          obtain ⟨a, rfl⟩ := this
          exact ⟨a, rfl, d1, rx.dp st e2, c.2, c.1⟩
        · cases h
def rCountD (K : PySem.W.Frag) : V → List V → Hp → VK → Prop := fun x xs H Q => ∃ (a : Addr) (y : V) (d : PyData) (ds : List PyData), x = V.ref a ∧ xs = [y] ∧ Dp K H (V.ref a) (.list ds) ∧ Dp K H y d ∧ SeqAt.shaped (.list ds) = true ∧ SeqAt.shaped d = true ∧ Q (.int ((ds.countP fun z => PyData.eqv z d : Nat) : Int)) H
theorem mt_countD (hu : X.A.units + 65 < cLine) : MtR X "list.count" (rCountD X.K) := fun pins s σ H x xs v us Q I rx rxs ⟨a, y, d, ds, e1, e2, hl, hy, sl, sd, want⟩ => by
  subst e1 e2
  cases rx
  obtain ⟨uy, rfl, ry⟩ := rxs.one
  obtain ⟨bs, r1⟩ := Dp.reads I d y uy hy ry
  cases hl with
  | lst hs ha =>
    obtain ⟨its, rv, ⟨⟨cls, dd, data, sls⟩, n, ho, hc, hdn, hdt⟩, hlen⟩ := I.list hs
    simp only at hc hdt
    subst hc hdt
    obtain ⟨as, h4⟩ := Dp.readsAll I ds _ its ha rv
    have back : its.map (SeqAt.readOf s.heap) = ds := SeqAt.readsAll_map ds its as (SeqAt.canLay_of_shaped sl) h4
    have same : its.toArray.toList.countP (fun u => PyData.eqv (SeqAt.readOf s.heap u) d) = ds.countP fun z => PyData.eqv z d := by
      rw [← back, List.countP_map]; rfl
    refine call_meets PySem.F.slot_list_count ⟨_, ho, rfl⟩ PySem.F.entry_list_count (PySem.F.args_list_count_2 _ _)
      (SeqAt.list_countAt a its.toArray n dd sls uy fun u => PyData.eqv (SeqAt.readOf s.heap u) d) ⟨ho, SeqAt.items_eqAt (vs := its.toArray) (show ReadsAll s.heap its.toArray.toList ds as from h4) r1 (SeqAt.canLay_of_shaped sl) (SeqAt.canLay_of_shaped sd) (PyProof.Rows.room_in_shaped sd hu), ?_⟩
    refine ⟨.int ((ds.countP fun z => PyData.eqv z d : Nat) : Int), H, I.tok _, ⟨s.toks, ?_⟩, want⟩
    rw [same]
theorem tE_meth {r : V → List V → Hp → VK → Prop} {f : D → D → Option RV} (pr : ∀ S H l y dl dy rv Q, L2.Same S H → Rd C.K S H l dl → Rd C.K S H y dy → f dl dy = some rv → ((∀ i, rv ≠ .bor i) → OutP C S H rv Q) → r l [y] H Q) {σ : L2.St} {H : Hp} {Q : VK} (h : tE C W (methM f ma mb) σ H Q) :
    tBM C.K "list" r (tE C W ma) (tCons (tE C W mb) tNil) σ H Q := by
  obtain ⟨S, ρ, st, g⟩ := h
  refine ⟨S, ρ, st, Good.opd (Good.bnd RVr.back g fun x ρ1 S1 H1 v _ e1 r1 g1 => ?_)⟩
  obtain ⟨d0, rd0, g1⟩ := Good.look e1.st r1 g1
  split at g1
  · rename_i isl
    refine ⟨?_, S1, ρ1, e1.st, Good.opd (Good.bnd RVr.back g1 fun y ρ2 S2 H2 u _ e2 r2 g2 => ?_)⟩
    · cases d0 with
      | lst ds => obtain ⟨a, xs, rfl, hH, _⟩ := rd0; exact .inl ⟨rfl, xs, SqL.of hH⟩
      | scr ns => obtain ⟨a, rfl, hs⟩ := rd0; exact .inl ⟨rfl, _, hs⟩
      | _ => cases isl
    · obtain ⟨dx, h1, g3⟩ := Good.look e2.st (Op.fwd r1 e2.ext.sS) g2
      obtain ⟨dy, h2, g4⟩ := Good.look e2.st r2 g3
      obtain ⟨rv, h3, g5⟩ := Good.out e2.st g4
      exact pr S2 H2 v u dx dy rv Q e2.st.same h1 h2 h3 g5
  · exact g1.elim
theorem ve_index (vx : Vx X C W cf T) (ha : VE X C W a ma) (hb : VE X C W b mb) {ap : Pos} (base : attributeBase a "index" X.env (eval a X.env) = eval a X.env := by rfl) (h1 : starEach [b] X.env = (false, eval b X.env) :: starEach [] X.env := by rfl)
    (few : ((backTo pos (starEach (b :: []) X.env)).all (fun x => !x.1) && (backToKw pos (keywordEach [] X.env)).all (fun x => x.1.isSome) && decide ((b :: []).length + ([] : List Keyword).length + (if ([] : List Keyword).isEmpty then 0 else 1) < 30)) = true := by rfl)
    (hline : (ap.endLine == pos.line) = true := by rfl) (plain : (backTo pos (starEach [] X.env)).any (·.1) = false := by rfl) : VE X C W (.Call (.Attribute a "index" ap) [b] [] pos) (methM indexD ma mb) := by
  refine ⟨PE.imp (pe_bm PySem.F.plainAttrs_list PySem.F.slot_list_index PySem.F.type_list_index (mt_indexD vx.hu) ha.pe (pa_cons hb.pe pa_nil h1) base few hline h1 plain) fun σ H Q h => ?_⟩
  rw [vx.K]
  refine tE_meth (fun S H l y dl dy rv Q st rl ry e o => ?_) h
  unfold indexD at e
  cases q : seqPy dl dy with
  | none => rw [q] at e; cases e
  | some pq =>
    obtain ⟨ps, p⟩ := pq
    rw [q] at e
    have e : (ps.findIdx? fun z => PyData.eqv z p).map (fun j => RV.val (.int (j : Nat))) = some rv := e
    cases q2 : ps.findIdx? fun z => PyData.eqv z p with
    | none => rw [q2] at e; cases e
    | some j =>
      rw [q2] at e; cases e
      obtain ⟨a, rfl, d1, d2, s1, s2⟩ := seqPy_ok st rl ry q
      obtain ⟨hj, hp, hn⟩ := List.findIdx?_eq_some_iff_getElem.mp q2
      refine ⟨a, y, p, ps, j, ps[j], rfl, rfl, d1, d2, s1, s2, List.getElem?_eq_getElem hj, hp, fun m z' hm hz => ?_, OutP.valI rfl o st⟩
      obtain ⟨hm2, rfl⟩ := List.getElem?_eq_some_iff.mp hz
      simpa using hn m hm
theorem ve_count (vx : Vx X C W cf T) (ha : VE X C W a ma) (hb : VE X C W b mb) {ap : Pos} (base : attributeBase a "count" X.env (eval a X.env) = eval a X.env := by rfl) (h1 : starEach [b] X.env = (false, eval b X.env) :: starEach [] X.env := by rfl)
    (few : ((backTo pos (starEach (b :: []) X.env)).all (fun x => !x.1) && (backToKw pos (keywordEach [] X.env)).all (fun x => x.1.isSome) && decide ((b :: []).length + ([] : List Keyword).length + (if ([] : List Keyword).isEmpty then 0 else 1) < 30)) = true := by rfl)
    (hline : (ap.endLine == pos.line) = true := by rfl) (plain : (backTo pos (starEach [] X.env)).any (·.1) = false := by rfl) : VE X C W (.Call (.Attribute a "count" ap) [b] [] pos) (methM countD ma mb) := by
  refine ⟨PE.imp (pe_bm PySem.F.plainAttrs_list PySem.F.slot_list_count PySem.F.type_list_count (mt_countD vx.hu) ha.pe (pa_cons hb.pe pa_nil h1) base few hline h1 plain) fun σ H Q h => ?_⟩
  rw [vx.K]
  refine tE_meth (fun S H l y dl dy rv Q st rl ry e o => ?_) h
  unfold countD at e
  cases q : seqPy dl dy with
  | none => rw [q] at e; cases e
  | some pq =>
    obtain ⟨ps, p⟩ := pq
    rw [q] at e; cases e
    obtain ⟨a, rfl, d1, d2, s1, s2⟩ := seqPy_ok st rl ry q
    exact ⟨a, y, p, ps, rfl, rfl, d1, d2, s1, s2, OutP.valI rfl o st⟩
/-! ### texts compared, of any signs -/
def eqS : D → D → Option RV | .str a, .str b => some (.val (.bl (a == b))) | _, _ => none
def neS : D → D → Option RV | .str a, .str b => some (.val (.bl (!(a == b)))) | _, _ => none
@[simp] theorem eqS_str (a b : Str) : eqS (.str a) (.str b) = some (.val (.bl (a == b))) := rfl
@[simp] theorem neS_str (a b : Str) : neS (.str a) (.str b) = some (.val (.bl (!(a == b)))) := rfl
theorem o2_eqS : O2 X C (compareOp .Eq) eqS := by
  refine ⟨_, op_eq, fun S H x y dx dy rv Q st rx ry e o => ?_⟩
  unfold eqS at e
  split at e
  · rename_i a b
    cases rx; cases ry; cases e
    have q : Q (.bl (a == b)) H := OutP.valB rfl o st
    exact ⟨rfl, by rw [dec_str]; exact q⟩
  · cases e
theorem o2_neS : O2 X C (compareOp .NotEq) neS := by
  refine ⟨_, op_ne, fun S H x y dx dy rv Q st rx ry e o => ?_⟩
  unfold neS at e
  split at e
  · rename_i a b
    cases rx; cases ry; cases e
    have q : Q (.bl (!(a == b))) H := OutP.valB (i := !(a == b)) rfl o st
    exact ⟨rfl, by rw [dec_str]; exact q⟩
  · cases e
/-! ### x = y, y not read again: the list goes over -/
def moveM (j : Nat) : M RV := fun ρ => match ρ[j]? with
  | some (.own d) => .ok (.own d) (ρ.set j .un)
  | some (.val d) => .ok (.val d) ρ
  | some (.bfz d) => .ok (.val d) ρ
  | _ => .stuck
theorem ve_move (j : Nat) {x : Str} (hN : X.N[j]? = some x := by rfl) (hv : Vis X.env.scope x := by first | exact Or.inl rfl | exact Or.inr (Or.inl rfl) | exact Or.inr (Or.inr rfl)) (hd : (x == ("__debug__" : Str)) = false := by decide)
    (hcd : (x == ("__classdict__" : Str)) = false := by decide) : VE X C W (.Name x pos) (moveM j) := by
  refine ⟨PE.imp (pe_var hN hv hd hcd) fun σ H Q h => ?_⟩
  obtain ⟨S, ρ, st, g⟩ := h
  unfold moveM at g
  cases e : ρ[j]? with
  | none => simp only [e] at g; exact g.elim
  | some s =>
    simp only [e] at g
    cases s with
    | val d =>
      obtain ⟨v, h1, h2⟩ := st.val j d (by unfold valD; rw [e])
      exact ⟨v, h1, g S H v (Stp.refl st) h2⟩
    | bfz d =>
      obtain ⟨v, h1, h2⟩ := st.val j d (by unfold valD; rw [e])
      exact ⟨v, h1, g S H v (Stp.refl st) h2⟩
    | own d =>
      have o : ownD ρ j = some d := by unfold ownD; rw [e]
      obtain ⟨p, h1, h2, h3⟩ := st.own j d o
      have hj := lt_own o
      have un : ∀ k d', ownD (ρ.set j .un) k = some d' → k ≠ j ∧ ownD ρ k = some d' := fun k d' q => by
        by_cases z : j = k
        · subst z; rw [ownD_at hj] at q; cases q
        · rw [ownD_ne z] at q; exact ⟨fun w => z w.symm, q⟩
      have st' : StRel C S (ρ.set j .un) σ H := ⟨st.same, by rw [List.length_set]; exact st.len, fun k d' q => by
        by_cases z : j = k
        · subst z; rw [valD_at hj] at q; cases q
        · rw [valD_ne z] at q; exact st.val k d' q, fun k d' q => st.own k d' (un k d' q).2, fun k l a b p' q1 q2 => st.dis k l a b p' (un k a q1).2 (un l b q2).2⟩
      have stp : Stp C σ S ρ H S (ρ.set j .un) H := ⟨Ext.refl, st', fun k d' q => ⟨d', (un k d' q).2⟩, fun k q => by
        by_cases z : j = k
        · subst z
          unfold markB at q; rw [e] at q; cases q
        · rw [markB_ne z]; exact q⟩
      refine ⟨_, h1, g S H _ stp ⟨p, rfl, h2, h3, fun ⟨k, d', q1, q2⟩ => ?_, .inl ⟨j, d, o, h1⟩⟩⟩
      obtain ⟨n1, n2⟩ := un k d' q1
      exact n1 (st.dis k j d' d p n2 o q2 h1)
    | _ => exact g.elim
end
end VL

/-! VL part z: sorted of tuples of ints. -/
namespace VL
open PySem PySem.Spec PyProof.Rows L2 SrtO
section
variable {prog : Program} {w : World} {A : Around} {E : Value → Shared → Prop} {s : Shared}
/-- the items of a tuple are gathered into a new list -/
theorem gather_tup {l : Addr} {vs : List Value} {Q : List Value → Shared → Prop} (tup : s.heap.IsTuple l vs.toArray) (fits : vs.length ≤ sizeLine)
    (want : Q vs { s with heap := (s.heap.push (seqObj "list" #[] 0)).update s.heap.objs.size (Obj.mapSeq (· ++ vs.toArray)) }) : wpAny (model prog w) A (collect (.ref l)) Q E s := by
  obtain ⟨ob, at_, cls, n, dat⟩ := tup
  have new : (s.heap.push (seqObj "list" #[] 0)).get? s.heap.objs.size = some (seqObj "list" #[] 0) := Heap.get?_push_size _ rfl
  have old : (s.heap.push (seqObj "list" #[] 0)).get? l = some ob := Heap.get?_push_of_some _ at_
  unfold collect
  refine wpAny_bind (wpAny_runValue (codeAny_builtin entry_proto_collect' ?_))
  show wpAny _ _ (newList [] >>= fun x => again (.builtin "list.__iadd__" ⟨[x, .ref l], []⟩)) _ _ s
  refine wpAny_bind (wpAny_newList (wpAny_pure ⟨Code.quiet_builtin _ (by decide +kernel), codeAny_builtin entry_list_iadd' ?_⟩))
  show wpAny _ _ (Builtin.List.listExtendWith (.ref s.heap.objs.size) (.ref l) (.ref s.heap.objs.size)) _ _ { s with heap := s.heap.push (seqObj "list" #[] 0) }
  unfold Builtin.List.listExtendWith
  refine wpAny_bind (wpAny_typeOf (T := "tuple") ⟨ob, old, cls⟩ ?_)
  have isT : (Value.type "tuple" == Value.type "tuple") = true := rfl
  rw [if_pos (by rw [isT]; simp)]
  refine wpAny_bind (listItems_at old dat ?_)
  refine wpAny_bind (listItems_at (xs := #[]) (n := 0) new rfl ?_)
  rw [if_neg (by simp)]
  refine wpAny_bind (listUpdate_at (xs := #[]) (n := 0) new rfl ?_ (Nat.zero_le _) ?sz)
  case sz =>
    show (#[] ++ vs.toArray).size ≤ sizeLine + 1
    simp only [Array.size_append, List.size_toArray, List.length_nil]
    omega
  refine wpAny_pure ?_
  show wpAny (model prog w) A (load s.heap.objs.size >>= fun o => match o.data with
      | .seq xs _ => pure xs.toList
      | _ => unsupported "internal:collect") Q E { s with heap := (s.heap.push (seqObj "list" #[] 0)).update s.heap.objs.size (Obj.mapSeq (· ++ vs.toArray)) }
  refine wpAny_bind (wpAny_load (get?_update_seq new _) ?_)
  show wpAny _ _ (pure ((#[] : Array Value) ++ vs.toArray).toList) Q E _
  have same : ((#[] : Array Value) ++ vs.toArray).toList = vs := by simp
  rw [same]
  exact wpAny_pure want
theorem sorted_tup {l : Addr} {vs : List Value} {ltv : Value → Value → Bool} {Q : Value → Shared → Prop} (O : Swo ltv) (tup : s.heap.IsTuple l vs.toArray) (fits : vs.length ≤ sizeLine)
    (ord : 2 ≤ vs.length → ∀ (h₁ : Heap) (a : Addr), h₁.get? a = some (seqObj "list" vs.toArray 0) → (∀ b o, s.heap.get? b = some o → b ≠ a ∧ h₁.get? b = some o) → SortableO prog w A.in1.in1 { s with heap := h₁ } a vs ltv)
    (want : ∀ out : List Value, Srtd ltv out → Stb ltv out vs → Q (.ref (s.heap.objs.size + 1)) { s with heap := sortedAll s.heap vs out.toArray }) :
    wpAny (model prog w) A (call (.builtin "sorted") [.ref l]) Q E s := by
  have size1 : ((s.heap.push (seqObj "list" #[] 0)).update s.heap.objs.size (Obj.mapSeq (· ++ vs.toArray))).objs.size = s.heap.objs.size + 1 := by rw [Heap.size_update, size_push']
  have made : (((s.heap.push (seqObj "list" #[] 0)).update s.heap.objs.size (Obj.mapSeq (· ++ vs.toArray))).push (seqObj "list" vs.toArray 0)).get? (s.heap.objs.size + 1) = some (seqObj "list" vs.toArray 0) := by
    rw [← size1]; exact Heap.get?_push_size _ rfl
  have kept : ∀ b o, s.heap.get? b = some o → b ≠ s.heap.objs.size + 1 ∧ (((s.heap.push (seqObj "list" #[] 0)).update s.heap.objs.size (Obj.mapSeq (· ++ vs.toArray))).push (seqObj "list" vs.toArray 0)).get? b = some o := by
    intro b o q
    have lt := Heap.lt_size q
    constructor
    · exact Nat.ne_of_lt (Nat.lt_succ_of_lt lt)
    · refine Heap.get?_push_of_some _ ?_
      rw [Heap.get?_update_ne _ _ _ _ (Nat.ne_of_lt lt)]
      exact Heap.get?_push_of_some _ q
  refine Calls.call_function_entry kind_sorted plain_sorted entry_sorted (args_sorted1 _) ?_
  unfold Builtin.«sorted»
  refine wpAny_bind (m := checkCount "sorted" 1 1 _) (wpAny_pure (wpAny_bind (gather_tup tup fits (wpAny_bind (wpAny_newList ?_ fits)))))
  show wpAny _ _ _ _ _ { s with heap := ((s.heap.push (seqObj "list" #[] 0)).update s.heap.objs.size (Obj.mapSeq (· ++ vs.toArray))).push (seqObj "list" vs.toArray 0) }
  rw [size1]
  refine wpAny_bind (wpAny_holding (wpAny_call_entry slot_list_sort ⟨_, made, rfl⟩ entry_list_sort (list_sort_ord O made fits (fun h2 => ord h2 _ _ made kept) fun out hs hb => ⟨_, rfl, ?_⟩) (args_list_sort _)))
  exact wpAny_pure ⟨_, rfl, want out hs hb⟩
end
theorem maxT_raw {prog : Program} {w : World} {A : Around} {E : Value → Shared → Prop} {s : Shared} {l : Addr} {its : List Value} {ns : List Int} {Q : Value → Shared → Prop} (hh : A.handled = none) (hl : s.heap.IsTuple l its.toArray) (hi : IntsAre its ns) (hne : ns ≠ [])
    (h : ∀ m h' tk t', m ∈ ns → (∀ a ∈ ns, a ≤ m) → (∀ b o, s.heap.get? b = some o → h'.get? b = some o) → Q (.int m t') { s with heap := h', toks := tk }) : wpAny (model prog w) A (call (.builtin "max") [.ref l]) Q E s := by
  obtain ⟨xs, e⟩ := hi.allInts.items
  have hn : numsOf (intItems xs).toList = ns := by rw [← e]; exact hi.numsOf
  rw [nums_intItems] at hn
  rw [e] at hl
  have hlt : l < s.heap.objs.size := by obtain ⟨_, e, _⟩ := hl; exact Heap.lt_size e
  have hsz : 0 < xs.size := by
    have : ns.length ≠ 0 := fun z => hne (List.length_eq_zero_iff.mp z)
    rw [← hn, List.length_map, Array.length_toList] at this
    omega
  have hp : ∀ o : Obj, (s.heap.push o).IsTuple l (intItems xs) := fun o => by
    obtain ⟨u, e1, e2⟩ := hl
    exact ⟨u, Heap.get?_push_of_some _ e1, e2⟩
  refine call_max_walk (wpAny_pyIter_tuple hl ?_)
  refine ⟨_, _, _, _, _, _, _, rfl, Walks.tuple (A := A.in1) hh _ l (Nat.ne_of_lt hlt) (intItems xs), ⟨⟨_, Heap.get?_push_size _ rfl, rfl, rfl⟩, hp _⟩, ?_, by simpa [intItems] using hsz, CmpOf.ints_gt (numAt xs) (fun _ _ => intItems_at), fun v h' tk hP hk => ?_⟩
  · intro b hb
    show b < (s.heap.push _).objs.size
    rw [Heap.size_push]
    rcases List.mem_cons.mp hb with rfl | hb
    · exact Nat.lt_succ_self _
    · rcases List.mem_cons.mp hb with rfl | hb
      · exact Nat.lt_succ_of_lt hlt
      · cases hb
  · obtain ⟨t, rfl⟩ := intItems_at hP
    have e3 : (intItems xs).size = xs.size := by simp [intItems]
    obtain ⟨h1, h2⟩ := argBest_gt (numAt xs) ((intItems xs).size - 1)
    rw [e3] at h1 h2 ⊢
    refine h _ h' tk t ?_ (fun a ha => ?_) (keptT hk)
    · rw [numAt_eq, ← hn]; exact getD_mem (by rw [List.length_map, Array.length_toList]; omega)
    · rw [← hn] at ha
      obtain ⟨j, hj, rfl⟩ := mem_getD ha
      rw [List.length_map, Array.length_toList] at hj
      rw [← numAt_eq]; exact h2 j (by omega)
theorem minT_raw {prog : Program} {w : World} {A : Around} {E : Value → Shared → Prop} {s : Shared} {l : Addr} {its : List Value} {ns : List Int} {Q : Value → Shared → Prop} (hh : A.handled = none) (hl : s.heap.IsTuple l its.toArray) (hi : IntsAre its ns) (hne : ns ≠ [])
    (h : ∀ m h' tk t', m ∈ ns → (∀ a ∈ ns, m ≤ a) → (∀ b o, s.heap.get? b = some o → h'.get? b = some o) → Q (.int m t') { s with heap := h', toks := tk }) : wpAny (model prog w) A (call (.builtin "min") [.ref l]) Q E s := by
  obtain ⟨xs, e⟩ := hi.allInts.items
  have hn : numsOf (intItems xs).toList = ns := by rw [← e]; exact hi.numsOf
  rw [nums_intItems] at hn
  rw [e] at hl
  have hlt : l < s.heap.objs.size := by obtain ⟨_, e, _⟩ := hl; exact Heap.lt_size e
  have hsz : 0 < xs.size := by
    have : ns.length ≠ 0 := fun z => hne (List.length_eq_zero_iff.mp z)
    rw [← hn, List.length_map, Array.length_toList] at this
    omega
  have hp : ∀ o : Obj, (s.heap.push o).IsTuple l (intItems xs) := fun o => by
    obtain ⟨u, e1, e2⟩ := hl
    exact ⟨u, Heap.get?_push_of_some _ e1, e2⟩
  refine call_min_walk (wpAny_pyIter_tuple hl ?_)
  refine ⟨_, _, _, _, _, _, _, rfl, Walks.tuple (A := A.in1) hh _ l (Nat.ne_of_lt hlt) (intItems xs), ⟨⟨_, Heap.get?_push_size _ rfl, rfl, rfl⟩, hp _⟩, ?_, by simpa [intItems] using hsz, CmpOf.ints_lt (numAt xs) (fun _ _ => intItems_at), fun v h' tk hP hk => ?_⟩
  · intro b hb
    show b < (s.heap.push _).objs.size
    rw [Heap.size_push]
    rcases List.mem_cons.mp hb with rfl | hb
    · exact Nat.lt_succ_self _
    · rcases List.mem_cons.mp hb with rfl | hb
      · exact Nat.lt_succ_of_lt hlt
      · cases hb
  · obtain ⟨t, rfl⟩ := intItems_at hP
    have e3 : (intItems xs).size = xs.size := by simp [intItems]
    obtain ⟨h1, h2⟩ := argBest_lt (numAt xs) ((intItems xs).size - 1)
    rw [e3] at h1 h2 ⊢
    refine h _ h' tk t ?_ (fun a ha => ?_) (keptT hk)
    · rw [numAt_eq, ← hn]; exact getD_mem (by rw [List.length_map, Array.length_toList]; omega)
    · rw [← hn] at ha
      obtain ⟨j, hj, rfl⟩ := mem_getD ha
      rw [List.length_map, Array.length_toList] at hj
      rw [← numAt_eq]; exact h2 j (by omega)
section
variable {X : Cx} {C : Cfg}
def rSortedT (K : PySem.W.Frag) : List V → Hp → VK → Prop := fun vs H Q => ∃ (a : Addr) (ns : List Int), vs = [V.ref a] ∧ SqT K H a (ns.map V.int) ∧
  ∀ (ns' : List Int) (p : Addr), ns'.Perm ns → ns'.Pairwise (· ≤ ·) → H p = none → Q (.ref p) (upd H p (.lst (ns'.map V.int)))
theorem cr_sortedT : CallR X (.builtin "sorted") (rSortedT X.K) := by
  intro pins s σ H vs us Q I r h
  obtain ⟨a, ns, rfl, hs, want⟩ := h
  obtain ⟨its, rv, pl, hz⟩ := I.tuple hs
  rw [Vals.ref1 r]
  have hi := rv.ints
  have tup : s.heap.IsTuple a its.toArray := by
    obtain ⟨o, e, c, n, d⟩ := pl
    exact ⟨o, e, c, n, d⟩
  refine sorted_tup swo_int tup (by rw [← rv.length]; exact hz) (fun h2 h₁ a' _ _ => ints_sortable hi h2) fun out h1 h2 => ?_
  obtain ⟨k1, k2, k3⟩ := ints_out hi h1 h2
  obtain ⟨ep, he'⟩ := sortedAll_at s.heap its out.toArray
  have hlen : ((out.map iv).map V.int).length ≤ sizeLine := by
    rw [List.length_map, k2.length_eq]
    rw [List.length_map] at hz
    exact hz
  exact ⟨.ref _, upd H (s.heap.objs.size + 1) (.lst ((out.map iv).map V.int)), I.laid (t' := s.toks) (fun _ _ => sortedAll_old) (Nat.le_succ _) ⟨hlen, out, ep, vals_of_ints k1, he'⟩, rfl, want _ _ k2 k3 (I.hok.fresh (Nat.le_succ _))⟩
def sortedD2 (d : D) : Option RV := match d with
  | .tup ds => (intsD ds).map fun ns => .own (.lst ((sortI ns).map .int))
  | d => sortedD d
theorem cn_sorted2 (hK : X.K = C.K) (hc : X.calm = true) : CN X C (.builtin "sorted") (one1 sortedD2) := by
  obtain ⟨r0, c0, p0⟩ := (cn_sorted (X := X) (C := C) hK hc).ex
  refine ⟨_, CallR.or c0 cr_sortedT, fun S H xs ds rv Q st r e o => ?_⟩
  obtain ⟨d, hd, e'⟩ := one1_some e
  subst hd
  by_cases t : ∃ es, d = .tup es
  · obtain ⟨es, rfl⟩ := t
    obtain ⟨v, hv, r'⟩ := r.one
    subst hv
    cases q : intsD es with
    | none => have e' : (intsD es).map _ = some rv := e'
              rw [q] at e'; cases e'
    | some ns =>
      have e' : (intsD es).map (fun ns => RV.own (.lst ((sortI ns).map .int))) = some rv := e'
      rw [q] at e'; cases e'
      obtain ⟨a, ys, rfl, h1, h2, _⟩ := r'
      have : es = ns.map D.int := intsD_some q
      subst this
      rw [h2.ints] at h1
      rw [hK]
      refine .inr ⟨a, ns, rfl, h1, fun ns' p k1 k2 n => ?_⟩
      rw [sorted_uniq (k1.trans (sortI_perm ns).symm) k2 (sortI_pw ns)]
      exact (o fun _ z => by cases z).lst (Reps.of_ints _) n
  · have : sortedD2 d = sortedD d := by cases d <;> first | rfl | exact absurd ⟨_, rfl⟩ t
    rw [this] at e'
    exact .inl (p0 S H xs [d] rv Q st r e' o)
/-! ### greatest and least of a tuple -/
def rMaxT (K : PySem.W.Frag) : List V → Hp → VK → Prop := fun vs H Q => ∃ (a : Addr) (ns : List Int), vs = [V.ref a] ∧ SqT K H a (ns.map V.int) ∧ ns ≠ [] ∧ ∀ m ∈ ns, (∀ y ∈ ns, y ≤ m) → Q (.int m) H
theorem cr_maxT (hc : X.calm = true) : CallR X (.builtin "max") (rMaxT X.K) := by
  intro pins s σ H vs us Q I r h
  obtain ⟨a, ns, rfl, hs, hne, q⟩ := h
  obtain ⟨its, rv, hl, _⟩ := I.tuple hs
  rw [Vals.ref1 r]
  exact maxT_raw (I.ok.hd hc) hl rv.ints hne fun m h' tk t' hm hm' hk => ⟨.int _, H, I.kept hk, ⟨_, rfl⟩, q m hm hm'⟩
def maxD2 : List D → Option RV
  | [.tup ds] => ((intsD ds).bind maxL).map fun n => .val (.int n)
  | xs => maxD xs
theorem cn_max2 (hK : X.K = C.K) (hc : X.calm = true) : CN X C (.builtin "max") maxD2 := by
  obtain ⟨r0, c0, p0⟩ := (cn_max (X := X) (C := C) hK hc).ex
  refine ⟨_, CallR.or c0 (cr_maxT hc), fun S H xs ds rv Q st r e o => ?_⟩
  by_cases t : ∃ es, ds = [.tup es]
  · obtain ⟨es, rfl⟩ := t
    obtain ⟨v, hv, r'⟩ := r.one
    subst hv
    have e' : ((intsD es).bind maxL).map (fun n => RV.val (.int n)) = some rv := e
    cases q : intsD es with
    | none => rw [q] at e'; cases e'
    | some ns =>
      rw [q] at e'
      obtain ⟨a, ys, rfl, h1, h2, _⟩ := r'
      have : es = ns.map D.int := intsD_some q
      subst this
      rw [h2.ints] at h1
      rw [hK]
      cases ns with
      | nil => cases e'
      | cons n ns =>
        obtain ⟨h1', h2'⟩ := foldl_max ns n
        refine .inr ⟨a, n :: ns, rfl, h1, by simp, fun m hm hm' => ?_⟩
        have h1 := h1'
        have h2 := h2'
        have e2 : m = ns.foldl max n := Int.le_antisymm (h2 m hm) (hm' _ h1)
        subst e2
        exact OutP.valI e' o st
  · have : maxD2 ds = maxD ds := by
      unfold maxD2
      split
      · exact absurd ⟨_, rfl⟩ t
      · rfl
    rw [this] at e
    exact .inl (p0 S H xs ds rv Q st r e o)
def rMinT (K : PySem.W.Frag) : List V → Hp → VK → Prop := fun vs H Q => ∃ (a : Addr) (ns : List Int), vs = [V.ref a] ∧ SqT K H a (ns.map V.int) ∧ ns ≠ [] ∧ ∀ m ∈ ns, (∀ y ∈ ns, m ≤ y) → Q (.int m) H
theorem cr_minT (hc : X.calm = true) : CallR X (.builtin "min") (rMinT X.K) := by
  intro pins s σ H vs us Q I r h
  obtain ⟨a, ns, rfl, hs, hne, q⟩ := h
  obtain ⟨its, rv, hl, _⟩ := I.tuple hs
  rw [Vals.ref1 r]
  exact minT_raw (I.ok.hd hc) hl rv.ints hne fun m h' tk t' hm hm' hk => ⟨.int _, H, I.kept hk, ⟨_, rfl⟩, q m hm hm'⟩
def minD2 : List D → Option RV
  | [.tup ds] => ((intsD ds).bind minL).map fun n => .val (.int n)
  | xs => minD xs
theorem cn_min2 (hK : X.K = C.K) (hc : X.calm = true) : CN X C (.builtin "min") minD2 := by
  obtain ⟨r0, c0, p0⟩ := (cn_min (X := X) (C := C) hK hc).ex
  refine ⟨_, CallR.or c0 (cr_minT hc), fun S H xs ds rv Q st r e o => ?_⟩
  by_cases t : ∃ es, ds = [.tup es]
  · obtain ⟨es, rfl⟩ := t
    obtain ⟨v, hv, r'⟩ := r.one
    subst hv
    have e' : ((intsD es).bind minL).map (fun n => RV.val (.int n)) = some rv := e
    cases q : intsD es with
    | none => rw [q] at e'; cases e'
    | some ns =>
      rw [q] at e'
      obtain ⟨a, ys, rfl, h1, h2, _⟩ := r'
      have : es = ns.map D.int := intsD_some q
      subst this
      rw [h2.ints] at h1
      rw [hK]
      cases ns with
      | nil => cases e'
      | cons n ns =>
        obtain ⟨h1', h2'⟩ := foldl_min ns n
        refine .inr ⟨a, n :: ns, rfl, h1, by simp, fun m hm hm' => ?_⟩
        have h1 := h1'
        have h2 := h2'
        have e2 : m = ns.foldl min n := Int.le_antisymm (hm' _ h1) (h2 m hm)
        subst e2
        exact OutP.valI e' o st
  · have : minD2 ds = minD ds := by
      unfold minD2
      split
      · exact absurd ⟨_, rfl⟩ t
      · rfl
    rw [this] at e
    exact .inl (p0 S H xs ds rv Q st r e o)
end
end VL

/-! TL: a typed layer over the mirrors. A def's mirror, run where its names hold encoded typed values, does what a typed Lean program tells.
O: pure programs (stuck, a value, an error). W: programs that draw: what must hold for every draw. Part a: monads, contexts, the judgement. -/
namespace TL
open PySem hiding Env
open VL
abbrev Exc := D
inductive O (α : Type) where
  | st | ok (a : α) | ex (e : Exc)
def O.bnd {α β : Type} (o : O α) (f : α → O β) : O β := match o with
  | .st => .st
  | .ok a => f a
  | .ex e => .ex e
instance : Monad O where
  pure := .ok
  bind := O.bnd
def W (α : Type) : Type := (α → Prop) → (Exc → Prop) → Prop
instance : Monad W where
  pure a := fun Q _ => Q a
  bind w f := fun Q E => w (fun a => f a Q E) E
def osat {α : Type} (o : O α) (Q : α → Prop) (E : Exc → Prop) : Prop := match o with
  | .st => False
  | .ok a => Q a
  | .ex e => E e
class TM (m : Type → Type) extends Monad m where
  sat : {α : Type} → m α → (α → Prop) → (Exc → Prop) → Prop
  up : {α : Type} → O α → m α
  noex : {α : Type} → m α → m α
  sat_pure : ∀ {α : Type} {a : α} {Q : α → Prop} {E : Exc → Prop}, sat (pure a) Q E → Q a
  sat_bind : ∀ {α β : Type} {t : m α} {f : α → m β} {Q : β → Prop} {E : Exc → Prop}, sat (t >>= f) Q E → sat t (fun a => sat (f a) Q E) E
  sat_up : ∀ {α : Type} {o : O α} {Q : α → Prop} {E : Exc → Prop}, sat (up o) Q E → osat o Q E
  sat_noex : ∀ {α : Type} {t : m α} {Q : α → Prop} {E : Exc → Prop}, sat (noex t) Q E → sat t Q (fun _ => False)
instance : TM O where
  sat := osat
  up o := o
  noex o := match o with | .ok a => .ok a | _ => .st
  sat_pure h := h
  sat_bind {α β t f Q E} h := by cases t <;> exact h
  sat_up h := h
  sat_noex {α t Q E} h := by cases t <;> first | exact h | exact h.elim
instance : TM W where
  sat w Q E := w Q E
  up o := fun Q E => osat o Q E
  noex w := fun Q _ => w Q fun _ => False
  sat_pure h := h
  sat_bind h := h
  sat_up h := h
  sat_noex h := h
def oOf {α : Type} : Option α → O α
  | some a => .ok a
  | none => .st
def lf {m : Type → Type} [TM m] {α : Type} (o : Option α) : m α := TM.up (oOf o)

/-! ### contexts -/
inductive SS where
  | any | free | val (d : D) | own (d : D) | bow (d : D) | bfz (d : D) | ov (d : D) | bv (d : D) | exO (P : D → Prop) | exB (P : D → Prop)
abbrev Ctx := List SS
def SOk : SS → Slot → Prop
  | .any, s => (match s with | .bow _ | .bfz _ => False | _ => True)
  | .free, _ => True
  | .val d, s => s = .val d
  | .own d, s => s = .own d
  | .bow d, s => s = .bow d
  | .bfz d, s => s = .bfz d
  | .ov d, s => s = .own d ∨ s = .val d
  | .bv d, s => s = .bow d ∨ s = .bfz d
  | .exO P, s => ∃ d, s = .own d ∧ P d
  | .exB P, s => ∃ d, s = .bow d ∧ P d
def EOk : Ctx → Env → Prop
  | [], [] => True
  | g :: Γ, s :: ρ => SOk g s ∧ EOk Γ ρ
  | _, _ => False
def SLe (g g' : SS) : Prop := ∀ s, SOk g s → SOk g' s
def CLe (Γ Γ' : Ctx) : Prop := ∀ ρ, EOk Γ ρ → EOk Γ' ρ
theorem s_rfl {g : SS} : SLe g g := fun _ h => h
theorem s_val {d : D} : SLe (.val d) .any := fun s h => by cases h; trivial
theorem s_own {d : D} : SLe (.own d) .any := fun s h => by cases h; trivial
theorem s_exO {P : D → Prop} : SLe (.exO P) .any := fun s h => by obtain ⟨d, rfl, _⟩ := h; trivial
theorem s_ov {d : D} : SLe (.ov d) .any := fun s h => by rcases h with rfl | rfl <;> trivial
theorem s_free {g : SS} : SLe g .free := fun s h => trivial
theorem s_vov {d : D} : SLe (.val d) (.ov d) := fun s h => .inr h
theorem s_oov {d : D} : SLe (.own d) (.ov d) := fun s h => .inl h
theorem s_wbv {d : D} : SLe (.bow d) (.bv d) := fun s h => .inl h
theorem s_fbv {d : D} : SLe (.bfz d) (.bv d) := fun s h => .inr h
theorem s_oex {P : D → Prop} {d : D} (p : P d) : SLe (.own d) (.exO P) := fun s h => ⟨d, h, p⟩
theorem s_bex {P : D → Prop} {d : D} (p : P d) : SLe (.bow d) (.exB P) := fun s h => ⟨d, h, p⟩
theorem c_nil : CLe [] [] := fun _ h => h
theorem c_rfl {Γ : Ctx} : CLe Γ Γ := fun _ h => h
theorem c_free : ∀ {n : Nat} {Γ : Ctx}, Γ.length = n → CLe Γ (List.replicate n .free)
  | 0, [], _, ρ, h => h
  | n + 1, [], e, _, _ => by cases e
  | 0, _ :: _, e, _, _ => by cases e
  | n + 1, g :: Γ, e, [], h => h.elim
  | n + 1, g :: Γ, e, s :: ρ, h => ⟨trivial, c_free (Nat.succ.inj e) ρ h.2⟩
theorem c_cons {g g' : SS} {Γ Γ' : Ctx} (h : SLe g g') (t : CLe Γ Γ') : CLe (g :: Γ) (g' :: Γ') := fun ρ e => by
  cases ρ with
  | nil => exact e.elim
  | cons s ρ => exact ⟨h s e.1, t ρ e.2⟩
theorem EOk.len : ∀ {Γ : Ctx} {ρ : Env}, EOk Γ ρ → Γ.length = ρ.length
  | [], [], _ => rfl
  | g :: Γ, s :: ρ, h => by rw [List.length_cons, List.length_cons, EOk.len h.2]
  | [], _ :: _, h => h.elim
  | _ :: _, [], h => h.elim
theorem EOk.get : ∀ {Γ : Ctx} {ρ : Env} {i : Nat} {g : SS}, EOk Γ ρ → Γ[i]? = some g → ∃ s, ρ[i]? = some s ∧ SOk g s
  | [], _, i, g, _, e => by simp at e
  | g0 :: Γ, [], i, g, h, e => h.elim
  | g0 :: Γ, s :: ρ, 0, g, h, e => by
    have e : some g0 = some g := e
    cases e; exact ⟨s, rfl, h.1⟩
  | g0 :: Γ, s :: ρ, i + 1, g, h, e => EOk.get (i := i) h.2 e
theorem EOk.get' : ∀ {Γ : Ctx} {ρ : Env} {i : Nat} {s : Slot}, EOk Γ ρ → ρ[i]? = some s → ∃ g, Γ[i]? = some g ∧ SOk g s
  | _, [], i, g, _, e => by simp at e
  | [], s0 :: ρ, i, g, h, e => h.elim
  | g0 :: Γ, s0 :: ρ, 0, g, h, e => by
    have e : some s0 = some g := e
    cases e; exact ⟨g0, rfl, h.1⟩
  | g0 :: Γ, s :: ρ, i + 1, g, h, e => EOk.get' (i := i) h.2 e
theorem EOk.set : ∀ {Γ : Ctx} {ρ : Env} {i : Nat} {g : SS} {s : Slot}, EOk Γ ρ → SOk g s → EOk (Γ.set i g) (ρ.set i s)
  | [], [], i, g, s, h, _ => h
  | g0 :: Γ, s0 :: ρ, 0, g, s, h, k => ⟨k, h.2⟩
  | g0 :: Γ, s0 :: ρ, i + 1, g, s, h, k => ⟨h.1, EOk.set (i := i) h.2 k⟩
  | [], _ :: _, _, _, _, h, _ => h.elim
  | _ :: _, [], _, _, _, h, _ => h.elim
theorem EOk.app : ∀ {Γ Γ' : Ctx} {ρ ρ' : Env}, EOk Γ ρ → EOk Γ' ρ' → EOk (Γ ++ Γ') (ρ ++ ρ')
  | [], _, [], _, _, h => h
  | g :: Γ, _, s :: ρ, _, h, h' => ⟨h.1, EOk.app h.2 h'⟩
  | [], _, _ :: _, _, h, _ => h.elim
  | _ :: _, _, [], _, h, _ => h.elim
theorem EOk.uns : ∀ (n : Nat), EOk (List.replicate n SS.any) (List.replicate n Slot.un)
  | 0 => trivial
  | n + 1 => ⟨trivial, EOk.uns n⟩
theorem EOk.setL {Γ : Ctx} {ρ : Env} {i : Nat} {g : SS} {s : Slot} (h : EOk Γ ρ) (e : ρ[i]? = some s) (k : SOk g s) : EOk (Γ.set i g) ρ := by
  have := EOk.set (i := i) h k
  rwa [set_self] at this
  exact e
where
  set_self {ρ : Env} {i : Nat} {s : Slot} (e : ρ[i]? = some s) : ρ.set i s = ρ := by
    apply List.ext_getElem?
    intro j
    by_cases h : i = j
    · subst h
      rw [List.getElem?_set_self', e]; rfl
    · rw [List.getElem?_set_ne h]

/-! ### the judgement -/
def Out {α : Type} (r : Res α) (P : α → Env → Prop) (E : Exc → Env → Prop) : Prop := match r with
  | .stuck => False
  | .ok a ρ => P a ρ
  | .exc x ρ => E x ρ
section
variable {m : Type → Type} [TM m] {α β γ δ σ τ : Type} {X Γ Γ1 Γ2 Γ3 : Ctx} {ρ : Env}
def At (X : Ctx) (ρ : Env) (c : M α) (t : m β) (R : β → α → Env → Prop) : Prop :=
  ∀ Q E, TM.sat t Q E → Out (c ρ) (fun a ρ' => ∃ b, R b a ρ' ∧ Q b) (fun x ρ' => E x ∧ EOk X ρ')
structure TR (X Γ : Ctx) (c : M α) (t : m β) (R : β → α → Env → Prop) : Prop where
  run : ∀ ρ, EOk Γ ρ → At X ρ c t R
instance {c : M α} {t : m β} {R : β → α → Env → Prop} : CoeFun (TR X Γ c t R) (fun _ => ∀ ρ, EOk Γ ρ → At X ρ c t R) := ⟨TR.run⟩
theorem At.bnd {c : M α} {k : α → M γ} {t : m β} {t2 : β → m δ} {R : β → α → Env → Prop} {R2 : δ → γ → Env → Prop} (h : At X ρ c t R) (hk : ∀ b a ρ', R b a ρ' → At X ρ' (k a) (t2 b) R2) : At X ρ (c >>= k) (t >>= t2) R2 := by
  intro Q E hs
  have := h _ E (TM.sat_bind hs)
  show Out ((c ρ).bnd k) _ _
  cases e : c ρ with
  | stuck => rw [e] at this; exact this
  | ok a ρ' =>
    rw [e] at this
    obtain ⟨b, hR, hQ⟩ := this
    exact hk b a ρ' hR Q E hQ
  | exc x ρ' => rw [e] at this; exact this
theorem At.pur {a : α} {b : β} {R : β → α → Env → Prop} (h : R b a ρ) : At X ρ (pure a : M α) (pure b : m β) R := fun Q E hs => ⟨b, h, TM.sat_pure hs⟩
theorem At.ok {c : M α} {a : α} {ρ' : Env} {b : β} {R : β → α → Env → Prop} (e : c ρ = .ok a ρ') (h : R b a ρ') : At X ρ c (pure b : m β) R := fun Q E hs => by
  rw [e]; exact ⟨b, h, TM.sat_pure hs⟩
theorem At.lift {o : Option α} {p : Option β} {R : β → α → Env → Prop} (h : ∀ b, p = some b → ∃ a, o = some a ∧ R b a ρ) : At X ρ (M.lift o) (lf p : m β) R := fun Q E hs => by
  have hs := TM.sat_up hs
  cases p with
  | none => exact hs.elim
  | some b =>
    obtain ⟨a, rfl, hR⟩ := h b rfl
    exact ⟨b, hR, hs⟩
theorem At.imp {c : M α} {t : m β} {R R' : β → α → Env → Prop} (h : At X ρ c t R) (k : ∀ b a ρ', R b a ρ' → R' b a ρ') : At X ρ c t R' := fun Q E hs => by
  have := h Q E hs
  cases e : c ρ with
  | stuck => rw [e] at this; exact this
  | ok a ρ' => rw [e] at this; obtain ⟨b, hR, hQ⟩ := this; exact ⟨b, k _ _ _ hR, hQ⟩
  | exc x ρ' => rw [e] at this; exact this
theorem At.ap {c c' : M α} {t : m β} {R : β → α → Env → Prop} {ρ' : Env} (h : At X ρ' c t R) (e : c' ρ = c ρ') : At X ρ c' t R := fun Q E hs => by rw [e]; exact h Q E hs
theorem At.up {c : M α} {t : O β} {R : β → α → Env → Prop} (h : At X ρ c t R) : At X ρ c (TM.up t : m β) R := fun Q E hs => h Q E (TM.sat_up hs)
theorem At.ite {c : M α} {p : Bool} {t u : m β} {R : β → α → Env → Prop} (h : p = true → At X ρ c t R) (k : p = false → At X ρ c u R) : At X ρ c (if p = true then t else u) R := by
  cases p with
  | true => exact h rfl
  | false => exact k rfl
theorem TR.conv {c : M α} {t t' : m β} {R : β → α → Env → Prop} (h : TR X Γ c t R) (e : t = t') : TR X Γ c t' R := e ▸ h
theorem TR.weak {c : M α} {t : m β} {R : β → α → Env → Prop} (l : CLe Γ Γ1) (h : TR X Γ1 c t R) : TR X Γ c t R := TR.mk fun ρ e => h ρ (l ρ e)

abbrev TE (X Γ : Ctx) (c : M RV) (t : m β) (f : β → RV) (Γ' : Ctx) : Prop := TR X Γ c t fun b a ρ' => a = f b ∧ EOk Γ' ρ'
abbrev TO (X Γ : Ctx) (c : M RV) (t : m β) (o : β → Opd) (Γ' : Ctx) : Prop := TR X Γ (opd c) t fun b a ρ' => a = o b ∧ EOk Γ' ρ'
abbrev TB (X Γ : Ctx) (c : M Bool) (t : m Bool) (Γ' : Ctx) : Prop := TR X Γ c t fun b a ρ' => a = b ∧ EOk Γ' ρ'
abbrev TZ (X Γ : Ctx) (c : M RV) (t : m β) (e : β → D) (Γ' : Ctx) : Prop := TR X Γ (fzM c) t fun b a ρ' => a = e b ∧ EOk Γ' ρ'
abbrev TAs (X Γ : Ctx) (c : List (M RV)) (t : m β) (o : β → List Opd) (Γ' : Ctx) : Prop := TR X Γ (argsM c) t fun b a ρ' => a = o b ∧ EOk Γ' ρ'
abbrev TI (X Γ : Ctx) (c : M (List D)) (t : m (List β)) (e : β → D) (Γ' : Ctx) : Prop := TR X Γ c t fun b a ρ' => a = b.map e ∧ EOk Γ' ρ'
abbrev TP (X Γ : Ctx) (c : MS) (t : m σ) (Γ' : σ → Ctx) : Prop := TR X Γ c t fun b a ρ' => a = .nx ∧ EOk (Γ' b) ρ'
/-- what looking at an operand tells -/
inductive LookOk (Γ : Ctx) : Opd → D → Prop
  | val (d : D) : LookOk Γ (.val d) d
  | own {i : Nat} {d : D} (h : Γ[i]? = some (.own d)) : LookOk Γ (.bor i) d
  | bow {i : Nat} {d : D} (h : Γ[i]? = some (.bow d)) : LookOk Γ (.bor i) d
theorem LookOk.look {o : Opd} {d : D} (h : LookOk Γ o d) (e : EOk Γ ρ) : look o ρ = .ok d ρ := by
  rw [look_eq]
  cases h with
  | val d => rfl
  | own h =>
    obtain ⟨s, h1, rfl⟩ := e.get h
    rw [lookO_bor]; unfold ownD; rw [h1]; rfl
  | bow h =>
    obtain ⟨s, h1, rfl⟩ := e.get h
    rw [lookO_bor]; unfold ownD; rw [h1]; rfl
theorem At.look {o : Opd} {d : D} {k : D → M α} {t : m β} {R : β → α → Env → Prop} (h : LookOk Γ o d) (e : EOk Γ ρ) (hk : At X ρ (k d) t R) : At X ρ (VL.look o >>= k) t R := hk.ap (by rw [bnd_ap, h.look e]; rfl)
/-- what becomes of an operand that is given up -/
inductive FzOk : Ctx → Opd → D → Ctx → Prop
  | val {Γ : Ctx} (d : D) : FzOk Γ (.val d) d Γ
  | own {Γ : Ctx} {i : Nat} {d : D} (h : Γ[i]? = some (.own d)) : FzOk Γ (.bor i) d (Γ.set i (.val d))
  | bow {Γ : Ctx} {i : Nat} {d : D} (h : Γ[i]? = some (.bow d)) : FzOk Γ (.bor i) d (Γ.set i (.bfz d))
theorem FzOk.frz {o : Opd} {d : D} (h : FzOk Γ o d Γ1) (e : EOk Γ ρ) : ∃ ρ', frz o ρ = .ok d ρ' ∧ EOk Γ1 ρ' := by
  cases h with
  | val d => exact ⟨ρ, rfl, e⟩
  | own h =>
    obtain ⟨s, h1, rfl⟩ := e.get h
    exact ⟨_, by rw [frz_bor, frzSlot_ap, h1]; rfl, e.set rfl⟩
  | bow h =>
    obtain ⟨s, h1, rfl⟩ := e.get h
    exact ⟨_, by rw [frz_bor, frzSlot_ap, h1]; rfl, e.set rfl⟩

/-! ### expressions -/
theorem e_const {d : D} {e : β → D} {b : β} (h : e b = d) : TE (m := m) X Γ (constM d) (pure b) (fun b => .val (e b)) Γ := TR.mk fun ρ hρ => At.ok rfl ⟨by subst h; rfl, hρ⟩
theorem e_val {i : Nat} {e : β → D} {b : β} (h : Γ[i]? = some (.val (e b))) : TE (m := m) X Γ (varM i) (pure b) (fun b => .val (e b)) Γ := TR.mk fun ρ hρ => by
  obtain ⟨s, h1, rfl⟩ := hρ.get h
  exact At.ok (by rw [varM_ap]; unfold valD; rw [h1]; rfl) ⟨rfl, hρ⟩
theorem e_bfz {i : Nat} {e : β → D} {b : β} (h : Γ[i]? = some (.bfz (e b))) : TE (m := m) X Γ (varM i) (pure b) (fun b => .val (e b)) Γ := TR.mk fun ρ hρ => by
  obtain ⟨s, h1, rfl⟩ := hρ.get h
  exact At.ok (by rw [varM_ap]; unfold valD; rw [h1]; rfl) ⟨rfl, hρ⟩
theorem e_own {i : Nat} {e : β → D} {b : β} (h : Γ[i]? = some (.own (e b))) : TE (m := m) X Γ (varM i) (pure b) (fun _ => .bor i) Γ := TR.mk fun ρ hρ => by
  obtain ⟨s, h1, rfl⟩ := hρ.get h
  exact At.ok (by rw [varM_ap]; unfold valD ownD; rw [h1]; rfl) ⟨rfl, hρ⟩
theorem e_bow {i : Nat} {e : β → D} {b : β} (h : Γ[i]? = some (.bow (e b))) : TE (m := m) X Γ (varM i) (pure b) (fun _ => .bor i) Γ := TR.mk fun ρ hρ => by
  obtain ⟨s, h1, rfl⟩ := hρ.get h
  exact At.ok (by rw [varM_ap]; unfold valD ownD; rw [h1]; rfl) ⟨rfl, hρ⟩
theorem e_exO {i : Nat} {P : D → Prop} (h : Γ[i]? = some (.exO P)) : TE (m := m) X Γ (varM i) (pure ()) (fun _ => .bor i) Γ := TR.mk fun ρ hρ => by
  obtain ⟨s, h1, d, rfl, _⟩ := hρ.get h
  exact At.ok (by rw [varM_ap]; unfold valD ownD; rw [h1]; rfl) ⟨rfl, hρ⟩
theorem e_exB {i : Nat} {P : D → Prop} (h : Γ[i]? = some (.exB P)) : TE (m := m) X Γ (varM i) (pure ()) (fun _ => .bor i) Γ := TR.mk fun ρ hρ => by
  obtain ⟨s, h1, d, rfl, _⟩ := hρ.get h
  exact At.ok (by rw [varM_ap]; unfold valD ownD; rw [h1]; rfl) ⟨rfl, hρ⟩
/-- a name that holds a list of its own or a value: looked at both ways -/
theorem t_split {i : Nat} {d : D} {c : M α} {t : m β} {R : β → α → Env → Prop} (h : Γ[i]? = some (.ov d)) (h1 : TR X (Γ.set i (.own d)) c t R) (h2 : TR X (Γ.set i (.val d)) c t R) : TR X Γ c t R := TR.mk fun ρ hρ => by
  obtain ⟨s, hs, k⟩ := hρ.get h
  rcases k with rfl | rfl
  · exact h1 ρ (hρ.setL hs rfl)
  · exact h2 ρ (hρ.setL hs rfl)
theorem t_splitB {i : Nat} {d : D} {c : M α} {t : m β} {R : β → α → Env → Prop} (h : Γ[i]? = some (.bv d)) (h1 : TR X (Γ.set i (.bow d)) c t R) (h2 : TR X (Γ.set i (.bfz d)) c t R) : TR X Γ c t R := TR.mk fun ρ hρ => by
  obtain ⟨s, hs, k⟩ := hρ.get h
  rcases k with rfl | rfl
  · exact h1 ρ (hρ.setL hs rfl)
  · exact h2 ρ (hρ.setL hs rfl)
theorem o_val {c : M RV} {t : m β} {e : β → D} (h : TE X Γ c t (fun b => .val (e b)) Γ1) : TO X Γ c t (fun b => .val (e b)) Γ1 := TR.mk fun ρ hρ Q E hs => by
  have := h ρ hρ Q E hs
  rw [opd_ap]
  cases q : c ρ with
  | stuck => rw [q] at this; exact this
  | exc x ρ' => rw [q] at this; exact this
  | ok a ρ' =>
    rw [q] at this
    obtain ⟨b, ⟨rfl, h1⟩, h2⟩ := this
    exact ⟨b, ⟨rfl, h1⟩, h2⟩
theorem o_own {c : M RV} {t : m β} {e : β → D} (h : TE X Γ c t (fun b => .own (e b)) Γ1) : TO X Γ c t (fun b => .val (e b)) Γ1 := TR.mk fun ρ hρ Q E hs => by
  have := h ρ hρ Q E hs
  rw [opd_ap]
  cases q : c ρ with
  | stuck => rw [q] at this; exact this
  | exc x ρ' => rw [q] at this; exact this
  | ok a ρ' =>
    rw [q] at this
    obtain ⟨b, ⟨rfl, h1⟩, h2⟩ := this
    exact ⟨b, ⟨rfl, h1⟩, h2⟩
theorem o_bor {c : M RV} {t : m β} {i : Nat} (h : TE X Γ c t (fun _ => .bor i) Γ1) : TO X Γ c t (fun _ => .bor i) Γ1 := TR.mk fun ρ hρ Q E hs => by
  have := h ρ hρ Q E hs
  rw [opd_ap]
  cases q : c ρ with
  | stuck => rw [q] at this; exact this
  | exc x ρ' => rw [q] at this; exact this
  | ok a ρ' =>
    rw [q] at this
    obtain ⟨b, ⟨rfl, h1⟩, h2⟩ := this
    exact ⟨b, ⟨rfl, h1⟩, h2⟩
theorem z_of {c : M RV} {t : m β} {o : β → Opd} {e : β → D} (h : TO X Γ c t o Γ1) (f : ∀ b, FzOk Γ1 (o b) (e b) Γ2) : TZ X Γ c t e Γ2 := TR.mk fun ρ hρ => by
  refine At.ap (c := opd c >>= frz) (ρ' := ρ) ?_ rfl
  intro Q E hs
  have := h ρ hρ Q E hs
  show Out ((opd c ρ).bnd frz) _ _
  cases q : opd c ρ with
  | stuck => rw [q] at this; exact this
  | exc x ρ' => rw [q] at this; exact this
  | ok a ρ' =>
    rw [q] at this
    obtain ⟨b, ⟨rfl, h1⟩, h2⟩ := this
    obtain ⟨ρ2, h3, h4⟩ := (f b).frz h1
    show Out (frz (o b) ρ') _ _
    rw [h3]
    exact ⟨b, ⟨rfl, h4⟩, h2⟩
theorem e_bin {f : D → D → Option RV} {ca cb : M RV} {ta : m α} {tb : α → m β} {oa : α → Opd} {ob : β → Opd} {da : α → D} {db : β → D} {g : α → β → Option γ} {rv : γ → RV}
    (ha : TO X Γ ca ta oa Γ1) (hb : ∀ x, TO X Γ1 cb (tb x) ob Γ2) (la : ∀ x, LookOk Γ2 (oa x) (da x)) (lb : ∀ y, LookOk Γ2 (ob y) (db y)) (hg : ∀ x y z, g x y = some z → f (da x) (db y) = some (rv z)) :
    TE X Γ (binM f ca cb) (ta >>= fun x => tb x >>= fun y => lf (g x y)) rv Γ2 := TR.mk fun ρ hρ => by
  unfold binM
  refine At.bnd (ha ρ hρ) fun x a ρ1 ⟨e1, h1⟩ => ?_
  subst e1
  refine At.bnd (hb x ρ1 h1) fun y b ρ2 ⟨e2, h2⟩ => ?_
  subst e2
  exact At.look (la x) h2 (At.look (lb y) h2 (At.lift fun z hz => ⟨_, hg x y z hz, rfl, h2⟩))
theorem e_binp {f : D → D → Option RV} {ca cb : M RV} {ta : m α} {tb : α → m β} {oa : α → Opd} {ob : β → Opd} {da : α → D} {db : β → D} {g : α → β → γ} {rv : γ → RV}
    (ha : TO X Γ ca ta oa Γ1) (hb : ∀ x, TO X Γ1 cb (tb x) ob Γ2) (la : ∀ x, LookOk Γ2 (oa x) (da x)) (lb : ∀ y, LookOk Γ2 (ob y) (db y)) (hg : ∀ x y, f (da x) (db y) = some (rv (g x y))) :
    TE X Γ (binM f ca cb) (ta >>= fun x => tb x >>= fun y => pure (g x y)) rv Γ2 := TR.mk fun ρ hρ => by
  unfold binM
  refine At.bnd (ha ρ hρ) fun x a ρ1 ⟨e1, h1⟩ => ?_
  subst e1
  refine At.bnd (hb x ρ1 h1) fun y b ρ2 ⟨e2, h2⟩ => ?_
  subst e2
  exact At.look (la x) h2 (At.look (lb y) h2 (by rw [hg]; exact At.pur ⟨rfl, h2⟩))
theorem e_un {f : D → Option RV} {ca : M RV} {ta : m α} {oa : α → Opd} {da : α → D} {g : α → Option γ} {rv : γ → RV}
    (ha : TO X Γ ca ta oa Γ1) (la : ∀ x, LookOk Γ1 (oa x) (da x)) (hg : ∀ x z, g x = some z → f (da x) = some (rv z)) : TE X Γ (unM f ca) (ta >>= fun x => lf (g x)) rv Γ1 := TR.mk fun ρ hρ => by
  unfold unM
  refine At.bnd (ha ρ hρ) fun x a ρ1 ⟨e1, h1⟩ => ?_
  subst e1
  exact At.look (la x) h1 (At.lift fun z hz => ⟨_, hg x z hz, rfl, h1⟩)
theorem e_unp {f : D → Option RV} {ca : M RV} {ta : m α} {oa : α → Opd} {da : α → D} {g : α → γ} {rv : γ → RV}
    (ha : TO X Γ ca ta oa Γ1) (la : ∀ x, LookOk Γ1 (oa x) (da x)) (hg : ∀ x, f (da x) = some (rv (g x))) : TE X Γ (unM f ca) (ta >>= fun x => pure (g x)) rv Γ1 := TR.mk fun ρ hρ => by
  unfold unM
  refine At.bnd (ha ρ hρ) fun x a ρ1 ⟨e1, h1⟩ => ?_
  subst e1
  exact At.look (la x) h1 (by rw [hg]; exact At.pur ⟨rfl, h1⟩)
theorem a_nil : TAs (m := m) X Γ [] (pure ()) (fun _ => []) Γ := TR.mk fun ρ hρ => At.ok rfl ⟨rfl, hρ⟩
theorem a_cons {c : M RV} {cs : List (M RV)} {t : m α} {ts : α → m β} {o : α → Opd} {os : β → List Opd} (h : TO X Γ c t o Γ1) (hs : ∀ x, TAs X Γ1 cs (ts x) os Γ2) :
    TAs X Γ (c :: cs) (t >>= fun x => ts x >>= fun y => pure (x, y)) (fun p => o p.1 :: os p.2) Γ2 := TR.mk fun ρ hρ => by
  refine At.bnd (k := fun o => argsM cs >>= fun os => pure (o :: os)) (h ρ hρ) fun x a ρ1 ⟨e1, h1⟩ => ?_
  subst e1
  refine At.bnd (hs x ρ1 h1) fun y b ρ2 ⟨e2, h2⟩ => ?_
  subst e2
  exact At.pur ⟨rfl, h2⟩
inductive LooksOk (Γ : Ctx) : List Opd → List D → Prop
  | nil : LooksOk Γ [] []
  | cons {o : Opd} {d : D} {os : List Opd} {ds : List D} (h : LookOk Γ o d) (t : LooksOk Γ os ds) : LooksOk Γ (o :: os) (d :: ds)
theorem LooksOk.looks : ∀ {os : List Opd} {ds : List D}, LooksOk Γ os ds → EOk Γ ρ → looks os ρ = .ok ds ρ
  | _, _, .nil, e => rfl
  | _, _, .cons (o := o) (d := d) h t, e => by
    show (look o ρ).bnd _ = _
    rw [h.look e]
    show (VL.looks _ ρ).bnd _ = _
    rw [t.looks e]; rfl
theorem e_prim {f : List D → Option RV} {cs : List (M RV)} {ta : m α} {os : α → List Opd} {ds : α → List D} {g : α → Option γ} {rv : γ → RV}
    (ha : TAs X Γ cs ta os Γ1) (la : ∀ x, LooksOk Γ1 (os x) (ds x)) (hg : ∀ x z, g x = some z → f (ds x) = some (rv z)) : TE X Γ (primM f cs) (ta >>= fun x => lf (g x)) rv Γ1 := TR.mk fun ρ hρ => by
  unfold primM
  refine At.bnd (ha ρ hρ) fun x a ρ1 ⟨e1, h1⟩ => ?_
  subst e1
  exact At.ap (At.lift (o := f (ds x)) fun z hz => ⟨_, hg x z hz, rfl, h1⟩) (by rw [bnd_ap, (la x).looks h1]; rfl)
theorem e_primp {f : List D → Option RV} {cs : List (M RV)} {ta : m α} {os : α → List Opd} {ds : α → List D} {g : α → γ} {rv : γ → RV}
    (ha : TAs X Γ cs ta os Γ1) (la : ∀ x, LooksOk Γ1 (os x) (ds x)) (hg : ∀ x, f (ds x) = some (rv (g x))) : TE X Γ (primM f cs) (ta >>= fun x => pure (g x)) rv Γ1 := TR.mk fun ρ hρ => by
  unfold primM
  refine At.bnd (ha ρ hρ) fun x a ρ1 ⟨e1, h1⟩ => ?_
  subst e1
  exact At.ok (a := rv (g x)) (ρ' := ρ1) (by rw [bnd_ap, (la x).looks h1]; show M.lift (f (ds x)) ρ1 = _; rw [hg]; rfl) ⟨rfl, h1⟩
inductive FzsOk : Ctx → List Opd → List D → Ctx → Prop
  | nil {Γ : Ctx} : FzsOk Γ [] [] Γ
  | cons {Γ Γ1 Γ2 : Ctx} {o : Opd} {d : D} {os : List Opd} {ds : List D} (h : FzOk Γ o d Γ1) (t : FzsOk Γ1 os ds Γ2) : FzsOk Γ (o :: os) (d :: ds) Γ2
theorem FzsOk.frzs : ∀ {os : List Opd} {ds : List D} {Γ Γ1 : Ctx} {ρ : Env}, FzsOk Γ os ds Γ1 → EOk Γ ρ → ∃ ρ', frzs os ρ = .ok ds ρ' ∧ EOk Γ1 ρ'
  | _, _, _, _, ρ, .nil, e => ⟨ρ, rfl, e⟩
  | _, _, _, _, ρ, .cons (o := o) (d := d) h t, e => by
    obtain ⟨ρ1, h1, h2⟩ := h.frz e
    obtain ⟨ρ2, h3, h4⟩ := t.frzs h2
    refine ⟨ρ2, ?_, h4⟩
    rw [frzs_cons, h1, frzs1_ok, h3]; rfl
theorem e_tup {cs : List (M RV)} {ta : m α} {os : α → List Opd} {ds : α → List D} (ha : TAs X Γ cs ta os Γ1) (f : ∀ x, FzsOk Γ1 (os x) (ds x) Γ2) : TE X Γ (tupM cs) ta (fun x => .val (.tup (ds x))) Γ2 := TR.mk fun ρ hρ Q E hs => by
  have := ha ρ hρ Q E hs
  rw [tupM_ap]
  cases q : argsM cs ρ with
  | stuck => rw [q] at this; exact this
  | exc x ρ' => rw [q] at this; exact this
  | ok a ρ' =>
    rw [q] at this
    obtain ⟨b, ⟨rfl, h1⟩, h2⟩ := this
    obtain ⟨ρ2, h3, h4⟩ := (f b).frzs h1
    rw [tup1_ok, h3]
    exact ⟨b, ⟨rfl, h4⟩, h2⟩
theorem e_lst {cs : List (M RV)} {ta : m α} {os : α → List Opd} {ds : α → List D} (ha : TAs X Γ cs ta os Γ1) (f : ∀ x, FzsOk Γ1 (os x) (ds x) Γ2) : TE X Γ (lstM cs) ta (fun x => .own (.lst (ds x))) Γ2 := TR.mk fun ρ hρ Q E hs => by
  have := ha ρ hρ Q E hs
  rw [lstM_ap]
  cases q : argsM cs ρ with
  | stuck => rw [q] at this; exact this
  | exc x ρ' => rw [q] at this; exact this
  | ok a ρ' =>
    rw [q] at this
    obtain ⟨b, ⟨rfl, h1⟩, h2⟩ := this
    obtain ⟨ρ2, h3, h4⟩ := (f b).frzs h1
    rw [lst1_ok, h3]
    exact ⟨b, ⟨rfl, h4⟩, h2⟩
/-- the value told otherwise -/
theorem e_map {c : M RV} {t : m α} {f : α → RV} {g : β → RV} (h : TE X Γ c t f Γ1) (i : α → β) (e : ∀ a, f a = g (i a)) : TE X Γ c (t >>= fun a => pure (i a)) g Γ1 := TR.mk fun ρ hρ => by
  have := At.bnd (k := pure) (t2 := fun a => (pure (i a) : m β)) (R2 := fun b a ρ' => a = g b ∧ EOk Γ1 ρ') (h ρ hρ) fun b a ρ' ⟨e1, h1⟩ => by
    subst e1
    exact At.pur ⟨e b, h1⟩
  refine this.ap ?_
  show _ = (c ρ).bnd pure
  cases c ρ <;> rfl
theorem e_part {c : M RV} {t : m α} {f : α → RV} (h : TE X Γ c t f Γ1) (g : α → Option β) (f' : β → RV) (e : ∀ a b, g a = some b → f a = f' b) : TE X Γ c (t >>= fun a => lf (g a)) f' Γ1 := TR.mk fun ρ hρ => by
  have := At.bnd (k := pure) (t2 := fun a => (lf (g a) : m β)) (R2 := fun b a ρ' => a = f' b ∧ EOk Γ1 ρ') (h ρ hρ) fun b a ρ' ⟨e1, h1⟩ => by
    subst e1
    exact At.ap (At.lift (o := some (f b)) fun z hz => ⟨_, rfl, e b z hz, h1⟩) rfl
  refine this.ap ?_
  show _ = (c ρ).bnd pure
  cases c ρ <;> rfl
/-- the same, where nothing is to be told: another word for the value -/
theorem e_re {c : M RV} {t : m α} {f g : α → RV} (h : TE X Γ c t f Γ1) (e : ∀ a, f a = g a) : TE X Γ c t g Γ1 := TR.mk fun ρ hρ => (h ρ hρ).imp fun b a ρ' ⟨e1, h1⟩ => ⟨e1.trans (e b), h1⟩
theorem e_le {c : M RV} {t : m α} {f : α → RV} (h : TE X Γ c t f Γ1) (l : CLe Γ1 Γ2) : TE X Γ c t f Γ2 := TR.mk fun ρ hρ => (h ρ hρ).imp fun b a ρ' ⟨e1, h1⟩ => ⟨e1, l _ h1⟩
theorem tr_le {P : β → α → Prop} {c : M α} {t : m β} (h : TR X Γ c t fun b a ρ' => P b a ∧ EOk Γ1 ρ') (l : CLe Γ1 Γ2) : TR X Γ c t fun b a ρ' => P b a ∧ EOk Γ2 ρ' := TR.mk fun ρ hρ => (h ρ hρ).imp fun b a ρ' ⟨e1, h1⟩ => ⟨e1, l _ h1⟩
/-! tests -/
theorem b_as {c : M RV} {t : m Bool} (h : TE X Γ c t (fun b => .val (.bl b)) Γ1) : TB X Γ (c >>= asB) t Γ1 := TR.mk fun ρ hρ Q E hs => by
  have := h ρ hρ Q E hs
  show Out ((c ρ).bnd asB) _ _
  cases q : c ρ with
  | stuck => rw [q] at this; exact this
  | exc x ρ' => rw [q] at this; exact this
  | ok a ρ' =>
    rw [q] at this
    obtain ⟨b, ⟨rfl, h1⟩, h2⟩ := this
    exact ⟨b, ⟨rfl, h1⟩, h2⟩
theorem b_tru {c : M RV} {t : m α} {o : α → Opd} {d : α → D} {g : α → Bool} (h : TO X Γ c t o Γ1) (l : ∀ x, LookOk Γ1 (o x) (d x)) (hg : ∀ x, truD (d x) = some (g x)) : TB X Γ (truM c) (t >>= fun x => pure (g x)) Γ1 := TR.mk fun ρ hρ => by
  unfold truM
  refine At.bnd (h ρ hρ) fun x a ρ1 ⟨e1, h1⟩ => ?_
  subst e1
  exact At.look (l x) h1 (by rw [hg]; exact At.pur ⟨rfl, h1⟩)
theorem b_trub {c : M RV} {t : m Bool} (h : TE X Γ c t (fun b => .val (.bl b)) Γ1) : TB X Γ (truM c) t Γ1 := TR.mk fun ρ hρ Q E hs => by
  have := h ρ hρ Q E hs
  show Out (truM c ρ) _ _
  rw [truM_ap, opd_ap]
  cases q : c ρ with
  | stuck => rw [q] at this; exact this
  | exc x ρ' => rw [q] at this; exact this
  | ok a ρ' =>
    rw [q] at this
    obtain ⟨b, ⟨rfl, h1⟩, h2⟩ := this
    exact ⟨b, ⟨rfl, h1⟩, h2⟩
theorem b_and {c d : M Bool} {t u : m Bool} (h : TB X Γ c t Γ1) (k : TB X Γ1 d u Γ2) (l : CLe Γ1 Γ2) : TB X Γ (andT c d) (t >>= fun b => if b = true then u else pure false) Γ2 := TR.mk fun ρ hρ => by
  unfold andT
  refine At.bnd (h ρ hρ) fun x a ρ1 ⟨e1, h1⟩ => ?_
  subst e1
  cases a with
  | true => exact k ρ1 h1
  | false => exact At.pur ⟨rfl, l _ h1⟩
theorem b_or {c d : M Bool} {t u : m Bool} (h : TB X Γ c t Γ1) (k : TB X Γ1 d u Γ2) (l : CLe Γ1 Γ2) : TB X Γ (orT c d) (t >>= fun b => if b = true then pure true else u) Γ2 := TR.mk fun ρ hρ => by
  unfold orT
  refine At.bnd (h ρ hρ) fun x a ρ1 ⟨e1, h1⟩ => ?_
  subst e1
  cases a with
  | false => exact k ρ1 h1
  | true => exact At.pur ⟨rfl, l _ h1⟩
theorem b_not {c : M Bool} {t : m Bool} (h : TB X Γ c t Γ1) : TB X Γ (notT c) (t >>= fun b => pure (!b)) Γ1 := TR.mk fun ρ hρ => by
  unfold notT
  refine At.bnd (h ρ hρ) fun x a ρ1 ⟨e1, h1⟩ => ?_
  subst e1
  exact At.pur ⟨rfl, h1⟩
theorem e_not {c : M RV} {t : m Bool} (h : TB X Γ (truM c) t Γ1) : TE X Γ (VL.notM c) (t >>= fun b => pure (!b)) (fun b => .val (.bl b)) Γ1 := TR.mk fun ρ hρ => by
  unfold VL.notM
  refine At.bnd (h ρ hρ) fun x a ρ1 ⟨e1, h1⟩ => ?_
  subst e1
  exact At.pur ⟨rfl, h1⟩
theorem e_and {c d : M RV} {t u : m Bool} (h : TE X Γ c t (fun b => .val (.bl b)) Γ1) (k : TE X Γ1 d u (fun b => .val (.bl b)) Γ2) (l : CLe Γ1 Γ2) : TE X Γ (VL.andM c d) (t >>= fun b => if b = true then u else pure false) (fun b => .val (.bl b)) Γ2 := TR.mk fun ρ hρ => by
  unfold VL.andM
  refine At.bnd (o_val (e := D.bl) h ρ hρ) fun x a ρ1 ⟨e1, h1⟩ => ?_
  subst e1
  refine At.look (.val _) h1 ?_
  cases x with
  | true => exact (k ρ1 h1).ap rfl
  | false => exact At.ok rfl ⟨rfl, l _ h1⟩
theorem e_or {c d : M RV} {t u : m Bool} (h : TE X Γ c t (fun b => .val (.bl b)) Γ1) (k : TE X Γ1 d u (fun b => .val (.bl b)) Γ2) (l : CLe Γ1 Γ2) : TE X Γ (VL.orM c d) (t >>= fun b => if b = true then pure true else u) (fun b => .val (.bl b)) Γ2 := TR.mk fun ρ hρ => by
  unfold VL.orM
  refine At.bnd (o_val (e := D.bl) h ρ hρ) fun x a ρ1 ⟨e1, h1⟩ => ?_
  subst e1
  refine At.look (.val _) h1 ?_
  cases x with
  | false => exact (k ρ1 h1).ap rfl
  | true => exact At.ok rfl ⟨rfl, l _ h1⟩
theorem e_if {c : M Bool} {a b : M RV} {t : m Bool} {u v : m α} {f : α → RV} (h : TB X Γ c t Γ1) (k : TE X Γ1 a u f Γ2) (l : TE X Γ1 b v f Γ2) : TE X Γ (ifM c a b) (t >>= fun b => if b = true then u else v) f Γ2 := TR.mk fun ρ hρ => by
  unfold ifM
  refine At.bnd (h ρ hρ) fun x a ρ1 ⟨e1, h1⟩ => ?_
  subst e1
  cases a with
  | true => exact k ρ1 h1
  | false => exact l ρ1 h1
theorem e_chain {f g : D → D → Option RV} {ca cb cc : M RV} {ta : m α} {tb : α → m β} {tc : m γ} {oa : α → Opd} {ob : β → Opd} {oc : γ → Opd} {da : α → D} {db : β → D} {dc : γ → D} {p : α → β → Bool} {q : β → γ → Bool}
    (ha : TO X Γ ca ta oa Γ1) (hb : ∀ x, TO X Γ1 cb (tb x) ob Γ2) (hc : TO X Γ2 cc tc oc Γ3) (la : ∀ x, LookOk Γ2 (oa x) (da x)) (lb : ∀ y, LookOk Γ2 (ob y) (db y)) (lb' : ∀ y, LookOk Γ3 (ob y) (db y)) (lc : ∀ y, LookOk Γ3 (oc y) (dc y)) (l : CLe Γ2 Γ3)
    (hp : ∀ x y, f (da x) (db y) = some (.val (.bl (p x y)))) (hq : ∀ y z, g (db y) (dc z) = some (.val (.bl (q y z)))) :
    TE X Γ (chainM f g ca cb cc) (ta >>= fun x => tb x >>= fun y => if p x y = true then tc >>= fun z => pure (q y z) else pure false) (fun b => .val (.bl b)) Γ3 := TR.mk fun ρ hρ => by
  unfold chainM
  refine At.bnd (ha ρ hρ) fun x a ρ1 ⟨e1, h1⟩ => ?_
  subst e1
  refine At.bnd (hb x ρ1 h1) fun y b ρ2 ⟨e2, h2⟩ => ?_
  subst e2
  refine At.look (la x) h2 (At.look (lb y) h2 ?_)
  rw [hp]
  cases p x y with
  | true =>
    show At X ρ2 _ (tc >>= fun z => pure (q y z)) _
    refine At.ap (c := opd cc >>= fun z => look (ob y) >>= fun dy => look z >>= fun dz => M.lift (g dy dz)) ?_ rfl
    refine At.bnd (hc ρ2 h2) fun z c ρ3 ⟨e3, h3⟩ => ?_
    subst e3
    exact At.look (lb' y) h3 (At.look (lc z) h3 (by rw [hq]; exact At.pur ⟨rfl, h3⟩))
  | false => exact At.ok rfl ⟨rfl, l _ h2⟩
end
end TL

/-! TL part b: targets, comprehensions, statements, loops, calls, defs. -/
namespace TL
open PySem hiding Env
open VL
section
variable {m : Type → Type} [TM m] {α β γ δ σ τ : Type} {X Γ Γ1 Γ2 Γ3 Γ' : Ctx} {ρ : Env}
/-! ### targets -/
def SG (Γ : Ctx) (c : MS) (Γ' : Ctx) : Prop := ∀ ρ, EOk Γ ρ → ∃ ρ', c ρ = .ok .nx ρ' ∧ EOk Γ' ρ'
def Asg (g : SS) : Prop := ∀ s, SOk g s → ∀ (i : Nat) (t : Slot) (ρ : Env), ρ[i]? = some s → setM i t ρ = .ok .nx (ρ.set i t)
theorem a_val {d : D} : Asg (.val d) := fun s h i t ρ e => by cases h; unfold setM; rw [e]
theorem a_own {d : D} : Asg (.own d) := fun s h i t ρ e => by cases h; unfold setM; rw [e]
theorem a_ov {d : D} : Asg (.ov d) := fun s h i t ρ e => by rcases h with rfl | rfl <;> (unfold setM; rw [e])
theorem a_exO {P : D → Prop} : Asg (.exO P) := fun s h i t ρ e => by obtain ⟨d, rfl, _⟩ := h; unfold setM; rw [e]
theorem a_any : Asg .any := fun s h i t ρ e => by
  unfold setM
  rw [e]
  cases s <;> first | rfl | exact h.elim
theorem setM_ok {g g' : SS} {i : Nat} {s : Slot} (e : EOk Γ ρ) (h : Γ[i]? = some g) (a : Asg g) (k : SOk g' s) : ∃ ρ', setM i s ρ = .ok .nx ρ' ∧ EOk (Γ.set i g') ρ' := by
  obtain ⟨s0, h1, h2⟩ := e.get h
  exact ⟨_, a s0 h2 i s ρ h1, e.set k⟩
theorem g_name {g : SS} {i : Nat} {d : D} (h : Γ[i]? = some g) (a : Asg g) : SG Γ (nameG i d) (Γ.set i (.val d)) := fun ρ e => setM_ok e h a rfl
theorem g_seq {c d : MS} (h : SG Γ c Γ1) (k : SG Γ1 d Γ2) : SG Γ (seqS c d) Γ2 := fun ρ e => by
  obtain ⟨ρ1, h1, h2⟩ := h ρ e
  obtain ⟨ρ2, h3, h4⟩ := k ρ1 h2
  exact ⟨ρ2, by rw [seqS_ap, h1, seq1_nx, h3], h4⟩
theorem g_nil : SG Γ (seqG [] []) Γ := fun ρ e => ⟨ρ, rfl, e⟩
theorem g_cons {g : D → MS} {gs : List (D → MS)} {d : D} {ds : List D} (h : SG Γ (g d) Γ1) (k : SG Γ1 (seqG gs ds) Γ2) : SG Γ (seqG (g :: gs) (d :: ds)) Γ2 := g_seq h k
theorem g_tup {gs : List (D → MS)} {d : D} {ds : List D} (hd : d = .tup ds) (h : ds.length = gs.length) (k : SG Γ (seqG gs ds) Γ1) : SG Γ (tupG gs d) Γ1 := by
  subst hd
  show SG Γ (if ds.length = gs.length then seqG gs ds else M.stuck) Γ1
  rw [if_pos h]; exact k
theorem g_le {c : MS} (h : SG Γ c Γ1) (l : CLe Γ1 Γ2) : SG Γ c Γ2 := fun ρ e => let ⟨ρ1, h1, h2⟩ := h ρ e; ⟨ρ1, h1, l _ h2⟩

theorem z_own {i : Nat} {e : β → D} {v : β} (h : Γ[i]? = some (.own (e v))) : TZ (m := m) X Γ (varM i) (pure v) e (Γ.set i (.val (e v))) := TR.mk fun ρ hρ => by
  obtain ⟨s, h1, rfl⟩ := hρ.get h
  refine At.ok (ρ' := ρ.set i (.val (e v))) ?_ ⟨rfl, hρ.set rfl⟩
  rw [fzM_ap, opd_ap, varM_ap]
  unfold valD ownD
  rw [h1]
  show fz1 (.ok (.bor i) ρ) = _
  rw [fz1_ok, frz_bor, frzSlot_ap, h1]; rfl
theorem z_bow {i : Nat} {e : β → D} {v : β} (h : Γ[i]? = some (.bow (e v))) : TZ (m := m) X Γ (varM i) (pure v) e (Γ.set i (.bfz (e v))) := TR.mk fun ρ hρ => by
  obtain ⟨s, h1, rfl⟩ := hρ.get h
  refine At.ok (ρ' := ρ.set i (.bfz (e v))) ?_ ⟨rfl, hρ.set rfl⟩
  rw [fzM_ap, opd_ap, varM_ap]
  unfold valD ownD
  rw [h1]
  show fz1 (.ok (.bor i) ρ) = _
  rw [fz1_ok, frz_bor, frzSlot_ap, h1]; rfl
/-! ### what is walked -/
theorem i_seq {c : M RV} {t : m α} {e : α → D} {g : α → List β} {ed : β → D} (h : TZ X Γ c t e Γ1) (hg : ∀ b, itemsD (e b) = some ((g b).map ed)) : TI X Γ (seqM c) (t >>= fun b => pure (g b)) ed Γ1 := TR.mk fun ρ hρ => by
  unfold seqM
  refine At.bnd (h ρ hρ) fun x a ρ1 ⟨e1, h1⟩ => ?_
  subst e1
  rw [hg]
  exact At.ok rfl ⟨rfl, h1⟩
theorem i_src {f : List D → Option (List D)} {cs : List (M RV)} {ta : m α} {os : α → List Opd} {ds : α → List D} {g : α → Option (List β)} {ed : β → D}
    (ha : TAs X Γ cs ta os Γ1) (fz : ∀ x, FzsOk Γ1 (os x) (ds x) Γ2) (hg : ∀ x z, g x = some z → f (ds x) = some (z.map ed)) : TI X Γ (srcF f cs) (ta >>= fun x => lf (g x)) ed Γ2 := TR.mk fun ρ hρ => by
  unfold srcF
  refine At.bnd (ha ρ hρ) fun x a ρ1 ⟨e1, h1⟩ => ?_
  subst e1
  obtain ⟨ρ2, h3, h4⟩ := (fz x).frzs h1
  refine At.ap (ρ' := ρ2) (At.lift (o := f (ds x)) fun z hz => ⟨_, hg x z hz, rfl, h4⟩) ?_
  rw [bnd_ap, h3]; rfl
theorem i_srcp {f : List D → Option (List D)} {cs : List (M RV)} {ta : m α} {os : α → List Opd} {ds : α → List D} {g : α → List β} {ed : β → D}
    (ha : TAs X Γ cs ta os Γ1) (fz : ∀ x, FzsOk Γ1 (os x) (ds x) Γ2) (hg : ∀ x, f (ds x) = some ((g x).map ed)) : TI X Γ (srcF f cs) (ta >>= fun x => pure (g x)) ed Γ2 := TR.mk fun ρ hρ => by
  unfold srcF
  refine At.bnd (ha ρ hρ) fun x a ρ1 ⟨e1, h1⟩ => ?_
  subst e1
  obtain ⟨ρ2, h3, h4⟩ := (fz x).frzs h1
  refine At.ok (ρ' := ρ2) (a := (g x).map ed) ?_ ⟨rfl, h4⟩
  rw [bnd_ap, h3]
  show M.lift (f (ds x)) ρ2 = _
  rw [hg]; rfl

/-! ### comprehensions -/
def lcL (p : β → m Bool) (el : β → m γ) : List β → m (List γ)
  | [] => pure []
  | x :: xs => p x >>= fun b => if b = true then el x >>= fun y => lcL p el xs >>= fun ys => pure (y :: ys) else lcL p el xs
def lcT (p : β → m Bool) (el : β → m γ) (xs : List β) : m (List γ) := if xs.length ≤ LIM then TM.noex (lcL p el xs) else lf none
def wipeC (Γ : Ctx) : List Nat → Ctx
  | [] => Γ
  | v :: vs => (wipeC Γ vs).set v .any
theorem wipe_ok (h : EOk Γ ρ) : ∀ vs, EOk (wipeC Γ vs) (wipeE ρ vs)
  | [] => h
  | v :: vs => (wipe_ok h vs).set trivial
def ResOk (vs : List Nat) (Γ1 Γw Γ' : Ctx) : Prop := ∀ ρ1 ρ2, EOk Γ1 ρ1 → EOk Γw ρ2 → EOk Γ' (restoreE ρ1 ρ2 vs)
theorem r_nil {Γ1 Γw : Ctx} : ResOk [] Γ1 Γw Γw := fun _ _ _ h => h
theorem r_cons {v : Nat} {vs : List Nat} {Γ1 Γw Γ' : Ctx} {g : SS} (e : Γ1[v]? = some g) (h : ResOk vs Γ1 Γw Γ') : ResOk (v :: vs) Γ1 Γw (Γ'.set v g) := fun ρ1 ρ2 h1 h2 => by
  obtain ⟨s, h3, h4⟩ := h1.get e
  show EOk _ (match ρ1[v]? with | some s => (restoreE ρ1 ρ2 vs).set v s | none => restoreE ρ1 ρ2 vs)
  rw [h3]
  exact (h ρ1 ρ2 h1 h2).set h4
theorem lc_loop {ct : CT} {t : M Bool} {el : M RV} {vs : List Nat} {e : β → D} {e' : γ → D} {p : β → m Bool} {elT : β → m γ} {Γw : Ctx} {Γx Γy Γz : β → Ctx}
    (hc : ∀ x, SG Γw (ctG ct (e x)) (Γx x)) (ht : ∀ x, TB X (Γx x) t (p x) (Γy x)) (he : ∀ x, TZ X (Γy x) el (elT x) e' (Γz x)) (hy : ∀ x, CLe (wipeC (Γy x) vs) Γw) (hz : ∀ x, CLe (wipeC (Γz x) vs) Γw) :
    ∀ (xs : List β) (acc : List D) (ρ : Env), EOk Γw ρ → At X ρ (lcLoop ct t el vs (xs.map e) acc) (lcL p elT xs) fun ys a ρ' => a = acc ++ ys.map e' ∧ EOk Γw ρ'
  | [], acc, ρ, h => At.ok rfl ⟨by simp, h⟩
  | x :: xs, acc, ρ, h => by
    obtain ⟨ρ1, h1, h2⟩ := hc x ρ h
    refine At.ap (c := t >>= fun k => if k = true then fzM el >>= fun y => fun ρ => lcLoop ct t el vs (xs.map e) (acc ++ [y]) (wipeE ρ vs) else fun ρ => lcLoop ct t el vs (xs.map e) acc (wipeE ρ vs)) (ρ' := ρ1) ?_ (by rw [List.map_cons, lcLoop_cons, bnd_ap, h1]; rfl)
    refine At.bnd (ht x ρ1 h2) fun b a ρ2 ⟨e1, h3⟩ => ?_
    subst e1
    cases a with
    | true =>
      show At X ρ2 _ (elT x >>= fun y => lcL p elT xs >>= fun ys => pure (y :: ys)) _
      refine At.bnd (he x ρ2 h3) fun y b ρ3 ⟨e2, h4⟩ => ?_
      subst e2
      have := lc_loop hc ht he hy hz xs (acc ++ [e' y]) (wipeE ρ3 vs) (hz x _ (wipe_ok h4 vs))
      have := At.bnd (k := pure) (t2 := fun ys => (pure (y :: ys) : m _)) (R2 := fun ys a ρ' => a = acc ++ ys.map e' ∧ EOk Γw ρ') this fun ys a ρ' ⟨e1, h1⟩ => At.pur ⟨by rw [e1]; simp, h1⟩
      refine this.ap ?_
      show _ = (lcLoop ct t el vs (xs.map e) (acc ++ [e' y]) (wipeE ρ3 vs)).bnd pure
      cases lcLoop ct t el vs (xs.map e) (acc ++ [e' y]) (wipeE ρ3 vs) <;> rfl
    | false =>
      exact (lc_loop hc ht he hy hz xs acc (wipeE ρ2 vs) (hy x _ (wipe_ok h3 vs))).ap rfl
theorem e_lc {X0 : Ctx} {src : M (List D)} {ct : CT} {t : M Bool} {el : M RV} {vs : List Nat} {ts : m (List β)} {e : β → D} {e' : γ → D} {p : β → m Bool} {elT : β → m γ} {Γw : Ctx} {Γx Γy Γz : β → Ctx}
    (hs : TI X Γ src ts e Γ1) (hw : CLe (wipeC Γ1 vs) Γw) (hc : ∀ x, SG Γw (ctG ct (e x)) (Γx x)) (ht : ∀ x, TB X0 (Γx x) t (p x) (Γy x)) (he : ∀ x, TZ X0 (Γy x) el (elT x) e' (Γz x)) (hy : ∀ x, CLe (wipeC (Γy x) vs) Γw) (hz : ∀ x, CLe (wipeC (Γz x) vs) Γw) (hr : ResOk vs Γ1 Γw Γ') :
    TE X Γ (lcM src ct t el vs) (ts >>= fun xs => lcT p elT xs) (fun ys => .own (.lst (ys.map e'))) Γ' := TR.mk fun ρ hρ => by
  unfold lcM
  refine At.bnd (hs ρ hρ) fun xs ds ρ1 ⟨e1, h1⟩ => ?_
  subst e1
  intro Q E hq
  unfold lcT at hq
  show Out (if (xs.map e).length ≤ LIM then (match lcLoop ct t el vs (xs.map e) [] (wipeE ρ1 vs) with
    | .ok acc ρ2 => Res.ok (RV.own (D.lst acc)) (restoreE ρ1 ρ2 vs)
    | _ => Res.stuck)
  else Res.stuck) _ _
  rw [List.length_map]
  by_cases hl : xs.length ≤ LIM
  · rw [if_pos hl] at hq ⊢
    have hq := TM.sat_noex hq
    have := lc_loop hc ht he hy hz xs [] (wipeE ρ1 vs) (hw _ (wipe_ok h1 vs)) _ _ hq
    cases q : lcLoop ct t el vs (xs.map e) [] (wipeE ρ1 vs) with
    | stuck => rw [q] at this; exact this
    | exc x ρ' => rw [q] at this; exact this.1.elim
    | ok a ρ' =>
      rw [q] at this
      obtain ⟨ys, ⟨rfl, h2⟩, h3⟩ := this
      exact ⟨ys, ⟨by simp, hr _ _ h1 h2⟩, h3⟩
  · rw [if_neg hl] at hq ⊢
    exact (TM.sat_up hq).elim
theorem b_true : TB (m := m) X Γ (pure true) (pure true) Γ := TR.mk fun ρ h => At.ok rfl ⟨rfl, h⟩

/-! ### slices -/
abbrev TOp (X Γ : Ctx) (c : M (Option Int)) (t : m (Option Int)) (Γ' : Ctx) : Prop := TR X Γ c t fun b a ρ' => a = b ∧ EOk Γ' ρ'
theorem n_none : TOp (m := m) X Γ noO (pure none) Γ := TR.mk fun ρ h => At.ok rfl ⟨rfl, h⟩
theorem n_some {c : M RV} {t : m Int} (h : TE X Γ c t (fun i => .val (.int i)) Γ1) : TOp X Γ (intO c) (t >>= fun i => pure (some i)) Γ1 := TR.mk fun ρ hρ => by
  unfold intO
  refine At.bnd (o_val (e := D.int) h ρ hρ) fun i a ρ1 ⟨e1, h1⟩ => ?_
  subst e1
  exact At.ok rfl ⟨rfl, h1⟩
theorem e_sl {ca : M RV} {cl ch : M (Option Int)} {ta : m α} {tl : α → m (Option Int)} {th : α → Option Int → m (Option Int)} {oa : α → Opd} {da : α → D} {g : α → Option Int → Option Int → γ} {rv : γ → RV}
    (ha : TO X Γ ca ta oa Γ1) (hl : ∀ x, TOp X Γ1 cl (tl x) Γ2) (hh : ∀ x y, TOp X Γ2 ch (th x y) Γ3) (la : ∀ x, LookOk Γ3 (oa x) (da x)) (hg : ∀ x lo hi, slD lo hi (da x) = some (rv (g x lo hi))) :
    TE X Γ (slM ca cl ch) (ta >>= fun x => tl x >>= fun lo => th x lo >>= fun hi => pure (g x lo hi)) rv Γ3 := TR.mk fun ρ hρ => by
  unfold slM
  refine At.bnd (ha ρ hρ) fun x a ρ1 ⟨e1, h1⟩ => ?_
  subst e1
  refine At.bnd (hl x ρ1 h1) fun y b ρ2 ⟨e2, h2⟩ => ?_
  subst e2
  refine At.bnd (hh x b ρ2 h2) fun z c ρ3 ⟨e3, h3⟩ => ?_
  subst e3
  exact At.look (la x) h3 (by rw [hg]; exact At.ok rfl ⟨rfl, h3⟩)
theorem e_step {ca : M RV} {cl ch cc : M (Option Int)} {ta : m α} {tl : α → m (Option Int)} {th : α → Option Int → m (Option Int)} {tc : m (Option Int)} {oa : α → Opd} {da : α → D} {g : α → Option Int → Option Int → Option Int → Option γ} {rv : γ → RV} {Γ4 : Ctx}
    (ha : TO X Γ ca ta oa Γ1) (hl : ∀ x, TOp X Γ1 cl (tl x) Γ2) (hh : ∀ x y, TOp X Γ2 ch (th x y) Γ3) (hc : TOp X Γ3 cc tc Γ4) (la : ∀ x, LookOk Γ4 (oa x) (da x)) (hg : ∀ x lo hi c z, g x lo hi c = some z → stD lo hi c (da x) = some (rv z)) :
    TE X Γ (stepM ca cl ch cc) (ta >>= fun x => tl x >>= fun lo => th x lo >>= fun hi => tc >>= fun c => lf (g x lo hi c)) rv Γ4 := TR.mk fun ρ hρ => by
  unfold stepM
  refine At.bnd (ha ρ hρ) fun x a ρ1 ⟨e1, h1⟩ => ?_
  subst e1
  refine At.bnd (hl x ρ1 h1) fun y b ρ2 ⟨e2, h2⟩ => ?_
  subst e2
  refine At.bnd (hh x b ρ2 h2) fun z c ρ3 ⟨e3, h3⟩ => ?_
  subst e3
  refine At.bnd (hc ρ3 h3) fun z2 d ρ4 ⟨e4, h4⟩ => ?_
  subst e4
  exact At.look (la x) h4 (At.lift fun z hz => ⟨_, hg _ _ _ _ z hz, rfl, h4⟩)

/-! ### statements -/
abbrev kv (k : Bool) (d : D) : RV := match k with | true => .own d | false => .val d
abbrev kb (k : Bool) (d : D) : SS := match k with | true => .own d | false => .bow d
abbrev sb (k : Bool) (d : D) : Slot := match k with | true => .own d | false => .bow d
abbrev sv (k : Bool) (d : D) : Slot := match k with | true => .own d | false => .val d
abbrev ks (k : Bool) (d : D) : SS := match k with | true => .own d | false => .val d
theorem p_asg (k : Bool) {i : Nat} {c : M RV} {t : m α} {e : α → D} {g : SS} (h : TE X Γ c t (fun b => kv k (e b)) Γ1) (hg : Γ1[i]? = some g) (a : Asg g) : TP X Γ (asgS i c) t (fun b => Γ1.set i (ks k (e b))) := TR.mk fun ρ hρ Q E hs => by
  have := h ρ hρ Q E hs
  rw [asgS_ap]
  cases q : c ρ with
  | stuck => rw [q] at this; exact this
  | exc x ρ' => rw [q] at this; exact this
  | ok a0 ρ' =>
    rw [q] at this
    obtain ⟨b, ⟨rfl, h1⟩, h2⟩ := this
    cases k with
    | true =>
      obtain ⟨ρ2, h3, h4⟩ := setM_ok (g' := .own (e b)) (s := .own (e b)) h1 hg a rfl
      show Out (setM i (.own (e b)) ρ') _ _
      rw [h3]; exact ⟨b, ⟨rfl, h4⟩, h2⟩
    | false =>
      obtain ⟨ρ2, h3, h4⟩ := setM_ok (g' := .val (e b)) (s := .val (e b)) h1 hg a rfl
      show Out (setM i (.val (e b)) ρ') _ _
      rw [h3]; exact ⟨b, ⟨rfl, h4⟩, h2⟩
theorem p_asgO {i j : Nat} {e : α → D} {v : α} {g : SS} (h : Γ[j]? = some (.own (e v))) (hg : (Γ.set j (.val (e v)))[i]? = some g) (a : Asg g) : TP (m := m) X Γ (asgS i (varM j)) (pure v) (fun b => (Γ.set j (.val (e v))).set i (.val (e b))) := TR.mk fun ρ hρ => by
  obtain ⟨s, h1, rfl⟩ := hρ.get h
  have h2 : EOk (Γ.set j (.val (e v))) (ρ.set j (.val (e v))) := hρ.set rfl
  obtain ⟨ρ3, h5, h6⟩ := setM_ok (g' := .val (e v)) (s := .val (e v)) h2 hg a rfl
  refine At.ok (ρ' := ρ3) ?_ ⟨rfl, h6⟩
  rw [asgS_ap, varM_ap]
  unfold valD ownD
  rw [h1]
  show ((frz (.bor j) ρ).bnd _) = _
  rw [frz_bor, frzSlot_ap, h1]
  exact h5
theorem p_asgW {i j : Nat} {e : α → D} {v : α} {g : SS} (h : Γ[j]? = some (.bow (e v))) (hg : (Γ.set j (.bfz (e v)))[i]? = some g) (a : Asg g) : TP (m := m) X Γ (asgS i (varM j)) (pure v) (fun b => (Γ.set j (.bfz (e v))).set i (.val (e b))) := TR.mk fun ρ hρ => by
  obtain ⟨s, h1, rfl⟩ := hρ.get h
  have h2 : EOk (Γ.set j (.bfz (e v))) (ρ.set j (.bfz (e v))) := hρ.set rfl
  obtain ⟨ρ3, h5, h6⟩ := setM_ok (g' := .val (e v)) (s := .val (e v)) h2 hg a rfl
  refine At.ok (ρ' := ρ3) ?_ ⟨rfl, h6⟩
  rw [asgS_ap, varM_ap]
  unfold valD ownD
  rw [h1]
  show ((frz (.bor j) ρ).bnd _) = _
  rw [frz_bor, frzSlot_ap, h1]
  exact h5
theorem p_asgG {g : D → MS} {c : M RV} {t : m α} {e : α → D} {Γ' : α → Ctx} (h : TZ X Γ c t e Γ1) (k : ∀ b, SG Γ1 (g (e b)) (Γ' b)) : TP X Γ (asgG g c) t Γ' := TR.mk fun ρ hρ Q E hs => by
  have := h ρ hρ Q E hs
  unfold asgG
  show Out ((fzM c ρ).bnd g) _ _
  cases q : fzM c ρ with
  | stuck => rw [q] at this; exact this
  | exc x ρ' => rw [q] at this; exact this
  | ok a0 ρ' =>
    rw [q] at this
    obtain ⟨b, ⟨rfl, h1⟩, h2⟩ := this
    obtain ⟨ρ2, h3, h4⟩ := k b ρ' h1
    show Out (g (e b) ρ') _ _
    rw [h3]
    exact ⟨b, ⟨rfl, h4⟩, h2⟩
/-- xs[k] = v -/
theorem p_ix (k : Bool) {i : Nat} {ci c : M RV} {t : m α} {ti : α → m β} {e : α → D} {ei : β → D} {d : D} {g : α → β → Option γ} {eg : γ → D} (h : TZ X Γ c t e Γ1) (hi : ∀ b, TE X Γ1 ci (ti b) (fun b => .val (ei b)) Γ2)
    (h1 : Γ1[i]? = some (kb k d)) (h2 : Γ2[i]? = some (kb k d)) (hg : ∀ x y z, g x y = some z → setD (e x) (ei y) d = some (eg z)) :
    TP X Γ (asgG (ixG i ci) c) (t >>= fun x => ti x >>= fun y => lf (g x y)) (fun z => Γ2.set i (kb k (eg z))) := TR.mk fun ρ hρ => by
  unfold asgG
  refine At.bnd (h ρ hρ) fun x a ρ1 ⟨e1, hq1⟩ => ?_
  subst e1
  unfold ixG
  obtain ⟨s1, a1, a2⟩ := hq1.get h1
  refine At.ap (c := opd ci >>= fun o => look o >>= fun k => updSlot i (setD (e x) k) >>= fun _ => (pure .nx : MS)) (ρ' := ρ1) ?_ (by
    rw [bnd_ap]; unfold hasAny ownD; rw [a1]; cases k <;> (cases a2; rfl))
  refine At.bnd (o_val (hi x) ρ1 hq1) fun y b ρ2 ⟨e2, hq2⟩ => ?_
  subst e2
  refine At.look (.val _) hq2 ?_
  obtain ⟨s2, b1, b2⟩ := hq2.get h2
  intro Q E hs
  have hs := TM.sat_up hs
  cases hz : g x y with
  | none => rw [hz] at hs; exact hs.elim
  | some z =>
    rw [hz] at hs
    have hd := hg x y z hz
    show Out ((updSlot i (setD (e x) (ei y)) ρ2).bnd _) _ _
    unfold updSlot
    rw [b1]
    cases k with
    | true => cases b2; simp only [hd]; exact ⟨z, ⟨rfl, hq2.set rfl⟩, hs⟩
    | false => cases b2; simp only [hd]; exact ⟨z, ⟨rfl, hq2.set rfl⟩, hs⟩
theorem p_par (k l : Bool) {i j : Nat} {ca cb : M RV} {ta : m α} {tb : α → m β} {ea : α → D} {eb : β → D} {g g' : SS} (ha : TE X Γ ca ta (fun b => kv k (ea b)) Γ1) (hb : ∀ x, TE X Γ1 cb (tb x) (fun b => kv l (eb b)) Γ2)
    (h1 : Γ2[i]? = some g) (a1 : Asg g) (h2 : Γ2[j]? = some g') (a2 : Asg g') (ne : i ≠ j) : TP X Γ (parS i j ca cb) (ta >>= fun x => tb x >>= fun y => pure (x, y)) (fun p => (Γ2.set i (ks k (ea p.1))).set j (ks l (eb p.2))) := TR.mk fun ρ hρ => by
  unfold parS
  refine At.bnd (ha ρ hρ) fun x a ρ1 ⟨e1, hq1⟩ => ?_
  subst e1
  have key : ∀ y ρ2, EOk Γ2 ρ2 → ∀ (s : Slot) (s' : Slot), SOk (ks k (ea x)) s → SOk (ks l (eb y)) s' → At X ρ2 (seqS (setM i s) (setM j s')) (pure (x, y) : m _) fun p a ρ' => a = .nx ∧ EOk ((Γ2.set i (ks k (ea p.1))).set j (ks l (eb p.2))) ρ' := fun y ρ2 hq2 s s' o1 o2 => by
    obtain ⟨ρ3, c1, c2⟩ := setM_ok hq2 h1 a1 o1
    have hj : (Γ2.set i (ks k (ea x)))[j]? = some g' := by rw [List.getElem?_set_ne ne]; exact h2
    obtain ⟨ρ4, c3, c4⟩ := setM_ok c2 hj a2 o2
    exact At.ok (by rw [seqS_ap, c1, seq1_nx, c3]) ⟨rfl, c4⟩
  cases k with
  | true =>
    refine At.bnd (hb x ρ1 hq1) fun y b ρ2 ⟨e2, hq2⟩ => ?_
    subst e2
    cases l with
    | true => exact key y ρ2 hq2 _ _ rfl rfl
    | false => exact key y ρ2 hq2 _ _ rfl rfl
  | false =>
    refine At.bnd (hb x ρ1 hq1) fun y b ρ2 ⟨e2, hq2⟩ => ?_
    subst e2
    cases l with
    | true => exact key y ρ2 hq2 _ _ rfl rfl
    | false => exact key y ρ2 hq2 _ _ rfl rfl
theorem p_par3 (k l q : Bool) {i j n : Nat} {ca cb cc : M RV} {ta : m α} {tb : m β} {tc : m γ} {ea : α → D} {eb : β → D} {ec : γ → D} {g g' g3 : SS} (ha : TE X Γ ca ta (fun b => kv k (ea b)) Γ1) (hb : TE X Γ1 cb tb (fun b => kv l (eb b)) Γ2) (hc : TE X Γ2 cc tc (fun b => kv q (ec b)) Γ3)
    (h1 : Γ3[i]? = some g) (a1 : Asg g) (h2 : Γ3[j]? = some g') (a2 : Asg g') (h3 : Γ3[n]? = some g3) (a3 : Asg g3) (ij : i ≠ j) (im : i ≠ n) (jm : j ≠ n) :
    TP X Γ (parS3 i j n ca cb cc) (ta >>= fun x => tb >>= fun y => tc >>= fun z => pure (x, y, z)) (fun p => ((Γ3.set i (ks k (ea p.1))).set j (ks l (eb p.2.1))).set n (ks q (ec p.2.2))) := TR.mk fun ρ hρ => by
  have sl : ∀ (k : Bool) (d : D), slotOf (kv k d) = some (sv k d) := fun k d => by cases k <;> rfl
  have so : ∀ (k : Bool) (d : D), SOk (ks k d) (sv k d) := fun k d => by cases k <;> rfl
  unfold parS3
  refine At.bnd (ha ρ hρ) fun x a ρ1 ⟨e1, hq1⟩ => ?_
  subst e1
  rw [sl]
  refine At.ap (c := cb >>= _) (ρ' := ρ1) ?_ (by rw [bnd_ap, lift_some, bnd_ok])
  refine At.bnd (hb ρ1 hq1) fun y b ρ2 ⟨e2, hq2⟩ => ?_
  subst e2
  rw [sl]
  refine At.ap (c := cc >>= _) (ρ' := ρ2) ?_ (by rw [bnd_ap, lift_some, bnd_ok])
  refine At.bnd (hc ρ2 hq2) fun z c ρ3 ⟨e3, hq3⟩ => ?_
  subst e3
  rw [sl]
  obtain ⟨ρ4, c1, c2⟩ := setM_ok hq3 h1 a1 (so k (ea x))
  have hj : (Γ3.set i (ks k (ea x)))[j]? = some g' := by rw [List.getElem?_set_ne ij]; exact h2
  obtain ⟨ρ5, c3, c4⟩ := setM_ok c2 hj a2 (so l (eb y))
  have hm : ((Γ3.set i (ks k (ea x))).set j (ks l (eb y)))[n]? = some g3 := by rw [List.getElem?_set_ne jm, List.getElem?_set_ne im]; exact h3
  obtain ⟨ρ6, c5, c6⟩ := setM_ok c4 hm a3 (so q (ec z))
  exact At.ok (by rw [bnd_ap, lift_some, bnd_ok, seqS_ap, c1, seq1_nx, seqS_ap, c3, seq1_nx, c5]) ⟨rfl, c6⟩
theorem p_drop {c : M RV} {t : m α} {f : α → RV} (h : TE X Γ c t f Γ1) : TP X Γ (dropS c) (t >>= fun _ => pure ()) (fun _ => Γ1) := TR.mk fun ρ hρ => by
  unfold dropS
  exact At.bnd (h ρ hρ) fun x a ρ1 ⟨e1, h1⟩ => At.pur ⟨rfl, h1⟩
theorem own_has {i : Nat} {d : D} {k : Bool} (e : EOk Γ ρ) (h : Γ[i]? = some (kb k d)) : ρ[i]? = some (sb k d) := by
  obtain ⟨s, h1, h2⟩ := e.get h
  cases k <;> (cases h2; exact h1)
/-- xs.append(v) -/
theorem p_app (k : Bool) {i : Nat} {c : M RV} {t : m α} {e : α → D} {ds : List D} {g : α → Option γ} {eg : γ → D} (h : TZ X Γ c t e Γ1)
    (h1 : Γ[i]? = some (kb k (.lst ds))) (h2 : Γ1[i]? = some (kb k (.lst ds))) (hg : ∀ x z, g x = some z → pushD (e x) (.lst ds) = some (eg z)) :
    TP X Γ (dropS (appM i c)) (t >>= fun x => lf (g x)) (fun z => Γ1.set i (kb k (eg z))) := TR.mk fun ρ hρ => by
  refine At.ap (c := fzM c >>= fun d => fun ρ => ((updSlot i (pushD d) >>= fun _ => (pure .nx : MS)) ρ)) (ρ' := ρ) ?_ (by
    show (((hasOwn i ρ).bnd _).bnd _) = (fzM c ρ).bnd _
    have := own_has (k := k) hρ h1
    unfold hasOwn ownD
    cases k <;> (rw [this]; show ((fzM c ρ).bnd _).bnd _ = _; cases fzM c ρ with
      | stuck => rfl
      | exc x ρ' => rfl
      | ok a ρ' => (show (((updSlot i (pushD a)) ρ').bnd _).bnd _ = ((updSlot i (pushD a)) ρ').bnd _; cases updSlot i (pushD a) ρ' <;> rfl)))
  refine At.bnd (h ρ hρ) fun x a ρ1 ⟨e1, hq1⟩ => ?_
  subst e1
  have h3 := own_has (k := k) hq1 h2
  intro Q E hs
  have hs := TM.sat_up hs
  cases hz : g x with
  | none => rw [hz] at hs; exact hs.elim
  | some z =>
    rw [hz] at hs
    have hd := hg x z hz
    show Out ((updSlot i (pushD (e x)) ρ1).bnd _) _ _
    unfold updSlot
    rw [h3]
    cases k with
    | true => simp only [hd]; exact ⟨z, ⟨rfl, hq1.set rfl⟩, hs⟩
    | false => simp only [hd]; exact ⟨z, ⟨rfl, hq1.set rfl⟩, hs⟩
/-- xs.extend(ys) -/
theorem p_ext (k : Bool) {i : Nat} {c : M RV} {t : m α} {o : α → Opd} {es : α → List D} {ds : List D} {g : α → Option γ} {eg : γ → D} (h : TO X Γ c t o Γ1)
    (h1 : Γ[i]? = some (kb k (.lst ds))) (h2 : Γ1[i]? = some (kb k (.lst ds))) (l : ∀ x, LookOk Γ1 (o x) (.lst (es x))) (hg : ∀ x z, g x = some z → extD (es x) (.lst ds) = some (eg z)) :
    TP X Γ (dropS (extM i c)) (t >>= fun x => lf (g x)) (fun z => Γ1.set i (kb k (eg z))) := TR.mk fun ρ hρ => by
  refine At.ap (c := opd c >>= fun o => look o >>= fun d => fun ρ => ((M.lift (lstOf d) >>= fun e => updSlot i (extD e) >>= fun _ => (pure .nx : MS)) ρ)) (ρ' := ρ) ?_ (by
    show (((hasOwn i ρ).bnd _).bnd _) = (opd c ρ).bnd _
    have := own_has (k := k) hρ h1
    unfold hasOwn ownD
    cases k <;> (rw [this]; show ((opd c ρ).bnd _).bnd _ = _; cases opd c ρ with
      | stuck => rfl
      | exc x ρ' => rfl
      | ok a ρ' => (show ((look a ρ').bnd _).bnd _ = (look a ρ').bnd _; cases look a ρ' with
        | stuck => rfl
        | exc x ρ' => rfl
        | ok d ρ' => (show ((M.lift (lstOf d) ρ').bnd _).bnd _ = (M.lift (lstOf d) ρ').bnd _; cases M.lift (lstOf d) ρ' with
          | stuck => rfl
          | exc x ρ' => rfl
          | ok e ρ' => (show (((updSlot i (extD e)) ρ').bnd _).bnd _ = ((updSlot i (extD e)) ρ').bnd _; cases updSlot i (extD e) ρ' <;> rfl)))))
  refine At.bnd (h ρ hρ) fun x a ρ1 ⟨e1, hq1⟩ => ?_
  subst e1
  refine At.look (l x) hq1 ?_
  have h3 := own_has (k := k) hq1 h2
  intro Q E hs
  have hs := TM.sat_up hs
  cases hz : g x with
  | none => rw [hz] at hs; exact hs.elim
  | some z =>
    rw [hz] at hs
    have hd := hg x z hz
    show Out ((updSlot i (extD (es x)) ρ1).bnd _) _ _
    unfold updSlot
    rw [h3]
    cases k with
    | true => simp only [hd]; exact ⟨z, ⟨rfl, hq1.set rfl⟩, hs⟩
    | false => simp only [hd]; exact ⟨z, ⟨rfl, hq1.set rfl⟩, hs⟩

variable {R : β → Fl → Env → Prop}
theorem t_seq {c d : MS} {t : m σ} {u : σ → m β} {Γa : σ → Ctx} (h : TP X Γ c t Γa) (k : ∀ s, TR X (Γa s) d (u s) R) : TR X Γ (seqS c d) (t >>= u) R := TR.mk fun ρ hρ => by
  refine At.ap (c := c >>= fun f => match f with | .nx => d | f => pure f) ?_ rfl
  refine At.bnd (h ρ hρ) fun s a ρ1 ⟨e1, h1⟩ => ?_
  subst e1
  exact k s ρ1 h1
theorem t_seqC {c d : MS} {t : m σ} {u : σ → m β} {Γa : σ → Ctx} (Γb : σ → Ctx) (h : TP X Γ c t Γa) (l : ∀ s, CLe (Γa s) (Γb s)) (k : ∀ s, TR X (Γb s) d (u s) R) : TR X Γ (seqS c d) (t >>= u) R := t_seq h fun s => (k s).weak (l s)
theorem t_nx {b : β} (h : ∀ ρ, EOk Γ ρ → R b .nx ρ) : TR (m := m) X Γ (pure .nx) (pure b) R := TR.mk fun ρ hρ => At.ok rfl (h ρ hρ)
theorem t_brk {b : β} (h : ∀ ρ, EOk Γ ρ → R b .brk ρ) : TR (m := m) X Γ (pure .brk) (pure b) R := TR.mk fun ρ hρ => At.ok rfl (h ρ hρ)
theorem t_cont {b : β} (h : ∀ ρ, EOk Γ ρ → R b .cont ρ) : TR (m := m) X Γ (pure .cont) (pure b) R := TR.mk fun ρ hρ => At.ok rfl (h ρ hρ)
theorem t_if {c : M Bool} {A B : MS} {t : m Bool} {u v : m β} (h : TB X Γ c t Γ1) (k : TR X Γ1 A u R) (l : TR X Γ1 B v R) : TR X Γ (ifS c A B) (t >>= fun b => if b = true then u else v) R := TR.mk fun ρ hρ => by
  unfold ifS
  refine At.bnd (h ρ hρ) fun x a ρ1 ⟨e1, h1⟩ => ?_
  subst e1
  cases a with
  | true => exact k ρ1 h1
  | false => exact l ρ1 h1
theorem t_seqif {c : M Bool} {A B N : MS} {t : m Bool} {u v : m β} (h : TB X Γ c t Γ1) (k : TR X Γ1 (seqS A N) u R) (l : TR X Γ1 (seqS B N) v R) : TR X Γ (seqS (ifS c A B) N) (t >>= fun b => if b = true then u else v) R := TR.mk fun ρ hρ => by
  refine (t_if h k l ρ hρ).ap ?_
  show (((c ρ).bnd _).bnd _) = (c ρ).bnd _
  cases c ρ with
  | stuck => rfl
  | exc x ρ' => rfl
  | ok a ρ' => cases a <;> rfl
theorem t_seqifC {c : M Bool} {A B N : MS} {t : m Bool} {u v : m β} (Γb : Ctx) (h : TB X Γ c t Γ1) (e : CLe Γ1 Γb) (k : TR X Γb (seqS A N) u R) (l : TR X Γb (seqS B N) v R) : TR X Γ (seqS (ifS c A B) N) (t >>= fun b => if b = true then u else v) R := t_seqif h (k.weak e) (l.weak e)
theorem t_ifC {c : M Bool} {A B : MS} {t : m Bool} {u v : m β} (Γb : Ctx) (h : TB X Γ c t Γ1) (e : CLe Γ1 Γb) (k : TR X Γb A u R) (l : TR X Γb B v R) : TR X Γ (ifS c A B) (t >>= fun b => if b = true then u else v) R := t_if h (k.weak e) (l.weak e)
theorem t_assoc {A B N : MS} {u : m β} (h : TR X Γ (seqS A (seqS B N)) u R) : TR X Γ (seqS (seqS A B) N) u R := TR.mk fun ρ hρ => by
  refine (h ρ hρ).ap ?_
  show (((A ρ).bnd _).bnd _) = (A ρ).bnd _
  cases A ρ with
  | stuck => rfl
  | exc x ρ' => rfl
  | ok a ρ' => cases a <;> rfl
theorem t_skip {N : MS} {u : m β} (h : TR X Γ N u R) : TR X Γ (seqS (pure .nx) N) u R := TR.mk fun ρ hρ => (h ρ hρ).ap rfl
theorem t_last {N : MS} {u : m β} (h : TR X Γ (seqS N (pure .nx)) u R) : TR X Γ N u R := TR.mk fun ρ hρ => by
  refine (h ρ hρ).ap ?_
  show _ = (N ρ).bnd _
  cases N ρ with
  | stuck => rfl
  | exc x ρ' => rfl
  | ok a ρ' => cases a <;> rfl
abbrev NN (R : β → Fl → Env → Prop) : β → Fl → Env → Prop := fun b f ρ => R b f ρ ∧ f ≠ .nx
theorem t_end {A N : MS} {u : m β} (h : TR X Γ A u (NN R)) : TR X Γ (seqS A N) u R := TR.mk fun ρ hρ Q E hs => by
  have := h ρ hρ Q E hs
  show Out ((A ρ).bnd _) _ _
  cases q : A ρ with
  | stuck => rw [q] at this; exact this
  | exc x ρ' => rw [q] at this; exact this
  | ok f ρ' =>
    rw [q] at this
    obtain ⟨b, ⟨h1, h2⟩, h3⟩ := this
    cases f with
    | nx => exact (h2 rfl).elim
    | brk => exact ⟨b, h1, h3⟩
    | cont => exact ⟨b, h1, h3⟩
    | ret rv => exact ⟨b, h1, h3⟩
theorem t_stuck {o : m β} (h : ∀ Q E, ¬ TM.sat o Q E) : TR X Γ M.stuck o R := TR.mk fun ρ hρ Q E hs => (h Q E hs).elim
theorem not_none : ∀ (Q : β → Prop) (E : Exc → Prop), ¬ TM.sat (lf none : m β) Q E := fun Q E h => TM.sat_up h
theorem t_ret (k : Bool) {c : M RV} {t : m α} {e : α → D} (emb : α → β) (h : TE X Γ c t (fun b => kv k (e b)) Γ1) (r : ∀ b ρ, EOk Γ1 ρ → R (emb b) (.ret (kv k (e b))) ρ) : TR X Γ (retS c) (t >>= fun b => pure (emb b)) R := TR.mk fun ρ hρ => by
  unfold retS
  refine At.bnd (h ρ hρ) fun x a ρ1 ⟨e1, h1⟩ => ?_
  subst e1
  cases k with
  | true => exact At.ok rfl (r x ρ1 h1)
  | false => exact At.ok rfl (r x ρ1 h1)
theorem t_ret1 (k : Bool) {c : M RV} {t : m β} {e : β → D} (h : TE X Γ c t (fun b => kv k (e b)) Γ1) (r : ∀ b ρ, EOk Γ1 ρ → R b (.ret (kv k (e b))) ρ) : TR X Γ (retS c) t R := TR.mk fun ρ hρ Q E hs => by
  have := h ρ hρ Q E hs
  unfold retS
  show Out ((c ρ).bnd _) _ _
  cases q : c ρ with
  | stuck => rw [q] at this; exact this
  | exc x ρ' => rw [q] at this; exact this
  | ok f ρ' =>
    rw [q] at this
    obtain ⟨b, ⟨rfl, h2⟩, h3⟩ := this
    cases k with
    | true => exact ⟨b, r b ρ' h2, h3⟩
    | false => exact ⟨b, r b ρ' h2, h3⟩
theorem t_retB {i : Nat} {c : M RV} {t : m α} {e : γ → D} {v : γ} (emb : γ → β) (h : TE X Γ c t (fun _ => .bor i) Γ1) (l : Γ1[i]? = some (.own (e v))) (r : ∀ (b : γ) ρ, EOk (Γ1.set i .any) ρ → R (emb v) (.ret (.own (e v))) ρ) : TR X Γ (retS c) (t >>= fun _ => pure (emb v)) R := TR.mk fun ρ hρ => by
  unfold retS
  refine At.bnd (h ρ hρ) fun x a ρ1 ⟨e1, h1⟩ => ?_
  subst e1
  obtain ⟨s, h2, rfl⟩ := h1.get l
  exact At.ok (ρ' := ρ1.set i .un) (by simp only [h2]) (r v _ (h1.set trivial))
theorem t_retF {i : Nat} {c : M RV} {t : m α} {e : γ → D} {v : γ} (emb : γ → β) (h : TE X Γ c t (fun _ => .bor i) Γ1) (l : Γ1[i]? = some (.bow (e v))) (r : ∀ (b : γ) ρ, EOk (Γ1.set i (.bfz (e v))) ρ → R (emb v) (.ret (.val (e v))) ρ) : TR X Γ (retS c) (t >>= fun _ => pure (emb v)) R := TR.mk fun ρ hρ => by
  unfold retS
  refine At.bnd (h ρ hρ) fun x a ρ1 ⟨e1, h1⟩ => ?_
  subst e1
  obtain ⟨s, h2, rfl⟩ := h1.get l
  exact At.ok (ρ' := ρ1.set i (.bfz (e v))) (by simp only [h2]) (r v _ (h1.set rfl))
theorem t_retN {b : β} (r : ∀ ρ, EOk Γ ρ → R b (.ret (.val .non)) ρ) : TR (m := m) X Γ (pure (.ret (.val .non))) (pure b) R := TR.mk fun ρ hρ => At.ok rfl (r ρ hρ)

/-! ### loops -/
inductive FL (σ τ : Type) where
  | nx (s : σ) | brk (s : σ) | ret (v : τ)
def foldT (f : σ → β → m σ) : σ → List β → m σ
  | s, [] => pure s
  | s, x :: xs => f s x >>= fun s => foldT f s xs
def loopT (f : σ → β → m (FL σ τ)) : σ → List β → m (Sum σ τ)
  | s, [] => pure (.inl s)
  | s, x :: xs => f s x >>= fun r => match r with
    | .nx s => loopT f s xs
    | .brk s => pure (.inl s)
    | .ret v => pure (.inr v)
def whileP (p : σ → m Bool) (f : σ → m σ) : Nat → σ → m σ
  | 0, _ => lf none
  | n + 1, s => p s >>= fun b => if b = true then f s >>= fun s => whileP p f n s else pure s
def whileT (p : σ → m Bool) (f : σ → m (FL σ τ)) : Nat → σ → m (Sum σ τ)
  | 0, _ => lf none
  | n + 1, s => p s >>= fun b => if b = true then f s >>= fun r => match r with
    | .nx s => whileT p f n s
    | .brk s => pure (.inl s)
    | .ret v => pure (.inr v)
    else pure (.inl s)
def RB (Γs : σ → Ctx) (rv : τ → RV) (Γr : τ → Ctx) : FL σ τ → Fl → Env → Prop
  | .nx s, f, ρ => (f = .nx ∨ f = .cont) ∧ EOk (Γs s) ρ
  | .brk s, f, ρ => f = .brk ∧ EOk (Γs s) ρ
  | .ret v, f, ρ => f = .ret (rv v) ∧ EOk (Γr v) ρ
def RL (Γs : σ → Ctx) (rv : τ → RV) (Γr : τ → Ctx) : Sum σ τ → Fl → Env → Prop
  | .inl s, f, ρ => f = .nx ∧ EOk (Γs s) ρ
  | .inr v, f, ρ => f = .ret (rv v) ∧ EOk (Γr v) ρ
theorem loop_p {g : D → MS} {body : MS} {e : α → D} {tb : σ → α → m σ} {Γs : σ → Ctx} {Γg : σ → α → Ctx} (hg : ∀ s x, SG (Γs s) (g (e x)) (Γg s x)) (hb : ∀ s x, TP X (Γg s x) body (tb s x) Γs) :
    ∀ (xs : List α) (s : σ) (ρ : Env), EOk (Γs s) ρ → At X ρ (loopS g body (xs.map e)) (foldT tb s xs) fun s f ρ' => f = .nx ∧ EOk (Γs s) ρ'
  | [], s, ρ, h => At.ok rfl ⟨rfl, h⟩
  | x :: xs, s, ρ, h => by
    obtain ⟨ρ1, h1, h2⟩ := hg s x ρ h
    refine At.ap (c := body >>= fun f => match f with
      | .nx => loopS g body (xs.map e)
      | .cont => loopS g body (xs.map e)
      | .brk => pure .nx
      | .ret rv => pure (.ret rv)) (ρ' := ρ1) ?_ (by rw [List.map_cons, loopS_cons, seqS_ap, h1, seq1_nx]; rfl)
    refine At.bnd (hb s x ρ1 h2) fun s' a ρ2 ⟨e1, h3⟩ => ?_
    subst e1
    exact loop_p hg hb xs s' ρ2 h3
theorem loop_l {g : D → MS} {body : MS} {e : α → D} {tb : σ → α → m (FL σ τ)} {Γs : σ → Ctx} {Γg : σ → α → Ctx} {rv : τ → RV} {Γr : τ → Ctx} (hg : ∀ s x, SG (Γs s) (g (e x)) (Γg s x)) (hb : ∀ s x, TR X (Γg s x) body (tb s x) (RB Γs rv Γr)) :
    ∀ (xs : List α) (s : σ) (ρ : Env), EOk (Γs s) ρ → At X ρ (loopS g body (xs.map e)) (loopT tb s xs) (RL Γs rv Γr)
  | [], s, ρ, h => At.ok rfl ⟨rfl, h⟩
  | x :: xs, s, ρ, h => by
    obtain ⟨ρ1, h1, h2⟩ := hg s x ρ h
    refine At.ap (c := body >>= fun f => match f with
      | .nx => loopS g body (xs.map e)
      | .cont => loopS g body (xs.map e)
      | .brk => pure .nx
      | .ret rv => pure (.ret rv)) (ρ' := ρ1) ?_ (by rw [List.map_cons, loopS_cons, seqS_ap, h1, seq1_nx]; rfl)
    refine At.bnd (hb s x ρ1 h2) fun r a ρ2 hr => ?_
    cases r with
    | nx s' =>
      obtain ⟨e1, h3⟩ := hr
      rcases e1 with rfl | rfl <;> exact loop_l hg hb xs s' ρ2 h3
    | brk s' =>
      obtain ⟨rfl, h3⟩ := hr
      exact At.ok rfl ⟨rfl, h3⟩
    | ret v =>
      obtain ⟨rfl, h3⟩ := hr
      exact At.ok rfl ⟨rfl, h3⟩
theorem p_for {src : M (List D)} {g : D → MS} {body : MS} {ts : m (List α)} {e : α → D} {tb : σ → α → m σ} {s0 : σ} {Γs : σ → Ctx} {Γg : σ → α → Ctx} (hs : TI X Γ src ts e Γ1) (h0 : CLe Γ1 (Γs s0)) (hg : ∀ s x, SG (Γs s) (g (e x)) (Γg s x)) (hb : ∀ s x, TP X (Γg s x) body (tb s x) Γs) :
    TP X Γ (forS src g body) (ts >>= fun xs => foldT tb s0 xs) Γs := TR.mk fun ρ hρ => by
  unfold forS
  refine At.bnd (hs ρ hρ) fun xs ds ρ1 ⟨e1, h1⟩ => ?_
  subst e1
  exact loop_p hg hb xs s0 ρ1 (h0 _ h1)
theorem t_for {src : M (List D)} {g : D → MS} {body : MS} {ts : m (List α)} {e : α → D} {tb : σ → α → m (FL σ τ)} {s0 : σ} {Γs : σ → Ctx} {Γg : σ → α → Ctx} {rv : τ → RV} {Γr : τ → Ctx} (hs : TI X Γ src ts e Γ1) (h0 : CLe Γ1 (Γs s0)) (hg : ∀ s x, SG (Γs s) (g (e x)) (Γg s x)) (hb : ∀ s x, TR X (Γg s x) body (tb s x) (RB Γs rv Γr)) :
    TR X Γ (forS src g body) (ts >>= fun xs => loopT tb s0 xs) (RL Γs rv Γr) := TR.mk fun ρ hρ => by
  unfold forS
  refine At.bnd (hs ρ hρ) fun xs ds ρ1 ⟨e1, h1⟩ => ?_
  subst e1
  exact loop_l hg hb xs s0 ρ1 (h0 _ h1)
theorem while_p {c : M Bool} {body : MS} {p : σ → m Bool} {tb : σ → m σ} {Γs : σ → Ctx} (hc : ∀ s, TB X (Γs s) c (p s) (Γs s)) (hb : ∀ s, TP X (Γs s) body (tb s) Γs) :
    ∀ (n : Nat) (s : σ) (ρ : Env), EOk (Γs s) ρ → At X ρ (whileL c body n) (whileP p tb n s) fun s f ρ' => f = .nx ∧ EOk (Γs s) ρ'
  | 0, s, ρ, h => fun Q E hs => (TM.sat_up hs).elim
  | n + 1, s, ρ, h => by
    refine At.bnd (hc s ρ h) fun b a ρ1 ⟨e1, h1⟩ => ?_
    subst e1
    cases a with
    | true =>
      show At X ρ1 (stepS body (whileL c body n)) (tb s >>= fun s => whileP p tb n s) _
      refine At.bnd (hb s ρ1 h1) fun s' a ρ2 ⟨e1, h3⟩ => ?_
      subst e1
      exact while_p hc hb n s' ρ2 h3
    | false => exact At.ok rfl ⟨rfl, h1⟩
theorem while_l {c : M Bool} {body : MS} {p : σ → m Bool} {tb : σ → m (FL σ τ)} {Γs : σ → Ctx} {rv : τ → RV} {Γr : τ → Ctx} (hc : ∀ s, TB X (Γs s) c (p s) (Γs s)) (hb : ∀ s, TR X (Γs s) body (tb s) (RB Γs rv Γr)) :
    ∀ (n : Nat) (s : σ) (ρ : Env), EOk (Γs s) ρ → At X ρ (whileL c body n) (whileT p tb n s) (RL Γs rv Γr)
  | 0, s, ρ, h => fun Q E hs => (TM.sat_up hs).elim
  | n + 1, s, ρ, h => by
    refine At.bnd (hc s ρ h) fun b a ρ1 ⟨e1, h1⟩ => ?_
    subst e1
    cases a with
    | true =>
      show At X ρ1 (stepS body (whileL c body n)) (tb s >>= fun r => match r with
        | .nx s => whileT p tb n s
        | .brk s => pure (.inl s)
        | .ret v => pure (.inr v)) _
      refine At.bnd (hb s ρ1 h1) fun r a ρ2 hr => ?_
      cases r with
      | nx s' =>
        obtain ⟨e1, h3⟩ := hr
        rcases e1 with rfl | rfl <;> exact while_l hc hb n s' ρ2 h3
      | brk s' =>
        obtain ⟨rfl, h3⟩ := hr
        exact At.ok rfl ⟨rfl, h3⟩
      | ret v =>
        obtain ⟨rfl, h3⟩ := hr
        exact At.ok rfl ⟨rfl, h3⟩
    | false => exact At.ok rfl ⟨rfl, h1⟩
theorem p_while {c : M Bool} {body : MS} {p : σ → m Bool} {tb : σ → m σ} {s0 : σ} {Γs : σ → Ctx} (h0 : CLe Γ (Γs s0)) (hc : ∀ s, TB X (Γs s) c (p s) (Γs s)) (hb : ∀ s, TP X (Γs s) body (tb s) Γs) : TP X Γ (whileS c body) (whileP p tb FUEL s0) Γs := TR.mk fun ρ hρ => while_p hc hb FUEL s0 ρ (h0 _ hρ)
theorem t_while {c : M Bool} {body : MS} {p : σ → m Bool} {tb : σ → m (FL σ τ)} {s0 : σ} {Γs : σ → Ctx} {rv : τ → RV} {Γr : τ → Ctx} (h0 : CLe Γ (Γs s0)) (hc : ∀ s, TB X (Γs s) c (p s) (Γs s)) (hb : ∀ s, TR X (Γs s) body (tb s) (RB Γs rv Γr)) : TR X Γ (whileS c body) (whileT p tb FUEL s0) (RL Γs rv Γr) := TR.mk fun ρ hρ => while_l hc hb FUEL s0 ρ (h0 _ hρ)
def sumK (f : σ → m β) (g : τ → m β) : Sum σ τ → m β
  | .inl s => f s
  | .inr v => g v
/-- a part that may return, then the rest -/
theorem t_seqL {L N : MS} {tl : m (Sum σ τ)} {tn : σ → m β} {Γs : σ → Ctx} {rv : τ → RV} {Γr : τ → Ctx} {emb : τ → β} (h : TR X Γ L tl (RL Γs rv Γr)) (k : ∀ s, TR X (Γs s) N (tn s) R) (r : ∀ v ρ, EOk (Γr v) ρ → R (emb v) (.ret (rv v)) ρ) :
    TR X Γ (seqS L N) (tl >>= sumK tn (fun v => pure (emb v))) R := TR.mk fun ρ hρ => by
  refine At.ap (c := L >>= fun f => match f with | .nx => N | f => pure f) ?_ rfl
  refine At.bnd (h ρ hρ) fun s a ρ1 hr => ?_
  cases s with
  | inl s => obtain ⟨rfl, h1⟩ := hr; exact k s ρ1 h1
  | inr v => obtain ⟨rfl, h1⟩ := hr; exact At.ok rfl (r v ρ1 h1)

/-! ### calls -/
theorem nd1 {i : Nat} : [i].Nodup := by simp
inductive MkOk (Γ : Ctx) : List Opd → Ctx → Prop
  | nil : MkOk Γ [] []
  | val {d : D} {os : List Opd} {Γa : Ctx} (t : MkOk Γ os Γa) : MkOk Γ (.val d :: os) (.val d :: Γa)
  | own {j : Nat} {d : D} {os : List Opd} {Γa : Ctx} (h : Γ[j]? = some (.own d)) (t : MkOk Γ os Γa) : MkOk Γ (.bor j :: os) (.bow d :: Γa)
  | bow {j : Nat} {d : D} {os : List Opd} {Γa : Ctx} (h : Γ[j]? = some (.bow d)) (t : MkOk Γ os Γa) : MkOk Γ (.bor j :: os) (.bow d :: Γa)
  | exO {j : Nat} {P : D → Prop} {os : List Opd} {Γa : Ctx} (h : Γ[j]? = some (.exO P)) (t : MkOk Γ os Γa) : MkOk Γ (.bor j :: os) (.exB P :: Γa)
  | exB {j : Nat} {P : D → Prop} {os : List Opd} {Γa : Ctx} (h : Γ[j]? = some (.exB P)) (t : MkOk Γ os Γa) : MkOk Γ (.bor j :: os) (.exB P :: Γa)
theorem MkOk.mk : ∀ {os : List Opd} {Γa : Ctx}, MkOk Γ os Γa → EOk Γ ρ → ∃ as, mkArgs ρ os = some as ∧ EOk Γa as
  | _, _, .nil, e => ⟨[], rfl, trivial⟩
  | _, _, .val t, e => by
    obtain ⟨as, h1, h2⟩ := t.mk e
    exact ⟨.val _ :: as, by rw [mkArgs_val, h1]; rfl, rfl, h2⟩
  | _, _, .own h t, e => by
    obtain ⟨as, h1, h2⟩ := t.mk e
    obtain ⟨s, h3, rfl⟩ := e.get h
    exact ⟨.bow _ :: as, by rw [mkArgs_bor, h1]; unfold ownD; rw [h3]; rfl, rfl, h2⟩
  | _, _, .bow h t, e => by
    obtain ⟨as, h1, h2⟩ := t.mk e
    obtain ⟨s, h3, rfl⟩ := e.get h
    exact ⟨.bow _ :: as, by rw [mkArgs_bor, h1]; unfold ownD; rw [h3]; rfl, rfl, h2⟩
  | _, _, .exO h t, e => by
    obtain ⟨as, h1, h2⟩ := t.mk e
    obtain ⟨s, h3, d, rfl, hp⟩ := e.get h
    exact ⟨.bow _ :: as, by rw [mkArgs_bor, h1]; unfold ownD; rw [h3]; rfl, ⟨d, rfl, hp⟩, h2⟩
  | _, _, .exB h t, e => by
    obtain ⟨as, h1, h2⟩ := t.mk e
    obtain ⟨s, h3, d, rfl, hp⟩ := e.get h
    exact ⟨.bow _ :: as, by rw [mkArgs_bor, h1]; unfold ownD; rw [h3]; rfl, ⟨d, rfl, hp⟩, h2⟩
inductive BackOk : Ctx → List Opd → Ctx → Ctx → Prop
  | nil {Γ : Ctx} : BackOk Γ [] [] Γ
  | val {Γ Γ' Γa : Ctx} {d : D} {os : List Opd} {g : SS} (t : BackOk Γ os Γa Γ') : BackOk Γ (.val d :: os) (g :: Γa) Γ'
  | ownS {Γ Γ' Γa : Ctx} {j : Nat} {d : D} {os : List Opd} (h : Γ[j]? = some (.own d)) (t : BackOk Γ os Γa Γ') : BackOk Γ (.bor j :: os) (.bow d :: Γa) Γ'
  | bowS {Γ Γ' Γa : Ctx} {j : Nat} {d : D} {os : List Opd} (h : Γ[j]? = some (.bow d)) (t : BackOk Γ os Γa Γ') : BackOk Γ (.bor j :: os) (.bow d :: Γa) Γ'
  | ownB {Γ Γ' Γa : Ctx} {j : Nat} {d d0 : D} {os : List Opd} (h : Γ[j]? = some (.own d0)) (t : BackOk (Γ.set j (.own d)) os Γa Γ') : BackOk Γ (.bor j :: os) (.bow d :: Γa) Γ'
  | ownF {Γ Γ' Γa : Ctx} {j : Nat} {d d0 : D} {os : List Opd} (h : Γ[j]? = some (.own d0)) (t : BackOk (Γ.set j (.val d)) os Γa Γ') : BackOk Γ (.bor j :: os) (.bfz d :: Γa) Γ'
  | bowB {Γ Γ' Γa : Ctx} {j : Nat} {d d0 : D} {os : List Opd} (h : Γ[j]? = some (.bow d0)) (t : BackOk (Γ.set j (.bow d)) os Γa Γ') : BackOk Γ (.bor j :: os) (.bow d :: Γa) Γ'
  | bowF {Γ Γ' Γa : Ctx} {j : Nat} {d d0 : D} {os : List Opd} (h : Γ[j]? = some (.bow d0)) (t : BackOk (Γ.set j (.bfz d)) os Γa Γ') : BackOk Γ (.bor j :: os) (.bfz d :: Γa) Γ'
  | ownV {Γ Γ' Γa : Ctx} {j : Nat} {d d0 : D} {os : List Opd} (h : Γ[j]? = some (.own d0)) (t : BackOk (Γ.set j (.ov d)) os Γa Γ') : BackOk Γ (.bor j :: os) (.bv d :: Γa) Γ'
  | bowV {Γ Γ' Γa : Ctx} {j : Nat} {d d0 : D} {os : List Opd} (h : Γ[j]? = some (.bow d0)) (t : BackOk (Γ.set j (.bv d)) os Γa Γ') : BackOk Γ (.bor j :: os) (.bv d :: Γa) Γ'
  | freeX {Γ Γ' Γa : Ctx} {j : Nat} {g : SS} {os : List Opd} (h : Γ[j]? = some g) (t : BackOk (Γ.set j .free) os Γa Γ') : BackOk Γ (.bor j :: os) (.free :: Γa) Γ'
  | exO {Γ Γ' Γa : Ctx} {j : Nat} {P : D → Prop} {os : List Opd} (h : Γ[j]? = some (.exO P)) (t : BackOk Γ os Γa Γ') : BackOk Γ (.bor j :: os) (.exB P :: Γa) Γ'
  | exB {Γ Γ' Γa : Ctx} {j : Nat} {P : D → Prop} {os : List Opd} (h : Γ[j]? = some (.exB P)) (t : BackOk Γ os Γa Γ') : BackOk Γ (.bor j :: os) (.exB P :: Γa) Γ'
theorem eok_same {j : Nat} {g : SS} {s : Slot} (e : EOk Γ ρ) (h : Γ[j]? = some g) (k : SOk g s) : EOk Γ (ρ.set j s) := by
  have := e.set (i := j) k
  have hs : Γ.set j g = Γ := by
    apply List.ext_getElem?
    intro i
    by_cases q : j = i
    · subst q; rw [List.getElem?_set_self', h]; rfl
    · rw [List.getElem?_set_ne q]
  rwa [hs] at this
theorem BackOk.back : ∀ {os : List Opd} {Γ Γa Γ' : Ctx} {ρ as : Env}, BackOk Γ os Γa Γ' → EOk Γ ρ → EOk Γa as → EOk Γ' (backArgs ρ os as)
  | _, _, _, _, ρ, as, .nil, e, _ => by rw [back_nil]; exact e
  | _, _, _, _, ρ, [], .val t, e, ha => ha.elim
  | _, _, _, _, ρ, s :: as, .val t, e, ha => by rw [back_val]; exact t.back e ha.2
  | _, _, _, _, ρ, [], .ownS h t, e, ha => ha.elim
  | _, _, _, _, ρ, s :: as, .ownS h t, e, ha => by
    obtain ⟨s0, h1, rfl⟩ := e.get h
    obtain ⟨rfl, ha⟩ := ha
    rw [back_bor, h1]; exact t.back (eok_same e h rfl) ha
  | _, _, _, _, ρ, [], .bowS h t, e, ha => ha.elim
  | _, _, _, _, ρ, s :: as, .bowS h t, e, ha => by
    obtain ⟨s0, h1, rfl⟩ := e.get h
    obtain ⟨rfl, ha⟩ := ha
    rw [back_bor, h1]; exact t.back (eok_same e h rfl) ha
  | _, _, _, _, ρ, [], .ownB h t, e, ha => ha.elim
  | _, _, _, _, ρ, s :: as, .ownB h t, e, ha => by
    obtain ⟨s0, h1, rfl⟩ := e.get h
    obtain ⟨rfl, ha⟩ := ha
    rw [back_bor, h1]; exact t.back (e.set rfl) ha
  | _, _, _, _, ρ, [], .ownF h t, e, ha => ha.elim
  | _, _, _, _, ρ, s :: as, .ownF h t, e, ha => by
    obtain ⟨s0, h1, rfl⟩ := e.get h
    obtain ⟨rfl, ha⟩ := ha
    rw [back_bor, h1]; exact t.back (e.set rfl) ha
  | _, _, _, _, ρ, [], .bowB h t, e, ha => ha.elim
  | _, _, _, _, ρ, s :: as, .bowB h t, e, ha => by
    obtain ⟨s0, h1, rfl⟩ := e.get h
    obtain ⟨rfl, ha⟩ := ha
    rw [back_bor, h1]; exact t.back (e.set rfl) ha
  | _, _, _, _, ρ, [], .bowF h t, e, ha => ha.elim
  | _, _, _, _, ρ, s :: as, .bowF h t, e, ha => by
    obtain ⟨s0, h1, rfl⟩ := e.get h
    obtain ⟨rfl, ha⟩ := ha
    rw [back_bor, h1]; exact t.back (e.set rfl) ha
  | _, _, _, _, ρ, [], .ownV h t, e, ha => ha.elim
  | _, _, _, _, ρ, s :: as, .ownV h t, e, ha => by
    obtain ⟨s0, h1, rfl⟩ := e.get h
    obtain ⟨hs, ha⟩ := ha
    rw [back_bor, h1]
    rcases hs with rfl | rfl
    · exact t.back (e.set (.inl rfl)) ha
    · exact t.back (e.set (.inr rfl)) ha
  | _, _, _, _, ρ, [], .bowV h t, e, ha => ha.elim
  | _, _, _, _, ρ, s :: as, .bowV h t, e, ha => by
    obtain ⟨s0, h1, rfl⟩ := e.get h
    obtain ⟨hs, ha⟩ := ha
    rw [back_bor, h1]
    rcases hs with rfl | rfl
    · exact t.back (e.set (.inl rfl)) ha
    · exact t.back (e.set (.inr rfl)) ha
  | _, _, _, _, ρ, [], .freeX h t, e, ha => ha.elim
  | _, _, _, _, ρ, s :: as, .freeX h t, e, ha => by
    obtain ⟨s0, h1, _⟩ := e.get h
    rw [back_bor, h1]; exact t.back (e.set trivial) ha.2
  | _, _, _, _, ρ, [], .exO h t, e, ha => ha.elim
  | _, _, _, _, ρ, s :: as, .exO h t, e, ha => by
    obtain ⟨s0, h1, d, rfl, hp⟩ := e.get h
    obtain ⟨⟨d', rfl, hp'⟩, ha⟩ := ha
    rw [back_bor, h1]; exact t.back (eok_same e h ⟨d', rfl, hp'⟩) ha
  | _, _, _, _, ρ, [], .exB h t, e, ha => ha.elim
  | _, _, _, _, ρ, s :: as, .exB h t, e, ha => by
    obtain ⟨s0, h1, d, rfl, hp⟩ := e.get h
    obtain ⟨⟨d', rfl, hp'⟩, ha⟩ := ha
    rw [back_bor, h1]; exact t.back (eok_same e h ⟨d', rfl, hp'⟩) ha
/-- a def's call: what it does where its arguments are so -/
abbrev TF (Xa Γa : Ctx) (f : M RV) (t : m β) (rv : β → RV) (Γa' : β → Ctx) : Prop := TR Xa Γa f t fun b a ρ' => a = rv b ∧ EOk (Γa' b) ρ'
theorem e_callG {cf : CF} {n : Nat} {ms : List (M RV)} {ta : m α} {os : α → List Opd} {Γa Xa ΓX : Ctx} {tc : α → m β} {k : Bool} {e : β → D} {Γa' : α → β → Ctx} {Γb : β → Ctx} {Γm : α → Ctx}
    (ha : TAs X Γ ms ta os Γ1) (hm : ∀ x, MkOk Γ1 (os x) (Γm x)) (nd : ∀ x, (bors (os x)).Nodup) (hf : ∀ x, TF Xa (Γm x) (cf n) (tc x) (fun b => kv k (e b)) (Γa' x)) (hb : ∀ x b, BackOk Γ1 (os x) (Γa' x b) (Γb b)) (hx : ∀ x, BackOk Γ1 (os x) Xa ΓX) (lx : CLe ΓX X) :
    TR X Γ (callM cf n ms) (ta >>= tc) (fun b a ρ' => a = kv k (e b) ∧ EOk (Γb b) ρ') := TR.mk fun ρ hρ => by
  unfold callM
  refine At.bnd (ha ρ hρ) fun x a ρ1 ⟨e1, h1⟩ => ?_
  subst e1
  obtain ⟨as, h2, h3⟩ := (hm x).mk h1
  intro Q E hs
  have := hf x as h3 Q E hs
  rw [enterM_ap, h2, enter1_some]
  rw [show decide (bors (os x)).Nodup = true from decide_eq_true (nd x)]
  cases q : cf n as with
  | stuck => rw [q] at this; exact this
  | exc y as' =>
    rw [q] at this
    exact ⟨this.1, lx _ ((hx x).back h1 this.2)⟩
  | ok a as' =>
    rw [q] at this
    obtain ⟨b, ⟨rfl, h4⟩, h5⟩ := this
    cases k with
    | true => exact ⟨b, ⟨rfl, (hb x b).back h1 h4⟩, h5⟩
    | false => exact ⟨b, ⟨rfl, (hb x b).back h1 h4⟩, h5⟩
/-- a call in an expression: what it leaves does not hang on what it tells -/
theorem e_call (k : Bool) {cf : CF} {n : Nat} {ms : List (M RV)} {ta : m α} {os : α → List Opd} {Xa ΓX : Ctx} {tc : α → m β} {e : β → D} {Γa' : α → Ctx} {Γm : α → Ctx}
    (ha : TAs X Γ ms ta os Γ1) (hf : ∀ x, TF Xa (Γm x) (cf n) (tc x) (fun b => kv k (e b)) (fun _ => Γa' x)) (hm : ∀ x, MkOk Γ1 (os x) (Γm x)) (nd : ∀ x, (bors (os x)).Nodup) (hb : ∀ x, BackOk Γ1 (os x) (Γa' x) Γ2) (hx : ∀ x, BackOk Γ1 (os x) Xa ΓX) (lx : CLe ΓX X) :
    TE X Γ (callM cf n ms) (ta >>= tc) (fun b => kv k (e b)) Γ2 := e_callG (Γa := []) (Γb := fun _ => Γ2) (k := k) ha hm nd hf (fun x b => hb x) hx lx
/-- a pure def's call, from any program -/
theorem TF.up {Xa Γa : Ctx} {f : M RV} {t : O β} {rv : β → RV} {Γa' : β → Ctx} (h : TF Xa Γa f t rv Γa') : TF Xa Γa f (TM.up t : m β) rv Γa' := TR.mk fun ρ e => (h ρ e).up
/-! ### defs -/
inductive FinOk : Ctx → Ctx → Ctx → Prop
  | nil {Γr : Ctx} : FinOk [] Γr []
  | val {d : D} {g : SS} {Γa Γr Γa' : Ctx} (t : FinOk Γa Γr Γa') : FinOk (.val d :: Γa) (g :: Γr) (.val d :: Γa')
  | valF {d : D} {g : SS} {Γa Γr Γa' : Ctx} (t : FinOk Γa Γr Γa') : FinOk (.val d :: Γa) (g :: Γr) (.free :: Γa')
  | bow {d : D} {g : SS} {Γa Γr Γa' : Ctx} (t : FinOk Γa Γr Γa') : FinOk (.bow d :: Γa) (g :: Γr) (g :: Γa')
  | exB {P : D → Prop} {g : SS} {Γa Γr Γa' : Ctx} (t : FinOk Γa Γr Γa') : FinOk (.exB P :: Γa) (g :: Γr) (g :: Γa')
theorem FinOk.fin : ∀ {Γa Γr Γa' : Ctx} {as ρ : Env}, FinOk Γa Γr Γa' → EOk Γa as → EOk Γr ρ → EOk Γa' (fin as ρ)
  | _, _, _, [], ρ, .nil, _, _ => by rw [fin_nil]; trivial
  | _, _, _, _ :: _, ρ, .nil, h, _ => h.elim
  | _, _, _, [], ρ, .val t, h, _ => h.elim
  | _, _, _, _ :: _, [], .val t, _, h => h.elim
  | _, _, _, a :: as, s :: ρ, .val t, h, k => by obtain ⟨rfl, h⟩ := h; rw [fin_val]; exact ⟨rfl, t.fin h k.2⟩
  | _, _, _, [], ρ, .valF t, h, _ => h.elim
  | _, _, _, _ :: _, [], .valF t, _, h => h.elim
  | _, _, _, a :: as, s :: ρ, .valF t, h, k => by obtain ⟨rfl, h⟩ := h; rw [fin_val]; exact ⟨trivial, t.fin h k.2⟩
  | _, _, _, [], ρ, .bow t, h, _ => h.elim
  | _, _, _, _ :: _, [], .bow t, _, h => h.elim
  | _, _, _, a :: as, s :: ρ, .bow t, h, k => by obtain ⟨rfl, h⟩ := h; rw [fin_bow]; exact ⟨k.1, t.fin h k.2⟩
  | _, _, _, [], ρ, .exB t, h, _ => h.elim
  | _, _, _, _ :: _, [], .exB t, _, h => h.elim
  | _, _, _, a :: as, s :: ρ, .exB t, h, k => by obtain ⟨⟨d, rfl, _⟩, h⟩ := h; rw [fin_bow]; exact ⟨k.1, t.fin h k.2⟩
theorem FinOk.args : ∀ {Γa Γr Γa' : Ctx} {as : Env}, FinOk Γa Γr Γa' → EOk Γa as → argsOk as = true
  | _, _, _, [], .nil, _ => rfl
  | _, _, _, _ :: _, .nil, h => h.elim
  | _, _, _, [], .val t, h => h.elim
  | _, _, _, a :: as, .val t, h => by obtain ⟨rfl, h⟩ := h; (show argsOk as = true; exact FinOk.args t h)
  | _, _, _, [], .valF t, h => h.elim
  | _, _, _, a :: as, .valF t, h => by obtain ⟨rfl, h⟩ := h; (show argsOk as = true; exact FinOk.args t h)
  | _, _, _, [], .bow t, h => h.elim
  | _, _, _, a :: as, .bow t, h => by obtain ⟨rfl, h⟩ := h; (show argsOk as = true; exact FinOk.args t h)
  | _, _, _, [], .exB t, h => h.elim
  | _, _, _, a :: as, .exB t, h => by obtain ⟨⟨d, rfl, _⟩, h⟩ := h; (show argsOk as = true; exact FinOk.args t h)
/-- a def's end: what it returns, or that it falls through -/
def RF (rv : β → RV) (Γr : β → Ctx) (b : β) (f : Fl) (ρ : Env) : Prop := (f = .ret (rv b) ∨ (f = .nx ∧ rv b = .val .non)) ∧ EOk (Γr b) ρ
theorem RF.ret {rv : β → RV} {Γr : β → Ctx} {b : β} {r : RV} (e : r = rv b) (l : EOk (Γr b) ρ) : RF rv Γr b (.ret r) ρ := ⟨.inl (by rw [e]), l⟩
theorem RF.nx {rv : β → RV} {Γr : β → Ctx} {b : β} (e : rv b = .val .non) (l : EOk (Γr b) ρ) : RF rv Γr b .nx ρ := ⟨.inr ⟨rfl, e⟩, l⟩
theorem f_def {ns : Nat} {body : MS} {Γa Γr X0 Xa Γa' : Ctx} {t : m β} {rv : β → RV} (hb : TR X0 (Γa ++ List.replicate (ns - Γa.length) SS.any) body t (RF rv fun _ => Γr)) (hf : FinOk Γa Γr Γa') (hx : FinOk Γa X0 Xa) :
    TF Xa Γa (runDef ns body) t rv (fun _ => Γa') := TR.mk fun as ha Q E hs => by
  have hl := ha.len
  have := hb (as ++ List.replicate (ns - as.length) .un) (ha.app (by rw [hl]; exact EOk.uns _)) Q E hs
  unfold runDef
  rw [if_pos (hf.args ha)]
  cases q : body (as ++ List.replicate (ns - as.length) .un) with
  | stuck => rw [q] at this; exact this
  | exc x ρ' => rw [q] at this; exact ⟨this.1, hx.fin ha this.2⟩
  | ok f ρ' =>
    rw [q] at this
    obtain ⟨b, ⟨h1, h2⟩, h3⟩ := this
    rcases h1 with rfl | ⟨rfl, h1⟩
    · exact ⟨b, ⟨rfl, hf.fin ha h2⟩, h3⟩
    · exact ⟨b, ⟨h1.symm, hf.fin ha h2⟩, h3⟩
end
end TL

/-! TL part c: encodings of typed values, and what the primitives do with them. -/
namespace TL
open PySem hiding Env
open VL
abbrev eI : Int → D := .int
abbrev eB : Bool → D := .bl
abbrev eS : Str → D := .str
abbrev eU : Unit → D := fun _ => .non
abbrev eD : D → D := fun d => d
section
variable {α β γ δ : Type}
abbrev eT (e : α → D) (xs : List α) : D := .tup (xs.map e)
abbrev eL (e : α → D) (xs : List α) : D := .lst (xs.map e)
abbrev eP (e : α → D) (f : β → D) (p : α × β) : D := .tup [e p.1, f p.2]
abbrev eP3 (e : α → D) (f : β → D) (g : γ → D) (p : α × β × γ) : D := .tup [e p.1, f p.2.1, g p.2.2]
abbrev eP4 (e : α → D) (f : β → D) (g : γ → D) (h : δ → D) (p : α × β × γ × δ) : D := .tup [e p.1, f p.2.1, g p.2.2.1, h p.2.2.2]
def eO (e : α → D) : Option α → D
  | none => .non
  | some a => e a
/-! ### numbers -/
def mulI (i j : Int) : Option Int := if mulOk i j then some (i * j) else none
def divI (i j : Int) : Option Int := if divOk j then some (i.fdiv j) else none
def modI (i j : Int) : Option Int := if decide (j ≠ 0) then some (i.fmod j) else none
theorem q_add (x y : Int) : addD (eI x) (eI y) = some (.val (eI (x + y))) := rfl
theorem q_addI (x y : Int) : addI (eI x) (eI y) = some (.val (eI (x + y))) := rfl
theorem q_sub (x y : Int) : subD (eI x) (eI y) = some (.val (eI (x - y))) := rfl
theorem q_mul (x y z : Int) (h : mulI x y = some z) : mulD (eI x) (eI y) = some (.val (eI z)) := by
  show (if mulOk x y then vI (x * y) else none) = _
  unfold mulI at h
  split at h
  · rename_i k; cases h; rw [if_pos k]; rfl
  · cases h
theorem q_div (x y z : Int) (h : divI x y = some z) : divD (eI x) (eI y) = some (.val (eI z)) := by
  show (if divOk y then vI (x.fdiv y) else none) = _
  unfold divI at h
  split at h
  · rename_i k; cases h; rw [if_pos k]; rfl
  · cases h
theorem q_mod (x y z : Int) (h : modI x y = some z) : modD (eI x) (eI y) = some (.val (eI z)) := by
  show (if decide (y ≠ 0) then vI (x.fmod y) else none) = _
  unfold modI at h
  split at h
  · rename_i k; cases h; rw [if_pos k]; rfl
  · cases h
theorem q_neg (x : Int) : negD (eI x) = some (.val (eI (-x))) := rfl
def absI (x : Int) : Int := if x < 0 then -x else x
theorem q_abs (x : Int) : one1 absD [eI x] = some (.val (eI (absI x))) := rfl
theorem q_int (x : Int) : one1 intD [eI x] = some (.val (eI x)) := rfl
theorem q_intB (x : Bool) : one1 intD [eB x] = some (.val (eI (if x then 1 else 0))) := rfl
theorem q_lt (x y : Int) : ltD (eI x) (eI y) = some (.val (eB (decide (x < y)))) := rfl
theorem q_le (x y : Int) : leD (eI x) (eI y) = some (.val (eB (decide (x ≤ y)))) := rfl
theorem q_gt (x y : Int) : gtD (eI x) (eI y) = some (.val (eB (decide (y < x)))) := rfl
theorem q_ge (x y : Int) : geD (eI x) (eI y) = some (.val (eB (decide (y ≤ x)))) := rfl
def maxI (i j : Int) : Int := if j > i then j else i
def minI (i j : Int) : Int := if j < i then j else i
theorem q_max (x y : Int) : maxD2 [eI x, eI y] = some (.val (eI (maxI x y))) := rfl
theorem q_min (x y : Int) : minD2 [eI x, eI y] = some (.val (eI (minI x y))) := rfl
theorem q_maxL (xs : List Int) (z : Int) (h : maxL xs = some z) : maxD2 [eL eI xs] = some (.val (eI z)) := by
  show (((intsD (xs.map D.int))).bind maxL).map (fun n => RV.val (.int n)) = _
  rw [intsD_map]
  show (maxL xs).map _ = _
  rw [h]; rfl
theorem q_minL (xs : List Int) (z : Int) (h : minL xs = some z) : minD2 [eL eI xs] = some (.val (eI z)) := by
  show (((intsD (xs.map D.int))).bind minL).map (fun n => RV.val (.int n)) = _
  rw [intsD_map]
  show (minL xs).map _ = _
  rw [h]; rfl
theorem q_sumT (xs : List Int) : one1 sumD [eT eI xs] = some (.val (eI xs.sum)) := sumD_tup xs
theorem q_sumL (xs : List Int) : one1 sumD [eL eI xs] = some (.val (eI xs.sum)) := sumD_lst xs
theorem q_all (xs : List Bool) : one1 allD [eL eB xs] = some (.val (eB (xs.all id))) := allD_lst xs
theorem q_any (xs : List Bool) : one1 anyD [eL eB xs] = some (.val (eB (xs.any id))) := by
  show ((blsD (xs.map .bl)).map fun bs => RV.val (.bl (bs.any id))) = _
  rw [blsD_map]; rfl
theorem q_sortI (xs : List Int) : one1 sortedD2 [eL eI xs] = some (.own (eL eI (sortI xs))) := by
  show (match (intsD (xs.map D.int)) with
    | some ns => some (RV.own (.lst ((sortI ns).map .int)))
    | none => _) = _
  rw [intsD_map]
/-! ### sequences -/
def ixL (xs : List α) (i : Int) : Option α := L2.atI xs i
theorem q_ixL {e : α → D} (xs : List α) (i : Int) (z : α) (h : ixL xs i = some z) : ixD (eL e xs) (eI i) = some (.val (e z)) := by
  show (L2.atI (xs.map e) i).map RV.val = _
  rw [atI_map]
  show Option.map _ (Option.map _ (ixL xs i)) = _
  rw [h]; rfl
theorem q_ixT {e : α → D} (xs : List α) (i : Int) (z : α) (h : ixL xs i = some z) : ixD (eT e xs) (eI i) = some (.val (e z)) := by
  show (L2.atI (xs.map e) i).map RV.val = _
  rw [atI_map]
  show Option.map _ (Option.map _ (ixL xs i)) = _
  rw [h]; rfl
theorem q_lenL {e : α → D} (xs : List α) : one1 lenD [eL e xs] = some (.val (eI (xs.length : Int))) := by
  show some (RV.val (.int ((xs.map e).length : Int))) = _
  rw [List.length_map]
theorem q_lenT {e : α → D} (xs : List α) : one1 lenD [eT e xs] = some (.val (eI (xs.length : Int))) := by
  show some (RV.val (.int ((xs.map e).length : Int))) = _
  rw [List.length_map]
theorem cut_mapG (f : α → β) (xs : List α) (lo hi : Option Int) : cutL (xs.map f) lo hi = (cutL xs lo hi).map f := by
  unfold cutL; rw [List.length_map, List.map_take, List.map_drop]
theorem q_slL {e : α → D} (xs : List α) (lo hi : Option Int) : slD lo hi (eL e xs) = some (.own (eL e (cutL xs lo hi))) := by
  show some (RV.own (.lst (cutL (xs.map e) lo hi))) = _
  rw [cut_mapG]
theorem q_slT {e : α → D} (xs : List α) (lo hi : Option Int) : slD lo hi (eT e xs) = some (.val (eT e (cutL xs lo hi))) := by
  show some (RV.val (.tup (cutL (xs.map e) lo hi))) = _
  rw [cut_mapG]
theorem q_listL {e : α → D} (xs : List α) : one1 listD [eL e xs] = some (.own (eL e xs)) := rfl
theorem q_listT {e : α → D} (xs : List α) : one1 listD [eT e xs] = some (.own (eL e xs)) := rfl
theorem q_tupleL {e : α → D} (xs : List α) : one1 tupleD [eL e xs] = some (.val (eT e xs)) := rfl
theorem q_tupleT {e : α → D} (xs : List α) : one1 tupleD [eT e xs] = some (.val (eT e xs)) := rfl
def catO (a b : List α) : Option (List α) := if a.length + b.length ≤ LIM then some (a ++ b) else none
theorem q_catL {e : α → D} (a b z : List α) (h : catO a b = some z) : addD (eL e a) (eL e b) = some (.own (eL e z)) := by
  show (if (a.map e).length + (b.map e).length ≤ LIM then some (RV.own (.lst (a.map e ++ b.map e))) else none) = _
  rw [List.length_map, List.length_map]
  unfold catO at h
  split at h
  · rename_i k; cases h; rw [if_pos k]; simp only [eL, eT, List.map_append]
  · cases h
theorem q_catT {e : α → D} (a b z : List α) (h : catO a b = some z) : addD (eT e a) (eT e b) = some (.val (eT e z)) := by
  show (if (a.map e).length + (b.map e).length ≤ LIM then some (RV.val (.tup (a.map e ++ b.map e))) else none) = _
  rw [List.length_map, List.length_map]
  unfold catO at h
  split at h
  · rename_i k; cases h; rw [if_pos k]; simp only [eL, eT, List.map_append]
  · cases h
def repL (a : List α) (k : Int) : Option (List α) := if decide (-(2 ^ 63) ≤ k ∧ k < 2 ^ 63 ∧ a.length * k.toNat ≤ LIM) then some (List.replicate k.toNat a).flatten else none
theorem map_flat_rep (e : α → β) (a : List α) (k : Nat) : (List.replicate k (a.map e)).flatten = ((List.replicate k a).flatten).map e := by
  induction k with
  | zero => rfl
  | succ k ih => rw [List.replicate_succ, List.replicate_succ, List.flatten_cons, List.flatten_cons, ih, List.map_append]
theorem q_repL {e : α → D} (a : List α) (k : Int) (z : List α) (h : repL a k = some z) : mulD (eL e a) (eI k) = some (.own (eL e z)) := by
  show (if decide (-(2 ^ 63) ≤ k ∧ k < 2 ^ 63 ∧ (a.map e).length * k.toNat ≤ LIM) then some (RV.own (.lst (List.replicate k.toNat (a.map e)).flatten)) else none) = _
  rw [List.length_map]
  unfold repL at h
  split at h
  · rename_i q; cases h; rw [if_pos q, map_flat_rep]
  · cases h
def repT (a : List α) (k : Int) : Option (List α) := if decide (2 ≤ k ∧ k ≤ 1000 ∧ a.length ≤ 1000) && !a.isEmpty then some (List.replicate k.toNat a).flatten else none
theorem q_repT {e : α → D} (a : List α) (k : Int) (z : List α) (h : repT a k = some z) : mulD (eT e a) (eI k) = some (.val (eT e z)) := by
  show (if decide (2 ≤ k ∧ k ≤ 1000 ∧ (a.map e).length ≤ 1000) && !(a.map e).isEmpty then some (RV.val (.tup (List.replicate k.toNat (a.map e)).flatten)) else none) = _
  have h2 : (a.map e).isEmpty = a.isEmpty := by cases a <;> rfl
  rw [List.length_map, h2]
  unfold repT at h
  split at h
  · rename_i q; cases h; rw [if_pos q, map_flat_rep]
  · cases h
def pushL (xs : List α) (x : α) : Option (List α) := if xs.length < LIM then some (xs ++ [x]) else none
theorem q_push {e : α → D} (xs : List α) (x : α) (z : List α) (h : pushL xs x = some z) : pushD (e x) (.lst (xs.map e)) = some (eL e z) := by
  show (if (xs.map e).length < LIM then some (D.lst (xs.map e ++ [e x])) else none) = _
  rw [List.length_map]
  unfold pushL at h
  split at h
  · rename_i q; cases h; rw [if_pos q]; simp only [eL, List.map_append]; rfl
  · cases h
theorem q_ext {e : α → D} (xs ys z : List α) (h : catO xs ys = some z) : extD (ys.map e) (.lst (xs.map e)) = some (eL e z) := by
  show (if (xs.map e).length + (ys.map e).length ≤ LIM then some (D.lst (xs.map e ++ ys.map e)) else none) = _
  rw [List.length_map, List.length_map]
  unfold catO at h
  split at h
  · rename_i q; cases h; rw [if_pos q]; simp only [eL, List.map_append]
  · cases h
def setL (xs : List α) (i : Int) (v : α) : Option (List α) := (L2.ixN xs.length i).map fun j => xs.set j v
theorem q_set {e : α → D} (xs : List α) (i : Int) (v : α) (z : List α) (h : setL xs i v = some z) : setD (e v) (eI i) (.lst (xs.map e)) = some (eL e z) := by
  show (L2.ixN (xs.map e).length i).map (fun j => D.lst ((xs.map e).set j (e v))) = _
  rw [List.length_map]
  unfold setL at h
  cases q : L2.ixN xs.length i with
  | none => rw [q] at h; cases h
  | some j => rw [q] at h; cases h; show some (D.lst _) = some (D.lst _); rw [List.map_set]
theorem q_unO {e : α → D} (a : Option α) (b : α) (h : a = some b) : RV.val (eO e a) = RV.val (e b) := by subst h; rfl
def to2 : List α → Option (α × α)
  | [a, b] => some (a, b)
  | _ => none
def to3 : List α → Option (α × α × α)
  | [a, b, c] => some (a, b, c)
  | _ => none
def to4 : List α → Option (α × α × α × α)
  | [a, b, c, d] => some (a, b, c, d)
  | _ => none
theorem q_to2 {e : α → D} (xs : List α) (p : α × α) (h : to2 xs = some p) : RV.val (eT e xs) = RV.val (eP e e p) := by
  unfold to2 at h
  split at h
  · cases h; rfl
  · cases h
theorem q_to3 {e : α → D} (xs : List α) (p : α × α × α) (h : to3 xs = some p) : RV.val (eT e xs) = RV.val (eP3 e e e p) := by
  unfold to3 at h
  split at h
  · cases h; rfl
  · cases h
theorem q_to4 {e : α → D} (xs : List α) (p : α × α × α × α) (h : to4 xs = some p) : RV.val (eT e xs) = RV.val (eP4 e e e e p) := by
  unfold to4 at h
  split at h
  · cases h; rfl
  · cases h
/-! ### what is walked -/
def rngO1 (n : Int) : Option (List Int) := if lim62 n then some (rngI 0 n) else none
def rngO2 (a b : Int) : Option (List Int) := if lim62 a && lim62 b then some (rngI a b) else none
theorem q_rng1 (n : Int) (z : List Int) (h : rngO1 n = some z) : range1D [eI n] = some (z.map eI) := by
  show (if lim62 n then some (rngD 0 n) else none) = _
  unfold rngO1 at h
  split at h
  · rename_i k; cases h; rw [if_pos k, rng_map]
  · cases h
theorem q_rng2 (a b : Int) (z : List Int) (h : rngO2 a b = some z) : range2D [eI a, eI b] = some (z.map eI) := by
  show (if lim62 a && lim62 b then some (rngD a b) else none) = _
  unfold rngO2 at h
  split at h
  · rename_i k; cases h; rw [if_pos k, rng_map]
  · cases h
def rngI3 (a b c : Int) : List Int := (List.range (Builtin.Range.rangeSize a b c).toNat).map fun (i : Nat) => a + (i : Int) * c
def rngO3 (a b c : Int) : Option (List Int) := if Builtin.Range.small a b c && decide (c ≠ 0 ∧ c.natAbs < 1073741824) then some (rngI3 a b c) else none
theorem q_rng3 (a b c : Int) (z : List Int) (h : rngO3 a b c = some z) : range3D [eI a, eI b, eI c] = some (z.map eI) := by
  show (if Builtin.Range.small a b c && decide (c ≠ 0 ∧ c.natAbs < 1073741824) then some ((List.range (Builtin.Range.rangeSize a b c).toNat).map fun (i : Nat) => D.int (a + (i : Int) * c)) else none) = _
  unfold rngO3 at h
  split at h
  · rename_i k; cases h; rw [if_pos k]; unfold rngI3; rw [List.map_map]; rfl
  · cases h
def enumI : Nat → List α → List (Int × α)
  | _, [] => []
  | n, x :: xs => ((n : Int), x) :: enumI (n + 1) xs
theorem enum_map {e : α → D} : ∀ (n : Nat) (xs : List α), enumL n (xs.map e) = (enumI n xs).map (eP eI e)
  | _, [] => rfl
  | n, x :: xs => by show D.tup [.int n, e x] :: enumL (n + 1) (xs.map e) = _; rw [enum_map (n + 1) xs]; rfl
theorem q_enumL {e : α → D} (xs : List α) : enumD [eL e xs] = some ((enumI 0 xs).map (eP eI e)) := by
  show (some (xs.map e)).map (enumL 0) = _
  show some (enumL 0 (xs.map e)) = _
  rw [enum_map]
theorem q_enumT {e : α → D} (xs : List α) : enumD [eT e xs] = some ((enumI 0 xs).map (eP eI e)) := by
  show some (enumL 0 (xs.map e)) = _
  rw [enum_map]
theorem zip_map {e : α → D} {f : β → D} : ∀ (xs : List α) (ys : List β), zipL (xs.map e) (ys.map f) = (xs.zip ys).map (eP e f)
  | [], ys => by cases ys <;> rfl
  | x :: xs, [] => rfl
  | x :: xs, y :: ys => by show D.tup [e x, f y] :: zipL (xs.map e) (ys.map f) = _; rw [zip_map xs ys]; rfl
theorem q_zip {e : α → D} {f : β → D} {a b : D} (xs : List α) (ys : List β) (ha : itemsD a = some (xs.map e)) (hb : itemsD b = some (ys.map f)) : zipD [a, b] = some ((xs.zip ys).map (eP e f)) := by
  show (match itemsD a, itemsD b with
    | some xs, some ys => some (zipL xs ys)
    | _, _ => none) = _
  rw [ha, hb]
  show some (zipL (xs.map e) (ys.map f)) = _
  rw [zip_map]
theorem q_itL {e : α → D} (xs : List α) : itemsD (eL e xs) = some (xs.map e) := rfl
theorem q_itT {e : α → D} (xs : List α) : itemsD (eT e xs) = some (xs.map e) := rfl
/-! ### equal -/
structure EqE (e : α → D) [DecidableEq α] (n : Nat) where
  py : α → PyData
  h1 : ∀ a, toPy (e a) = some (py a)
  h2 : ∀ a, (py a).canLay0 = true
  h3 : ∀ a, (py a).depth ≤ n
  h4 : ∀ a b, PyData.eqv (py a) (py b) = decide (a = b)
def qI : EqE eI 0 := ⟨.int, fun _ => rfl, fun _ => rfl, fun _ => Nat.le_refl _, fun a b => by show (a == b) = _; by_cases h : a = b <;> simp [h]⟩
def qB : EqE eB 0 := ⟨.bool, fun _ => rfl, fun _ => rfl, fun _ => Nat.le_refl _, fun a b => by show (a == b) = _; by_cases h : a = b <;> simp [h]⟩
def qU : EqE eU 0 := ⟨fun _ => .none, fun _ => rfl, fun _ => rfl, fun _ => Nat.le_refl _, fun a b => rfl⟩
theorem toPys_map [DecidableEq α] {e : α → D} {n : Nat} (q : EqE e n) : ∀ xs : List α, toPys (xs.map e) = some (xs.map q.py)
  | [] => rfl
  | x :: xs => by
    show (match toPy (e x), toPys (xs.map e) with
      | some x, some xs => some (x :: xs)
      | _, _ => none) = _
    rw [q.h1, toPys_map q xs]; rfl
theorem canLay_map [DecidableEq α] {e : α → D} {n : Nat} (q : EqE e n) : ∀ xs : List α, PyData.canLayAll0 (xs.map q.py) = true
  | [] => rfl
  | x :: xs => by show ((q.py x).canLay0 && PyData.canLayAll0 (xs.map q.py)) = true; rw [q.h2, canLay_map q xs]; rfl
theorem depth_map [DecidableEq α] {e : α → D} {n : Nat} (q : EqE e n) : ∀ xs : List α, PyData.depthAll (xs.map q.py) ≤ n
  | [] => Nat.zero_le _
  | x :: xs => by show max (q.py x).depth (PyData.depthAll (xs.map q.py)) ≤ n; have := q.h3 x; have := depth_map q xs; omega
theorem eqv_map [DecidableEq α] {e : α → D} {n : Nat} (q : EqE e n) : ∀ xs ys : List α, PyData.eqvAll (xs.map q.py) (ys.map q.py) = decide (xs = ys)
  | [], [] => rfl
  | [], _ :: _ => rfl
  | _ :: _, [] => rfl
  | x :: xs, y :: ys => by
    show (PyData.eqv (q.py x) (q.py y) && PyData.eqvAll (xs.map q.py) (ys.map q.py)) = _
    rw [q.h4, eqv_map q xs ys]
    by_cases h1 : x = y <;> by_cases h2 : xs = ys <;> simp [h1, h2]
def qT [DecidableEq α] {e : α → D} {n : Nat} (q : EqE e n) : EqE (eT e) (n + 1) := ⟨fun xs => .tuple (xs.map q.py), fun xs => by show (toPys (xs.map e)).map PyData.tuple = _; rw [toPys_map q]; rfl, fun xs => canLay_map q xs, fun xs => Nat.succ_le_succ (depth_map q xs), fun xs ys => eqv_map q xs ys⟩
def qL [DecidableEq α] {e : α → D} {n : Nat} (q : EqE e n) : EqE (eL e) (n + 1) := ⟨fun xs => .list (xs.map q.py), fun xs => by show (toPys (xs.map e)).map PyData.list = _; rw [toPys_map q]; rfl, fun xs => canLay_map q xs, fun xs => Nat.succ_le_succ (depth_map q xs), fun xs ys => eqv_map q xs ys⟩
def qP [DecidableEq α] [DecidableEq β] {e : α → D} {f : β → D} {n k : Nat} (q : EqE e n) (r : EqE f k) : EqE (eP e f) (max n k + 1) := ⟨fun p => .tuple [q.py p.1, r.py p.2], fun p => by
    show (toPys [e p.1, f p.2]).map PyData.tuple = _
    unfold toPys toPys toPys; rw [q.h1, r.h1]; rfl, fun p => by
    show ((q.py p.1).canLay0 && ((r.py p.2).canLay0 && true)) = true; rw [q.h2, r.h2]; rfl, fun p => by
    show max (q.py p.1).depth (max (r.py p.2).depth 0) + 1 ≤ _; have := q.h3 p.1; have := r.h3 p.2; omega, fun p p' => by
    show (PyData.eqv (q.py p.1) (q.py p'.1) && (PyData.eqv (r.py p.2) (r.py p'.2) && true)) = _
    rw [q.h4, r.h4]
    obtain ⟨a, b⟩ := p; obtain ⟨c, d⟩ := p'
    by_cases h1 : a = c <;> by_cases h2 : b = d <;> simp [h1, h2]⟩
def qP3 [DecidableEq α] [DecidableEq β] [DecidableEq γ] {e : α → D} {f : β → D} {g : γ → D} {n k l : Nat} (q : EqE e n) (r : EqE f k) (s : EqE g l) : EqE (eP3 e f g) (max n (max k l) + 1) := ⟨fun p => .tuple [q.py p.1, r.py p.2.1, s.py p.2.2], fun p => by
    show (toPys [e p.1, f p.2.1, g p.2.2]).map PyData.tuple = _
    unfold toPys toPys toPys toPys; rw [q.h1, r.h1, s.h1]; rfl, fun p => by
    show ((q.py p.1).canLay0 && ((r.py p.2.1).canLay0 && ((s.py p.2.2).canLay0 && true))) = true; rw [q.h2, r.h2, s.h2]; rfl, fun p => by
    show max (q.py p.1).depth (max (r.py p.2.1).depth (max (s.py p.2.2).depth 0)) + 1 ≤ _; have := q.h3 p.1; have := r.h3 p.2.1; have := s.h3 p.2.2; omega, fun p p' => by
    show (PyData.eqv (q.py p.1) (q.py p'.1) && (PyData.eqv (r.py p.2.1) (r.py p'.2.1) && (PyData.eqv (s.py p.2.2) (s.py p'.2.2) && true))) = _
    rw [q.h4, r.h4, s.h4]
    obtain ⟨a, b, c⟩ := p; obtain ⟨a', b', c'⟩ := p'
    by_cases h1 : a = a' <;> by_cases h2 : b = b' <;> by_cases h3 : c = c' <;> simp [h1, h2, h3]⟩
theorem eq_B [DecidableEq α] {e : α → D} {n : Nat} (q : EqE e n) (hn : n ≤ 64) (a b : α) : eqB (e a) (e b) = some (decide (a = b)) := by
  unfold eqB
  rw [q.h1, q.h1]
  have s : ∀ a, SeqAt.shaped (q.py a) = true := fun a => by
    show ((q.py a).canLay0 && decide ((q.py a).depth ≤ 64)) = true
    rw [q.h2]; have := q.h3 a; simp; omega
  show (if SeqAt.shaped (q.py a) && SeqAt.shaped (q.py b) then some _ else none) = _
  rw [s, s, q.h4]; rfl
theorem q_eq [DecidableEq α] {e : α → D} {n : Nat} (q : EqE e n) (hn : n ≤ 64) (a b : α) : eqD (e a) (e b) = some (.val (eB (decide (a = b)))) := by
  unfold eqD; rw [eq_B q hn]; rfl
theorem q_ne [DecidableEq α] {e : α → D} {n : Nat} (q : EqE e n) (hn : n ≤ 64) (a b : α) : neD (e a) (e b) = some (.val (eB (!decide (a = b)))) := by
  unfold neD; rw [eq_B q hn]; rfl
theorem in_B [DecidableEq α] {e : α → D} {n : Nat} (q : EqE e n) (hn : n + 1 ≤ 64) (a : α) (xs : List α) : inB (e a) (xs.map e) = some (decide (a ∈ xs)) := by
  unfold inB
  rw [q.h1, toPys_map q]
  have s : SeqAt.shaped (q.py a) = true := by
    show ((q.py a).canLay0 && decide ((q.py a).depth ≤ 64)) = true
    rw [q.h2]; have := q.h3 a; simp; omega
  have s2 : SeqAt.shaped (.list (xs.map q.py)) = true := by
    show (PyData.canLayAll0 (xs.map q.py) && decide (PyData.depthAll (xs.map q.py) + 1 ≤ 64)) = true
    rw [canLay_map q]; have := depth_map q xs; simp; omega
  show (if SeqAt.shaped (q.py a) && SeqAt.shaped (.list (xs.map q.py)) then some ((xs.map q.py).any fun z => PyData.eqv z (q.py a)) else none) = _
  rw [s, s2]
  show some _ = _
  congr 1
  rw [List.any_map]
  induction xs with
  | nil => simp
  | cons x xs ih =>
    have h1 : SeqAt.shaped (.list (xs.map q.py)) = true := by
      show (PyData.canLayAll0 (xs.map q.py) && decide (PyData.depthAll (xs.map q.py) + 1 ≤ 64)) = true
      rw [canLay_map q]; have := depth_map q xs; simp; omega
    rw [List.any_cons, ih h1]
    show (PyData.eqv (q.py x) (q.py a) || _) = _
    rw [q.h4]
    by_cases h2 : a = x
    · subst h2; simp
    · have : ¬ x = a := fun z => h2 z.symm
      simp [h2, this]
theorem q_inL [DecidableEq α] {e : α → D} {n : Nat} (q : EqE e n) (hn : n + 1 ≤ 64) (a : α) (xs : List α) : inDV (e a) (eL e xs) = some (.val (eB (decide (a ∈ xs)))) := by
  unfold inDV
  show (inB (e a) (xs.map e)).map _ = _
  rw [in_B q hn]; rfl
theorem q_ninL [DecidableEq α] {e : α → D} {n : Nat} (q : EqE e n) (hn : n + 1 ≤ 64) (a : α) (xs : List α) : notInDV (e a) (eL e xs) = some (.val (eB (!decide (a ∈ xs)))) := by
  unfold notInDV
  show (inB (e a) (xs.map e)).map _ = _
  rw [in_B q hn]; rfl
theorem inD_T [DecidableEq α] {e : α → D} {n : Nat} (q : EqE e n) (hn : n + 1 ≤ 64) (a : α) (xs : List α) : inD (e a) (eT e xs) = some (decide (a ∈ xs)) := by
  have : inD (e a) (eT e xs) = inB (e a) (xs.map e) := by
    unfold inD
    show (match e a, D.tup (xs.map e) with
      | .str a, .str b => some (!(Builtin.Str.occurrences b a 0 b.length 1).isEmpty)
      | d, .tup ds => inB d ds
      | d, .dic kvs => (keyD d).map fun k => (getKD kvs k).isSome
      | _, _ => none) = _
    cases e a <;> rfl
  rw [this, in_B q hn]
theorem q_inT [DecidableEq α] {e : α → D} {n : Nat} (q : EqE e n) (hn : n + 1 ≤ 64) (a : α) (xs : List α) : inDV (e a) (eT e xs) = some (.val (eB (decide (a ∈ xs)))) := by
  unfold inDV; rw [inD_T q hn]; rfl
theorem q_ninT [DecidableEq α] {e : α → D} {n : Nat} (q : EqE e n) (hn : n + 1 ≤ 64) (a : α) (xs : List α) : notInDV (e a) (eT e xs) = some (.val (eB (!decide (a ∈ xs)))) := by
  unfold notInDV; rw [inD_T q hn]; rfl
/-! ### None -/
structure NoN (e : α → D) : Prop where
  h : ∀ a, isNonD (e a) = some false
theorem nnI : NoN eI := ⟨fun _ => rfl⟩
theorem nnB : NoN eB := ⟨fun _ => rfl⟩
theorem nnS : NoN eS := ⟨fun _ => rfl⟩
theorem nnT {e : α → D} : NoN (eT e) := ⟨fun _ => rfl⟩
theorem nnL {e : α → D} : NoN (eL e) := ⟨fun _ => rfl⟩
theorem nnP {e : α → D} {f : β → D} : NoN (eP e f) := ⟨fun _ => rfl⟩
theorem nnP3 {e : α → D} {f : β → D} {g : γ → D} : NoN (eP3 e f g) := ⟨fun _ => rfl⟩
theorem isN (d : D) : isD d .non = (isNonD d).map fun b => .val (.bl b) := by cases d <;> rfl
theorem isNN (d : D) : isNotD d .non = (isNonD d).map fun b => .val (.bl (!b)) := by cases d <;> rfl
theorem q_isO {e : α → D} (n : NoN e) (a : Option α) (u : Unit) : isD (eO e a) (eU u) = some (.val (eB a.isNone)) := by
  rw [isN]
  cases a with
  | none => rfl
  | some a => show (isNonD (e a)).map _ = _; rw [n.h]; rfl
theorem q_isNotO {e : α → D} (n : NoN e) (a : Option α) (u : Unit) : isNotD (eO e a) (eU u) = some (.val (eB (!a.isNone))) := by
  rw [isNN]
  cases a with
  | none => rfl
  | some a => show (isNonD (e a)).map _ = _; rw [n.h]; rfl
theorem q_isN {e : α → D} (n : NoN e) (a : α) (u : Unit) : isD (e a) (eU u) = some (.val (eB false)) := by rw [isN, n.h]; rfl
theorem q_isNotN {e : α → D} (n : NoN e) (a : α) (u : Unit) : isNotD (e a) (eU u) = some (.val (eB true)) := by rw [isNN, n.h]; rfl
theorem q_isB (a b : Bool) : isD (eB a) (eB b) = some (.val (eB (decide (a = b)))) := rfl
theorem q_isNotB (a b : Bool) : isNotD (eB a) (eB b) = some (.val (eB (!decide (a = b)))) := rfl
def unO : Option α → Option α := fun a => a
def qO [DecidableEq α] {e : α → D} {n : Nat} (q : EqE e n) (nn : ∀ a, PyData.eqv .none (q.py a) = false ∧ PyData.eqv (q.py a) .none = false) : EqE (eO e) n := ⟨fun a => match a with | none => .none | some a => q.py a, fun a => by cases a with | none => rfl | some a => exact q.h1 a, fun a => by cases a with | none => rfl | some a => exact q.h2 a, fun a => by cases a with | none => exact Nat.zero_le _ | some a => exact q.h3 a, fun a b => by
  cases a with
  | none => cases b with
    | none => rfl
    | some b => show PyData.eqv .none (q.py b) = _; rw [(nn b).1]; rfl
  | some a => cases b with
    | none => show PyData.eqv (q.py a) .none = _; rw [(nn a).2]; rfl
    | some b => show PyData.eqv (q.py a) (q.py b) = _; rw [q.h4]; simp⟩
/-! ### truth -/
theorem u_int (i : Int) : truD (eI i) = some (i != 0) := rfl
theorem u_tup {e : α → D} (xs : List α) : truD (eT e xs) = some (!xs.isEmpty) := by cases xs <;> rfl
theorem u_lst {e : α → D} (xs : List α) : truD (eL e xs) = some (!xs.isEmpty) := by cases xs <;> rfl
end
/-! ### running the typed programs -/
instance : LawfulMonad O := LawfulMonad.mk' O
  (id_map := fun x => by cases x <;> rfl)
  (pure_bind := fun a f => rfl)
  (bind_assoc := fun x f g => by cases x <;> rfl)
instance : LawfulMonad W := LawfulMonad.mk' W
  (id_map := fun x => rfl)
  (pure_bind := fun a f => rfl)
  (bind_assoc := fun x f g => rfl)
section
variable {m : Type → Type} [TM m] {α β σ τ : Type}
theorem lf_O (o : Option α) : (lf o : O α) = oOf o := rfl
@[simp] theorem lf_some_O (a : α) : (lf (some a) : O α) = pure a := rfl
@[simp] theorem lf_some_W (a : α) : (lf (some a) : W α) = pure a := rfl
@[simp] theorem up_O (o : O α) : (TM.up o : O α) = o := rfl
@[simp] theorem up_pure_W (a : α) : (TM.up (pure a : O α) : W α) = pure a := rfl
@[simp] theorem noex_pure_O (a : α) : (TM.noex (pure a) : O α) = pure a := rfl
@[simp] theorem noex_pure_W (a : α) : (TM.noex (pure a) : W α) = pure a := rfl
@[simp] theorem foldT_nil (f : σ → β → m σ) (s : σ) : foldT f s [] = pure s := rfl
@[simp] theorem foldT_cons (f : σ → β → m σ) (s : σ) (x : β) (xs : List β) : foldT f s (x :: xs) = f s x >>= fun s => foldT f s xs := rfl
@[simp] theorem loopT_nil (f : σ → β → m (FL σ τ)) (s : σ) : loopT f s [] = pure (.inl s) := rfl
theorem foldT_pure [LawfulMonad m] (f : σ → β → σ) : ∀ (xs : List β) (s : σ), foldT (fun s x => (pure (f s x) : m σ)) s xs = pure (xs.foldl f s)
  | [], s => rfl
  | x :: xs, s => by rw [foldT_cons, pure_bind, foldT_pure f xs]; rfl
theorem lcL_pure [LawfulMonad m] (p : α → Bool) (f : α → β) : ∀ xs : List α, lcL (fun x => (pure (p x) : m Bool)) (fun x => pure (f x)) xs = pure ((xs.filter p).map f)
  | [] => rfl
  | x :: xs => by
    show (pure (p x) >>= fun b => if b = true then (pure (f x) : m β) >>= fun y => lcL _ _ xs >>= fun ys => pure (y :: ys) else lcL _ _ xs) = _
    rw [pure_bind, lcL_pure p f xs, List.filter_cons]
    cases h : p x <;> simp
@[simp] theorem lcT_pure_O (p : α → Bool) (f : α → β) (xs : List α) (h : xs.length ≤ 16777216) : lcT (fun x => (pure (p x) : O Bool)) (fun x => pure (f x)) xs = pure ((xs.filter p).map f) := by
  unfold lcT; rw [if_pos (LIM_big h), lcL_pure]; rfl
@[simp] theorem lcT_pure_W (p : α → Bool) (f : α → β) (xs : List α) (h : xs.length ≤ 16777216) : lcT (fun x => (pure (p x) : W Bool)) (fun x => pure (f x)) xs = pure ((xs.filter p).map f) := by
  unfold lcT; rw [if_pos (LIM_big h), lcL_pure]; rfl
end
end TL

/-! TL part d: what the laws draw, the law's own comparison. -/
namespace TL
open PySem hiding Env
open VL
section
variable {m : Type → Type} [TM m] {α β σ τ : Type} {X Γ Γ1 : Ctx}
/-- any number below n -/
def drawW (n : Int) : W Int := fun Q _ => 0 < n ∧ n < 1073741824 ∧ ∀ v, 0 ≤ v → v < n → Q v
open Classical in
/-- True where both are the same, and nothing is told elsewhere -/
noncomputable def isT (a b : D) : O Bool := if a = b ∧ VL.Same 8 a then .ok true else .st
open Classical in
noncomputable def isTR (a b : D) : O Bool := if a = b ∧ VL.SameR 8 a then .ok true else .st
theorem p_hand {P : D → Prop} {i j : Nat} {cf : CF} {n : Nat} {ns : List Int} (hs : ∀ ns : List Int, ns.length ≤ 63 → ∃ h, P h ∧ cf n [.val (.scr ns)] = .ok (.own h) [.val (.scr ns)]) (hl : ns.length ≤ 63) (hj : Γ[j]? = some (.val (.scr ns))) (hi : Γ[i]? = some .any) :
    TP (m := m) X Γ (asgS i (callM cf n [varM j])) (pure ()) (fun _ => Γ.set i (.exO P)) := TR.mk fun ρ hρ => by
  obtain ⟨h, hp, hc⟩ := hs ns hl
  obtain ⟨s, h1, rfl⟩ := hρ.get hj
  have e : callM cf n [varM j] ρ = .ok (.own h) ρ := by
    have : argsM [varM j] ρ = .ok [.val (.scr ns)] ρ := by
      rw [argsM_cons, opd_ap, varM_ap]; unfold valD; rw [h1]; rfl
    rw [callM_ap, this, call1_ok, enterM_ap]
    show enter1 cf n _ ρ (some [Slot.val (D.scr ns)]) = _
    rw [enter1_some, hc]
    show enter2 _ ρ true _ = _
    rw [enter2_own, back_val, back_nil]
  obtain ⟨ρ', h2, h3⟩ := setM_ok (g' := .exO P) (s := .own h) hρ hi a_any ⟨h, rfl, hp⟩
  refine At.ok (ρ' := ρ') ?_ ⟨rfl, h3⟩
  show (callM cf n [varM j] ρ).bnd _ = _
  rw [e]
  exact h2
theorem draw_spec {P : D → Prop} {cf : CF} {i : Nat} (hd : ∀ h, P h → ∀ n : Int, 0 < n → n < 1073741824 → ∃ h' d, P h' ∧ 0 ≤ d ∧ d < n ∧ cf i [.bow h, .val (.int n)] = .ok (.val (.int d)) [.bow h', .val (.int n)]) (n : Int) :
    TF (m := W) [.exB P, .free] [.exB P, .val (eI n)] (cf i) (drawW n) (fun b => kv false (eI b)) (fun _ => [.exB P, .val (eI n)]) := TR.mk fun ρ hρ Q E hs => by
  match ρ, hρ with
  | [a, b], ⟨⟨h, ha, hp⟩, hb, _⟩ =>
    cases ha
    cases (show b = .val (eI n) from hb)
    obtain ⟨h0, h1, h2⟩ := hs
    obtain ⟨h', d, p', d0, d1, e⟩ := hd h hp n h0 h1
    rw [e]
    exact ⟨d, ⟨rfl, ⟨h', rfl, p'⟩, rfl, trivial⟩, h2 d d0 d1⟩
theorem is_spec {cf : CF} {i : Nat} (hi : ∀ a, VL.Same 8 a → cf i [.val a, .val a] = .ok (.val (.bl true)) [.val a, .val a]) (a b : D) :
    TF (m := O) [.free, .free] [.val a, .val b] (cf i) (isT a b) (fun b => kv false (eB b)) (fun _ => [.val a, .val b]) := TR.mk fun ρ hρ Q E hs => by
  match ρ, hρ with
  | [x, y], ⟨hx, hy, _⟩ =>
    cases (show x = .val a from hx)
    cases (show y = .val b from hy)
    unfold isT at hs
    by_cases h : a = b ∧ VL.Same 8 a
    · rw [if_pos h] at hs
      obtain ⟨rfl, h2⟩ := h
      rw [hi a h2]
      exact ⟨true, ⟨rfl, rfl, rfl, trivial⟩, hs⟩
    · rw [if_neg h] at hs; exact hs.elim
theorem is_specR {cf : CF} {i : Nat} (hi : ∀ a, VL.SameR 8 a → cf i [.val a, .val a] = .ok (.val (.bl true)) [.val a, .val a]) (a b : D) :
    TF (m := O) [.free, .free] [.val a, .val b] (cf i) (isTR a b) (fun b => kv false (eB b)) (fun _ => [.val a, .val b]) := TR.mk fun ρ hρ Q E hs => by
  match ρ, hρ with
  | [x, y], ⟨hx, hy, _⟩ =>
    cases (show x = .val a from hx)
    cases (show y = .val b from hy)
    unfold isTR at hs
    by_cases h : a = b ∧ VL.SameR 8 a
    · rw [if_pos h] at hs
      obtain ⟨rfl, h2⟩ := h
      rw [hi a h2]
      exact ⟨true, ⟨rfl, rfl, rfl, trivial⟩, hs⟩
    · rw [if_neg h] at hs; exact hs.elim
/-! the normal form of typed programs -/
theorem ite_and (c b : Bool) : (if c = true then (pure b : m Bool) else pure false) = pure (c && b) := by cases c <;> rfl
theorem ite_or (c b : Bool) : (if c = true then (pure true : m Bool) else pure b) = pure (c || b) := by cases c <;> rfl
theorem ite_pure (c : Bool) (a b : α) : (if c = true then (pure a : m α) else pure b) = pure (if c = true then a else b) := by cases c <;> rfl
theorem up_pure (a : α) : (TM.up (pure a : O α) : O α) = pure a := rfl
end
end TL

/-! TL part e: dicts. -/
namespace TL
open PySem hiding Env
open VL
section
variable {m : Type → Type} [TM m] {α β γ κ : Type} {X Γ Γ1 Γ2 Γ3 : Ctx}
abbrev kI : Int → (Sum Int Str) := Sum.inl
abbrev kS : Str → (Sum Int Str) := Sum.inr
abbrev eDI (ek : κ → (Sum Int Str)) (e : α → D) (kvs : List (κ × α)) : D := .dic (kvs.map fun p => (ek p.1, e p.2))
section
variable [DecidableEq κ]
def hasK (kvs : List (κ × α)) (k : κ) : Bool := kvs.any fun p => decide (p.1 = k)
def getK (kvs : List (κ × α)) (k : κ) : Option α := (kvs.find? fun p => decide (p.1 = k)).map (·.2)
def putK (kvs : List (κ × α)) (k : κ) (v : α) : List (κ × α) := if hasK kvs k = true then kvs.map (fun p => if p.1 = k then (p.1, v) else p) else kvs ++ [(k, v)]
def setK (kvs : List (κ × α)) (k : κ) (v : α) : Option (List (κ × α)) := if kvs.length < LIM then some (putK kvs k v) else none
def mkK (ps : List (κ × α)) : List (κ × α) := ps.foldl (fun acc p => putK acc p.1 p.2) []
/-- keys that the model takes -/
structure KeyE (ek : κ → (Sum Int Str)) (ed : κ → D) : Prop where
  inj : ∀ a b, ek a = ek b → a = b
  key : ∀ a, keyD (ed a) = some (ek a)
variable {ek : κ → (Sum Int Str)} {ed : κ → D} {e : α → D}
theorem KeyE.dec (h : KeyE ek ed) (a b : κ) : decide (ek a = ek b) = decide (a = b) := by
  by_cases q : a = b
  · subst q; simp
  · have : ¬ ek a = ek b := fun z => q (h.inj _ _ z)
    simp [q, this]
theorem has_map (h : KeyE ek ed) (kvs : List (κ × α)) (k : κ) : hasKD (kvs.map fun p => (ek p.1, e p.2)) (ek k) = hasK kvs k := by
  unfold hasKD hasK
  rw [List.any_map]
  congr 1; funext p; exact h.dec _ _
theorem put_map (h : KeyE ek ed) (kvs : List (κ × α)) (k : κ) (v : α) : putKD (kvs.map fun (p : κ × α) => (ek p.1, e p.2)) (ek k) (e v) = (putK kvs k v).map fun (p : κ × α) => (ek p.1, e p.2) := by
  unfold putKD putK
  rw [has_map h]
  split
  · rw [List.map_map, List.map_map]
    congr 1; funext p
    show (if ek p.1 = ek k then (ek p.1, e v) else (ek p.1, e p.2)) = (ek (if p.1 = k then (p.1, v) else p).1, e (if p.1 = k then (p.1, v) else p).2)
    by_cases q : p.1 = k
    · rw [if_pos (by rw [q]), if_pos q]
    · rw [if_neg (fun z => q (h.inj _ _ z)), if_neg q]
  · rw [List.map_append]; rfl
theorem get_map (h : KeyE ek ed) (kvs : List (κ × α)) (k : κ) : getKD (kvs.map fun p => (ek p.1, e p.2)) (ek k) = (getK kvs k).map e := by
  unfold getKD getK
  induction kvs with
  | nil => rfl
  | cons p kvs ih =>
    rw [List.map_cons, List.find?_cons, List.find?_cons]
    show Option.map _ (match decide (ek p.1 = ek k) with | true => _ | false => _) = _
    rw [h.dec]
    cases decide (p.1 = k) with
    | true => rfl
    | false => exact ih
theorem q_setK (h : KeyE ek ed) (kvs : List (κ × α)) (k : κ) (v : α) (z : List (κ × α)) (q : setK kvs k v = some z) : setD (e v) (ed k) (.dic (kvs.map fun (p : κ × α) => (ek p.1, e p.2))) = some (eDI ek e z) := by
  show (match keyD (ed k) with
    | some k => if (kvs.map fun (p : κ × α) => (ek p.1, e p.2)).length < LIM then some (D.dic (putKD (kvs.map fun (p : κ × α) => (ek p.1, e p.2)) k (e v))) else none
    | none => none) = _
  rw [h.key]
  show (if (kvs.map fun (p : κ × α) => (ek p.1, e p.2)).length < LIM then some (D.dic (putKD (kvs.map fun (p : κ × α) => (ek p.1, e p.2)) (ek k) (e v))) else none) = _
  rw [List.length_map]
  unfold setK at q
  split at q
  · rename_i l; cases q; rw [if_pos l, put_map h]
  · cases q
theorem q_getK (h : KeyE ek ed) (kvs : List (κ × α)) (k : κ) (z : α) (q : getK kvs k = some z) : ixD (eDI ek e kvs) (ed k) = some (.val (e z)) := by
  have : ixD (eDI ek e kvs) (ed k) = (keyD (ed k)).bind fun q => (getKD (kvs.map fun p => (ek p.1, e p.2)) q).map RV.val := by cases ed k <;> rfl
  rw [this, h.key]
  show (getKD _ (ek k)).map RV.val = _
  rw [get_map h, q]; rfl
theorem get_has (kvs : List (κ × α)) (k : κ) : (getK kvs k).isSome = hasK kvs k := by
  unfold getK hasK
  induction kvs with
  | nil => rfl
  | cons p kvs ih =>
    rw [List.find?_cons, List.any_cons]
    cases decide (p.1 = k) with
    | true => rfl
    | false => simpa using ih
theorem inD_dic (h : KeyE ek ed) (kvs : List (κ × α)) (k : κ) : inD (ed k) (eDI ek e kvs) = some (hasK kvs k) := by
  have : inD (ed k) (eDI ek e kvs) = (keyD (ed k)).map fun q => (getKD (kvs.map fun p => (ek p.1, e p.2)) q).isSome := by
    have hk := h.key k
    cases q : ed k <;> first | rfl | (rw [q] at hk; cases hk)
  rw [this, h.key]
  show some ((getKD (kvs.map fun (p : κ × α) => (ek p.1, e p.2)) (ek k)).isSome) = _
  rw [get_map h, ← get_has]; simp
theorem q_inK (h : KeyE ek ed) (k : κ) (kvs : List (κ × α)) : inDV (ed k) (eDI ek e kvs) = some (.val (eB (hasK kvs k))) := by unfold inDV; rw [inD_dic h]; rfl
theorem q_ninK (h : KeyE ek ed) (k : κ) (kvs : List (κ × α)) : notInDV (ed k) (eDI ek e kvs) = some (.val (eB (!hasK kvs k))) := by unfold notInDV; rw [inD_dic h]; rfl
theorem keI : KeyE kI eI := ⟨fun a b h => Sum.inl.inj h, fun _ => rfl⟩
theorem keS : KeyE kS eS := ⟨fun a b h => Sum.inr.inj h, fun _ => rfl⟩
omit [DecidableEq κ] in
theorem q_lenK (kvs : List (κ × α)) : one1 lenD [eDI ek e kvs] = some (.val (eI (kvs.length : Int))) := by
  show some (RV.val (.int ((kvs.map fun p => (ek p.1, e p.2)).length : Int))) = _
  rw [List.length_map]
end
/-- sorted keys of a dict -/
def sortK (kvs : List (Int × α)) : Option (List Int) := if kvs.length < 64 then some (sortI (kvs.map (·.1))) else none
theorem q_sortK {e : α → D} (kvs : List (Int × α)) (z : List Int) (h : sortK kvs = some z) : one1 sortedD2 [eDI kI e kvs] = some (.own (eL eI z)) := by
  have hk : intsD ((kvs.map fun p => (kI p.1, e p.2)).map fun kv => match kv.1 with | .inl i => D.int i | .inr x => D.str x) = some (kvs.map (·.1)) := by
    rw [List.map_map]
    exact (congrArg intsD (by rw [List.map_map]; rfl)).trans (intsD_map (kvs.map (·.1)))
  show (match dicI (eDI kI e kvs) with
    | some ns => if ns.length < 64 then some (RV.own (.lst ((sortI ns).map .int))) else none
    | none => none) = _
  have : dicI (eDI kI e kvs) = some (kvs.map (·.1)) := hk
  rw [this]
  show (if (kvs.map (·.1)).length < 64 then some (RV.own (.lst ((sortI (kvs.map (·.1))).map .int))) else none) = _
  rw [List.length_map]
  unfold sortK at h
  split at h
  · rename_i l; cases h; rw [if_pos l]
  · cases h
/-! displays -/
abbrev TPs (X Γ : Ctx) (c : List (M RV × M RV)) (t : m β) (o : β → List (D × D)) (Γ' : Ctx) : Prop := TR X Γ (pairsM c) t fun b a ρ' => a = o b ∧ EOk Γ' ρ'
theorem k_nil : TPs (m := m) X Γ [] (pure ()) (fun _ => []) Γ := TR.mk fun ρ h => At.ok rfl ⟨rfl, h⟩
theorem k_cons {ck cv : M RV} {r : List (M RV × M RV)} {tk : m α} {tv : m β} {tr : m γ} {dk : α → D} {dv : β → D} {dr : γ → List (D × D)} (hk : TZ X Γ ck tk dk Γ1) (hv : TZ X Γ1 cv tv dv Γ2) (hr : TPs X Γ2 r tr dr Γ3) :
    TPs X Γ ((ck, cv) :: r) (tk >>= fun a => tv >>= fun b => tr >>= fun c => pure (a, b, c)) (fun p => (dk p.1, dv p.2.1) :: dr p.2.2) Γ3 := TR.mk fun ρ hρ => by
  refine At.bnd (k := fun k => fzM cv >>= fun v => pairsM r >>= fun t => pure ((k, v) :: t)) (hk ρ hρ) fun x a ρ1 ⟨e1, h1⟩ => ?_
  subst e1
  refine At.bnd (hv ρ1 h1) fun y b ρ2 ⟨e2, h2⟩ => ?_
  subst e2
  refine At.bnd (hr ρ2 h2) fun z c ρ3 ⟨e3, h3⟩ => ?_
  subst e3
  exact At.pur ⟨rfl, h3⟩
variable [DecidableEq κ]
omit [DecidableEq κ] in
theorem keys_map {ek : κ → (Sum Int Str)} {ed : κ → D} {e : α → D} (h : KeyE ek ed) : ∀ ps : List (κ × α), keysD (ps.map fun p => (ed p.1, e p.2)) = some (ps.map fun p => (ek p.1, e p.2))
  | [] => rfl
  | p :: ps => by
    show (match keyD (ed p.1), keysD (ps.map fun p => (ed p.1, e p.2)) with
      | some k, some t => some ((k, e p.2) :: t)
      | _, _ => none) = _
    rw [h.key, keys_map h ps]; rfl
theorem merge_map {ek : κ → (Sum Int Str)} {ed : κ → D} {e : α → D} (h : KeyE ek ed) : ∀ (ps acc : List (κ × α)), mergeD (acc.map fun p => (ek p.1, e p.2)) (ps.map fun p => (ek p.1, e p.2)) = (ps.foldl (fun acc p => putK acc p.1 p.2) acc).map fun p => (ek p.1, e p.2)
  | [], acc => rfl
  | p :: ps, acc => by
    show mergeD (putKD (acc.map fun p => (ek p.1, e p.2)) (ek p.1) (e p.2)) (ps.map fun p => (ek p.1, e p.2)) = _
    rw [put_map h, merge_map h ps]; rfl
theorem e_dic {c : List (M RV × M RV)} {t : m β} {ek : κ → (Sum Int Str)} {ed : κ → D} {e : α → D} {ds : β → List (D × D)} (g : β → List (κ × α)) (k : KeyE ek ed) (h : TPs X Γ c t ds Γ1) (hd : ∀ b, ds b = (g b).map fun p => (ed p.1, e p.2)) (hl : ∀ b, (g b).length ≤ 15) :
    TE X Γ (dicM c) (t >>= fun b => pure (mkK (g b))) (fun z => .own (eDI ek e z)) Γ1 := TR.mk fun ρ hρ => by
  unfold dicM
  refine At.bnd (h ρ hρ) fun b a ρ1 ⟨e1, h1⟩ => ?_
  subst e1
  rw [hd, keys_map k]
  refine At.ok (a := .own (eDI ek e (mkK (g b)))) (ρ' := ρ1) ?_ ⟨rfl, h1⟩
  show (if ((g b).map fun p => (ek p.1, e p.2)).length ≤ 15 then (pure (RV.own (.dic (mergeD [] ((g b).map fun p => (ek p.1, e p.2))))) : M RV) else M.stuck) ρ1 = _
  rw [List.length_map, if_pos (hl b)]
  have := merge_map (e := e) k (g b) []
  show Res.ok (RV.own (.dic (mergeD ((([] : List (κ × α))).map fun p => (ek p.1, e p.2)) ((g b).map fun p => (ek p.1, e p.2))))) ρ1 = _
  rw [this]; rfl
end
end TL

/-! TL part f: zip of three. -/
namespace TL
open PySem hiding Env
open L2 VL
theorem zip3_map {e : α → D} {f : β → D} {g : γ → D} : ∀ (xs : List α) (ys : List β) (zs : List γ), zipL3 (xs.map e) (ys.map f) (zs.map g) = (xs.zip (ys.zip zs)).map (eP3 e f g)
  | [], ys, zs => by cases ys <;> cases zs <;> rfl
  | x :: xs, [], zs => by cases zs <;> rfl
  | x :: xs, y :: ys, [] => rfl
  | x :: xs, y :: ys, z :: zs => by show D.tup [e x, f y, g z] :: zipL3 (xs.map e) (ys.map f) (zs.map g) = _; rw [zip3_map xs ys zs]; rfl
theorem q_zip3 {e : α → D} {f : β → D} {g : γ → D} {a b c : D} (xs : List α) (ys : List β) (zs : List γ) (ha : itemsD a = some (xs.map e)) (hb : itemsD b = some (ys.map f)) (hc : itemsD c = some (zs.map g)) :
    zip3D [a, b, c] = some ((xs.zip (ys.zip zs)).map (eP3 e f g)) := by
  show (match itemsD a, itemsD b, itemsD c with
    | some xs, some ys, some zs => some (zipL3 xs ys zs)
    | _, _, _ => none) = _
  rw [ha, hb, hc]
  show some (zipL3 (xs.map e) (ys.map f) (zs.map g)) = _
  rw [zip3_map]
end TL

/-! TL part g: things whose kind is looked at as the program runs: answers read back from D, typed values read back from D. -/
namespace TL
open PySem hiding Env
open L2 VL
variable {α β γ δ : Type}
/-! ### a primitive's answer -/
def asDv : Option RV → Option D | some (.val d) => some d | _ => none
def asBv : Option RV → Option Bool | some (.val (.bl b)) => some b | _ => none
def asIv : Option RV → Option Int | some (.val (.int i)) => some i | _ => none
def asOv : Option RV → Option D | some (.own d) => some d | _ => none
theorem q_asD {o : Option RV} {z : D} (h : asDv o = some z) : o = some (.val (eD z)) := by
  unfold asDv at h; split at h
  · cases h; rfl
  · cases h
theorem q_asB {o : Option RV} {z : Bool} (h : asBv o = some z) : o = some (.val (eB z)) := by
  unfold asBv at h; split at h
  · cases h; rfl
  · cases h
theorem q_asI {o : Option RV} {z : Int} (h : asIv o = some z) : o = some (.val (eI z)) := by
  unfold asIv at h; split at h
  · cases h; rfl
  · cases h
theorem q_asO {o : Option RV} {z : D} (h : asOv o = some z) : o = some (.own (eD z)) := by
  unfold asOv at h; split at h
  · cases h; rfl
  · cases h
/-! ### typed values read back -/
def decI : D → Option Int | .int i => some i | _ => none
def decB : D → Option Bool | .bl b => some b | _ => none
def decS : D → Option Str | .str b => some b | _ => none
def decU : D → Option Unit | .non => some () | _ => none
def decD (d : D) : Option D := some d
def decLs (f : D → Option α) : List D → Option (List α)
  | [] => some []
  | d :: ds => match f d, decLs f ds with
    | some a, some as => some (a :: as)
    | _, _ => none
def decT (f : D → Option α) : D → Option (List α) | .tup ds => decLs f ds | _ => none
def decL (f : D → Option α) : D → Option (List α) | .lst ds => decLs f ds | _ => none
def decO (f : D → Option α) : D → Option (Option α) | .non => some none | d => (f d).map some
def decP (f : D → Option α) (g : D → Option β) : D → Option (α × β)
  | .tup [a, b] => match f a, g b with
    | some x, some y => some (x, y)
    | _, _ => none
  | _ => none
def decP3 (f : D → Option α) (g : D → Option β) (h : D → Option γ) : D → Option (α × β × γ)
  | .tup [a, b, c] => match f a, g b, h c with
    | some x, some y, some z => some (x, y, z)
    | _, _, _ => none
  | _ => none
def decP4 (f : D → Option α) (g : D → Option β) (h : D → Option γ) (k : D → Option δ) : D → Option (α × β × γ × δ)
  | .tup [a, b, c, d] => match f a, g b, h c, k d with
    | some x, some y, some z, some w => some (x, y, z, w)
    | _, _, _, _ => none
  | _ => none
abbrev Dec (f : D → Option α) (e : α → D) : Prop := ∀ d x, f d = some x → d = e x
theorem d_I : Dec decI eI := fun d x h => by unfold decI at h; split at h <;> cases h; rfl
theorem d_B : Dec decB eB := fun d x h => by unfold decB at h; split at h <;> cases h; rfl
theorem d_S : Dec decS eS := fun d x h => by unfold decS at h; split at h <;> cases h; rfl
theorem d_U : Dec decU eU := fun d x h => by unfold decU at h; split at h <;> cases h; rfl
theorem d_D : Dec decD eD := fun d x h => by cases h; rfl
theorem d_Ls {f : D → Option α} {e : α → D} (h : Dec f e) : ∀ (ds : List D) (xs : List α), decLs f ds = some xs → ds = xs.map e
  | [], xs, q => by cases q; rfl
  | d :: ds, xs, q => by
    unfold decLs at q
    cases h1 : f d with
    | none => rw [h1] at q; cases q
    | some a =>
      cases h2 : decLs f ds with
      | none => rw [h1, h2] at q; cases q
      | some as =>
        rw [h1, h2] at q; cases q
        rw [h _ _ h1, d_Ls h ds as h2]; rfl
theorem d_T {f : D → Option α} {e : α → D} (h : Dec f e) : Dec (decT f) (eT e) := fun d x q => by
  unfold decT at q; split at q
  · rw [d_Ls h _ _ q]
  · cases q
theorem d_L {f : D → Option α} {e : α → D} (h : Dec f e) : Dec (decL f) (eL e) := fun d x q => by
  unfold decL at q; split at q
  · rw [d_Ls h _ _ q]
  · cases q
theorem d_O {f : D → Option α} {e : α → D} (h : Dec f e) : Dec (decO f) (eO e) := fun d x q => by
  unfold decO at q; split at q
  · cases q; rfl
  · cases h1 : f d with
    | none => rw [h1] at q; cases q
    | some a => rw [h1] at q; cases q; exact h _ _ h1
theorem d_P {f : D → Option α} {g : D → Option β} {e : α → D} {e' : β → D} (h : Dec f e) (h' : Dec g e') : Dec (decP f g) (eP e e') := fun d x q => by
  unfold decP at q; split at q
  · split at q
    · rename_i a b x y h1 h2
      cases q; rw [h _ _ h1, h' _ _ h2]
    · cases q
  · cases q
theorem d_P3 {f : D → Option α} {g : D → Option β} {k : D → Option γ} {e : α → D} {e' : β → D} {e2 : γ → D} (h : Dec f e) (h' : Dec g e') (h2 : Dec k e2) : Dec (decP3 f g k) (eP3 e e' e2) := fun d x q => by
  unfold decP3 at q; split at q
  · split at q
    · rename_i _ h1 h3 h4
      cases q; rw [h _ _ h1, h' _ _ h3, h2 _ _ h4]
    · cases q
  · cases q
theorem d_P4 {f : D → Option α} {g : D → Option β} {k : D → Option γ} {l : D → Option δ} {e : α → D} {e' : β → D} {e2 : γ → D} {e3 : δ → D} (h : Dec f e) (h' : Dec g e') (h2 : Dec k e2) (h3 : Dec l e3) : Dec (decP4 f g k l) (eP4 e e' e2 e3) := fun d x q => by
  unfold decP4 at q; split at q
  · split at q
    · rename_i _ h1 h4 h5 h6
      cases q; rw [h _ _ h1, h' _ _ h4, h2 _ _ h5, h3 _ _ h6]
    · cases q
  · cases q
/-- a value of one form read as one of another form -/
def re (e : α → D) (f : D → Option β) (x : α) : Option β := f (e x)
theorem q_re {e : α → D} {e' : β → D} {f : D → Option β} (h : Dec f e') (a : α) (b : β) (q : re e f a = some b) : RV.val (e a) = RV.val (e' b) := by rw [h _ _ q]
/-! ### read back what was laid -/
@[simp] theorem decI_e (i : Int) : decI (eI i) = some i := rfl
@[simp] theorem decB_e (i : Bool) : decB (eB i) = some i := rfl
@[simp] theorem decS_e (i : Str) : decS (eS i) = some i := rfl
theorem decP_e {f : D → Option α} {g : D → Option β} {e : α → D} {e' : β → D} {p : α × β} (h : f (e p.1) = some p.1) (h' : g (e' p.2) = some p.2) : decP f g (eP e e' p) = some p := by
  show (match f (e p.1), g (e' p.2) with | some x, some y => some (x, y) | _, _ => none) = _
  rw [h, h']
theorem decP3_e {f : D → Option α} {g : D → Option β} {k : D → Option γ} {e : α → D} {e' : β → D} {e2 : γ → D} {p : α × β × γ} {q : α × β × γ} (h : f (e p.1) = some q.1) (h' : g (e' p.2.1) = some q.2.1) (h2 : k (e2 p.2.2) = some q.2.2) : decP3 f g k (eP3 e e' e2 p) = some q := by
  show (match f (e p.1), g (e' p.2.1), k (e2 p.2.2) with | some x, some y, some z => some (x, y, z) | _, _, _ => none) = _
  rw [h, h', h2]
theorem decLs_e {f : D → Option α} {e : β → D} {g : β → α} : ∀ (xs : List β), (∀ x ∈ xs, f (e x) = some (g x)) → decLs f (xs.map e) = some (xs.map g)
  | [], _ => rfl
  | x :: xs, h => by
    rw [List.map_cons]
    unfold decLs
    rw [h x (by simp), decLs_e xs fun y hy => h y (by simp [hy])]
    rfl
/-! ### answers without a word of how they are decided -/
theorem inT_ex [DecidableEq α] {e : α → D} {n : Nat} (q : EqE e n) (hn : n + 1 ≤ 64) (a : α) (xs : List α) : ∃ b : Bool, asBv (inDV (e a) (eT e xs)) = some b ∧ (b = true ↔ a ∈ xs) := ⟨_, by rw [q_inT q hn a xs]; rfl, decide_eq_true_iff⟩
theorem inL_ex [DecidableEq α] {e : α → D} {n : Nat} (q : EqE e n) (hn : n + 1 ≤ 64) (a : α) (xs : List α) : ∃ b : Bool, asBv (inDV (e a) (eL e xs)) = some b ∧ (b = true ↔ a ∈ xs) := ⟨_, by rw [q_inL q hn a xs]; rfl, decide_eq_true_iff⟩
theorem eq_ex [DecidableEq α] {e : α → D} {n : Nat} (q : EqE e n) (hn : n ≤ 64) (a b : α) : ∃ c : Bool, asBv (eqD (e a) (e b)) = some c ∧ (c = true ↔ a = b) := ⟨_, by rw [q_eq q hn a b]; rfl, decide_eq_true_iff⟩
/-! ### a law's own comparison, by what its def looks at: L lists, R ints by repr, X texts by repr -/
inductive SameG (L R X : Bool) : Nat → D → Prop
  | int {n : Nat} (i : Int) (h : R = true → i.natAbs.log2 < 1920) : SameG L R X n (.int i)
  | bl {n : Nat} (i : Bool) : SameG L R X n (.bl i)
  | non {n : Nat} : SameG L R X n .non
  | str {n : Nat} (x : Str) (h : X = true) (hl : (reprText x).length ≤ 1000) (ho : PyData.strOk (reprText x) = true) : SameG L R X n (.str x)
  | tup {n : Nat} {ds : List D} (h : ∀ d ∈ ds, SameG L R X n d) (hl : ds.length ≤ 100000) : SameG L R X (n + 1) (.tup ds)
  | lst {n : Nat} {ds : List D} (hL : L = true) (h : ∀ d ∈ ds, SameG L R X n d) (hl : ds.length ≤ 100000) : SameG L R X (n + 1) (.lst ds)
open Classical in
noncomputable def isTG (L R X : Bool) (a b : D) : O Bool := if a = b ∧ SameG L R X 8 a then .ok true else .st
theorem is_specG {L R X : Bool} {cf : CF} {i : Nat} (hi : ∀ a, SameG L R X 8 a → cf i [.val a, .val a] = .ok (.val (.bl true)) [.val a, .val a]) (a b : D) :
    TF (m := O) [.free, .free] [.val a, .val b] (cf i) (isTG L R X a b) (fun b => kv false (eB b)) (fun _ => [.val a, .val b]) := TR.mk fun ρ hρ Q E hs => by
  match ρ, hρ with
  | [x, y], ⟨hx, hy, _⟩ =>
    cases (show x = .val a from hx)
    cases (show y = .val b from hy)
    unfold isTG at hs
    by_cases h : a = b ∧ SameG L R X 8 a
    · rw [if_pos h] at hs
      obtain ⟨rfl, h2⟩ := h
      rw [hi a h2]
      exact ⟨true, ⟨rfl, rfl, rfl, trivial⟩, hs⟩
    · rw [if_neg h] at hs; exact hs.elim
theorem isTG_eq {L R X : Bool} {a b : D} (h : a = b) (s : SameG L R X 8 a) : isTG L R X a b = pure true := by unfold isTG; rw [if_pos ⟨h, s⟩]; rfl
section
variable {L R X : Bool} {n : Nat}
theorem sameG_int {i : Int} (h : i.natAbs < 2 ^ 1900) : SameG L R X n (eI i) := .int i fun _ => log2_small (Nat.lt_of_lt_of_le h (Nat.pow_le_pow_right (by omega) (by omega))) (by omega)
theorem sameG_bl (b : Bool) : SameG L R X n (eB b) := .bl b
theorem sameG_T {e : α → D} {xs : List α} (he : ∀ a ∈ xs, SameG L R X n (e a)) (h : xs.length ≤ 100000) : SameG L R X (n + 1) (eT e xs) := .tup (fun d hd => by obtain ⟨x, hx, rfl⟩ := List.mem_map.mp hd; exact he x hx) (by rw [List.length_map]; exact h)
theorem sameG_L {e : α → D} {xs : List α} (hL : L = true) (he : ∀ a ∈ xs, SameG L R X n (e a)) (h : xs.length ≤ 100000) : SameG L R X (n + 1) (eL e xs) := .lst hL (fun d hd => by obtain ⟨x, hx, rfl⟩ := List.mem_map.mp hd; exact he x hx) (by rw [List.length_map]; exact h)
theorem sameG_P {e : α → D} {f : β → D} {p : α × β} (he : SameG L R X n (e p.1)) (hf : SameG L R X n (f p.2)) : SameG L R X (n + 1) (eP e f p) := .tup (fun d hd => by
  have hd : d = e p.1 ∨ d = f p.2 := by simpa using hd
  rcases hd with rfl | rfl
  · exact he
  · exact hf) (by show 2 ≤ 100000; omega)
theorem sameG_P3 {e : α → D} {f : β → D} {g : γ → D} {p : α × β × γ} (he : SameG L R X n (e p.1)) (hf : SameG L R X n (f p.2.1)) (hg : SameG L R X n (g p.2.2)) : SameG L R X (n + 1) (eP3 e f g p) := .tup (fun d hd => by
  have hd : d = e p.1 ∨ d = f p.2.1 ∨ d = g p.2.2 := by simpa using hd
  rcases hd with rfl | rfl | rfl
  · exact he
  · exact hf
  · exact hg) (by show 3 ≤ 100000; omega)
theorem sameG_O {e : α → D} {a : Option α} (he : ∀ x, a = some x → SameG L R X n (e x)) : SameG L R X n (eO e a) := by cases a with | none => exact .non | some a => exact he a rfl
end
end TL

/-! TL part m: running typed programs, for any law's math. -/
namespace TL
open PySem hiding Env
open VL
section
variable {α β γ σ τ : Type}
/-! ### W -/
@[simp] theorem W_bind (w : W α) (f : α → W β) (Q : β → Prop) (E : Exc → Prop) : (w >>= f) Q E = w (fun a => f a Q E) E := rfl
@[simp] theorem W_pure (a : α) (Q : α → Prop) (E : Exc → Prop) : (pure a : W α) Q E = Q a := rfl
@[simp] theorem W_up (o : O α) (Q : α → Prop) (E : Exc → Prop) : (TM.up o : W α) Q E = osat o Q E := rfl
@[simp] theorem W_lf (o : Option α) (Q : α → Prop) (E : Exc → Prop) : (lf o : W α) Q E = osat (oOf o) Q E := rfl
@[simp] theorem osat_pure (a : α) (Q : α → Prop) (E : Exc → Prop) : osat (pure a) Q E = Q a := rfl
@[simp] theorem osat_some (a : α) (Q : α → Prop) (E : Exc → Prop) : osat (oOf (some a)) Q E = Q a := rfl
@[simp] theorem W_draw (n : Int) (Q : Int → Prop) (E : Exc → Prop) : drawW n Q E = (0 < n ∧ n < 1073741824 ∧ ∀ v, 0 ≤ v → v < n → Q v) := rfl
theorem W_ite (c : Prop) [Decidable c] (u v : W α) (Q : α → Prop) (E : Exc → Prop) : (if c then u else v) Q E = if c then u Q E else v Q E := by split <;> rfl
@[simp] theorem W_noex (w : W α) (Q : α → Prop) (E : Exc → Prop) : (TM.noex w : W α) Q E = w Q (fun _ => False) := rfl
@[simp] theorem sumK_inl {m : Type → Type} (f : σ → m β) (g : τ → m β) (s : σ) : sumK f g (.inl s) = f s := rfl
@[simp] theorem sumK_inr {m : Type → Type} (f : σ → m β) (g : τ → m β) (s : τ) : sumK f g (.inr s) = g s := rfl
@[simp] theorem O_bind_ok (a : α) (f : α → O β) : (pure a >>= f : O β) = f a := rfl
theorem isT_eq {a b : D} (h : a = b) (s : VL.Same 8 a) : isT a b = pure true := by unfold isT; rw [if_pos ⟨h, s⟩]; rfl
theorem isTR_eq {a b : D} (h : a = b) (s : VL.SameR 8 a) : isTR a b = pure true := by unfold isTR; rw [if_pos ⟨h, s⟩]; rfl
theorem same_int (n : Nat) (i : Int) : VL.Same n (eI i) := .int i
theorem same_bl (n : Nat) (i : Bool) : VL.Same n (eB i) := .bl i
theorem same_tup {n : Nat} {e : α → D} (he : ∀ a, VL.Same n (e a)) (xs : List α) (h : xs.length ≤ 100000) : VL.Same (n + 1) (eT e xs) := .tup (fun d hd => by obtain ⟨x, _, rfl⟩ := List.mem_map.mp hd; exact he x) (by rw [List.length_map]; exact h)
theorem same_lst {n : Nat} {e : α → D} (he : ∀ a, VL.Same n (e a)) (xs : List α) (h : xs.length ≤ 100000) : VL.Same (n + 1) (eL e xs) := .lst (fun d hd => by obtain ⟨x, _, rfl⟩ := List.mem_map.mp hd; exact he x) (by rw [List.length_map]; exact h)
theorem same_pair {n : Nat} {e : α → D} {f : β → D} (he : ∀ a, VL.Same n (e a)) (hf : ∀ a, VL.Same n (f a)) (p : α × β) : VL.Same (n + 1) (eP e f p) := .tup (fun d hd => by
  rcases List.mem_cons.mp hd with rfl | hd
  · exact he _
  · rcases List.mem_cons.mp hd with rfl | hd
    · exact hf _
    · cases hd) (by show 2 ≤ 100000; decide)
theorem same_opt {n : Nat} {e : α → D} (he : ∀ a, VL.Same n (e a)) (a : Option α) : VL.Same n (eO e a) := by cases a with | none => exact .non | some a => exact he a
theorem same_mono {n : Nat} {d : D} (h : VL.Same n d) : VL.Same (n + 1) d := by
  induction h with
  | int i => exact .int i
  | bl i => exact .bl i
  | non => exact .non
  | tup h hl ih => exact .tup ih hl
  | lst h hl ih => exact .lst ih hl
/-- the whole law -/
theorem law_true {f : M RV} {Xa Γa : Ctx} {t : W Bool} {Γ' : Bool → Ctx} {as : VL.Env} (h : TF (m := W) Xa Γa f t (fun b => kv false (eB b)) Γ') (ha : EOk Γa as) (hw : t (fun b => b = true) (fun _ => False)) : ∃ ρ', f as = .ok (.val (.bl true)) ρ' := by
  have := h as ha (fun b => b = true) (fun _ => False) hw
  cases q : f as with
  | stuck => rw [q] at this; exact this.elim
  | exc x ρ' => rw [q] at this; exact this.1.elim
  | ok a ρ' =>
    rw [q] at this
    obtain ⟨b, ⟨rfl, _⟩, hb⟩ := this
    exact ⟨ρ', by rw [hb]⟩
/-- one statement: its value goes to the rest -/
theorem wk {w : W α} {f : α → W β} {Q : β → Prop} {E : Exc → Prop} (h : ∀ K : α → Prop, (∀ a, f a Q E → K a) → w K E) : (w >>= f) Q E := h (fun a => f a Q E) fun a h => h
theorem wfalse {A B : W β} {Q : β → Prop} {E : Exc → Prop} (h : B Q E) : (if false = true then A else B) Q E := h
theorem wtrue {A B : W β} {Q : β → Prop} {E : Exc → Prop} (h : A Q E) : (if true = true then A else B) Q E := h
/-- a test that must be False -/
theorem wg {w : W Bool} {A B : W β} {Q : β → Prop} {E : Exc → Prop} (h : ∀ K : Bool → Prop, K false → w K E) (k : B Q E) : (w >>= fun b => if b = true then A else B) Q E := h (fun b => (if b = true then A else B) Q E) k
/-- a statement whose value is known -/
theorem wv {w : W α} {f : α → W β} {Q : β → Prop} {E : Exc → Prop} (a : α) (h : ∀ K : α → Prop, K a → w K E) (k : f a Q E) : (w >>= f) Q E := h (fun a => f a Q E) k
/-- a statement whose value has P -/
theorem wP {w : W α} {f : α → W β} {Q : β → Prop} {E : Exc → Prop} (P : α → Prop) (h : ∀ K : α → Prop, (∀ a, P a → K a) → w K E) (k : ∀ a, P a → f a Q E) : (w >>= f) Q E := h (fun a => f a Q E) k
theorem wp {w : W α} {a : α} {f : α → W β} {Q : β → Prop} {E : Exc → Prop} (e : w = pure a) (h : f a Q E) : (w >>= f) Q E := by rw [e]; exact h
theorem wu {o : O α} {a : α} {f : α → W β} {Q : β → Prop} {E : Exc → Prop} (e : o = pure a) (h : f a Q E) : ((TM.up o : W α) >>= f) Q E := by rw [e]; exact h
/-! ### numbers -/
theorem mulI_ok {i j : Int} (h : mulOk i j = true) : mulI i j = some (i * j) := by unfold mulI; rw [if_pos h]
theorem mulI_l {i j : Int} (h : i.natAbs < 18446744073709551616) : mulI i j = some (i * j) := mulI_ok (by simp [mulOk, h])
theorem mulI_r {i j : Int} (h : j.natAbs < 18446744073709551616) : mulI i j = some (i * j) := mulI_ok (by simp [mulOk, h])
theorem modI_pos {i j : Int} (h : 0 < j) : modI i j = some (i % j) := by
  unfold modI; rw [if_pos (by simp; omega), Int.fmod_eq_emod_of_nonneg i (by omega)]
theorem divI_pos {i j : Int} (h : 0 < j) (h2 : j < 1073741824) : divI i j = some (i / j) := by
  unfold divI; rw [if_pos (divOk_small (by omega) (by omega)), Int.fdiv_eq_ediv_of_nonneg i (by omega)]
theorem divI_ok {i j : Int} (h : j ≠ 0) (h2 : j.natAbs.log2 < 9000) : divI i j = some (i.fdiv j) := by
  unfold divI; rw [if_pos (show divOk j = true from decide_eq_true ⟨h, h2⟩)]
theorem maxI_eq (i j : Int) : maxI i j = max i j := by unfold maxI; split <;> omega
theorem minI_eq (i j : Int) : minI i j = min i j := by unfold minI; split <;> omega
theorem absI_eq (i : Int) : absI i = (i.natAbs : Int) := by unfold absI; split <;> omega
/-! ### lists -/
theorem ixL_nat (xs : List α) (i : Nat) : ixL xs (i : Int) = xs[i]? := by
  unfold ixL L2.atI L2.ixN
  rw [if_pos (by omega)]
  by_cases h : i < xs.length
  · rw [if_pos (by omega)]; simp
  · rw [if_neg (by omega)]; simp; omega
theorem ixL_pos {xs : List α} {i : Int} (h0 : 0 ≤ i) : ixL xs i = xs[i.toNat]? := by
  have := ixL_nat xs i.toNat
  rwa [Int.toNat_of_nonneg h0] at this
@[simp] theorem ixL_0 (x : α) (xs : List α) : ixL (x :: xs) 0 = some x := by rw [ixL_pos (by omega)]; rfl
theorem ixL_zero (xs : List α) : ixL xs 0 = xs[0]? := by rw [ixL_pos (by omega)]; rfl
theorem ixL_last (xs : List α) : ixL xs (-1) = xs.getLast? := by
  unfold ixL L2.atI L2.ixN
  rw [if_neg (by omega)]
  by_cases h : xs.length = 0
  · have : xs = [] := List.eq_nil_of_length_eq_zero h
    subst this; simp
  · rw [if_pos (by omega)]
    show xs[(-1 + (xs.length : Int)).toNat]? = _
    rw [List.getLast?_eq_getElem?]
    congr 1; omega
theorem pushL_ok {xs : List α} {x : α} (h : xs.length < 16777216) : pushL xs x = some (xs ++ [x]) := by unfold pushL; rw [if_pos (show xs.length < LIM from h)]
theorem catO_ok {xs ys : List α} (h : xs.length + ys.length ≤ 16777216) : catO xs ys = some (xs ++ ys) := by unfold catO; rw [if_pos (LIM_big h)]
theorem setL_ok {xs : List α} {i : Int} {v : α} (h0 : 0 ≤ i) (h1 : i < xs.length) : setL xs i v = some (xs.set i.toNat v) := by
  unfold setL L2.ixN; rw [if_pos h0, if_pos h1]; rfl
theorem lim62_ok {i : Int} (h0 : -1000000000000000000 ≤ i) (h1 : i ≤ 1000000000000000000) : lim62 i = true := by
  have e : (2 : Int) ^ 62 = 4611686018427387904 := by decide
  exact decide_eq_true ⟨by rw [e]; omega, by rw [e]; omega⟩
theorem rngO1_ok {n : Int} (h0 : -1000000000000000000 ≤ n) (h1 : n ≤ 1000000000000000000) : rngO1 n = some (rngI 0 n) := by unfold rngO1; rw [if_pos (lim62_ok h0 h1)]
theorem rngO2_ok {a b : Int} (h0 : -1000000000000000000 ≤ a) (h1 : a ≤ 1000000000000000000) (h2 : -1000000000000000000 ≤ b) (h3 : b ≤ 1000000000000000000) : rngO2 a b = some (rngI a b) := by
  unfold rngO2; rw [if_pos (by rw [lim62_ok h0 h1, lim62_ok h2 h3]; rfl)]
theorem mem_rng {a b s : Int} : s ∈ rngI a b ↔ a ≤ s ∧ s < b := by
  constructor
  · exact rng_mem
  · intro ⟨h1, h2⟩
    refine List.mem_map.mpr ⟨(s - a).toNat, List.mem_range.mpr (by omega), ?_⟩
    omega
theorem rng_nat (n : Nat) : rngI 0 (n : Int) = (List.range n).map fun (i : Nat) => (i : Int) := by
  unfold rngI
  simp
theorem rng_snoc {a b : Int} (h : a ≤ b) : rngI a (b + 1) = rngI a b ++ [b] := by
  unfold rngI
  have e : (b + 1 - a).toNat = (b - a).toNat + 1 := by omega
  rw [e, List.range_succ, List.map_append]
  congr 1
  simp; omega
theorem rng_nil {a b : Int} (h : b ≤ a) : rngI a b = [] := by
  unfold rngI
  have e : (b - a).toNat = 0 := by omega
  rw [e]; rfl
theorem sIx_none (n d : Nat) : HT.sIx n d none = d := rfl
theorem sIx_pos {n d : Nat} {i : Int} (h : 0 ≤ i) : HT.sIx n d (some i) = min i.toNat n := by
  show (if i < 0 then _ else _) = _
  rw [if_neg (by omega)]
theorem cut_drop (xs : List α) {i : Int} (h : 0 ≤ i) : cutL xs (some i) none = xs.drop i.toNat := by
  unfold cutL
  rw [sIx_pos h, sIx_none]
  by_cases q : i.toNat ≤ xs.length
  · rw [Nat.min_eq_left q, List.take_of_length_le]; simp
  · have : xs.length ≤ i.toNat := by omega
    rw [Nat.min_eq_right this, List.drop_of_length_le (Nat.le_refl _), List.drop_of_length_le this]; simp
theorem cut_take (xs : List α) {i : Int} (h : 0 ≤ i) : cutL xs none (some i) = xs.take i.toNat := by
  unfold cutL
  rw [sIx_pos h, sIx_none, List.drop_zero, Nat.sub_zero]
  by_cases q : i.toNat ≤ xs.length
  · rw [Nat.min_eq_left q]
  · have : xs.length ≤ i.toNat := by omega
    rw [Nat.min_eq_right this, List.take_length, List.take_of_length_le this]
/-! ### comprehensions -/
theorem lcL_O (p : α → O Bool) (el : α → O β) (P : α → Bool) (F : α → β) : ∀ (xs : List α), (∀ x ∈ xs, p x = pure (P x)) → (∀ x ∈ xs, P x = true → el x = pure (F x)) → lcL p el xs = pure ((xs.filter P).map F)
  | [], _, _ => rfl
  | x :: xs, h1, h2 => by
    show (p x >>= fun b => if b = true then el x >>= fun y => lcL p el xs >>= fun ys => pure (y :: ys) else lcL p el xs) = _
    rw [h1 x (by simp), pure_bind, lcL_O p el P F xs (fun y hy => h1 y (by simp [hy])) (fun y hy => h2 y (by simp [hy])), List.filter_cons]
    cases h : P x
    · simp
    · simp only [if_true]; rw [h2 x (by simp) h]; simp
theorem lcT_O {p : α → O Bool} {el : α → O β} (P : α → Bool) (F : α → β) {xs : List α} (hl : xs.length ≤ 16777216) (h1 : ∀ x ∈ xs, p x = pure (P x)) (h2 : ∀ x ∈ xs, P x = true → el x = pure (F x)) : lcT p el xs = pure ((xs.filter P).map F) := by
  unfold lcT; rw [if_pos (LIM_big hl), lcL_O p el P F xs h1 h2]; rfl
theorem flt_true (xs : List α) : xs.filter (fun _ => true) = xs := List.filter_eq_self.mpr fun _ _ => rfl
/-- no condition -/
theorem lcT_O' {el : α → O β} (F : α → β) {xs : List α} (hl : xs.length ≤ 16777216) (h2 : ∀ x ∈ xs, el x = pure (F x)) : lcT (fun _ => (pure true : O Bool)) el xs = pure (xs.map F) := by
  rw [lcT_O (fun _ => true) F hl (fun _ _ => rfl) (fun x hx _ => h2 x hx), flt_true]
theorem lcL_W (p : α → W Bool) (el : α → W β) (P : α → β → Prop) (c : α → Bool) : ∀ (xs : List α) (Q : List β → Prop) (E : Exc → Prop), (∀ x ∈ xs, ∀ Q : Bool → Prop, Q (c x) → p x Q E) → (∀ x ∈ xs, c x = true → ∀ Q : β → Prop, (∀ y, P x y → Q y) → el x Q E) →
    (∀ ys : List β, ys.length = (xs.filter c).length → (∀ q ∈ (xs.filter c).zip ys, P q.1 q.2) → Q ys) → lcL p el xs Q E
  | [], Q, E, _, _, h => h [] rfl (by simp)
  | x :: xs, Q, E, h1, h2, h => by
    show p x (fun b => (if b = true then el x >>= fun y => lcL p el xs >>= fun ys => pure (y :: ys) else lcL p el xs) Q E) E
    apply h1 x (by simp)
    cases hc : c x with
    | true =>
      show el x (fun y => lcL p el xs (fun ys => Q (y :: ys)) E) E
      apply h2 x (by simp) hc
      intro y hy
      refine lcL_W p el P c xs _ E (fun z hz => h1 z (by simp [hz])) (fun z hz => h2 z (by simp [hz])) fun ys hl hq => ?_
      refine h (y :: ys) (by rw [List.filter_cons, if_pos hc, List.length_cons, List.length_cons, hl]) fun q hq' => ?_
      rw [List.filter_cons, if_pos hc, List.zip_cons_cons] at hq'
      rcases List.mem_cons.mp hq' with rfl | hq'
      · exact hy
      · exact hq q hq'
    | false =>
      show lcL p el xs Q E
      refine lcL_W p el P c xs _ E (fun z hz => h1 z (by simp [hz])) (fun z hz => h2 z (by simp [hz])) fun ys hl hq => ?_
      have hf : (x :: xs).filter c = xs.filter c := by rw [List.filter_cons, if_neg (by rw [hc]; decide)]
      exact h ys (by rw [hf]; exact hl) (by rw [hf]; exact hq)
/-- a comprehension that draws: each item has P -/
theorem lcT_W {el : α → W β} (P : α → β → Prop) {xs : List α} {Q : List β → Prop} {E : Exc → Prop} (hl : xs.length ≤ 16777216) (h2 : ∀ x ∈ xs, ∀ Q : β → Prop, (∀ y, P x y → Q y) → el x Q (fun _ => False)) (h : ∀ ys : List β, ys.length = xs.length → (∀ q ∈ xs.zip ys, P q.1 q.2) → Q ys) :
    lcT (fun _ => (pure true : W Bool)) el xs Q E := by
  unfold lcT
  rw [if_pos (LIM_big hl)]
  show lcL _ el xs Q (fun _ => False)
  exact lcL_W _ el P (fun _ => true) xs Q _ (fun x _ Q h => h) (fun x hx _ => h2 x hx) fun ys h3 h4 => h ys (by rw [flt_true] at h3; exact h3) (by rw [flt_true] at h4; exact h4)
/-- all of a comprehension -/
theorem lcT_all {el : α → W Bool} {xs : List α} {Q : List Bool → Prop} {E : Exc → Prop} (hl : xs.length ≤ 16777216) (h2 : ∀ x ∈ xs, el x (fun b => b = true) (fun _ => False)) (mono : ∀ x ∈ xs, ∀ Q Q' : Bool → Prop, (∀ b, Q b → Q' b) → el x Q (fun _ => False) → el x Q' (fun _ => False)) (h : ∀ ys : List Bool, ys.all id = true → Q ys) :
    lcT (fun _ => (pure true : W Bool)) el xs Q E := lcT_W (fun _ b => b = true) hl (fun x hx Q hQ => mono x hx _ _ hQ (h2 x hx)) fun ys h3 h4 => h ys (by
      rw [List.all_eq_true]
      intro y hy
      obtain ⟨i, hi, rfl⟩ := List.getElem_of_mem hy
      exact h4 (xs[i]'(by omega), ys[i]) (List.mem_iff_getElem.mpr ⟨i, by simp; omega, by simp⟩))
/-! ### loops -/
theorem foldT_O {f : σ → α → O σ} (g : σ → α → σ) (I : List α → σ → Prop) (hs : ∀ x xs s, I (x :: xs) s → f s x = pure (g s x) ∧ I xs (g s x)) : ∀ (xs : List α) (s : σ), I xs s → foldT f s xs = pure (xs.foldl g s) ∧ I [] (xs.foldl g s)
  | [], s, h => ⟨rfl, h⟩
  | x :: xs, s, h => by
    obtain ⟨h1, h2⟩ := hs x xs s h
    obtain ⟨h3, h4⟩ := foldT_O g I hs xs (g s x) h2
    exact ⟨by rw [foldT_cons, h1, pure_bind, h3]; rfl, h4⟩
theorem foldT_ex {f : σ → α → O σ} (I : List α → σ → Prop) (hs : ∀ x xs s, I (x :: xs) s → ∃ s', f s x = pure s' ∧ I xs s') : ∀ (xs : List α) (s : σ), I xs s → ∃ s', foldT f s xs = pure s' ∧ I [] s'
  | [], s, h => ⟨s, rfl, h⟩
  | x :: xs, s, h => by
    obtain ⟨s1, h1, h2⟩ := hs x xs s h
    obtain ⟨s2, h3, h4⟩ := foldT_ex I hs xs s1 h2
    exact ⟨s2, by rw [foldT_cons, h1, pure_bind, h3], h4⟩
/-- a loop by an invariant that tells the state behind what is done -/
theorem foldT_done {f : σ → α → O σ} (S : List α → σ) : ∀ (xs done : List α), (∀ x (d : List α) (r : List α), done ++ xs = d ++ x :: r → f (S d) x = pure (S (d ++ [x]))) → foldT f (S done) xs = pure (S (done ++ xs))
  | [], done, _ => by rw [List.append_nil]; rfl
  | x :: xs, done, h => by
    rw [foldT_cons, h x done xs rfl, pure_bind]
    have := foldT_done S xs (done ++ [x]) (fun y d r e => h y d r (by rw [← e]; simp))
    rw [this]; simp
theorem foldT_W {f : σ → α → W σ} (I : List α → σ → Prop) {E : Exc → Prop} (hs : ∀ x xs s, I (x :: xs) s → ∀ Q : σ → Prop, (∀ s', I xs s' → Q s') → f s x Q E) : ∀ (xs : List α) (s : σ) (Q : σ → Prop), I xs s → (∀ s', I [] s' → Q s') → foldT f s xs Q E
  | [], s, Q, h, hQ => hQ s h
  | x :: xs, s, Q, h, hQ => hs x xs s h _ fun s' h' => foldT_W I hs xs s' Q h' hQ
theorem loopT_W {f : σ → α → W (FL σ τ)} (I : List α → σ → Prop) (R : τ → Prop) {E : Exc → Prop} (hs : ∀ x xs s, I (x :: xs) s → ∀ Q : FL σ τ → Prop, (∀ s', I xs s' → Q (.nx s')) → (∀ s', I [] s' → Q (.brk s')) → (∀ v, R v → Q (.ret v)) → f s x Q E) :
    ∀ (xs : List α) (s : σ) (Q : Sum σ τ → Prop), I xs s → (∀ s', I [] s' → Q (.inl s')) → (∀ v, R v → Q (.inr v)) → loopT f s xs Q E
  | [], s, Q, h, hQ, _ => hQ s h
  | x :: xs, s, Q, h, hQ, hR => by
    refine hs x xs s h (fun r => (match r with
      | .nx s => loopT f s xs
      | .brk s => pure (.inl s)
      | .ret v => pure (.inr v) : W (Sum σ τ)) Q E) (fun s' h' => loopT_W I R hs xs s' Q h' hQ hR) (fun s' h' => hQ s' h') (fun v hv => hR v hv)
/-- a loop that never leaves early -/
theorem loopT_W' {f : σ → α → W (FL σ τ)} (I : List α → σ → Prop) {E : Exc → Prop} (hs : ∀ x xs s, I (x :: xs) s → ∀ Q : FL σ τ → Prop, (∀ s', I xs s' → Q (.nx s')) → f s x Q E) (xs : List α) (s : σ) (Q : Sum σ τ → Prop) (h : I xs s) (hQ : ∀ s', I [] s' → Q (.inl s')) : loopT f s xs Q E :=
  loopT_W I (fun _ => False) (fun x xs s h Q h1 _ _ => hs x xs s h Q h1) xs s Q h hQ (fun _ h => h.elim)
theorem loopT_O {f : σ → α → O (FL σ τ)} (g : σ → α → σ) (I : List α → σ → Prop) (hs : ∀ x xs s, I (x :: xs) s → f s x = pure (.nx (g s x)) ∧ I xs (g s x)) : ∀ (xs : List α) (s : σ), I xs s → loopT f s xs = pure (.inl (xs.foldl g s)) ∧ I [] (xs.foldl g s)
  | [], s, h => ⟨rfl, h⟩
  | x :: xs, s, h => by
    obtain ⟨h1, h2⟩ := hs x xs s h
    obtain ⟨h3, h4⟩ := loopT_O g I hs xs (g s x) h2
    refine ⟨?_, h4⟩
    show (f s x >>= fun r => match r with
      | .nx s => loopT f s xs
      | .brk s => pure (.inl s)
      | .ret v => pure (.inr v)) = _
    rw [h1, pure_bind]; exact h3
/-- while, by a measure: each turn the state goes on by g, as long as p -/
theorem whileP_O {p : σ → O Bool} {f : σ → O σ} (I : σ → Prop) (μ : σ → Nat) (R : σ → Prop) (hs : ∀ s, I s → (p s = pure false ∧ R s) ∨ (p s = pure true ∧ ∃ s', f s = pure s' ∧ I s' ∧ μ s' < μ s)) : ∀ (n : Nat) (s : σ), I s → μ s < n → ∃ s', whileP p f n s = pure s' ∧ R s'
  | 0, s, _, h => by omega
  | n + 1, s, h, hn => by
    show ∃ s', (p s >>= fun b => if b = true then f s >>= fun s => whileP p f n s else pure s) = pure s' ∧ R s'
    rcases hs s h with ⟨h1, h2⟩ | ⟨h1, s', h2, h3, h4⟩
    · exact ⟨s, by rw [h1, pure_bind]; rfl, h2⟩
    · obtain ⟨s2, h5, h6⟩ := whileP_O I μ R hs n s' h3 (by omega)
      exact ⟨s2, by rw [h1, pure_bind, if_pos rfl, h2, pure_bind, h5], h6⟩
theorem while_O {p : σ → O Bool} {f : σ → O σ} (I : σ → Prop) (μ : σ → Nat) (R : σ → Prop) (hs : ∀ s, I s → (p s = pure false ∧ R s) ∨ (p s = pure true ∧ ∃ s', f s = pure s' ∧ I s' ∧ μ s' < μ s)) (s : σ) (h : I s) (hm : μ s < 1000000000000) : ∃ s', whileP p f FUEL s = pure s' ∧ R s' := whileP_O I μ R hs FUEL s h (Nat.lt_of_lt_of_le hm FUEL_ge)
theorem whileP_W {p : σ → W Bool} {f : σ → W σ} (I : σ → Prop) (μ : σ → Nat) {E : Exc → Prop} {Q : σ → Prop} (hs : ∀ s, I s → ∀ K : Bool → Prop, (Q s → K false) → ((f s (fun s' => I s' ∧ μ s' < μ s) E) → K true) → p s K E) (mono : ∀ s, I s → ∀ A B : σ → Prop, (∀ s, A s → B s) → f s A E → f s B E) : ∀ (n : Nat) (s : σ), I s → μ s < n → whileP p f n s Q E
  | 0, s, _, h => by omega
  | n + 1, s, h, hn => by
    show p s (fun b => (if b = true then f s >>= fun s => whileP p f n s else pure s) Q E) E
    refine hs s h _ (fun hq => hq) fun hf => ?_
    show f s (fun s' => whileP p f n s' Q E) E
    exact mono s h _ _ (fun s' ⟨h1, h2⟩ => whileP_W I μ hs mono n s' h1 (by omega)) hf
end
end TL

/-! TL part h: repr of lists and tuples, pop, index, count. -/
namespace TL
open PySem hiding Env
open L2 VL
variable {α β γ δ : Type}
/-! ### repr -/
theorem q_repr {d : D} {z : Str} (h : reprS d = some z) : one1 reprD [d] = some (.val (eS z)) := by
  show (reprS d).map _ = _
  rw [h]; rfl
theorem q_eqS (x y : Str) : eqS (eS x) (eS y) = some (.val (eB (decide (x = y)))) := by
  show some (RV.val (.bl (x == y))) = _
  rw [show (x == y) = decide (x = y) from Bool.eq_iff_iff.mpr (by simp)]
theorem q_neS (x y : Str) : neS (eS x) (eS y) = some (.val (eB (!decide (x = y)))) := by
  show some (RV.val (.bl (!(x == y)))) = _
  rw [show (x == y) = decide (x = y) from Bool.eq_iff_iff.mpr (by simp)]
/-- small enough to be shown: at most so many items a level -/
inductive Shw : List Nat → D → Prop
  | int {Bs : List Nat} (i : Int) (h : i.natAbs < 10 ^ 50) : Shw Bs (.int i)
  | bl {Bs : List Nat} (b : Bool) : Shw Bs (.bl b)
  | non {Bs : List Nat} : Shw Bs .non
  | tup {B : Nat} {Bs : List Nat} {ds : List D} (hl : ds.length ≤ B) (h : ∀ d ∈ ds, Shw Bs d) : Shw (B :: Bs) (.tup ds)
  | lst {B : Nat} {Bs : List Nat} {ds : List D} (hl : ds.length ≤ B) (h : ∀ d ∈ ds, Shw Bs d) : Shw (B :: Bs) (.lst ds)
def shwLen : List Nat → Nat
  | [] => 60
  | B :: Bs => B * (shwLen Bs + 2) + 60
structure ShwOk (n l : Nat) (p : PyData) : Prop where
  s : p.showable = true
  h : p.hasDict = false
  d : p.depth ≤ n
  l : p.shown.length ≤ l
theorem shwLen_ge : ∀ Bs : List Nat, 60 ≤ shwLen Bs
  | [] => Nat.le_refl _
  | B :: Bs => by show 60 ≤ B * (shwLen Bs + 2) + 60; omega
theorem shw_all {n l : Nat} : ∀ {ds : List D}, (∀ d ∈ ds, ∃ p, toPy d = some p ∧ ShwOk n l p) → ∃ ps, toPys ds = some ps ∧ ps.length = ds.length ∧ PyData.showableAll ps = true ∧ PyData.hasDictAll ps = false ∧ PyData.depthAll ps ≤ n ∧ ((PyData.shownAll ps).map (·.length)).sum ≤ ds.length * l
  | [], _ => ⟨[], rfl, rfl, rfl, rfl, Nat.zero_le _, by simp [PyData.shownAll]⟩
  | d :: ds, h => by
    obtain ⟨p, e, k⟩ := h d (by simp)
    obtain ⟨ps, e2, k1, k2, k3, k4, k5⟩ := shw_all (ds := ds) fun x hx => h x (by simp [hx])
    refine ⟨p :: ps, ?_, by simp [k1], ?_, ?_, ?_, ?_⟩
    · show (match toPy d, toPys ds with | some x, some xs => some (x :: xs) | _, _ => none) = _
      rw [e, e2]
    · show (p.showable && PyData.showableAll ps) = true
      rw [k.s, k2]; rfl
    · show (p.hasDict || PyData.hasDictAll ps) = false
      rw [k.h, k3]; rfl
    · show max p.depth (PyData.depthAll ps) ≤ n
      have := k.d; omega
    · show ((p.shown :: PyData.shownAll ps).map (·.length)).sum ≤ _
      have := k.l
      rw [List.map_cons, List.sum_cons, List.length_cons, Nat.add_mul]
      omega
theorem shw_ok : ∀ {Bs : List Nat} {d : D}, Shw Bs d → ∃ p, toPy d = some p ∧ ShwOk Bs.length (shwLen Bs) p := by
  intro Bs d h
  induction h with
  | @int Bs i h =>
    refine ⟨.int i, rfl, ?_, rfl, Nat.zero_le _, ?_⟩
    · show decide (i.natAbs.log2 < 1920) = true
      exact decide_eq_true (log2_small (Nat.lt_of_lt_of_le h (by decide)) (by omega))
    · show (Str.ofString (toString i)).length ≤ _
      rw [ofString_length]
      have := int_text_length_le10 (k := 50) (by decide) h
      have := shwLen_ge Bs
      omega
  | @bl Bs b =>
    have := shwLen_ge Bs
    have z : ((PyData.bool b).shown).length ≤ 60 := by cases b <;> decide
    exact ⟨.bool b, rfl, rfl, rfl, Nat.zero_le _, by omega⟩
  | @non Bs =>
    have := shwLen_ge Bs
    have z : (PyData.none.shown).length ≤ 60 := by decide
    exact ⟨.none, rfl, rfl, rfl, Nat.zero_le _, by omega⟩
  | @tup B Bs ds hl h ih =>
    obtain ⟨ps, e, k1, k2, k3, k4, k5⟩ := shw_all ih
    refine ⟨.tuple ps, by show (toPys ds).map PyData.tuple = _; rw [e]; rfl, k2, k3, Nat.succ_le_succ k4, ?_⟩
    have t := tupleText_len_le (PyData.shownAll ps)
    have z := PyData.shownAll_length ps
    have m : ds.length * shwLen Bs ≤ B * shwLen Bs := Nat.mul_le_mul_right _ hl
    show (tupleText (PyData.shownAll ps)).length ≤ B * (shwLen Bs + 2) + 60
    rw [Nat.mul_add]
    omega
  | @lst B Bs ds hl h ih =>
    obtain ⟨ps, e, k1, k2, k3, k4, k5⟩ := shw_all ih
    refine ⟨.list ps, by show (toPys ds).map PyData.list = _; rw [e]; rfl, k2, k3, Nat.succ_le_succ k4, ?_⟩
    have t := listText_len_le (PyData.shownAll ps)
    have z := PyData.shownAll_length ps
    have m : ds.length * shwLen Bs ≤ B * shwLen Bs := Nat.mul_le_mul_right _ hl
    show (listText (PyData.shownAll ps)).length ≤ B * (shwLen Bs + 2) + 60
    rw [Nat.mul_add]
    omega
theorem repr_ok {Bs : List Nat} {d : D} (h : Shw Bs d) (h1 : Bs.length ≤ 60 := by decide) (h2 : shwLen Bs ≤ 16777216 := by decide) : ∃ s, reprS d = some s := by
  have k := shw_ok h
  obtain ⟨p, e, k⟩ := k
  have dd : shownD d = some p.shown := by
    unfold shownD
    rw [e]
    simp only
    rw [if_pos]
    rw [k.s, k.h, decide_eq_true (show p.depth ≤ 60 by have := k.d; omega), decide_eq_true (show p.shown.length ≤ LIM by have := k.l; show _ ≤ 16777216; omega)]; rfl
  cases h with
  | int i h => exact ⟨_, if_pos (log2_small (Nat.lt_of_lt_of_le h (by decide)) (by omega))⟩
  | bl b => exact ⟨_, rfl⟩
  | non => exact ⟨_, rfl⟩
  | tup _ _ => exact ⟨_, dd⟩
  | lst _ _ => exact ⟨_, dd⟩
section
variable {Bs : List Nat}
theorem shw_I {i : Int} (h : i.natAbs < 10 ^ 50) : Shw Bs (eI i) := .int i h
theorem shw_B {b : Bool} : Shw Bs (eB b) := .bl b
theorem shw_U {b : Unit} : Shw Bs (eU b) := .non
theorem shw_T {B : Nat} {e : α → D} {xs : List α} (hl : xs.length ≤ B) (h : ∀ x ∈ xs, Shw Bs (e x)) : Shw (B :: Bs) (eT e xs) := .tup (by rw [List.length_map]; exact hl) fun d hd => by obtain ⟨x, hx, rfl⟩ := List.mem_map.mp hd; exact h x hx
theorem shw_L {B : Nat} {e : α → D} {xs : List α} (hl : xs.length ≤ B) (h : ∀ x ∈ xs, Shw Bs (e x)) : Shw (B :: Bs) (eL e xs) := .lst (by rw [List.length_map]; exact hl) fun d hd => by obtain ⟨x, hx, rfl⟩ := List.mem_map.mp hd; exact h x hx
theorem shw_P {B : Nat} {e : α → D} {f : β → D} {p : α × β} (hB : 2 ≤ B) (h : Shw Bs (e p.1)) (h' : Shw Bs (f p.2)) : Shw (B :: Bs) (eP e f p) := .tup hB fun d hd => by
  have hd : d = e p.1 ∨ d = f p.2 := by simpa using hd
  rcases hd with rfl | rfl <;> assumption
theorem shw_P3 {B : Nat} {e : α → D} {f : β → D} {g : γ → D} {p : α × β × γ} (hB : 3 ≤ B) (h : Shw Bs (e p.1)) (h' : Shw Bs (f p.2.1)) (h2 : Shw Bs (g p.2.2)) : Shw (B :: Bs) (eP3 e f g p) := .tup hB fun d hd => by
  have hd : d = e p.1 ∨ d = f p.2.1 ∨ d = g p.2.2 := by simpa using hd
  rcases hd with rfl | rfl | rfl <;> assumption
theorem shw_O {e : α → D} {a : Option α} (h : ∀ x, a = some x → Shw Bs (e x)) : Shw Bs (eO e a) := by
  cases a with
  | none => exact .non
  | some x => exact h x rfl
end
/-! ### sorted(tuple), list(range), tuple(range) -/
theorem q_sortT (xs : List Int) : one1 sortedD2 [eT eI xs] = some (.own (eL eI (sortI xs))) := by
  show (intsD (xs.map D.int)).map _ = _
  rw [intsD_map]; rfl
def rgO2 (a b : Int) : Option (List Int) := if rgOkB a b then some (rngI a b) else none
theorem q_lrg (a b : Int) (z : List Int) (h : rgO2 a b = some z) : lrg2 (eI a) (eI b) = some (.own (eL eI z)) := by
  unfold rgO2 at h
  split at h
  · rename_i k; cases h
    show (if rgOkB a b then some (RV.own (.lst (rngD a b))) else none) = _
    rw [if_pos k, rng_map]
  · cases h
theorem q_trg (a b : Int) (z : List Int) (h : rgO2 a b = some z) : trg2 (eI a) (eI b) = some (.val (eT eI z)) := by
  unfold rgO2 at h
  split at h
  · rename_i k; cases h
    show (if rgOkB a b then some (RV.val (.tup (rngD a b))) else none) = _
    rw [if_pos k, rng_map]
  · cases h
theorem rgO2_ok {a b : Int} (h0 : -1000000 ≤ a) (h1 : a ≤ 1000000) (h2 : -1000000 ≤ b) (h3 : b ≤ 1000000) : rgO2 a b = some (rngI a b) := by
  unfold rgO2 rgOkB
  rw [lim62_ok (by omega) (by omega), lim62_ok (by omega) (by omega), decide_eq_true (by omega)]; rfl
/-! ### index, count -/
theorem shp [DecidableEq α] {e : α → D} {n : Nat} (q : EqE e n) (hn : n + 1 ≤ 64) (a : α) : SeqAt.shaped (q.py a) = true := by
  show ((q.py a).canLay0 && decide ((q.py a).depth ≤ 64)) = true
  rw [q.h2]; have := q.h3 a; simp; omega
theorem shpL [DecidableEq α] {e : α → D} {n : Nat} (q : EqE e n) (hn : n + 1 ≤ 64) (xs : List α) : SeqAt.shaped (.list (xs.map q.py)) = true := by
  show (PyData.canLayAll0 (xs.map q.py) && decide (PyData.depthAll (xs.map q.py) + 1 ≤ 64)) = true
  rw [canLay_map q]; have := depth_map q xs; simp; omega
theorem seqPy_L [DecidableEq α] {e : α → D} {n : Nat} (q : EqE e n) (hn : n + 1 ≤ 64) (xs : List α) (a : α) : seqPy (eL e xs) (e a) = some (xs.map q.py, q.py a) := by
  unfold seqPy
  show (match toPys (xs.map e), toPy (e a) with | some ps, some p => if SeqAt.shaped p && SeqAt.shaped (.list ps) then some (ps, p) else none | _, _ => none) = _
  rw [toPys_map q, q.h1]
  show (if SeqAt.shaped (q.py a) && SeqAt.shaped (.list (xs.map q.py)) then some (xs.map q.py, q.py a) else none) = _
  rw [shp q hn, shpL q hn]; rfl
def idxO [DecidableEq α] (xs : List α) (a : α) : Option Int := (xs.findIdx? fun z => decide (z = a)).map fun j => (j : Int)
def cntI [DecidableEq α] (xs : List α) (a : α) : Int := ((xs.countP fun z => decide (z = a) : Nat) : Int)
theorem q_indexL [DecidableEq α] {e : α → D} {n : Nat} (q : EqE e n) (hn : n + 1 ≤ 64) (xs : List α) (a : α) (z : Int) (h : idxO xs a = some z) : indexD (eL e xs) (e a) = some (.val (eI z)) := by
  unfold indexD
  rw [seqPy_L q hn]
  show ((xs.map q.py).findIdx? fun z => PyData.eqv z (q.py a)).map _ = _
  rw [List.findIdx?_map]
  have e2 : ((fun z => PyData.eqv z (q.py a)) ∘ q.py) = fun z => decide (z = a) := funext fun z => q.h4 z a
  rw [e2]
  unfold idxO at h
  cases h3 : xs.findIdx? fun z => decide (z = a) with
  | none => rw [h3] at h; cases h
  | some j => rw [h3] at h; cases h; rfl
theorem q_countL [DecidableEq α] {e : α → D} {n : Nat} (q : EqE e n) (hn : n + 1 ≤ 64) (xs : List α) (a : α) : countD (eL e xs) (e a) = some (.val (eI (cntI xs a))) := by
  unfold countD
  rw [seqPy_L q hn]
  show some (RV.val (.int (((xs.map q.py).countP fun z => PyData.eqv z (q.py a) : Nat) : Int))) = _
  rw [List.countP_map]
  have e2 : ((fun z => PyData.eqv z (q.py a)) ∘ q.py) = fun z => decide (z = a) := funext fun z => q.h4 z a
  rw [e2]; rfl
section
variable {m : Type → Type} [TM m] {X Γ Γ1 Γ2 : Ctx}
theorem e_meth {f : D → D → Option RV} {ca cb : M RV} {ta : m α} {tb : α → m β} {oa : α → Opd} {ob : β → Opd} {da : α → D} {db : β → D} {g : α → β → Option γ} {rv : γ → RV}
    (ha : TO X Γ ca ta oa Γ1) (hb : ∀ x, TO X Γ1 cb (tb x) ob Γ2) (l0 : ∀ x, LookOk Γ1 (oa x) (da x)) (la : ∀ x, LookOk Γ2 (oa x) (da x)) (lb : ∀ y, LookOk Γ2 (ob y) (db y)) (hl : ∀ x, isLst (da x) = true) (hg : ∀ x y z, g x y = some z → f (da x) (db y) = some (rv z)) :
    TE X Γ (methM f ca cb) (ta >>= fun x => tb x >>= fun y => lf (g x y)) rv Γ2 := TR.mk fun ρ hρ => by
  unfold methM
  refine At.bnd (ha ρ hρ) fun x a ρ1 ⟨e1, h1⟩ => ?_
  subst e1
  refine At.look (l0 x) h1 ?_
  rw [hl]
  simp only [if_true]
  refine At.bnd (hb x ρ1 h1) fun y b ρ2 ⟨e2, h2⟩ => ?_
  subst e2
  exact At.look (la x) h2 (At.look (lb y) h2 (At.lift fun z hz => ⟨_, hg x y z hz, rfl, h2⟩))
/-! ### pop -/
def sK (own : Bool) (d : D) : SS := if own = true then .own d else .bow d
theorem e_pop (own : Bool) {i : Nat} {e : α → D} {xs : List α} (h : Γ[i]? = some (sK own (eL e xs))) : TE (m := m) X Γ (popM i) (lf xs.getLast?) (fun b => .val (e b)) (Γ.set i (sK own (eL e xs.dropLast))) := TR.mk fun ρ hρ Q E hs => by
  have hs := TM.sat_up hs
  cases q : xs.getLast? with
  | none => rw [q] at hs; exact hs.elim
  | some b =>
    rw [q] at hs
    obtain ⟨s, h1, hk⟩ := hρ.get h
    have hl : (xs.map e)[(xs.map e).length - 1]? = some (e b) := by
      rw [List.length_map, List.getElem?_map, ← List.getLast?_eq_getElem?, q]; rfl
    have hd : popD (eL e xs) = some (eL e xs.dropLast) := by
      show some (D.lst (xs.map e).dropLast) = _
      rw [← List.map_dropLast]
    cases own with
    | true =>
      have hk : s = .own (eL e xs) := hk
      subst hk
      have o : ownD ρ i = some (eL e xs) := by unfold ownD; rw [h1]
      have r : popM i ρ = .ok (.val (e b)) (ρ.set i (.own (eL e xs.dropLast))) := by
        unfold popM
        rw [bnd_ap]
        have a1 : hasOwn i ρ = .ok () ρ := by unfold hasOwn; rw [o]
        rw [a1, bnd_ok, bnd_ap]
        have a2 : lastM i ρ = .ok (e b) ρ := by unfold lastM; rw [o]; simp only [hl]
        rw [a2, bnd_ok, bnd_ap]
        have a3 : updSlot i popD ρ = .ok () (ρ.set i (.own (eL e xs.dropLast))) := by unfold updSlot; rw [h1]; simp only [hd]
        rw [a3]; rfl
      rw [r]
      exact ⟨b, ⟨rfl, hρ.set rfl⟩, hs⟩
    | false =>
      have hk : s = .bow (eL e xs) := hk
      subst hk
      have o : ownD ρ i = some (eL e xs) := by unfold ownD; rw [h1]
      have r : popM i ρ = .ok (.val (e b)) (ρ.set i (.bow (eL e xs.dropLast))) := by
        unfold popM
        rw [bnd_ap]
        have a1 : hasOwn i ρ = .ok () ρ := by unfold hasOwn; rw [o]
        rw [a1, bnd_ok, bnd_ap]
        have a2 : lastM i ρ = .ok (e b) ρ := by unfold lastM; rw [o]; simp only [hl]
        rw [a2, bnd_ok, bnd_ap]
        have a3 : updSlot i popD ρ = .ok () (ρ.set i (.bow (eL e xs.dropLast))) := by unfold updSlot; rw [h1]; simp only [hd]
        rw [a3]; rfl
      rw [r]
      exact ⟨b, ⟨rfl, hρ.set rfl⟩, hs⟩
def atO (xs : List α) (k : Int) : Option α := if 0 ≤ k ∧ k < 1000000000 then xs[k.toNat]? else none
/-- an expression that only looks at names -/
def PvOk (Γ : Ctx) (c : M RV) (k : Int) : Prop := ∀ ρ, EOk Γ ρ → c ρ = .ok (.val (.int k)) ρ
theorem pv_const {k : Int} : PvOk Γ (constM (.int k)) k := fun ρ _ => rfl
theorem pv_var {j : Nat} {k : Int} (h : Γ[j]? = some (.val (eI k))) : PvOk Γ (varM j) k := fun ρ hρ => by
  obtain ⟨s, h1, rfl⟩ := hρ.get h
  rw [varM_ap]; unfold valD; rw [h1]; rfl
theorem e_popAt (own : Bool) {i : Nat} {e : α → D} {xs : List α} {k : Int} {c : M RV} (hc : PvOk Γ c k) (h : Γ[i]? = some (sK own (eL e xs))) : TE (m := m) X Γ (popAtM i c) (lf (atO xs k)) (fun b => .val (e b)) (Γ.set i (sK own (eL e (xs.eraseIdx k.toNat)))) := TR.mk fun ρ hρ Q E hs => by
  have hs := TM.sat_up hs
  unfold atO at hs
  by_cases kk : 0 ≤ k ∧ k < 1000000000
  · rw [if_pos kk] at hs
    cases q : xs[k.toNat]? with
    | none => rw [q] at hs; exact hs.elim
    | some b =>
      rw [q] at hs
      have hl : (xs.map e)[k.toNat]? = some (e b) := by rw [List.getElem?_map, q]; rfl
      have em : (xs.map e).eraseIdx k.toNat = (xs.eraseIdx k.toNat).map e := by
        rw [List.eraseIdx_eq_take_drop_succ, List.eraseIdx_eq_take_drop_succ, List.map_append, List.map_take, List.map_drop]
      have hd : popAtD (eI k) (eL e xs) = some (eL e (xs.eraseIdx k.toNat)) := by
        show some (D.lst ((xs.map e).eraseIdx k.toNat)) = _
        rw [em]
      obtain ⟨s1, g1, g2⟩ := hρ.get h
      have cs : ∃ s2, SOk (sK own (eL e (xs.eraseIdx k.toNat))) s2 ∧ ownD ρ i = some (eL e xs) ∧ updSlot i (popAtD (eI k)) ρ = .ok () (ρ.set i s2) := by
        cases own with
        | true =>
          have g2 : s1 = .own (eL e xs) := g2
          subst g2
          exact ⟨.own _, rfl, by unfold ownD; rw [g1], by unfold updSlot; rw [g1]; simp only [hd]⟩
        | false =>
          have g2 : s1 = .bow (eL e xs) := g2
          subst g2
          exact ⟨.bow _, rfl, by unfold ownD; rw [g1], by unfold updSlot; rw [g1]; simp only [hd]⟩
      obtain ⟨s2, c1, c2, c3⟩ := cs
      have a1 : hasOwn i ρ = .ok () ρ := by unfold hasOwn; rw [c2]
      have a2 : atM i (eI k) ρ = .ok (e b) ρ := by unfold atM; rw [c2]; simp only [kk, and_self, if_true, hl]
      have a3 : opd c ρ = .ok (.val (eI k)) ρ := by unfold opd; rw [bnd_ap, hc ρ hρ]; rfl
      have r : popAtM i c ρ = .ok (.val (e b)) (ρ.set i s2) := by
        unfold popAtM
        rw [bnd_ap, a1, bnd_ok, bnd_ap, a3, bnd_ok, bnd_ap]
        show ((Res.ok (eI k) ρ).bnd _) = _
        rw [bnd_ok, bnd_ap, a2, bnd_ok, bnd_ap, c3]; rfl
      rw [r]
      exact ⟨b, ⟨rfl, hρ.set c1⟩, hs⟩
  · rw [if_neg kk] at hs; exact hs.elim
/-! ### a list that goes over to another name -/
theorem e_moveO {i : Nat} {e : α → D} {b : α} (h : Γ[i]? = some (.own (e b))) : TE (m := m) X Γ (moveM i) (pure b) (fun b => .own (e b)) (Γ.set i .any) := TR.mk fun ρ hρ => by
  obtain ⟨s, h1, rfl⟩ := hρ.get h
  exact At.ok (by unfold moveM; rw [h1]) ⟨rfl, hρ.set (s := .un) (show SOk .any .un from trivial)⟩
theorem e_moveV {i : Nat} {e : α → D} {b : α} (h : Γ[i]? = some (.val (e b))) : TE (m := m) X Γ (moveM i) (pure b) (fun b => .val (e b)) Γ := TR.mk fun ρ hρ => by
  obtain ⟨s, h1, rfl⟩ := hρ.get h
  exact At.ok (by unfold moveM; rw [h1]) ⟨rfl, hρ⟩
theorem e_moveF {i : Nat} {e : α → D} {b : α} (h : Γ[i]? = some (.bfz (e b))) : TE (m := m) X Γ (moveM i) (pure b) (fun b => .val (e b)) Γ := TR.mk fun ρ hρ => by
  obtain ⟨s, h1, rfl⟩ := hρ.get h
  exact At.ok (by unfold moveM; rw [h1]) ⟨rfl, hρ⟩
end
/-! ### slices with a step -/
theorem pick_map {e : α → D} (xs : List α) (is : List Nat) : pickAt (xs.map e) is = (pickAt xs is).map e := by
  unfold pickAt
  rw [List.map_filterMap]
  congr 1; funext i; rw [List.getElem?_map]
def pkT (xs : List α) (lo hi c : Option Int) : Option (List α) := match c with
  | some c => if decide (c ≠ 0 ∧ c ≠ 1 ∧ (stepIx lo hi c xs.length).length ≤ LIM) then some (pickAt xs (stepIx lo hi c xs.length)) else none
  | none => none
def pkL (xs : List α) (lo hi c : Option Int) : Option (List α) := match c with
  | some c => if decide (c ≠ 0) then some (pickAt xs (sliceRange (sliceBounds lo hi (some c) xs.length).1 (sliceBounds lo hi (some c) xs.length).2.1 (sliceBounds lo hi (some c) xs.length).2.2)) else none
  | none => none
theorem q_stT {e : α → D} (xs : List α) (lo hi c : Option Int) (z : List α) (h : pkT xs lo hi c = some z) : stD lo hi c (eT e xs) = some (.val (eT e z)) := by
  unfold pkT at h
  cases c with
  | none => cases h
  | some c =>
    simp only at h
    split at h
    · cases h
      show (if decide (c ≠ 0 ∧ c ≠ 1 ∧ (stepIx lo hi c (xs.map e).length).length ≤ LIM) then some (RV.val (.tup (pickAt (xs.map e) (stepIx lo hi c (xs.map e).length)))) else none) = _
      rw [List.length_map, if_pos (by assumption), pick_map]
    · cases h
theorem q_stL {e : α → D} (xs : List α) (lo hi c : Option Int) (z : List α) (h : pkL xs lo hi c = some z) : stD lo hi c (eL e xs) = some (.own (eL e z)) := by
  unfold pkL at h
  cases c with
  | none => cases h
  | some c =>
    simp only at h
    split at h
    · cases h
      show (if decide (c ≠ 0) then some (RV.own (.lst (pickAt (xs.map e) (sliceRange (sliceBounds lo hi (some c) (xs.map e).length).1 (sliceBounds lo hi (some c) (xs.map e).length).2.1 (sliceBounds lo hi (some c) (xs.map e).length).2.2)))) else none) = _
      rw [List.length_map, if_pos (by assumption), pick_map]
    · cases h
theorem pick_rev (xs : List α) : pickAt xs ((List.range xs.length).map fun m => xs.length - 1 - m) = xs.reverse := by
  unfold pickAt
  rw [List.filterMap_map]
  have go : ∀ k ≤ xs.length, (List.range k).filterMap ((fun i => xs[i]?) ∘ fun m => xs.length - 1 - m) = xs.reverse.take k := fun k => by
    induction k with
    | zero => intro _; simp
    | succ k ih =>
      intro hk
      have g : xs.reverse[k]? = xs[xs.length - 1 - k]? := List.getElem?_reverse (by omega)
      rw [List.range_succ, List.filterMap_append, ih (by omega), List.take_add_one, g]
      congr 1
  rw [go _ (Nat.le_refl _), List.take_of_length_le (by simp)]
theorem step_rev (n : Nat) : stepIx none none (-1) n = (List.range n).map fun m => n - 1 - m := by
  have a1 : (Builtin.Slice.sliceAdjust none none (-1) (n : Int)) = ((n : Int) - 1, -1) := rfl
  have a2 : Builtin.Slice.slicePlaces ((n : Int) - 1) (-1) (-1) = n := by
    unfold Builtin.Slice.slicePlaces
    rw [if_neg (by omega)]
    by_cases z : n = 0
    · subst z; rfl
    · rw [if_pos (by omega), show (- -1 : Int) = 1 from rfl, Int.ediv_one]; omega
  unfold stepIx
  rw [a1]
  simp only
  rw [a2]
  refine List.map_congr_left fun m hm => ?_
  have := List.mem_range.mp hm
  omega
theorem pkT_rev {xs : List α} (h : xs.length ≤ 16777216) : pkT xs none none (some (-1)) = some xs.reverse := by
  unfold pkT
  simp only
  rw [step_rev, if_pos, pick_rev]
  rw [decide_eq_true_eq]
  exact ⟨by decide, by decide, by rw [List.length_map, List.length_range]; exact h⟩
theorem pkL_rev (xs : List α) : pkL xs none none (some (-1)) = some xs.reverse := by
  have a1 : sliceBounds none none (some (-1)) xs.length = ((xs.length : Int) - 1, -1, -1) := rfl
  have a2 : sliceRange ((xs.length : Int) - 1) (-1) (-1) = (List.range xs.length).map fun m => xs.length - 1 - m := by
    unfold sliceRange
    have : (if (-1 : Int) > 0 then (if (xs.length : Int) - 1 < -1 then (-1 - ((xs.length : Int) - 1) + -1 - 1) / -1 else 0) else (if (xs.length : Int) - 1 > -1 then ((xs.length : Int) - 1 - -1 - -1 - 1) / (- -1) else 0)).toNat = xs.length := by
      rw [if_neg (by omega)]
      by_cases z : xs.length = 0
      · rw [z]; rfl
      · rw [if_pos (by omega), show (- -1 : Int) = 1 from rfl, Int.ediv_one]; omega
    simp only
    rw [this]
    refine List.map_congr_left fun m hm => ?_
    have := List.mem_range.mp hm
    omega
  unfold pkL
  simp only
  rw [a1]
  simp only
  rw [if_pos (by decide), a2, pick_rev]
theorem reprD_str {x : Str} (h : (reprText x).length ≤ 1000) : reprD (.str x) = some (.val (.str (reprText x))) := by
  show Option.map _ (if _ then _ else _) = _
  rw [if_pos (LIM_big (Nat.le_trans h (by omega)))]; rfl
theorem q_maxT (xs : List Int) (z : Int) (h : maxL xs = some z) : maxD2 [eT eI xs] = some (.val (eI z)) := by
  show (((intsD (xs.map D.int))).bind maxL).map (fun n => RV.val (.int n)) = _
  rw [intsD_map]
  show (maxL xs).map _ = _
  rw [h]; rfl
theorem q_minT (xs : List Int) (z : Int) (h : minL xs = some z) : minD2 [eT eI xs] = some (.val (eI z)) := by
  show (((intsD (xs.map D.int))).bind minL).map (fun n => RV.val (.int n)) = _
  rw [intsD_map]
  show (minL xs).map _ = _
  rw [h]; rfl
end TL

/-! TL part r: fractions as pairs, by Lean's rationals. -/
namespace TL
open VL
/-- more than any number that is divided by -/
@[irreducible] def BIG : Nat := 2 ^ 9000
theorem big_pow {n : Nat} (h : n ≤ 9000) : 2 ^ n ≤ BIG := by
  unfold BIG; exact Nat.pow_le_pow_right (by omega) h
theorem lt_big {a n : Nat} (h : a < 2 ^ n) (hn : n ≤ 9000) : a < BIG := Nat.lt_of_lt_of_le h (big_pow hn)
theorem log2_big {n : Nat} (h : n < BIG) : n.log2 < 9000 := by
  unfold BIG at h; exact log2_small h (by omega)
theorem big_small {n : Nat} (h : n < 1000000000000000000000000000000) : n < BIG := lt_big (n := 100) (Nat.lt_trans h (by decide)) (by omega)
theorem mulI_big {i j : Int} (hi : i.natAbs < BIG) (hj : j.natAbs < BIG) : mulI i j = some (i * j) := mulI_ok (by
  have h1 := log2_big hi
  have h2 := log2_big hj
  simp only [mulOk, Bool.or_eq_true, decide_eq_true_eq]
  right; omega)
theorem divI_big {i j : Int} (h : j ≠ 0) (hj : j.natAbs < BIG) : divI i j = some (i.fdiv j) := divI_ok h (log2_big hj)
/-- the pair of a fraction -/
def fr (q : Rat) : Int × Int := (q.num, (q.den : Int))
@[simp] theorem fr_1 (q : Rat) : (fr q).1 = q.num := rfl
@[simp] theorem fr_2 (q : Rat) : (fr q).2 = (q.den : Int) := rfl
theorem fr_inj {a b : Rat} : fr a = fr b ↔ a = b := by
  constructor
  · intro h
    have h1 : a.num = b.num := congrArg Prod.fst h
    have h2 : (a.den : Int) = (b.den : Int) := congrArg Prod.snd h
    exact Rat.ext h1 (by omega)
  · rintro rfl; rfl
theorem rat_eq (q : Rat) : (q.num : Rat) / ((q.den : Int) : Rat) = q := by
  rw [← Rat.divInt_eq_div]; exact Rat.num_divInt_den q
theorem den_ne (q : Rat) : ((q.den : Int) : Rat) ≠ 0 := by
  have := q.den_pos
  intro h
  have : ((q.den : Int) : Rat) = ((0 : Int) : Rat) := by rw [h]; rfl
  have := Rat.intCast_inj.mp this
  omega
theorem num_eq (q : Rat) : (q.num : Rat) = q * ((q.den : Int) : Rat) := by
  have h1 := rat_eq q
  have h2 := den_ne q
  grind
theorem cast_ne {b : Int} (h : b ≠ 0) : (b : Rat) ≠ 0 := by
  intro z
  have : (b : Rat) = ((0 : Int) : Rat) := by rw [z]; rfl
  exact h (Rat.intCast_inj.mp this)
theorem fr_unique {t b n d : Int} (hb : b ≠ 0) (hd : 0 < d) (hc : Int.gcd n d = 1) (h : n * b = t * d) : fr ((t : Rat) / (b : Rat)) = (n, d) := by
  have hc' : n.natAbs.Coprime d.toNat := by
    have : d.natAbs = d.toNat := by omega
    unfold Nat.Coprime
    rw [← this]; exact hc
  have e : ((t : Rat) / (b : Rat)) = ⟨n, d.toNat, by omega, hc'⟩ := by
    have h1 := rat_eq ⟨n, d.toNat, by omega, hc'⟩
    have h2 : ((d.toNat : Int) : Rat) = (d : Rat) := by congr 1; omega
    simp only at h1
    rw [h2] at h1
    rw [← h1]
    have h3 : (n : Rat) * (b : Rat) = (t : Rat) * (d : Rat) := by
      rw [← Rat.intCast_mul, ← Rat.intCast_mul, h]
    have h4 := cast_ne hb
    have h5 := cast_ne (b := d) (by omega)
    grind
  rw [e]
  show (n, ((d.toNat : Nat) : Int)) = (n, d)
  rw [show ((d.toNat : Nat) : Int) = d by omega]
/-- both divided by what they have in common -/
theorem fr_low {t b g : Int} (hb : b ≠ 0) (hg : g = (Int.gcd t b : Int) ∨ g = -(Int.gcd t b : Int)) (hs : 0 < g ↔ 0 < b) : (t.fdiv g, b.fdiv g) = fr ((t : Rat) / (b : Rat)) := by
  have hgp : 0 < Int.gcd t b := Int.gcd_pos_of_ne_zero_right t hb
  have hg0 : g ≠ 0 := by rcases hg with h | h <;> omega
  have hd : g ∣ t := by
    rcases hg with h | h
    · rw [h]; exact Int.gcd_dvd_left t b
    · rw [h]; exact Int.neg_dvd.mpr (Int.gcd_dvd_left t b)
  have hd2 : g ∣ b := by
    rcases hg with h | h
    · rw [h]; exact Int.gcd_dvd_right t b
    · rw [h]; exact Int.neg_dvd.mpr (Int.gcd_dvd_right t b)
  obtain ⟨n, hn⟩ := hd
  obtain ⟨d, hd⟩ := hd2
  have e1 : t.fdiv g = n := by rw [hn]; exact Int.mul_fdiv_cancel_left n hg0
  have e2 : b.fdiv g = d := by rw [hd]; exact Int.mul_fdiv_cancel_left d hg0
  rw [e1, e2]
  have hdp : 0 < d := by
    have hb' : g * d ≠ 0 := by rw [← hd]; exact hb
    rcases Int.lt_trichotomy 0 g with q | q | q
    · have := hs.mp q
      rw [hd] at this
      rcases Int.lt_trichotomy 0 d with z | z | z
      · exact z
      · rw [← z] at this; simp at this
      · have := Int.mul_neg_of_pos_of_neg q z; omega
    · omega
    · have : ¬ 0 < b := fun z => by have := hs.mpr z; omega
      have hb2 : b < 0 := by omega
      rw [hd] at hb2
      rcases Int.lt_trichotomy 0 d with z | z | z
      · exact z
      · rw [← z] at hb2; simp at hb2
      · have := Int.mul_pos_of_neg_of_neg q z; omega
  have hcop : Int.gcd n d = 1 := by
    have h1 : Int.gcd (g * n) (g * d) = g.natAbs * Int.gcd n d := Int.gcd_mul_left g n d
    rw [← hn, ← hd] at h1
    have h2 : g.natAbs = Int.gcd t b := by rcases hg with h | h <;> omega
    rw [h2] at h1
    have : Int.gcd t b * 1 = Int.gcd t b * Int.gcd n d := by omega
    exact (Nat.eq_of_mul_eq_mul_left hgp this).symm
  refine (fr_unique hb hdp hcop ?_).symm
  rw [hd, hn]; grind
/-- sizes in bits -/
def RS (n : Nat) (q : Rat) : Prop := q.num.natAbs < 2 ^ n ∧ q.den < 2 ^ n
theorem RS.num {n : Nat} {q : Rat} (h : RS n q) (hn : n ≤ 9000) : q.num.natAbs < BIG := lt_big h.1 hn
theorem RS.den {n : Nat} {q : Rat} (h : RS n q) (hn : n ≤ 9000) : ((q.den : Int)).natAbs < BIG := lt_big (by simpa using h.2) hn
theorem RS.mono {n m : Nat} {q : Rat} (h : RS n q) (hn : n ≤ m) : RS m q := ⟨Nat.lt_of_lt_of_le h.1 (Nat.pow_le_pow_right (by omega) hn), Nat.lt_of_lt_of_le h.2 (Nat.pow_le_pow_right (by omega) hn)⟩
theorem RS.of {t b : Int} {n : Nat} (hb : b ≠ 0) (h1 : t.natAbs < 2 ^ n) (h2 : b.natAbs < 2 ^ n) : RS n ((t : Rat) / (b : Rat)) := by
  have hgp : 0 < Int.gcd t b := Int.gcd_pos_of_ne_zero_right t hb
  have key : ∀ g : Int, (g = (Int.gcd t b : Int) ∨ g = -(Int.gcd t b : Int)) → (0 < g ↔ 0 < b) → RS n ((t : Rat) / (b : Rat)) := fun g hg hs => by
    have e := fr_low hb hg hs
    have e1 : ((t : Rat) / (b : Rat)).num = t.fdiv g := (congrArg Prod.fst e).symm
    have e2 : ((((t : Rat) / (b : Rat)).den : Nat) : Int) = b.fdiv g := (congrArg Prod.snd e).symm
    have hd : g ∣ t := by
      rcases hg with h | h
      · rw [h]; exact Int.gcd_dvd_left t b
      · rw [h]; exact Int.neg_dvd.mpr (Int.gcd_dvd_left t b)
    have hd2 : g ∣ b := by
      rcases hg with h | h
      · rw [h]; exact Int.gcd_dvd_right t b
      · rw [h]; exact Int.neg_dvd.mpr (Int.gcd_dvd_right t b)
    have hg0 : g ≠ 0 := by rcases hg with h | h <;> omega
    have le : ∀ x : Int, g ∣ x → (x.fdiv g).natAbs ≤ x.natAbs := fun x ⟨y, hy⟩ => by
      rw [hy, Int.mul_fdiv_cancel_left y hg0, Int.natAbs_mul]
      exact Nat.le_mul_of_pos_left _ (by omega)
    constructor
    · rw [e1]; exact Nat.lt_of_le_of_lt (le t hd) h1
    · have := le b hd2
      rw [← e2] at this
      exact Nat.lt_of_le_of_lt (by simpa using this) h2
  by_cases q : 0 < b
  · exact key _ (.inl rfl) (by omega)
  · exact key _ (.inr rfl) (by omega)
theorem RS.int {n : Nat} {i : Int} (h : i.natAbs < 2 ^ n) (hn : 0 < n) : RS n (i : Rat) := ⟨h, Nat.one_lt_two_pow (by omega)⟩
theorem fr_int (i : Int) : fr (i : Rat) = (i, 1) := rfl
theorem cast_nat (n : Nat) : ((n : Int) : Rat) = (n : Rat) := rfl
/-! what the programs' four operations make -/
theorem natAbs_mul_lt {a b : Int} {n m : Nat} (ha : a.natAbs < 2 ^ n) (hb : b.natAbs < 2 ^ m) : (a * b).natAbs < 2 ^ (n + m) := by
  rw [Int.natAbs_mul, Nat.pow_add]; exact Nat.mul_lt_mul'' ha hb
theorem natAbs_add_lt {a b : Int} {n : Nat} (ha : a.natAbs < 2 ^ n) (hb : b.natAbs < 2 ^ n) : (a + b).natAbs < 2 ^ (n + 1) := by
  rw [Nat.pow_succ]; omega
theorem natAbs_sub_lt {a b : Int} {n : Nat} (ha : a.natAbs < 2 ^ n) (hb : b.natAbs < 2 ^ n) : (a - b).natAbs < 2 ^ (n + 1) := by
  rw [Nat.pow_succ]; omega
theorem pow_up {a n m : Nat} (h : a < 2 ^ n) (hn : n ≤ m) : a < 2 ^ m := Nat.lt_of_lt_of_le h (Nat.pow_le_pow_right (by omega) hn)
section
variable {p q : Rat} {n m : Nat}
theorem den_lt (h : RS n q) : ((q.den : Int)).natAbs < 2 ^ n := by simpa using h.2
theorem den_int_ne (q : Rat) : (q.den : Int) ≠ 0 := by have := q.den_pos; omega
theorem add_rat : (((p.num * q.den + q.num * p.den : Int) : Rat) / ((p.den * q.den : Int) : Rat)) = p + q := by
  have h1 := num_eq p
  have h2 := num_eq q
  have h3 := den_ne p
  have h4 := den_ne q
  rw [Rat.intCast_add, Rat.intCast_mul, Rat.intCast_mul, Rat.intCast_mul, h1, h2]
  grind
theorem sub_rat : (((p.num * q.den - q.num * p.den : Int) : Rat) / ((p.den * q.den : Int) : Rat)) = p - q := by
  have h1 := num_eq p
  have h2 := num_eq q
  have h3 := den_ne p
  have h4 := den_ne q
  rw [Rat.intCast_sub, Rat.intCast_mul, Rat.intCast_mul, Rat.intCast_mul, h1, h2]
  grind
theorem mul_rat : (((p.num * q.num : Int) : Rat) / ((p.den * q.den : Int) : Rat)) = p * q := by
  have h1 := num_eq p
  have h2 := num_eq q
  have h3 := den_ne p
  have h4 := den_ne q
  rw [Rat.intCast_mul, Rat.intCast_mul, h1, h2]
  grind
theorem num_ne (h : q ≠ 0) : q.num ≠ 0 := fun z => h (Rat.num_eq_zero.mp z)
theorem div_rat (hq : q ≠ 0) : (((p.num * q.den : Int) : Rat) / ((p.den * q.num : Int) : Rat)) = p / q := by
  have h1 := num_eq p
  have h2 := num_eq q
  have h3 := den_ne p
  have h4 := den_ne q
  rw [Rat.intCast_mul, Rat.intCast_mul, h1, h2]
  grind
theorem RS.add (hp : RS n p) (hq : RS m q) : RS (n + m + 1) (p + q) := by
  rw [← add_rat]
  refine RS.of (Int.mul_ne_zero (den_int_ne p) (den_int_ne q)) (natAbs_add_lt (natAbs_mul_lt hp.1 (den_lt hq)) ?_) (pow_up (natAbs_mul_lt (den_lt hp) (den_lt hq)) (by omega))
  have := natAbs_mul_lt hq.1 (den_lt hp)
  rwa [Nat.add_comm] at this
theorem RS.sub (hp : RS n p) (hq : RS m q) : RS (n + m + 1) (p - q) := by
  rw [← sub_rat]
  refine RS.of (Int.mul_ne_zero (den_int_ne p) (den_int_ne q)) (natAbs_sub_lt (natAbs_mul_lt hp.1 (den_lt hq)) ?_) (pow_up (natAbs_mul_lt (den_lt hp) (den_lt hq)) (by omega))
  have := natAbs_mul_lt hq.1 (den_lt hp)
  rwa [Nat.add_comm] at this
theorem RS.mul (hp : RS n p) (hq : RS m q) : RS (n + m) (p * q) := by
  rw [← mul_rat]
  exact RS.of (Int.mul_ne_zero (den_int_ne p) (den_int_ne q)) (natAbs_mul_lt hp.1 hq.1) (natAbs_mul_lt (den_lt hp) (den_lt hq))
theorem RS.div (hp : RS n p) (hq : RS m q) (h : q ≠ 0) : RS (n + m) (p / q) := by
  rw [← div_rat h]
  exact RS.of (Int.mul_ne_zero (den_int_ne p) (num_ne h)) (natAbs_mul_lt hp.1 (den_lt hq)) (natAbs_mul_lt (den_lt hp) hq.1)
theorem RS.neg (hp : RS n p) : RS n (-p) := ⟨by rw [Rat.neg_num]; simpa using hp.1, hp.2⟩
theorem RS.inv (hp : RS n p) (h : p ≠ 0) : RS n p⁻¹ := by
  have e : p⁻¹ = ((p.den : Int) : Rat) / (p.num : Rat) := by
    have h1 := num_eq p
    have h3 := den_ne p
    grind
  rw [e]
  exact RS.of (num_ne h) (den_lt hp) hp.1
theorem le_frac : p ≤ q ↔ p.num * (q.den : Int) ≤ q.num * (p.den : Int) := Rat.le_iff p q
theorem lt_frac : p < q ↔ p.num * (q.den : Int) < q.num * (p.den : Int) := Rat.lt_iff p q
end
end TL
namespace TL
/-! ### Euclid ends -/
def eucM (x y : Nat) : Nat := if y = 0 then 0 else if y ≤ x then (x * y).log2 + 1 else (x * y).log2 + 2
theorem eucM_step {x y : Nat} (hy : y ≠ 0) : eucM y (x % y) < eucM x y := by
  unfold eucM
  rw [if_neg hy]
  by_cases h : y ≤ x
  · rw [if_pos h]
    by_cases hr : x % y = 0
    · rw [if_pos hr]; omega
    · have hlt : x % y < y := Nat.mod_lt _ (by omega)
      rw [if_neg hr, if_pos (by omega)]
      have h2 : 2 * (x % y) ≤ x := by
        have h3 := Nat.div_add_mod x y
        have h4 : 1 ≤ x / y := (Nat.one_le_div_iff (by omega)).mpr h
        have h5 : y * 1 ≤ y * (x / y) := Nat.mul_le_mul_left y h4
        omega
      have h6 : 2 * (y * (x % y)) ≤ x * y := by
        have := Nat.mul_le_mul_right y h2
        rw [Nat.mul_assoc, Nat.mul_comm (x % y) y] at this; exact this
      have h7 : y * (x % y) ≠ 0 := Nat.mul_ne_zero hy hr
      have h8 : (2 * (y * (x % y))).log2 = (y * (x % y)).log2 + 1 := Nat.log2_two_mul h7
      have h9 : (2 * (y * (x % y))).log2 ≤ (x * y).log2 := by
        have : 2 ^ (2 * (y * (x % y))).log2 ≤ 2 * (y * (x % y)) := Nat.log2_self_le (by omega)
        exact (Nat.le_log2 (by omega)).mpr (by omega)
      omega
  · rw [if_neg h]
    have hm : x % y = x := Nat.mod_eq_of_lt (by omega)
    rw [hm]
    by_cases hx : x = 0
    · rw [if_pos hx]; omega
    · rw [if_neg hx, if_pos (by omega), Nat.mul_comm y x]; omega
theorem eucM_big {x y : Nat} (hx : x < BIG) (hy : y < BIG) : eucM x y ≤ 18003 := by
  have h1 := log2_big hx
  have h2 := log2_big hy
  have h3 : (x * y).log2 ≤ 18001 := by
    by_cases h0 : x * y = 0
    · rw [h0]; simp
    · have a1 := Nat.lt_log2_self (n := x)
      have a2 := Nat.lt_log2_self (n := y)
      have a3 : x * y < 2 ^ ((x.log2 + 1) + (y.log2 + 1)) := by rw [Nat.pow_add]; exact Nat.mul_lt_mul'' a1 a2
      have := (Nat.log2_lt h0).mpr a3
      omega
  unfold eucM; split
  · omega
  · split <;> omega
theorem gcd_go (a b q : Int) : Int.gcd b (a - b * q) = Int.gcd a b := by
  rw [Int.mul_comm b, Int.gcd_sub_mul_right_right, Int.gcd_comm]
theorem sub_mul_fdiv (a b : Int) : a - b * a.fdiv b = a.fmod b := by
  have := Int.mul_fdiv_add_fmod a b; omega
theorem natAbs_fmod_lt {a b : Int} (h : b ≠ 0) : (a.fmod b).natAbs < b.natAbs := by
  rcases Int.lt_trichotomy 0 b with q | q | q
  · have h1 := Int.fmod_nonneg_of_pos a q
    have h2 := Int.fmod_lt_of_pos a q
    omega
  · omega
  · have e : a.fmod b = -((-a).fmod (-b)) := by rw [Int.neg_fmod_neg]; omega
    have h1 := Int.fmod_nonneg_of_pos (-a) (show 0 < -b by omega)
    have h2 := Int.fmod_lt_of_pos (-a) (show 0 < -b by omega)
    omega
theorem natAbs_fdiv_le (a b : Int) : (a.fdiv b).natAbs ≤ a.natAbs + 1 := by
  by_cases h : b = 0
  · subst h; simp
  · have h1 := sub_mul_fdiv a b
    have h2 := natAbs_fmod_lt (a := a) h
    generalize a.fdiv b = q at *
    generalize a.fmod b = r at *
    have h3 : b * q = a - r := by omega
    have h4 : (b * q).natAbs ≤ a.natAbs + r.natAbs := by rw [h3]; omega
    rw [Int.natAbs_mul] at h4
    have h5 : b.natAbs * q.natAbs < a.natAbs + b.natAbs := by omega
    have hb : 1 ≤ b.natAbs := by omega
    by_cases hq : q.natAbs ≤ a.natAbs + 1
    · exact hq
    · have : b.natAbs * (a.natAbs + 2) ≤ b.natAbs * q.natAbs := Nat.mul_le_mul_left _ (by omega)
      rw [Nat.mul_add] at this
      have : 1 * a.natAbs ≤ b.natAbs * a.natAbs := Nat.mul_le_mul_right _ hb
      omega
/-- signs that agree: the numbers go as their sizes do -/
def agree (a b : Int) : Bool := decide ((0 ≤ a ∧ 0 ≤ b) ∨ (a ≤ 0 ∧ b ≤ 0))
theorem agree_fmod (a b : Int) (h : b ≠ 0) : agree b (a.fmod b) = true := by
  unfold agree
  rw [decide_eq_true_eq]
  rcases Int.lt_trichotomy 0 b with q | q | q
  · exact .inl ⟨by omega, Int.fmod_nonneg_of_pos a q⟩
  · omega
  · right
    have e : a.fmod b = -((-a).fmod (-b)) := by rw [Int.neg_fmod_neg]; omega
    have h1 := Int.fmod_nonneg_of_pos (-a) (show 0 < -b by omega)
    omega
theorem natAbs_fmod (a b : Int) (h : agree a b = true) : (a.fmod b).natAbs = a.natAbs % b.natAbs := by
  unfold agree at h
  rw [decide_eq_true_eq] at h
  rcases h with ⟨h1, h2⟩ | ⟨h1, h2⟩
  · obtain ⟨n, rfl⟩ := Int.eq_ofNat_of_zero_le h1
    obtain ⟨m, rfl⟩ := Int.eq_ofNat_of_zero_le h2
    rw [Int.fmod_eq_emod_of_nonneg _ (by omega)]
    show ((n : Int) % (m : Int)).natAbs = n % m
    rw [← Int.natCast_emod]; rfl
  · obtain ⟨n, hn⟩ := Int.eq_ofNat_of_zero_le (show 0 ≤ -a by omega)
    obtain ⟨m, hm⟩ := Int.eq_ofNat_of_zero_le (show 0 ≤ -b by omega)
    have e : a.fmod b = -((-a).fmod (-b)) := by rw [Int.neg_fmod_neg]; omega
    rw [e, hn, hm, Int.fmod_eq_emod_of_nonneg _ (by omega), ← Int.natCast_emod]
    have h3 : a.natAbs = n := by omega
    have h4 : b.natAbs = m := by omega
    rw [h3, h4]; omega
def eucI (a b : Int) : Nat := if agree a b = true then eucM a.natAbs b.natAbs else 40000
theorem eucI_step {a b : Int} (h : b ≠ 0) (ha : a.natAbs < BIG) (hb : b.natAbs < BIG) : eucI b (a.fmod b) < eucI a b := by
  unfold eucI
  rw [if_pos (agree_fmod a b h)]
  split
  · rename_i q
    rw [natAbs_fmod a b q]
    exact eucM_step (by omega)
  · have := eucM_big hb (Nat.lt_trans (natAbs_fmod_lt (a := a) h) hb)
    omega
theorem eucI_le {a b : Int} (ha : a.natAbs < BIG) (hb : b.natAbs < BIG) : eucI a b ≤ 40000 := by
  unfold eucI; split
  · have := eucM_big ha hb; omega
  · omega
end TL

/-! TL part n: loops over indices against loops over neighbours. -/
namespace TL
open PySem hiding Env
open VL
section
variable {m : Type → Type} [TM m] {α β σ τ : Type}
theorem loopT_rel {f : σ → α → m (FL σ τ)} {g : σ → β → m (FL σ τ)} : ∀ (xs : List α) (ys : List β), xs.length = ys.length → (∀ (j : Nat) x y s, xs[j]? = some x → ys[j]? = some y → f s x = g s y) → ∀ s, loopT f s xs = loopT g s ys
  | [], [], _, _, s => rfl
  | [], _ :: _, hl, _, _ => by simp at hl
  | _ :: _, [], hl, _, _ => by simp at hl
  | x :: xs, y :: ys, hl, h, s => by
    show (f s x >>= _) = (g s y >>= _)
    rw [h 0 x y s rfl rfl]
    congr 1
    funext r
    cases r with
    | nx s => exact loopT_rel xs ys (by simpa using hl) (fun j a b s ha hb => h (j + 1) a b s (by simpa using ha) (by simpa using hb)) s
    | brk s => rfl
    | ret v => rfl
theorem loopT_nx {f : σ → α → O (FL σ τ)} {s s' : σ} {x : α} {xs : List α} (h : f s x = pure (.nx s')) : loopT f s (x :: xs) = loopT f s' xs := by
  show (f s x >>= fun r => match r with
    | .nx s => loopT f s xs
    | .brk s => pure (.inl s)
    | .ret v => pure (.inr v)) = _
  rw [h, pure_bind]
theorem loopT_ret {f : σ → α → O (FL σ τ)} {s : σ} {v : τ} {x : α} {xs : List α} (h : f s x = pure (.ret v)) : loopT f s (x :: xs) = pure (.inr v) := by
  show (f s x >>= fun r => match r with
    | .nx s => loopT f s xs
    | .brk s => pure (.inl s)
    | .ret v => pure (.inr v)) = _
  rw [h, pure_bind]
theorem foldT_rel {f : σ → α → m σ} {g : σ → β → m σ} : ∀ (xs : List α) (ys : List β), xs.length = ys.length → (∀ (j : Nat) x y s, xs[j]? = some x → ys[j]? = some y → f s x = g s y) → ∀ s, foldT f s xs = foldT g s ys
  | [], [], _, _, s => rfl
  | [], _ :: _, hl, _, _ => by simp at hl
  | _ :: _, [], hl, _, _ => by simp at hl
  | x :: xs, y :: ys, hl, h, s => by
    show (f s x >>= _) = (g s y >>= _)
    rw [h 0 x y s rfl rfl]
    congr 1
    funext s
    exact foldT_rel xs ys (by simpa using hl) (fun j a b s ha hb => h (j + 1) a b s (by simpa using ha) (by simpa using hb)) s
theorem rng_get {n : Int} {j : Nat} {i : Int} (h : (rngI 0 n)[j]? = some i) : i = (j : Int) := by
  unfold rngI at h
  rw [List.getElem?_map] at h
  cases q : (List.range (n - 0).toNat)[j]? with
  | none => rw [q] at h; cases h
  | some k =>
    rw [q] at h
    obtain ⟨hk, e⟩ := List.getElem?_eq_some_iff.mp q
    rw [List.getElem_range] at e
    have h' : (0 : Int) + (k : Int) = i := by simpa using h
    omega
theorem next_get {xs : List α} {j : Nat} {p : α × α} (h : (xs.zip (xs.drop 1))[j]? = some p) : xs[j]? = some p.1 ∧ xs[j + 1]? = some p.2 := by
  obtain ⟨h1, h2⟩ := List.getElem?_zip_eq_some.mp h
  rw [List.getElem?_drop, Nat.add_comm] at h2
  exact ⟨h1, h2⟩
theorem next_len (xs : List α) : (rngI 0 ((xs.length : Int) - 1)).length = (xs.zip (xs.drop 1)).length := by
  unfold rngI
  simp only [List.length_map, List.length_range, List.length_zip, List.length_drop]
  omega
theorem loopT_next {f : σ → Int → m (FL σ τ)} {g : σ → α × α → m (FL σ τ)} (xs : List α) (h : ∀ (j : Nat) a b s, xs[j]? = some a → xs[j + 1]? = some b → f s (j : Int) = g s (a, b)) (s : σ) : loopT f s (rngI 0 ((xs.length : Int) - 1)) = loopT g s (xs.zip (xs.drop 1)) :=
  loopT_rel _ _ (next_len xs) (fun j x y s hx hy => by
    obtain ⟨h1, h2⟩ := next_get hy
    rw [rng_get hx]
    exact h j _ _ s h1 h2) s
theorem foldT_next {f : σ → Int → m σ} {g : σ → α × α → m σ} (xs : List α) (h : ∀ (j : Nat) a b s, xs[j]? = some a → xs[j + 1]? = some b → f s (j : Int) = g s (a, b)) (s : σ) : foldT f s (rngI 0 ((xs.length : Int) - 1)) = foldT g s (xs.zip (xs.drop 1)) :=
  foldT_rel _ _ (next_len xs) (fun j x y s hx hy => by
    obtain ⟨h1, h2⟩ := next_get hy
    rw [rng_get hx]
    exact h j _ _ s h1 h2) s
theorem ixL_next (xs : List α) (j : Nat) : ixL xs ((j : Int) + 1) = xs[j + 1]? := ixL_nat xs (j + 1)
end
end TL

/-! TL part s: plain tools: greatest and least of a list, ranges with a step, whole lists. -/
namespace TL
open PySem hiding Env
open VL
variable {α β σ : Type}
theorem maxL_ok {xs : List Int} (h : xs ≠ []) : ∃ m, maxL xs = some m ∧ m ∈ xs ∧ ∀ y ∈ xs, y ≤ m := by
  cases xs with
  | nil => exact absurd rfl h
  | cons x xs => exact ⟨_, rfl, (foldl_max xs x).1, (foldl_max xs x).2⟩
theorem minL_ok {xs : List Int} (h : xs ≠ []) : ∃ m, minL xs = some m ∧ m ∈ xs ∧ ∀ y ∈ xs, m ≤ y := by
  cases xs with
  | nil => exact absurd rfl h
  | cons x xs => exact ⟨_, rfl, (foldl_min xs x).1, (foldl_min xs x).2⟩
theorem rng3_two {n : Nat} (h : n ≤ 1000000) : rngO3 0 ((2 * n : Nat) : Int) 2 = some ((List.range n).map fun (i : Nat) => 2 * (i : Int)) := by
  have e : Builtin.Range.rangeSize 0 ((2 * n : Nat) : Int) 2 = (n : Int) := by
    unfold Builtin.Range.rangeSize
    rw [if_pos (by omega)]
    by_cases z : n = 0
    · subst z; rfl
    · rw [if_pos (by omega)]; omega
  unfold rngO3
  rw [if_pos]
  · unfold rngI3
    rw [e]
    congr 1
    simp only [Int.toNat_natCast]
    exact List.map_congr_left fun i _ => by omega
  · rw [Bool.and_eq_true, decide_eq_true_eq]
    refine ⟨?_, by decide⟩
    unfold Builtin.Range.small
    rw [e]
    have k : ∀ i : Int, -1000000000 ≤ i → i ≤ 1000000000 → Builtin.Range.rangeFitsLong i = true := fun i h0 h1 => by
      unfold Builtin.Range.rangeFitsLong
      rw [Bool.and_eq_true, decide_eq_true_eq, decide_eq_true_eq]
      omega
    rw [if_pos (by omega), k 0 (by omega) (by omega), k _ (by omega) (by omega), k 2 (by omega) (by omega), k n (by omega) (by omega), k _ (by omega) (by omega)]
    simp
end TL

namespace Lw
open PySem VL

abbrev n_is_integer : Nat := 0
abbrev n_is_within : Nat := 1
abbrev n_are_within : Nat := 2
abbrev n_check_bays : Nat := 3
abbrev n_check_cranes : Nat := 4
abbrev n_is_parting_of : Nat := 5
abbrev n_works_of : Nat := 6
abbrev n_longest : Nat := 7
abbrev n_cranes_needed : Nat := 8
abbrev n_raw_least : Nat := 9
abbrev n_least_longest : Nat := 10
abbrev n_can_do_rest : Nat := 11
abbrev n_parting : Nat := 12
abbrev n__law_hand : Nat := 13
abbrev n__law_draw : Nat := 14
abbrev n__law_any : Nat := 15
abbrev n__law_is : Nat := 16
abbrev n__law_bays : Nat := 17
abbrev n__law_all_partings : Nat := 18
abbrev n__law_longest : Nat := 19
abbrev n__law_least_longest : Nat := 20
abbrev n__law_is_number : Nat := 21
abbrev n__law_is_row : Nat := 22
abbrev n__law_is_right : Nat := 23
abbrev n__law_is_long_right : Nat := 24
abbrev n_law : Nat := 25
/-- is_integer: 0 thing -/
def b_is_integer (cf : CF) : MS :=
  (retS (andM (unM (isiD [.int]) (varM 0)) (notM (unM (isiD [.bl]) (varM 0)))))
/-- is_within: 0 thing, 1 least, 2 most -/
def b_is_within (cf : CF) : MS :=
  (retS (andM (callM cf n_is_integer [varM 0]) (chainM leD leD (varM 1) (varM 0) (varM 2))))
/-- are_within: 0 thing, 1 least, 2 most, 3 one -/
def b_are_within (cf : CF) : MS :=
  (retS (andM (unM (isiD [.tup]) (varM 0)) (primM (one1 allD) [lcM (seqM (varM 0)) (.one 3) (pure true) (callM cf n_is_within [varM 3, varM 1, varM 2]) [3]])))
/-- check_bays: 0 bays -/
def b_check_bays (cf : CF) : MS :=
  (ifS (orT (notT (truM (callM cf n_are_within [varM 0, constM (.int 0), constM (.int 200)]))) (notT (chainM leD leD (constM (.int 1)) (primM (one1 lenD) [varM 0]) (constM (.int 20)) >>= asB))) ((M.stuck)) (pure .nx))
/-- check_cranes: 0 bays, 1 cranes -/
def b_check_cranes (cf : CF) : MS :=
  (seqS (dropS (callM cf n_check_bays [varM 0]))
  (ifS (notT (truM (callM cf n_is_within [varM 1, constM (.int 1), constM (.int 6)]))) ((M.stuck)) (pure .nx)))
/-- is_parting_of: 0 bays, 1 thing, 2 one, 3 other -/
def b_is_parting_of (cf : CF) : MS :=
  (seqS (ifS (orT (notT (truM (callM cf n_are_within [varM 1, constM (.int 0), primM (one1 lenD) [varM 0]]))) (orT (notT (chainM leD leD (constM (.int 1)) (primM (one1 lenD) [varM 1]) (constM (.int 6)) >>= asB)) (binM neD (binM ixD (varM 1) (constM (.int 0))) (constM (.int 0)) >>= asB))) ((retS (constM (.bl false)))) (pure .nx))
  (retS (primM (one1 allD) [lcM (srcF zipD [varM 1, slM (varM 1) (intO (constM (.int 1))) noO]) (.many [2, 3]) (pure true) (binM leD (varM 2) (varM 3)) [2, 3]])))
/-- works_of: 0 bays, 1 told, 2 ends, 3 begin, 4 end -/
def b_works_of (cf : CF) : MS :=
  (seqS (asgS 2 (binM addD (slM (varM 1) (intO (constM (.int 1))) noO) (tupM [primM (one1 lenD) [varM 0]])))
  (retS (lcM (srcF zipD [varM 1, varM 2]) (.many [3, 4]) (pure true) (primM (one1 sumD) [slM (varM 0) (intO (varM 3)) (intO (varM 4))]) [3, 4])))
/-- longest: 0 bays, 1 parting -/
def b_longest (cf : CF) : MS :=
  (seqS (dropS (callM cf n_check_bays [varM 0]))
  (seqS (ifS (notT (truM (callM cf n_is_parting_of [varM 0, varM 1]))) ((M.stuck)) (pure .nx))
  (retS (primM (maxD2) [callM cf n_works_of [varM 0, varM 1]]))))
/-- cranes_needed: 0 bays, 1 hours, 2 work, 3 many, 4 left -/
def b_cranes_needed (cf : CF) : MS :=
  (seqS (ifS (binM gtD (primM (maxD2) [varM 0]) (varM 1) >>= asB) ((retS (constM .non))) (pure .nx))
  (seqS (parS 3 4 (constM (.int 1)) (varM 1))
  (seqS (forS (seqM (varM 0)) (nameG 2) ((seqS (ifS (binM gtD (varM 2) (varM 4) >>= asB) ((parS 3 4 (binM addD (varM 3) (constM (.int 1))) (varM 1))) (pure .nx))
  (augS 4 subD (varM 2)))))
  (retS (varM 3)))))
/-- raw_least: 0 bays, 1 cranes, 2 low, 3 high, 4 middle, 5 many -/
def b_raw_least (cf : CF) : MS :=
  (seqS (parS 2 3 (unM negD (constM (.int 1))) (primM (one1 sumD) [varM 0]))
  (seqS (whileS (binM gtD (binM subD (varM 3) (varM 2)) (constM (.int 1)) >>= asB) ((seqS (asgS 4 (binM divD (binM addD (varM 2) (varM 3)) (constM (.int 2))))
  (seqS (asgS 5 (callM cf n_cranes_needed [varM 0, varM 4]))
  (ifS (andT (binM isNotD (varM 5) (constM .non) >>= asB) (binM leD (varM 5) (varM 1) >>= asB)) ((asgS 3 (moveM 4))) ((asgS 2 (moveM 4))))))))
  (retS (varM 3))))
/-- least_longest: 0 bays, 1 cranes -/
def b_least_longest (cf : CF) : MS :=
  (seqS (dropS (callM cf n_check_cranes [varM 0, varM 1]))
  (retS (callM cf n_raw_least [varM 0, varM 1])))
/-- can_do_rest: 0 bays, 1 cranes, 2 hours, 3 many -/
def b_can_do_rest (cf : CF) : MS :=
  (seqS (ifS (binM eqD (primM (one1 lenD) [varM 0]) (constM (.int 0)) >>= asB) ((retS (constM (.bl true)))) (pure .nx))
  (seqS (asgS 3 (callM cf n_cranes_needed [varM 0, varM 2]))
  (retS (andM (binM isNotD (varM 3) (constM .non)) (binM leD (varM 3) (varM 1))))))
/-- parting: 0 bays, 1 cranes, 2 crane, 3 hours, 4 found, 5 begin, 6 is_good -/
def b_parting (cf : CF) : MS :=
  (seqS (dropS (callM cf n_check_cranes [varM 0, varM 1]))
  (seqS (parS 3 4 (callM cf n_raw_least [varM 0, varM 1]) (tupM [constM (.int 0)]))
  (seqS (forS (srcF range2D [constM (.int 1), varM 1]) (nameG 2) ((forS (srcF range2D [binM ixD (varM 4) (unM negD (constM (.int 1))), binM addD (primM (one1 lenD) [varM 0]) (constM (.int 1))]) (nameG 5) ((seqS (asgS 6 (binM leD (primM (one1 sumD) [slM (varM 0) (intO (binM ixD (varM 4) (unM negD (constM (.int 1))))) (intO (varM 5))]) (varM 3)))
  (ifS (andT (truM (varM 6)) (truM (callM cf n_can_do_rest [slM (varM 0) (intO (varM 5)) noO, binM subD (varM 1) (varM 2), varM 3]))) ((seqS (asgS 4 (binM addD (varM 4) (tupM [varM 5])))
  (pure .brk))) (pure .nx)))))))
  (retS (varM 4)))))
/-- _law_hand: 0 script, 1 all_cells, 2 cell -/
def b__law_hand (cf : CF) : MS :=
  (seqS (asgS 1 (lcM (seqM (slM (varM 0) noO (intO (constM (.int 63))))) (.one 2) (pure true) (primM (one1 absD) [primM (one1 intD) [varM 2]]) [2]))
  (retS (lstM [varM 1, constM (.int 0), constM (.int 0), binM addD (constM (.int 269)) (binM mulD (constM (.int 199)) (primM (one1 lenD) [varM 1])), constM (.int 0)])))
/-- _law_draw: 0 hand, 1 many, 2 number, 3 cell, 4 digit -/
def b__law_draw (cf : CF) : MS :=
  (seqS (ifS (andT (binM eqD (binM ixD (varM 0) (constM (.int 2))) (constM (.int 0)) >>= asB) (binM ltD (binM ixD (varM 0) (constM (.int 1))) (primM (one1 lenD) [binM ixD (varM 0) (constM (.int 0))]) >>= asB)) ((seqS (asgS 3 (binM ixD (binM ixD (varM 0) (constM (.int 0))) (binM ixD (varM 0) (constM (.int 1)))))
  (seqS (asgG (ixG 0 (constM (.int 1))) (binM addD (binM ixD (varM 0) (constM (.int 1))) (constM (.int 1))))
  (seqS (asgG (ixG 0 (constM (.int 3))) (binM modD (primM (one1 intD) [binM addD (binM addD (binM mulD (binM ixD (varM 0) (constM (.int 3))) (constM (.int 69621))) (varM 3)) (constM (.int 239))]) (constM (.int 2147483629))))
  (ifS (binM geD (varM 3) (binM powD (constM (.int 10)) (constM (.int 18))) >>= asB) ((asgG (ixG 0 (constM (.int 2))) (varM 3))) (pure .nx)))))) (pure .nx))
  (seqS (ifS (binM gtD (binM ixD (varM 0) (constM (.int 2))) (constM (.int 0)) >>= asB) ((seqS (asgS 4 (binM modD (primM (one1 intD) [binM ixD (varM 0) (constM (.int 2))]) (varM 1)))
  (seqS (asgG (ixG 0 (constM (.int 2))) (binM divD (binM ixD (varM 0) (constM (.int 2))) (varM 1)))
  (retS (varM 4))))) (pure .nx))
  (seqS (asgG (ixG 0 (constM (.int 4))) (binM addD (binM ixD (varM 0) (constM (.int 4))) (constM (.int 1))))
  (seqS (asgS 2 (binM modD (primM (one1 intD) [binM mulD (primM (one1 intD) [binM addD (binM ixD (varM 0) (constM (.int 3))) (binM mulD (constM (.int 7919)) (binM ixD (varM 0) (constM (.int 4))))]) (constM (.int 48271))]) (constM (.int 2147483647))))
  (seqS (asgS 2 (binM modD (primM (one1 intD) [binM mulD (varM 2) (binM addD (binM divD (varM 2) (constM (.int 1009))) (constM (.int 69621)))]) (constM (.int 2147483647))))
  (seqS (asgS 2 (binM modD (primM (one1 intD) [binM mulD (varM 2) (binM addD (binM divD (varM 2) (constM (.int 2003))) (constM (.int 40692)))]) (constM (.int 2147483399))))
  (retS (binM modD (primM (one1 intD) [binM divD (varM 2) (constM (.int 16))]) (varM 1)))))))))
/-- _law_any: 0 hand, 1 things -/
def b__law_any (cf : CF) : MS :=
  (retS (binM ixD (varM 1) (callM cf n__law_draw [varM 0, primM (one1 lenD) [varM 1]])))
/-- _law_is: 0 came, 1 due, 2 one, 3 other -/
def b__law_is (cf : CF) : MS :=
  (seqS (ifS (truM (unM (isiD [.tup, .lst]) (varM 1))) ((seqS (ifS (orT (binM neD (unM (isiD [.tup]) (varM 0)) (unM (isiD [.tup]) (varM 1)) >>= asB) (notT (truM (unM (isiD [.tup, .lst]) (varM 0))))) ((retS (constM (.bl false)))) (pure .nx))
  (retS (andM (binM eqD (primM (one1 lenD) [varM 0]) (primM (one1 lenD) [varM 1])) (primM (one1 allD) [lcM (srcF zipD [varM 0, varM 1]) (.many [2, 3]) (pure true) (callM cf n__law_is [varM 2, varM 3]) [2, 3]]))))) (pure .nx))
  (seqS (ifS (orT (binM isD (varM 1) (constM .non) >>= asB) (truM (unM (isiD [.bl]) (varM 1)))) ((retS (ifM (binM isD (varM 1) (constM .non) >>= asB) (binM isD (varM 0) (constM .non)) (andM (unM (isiD [.bl]) (varM 0)) (binM eqS (primM (one1 reprD) [varM 0]) (primM (one1 reprD) [varM 1])))))) (pure .nx))
  (seqS (ifS (truM (unM (isiD [.str]) (varM 1))) ((retS (andM (unM (isiD [.str]) (varM 0)) (binM eqS (primM (one1 reprD) [varM 0]) (primM (one1 reprD) [varM 1]))))) (pure .nx))
  (retS (andM (unM (isiD [.int]) (varM 0)) (andM (notM (unM (isiD [.bl]) (varM 0))) (binM eqS (primM (one1 reprD) [varM 0]) (primM (one1 reprD) [varM 1]))))))))
/-- _law_bays: 0 hand, 1 most, 2 wide, 3 found, 4 at -/
def b__law_bays (cf : CF) : MS :=
  (seqS (asgS 2 (callM cf n__law_any [varM 0, lstM [constM (.int 3), constM (.int 10), constM (.int 201)]]))
  (seqS (asgS 3 (lcM (srcF range1D [binM addD (constM (.int 1)) (callM cf n__law_draw [varM 0, varM 1])]) (.one 4) (pure true) (callM cf n__law_draw [varM 0, varM 2]) [4]))
  (seqS (ifS (binM eqD (callM cf n__law_draw [varM 0, constM (.int 4)]) (constM (.int 0)) >>= asB) ((asgG (ixG 3 (callM cf n__law_draw [varM 0, primM (one1 lenD) [varM 3]])) (constM (.int 200)))) (pure .nx))
  (retS (primM (one1 tupleD) [varM 3])))))
/-- _law_all_partings: 0 many, 1 cranes, 2 found, 3 crane, 4 longer, 5 row, 6 at -/
def b__law_all_partings (cf : CF) : MS :=
  (seqS (asgS 2 (lstM [tupM [constM (.int 0)]]))
  (seqS (forS (srcF range1D [binM subD (varM 1) (constM (.int 1))]) (nameG 3) ((seqS (asgS 4 (lstM []))
  (seqS (forS (seqM (varM 2)) (nameG 5) ((dropS (extM 4 (lcM (srcF range2D [binM ixD (varM 5) (unM negD (constM (.int 1))), binM addD (varM 0) (constM (.int 1))]) (.one 6) (pure true) (binM addD (varM 5) (tupM [varM 6])) [6])))))
  (asgS 2 (moveM 4))))))
  (retS (varM 2))))
/-- _law_longest: 0 bays, 1 row, 2 ends, 3 begin, 4 end -/
def b__law_longest (cf : CF) : MS :=
  (seqS (asgS 2 (binM addD (primM (one1 listD) [slM (varM 1) (intO (constM (.int 1))) noO]) (lstM [primM (one1 lenD) [varM 0]])))
  (retS (primM (maxD2) [lcM (srcF zipD [varM 1, varM 2]) (.many [3, 4]) (pure true) (primM (one1 sumD) [slM (varM 0) (intO (varM 3)) (intO (varM 4))]) [3, 4]])))
/-- _law_least_longest: 0 bays, 1 cranes, 2 row -/
def b__law_least_longest (cf : CF) : MS :=
  (retS (primM (minD2) [lcM (seqM (callM cf n__law_all_partings [primM (one1 lenD) [varM 0], varM 1])) (.one 2) (pure true) (callM cf n__law_longest [varM 0, varM 2]) [2]]))
/-- _law_is_number: 0 thing, 1 most -/
def b__law_is_number (cf : CF) : MS :=
  (retS (andM (unM (isiD [.int]) (varM 0)) (andM (notM (unM (isiD [.bl]) (varM 0))) (chainM leD leD (constM (.int 0)) (varM 0) (varM 1)))))
/-- _law_is_row: 0 thing, 1 size, 2 most, 3 one, 4 other -/
def b__law_is_row (cf : CF) : MS :=
  (seqS (ifS (orT (notT (truM (unM (isiD [.tup]) (varM 0)))) (orT (binM neD (primM (one1 lenD) [varM 0]) (varM 1) >>= asB) (notT (truM (primM (one1 allD) [lcM (seqM (varM 0)) (.one 3) (pure true) (callM cf n__law_is_number [varM 3, varM 2]) [3]]))))) ((retS (constM (.bl false)))) (pure .nx))
  (retS (andM (binM eqD (binM ixD (varM 0) (constM (.int 0))) (constM (.int 0))) (primM (one1 allD) [lcM (srcF zipD [varM 0, slM (varM 0) (intO (constM (.int 1))) noO]) (.many [3, 4]) (pure true) (binM leD (varM 3) (varM 4)) [3, 4]]))))
/-- _law_is_right: 0 hand, 1 bays, 2 cranes, 3 least, 4 best, 5 row, 6 at, 7 rows, 8 held_text, 9 more, 10 lap -/
def b__law_is_right (cf : CF) : MS :=
  (seqS (asgG (tupG [nameG 7, nameG 8]) (tupM [callM cf n__law_all_partings [primM (one1 lenD) [varM 1], varM 2], primM (one1 reprD) [varM 1]]))
  (seqS (asgS 3 (callM cf n__law_least_longest [varM 1, varM 2]))
  (seqS (asgS 4 (binM ixD (lcM (seqM (varM 7)) (.one 5) (binM eqD (callM cf n__law_longest [varM 1, varM 5]) (varM 3) >>= asB) (varM 5) [5]) (constM (.int 0))))
  (seqS (ifS (notT (truM (callM cf n__law_is [lstM [callM cf n_least_longest [varM 1, varM 2], callM cf n_parting [varM 1, varM 2]], lstM [varM 3, varM 4]]))) ((retS (constM (.bl false)))) (pure .nx))
  (seqS (forS (seqM (binM addD (lcM (srcF range1D [constM (.int 4)]) (.one 10) (pure true) (callM cf n__law_any [varM 0, varM 7]) [10]) (lstM [varM 4]))) (nameG 5) ((ifS (notT (truM (callM cf n__law_is [callM cf n_longest [varM 1, varM 5], callM cf n__law_longest [varM 1, varM 5]]))) ((retS (constM (.bl false)))) (pure .nx))))
  (seqS (ifS (orT (binM gtD (callM cf n_least_longest [varM 1, binM addD (varM 2) (constM (.int 1))]) (varM 3) >>= asB) (binM neD (callM cf n_least_longest [stepM (varM 1) noO noO (intO (unM negD (constM (.int 1)))), varM 2]) (varM 3) >>= asB)) ((retS (constM (.bl false)))) (pure .nx))
  (seqS (asgS 6 (callM cf n__law_draw [varM 0, primM (one1 lenD) [varM 1]]))
  (seqS (ifS (binM ltD (binM ixD (varM 1) (varM 6)) (constM (.int 200)) >>= asB) ((seqS (asgS 9 (binM addD (binM addD (slM (varM 1) noO (intO (varM 6))) (tupM [binM addD (binM ixD (varM 1) (varM 6)) (constM (.int 1))])) (slM (varM 1) (intO (binM addD (varM 6) (constM (.int 1)))) noO)))
  (ifS (notT (chainM leD leD (varM 3) (callM cf n_least_longest [varM 9, varM 2]) (binM addD (varM 3) (constM (.int 1))) >>= asB)) ((retS (constM (.bl false)))) (pure .nx)))) (pure .nx))
  (seqS (ifS (orT (binM neD (callM cf n_least_longest [varM 1, constM (.int 1)]) (primM (one1 sumD) [varM 1]) >>= asB) (binM ltD (binM mulD (constM (.int 2)) (callM cf n_least_longest [varM 1, constM (.int 2)])) (primM (one1 sumD) [varM 1]) >>= asB)) ((retS (constM (.bl false)))) (pure .nx))
  (retS (andM (binM eqS (primM (one1 reprD) [varM 1]) (varM 8)) (binM geD (varM 3) (primM (maxD2) [varM 1])))))))))))))
/-- _law_is_long_right: 0 hand, 1 one, 2 bays, 3 cranes, 4 least, 5 row, 6 used, 7 here -/
def b__law_is_long_right (cf : CF) : MS :=
  (seqS (parS 2 3 (callM cf n__law_bays [varM 0, constM (.int 20)]) (binM addD (constM (.int 1)) (callM cf n__law_draw [varM 0, constM (.int 6)])))
  (seqS (parS 4 5 (callM cf n_least_longest [varM 2, varM 3]) (callM cf n_parting [varM 2, varM 3]))
  (seqS (ifS (orT (notT (truM (callM cf n__law_is_row [varM 5, varM 3, primM (one1 lenD) [varM 2]]))) (orT (binM neD (callM cf n__law_longest [varM 2, varM 5]) (varM 4) >>= asB) (binM neD (callM cf n_longest [varM 2, varM 5]) (varM 4) >>= asB))) ((retS (constM (.bl false)))) (pure .nx))
  (seqS (ifS (binM leD (varM 4) (primM (maxD2) [varM 2]) >>= asB) ((retS (binM eqD (varM 4) (primM (maxD2) [varM 2])))) (pure .nx))
  (seqS (asgG (tupG [nameG 6, nameG 7]) (tupM [constM (.int 1), constM (.int 0)]))
  (seqS (forS (seqM (varM 2)) (nameG 1) ((seqS (ifS (binM gtD (binM addD (varM 7) (varM 1)) (binM subD (varM 4) (constM (.int 1))) >>= asB) ((parS 6 7 (binM addD (varM 6) (constM (.int 1))) (constM (.int 0)))) (pure .nx))
  (asgS 7 (binM addD (varM 7) (varM 1))))))
  (retS (binM gtD (varM 6) (varM 3)))))))))
/-- law: 0 script, 1 hand, 2 lap -/
def b_law (cf : CF) : MS :=
  (seqS (asgS 1 (callM cf n__law_hand [varM 0]))
  (seqS (ifS (orT (binM neD (callM cf n_least_longest [tupM [constM (.int 3), constM (.int 1), constM (.int 2), constM (.int 4)], constM (.int 2)]) (constM (.int 6)) >>= asB) (orT (binM neD (callM cf n_parting [tupM [constM (.int 3), constM (.int 1), constM (.int 2), constM (.int 4)], constM (.int 2)]) (tupM [constM (.int 0), constM (.int 2)]) >>= asB) (binM neD (callM cf n_longest [tupM [constM (.int 3), constM (.int 1), constM (.int 2)], tupM [constM (.int 0), constM (.int 0)]]) (constM (.int 6)) >>= asB))) ((retS (constM (.bl false)))) (pure .nx))
  (seqS (forS (srcF range1D [constM (.int 4)]) (nameG 2) ((ifS (orT (notT (truM (callM cf n__law_is_right [varM 1, callM cf n__law_bays [varM 1, constM (.int 8)], binM addD (constM (.int 1)) (callM cf n__law_draw [varM 1, constM (.int 4)])]))) (notT (truM (callM cf n__law_is_long_right [varM 1])))) ((retS (constM (.bl false)))) (pure .nx))))
  (retS (constM (.bl true))))))
def tab : List (CF → M RV) := [fun cf => runDef 1 (b_is_integer cf), fun cf => runDef 3 (b_is_within cf), fun cf => runDef 4 (b_are_within cf), fun cf => runDef 1 (b_check_bays cf), fun cf => runDef 2 (b_check_cranes cf), fun cf => runDef 4 (b_is_parting_of cf), fun cf => runDef 5 (b_works_of cf), fun cf => runDef 2 (b_longest cf), fun cf => runDef 5 (b_cranes_needed cf), fun cf => runDef 6 (b_raw_least cf), fun cf => runDef 2 (b_least_longest cf), fun cf => runDef 4 (b_can_do_rest cf), fun cf => runDef 7 (b_parting cf), fun cf => runDef 3 (b__law_hand cf), fun cf => runDef 5 (b__law_draw cf), fun cf => runDef 2 (b__law_any cf), fun cf => runDef 4 (b__law_is cf), fun cf => runDef 5 (b__law_bays cf), fun cf => runDef 7 (b__law_all_partings cf), fun cf => runDef 5 (b__law_longest cf), fun cf => runDef 3 (b__law_least_longest cf), fun cf => runDef 2 (b__law_is_number cf), fun cf => runDef 5 (b__law_is_row cf), fun cf => runDef 11 (b__law_is_right cf), fun cf => runDef 8 (b__law_is_long_right cf), fun cf => runDef 3 (b_law cf)]
end Lw

namespace Lw
open PySem L2 VL PySem.Spec PyProof PyProof.Rows

theorem hu0 {n : Nat} (h : n + 65 < cLine) : n < cLine := by omega
theorem onlys_nil : ∀ g ∈ ([] : List (D → MS)), OnlyNx g := fun _ h => nomatch h
theorem onlys_cons {g : D → MS} {gs : List (D → MS)} (h : OnlyNx g) (hs : ∀ g ∈ gs, OnlyNx g) : ∀ k ∈ g :: gs, OnlyNx k := List.forall_mem_cons.mpr ⟨h, hs⟩
def top (i : Nat) : Stmt := PySem.Challenge.pw_tidequays_k32_whole_cranes_on_one_rail.main.body.getD i (.Pass ⟨0, 0, 0, 0⟩)
def TT : List (Str × Nat) := [(("is_integer" : Str), 1), (("is_within" : Str), 3), (("are_within" : Str), 3), (("check_bays" : Str), 1), (("check_cranes" : Str), 2), (("is_parting_of" : Str), 2), (("works_of" : Str), 2), (("longest" : Str), 2), (("cranes_needed" : Str), 2), (("raw_least" : Str), 2), (("least_longest" : Str), 2), (("can_do_rest" : Str), 3), (("parting" : Str), 2), (("_law_hand" : Str), 1), (("_law_draw" : Str), 2), (("_law_any" : Str), 2), (("_law_is" : Str), 2), (("_law_bays" : Str), 2), (("_law_all_partings" : Str), 2), (("_law_longest" : Str), 2), (("_law_least_longest" : Str), 2), (("_law_is_number" : Str), 2), (("_law_is_row" : Str), 3), (("_law_is_right" : Str), 3), (("_law_is_long_right" : Str), 1), (("law" : Str), 1)]
structure Gm (K : PySem.W.Frag) (mg : Str → Option Value) : Prop where
  z_isinstance : mg "isinstance" = none
  z_bool : mg "bool" = none
  z_int : mg "int" = none
  z_all : mg "all" = none
  z_tuple : mg "tuple" = none
  z_len : mg "len" = none
  z_zip : mg "zip" = none
  z_sum : mg "sum" = none
  z_max : mg "max" = none
  z_range : mg "range" = none
  z_abs : mg "abs" = none
  z_repr : mg "repr" = none
  z_str : mg "str" = none
  z_list : mg "list" = none
  z_min : mg "min" = none
  c_MOST_BAYS : ∃ t, mg "MOST_BAYS" = some (.int 20 t)
  c_MOST_WORK : ∃ t, mg "MOST_WORK" = some (.int 200 t)
  c_MOST_CRANES : ∃ t, mg "MOST_CRANES" = some (.int 6 t)
abbrev st_is_integer : Stmt := top 1
theorem sc_is_integer : FnScope (["thing"] : List Str) (["thing"] : List Str) (defScope st_is_integer) := ⟨rfl, rfl, rfl, by decide +kernel, rfl, by decide +kernel, by decide +kernel⟩
set_option maxHeartbeats 4000000 in
theorem w_is_integer {P : Program} {w : World} {K : PySem.W.Frag} {mg : Str → Option Value} (G : Gm K mg) {C : Cfg} {f : Addr} (base : Heap) (cf : CF) (cdv : Value) (A : Around) (outer : List PySem.Env) (s : Shared) (H : Hp) (E : XK) (vx : Vx (cxOf (L2.CX P w) P w K mg base (["thing"] : List Str) "is_integer" (defScope st_is_integer) f cdv A outer s H E) C (fun cls d _ H => E cls d H) cf TT) :
    VSs (cxOf (L2.CX P w) P w K mg base (["thing"] : List Str) "is_integer" (defScope st_is_integer) f cdv A outer s H E) C (fun cls d _ H => E cls d H) (defBody st_is_integer) (b_is_integer cf) := by
  unfold b_is_integer
  exact (vss_one (vs_ret (ve_and vx (ve_isi1 .int vx (by rfl) G.z_isinstance (va_cons (ve_var 0) (va_cons (ve_ty (by rfl) G.z_int (by rfl)) va_nil))) (ve_one (ve_not vx (ve_isi1 .bl vx (by rfl) G.z_isinstance (va_cons (ve_var 0) (va_cons (ve_ty (by rfl) G.z_bool (by rfl)) va_nil))))))))
abbrev st_is_within : Stmt := top 2
theorem sc_is_within : FnScope (["thing", "least", "most"] : List Str) (["thing", "least", "most"] : List Str) (defScope st_is_within) := ⟨rfl, rfl, rfl, by decide +kernel, rfl, by decide +kernel, by decide +kernel⟩
set_option maxHeartbeats 4000000 in
theorem w_is_within {P : Program} {w : World} {K : PySem.W.Frag} {mg : Str → Option Value} (G : Gm K mg) {C : Cfg} {f : Addr} (base : Heap) (cf : CF) (cdv : Value) (A : Around) (outer : List PySem.Env) (s : Shared) (H : Hp) (E : XK) (vx : Vx (cxOf (L2.CX P w) P w K mg base (["thing", "least", "most"] : List Str) "is_within" (defScope st_is_within) f cdv A outer s H E) C (fun cls d _ H => E cls d H) cf TT) :
    VSs (cxOf (L2.CX P w) P w K mg base (["thing", "least", "most"] : List Str) "is_within" (defScope st_is_within) f cdv A outer s H E) C (fun cls d _ H => E cls d H) (defBody st_is_within) (b_is_within cf) := by
  unfold b_is_within
  exact (vss_one (vs_ret (ve_and vx (ve_call vx (i := 0) (np := 1) rfl (by rfl) (va_cons (ve_var 0) va_nil) rfl) (ve_one (ve_co2 o2_le o2_le (ve_var 1) (ve_var 0) (ve_var 2))))))
abbrev st_are_within : Stmt := top 3
theorem sc_are_within : FnScope (["thing", "least", "most", "one"] : List Str) (["thing", "least", "most"] : List Str) (defScope st_are_within) := ⟨rfl, rfl, rfl, by decide +kernel, rfl, by decide +kernel, by decide +kernel⟩
set_option maxHeartbeats 4000000 in
theorem w_are_within {P : Program} {w : World} {K : PySem.W.Frag} {mg : Str → Option Value} (G : Gm K mg) {C : Cfg} {f : Addr} (base : Heap) (cf : CF) (cdv : Value) (A : Around) (outer : List PySem.Env) (s : Shared) (H : Hp) (E : XK) (vx : Vx (cxOf (L2.CX P w) P w K mg base (["thing", "least", "most", "one"] : List Str) "are_within" (defScope st_are_within) f cdv A outer s H E) C (fun cls d _ H => E cls d H) cf TT) :
    VSs (cxOf (L2.CX P w) P w K mg base (["thing", "least", "most", "one"] : List Str) "are_within" (defScope st_are_within) f cdv A outer s H E) C (fun cls d _ H => E cls d H) (defBody st_are_within) (b_are_within cf) := by
  unfold b_are_within
  exact (vss_one (vs_ret (ve_and vx (ve_isi1 .tup vx (by rfl) G.z_isinstance (va_cons (ve_var 0) (va_cons (ve_ty (by rfl) G.z_tuple (by rfl)) va_nil))) (ve_one (ve_cb (cn_all vx.K (cr_all vx.calm)) (by rfl) G.z_all (by rfl) (va_cons (ve_lc vx (own := [("one", 3)]) rfl (by decide) (vi_seq vx (ve_var 0)) (by show BlkOk (["thing", "least", "most", "one"] : List Str) (defScope st_are_within) _ _; exact ⟨rfl, by decide +kernel, by decide +kernel, by decide +kernel, by decide +kernel⟩) (fun s H P cl fp vx => ⟨(vc_one vx 3), vts_nil, (ve_call vx (i := 1) (np := 3) rfl (by rfl) (va_cons (ve_var 3) (va_cons (ve_var 1) (va_cons (ve_var 2) va_nil))) rfl)⟩)) va_nil))))))
abbrev st_check_bays : Stmt := top 13
theorem sc_check_bays : FnScope (["bays"] : List Str) (["bays"] : List Str) (defScope st_check_bays) := ⟨rfl, rfl, rfl, by decide +kernel, rfl, by decide +kernel, by decide +kernel⟩
set_option maxHeartbeats 4000000 in
theorem w_check_bays {P : Program} {w : World} {K : PySem.W.Frag} {mg : Str → Option Value} (G : Gm K mg) {C : Cfg} {f : Addr} (base : Heap) (cf : CF) (cdv : Value) (A : Around) (outer : List PySem.Env) (s : Shared) (H : Hp) (E : XK) (vx : Vx (cxOf (L2.CX P w) P w K mg base (["bays"] : List Str) "check_bays" (defScope st_check_bays) f cdv A outer s H E) C (fun cls d _ H => E cls d H) cf TT) :
    VSs (cxOf (L2.CX P w) P w K mg base (["bays"] : List Str) "check_bays" (defScope st_check_bays) f cdv A outer s H E) C (fun cls d _ H => E cls d H) (defBody st_check_bays) (b_check_bays cf) := by
  unfold b_check_bays
  exact (vss_one (vs_if (vw_or (vt_not (vt_tru vx (ve_call vx (i := 2) (np := 3) rfl (by rfl) (va_cons (ve_var 0) (va_cons ve_int (va_cons (ve_gI (by rfl) G.c_MOST_WORK) va_nil))) rfl))) (vw_or1 (vt_not (vt_co2 o2_le o2_le ve_int (ve_cb (cn_len vx.K) (by rfl) G.z_len (by rfl) (va_cons (ve_var 0) va_nil)) (ve_gI (by rfl) G.c_MOST_BAYS))))).vt (vss_one vs_never) vss_nil))
abbrev st_check_cranes : Stmt := top 14
theorem sc_check_cranes : FnScope (["bays", "cranes"] : List Str) (["bays", "cranes"] : List Str) (defScope st_check_cranes) := ⟨rfl, rfl, rfl, by decide +kernel, rfl, by decide +kernel, by decide +kernel⟩
set_option maxHeartbeats 4000000 in
theorem w_check_cranes {P : Program} {w : World} {K : PySem.W.Frag} {mg : Str → Option Value} (G : Gm K mg) {C : Cfg} {f : Addr} (base : Heap) (cf : CF) (cdv : Value) (A : Around) (outer : List PySem.Env) (s : Shared) (H : Hp) (E : XK) (vx : Vx (cxOf (L2.CX P w) P w K mg base (["bays", "cranes"] : List Str) "check_cranes" (defScope st_check_cranes) f cdv A outer s H E) C (fun cls d _ H => E cls d H) cf TT) :
    VSs (cxOf (L2.CX P w) P w K mg base (["bays", "cranes"] : List Str) "check_cranes" (defScope st_check_cranes) f cdv A outer s H E) C (fun cls d _ H => E cls d H) (defBody st_check_cranes) (b_check_cranes cf) := by
  unfold b_check_cranes
  exact (vss_cons (vs_expr (ve_call vx (i := 3) (np := 1) rfl (by rfl) (va_cons (ve_var 0) va_nil) rfl))
  (vss_one (vs_if (vt_not (vt_tru vx (ve_call vx (i := 1) (np := 3) rfl (by rfl) (va_cons (ve_var 1) (va_cons ve_int (va_cons (ve_gI (by rfl) G.c_MOST_CRANES) va_nil))) rfl))) (vss_one vs_never) vss_nil)))
abbrev st_is_parting_of : Stmt := top 15
theorem sc_is_parting_of : FnScope (["bays", "thing", "one", "other"] : List Str) (["bays", "thing"] : List Str) (defScope st_is_parting_of) := ⟨rfl, rfl, rfl, by decide +kernel, rfl, by decide +kernel, by decide +kernel⟩
set_option maxHeartbeats 4000000 in
theorem w_is_parting_of {P : Program} {w : World} {K : PySem.W.Frag} {mg : Str → Option Value} (G : Gm K mg) {C : Cfg} {f : Addr} (base : Heap) (cf : CF) (cdv : Value) (A : Around) (outer : List PySem.Env) (s : Shared) (H : Hp) (E : XK) (vx : Vx (cxOf (L2.CX P w) P w K mg base (["bays", "thing", "one", "other"] : List Str) "is_parting_of" (defScope st_is_parting_of) f cdv A outer s H E) C (fun cls d _ H => E cls d H) cf TT) :
    VSs (cxOf (L2.CX P w) P w K mg base (["bays", "thing", "one", "other"] : List Str) "is_parting_of" (defScope st_is_parting_of) f cdv A outer s H E) C (fun cls d _ H => E cls d H) (defBody st_is_parting_of) (b_is_parting_of cf) := by
  unfold b_is_parting_of
  exact (vss_cons (vs_if (vw_or (vt_not (vt_tru vx (ve_call vx (i := 2) (np := 3) rfl (by rfl) (va_cons (ve_var 1) (va_cons ve_int (va_cons (ve_cb (cn_len vx.K) (by rfl) G.z_len (by rfl) (va_cons (ve_var 0) va_nil)) va_nil))) rfl))) (vw_or (vt_not (vt_co2 o2_le o2_le ve_int (ve_cb (cn_len vx.K) (by rfl) G.z_len (by rfl) (va_cons (ve_var 1) va_nil)) (ve_gI (by rfl) G.c_MOST_CRANES))) (vw_or1 (vt_co (o2_ne vx.K vx.hu) (ve_ix vx (ve_var 1) ve_int) ve_int)))).vt (vss_one (vs_ret ve_bl)) vss_nil)
  (vss_one (vs_ret (ve_cb (cn_all vx.K (cr_all vx.calm)) (by rfl) G.z_all (by rfl) (va_cons (ve_lc vx (own := [("one", 2), ("other", 3)]) rfl (by decide) (vi_zip vx (by rfl) G.z_zip (va_cons (ve_var 1) (va_cons (ve_sl vx (ve_var 1) (vo_some ve_int) vo_none) va_nil))) (by show BlkOk (["bays", "thing", "one", "other"] : List Str) (defScope st_is_parting_of) _ _; exact ⟨rfl, by decide +kernel, by decide +kernel, by decide +kernel, by decide +kernel⟩) (fun s H P cl fp vx => ⟨(vc_many vx (vcs_cons vx 2 (vcs_cons vx 3 vcs_nil))), vts_nil, (ve_co o2_le (ve_var 2) (ve_var 3))⟩)) va_nil)))))
abbrev st_works_of : Stmt := top 16
theorem sc_works_of : FnScope (["bays", "told", "ends", "begin", "end"] : List Str) (["bays", "told"] : List Str) (defScope st_works_of) := ⟨rfl, rfl, rfl, by decide +kernel, rfl, by decide +kernel, by decide +kernel⟩
set_option maxHeartbeats 4000000 in
theorem w_works_of {P : Program} {w : World} {K : PySem.W.Frag} {mg : Str → Option Value} (G : Gm K mg) {C : Cfg} {f : Addr} (base : Heap) (cf : CF) (cdv : Value) (A : Around) (outer : List PySem.Env) (s : Shared) (H : Hp) (E : XK) (vx : Vx (cxOf (L2.CX P w) P w K mg base (["bays", "told", "ends", "begin", "end"] : List Str) "works_of" (defScope st_works_of) f cdv A outer s H E) C (fun cls d _ H => E cls d H) cf TT) :
    VSs (cxOf (L2.CX P w) P w K mg base (["bays", "told", "ends", "begin", "end"] : List Str) "works_of" (defScope st_works_of) f cdv A outer s H E) C (fun cls d _ H => E cls d H) (defBody st_works_of) (b_works_of cf) := by
  unfold b_works_of
  exact (vss_cons (vs_set (i := 2) vx rfl (by first | exact Or.inl rfl | exact Or.inr rfl) (ve_bo (o2_add vx.K) (ve_sl vx (ve_var 1) (vo_some ve_int) vo_none) (ve_tup (va_cons (ve_cb (cn_len vx.K) (by rfl) G.z_len (by rfl) (va_cons (ve_var 0) va_nil)) va_nil) (by show (1 : Nat) ≤ 1000; decide))))
  (vss_one (vs_ret (ve_lc vx (own := [("begin", 3), ("end", 4)]) rfl (by decide) (vi_zip vx (by rfl) G.z_zip (va_cons (ve_var 1) (va_cons (ve_var 2) va_nil))) (by show BlkOk (["bays", "told", "ends", "begin", "end"] : List Str) (defScope st_works_of) _ _; exact ⟨rfl, by decide +kernel, by decide +kernel, by decide +kernel, by decide +kernel⟩) (fun s H P cl fp vx => ⟨(vc_many vx (vcs_cons vx 3 (vcs_cons vx 4 vcs_nil))), vts_nil, (ve_cb (cn_sum vx.K vx.calm) (by rfl) G.z_sum (by rfl) (va_cons (ve_sl vx (ve_var 0) (vo_some (ve_var 3)) (vo_some (ve_var 4))) va_nil))⟩)))))
abbrev st_longest : Stmt := top 17
theorem sc_longest : FnScope (["bays", "parting"] : List Str) (["bays", "parting"] : List Str) (defScope st_longest) := ⟨rfl, rfl, rfl, by decide +kernel, rfl, by decide +kernel, by decide +kernel⟩
set_option maxHeartbeats 4000000 in
theorem w_longest {P : Program} {w : World} {K : PySem.W.Frag} {mg : Str → Option Value} (G : Gm K mg) {C : Cfg} {f : Addr} (base : Heap) (cf : CF) (cdv : Value) (A : Around) (outer : List PySem.Env) (s : Shared) (H : Hp) (E : XK) (vx : Vx (cxOf (L2.CX P w) P w K mg base (["bays", "parting"] : List Str) "longest" (defScope st_longest) f cdv A outer s H E) C (fun cls d _ H => E cls d H) cf TT) :
    VSs (cxOf (L2.CX P w) P w K mg base (["bays", "parting"] : List Str) "longest" (defScope st_longest) f cdv A outer s H E) C (fun cls d _ H => E cls d H) (defBody st_longest) (b_longest cf) := by
  unfold b_longest
  exact (vss_cons (vs_expr (ve_call vx (i := 3) (np := 1) rfl (by rfl) (va_cons (ve_var 0) va_nil) rfl))
  (vss_cons (vs_if (vt_not (vt_tru vx (ve_call vx (i := 5) (np := 2) rfl (by rfl) (va_cons (ve_var 0) (va_cons (ve_var 1) va_nil)) rfl))) (vss_one vs_never) vss_nil)
  (vss_one (vs_ret (ve_cb (cn_max2 vx.K vx.calm) (by rfl) G.z_max (by rfl) (va_cons (ve_call vx (i := 6) (np := 2) rfl (by rfl) (va_cons (ve_var 0) (va_cons (ve_var 1) va_nil)) rfl) va_nil))))))
abbrev st_cranes_needed : Stmt := top 18
theorem sc_cranes_needed : FnScope (["bays", "hours", "work", "many", "left"] : List Str) (["bays", "hours"] : List Str) (defScope st_cranes_needed) := ⟨rfl, rfl, rfl, by decide +kernel, rfl, by decide +kernel, by decide +kernel⟩
set_option maxHeartbeats 4000000 in
theorem w_cranes_needed {P : Program} {w : World} {K : PySem.W.Frag} {mg : Str → Option Value} (G : Gm K mg) {C : Cfg} {f : Addr} (base : Heap) (cf : CF) (cdv : Value) (A : Around) (outer : List PySem.Env) (s : Shared) (H : Hp) (E : XK) (vx : Vx (cxOf (L2.CX P w) P w K mg base (["bays", "hours", "work", "many", "left"] : List Str) "cranes_needed" (defScope st_cranes_needed) f cdv A outer s H E) C (fun cls d _ H => E cls d H) cf TT) :
    VSs (cxOf (L2.CX P w) P w K mg base (["bays", "hours", "work", "many", "left"] : List Str) "cranes_needed" (defScope st_cranes_needed) f cdv A outer s H E) C (fun cls d _ H => E cls d H) (defBody st_cranes_needed) (b_cranes_needed cf) := by
  unfold b_cranes_needed
  exact (vss_cons (vs_if (vt_co o2_gt (ve_cb (cn_max2 vx.K vx.calm) (by rfl) G.z_max (by rfl) (va_cons (ve_var 0) va_nil)) (ve_var 1)) (vss_one (vs_ret ve_non)) vss_nil)
  (vss_cons (vs_par (i := 3) (j := 4) vx rfl rfl (by decide) rfl rfl ve_int (ve_var 1) rfl)
  (vss_cons (vs_for vx (vi_seq vx (ve_var 0)) (vg_name vx 2) only_name (vss_cons (vs_if (vt_co o2_gt (ve_var 2) (ve_var 4)) (vss_one (vs_par (i := 3) (j := 4) vx rfl rfl (by decide) rfl rfl (ve_bo (o2_add vx.K) (ve_var 3) ve_int) (ve_var 1) rfl)) vss_nil)
  (vss_one (vs_aug (i := 4) vx rfl (by first | exact Or.inl rfl | exact Or.inr rfl) ip_sub p2_subI (ve_var 2)))))
  (vss_one (vs_ret (ve_var 3))))))
abbrev st_raw_least : Stmt := top 19
theorem sc_raw_least : FnScope (["bays", "cranes", "low", "high", "middle", "many"] : List Str) (["bays", "cranes"] : List Str) (defScope st_raw_least) := ⟨rfl, rfl, rfl, by decide +kernel, rfl, by decide +kernel, by decide +kernel⟩
set_option maxHeartbeats 4000000 in
theorem w_raw_least {P : Program} {w : World} {K : PySem.W.Frag} {mg : Str → Option Value} (G : Gm K mg) {C : Cfg} {f : Addr} (base : Heap) (cf : CF) (cdv : Value) (A : Around) (outer : List PySem.Env) (s : Shared) (H : Hp) (E : XK) (vx : Vx (cxOf (L2.CX P w) P w K mg base (["bays", "cranes", "low", "high", "middle", "many"] : List Str) "raw_least" (defScope st_raw_least) f cdv A outer s H E) C (fun cls d _ H => E cls d H) cf TT) :
    VSs (cxOf (L2.CX P w) P w K mg base (["bays", "cranes", "low", "high", "middle", "many"] : List Str) "raw_least" (defScope st_raw_least) f cdv A outer s H E) C (fun cls d _ H => E cls d H) (defBody st_raw_least) (b_raw_least cf) := by
  unfold b_raw_least
  exact (vss_cons (vs_par (i := 2) (j := 3) vx rfl rfl (by decide) rfl rfl (ve_neg ve_int) (ve_cb (cn_sum vx.K vx.calm) (by rfl) G.z_sum (by rfl) (va_cons (ve_var 0) va_nil)) rfl)
  (vss_cons (vs_while vx (vt_co o2_gt (ve_bo o2_sub (ve_var 3) (ve_var 2)) ve_int) (vss_cons (vs_set (i := 4) vx rfl (by first | exact Or.inl rfl | exact Or.inr rfl) (ve_bo o2_div (ve_bo (o2_add vx.K) (ve_var 2) (ve_var 3)) ve_int))
  (vss_cons (vs_set (i := 5) vx rfl (by first | exact Or.inl rfl | exact Or.inr rfl) (ve_call vx (i := 8) (np := 2) rfl (by rfl) (va_cons (ve_var 0) (va_cons (ve_var 4) va_nil)) rfl))
  (vss_one (vs_if (vw_and (vt_co o2_isNot (ve_var 5) ve_non) (vw_and1 (vt_co o2_le (ve_var 5) (ve_var 1)))).vt (vss_one (vs_set (i := 3) vx rfl (by first | exact Or.inl rfl | exact Or.inr rfl) (ve_move 4))) (vss_one (vs_set (i := 2) vx rfl (by first | exact Or.inl rfl | exact Or.inr rfl) (ve_move 4))))))))
  (vss_one (vs_ret (ve_var 3)))))
abbrev st_least_longest : Stmt := top 20
theorem sc_least_longest : FnScope (["bays", "cranes"] : List Str) (["bays", "cranes"] : List Str) (defScope st_least_longest) := ⟨rfl, rfl, rfl, by decide +kernel, rfl, by decide +kernel, by decide +kernel⟩
set_option maxHeartbeats 4000000 in
theorem w_least_longest {P : Program} {w : World} {K : PySem.W.Frag} {mg : Str → Option Value} (G : Gm K mg) {C : Cfg} {f : Addr} (base : Heap) (cf : CF) (cdv : Value) (A : Around) (outer : List PySem.Env) (s : Shared) (H : Hp) (E : XK) (vx : Vx (cxOf (L2.CX P w) P w K mg base (["bays", "cranes"] : List Str) "least_longest" (defScope st_least_longest) f cdv A outer s H E) C (fun cls d _ H => E cls d H) cf TT) :
    VSs (cxOf (L2.CX P w) P w K mg base (["bays", "cranes"] : List Str) "least_longest" (defScope st_least_longest) f cdv A outer s H E) C (fun cls d _ H => E cls d H) (defBody st_least_longest) (b_least_longest cf) := by
  unfold b_least_longest
  exact (vss_cons (vs_expr (ve_call vx (i := 4) (np := 2) rfl (by rfl) (va_cons (ve_var 0) (va_cons (ve_var 1) va_nil)) rfl))
  (vss_one (vs_ret (ve_call vx (i := 9) (np := 2) rfl (by rfl) (va_cons (ve_var 0) (va_cons (ve_var 1) va_nil)) rfl))))
abbrev st_can_do_rest : Stmt := top 21
theorem sc_can_do_rest : FnScope (["bays", "cranes", "hours", "many"] : List Str) (["bays", "cranes", "hours"] : List Str) (defScope st_can_do_rest) := ⟨rfl, rfl, rfl, by decide +kernel, rfl, by decide +kernel, by decide +kernel⟩
set_option maxHeartbeats 4000000 in
theorem w_can_do_rest {P : Program} {w : World} {K : PySem.W.Frag} {mg : Str → Option Value} (G : Gm K mg) {C : Cfg} {f : Addr} (base : Heap) (cf : CF) (cdv : Value) (A : Around) (outer : List PySem.Env) (s : Shared) (H : Hp) (E : XK) (vx : Vx (cxOf (L2.CX P w) P w K mg base (["bays", "cranes", "hours", "many"] : List Str) "can_do_rest" (defScope st_can_do_rest) f cdv A outer s H E) C (fun cls d _ H => E cls d H) cf TT) :
    VSs (cxOf (L2.CX P w) P w K mg base (["bays", "cranes", "hours", "many"] : List Str) "can_do_rest" (defScope st_can_do_rest) f cdv A outer s H E) C (fun cls d _ H => E cls d H) (defBody st_can_do_rest) (b_can_do_rest cf) := by
  unfold b_can_do_rest
  exact (vss_cons (vs_if (vt_co (o2_eq vx.K vx.hu) (ve_cb (cn_len vx.K) (by rfl) G.z_len (by rfl) (va_cons (ve_var 0) va_nil)) ve_int) (vss_one (vs_ret ve_bl)) vss_nil)
  (vss_cons (vs_set (i := 3) vx rfl (by first | exact Or.inl rfl | exact Or.inr rfl) (ve_call vx (i := 8) (np := 2) rfl (by rfl) (va_cons (ve_var 0) (va_cons (ve_var 2) va_nil)) rfl))
  (vss_one (vs_ret (ve_and vx (ve_co o2_isNot (ve_var 3) ve_non) (ve_one (ve_co o2_le (ve_var 3) (ve_var 1))))))))
abbrev st_parting : Stmt := top 22
theorem sc_parting : FnScope (["bays", "cranes", "crane", "hours", "found", "begin", "is_good"] : List Str) (["bays", "cranes"] : List Str) (defScope st_parting) := ⟨rfl, rfl, rfl, by decide +kernel, rfl, by decide +kernel, by decide +kernel⟩
set_option maxHeartbeats 4000000 in
theorem w_parting {P : Program} {w : World} {K : PySem.W.Frag} {mg : Str → Option Value} (G : Gm K mg) {C : Cfg} {f : Addr} (base : Heap) (cf : CF) (cdv : Value) (A : Around) (outer : List PySem.Env) (s : Shared) (H : Hp) (E : XK) (vx : Vx (cxOf (L2.CX P w) P w K mg base (["bays", "cranes", "crane", "hours", "found", "begin", "is_good"] : List Str) "parting" (defScope st_parting) f cdv A outer s H E) C (fun cls d _ H => E cls d H) cf TT) :
    VSs (cxOf (L2.CX P w) P w K mg base (["bays", "cranes", "crane", "hours", "found", "begin", "is_good"] : List Str) "parting" (defScope st_parting) f cdv A outer s H E) C (fun cls d _ H => E cls d H) (defBody st_parting) (b_parting cf) := by
  unfold b_parting
  exact (vss_cons (vs_expr (ve_call vx (i := 4) (np := 2) rfl (by rfl) (va_cons (ve_var 0) (va_cons (ve_var 1) va_nil)) rfl))
  (vss_cons (vs_par (i := 3) (j := 4) vx rfl rfl (by decide) rfl rfl (ve_call vx (i := 9) (np := 2) rfl (by rfl) (va_cons (ve_var 0) (va_cons (ve_var 1) va_nil)) rfl) (ve_tup (va_cons ve_int va_nil) (by show (1 : Nat) ≤ 1000; decide)) rfl)
  (vss_cons (vs_for vx (vi_range2 (by rfl) G.z_range (va_cons ve_int (va_cons (ve_var 1) va_nil))) (vg_name vx 2) only_name (vss_one (vs_for vx (vi_range2 (by rfl) G.z_range (va_cons (ve_ix vx (ve_var 4) (ve_neg ve_int)) (va_cons (ve_bo (o2_add vx.K) (ve_cb (cn_len vx.K) (by rfl) G.z_len (by rfl) (va_cons (ve_var 0) va_nil)) ve_int) va_nil))) (vg_name vx 5) only_name (vss_cons (vs_set (i := 6) vx rfl (by first | exact Or.inl rfl | exact Or.inr rfl) (ve_co o2_le (ve_cb (cn_sum vx.K vx.calm) (by rfl) G.z_sum (by rfl) (va_cons (ve_sl vx (ve_var 0) (vo_some (ve_ix vx (ve_var 4) (ve_neg ve_int))) (vo_some (ve_var 5))) va_nil)) (ve_var 3)))
  (vss_one (vs_if (vw_and (vt_tru vx (ve_var 6)) (vw_and1 (vt_tru vx (ve_call vx (i := 11) (np := 3) rfl (by rfl) (va_cons (ve_sl vx (ve_var 0) (vo_some (ve_var 5)) vo_none) (va_cons (ve_bo o2_sub (ve_var 1) (ve_var 2)) (va_cons (ve_var 3) va_nil))) rfl)))).vt (vss_cons (vs_set (i := 4) vx rfl (by first | exact Or.inl rfl | exact Or.inr rfl) (ve_bo (o2_add vx.K) (ve_var 4) (ve_tup (va_cons (ve_var 5) va_nil) (by show (1 : Nat) ≤ 1000; decide))))
  (vss_one vs_break)) vss_nil))))))
  (vss_one (vs_ret (ve_var 4))))))
abbrev st__law_hand : Stmt := top 24
theorem sc__law_hand : FnScope (["script", "all_cells", "cell"] : List Str) (["script"] : List Str) (defScope st__law_hand) := ⟨rfl, rfl, rfl, by decide +kernel, rfl, by decide +kernel, by decide +kernel⟩
set_option maxHeartbeats 4000000 in
theorem w__law_hand {P : Program} {w : World} {K : PySem.W.Frag} {mg : Str → Option Value} (G : Gm K mg) {C : Cfg} {f : Addr} (base : Heap) (cf : CF) (cdv : Value) (A : Around) (outer : List PySem.Env) (s : Shared) (H : Hp) (E : XK) (vx : Vx (cxOf (L2.CX P w) P w K mg base (["script", "all_cells", "cell"] : List Str) "_law_hand" (defScope st__law_hand) f cdv A outer s H E) C (fun cls d _ H => E cls d H) cf TT) :
    VSs (cxOf (L2.CX P w) P w K mg base (["script", "all_cells", "cell"] : List Str) "_law_hand" (defScope st__law_hand) f cdv A outer s H E) C (fun cls d _ H => E cls d H) (defBody st__law_hand) (b__law_hand cf) := by
  unfold b__law_hand
  exact (vss_cons (vs_setLc (i := 1) vx rfl rfl rfl (own := [("cell", 2)]) rfl (by decide) (vi_seq vx (ve_sl vx (ve_var 0) vo_none (vo_some ve_int))) (by show BlkOk (["script", "all_cells", "cell"] : List Str) (defScope st__law_hand) _ _; exact ⟨rfl, by decide +kernel, by decide +kernel, by decide +kernel, by decide +kernel⟩) (fun s H P cl fp vx => ⟨(vc_one vx 2), vts_nil, (ve_cb cn_abs (by rfl) G.z_abs (by rfl) (va_cons (ve_ct cn_int (by rfl) G.z_int (by rfl) (va_cons (ve_var 2) va_nil)) va_nil))⟩))
  (vss_one (vs_ret (ve_lst (va_cons (ve_var 1) (va_cons ve_int (va_cons ve_int (va_cons (ve_bo (o2_add vx.K) ve_int (ve_bo (o2_mul vx.K) ve_int (ve_cb (cn_len vx.K) (by rfl) G.z_len (by rfl) (va_cons (ve_var 1) va_nil)))) (va_cons ve_int va_nil))))) (by show (5 : Nat) ≤ 1000; decide)))))
abbrev st__law_draw : Stmt := top 25
theorem sc__law_draw : FnScope (["hand", "many", "number", "cell", "digit"] : List Str) (["hand", "many"] : List Str) (defScope st__law_draw) := ⟨rfl, rfl, rfl, by decide +kernel, rfl, by decide +kernel, by decide +kernel⟩
set_option maxHeartbeats 4000000 in
theorem w__law_draw {P : Program} {w : World} {K : PySem.W.Frag} {mg : Str → Option Value} (G : Gm K mg) {C : Cfg} {f : Addr} (base : Heap) (cf : CF) (cdv : Value) (A : Around) (outer : List PySem.Env) (s : Shared) (H : Hp) (E : XK) (vx : Vx (cxOf (L2.CX P w) P w K mg base (["hand", "many", "number", "cell", "digit"] : List Str) "_law_draw" (defScope st__law_draw) f cdv A outer s H E) C (fun cls d _ H => E cls d H) cf TT) :
    VSs (cxOf (L2.CX P w) P w K mg base (["hand", "many", "number", "cell", "digit"] : List Str) "_law_draw" (defScope st__law_draw) f cdv A outer s H E) C (fun cls d _ H => E cls d H) (defBody st__law_draw) (b__law_draw cf) := by
  unfold b__law_draw
  exact (vss_cons (vs_if (vw_and (vt_co (o2_eq vx.K vx.hu) (ve_ix vx (ve_var 0) ve_int) ve_int) (vw_and1 (vt_co (o2_lt vx.K (hu0 vx.hu)) (ve_ix vx (ve_var 0) ve_int) (ve_cb (cn_len vx.K) (by rfl) G.z_len (by rfl) (va_cons (ve_ix vx (ve_var 0) ve_int) va_nil))))).vt (vss_cons (vs_set (i := 3) vx rfl (by first | exact Or.inl rfl | exact Or.inr rfl) (ve_ix vx (ve_ix vx (ve_var 0) ve_int) (ve_ix vx (ve_var 0) ve_int)))
  (vss_cons (vs_asg (ve_bo (o2_add vx.K) (ve_ix vx (ve_var 0) ve_int) ve_int) (vg_ix (i := 0) vx rfl ve_int) only_ix)
  (vss_cons (vs_asg (ve_bo o2_mod (ve_ct cn_int (by rfl) G.z_int (by rfl) (va_cons (ve_bo (o2_add vx.K) (ve_bo (o2_add vx.K) (ve_bo (o2_mul vx.K) (ve_ix vx (ve_var 0) ve_int) ve_int) (ve_var 3)) ve_int) va_nil)) ve_int) (vg_ix (i := 0) vx rfl ve_int) only_ix)
  (vss_one (vs_if (vt_co o2_ge (ve_var 3) (ve_bo o2_pow ve_int ve_int)) (vss_one (vs_asg (ve_var 3) (vg_ix (i := 0) vx rfl ve_int) only_ix)) vss_nil))))) vss_nil)
  (vss_cons (vs_if (vt_co o2_gt (ve_ix vx (ve_var 0) ve_int) ve_int) (vss_cons (vs_set (i := 4) vx rfl (by first | exact Or.inl rfl | exact Or.inr rfl) (ve_bo o2_mod (ve_ct cn_int (by rfl) G.z_int (by rfl) (va_cons (ve_ix vx (ve_var 0) ve_int) va_nil)) (ve_var 1)))
  (vss_cons (vs_asg (ve_bo o2_div (ve_ix vx (ve_var 0) ve_int) (ve_var 1)) (vg_ix (i := 0) vx rfl ve_int) only_ix)
  (vss_one (vs_ret (ve_var 4))))) vss_nil)
  (vss_cons (vs_asg (ve_bo (o2_add vx.K) (ve_ix vx (ve_var 0) ve_int) ve_int) (vg_ix (i := 0) vx rfl ve_int) only_ix)
  (vss_cons (vs_set (i := 2) vx rfl (by first | exact Or.inl rfl | exact Or.inr rfl) (ve_bo o2_mod (ve_ct cn_int (by rfl) G.z_int (by rfl) (va_cons (ve_bo (o2_mul vx.K) (ve_ct cn_int (by rfl) G.z_int (by rfl) (va_cons (ve_bo (o2_add vx.K) (ve_ix vx (ve_var 0) ve_int) (ve_bo (o2_mul vx.K) ve_int (ve_ix vx (ve_var 0) ve_int))) va_nil)) ve_int) va_nil)) ve_int))
  (vss_cons (vs_set (i := 2) vx rfl (by first | exact Or.inl rfl | exact Or.inr rfl) (ve_bo o2_mod (ve_ct cn_int (by rfl) G.z_int (by rfl) (va_cons (ve_bo (o2_mul vx.K) (ve_var 2) (ve_bo (o2_add vx.K) (ve_bo o2_div (ve_var 2) ve_int) ve_int)) va_nil)) ve_int))
  (vss_cons (vs_set (i := 2) vx rfl (by first | exact Or.inl rfl | exact Or.inr rfl) (ve_bo o2_mod (ve_ct cn_int (by rfl) G.z_int (by rfl) (va_cons (ve_bo (o2_mul vx.K) (ve_var 2) (ve_bo (o2_add vx.K) (ve_bo o2_div (ve_var 2) ve_int) ve_int)) va_nil)) ve_int))
  (vss_one (vs_ret (ve_bo o2_mod (ve_ct cn_int (by rfl) G.z_int (by rfl) (va_cons (ve_bo o2_div (ve_var 2) ve_int) va_nil)) (ve_var 1))))))))))
abbrev st__law_any : Stmt := top 26
theorem sc__law_any : FnScope (["hand", "things"] : List Str) (["hand", "things"] : List Str) (defScope st__law_any) := ⟨rfl, rfl, rfl, by decide +kernel, rfl, by decide +kernel, by decide +kernel⟩
set_option maxHeartbeats 4000000 in
theorem w__law_any {P : Program} {w : World} {K : PySem.W.Frag} {mg : Str → Option Value} (G : Gm K mg) {C : Cfg} {f : Addr} (base : Heap) (cf : CF) (cdv : Value) (A : Around) (outer : List PySem.Env) (s : Shared) (H : Hp) (E : XK) (vx : Vx (cxOf (L2.CX P w) P w K mg base (["hand", "things"] : List Str) "_law_any" (defScope st__law_any) f cdv A outer s H E) C (fun cls d _ H => E cls d H) cf TT) :
    VSs (cxOf (L2.CX P w) P w K mg base (["hand", "things"] : List Str) "_law_any" (defScope st__law_any) f cdv A outer s H E) C (fun cls d _ H => E cls d H) (defBody st__law_any) (b__law_any cf) := by
  unfold b__law_any
  exact (vss_one (vs_ret (ve_ix vx (ve_var 1) (ve_call vx (i := 14) (np := 2) rfl (by rfl) (va_cons (ve_var 0) (va_cons (ve_cb (cn_len vx.K) (by rfl) G.z_len (by rfl) (va_cons (ve_var 1) va_nil)) va_nil)) rfl))))
abbrev st__law_is : Stmt := top 27
theorem sc__law_is : FnScope (["came", "due", "one", "other"] : List Str) (["came", "due"] : List Str) (defScope st__law_is) := ⟨rfl, rfl, rfl, by decide +kernel, rfl, by decide +kernel, by decide +kernel⟩
set_option maxHeartbeats 4000000 in
theorem w__law_is {P : Program} {w : World} {K : PySem.W.Frag} {mg : Str → Option Value} (G : Gm K mg) {C : Cfg} {f : Addr} (base : Heap) (cf : CF) (cdv : Value) (A : Around) (outer : List PySem.Env) (s : Shared) (H : Hp) (E : XK) (vx : Vx (cxOf (L2.CX P w) P w K mg base (["came", "due", "one", "other"] : List Str) "_law_is" (defScope st__law_is) f cdv A outer s H E) C (fun cls d _ H => E cls d H) cf TT) :
    VSs (cxOf (L2.CX P w) P w K mg base (["came", "due", "one", "other"] : List Str) "_law_is" (defScope st__law_is) f cdv A outer s H E) C (fun cls d _ H => E cls d H) (defBody st__law_is) (b__law_is cf) := by
  unfold b__law_is
  exact (vss_cons (vs_if (vt_tru vx (ve_isiN [.tup, .lst] vx (by rfl) G.z_isinstance (va_cons (ve_var 1) (va_cons (ve_tup (va_cons (ve_ty (by rfl) G.z_tuple (by rfl)) (va_cons (ve_ty (by rfl) G.z_list (by rfl)) va_nil))) va_nil)))) (vss_cons (vs_if (vw_or (vt_co (o2_ne vx.K vx.hu) (ve_isi1 .tup vx (by rfl) G.z_isinstance (va_cons (ve_var 0) (va_cons (ve_ty (by rfl) G.z_tuple (by rfl)) va_nil))) (ve_isi1 .tup vx (by rfl) G.z_isinstance (va_cons (ve_var 1) (va_cons (ve_ty (by rfl) G.z_tuple (by rfl)) va_nil)))) (vw_or1 (vt_not (vt_tru vx (ve_isiN [.tup, .lst] vx (by rfl) G.z_isinstance (va_cons (ve_var 0) (va_cons (ve_tup (va_cons (ve_ty (by rfl) G.z_tuple (by rfl)) (va_cons (ve_ty (by rfl) G.z_list (by rfl)) va_nil))) va_nil))))))).vt (vss_one (vs_ret ve_bl)) vss_nil)
  (vss_one (vs_ret (ve_and vx (ve_co (o2_eq vx.K vx.hu) (ve_cb (cn_len vx.K) (by rfl) G.z_len (by rfl) (va_cons (ve_var 0) va_nil)) (ve_cb (cn_len vx.K) (by rfl) G.z_len (by rfl) (va_cons (ve_var 1) va_nil))) (ve_one (ve_cb (cn_all vx.K (cr_all vx.calm)) (by rfl) G.z_all (by rfl) (va_cons (ve_lc vx (own := [("one", 2), ("other", 3)]) rfl (by decide) (vi_zip vx (by rfl) G.z_zip (va_cons (ve_var 0) (va_cons (ve_var 1) va_nil))) (by show BlkOk (["came", "due", "one", "other"] : List Str) (defScope st__law_is) _ _; exact ⟨rfl, by decide +kernel, by decide +kernel, by decide +kernel, by decide +kernel⟩) (fun s H P cl fp vx => ⟨(vc_many vx (vcs_cons vx 2 (vcs_cons vx 3 vcs_nil))), vts_nil, (ve_call vx (i := 16) (np := 2) rfl (by rfl) (va_cons (ve_var 2) (va_cons (ve_var 3) va_nil)) rfl)⟩)) va_nil))))))) vss_nil)
  (vss_cons (vs_if (vw_or (vt_co o2_is (ve_var 1) ve_non) (vw_or1 (vt_tru vx (ve_isi1 .bl vx (by rfl) G.z_isinstance (va_cons (ve_var 1) (va_cons (ve_ty (by rfl) G.z_bool (by rfl)) va_nil)))))).vt (vss_one (vs_ret (ve_if (vt_co o2_is (ve_var 1) ve_non) (ve_co o2_is (ve_var 0) ve_non) (ve_and vx (ve_isi1 .bl vx (by rfl) G.z_isinstance (va_cons (ve_var 0) (va_cons (ve_ty (by rfl) G.z_bool (by rfl)) va_nil))) (ve_one (ve_co o2_eqS (ve_cb (cn_repr vx.K vx.gd vx.hu) (by rfl) G.z_repr (by rfl) (va_cons (ve_var 0) va_nil)) (ve_cb (cn_repr vx.K vx.gd vx.hu) (by rfl) G.z_repr (by rfl) (va_cons (ve_var 1) va_nil)))))))) vss_nil)
  (vss_cons (vs_if (vt_tru vx (ve_isi1 .str vx (by rfl) G.z_isinstance (va_cons (ve_var 1) (va_cons (ve_ty (by rfl) G.z_str (by rfl)) va_nil)))) (vss_one (vs_ret (ve_and vx (ve_isi1 .str vx (by rfl) G.z_isinstance (va_cons (ve_var 0) (va_cons (ve_ty (by rfl) G.z_str (by rfl)) va_nil))) (ve_one (ve_co o2_eqS (ve_cb (cn_repr vx.K vx.gd vx.hu) (by rfl) G.z_repr (by rfl) (va_cons (ve_var 0) va_nil)) (ve_cb (cn_repr vx.K vx.gd vx.hu) (by rfl) G.z_repr (by rfl) (va_cons (ve_var 1) va_nil))))))) vss_nil)
  (vss_one (vs_ret (ve_and vx (ve_isi1 .int vx (by rfl) G.z_isinstance (va_cons (ve_var 0) (va_cons (ve_ty (by rfl) G.z_int (by rfl)) va_nil))) (ve_and vx (ve_not vx (ve_isi1 .bl vx (by rfl) G.z_isinstance (va_cons (ve_var 0) (va_cons (ve_ty (by rfl) G.z_bool (by rfl)) va_nil)))) (ve_one (ve_co o2_eqS (ve_cb (cn_repr vx.K vx.gd vx.hu) (by rfl) G.z_repr (by rfl) (va_cons (ve_var 0) va_nil)) (ve_cb (cn_repr vx.K vx.gd vx.hu) (by rfl) G.z_repr (by rfl) (va_cons (ve_var 1) va_nil)))))))))))
abbrev st__law_bays : Stmt := top 28
theorem sc__law_bays : FnScope (["hand", "most", "wide", "found", "at"] : List Str) (["hand", "most"] : List Str) (defScope st__law_bays) := ⟨rfl, rfl, rfl, by decide +kernel, rfl, by decide +kernel, by decide +kernel⟩
set_option maxHeartbeats 4000000 in
theorem w__law_bays {P : Program} {w : World} {K : PySem.W.Frag} {mg : Str → Option Value} (G : Gm K mg) {C : Cfg} {f : Addr} (base : Heap) (cf : CF) (cdv : Value) (A : Around) (outer : List PySem.Env) (s : Shared) (H : Hp) (E : XK) (vx : Vx (cxOf (L2.CX P w) P w K mg base (["hand", "most", "wide", "found", "at"] : List Str) "_law_bays" (defScope st__law_bays) f cdv A outer s H E) C (fun cls d _ H => E cls d H) cf TT) :
    VSs (cxOf (L2.CX P w) P w K mg base (["hand", "most", "wide", "found", "at"] : List Str) "_law_bays" (defScope st__law_bays) f cdv A outer s H E) C (fun cls d _ H => E cls d H) (defBody st__law_bays) (b__law_bays cf) := by
  unfold b__law_bays
  exact (vss_cons (vs_set (i := 2) vx rfl (by first | exact Or.inl rfl | exact Or.inr rfl) (ve_call vx (i := 15) (np := 2) rfl (by rfl) (va_cons (ve_var 0) (va_cons (ve_lst (va_cons ve_int (va_cons ve_int (va_cons ve_int va_nil))) (by show (3 : Nat) ≤ 1000; decide)) va_nil)) rfl))
  (vss_cons (vs_setLc (i := 3) vx rfl rfl rfl (own := [("at", 4)]) rfl (by decide) (vi_range1 (by rfl) G.z_range (va_cons (ve_bo (o2_add vx.K) ve_int (ve_call vx (i := 14) (np := 2) rfl (by rfl) (va_cons (ve_var 0) (va_cons (ve_var 1) va_nil)) rfl)) va_nil)) (by show BlkOk (["hand", "most", "wide", "found", "at"] : List Str) (defScope st__law_bays) _ _; exact ⟨rfl, by decide +kernel, by decide +kernel, by decide +kernel, by decide +kernel⟩) (fun s H P cl fp vx => ⟨(vc_one vx 4), vts_nil, (ve_call vx (i := 14) (np := 2) rfl (by rfl) (va_cons (ve_var 0) (va_cons (ve_var 2) va_nil)) rfl)⟩))
  (vss_cons (vs_if (vt_co (o2_eq vx.K vx.hu) (ve_call vx (i := 14) (np := 2) rfl (by rfl) (va_cons (ve_var 0) (va_cons ve_int va_nil)) rfl) ve_int) (vss_one (vs_asg ve_int (vg_ix (i := 3) vx rfl (ve_call vx (i := 14) (np := 2) rfl (by rfl) (va_cons (ve_var 0) (va_cons (ve_cb (cn_len vx.K) (by rfl) G.z_len (by rfl) (va_cons (ve_var 3) va_nil)) va_nil)) rfl)) only_ix)) vss_nil)
  (vss_one (vs_ret (ve_ct (cn_tuple vx.K) (by rfl) G.z_tuple (by rfl) (va_cons (ve_var 3) va_nil)))))))
abbrev st__law_all_partings : Stmt := top 29
theorem sc__law_all_partings : FnScope (["many", "cranes", "found", "crane", "longer", "row", "at"] : List Str) (["many", "cranes"] : List Str) (defScope st__law_all_partings) := ⟨rfl, rfl, rfl, by decide +kernel, rfl, by decide +kernel, by decide +kernel⟩
set_option maxHeartbeats 4000000 in
theorem w__law_all_partings {P : Program} {w : World} {K : PySem.W.Frag} {mg : Str → Option Value} (G : Gm K mg) {C : Cfg} {f : Addr} (base : Heap) (cf : CF) (cdv : Value) (A : Around) (outer : List PySem.Env) (s : Shared) (H : Hp) (E : XK) (vx : Vx (cxOf (L2.CX P w) P w K mg base (["many", "cranes", "found", "crane", "longer", "row", "at"] : List Str) "_law_all_partings" (defScope st__law_all_partings) f cdv A outer s H E) C (fun cls d _ H => E cls d H) cf TT) :
    VSs (cxOf (L2.CX P w) P w K mg base (["many", "cranes", "found", "crane", "longer", "row", "at"] : List Str) "_law_all_partings" (defScope st__law_all_partings) f cdv A outer s H E) C (fun cls d _ H => E cls d H) (defBody st__law_all_partings) (b__law_all_partings cf) := by
  unfold b__law_all_partings
  exact (vss_cons (vs_set (i := 2) vx rfl (by first | exact Or.inl rfl | exact Or.inr rfl) (ve_lst (va_cons (ve_tup (va_cons ve_int va_nil) (by show (1 : Nat) ≤ 1000; decide)) va_nil) (by show (1 : Nat) ≤ 1000; decide)))
  (vss_cons (vs_for vx (vi_range1 (by rfl) G.z_range (va_cons (ve_bo o2_sub (ve_var 1) ve_int) va_nil)) (vg_name vx 3) only_name (vss_cons (vs_set (i := 4) vx rfl (by first | exact Or.inl rfl | exact Or.inr rfl) (ve_lst va_nil (by show (0 : Nat) ≤ 1000; decide)))
  (vss_cons (vs_for vx (vi_seq vx (ve_var 2)) (vg_name vx 5) only_name (vss_one (vs_expr (ve_ext (i := 4) rfl (ve_lc vx (own := [("at", 6)]) rfl (by decide) (vi_range2 (by rfl) G.z_range (va_cons (ve_ix vx (ve_var 5) (ve_neg ve_int)) (va_cons (ve_bo (o2_add vx.K) (ve_var 0) ve_int) va_nil))) (by show BlkOk (["many", "cranes", "found", "crane", "longer", "row", "at"] : List Str) (defScope st__law_all_partings) _ _; exact ⟨rfl, by decide +kernel, by decide +kernel, by decide +kernel, by decide +kernel⟩) (fun s H P cl fp vx => ⟨(vc_one vx 6), vts_nil, (ve_bo (o2_add vx.K) (ve_var 5) (ve_tup (va_cons (ve_var 6) va_nil) (by show (1 : Nat) ≤ 1000; decide)))⟩))))))
  (vss_one (vs_set (i := 2) vx rfl (by first | exact Or.inl rfl | exact Or.inr rfl) (ve_move 4))))))
  (vss_one (vs_ret (ve_var 2)))))
abbrev st__law_longest : Stmt := top 30
theorem sc__law_longest : FnScope (["bays", "row", "ends", "begin", "end"] : List Str) (["bays", "row"] : List Str) (defScope st__law_longest) := ⟨rfl, rfl, rfl, by decide +kernel, rfl, by decide +kernel, by decide +kernel⟩
set_option maxHeartbeats 4000000 in
theorem w__law_longest {P : Program} {w : World} {K : PySem.W.Frag} {mg : Str → Option Value} (G : Gm K mg) {C : Cfg} {f : Addr} (base : Heap) (cf : CF) (cdv : Value) (A : Around) (outer : List PySem.Env) (s : Shared) (H : Hp) (E : XK) (vx : Vx (cxOf (L2.CX P w) P w K mg base (["bays", "row", "ends", "begin", "end"] : List Str) "_law_longest" (defScope st__law_longest) f cdv A outer s H E) C (fun cls d _ H => E cls d H) cf TT) :
    VSs (cxOf (L2.CX P w) P w K mg base (["bays", "row", "ends", "begin", "end"] : List Str) "_law_longest" (defScope st__law_longest) f cdv A outer s H E) C (fun cls d _ H => E cls d H) (defBody st__law_longest) (b__law_longest cf) := by
  unfold b__law_longest
  exact (vss_cons (vs_set (i := 2) vx rfl (by first | exact Or.inl rfl | exact Or.inr rfl) (ve_bo (o2_add vx.K) (ve_ct (cn_list vx.K) (by rfl) G.z_list (by rfl) (va_cons (ve_sl vx (ve_var 1) (vo_some ve_int) vo_none) va_nil)) (ve_lst (va_cons (ve_cb (cn_len vx.K) (by rfl) G.z_len (by rfl) (va_cons (ve_var 0) va_nil)) va_nil) (by show (1 : Nat) ≤ 1000; decide))))
  (vss_one (vs_ret (ve_cb (cn_max2 vx.K vx.calm) (by rfl) G.z_max (by rfl) (va_cons (ve_lc vx (own := [("begin", 3), ("end", 4)]) rfl (by decide) (vi_zip vx (by rfl) G.z_zip (va_cons (ve_var 1) (va_cons (ve_var 2) va_nil))) (by show BlkOk (["bays", "row", "ends", "begin", "end"] : List Str) (defScope st__law_longest) _ _; exact ⟨rfl, by decide +kernel, by decide +kernel, by decide +kernel, by decide +kernel⟩) (fun s H P cl fp vx => ⟨(vc_many vx (vcs_cons vx 3 (vcs_cons vx 4 vcs_nil))), vts_nil, (ve_cb (cn_sum vx.K vx.calm) (by rfl) G.z_sum (by rfl) (va_cons (ve_sl vx (ve_var 0) (vo_some (ve_var 3)) (vo_some (ve_var 4))) va_nil))⟩)) va_nil)))))
abbrev st__law_least_longest : Stmt := top 31
theorem sc__law_least_longest : FnScope (["bays", "cranes", "row"] : List Str) (["bays", "cranes"] : List Str) (defScope st__law_least_longest) := ⟨rfl, rfl, rfl, by decide +kernel, rfl, by decide +kernel, by decide +kernel⟩
set_option maxHeartbeats 4000000 in
theorem w__law_least_longest {P : Program} {w : World} {K : PySem.W.Frag} {mg : Str → Option Value} (G : Gm K mg) {C : Cfg} {f : Addr} (base : Heap) (cf : CF) (cdv : Value) (A : Around) (outer : List PySem.Env) (s : Shared) (H : Hp) (E : XK) (vx : Vx (cxOf (L2.CX P w) P w K mg base (["bays", "cranes", "row"] : List Str) "_law_least_longest" (defScope st__law_least_longest) f cdv A outer s H E) C (fun cls d _ H => E cls d H) cf TT) :
    VSs (cxOf (L2.CX P w) P w K mg base (["bays", "cranes", "row"] : List Str) "_law_least_longest" (defScope st__law_least_longest) f cdv A outer s H E) C (fun cls d _ H => E cls d H) (defBody st__law_least_longest) (b__law_least_longest cf) := by
  unfold b__law_least_longest
  exact (vss_one (vs_ret (ve_cb (cn_min2 vx.K vx.calm) (by rfl) G.z_min (by rfl) (va_cons (ve_lc vx (own := [("row", 2)]) rfl (by decide) (vi_seq vx (ve_call vx (i := 18) (np := 2) rfl (by rfl) (va_cons (ve_cb (cn_len vx.K) (by rfl) G.z_len (by rfl) (va_cons (ve_var 0) va_nil)) (va_cons (ve_var 1) va_nil)) rfl)) (by show BlkOk (["bays", "cranes", "row"] : List Str) (defScope st__law_least_longest) _ _; exact ⟨rfl, by decide +kernel, by decide +kernel, by decide +kernel, by decide +kernel⟩) (fun s H P cl fp vx => ⟨(vc_one vx 2), vts_nil, (ve_call vx (i := 19) (np := 2) rfl (by rfl) (va_cons (ve_var 0) (va_cons (ve_var 2) va_nil)) rfl)⟩)) va_nil))))
abbrev st__law_is_number : Stmt := top 32
theorem sc__law_is_number : FnScope (["thing", "most"] : List Str) (["thing", "most"] : List Str) (defScope st__law_is_number) := ⟨rfl, rfl, rfl, by decide +kernel, rfl, by decide +kernel, by decide +kernel⟩
set_option maxHeartbeats 4000000 in
theorem w__law_is_number {P : Program} {w : World} {K : PySem.W.Frag} {mg : Str → Option Value} (G : Gm K mg) {C : Cfg} {f : Addr} (base : Heap) (cf : CF) (cdv : Value) (A : Around) (outer : List PySem.Env) (s : Shared) (H : Hp) (E : XK) (vx : Vx (cxOf (L2.CX P w) P w K mg base (["thing", "most"] : List Str) "_law_is_number" (defScope st__law_is_number) f cdv A outer s H E) C (fun cls d _ H => E cls d H) cf TT) :
    VSs (cxOf (L2.CX P w) P w K mg base (["thing", "most"] : List Str) "_law_is_number" (defScope st__law_is_number) f cdv A outer s H E) C (fun cls d _ H => E cls d H) (defBody st__law_is_number) (b__law_is_number cf) := by
  unfold b__law_is_number
  exact (vss_one (vs_ret (ve_and vx (ve_isi1 .int vx (by rfl) G.z_isinstance (va_cons (ve_var 0) (va_cons (ve_ty (by rfl) G.z_int (by rfl)) va_nil))) (ve_and vx (ve_not vx (ve_isi1 .bl vx (by rfl) G.z_isinstance (va_cons (ve_var 0) (va_cons (ve_ty (by rfl) G.z_bool (by rfl)) va_nil)))) (ve_one (ve_co2 o2_le o2_le ve_int (ve_var 0) (ve_var 1)))))))
abbrev st__law_is_row : Stmt := top 33
theorem sc__law_is_row : FnScope (["thing", "size", "most", "one", "other"] : List Str) (["thing", "size", "most"] : List Str) (defScope st__law_is_row) := ⟨rfl, rfl, rfl, by decide +kernel, rfl, by decide +kernel, by decide +kernel⟩
set_option maxHeartbeats 4000000 in
theorem w__law_is_row {P : Program} {w : World} {K : PySem.W.Frag} {mg : Str → Option Value} (G : Gm K mg) {C : Cfg} {f : Addr} (base : Heap) (cf : CF) (cdv : Value) (A : Around) (outer : List PySem.Env) (s : Shared) (H : Hp) (E : XK) (vx : Vx (cxOf (L2.CX P w) P w K mg base (["thing", "size", "most", "one", "other"] : List Str) "_law_is_row" (defScope st__law_is_row) f cdv A outer s H E) C (fun cls d _ H => E cls d H) cf TT) :
    VSs (cxOf (L2.CX P w) P w K mg base (["thing", "size", "most", "one", "other"] : List Str) "_law_is_row" (defScope st__law_is_row) f cdv A outer s H E) C (fun cls d _ H => E cls d H) (defBody st__law_is_row) (b__law_is_row cf) := by
  unfold b__law_is_row
  exact (vss_cons (vs_if (vw_or (vt_not (vt_tru vx (ve_isi1 .tup vx (by rfl) G.z_isinstance (va_cons (ve_var 0) (va_cons (ve_ty (by rfl) G.z_tuple (by rfl)) va_nil))))) (vw_or (vt_co (o2_ne vx.K vx.hu) (ve_cb (cn_len vx.K) (by rfl) G.z_len (by rfl) (va_cons (ve_var 0) va_nil)) (ve_var 1)) (vw_or1 (vt_not (vt_tru vx (ve_cb (cn_all vx.K (cr_all vx.calm)) (by rfl) G.z_all (by rfl) (va_cons (ve_lc vx (own := [("one", 3)]) rfl (by decide) (vi_seq vx (ve_var 0)) (by show BlkOk (["thing", "size", "most", "one", "other"] : List Str) (defScope st__law_is_row) _ _; exact ⟨rfl, by decide +kernel, by decide +kernel, by decide +kernel, by decide +kernel⟩) (fun s H P cl fp vx => ⟨(vc_one vx 3), vts_nil, (ve_call vx (i := 21) (np := 2) rfl (by rfl) (va_cons (ve_var 3) (va_cons (ve_var 2) va_nil)) rfl)⟩)) va_nil))))))).vt (vss_one (vs_ret ve_bl)) vss_nil)
  (vss_one (vs_ret (ve_and vx (ve_co (o2_eq vx.K vx.hu) (ve_ix vx (ve_var 0) ve_int) ve_int) (ve_one (ve_cb (cn_all vx.K (cr_all vx.calm)) (by rfl) G.z_all (by rfl) (va_cons (ve_lc vx (own := [("one", 3), ("other", 4)]) rfl (by decide) (vi_zip vx (by rfl) G.z_zip (va_cons (ve_var 0) (va_cons (ve_sl vx (ve_var 0) (vo_some ve_int) vo_none) va_nil))) (by show BlkOk (["thing", "size", "most", "one", "other"] : List Str) (defScope st__law_is_row) _ _; exact ⟨rfl, by decide +kernel, by decide +kernel, by decide +kernel, by decide +kernel⟩) (fun s H P cl fp vx => ⟨(vc_many vx (vcs_cons vx 3 (vcs_cons vx 4 vcs_nil))), vts_nil, (ve_co o2_le (ve_var 3) (ve_var 4))⟩)) va_nil)))))))
abbrev st__law_is_right : Stmt := top 34
theorem sc__law_is_right : FnScope (["hand", "bays", "cranes", "least", "best", "row", "at", "rows", "held_text", "more", "lap"] : List Str) (["hand", "bays", "cranes"] : List Str) (defScope st__law_is_right) := ⟨rfl, rfl, rfl, by decide +kernel, rfl, by decide +kernel, by decide +kernel⟩
set_option maxHeartbeats 4000000 in
theorem w__law_is_right {P : Program} {w : World} {K : PySem.W.Frag} {mg : Str → Option Value} (G : Gm K mg) {C : Cfg} {f : Addr} (base : Heap) (cf : CF) (cdv : Value) (A : Around) (outer : List PySem.Env) (s : Shared) (H : Hp) (E : XK) (vx : Vx (cxOf (L2.CX P w) P w K mg base (["hand", "bays", "cranes", "least", "best", "row", "at", "rows", "held_text", "more", "lap"] : List Str) "_law_is_right" (defScope st__law_is_right) f cdv A outer s H E) C (fun cls d _ H => E cls d H) cf TT) :
    VSs (cxOf (L2.CX P w) P w K mg base (["hand", "bays", "cranes", "least", "best", "row", "at", "rows", "held_text", "more", "lap"] : List Str) "_law_is_right" (defScope st__law_is_right) f cdv A outer s H E) C (fun cls d _ H => E cls d H) (defBody st__law_is_right) (b__law_is_right cf) := by
  unfold b__law_is_right
  exact (vss_cons (vs_asg (ve_tup (va_cons (ve_call vx (i := 18) (np := 2) rfl (by rfl) (va_cons (ve_cb (cn_len vx.K) (by rfl) G.z_len (by rfl) (va_cons (ve_var 1) va_nil)) (va_cons (ve_var 2) va_nil)) rfl) (va_cons (ve_cb (cn_repr vx.K vx.gd vx.hu) (by rfl) G.z_repr (by rfl) (va_cons (ve_var 1) va_nil)) va_nil)) (by show (2 : Nat) ≤ 1000; decide)) (vg_tup vx (vgs_cons (vg_name vx 7) (vgs_cons (vg_name vx 8) vgs_nil))) (only_tup (onlys_cons only_name (onlys_cons only_name onlys_nil))))
  (vss_cons (vs_set (i := 3) vx rfl (by first | exact Or.inl rfl | exact Or.inr rfl) (ve_call vx (i := 20) (np := 2) rfl (by rfl) (va_cons (ve_var 1) (va_cons (ve_var 2) va_nil)) rfl))
  (vss_cons (vs_set (i := 4) vx rfl (by first | exact Or.inl rfl | exact Or.inr rfl) (ve_ix vx (ve_lc vx (own := [("row", 5)]) rfl (by decide) (vi_seq vx (ve_var 7)) (by show BlkOk (["hand", "bays", "cranes", "least", "best", "row", "at", "rows", "held_text", "more", "lap"] : List Str) (defScope st__law_is_right) _ _; exact ⟨rfl, by decide +kernel, by decide +kernel, by decide +kernel, by decide +kernel⟩) (fun s H P cl fp vx => ⟨(vc_one vx 5), (vts_one (vt_co (o2_eq vx.K vx.hu) (ve_call vx (i := 19) (np := 2) rfl (by rfl) (va_cons (ve_var 1) (va_cons (ve_var 5) va_nil)) rfl) (ve_var 3))), (ve_var 5)⟩)) ve_int))
  (vss_cons (vs_if (vt_not (vt_tru vx (ve_call vx (i := 16) (np := 2) rfl (by rfl) (va_cons (ve_lst (va_cons (ve_call vx (i := 10) (np := 2) rfl (by rfl) (va_cons (ve_var 1) (va_cons (ve_var 2) va_nil)) rfl) (va_cons (ve_call vx (i := 12) (np := 2) rfl (by rfl) (va_cons (ve_var 1) (va_cons (ve_var 2) va_nil)) rfl) va_nil)) (by show (2 : Nat) ≤ 1000; decide)) (va_cons (ve_lst (va_cons (ve_var 3) (va_cons (ve_var 4) va_nil)) (by show (2 : Nat) ≤ 1000; decide)) va_nil)) rfl))) (vss_one (vs_ret ve_bl)) vss_nil)
  (vss_cons (vs_for vx (vi_seq vx (ve_bo (o2_add vx.K) (ve_lc vx (own := [("lap", 10)]) rfl (by decide) (vi_range1 (by rfl) G.z_range (va_cons ve_int va_nil)) (by show BlkOk (["hand", "bays", "cranes", "least", "best", "row", "at", "rows", "held_text", "more", "lap"] : List Str) (defScope st__law_is_right) _ _; exact ⟨rfl, by decide +kernel, by decide +kernel, by decide +kernel, by decide +kernel⟩) (fun s H P cl fp vx => ⟨(vc_one vx 10), vts_nil, (ve_call vx (i := 15) (np := 2) rfl (by rfl) (va_cons (ve_var 0) (va_cons (ve_var 7) va_nil)) rfl)⟩)) (ve_lst (va_cons (ve_var 4) va_nil) (by show (1 : Nat) ≤ 1000; decide)))) (vg_name vx 5) only_name (vss_one (vs_if (vt_not (vt_tru vx (ve_call vx (i := 16) (np := 2) rfl (by rfl) (va_cons (ve_call vx (i := 7) (np := 2) rfl (by rfl) (va_cons (ve_var 1) (va_cons (ve_var 5) va_nil)) rfl) (va_cons (ve_call vx (i := 19) (np := 2) rfl (by rfl) (va_cons (ve_var 1) (va_cons (ve_var 5) va_nil)) rfl) va_nil)) rfl))) (vss_one (vs_ret ve_bl)) vss_nil)))
  (vss_cons (vs_if (vw_or (vt_co o2_gt (ve_call vx (i := 10) (np := 2) rfl (by rfl) (va_cons (ve_var 1) (va_cons (ve_bo (o2_add vx.K) (ve_var 2) ve_int) va_nil)) rfl) (ve_var 3)) (vw_or1 (vt_co (o2_ne vx.K vx.hu) (ve_call vx (i := 10) (np := 2) rfl (by rfl) (va_cons (ve_step vx (ve_var 1) vo_none vo_none (vo_some (ve_neg ve_int))) (va_cons (ve_var 2) va_nil)) rfl) (ve_var 3)))).vt (vss_one (vs_ret ve_bl)) vss_nil)
  (vss_cons (vs_set (i := 6) vx rfl (by first | exact Or.inl rfl | exact Or.inr rfl) (ve_call vx (i := 14) (np := 2) rfl (by rfl) (va_cons (ve_var 0) (va_cons (ve_cb (cn_len vx.K) (by rfl) G.z_len (by rfl) (va_cons (ve_var 1) va_nil)) va_nil)) rfl))
  (vss_cons (vs_if (vt_co (o2_lt vx.K (hu0 vx.hu)) (ve_ix vx (ve_var 1) (ve_var 6)) ve_int) (vss_cons (vs_set (i := 9) vx rfl (by first | exact Or.inl rfl | exact Or.inr rfl) (ve_bo (o2_add vx.K) (ve_bo (o2_add vx.K) (ve_sl vx (ve_var 1) vo_none (vo_some (ve_var 6))) (ve_tup (va_cons (ve_bo (o2_add vx.K) (ve_ix vx (ve_var 1) (ve_var 6)) ve_int) va_nil) (by show (1 : Nat) ≤ 1000; decide))) (ve_sl vx (ve_var 1) (vo_some (ve_bo (o2_add vx.K) (ve_var 6) ve_int)) vo_none)))
  (vss_one (vs_if (vt_not (vt_co2 o2_le o2_le (ve_var 3) (ve_call vx (i := 10) (np := 2) rfl (by rfl) (va_cons (ve_var 9) (va_cons (ve_var 2) va_nil)) rfl) (ve_bo (o2_add vx.K) (ve_var 3) ve_int))) (vss_one (vs_ret ve_bl)) vss_nil))) vss_nil)
  (vss_cons (vs_if (vw_or (vt_co (o2_ne vx.K vx.hu) (ve_call vx (i := 10) (np := 2) rfl (by rfl) (va_cons (ve_var 1) (va_cons ve_int va_nil)) rfl) (ve_cb (cn_sum vx.K vx.calm) (by rfl) G.z_sum (by rfl) (va_cons (ve_var 1) va_nil))) (vw_or1 (vt_co (o2_lt vx.K (hu0 vx.hu)) (ve_bo (o2_mul vx.K) ve_int (ve_call vx (i := 10) (np := 2) rfl (by rfl) (va_cons (ve_var 1) (va_cons ve_int va_nil)) rfl)) (ve_cb (cn_sum vx.K vx.calm) (by rfl) G.z_sum (by rfl) (va_cons (ve_var 1) va_nil))))).vt (vss_one (vs_ret ve_bl)) vss_nil)
  (vss_one (vs_ret (ve_and vx (ve_co o2_eqS (ve_cb (cn_repr vx.K vx.gd vx.hu) (by rfl) G.z_repr (by rfl) (va_cons (ve_var 1) va_nil)) (ve_var 8)) (ve_one (ve_co o2_ge (ve_var 3) (ve_cb (cn_max2 vx.K vx.calm) (by rfl) G.z_max (by rfl) (va_cons (ve_var 1) va_nil))))))))))))))))
abbrev st__law_is_long_right : Stmt := top 35
theorem sc__law_is_long_right : FnScope (["hand", "one", "bays", "cranes", "least", "row", "used", "here"] : List Str) (["hand"] : List Str) (defScope st__law_is_long_right) := ⟨rfl, rfl, rfl, by decide +kernel, rfl, by decide +kernel, by decide +kernel⟩
set_option maxHeartbeats 4000000 in
theorem w__law_is_long_right {P : Program} {w : World} {K : PySem.W.Frag} {mg : Str → Option Value} (G : Gm K mg) {C : Cfg} {f : Addr} (base : Heap) (cf : CF) (cdv : Value) (A : Around) (outer : List PySem.Env) (s : Shared) (H : Hp) (E : XK) (vx : Vx (cxOf (L2.CX P w) P w K mg base (["hand", "one", "bays", "cranes", "least", "row", "used", "here"] : List Str) "_law_is_long_right" (defScope st__law_is_long_right) f cdv A outer s H E) C (fun cls d _ H => E cls d H) cf TT) :
    VSs (cxOf (L2.CX P w) P w K mg base (["hand", "one", "bays", "cranes", "least", "row", "used", "here"] : List Str) "_law_is_long_right" (defScope st__law_is_long_right) f cdv A outer s H E) C (fun cls d _ H => E cls d H) (defBody st__law_is_long_right) (b__law_is_long_right cf) := by
  unfold b__law_is_long_right
  exact (vss_cons (vs_par (i := 2) (j := 3) vx rfl rfl (by decide) rfl rfl (ve_call vx (i := 17) (np := 2) rfl (by rfl) (va_cons (ve_var 0) (va_cons ve_int va_nil)) rfl) (ve_bo (o2_add vx.K) ve_int (ve_call vx (i := 14) (np := 2) rfl (by rfl) (va_cons (ve_var 0) (va_cons ve_int va_nil)) rfl)) rfl)
  (vss_cons (vs_par (i := 4) (j := 5) vx rfl rfl (by decide) rfl rfl (ve_call vx (i := 10) (np := 2) rfl (by rfl) (va_cons (ve_var 2) (va_cons (ve_var 3) va_nil)) rfl) (ve_call vx (i := 12) (np := 2) rfl (by rfl) (va_cons (ve_var 2) (va_cons (ve_var 3) va_nil)) rfl) rfl)
  (vss_cons (vs_if (vw_or (vt_not (vt_tru vx (ve_call vx (i := 22) (np := 3) rfl (by rfl) (va_cons (ve_var 5) (va_cons (ve_var 3) (va_cons (ve_cb (cn_len vx.K) (by rfl) G.z_len (by rfl) (va_cons (ve_var 2) va_nil)) va_nil))) rfl))) (vw_or (vt_co (o2_ne vx.K vx.hu) (ve_call vx (i := 19) (np := 2) rfl (by rfl) (va_cons (ve_var 2) (va_cons (ve_var 5) va_nil)) rfl) (ve_var 4)) (vw_or1 (vt_co (o2_ne vx.K vx.hu) (ve_call vx (i := 7) (np := 2) rfl (by rfl) (va_cons (ve_var 2) (va_cons (ve_var 5) va_nil)) rfl) (ve_var 4))))).vt (vss_one (vs_ret ve_bl)) vss_nil)
  (vss_cons (vs_if (vt_co o2_le (ve_var 4) (ve_cb (cn_max2 vx.K vx.calm) (by rfl) G.z_max (by rfl) (va_cons (ve_var 2) va_nil))) (vss_one (vs_ret (ve_co (o2_eq vx.K vx.hu) (ve_var 4) (ve_cb (cn_max2 vx.K vx.calm) (by rfl) G.z_max (by rfl) (va_cons (ve_var 2) va_nil))))) vss_nil)
  (vss_cons (vs_asg (ve_tup (va_cons ve_int (va_cons ve_int va_nil)) (by show (2 : Nat) ≤ 1000; decide)) (vg_tup vx (vgs_cons (vg_name vx 6) (vgs_cons (vg_name vx 7) vgs_nil))) (only_tup (onlys_cons only_name (onlys_cons only_name onlys_nil))))
  (vss_cons (vs_for vx (vi_seq vx (ve_var 2)) (vg_name vx 1) only_name (vss_cons (vs_if (vt_co o2_gt (ve_bo (o2_add vx.K) (ve_var 7) (ve_var 1)) (ve_bo o2_sub (ve_var 4) ve_int)) (vss_one (vs_par (i := 6) (j := 7) vx rfl rfl (by decide) rfl rfl (ve_bo (o2_add vx.K) (ve_var 6) ve_int) ve_int rfl)) vss_nil)
  (vss_one (vs_set (i := 7) vx rfl (by first | exact Or.inl rfl | exact Or.inr rfl) (ve_bo (o2_add vx.K) (ve_var 7) (ve_var 1))))))
  (vss_one (vs_ret (ve_co o2_gt (ve_var 6) (ve_var 3))))))))))
abbrev st_law : Stmt := top 36
theorem sc_law : FnScope (["script", "hand", "lap"] : List Str) (["script"] : List Str) (defScope st_law) := ⟨rfl, rfl, rfl, by decide +kernel, rfl, by decide +kernel, by decide +kernel⟩
set_option maxHeartbeats 4000000 in
theorem w_law {P : Program} {w : World} {K : PySem.W.Frag} {mg : Str → Option Value} (G : Gm K mg) {C : Cfg} {f : Addr} (base : Heap) (cf : CF) (cdv : Value) (A : Around) (outer : List PySem.Env) (s : Shared) (H : Hp) (E : XK) (vx : Vx (cxOf (L2.CX P w) P w K mg base (["script", "hand", "lap"] : List Str) "law" (defScope st_law) f cdv A outer s H E) C (fun cls d _ H => E cls d H) cf TT) :
    VSs (cxOf (L2.CX P w) P w K mg base (["script", "hand", "lap"] : List Str) "law" (defScope st_law) f cdv A outer s H E) C (fun cls d _ H => E cls d H) (defBody st_law) (b_law cf) := by
  unfold b_law
  exact (vss_cons (vs_set (i := 1) vx rfl (by first | exact Or.inl rfl | exact Or.inr rfl) (ve_call vx (i := 13) (np := 1) rfl (by rfl) (va_cons (ve_var 0) va_nil) rfl))
  (vss_cons (vs_if (vw_or (vt_co (o2_ne vx.K vx.hu) (ve_call vx (i := 10) (np := 2) rfl (by rfl) (va_cons (ve_tup (va_cons ve_int (va_cons ve_int (va_cons ve_int (va_cons ve_int va_nil)))) (by show (4 : Nat) ≤ 1000; decide)) (va_cons ve_int va_nil)) rfl) ve_int) (vw_or (vt_co (o2_ne vx.K vx.hu) (ve_call vx (i := 12) (np := 2) rfl (by rfl) (va_cons (ve_tup (va_cons ve_int (va_cons ve_int (va_cons ve_int (va_cons ve_int va_nil)))) (by show (4 : Nat) ≤ 1000; decide)) (va_cons ve_int va_nil)) rfl) (ve_tup (va_cons ve_int (va_cons ve_int va_nil)) (by show (2 : Nat) ≤ 1000; decide))) (vw_or1 (vt_co (o2_ne vx.K vx.hu) (ve_call vx (i := 7) (np := 2) rfl (by rfl) (va_cons (ve_tup (va_cons ve_int (va_cons ve_int (va_cons ve_int va_nil))) (by show (3 : Nat) ≤ 1000; decide)) (va_cons (ve_tup (va_cons ve_int (va_cons ve_int va_nil)) (by show (2 : Nat) ≤ 1000; decide)) va_nil)) rfl) ve_int)))).vt (vss_one (vs_ret ve_bl)) vss_nil)
  (vss_cons (vs_for vx (vi_range1 (by rfl) G.z_range (va_cons ve_int va_nil)) (vg_name vx 2) only_name (vss_one (vs_if (vw_or (vt_not (vt_tru vx (ve_call vx (i := 23) (np := 3) rfl (by rfl) (va_cons (ve_var 1) (va_cons (ve_call vx (i := 17) (np := 2) rfl (by rfl) (va_cons (ve_var 1) (va_cons ve_int va_nil)) rfl) (va_cons (ve_bo (o2_add vx.K) ve_int (ve_call vx (i := 14) (np := 2) rfl (by rfl) (va_cons (ve_var 1) (va_cons ve_int va_nil)) rfl)) va_nil))) rfl))) (vw_or1 (vt_not (vt_tru vx (ve_call vx (i := 24) (np := 1) rfl (by rfl) (va_cons (ve_var 1) va_nil) rfl))))).vt (vss_one (vs_ret ve_bl)) vss_nil)))
  (vss_one (vs_ret ve_bl)))))
end Lw

namespace Lw
open VL TL
open PySem (Str)
@[irreducible] def f_is_integer (p_thing : Int) : O Bool :=
  (if (true) = true then ((pure (false)) >>= fun b1 => pure (!b1)) else pure false)
@[irreducible] def f_is_within (p_thing : Int) (p_least : Int) (p_most : Int) : O Bool :=
  ((f_is_integer p_thing : O _) >>= fun v1 => (if v1 = true then (if (decide (p_least ≤ p_thing)) = true then (pure (decide (p_thing ≤ p_most))) else pure false) else pure false))
@[irreducible] def f_are_within (p_thing : (List Int)) (p_least : Int) (p_most : Int) : O Bool :=
  (if (true) = true then ((lcT (fun x1 => pure true) (fun x1 => (f_is_within x1 p_least p_most : O _)) p_thing : O _) >>= fun v3 => pure (v3.all id)) else pure false)
@[irreducible] def f_check_bays (p_bays : (List Int)) : O Unit :=
  ((((f_are_within p_bays (0 : Int) (200 : Int) : O _) >>= fun b2 => pure (!b2)) >>= fun b5 => if b5 = true then pure true else ((if (decide ((1 : Int) ≤ (p_bays.length : Int))) = true then (pure (decide ((p_bays.length : Int) ≤ (20 : Int)))) else pure false) >>= fun b4 => pure (!b4))) >>= fun b6 => if b6 = true then (lf none : O _) else pure ())
@[irreducible] def f_check_cranes (p_bays : (List Int)) (p_cranes : Int) : O Unit :=
  (((f_check_bays p_bays : O _) >>= fun v1 => pure ()) >>= fun _ =>
  (((f_is_within p_cranes (1 : Int) (6 : Int) : O _) >>= fun b3 => pure (!b3)) >>= fun b4 => if b4 = true then (lf none : O _) else pure ()))
def f_cranes_needed_b1 (p_hours : Int) (s4 : Int × Int) (x5 : Int) : O ((Int × Int)) :=
  (((pure (decide (s4.2 < x5))) >>= fun b8 => if b8 = true then ((pure ((s4.1 + (1 : Int)), p_hours)) >>= fun p7 =>
  pure (p7.1, p7.2)) else pure (s4.1, s4.2)) >>= fun (s6 : Int × Int) =>
  (pure (s6.2 - x5) >>= fun v_left9 =>
  pure (s6.1, v_left9)))
@[irreducible] def f_cranes_needed (p_bays : (List Int)) (p_hours : Int) : O (Option Int) :=
  (((lf (maxL p_bays) : O _) >>= fun v1 => pure (decide (p_hours < v1))) >>= fun b2 => if b2 = true then
  (pure none)
  else ((pure ((1 : Int), p_hours)) >>= fun p3 =>
  ((foldT (f_cranes_needed_b1 p_hours) (p3.1, p3.2) p_bays : O _) >>= fun (s10 : Int × Int) =>
  (pure (some s10.1)))))
def f_raw_least_b1_c (p_bays : (List Int)) (p_cranes : Int) (s2 : Int × Int) : O Bool :=
  (pure (decide ((1 : Int) < (s2.2 - s2.1))))
def f_raw_least_b1 (p_bays : (List Int)) (p_cranes : Int) (s2 : Int × Int) : O ((Int × Int)) :=
  ((lf (divI (s2.1 + s2.2) (2 : Int)) : O _) >>= fun v_middle5 =>
  ((f_cranes_needed p_bays v_middle5 : O _) >>= fun v_many7 =>
  (((pure (!(Option.isNone v_many7))) >>= fun b9 => if b9 = true then ((lf (v_many7) : O _) >>= fun v8 => pure (decide (v8 ≤ p_cranes))) else pure false) >>= fun b12 => if b12 = true then (pure v_middle5 >>= fun v_high10 =>
  pure (s2.1, v_high10)) else (pure v_middle5 >>= fun v_low11 =>
  pure (v_low11, s2.2)))))
@[irreducible] def f_raw_least (p_bays : (List Int)) (p_cranes : Int) : O Int :=
  ((pure ((-(1 : Int)), (p_bays.sum))) >>= fun p1 =>
  ((whileP (f_raw_least_b1_c p_bays p_cranes) (f_raw_least_b1 p_bays p_cranes) FUEL (p1.1, p1.2) : O _) >>= fun (s13 : Int × Int) =>
  (pure s13.2)))
@[irreducible] def f_least_longest (p_bays : (List Int)) (p_cranes : Int) : O Int :=
  (((f_check_cranes p_bays p_cranes : O _) >>= fun v1 => pure ()) >>= fun _ =>
  (f_raw_least p_bays p_cranes : O _))
@[irreducible] def f_can_do_rest (p_bays : (List Int)) (p_cranes : Int) (p_hours : Int) : O Bool :=
  ((pure (decide ((p_bays.length : Int) = (0 : Int)))) >>= fun b1 => if b1 = true then
  (pure true)
  else ((f_cranes_needed p_bays p_hours : O _) >>= fun v_many3 =>
  (if (!(Option.isNone v_many3)) = true then ((lf (v_many3) : O _) >>= fun v4 => pure (decide (v4 ≤ p_cranes))) else pure false)))
def f_parting_b1 (p_bays : (List Int)) (p3 : Int × (List Int)) (p_cranes : Int) (x6 : Int) (s9 : (List Int)) (x10 : Int) : O (FL ((List Int)) (List Int)) :=
  (((lf (ixL s9 (-(1 : Int))) : O _) >>= fun v11 => pure (decide (((cutL p_bays (some v11) (some x10)).sum) ≤ p3.1))) >>= fun v_is_good12 =>
  (((pure v_is_good12) >>= fun b14 => if b14 = true then (f_can_do_rest (cutL p_bays (some x10) none) (p_cranes - x6) p3.1 : O _) else pure false) >>= fun b17 => if b17 = true then ((lf (catO s9 [x10]) : O _) >>= fun v_found16 =>
  pure (FL.brk v_found16)) else pure (FL.nx s9)))
def f_parting_b2 (p_bays : (List Int)) (p3 : Int × (List Int)) (p_cranes : Int) (s5 : (List Int)) (x6 : Int) : O (FL ((List Int)) (List Int)) :=
  (((lf (ixL s5 (-(1 : Int))) : O _) >>= fun v7 => ((lf (rngO2 v7 ((p_bays.length : Int) + (1 : Int))) : O _) >>= fun xs8 => (loopT (f_parting_b1 p_bays p3 p_cranes x6) s5 xs8 : O _))) >>= sumK (fun (s18 : (List Int)) => pure (FL.nx s18)) (fun (v : (List Int)) => pure (FL.ret v)))
@[irreducible] def f_parting (p_bays : (List Int)) (p_cranes : Int) : O (List Int) :=
  (((f_check_cranes p_bays p_cranes : O _) >>= fun v1 => pure ()) >>= fun _ =>
  (((f_raw_least p_bays p_cranes : O _) >>= fun v2 => pure (v2, [(0 : Int)])) >>= fun p3 =>
  (((lf (rngO2 (1 : Int) p_cranes) : O _) >>= fun xs4 => (loopT (f_parting_b2 p_bays p3 p_cranes) p3.2 xs4 : O _)) >>= sumK (fun (s19 : (List Int)) => (pure s19)) (fun (v : (List Int)) => pure v))))
@[irreducible] def f_is_parting_of (p_bays : (List Int)) (p_thing : (List Int)) : O Bool :=
  ((((f_are_within p_thing (0 : Int) (p_bays.length : Int) : O _) >>= fun b2 => pure (!b2)) >>= fun b7 => if b7 = true then pure true else (((if (decide ((1 : Int) ≤ (p_thing.length : Int))) = true then (pure (decide ((p_thing.length : Int) ≤ (6 : Int)))) else pure false) >>= fun b4 => pure (!b4)) >>= fun b6 => if b6 = true then pure true else ((lf (ixL p_thing (0 : Int)) : O _) >>= fun v5 => pure (!decide (v5 = (0 : Int)))))) >>= fun b8 => if b8 = true then
  (pure false)
  else ((lcT (fun x9 => pure true) (fun x9 => (pure (decide (x9.1 ≤ x9.2)))) (p_thing.zip (cutL p_thing (some (1 : Int)) none)) : O _) >>= fun v10 => pure (v10.all id)))
@[irreducible] def f_works_of (p_bays : (List Int)) (p_told : (List Int)) : O (List Int) :=
  ((lf (catO (cutL p_told (some (1 : Int)) none) [(p_bays.length : Int)]) : O _) >>= fun v_ends2 =>
  (lcT (fun x3 => pure true) (fun x3 => (pure ((cutL p_bays (some x3.1) (some x3.2)).sum))) (p_told.zip v_ends2) : O _))
@[irreducible] def f_longest (p_bays : (List Int)) (p_parting : (List Int)) : O Int :=
  (((f_check_bays p_bays : O _) >>= fun v1 => pure ()) >>= fun _ =>
  (((f_is_parting_of p_bays p_parting : O _) >>= fun b3 => pure (!b3)) >>= fun b4 => if b4 = true then
  (lf none : O _)
  else ((f_works_of p_bays p_parting : O _) >>= fun v5 => (lf (maxL v5) : O _))))
@[irreducible] noncomputable def f__law_any (p_things : (List Int)) : W Int :=
  ((drawW (p_things.length : Int)) >>= fun d1 => (lf (ixL p_things d1) : W _))
@[irreducible] noncomputable def f__law_bays (p_most : Int) : W (List Int) :=
  ((f__law_any [(3 : Int), (10 : Int), (201 : Int)] : W _) >>= fun v_wide2 =>
  (((drawW p_most) >>= fun d3 => ((lf (rngO1 ((1 : Int) + d3)) : W _) >>= fun xs4 => (lcT (fun x5 => pure true) (fun x5 => (drawW v_wide2)) xs4 : W _))) >>= fun v_found8 =>
  ((((drawW (4 : Int)) >>= fun d9 => pure (decide (d9 = (0 : Int)))) >>= fun b13 => if b13 = true then (((drawW (v_found8.length : Int)) >>= fun d11 => (lf (setL v_found8 d11 (200 : Int)) : W _)) >>= fun l12 =>
  pure l12) else pure v_found8) >>= fun (s10 : (List Int)) =>
  (pure (s10)))))
noncomputable def f__law_all_partings_b1 (p_many : Int) (s6 : (List (List Int))) (x7 : (List Int)) : O (((List (List Int)))) :=
  (((lf (ixL x7 (-(1 : Int))) : O _) >>= fun v9 => ((lf (rngO2 v9 (p_many + (1 : Int))) : O _) >>= fun xs10 => ((lcT (fun x11 => pure true) (fun x11 => (lf (catO x7 [x11]) : O _)) xs10 : O _) >>= fun v13 => (lf (catO s6 v13) : O _)))) >>= fun l8 =>
  pure l8)
noncomputable def f__law_all_partings_b2 (p_many : Int) (s3 : (List (List Int))) (x4 : Int) : O (((List (List Int)))) :=
  (pure ([] : (List (List Int))) >>= fun v_longer5 =>
  ((foldT (f__law_all_partings_b1 p_many) v_longer5 s3 : O _) >>= fun (s14 : (List (List Int))) =>
  (pure s14 >>= fun v_found15 =>
  pure v_found15)))
@[irreducible] noncomputable def f__law_all_partings (p_many : Int) (p_cranes : Int) : O (List (List Int)) :=
  (pure [[(0 : Int)]] >>= fun v_found1 =>
  (((lf (rngO1 (p_cranes - (1 : Int))) : O _) >>= fun xs2 => (foldT (f__law_all_partings_b2 p_many) v_found1 xs2 : O _)) >>= fun (s16 : (List (List Int))) =>
  (pure s16)))
@[irreducible] noncomputable def f__law_longest (p_bays : (List Int)) (p_row : (List Int)) : O Int :=
  ((lf (catO ((cutL p_row (some (1 : Int)) none)) [(p_bays.length : Int)]) : O _) >>= fun v_ends2 =>
  ((lcT (fun x3 => pure true) (fun x3 => (pure ((cutL p_bays (some x3.1) (some x3.2)).sum))) (p_row.zip v_ends2) : O _) >>= fun v4 => (lf (maxL v4) : O _)))
@[irreducible] noncomputable def f__law_least_longest (p_bays : (List Int)) (p_cranes : Int) : O Int :=
  ((f__law_all_partings (p_bays.length : Int) p_cranes : O _) >>= fun v1 => ((lcT (fun x2 => pure true) (fun x2 => (f__law_longest p_bays x2 : O _)) v1 : O _) >>= fun v4 => (lf (minL v4) : O _)))
@[irreducible] noncomputable def f__law_any_1 (p_things : (List (List Int))) : W (List Int) :=
  ((drawW (p_things.length : Int)) >>= fun d1 => (lf (ixL p_things d1) : W _))
noncomputable def f__law_is_right_b1 (p_bays : (List Int)) (s21 : Unit) (x22 : (List Int)) : W (FL (Unit) Bool) :=
  ((((TM.up (f_longest p_bays x22) : W _) >>= fun v23 => ((TM.up (f__law_longest p_bays x22) : W _) >>= fun v24 => (TM.up (isTG true true true (eI v23) (eI v24)) : W Bool))) >>= fun b26 => pure (!b26)) >>= fun b27 => if b27 = true then (pure (FL.ret false)) else pure (FL.nx ()))
@[irreducible] noncomputable def f__law_is_right (p_bays : (List Int)) (p_cranes : Int) : W Bool :=
  (((TM.up (f__law_all_partings (p_bays.length : Int) p_cranes) : W _) >>= fun v1 => ((lf (reprS ((eT eI) p_bays)) : W _) >>= fun v2 => pure (v1, v2))) >>= fun p3 =>
  ((TM.up (f__law_least_longest p_bays p_cranes) : W _) >>= fun v_least5 =>
  (((lcT (fun x6 => ((TM.up (f__law_longest p_bays x6) : W _) >>= fun v7 => pure (decide (v7 = v_least5)))) (fun x6 => (pure x6)) p3.1 : W _) >>= fun v8 => (lf (ixL v8 (0 : Int)) : W _)) >>= fun v_best10 =>
  ((((TM.up (f_least_longest p_bays p_cranes) : W _) >>= fun v11 => ((TM.up (f_parting p_bays p_cranes) : W _) >>= fun v12 => (TM.up (isTG true true true ((eL eD) [(eI v11), ((eT eI) v12)]) ((eL eD) [(eI v_least5), ((eT eI) v_best10)])) : W Bool))) >>= fun b14 => pure (!b14)) >>= fun b15 => if b15 = true then
  (pure false)
  else (((lf (rngO1 (4 : Int)) : W _) >>= fun xs16 => ((lcT (fun x17 => pure true) (fun x17 => (f__law_any_1 p3.1 : W _)) xs16 : W _) >>= fun v19 => ((lf (catO v19 [v_best10]) : W _) >>= fun v20 => (loopT (f__law_is_right_b1 p_bays) () v20 : W _)))) >>= sumK (fun (s28 : Unit) => ((((TM.up (f_least_longest p_bays (p_cranes + (1 : Int))) : W _) >>= fun v29 => pure (decide (v_least5 < v29))) >>= fun b32 => if b32 = true then pure true else ((lf (pkT p_bays none none (some (-(1 : Int)))) : W _) >>= fun v30 => ((TM.up (f_least_longest v30 p_cranes) : W _) >>= fun v31 => pure (!decide (v31 = v_least5))))) >>= fun b33 => if b33 = true then
  (pure false)
  else ((drawW (p_bays.length : Int)) >>= fun v_at35 =>
  ((((lf (ixL p_bays v_at35) : W _) >>= fun v37 => pure (decide (v37 < (200 : Int)))) >>= fun b46 => if b46 = true then (((lf (ixL p_bays v_at35) : W _) >>= fun v38 => ((lf (catO (cutL p_bays none (some v_at35)) [(v38 + (1 : Int))]) : W _) >>= fun v39 => (lf (catO v39 (cutL p_bays (some (v_at35 + (1 : Int))) none)) : W _))) >>= fun v_more41 =>
  ((((TM.up (f_least_longest v_more41 p_cranes) : W _) >>= fun v42 => (if (decide (v_least5 ≤ v42)) = true then (pure (decide (v42 ≤ (v_least5 + (1 : Int))))) else pure false)) >>= fun b44 => pure (!b44)) >>= fun b45 => if b45 = true then (pure (Sum.inr false)) else pure (Sum.inl ()))) else pure (Sum.inl ())) >>= sumK (fun (s36 : Unit) => ((((TM.up (f_least_longest p_bays (1 : Int)) : W _) >>= fun v47 => pure (!decide (v47 = (p_bays.sum)))) >>= fun b50 => if b50 = true then pure true else ((TM.up (f_least_longest p_bays (2 : Int)) : W _) >>= fun v48 => ((lf (mulI (2 : Int) v48) : W _) >>= fun v49 => pure (decide (v49 < (p_bays.sum)))))) >>= fun b51 => if b51 = true then
  (pure false)
  else ((lf (reprS ((eT eI) p_bays)) : W _) >>= fun v52 => (if (decide (v52 = p3.2)) = true then ((lf (maxL p_bays) : W _) >>= fun v53 => pure (decide (v53 ≤ v_least5))) else pure false)))) (fun (v : Bool) => pure ((fun x => x) v)))))) (fun (v : Bool) => pure v))))))
@[irreducible] noncomputable def f__law_is_number (p_thing : Int) (p_most : Int) : O Bool :=
  (if (true) = true then ((pure (false)) >>= fun b1 => (if (!b1) = true then (if (decide ((0 : Int) ≤ p_thing)) = true then (pure (decide (p_thing ≤ p_most))) else pure false) else pure false)) else pure false)
@[irreducible] noncomputable def f__law_is_row (p_thing : (List Int)) (p_size : Int) (p_most : Int) : O Bool :=
  ((((pure (true)) >>= fun b1 => pure (!b1)) >>= fun b7 => if b7 = true then pure true else ((pure (!decide ((p_thing.length : Int) = p_size))) >>= fun b6 => if b6 = true then pure true else (((lcT (fun x2 => pure true) (fun x2 => (f__law_is_number x2 p_most : O _)) p_thing : O _) >>= fun v4 => pure (v4.all id)) >>= fun b5 => pure (!b5)))) >>= fun b8 => if b8 = true then
  (pure false)
  else ((lf (ixL p_thing (0 : Int)) : O _) >>= fun v9 => (if (decide (v9 = (0 : Int))) = true then ((lcT (fun x10 => pure true) (fun x10 => (pure (decide (x10.1 ≤ x10.2)))) (p_thing.zip (cutL p_thing (some (1 : Int)) none)) : O _) >>= fun v11 => pure (v11.all id)) else pure false)))
noncomputable def f__law_is_long_right_b1 (p6 : Int × (List Int)) (s18 : Int × Int) (x19 : Int) : W ((Int × Int)) :=
  (((pure (decide ((p6.1 - (1 : Int)) < (s18.2 + x19)))) >>= fun b22 => if b22 = true then ((pure ((s18.1 + (1 : Int)), (0 : Int))) >>= fun p21 =>
  pure (p21.1, p21.2)) else pure (s18.1, s18.2)) >>= fun (s20 : Int × Int) =>
  (pure (s20.2 + x19) >>= fun v_here23 =>
  pure (s20.1, v_here23)))
@[irreducible] noncomputable def f__law_is_long_right : W Bool :=
  (((f__law_bays (20 : Int) : W _) >>= fun v1 => ((drawW (6 : Int)) >>= fun d2 => pure (v1, ((1 : Int) + d2)))) >>= fun p3 =>
  (((TM.up (f_least_longest p3.1 p3.2) : W _) >>= fun v4 => ((TM.up (f_parting p3.1 p3.2) : W _) >>= fun v5 => pure (v4, v5))) >>= fun p6 =>
  ((((TM.up (f__law_is_row p6.2 p3.2 (p3.1.length : Int)) : W _) >>= fun b8 => pure (!b8)) >>= fun b12 => if b12 = true then pure true else (((TM.up (f__law_longest p3.1 p6.2) : W _) >>= fun v9 => pure (!decide (v9 = p6.1))) >>= fun b11 => if b11 = true then pure true else ((TM.up (f_longest p3.1 p6.2) : W _) >>= fun v10 => pure (!decide (v10 = p6.1))))) >>= fun b13 => if b13 = true then
  (pure false)
  else (((lf (maxL p3.1) : W _) >>= fun v14 => pure (decide (p6.1 ≤ v14))) >>= fun b15 => if b15 = true then
  ((lf (maxL p3.1) : W _) >>= fun v16 => pure (decide (p6.1 = v16)))
  else ((pure ((1 : Int), (0 : Int))) >>= fun p17 =>
  ((foldT (f__law_is_long_right_b1 p6) (p17.1, p17.2) p3.1 : W _) >>= fun (s24 : Int × Int) =>
  (pure (decide (p3.2 < s24.1)))))))))
noncomputable def f_law_b1 (s8 : Unit) (x9 : Int) : W (FL (Unit) Bool) :=
  (((((f__law_bays (8 : Int) : W _) >>= fun v10 => ((drawW (4 : Int)) >>= fun d11 => (f__law_is_right v10 ((1 : Int) + d11) : W _))) >>= fun b13 => pure (!b13)) >>= fun b16 => if b16 = true then pure true else ((f__law_is_long_right  : W _) >>= fun b15 => pure (!b15))) >>= fun b17 => if b17 = true then (pure (FL.ret false)) else pure (FL.nx ()))
@[irreducible] noncomputable def f_law (p_script : (List Int)) : W Bool :=
  (pure () >>= fun _ =>
  ((((TM.up (f_least_longest [(3 : Int), (1 : Int), (2 : Int), (4 : Int)] (2 : Int)) : W _) >>= fun v1 => pure (!decide (v1 = (6 : Int)))) >>= fun b5 => if b5 = true then pure true else (((TM.up (f_parting [(3 : Int), (1 : Int), (2 : Int), (4 : Int)] (2 : Int)) : W _) >>= fun v2 => pure (!decide (v2 = [(0 : Int), (2 : Int)]))) >>= fun b4 => if b4 = true then pure true else ((TM.up (f_longest [(3 : Int), (1 : Int), (2 : Int)] [(0 : Int), (0 : Int)]) : W _) >>= fun v3 => pure (!decide (v3 = (6 : Int)))))) >>= fun b6 => if b6 = true then
  (pure false)
  else (((lf (rngO1 (4 : Int)) : W _) >>= fun xs7 => (loopT (f_law_b1) () xs7 : W _)) >>= sumK (fun (s18 : Unit) => (pure true)) (fun (v : Bool) => pure v))))
end Lw

namespace Lw
open VL TL
open PySem (Str)
theorem cn {k i : Nat} {f : CF → M RV} (h : tab[i]? = some f) : callN tab (k + 1) i = f (callN tab k) := callN_succ h
theorem draw1 {k : Nat} (h : D) (H : Hd h) (span : Int) (h0 : 0 < span) (h1 : span < 1073741824) :
    ∃ h' d, Hd h' ∧ 0 ≤ d ∧ d < span ∧ callN tab (k + 1) 14 [.bow h, .val (.int span)] = .ok (.val (.int d)) [.bow h', .val (.int span)] := by
  obtain ⟨cells, a, b, c, d, rfl, hc, ha, hb⟩ := H
  have first : ∃ a' b' c' s3, 0 ≤ a' ∧ 0 ≤ b' ∧ ifS (andT (binM eqD (binM ixD (varM 0) (constM (.int 2))) (constM (.int 0)) >>= asB) (binM ltD (binM ixD (varM 0) (constM (.int 1))) (primM (one1 lenD) [binM ixD (varM 0) (constM (.int 0))]) >>= asB)) ((seqS (asgS 3 (binM ixD (binM ixD (varM 0) (constM (.int 0))) (binM ixD (varM 0) (constM (.int 1)))))
  (seqS (asgG (ixG 0 (constM (.int 1))) (binM addD (binM ixD (varM 0) (constM (.int 1))) (constM (.int 1))))
  (seqS (asgG (ixG 0 (constM (.int 3))) (binM modD (primM (one1 intD) [binM addD (binM addD (binM mulD (binM ixD (varM 0) (constM (.int 3))) (constM (.int 69621))) (varM 3)) (constM (.int 239))]) (constM (.int 2147483629))))
  (ifS (binM geD (varM 3) (binM powD (constM (.int 10)) (constM (.int 18))) >>= asB) ((asgG (ixG 0 (constM (.int 2))) (varM 3))) (pure .nx)))))) (pure .nx) [.bow (hd cells a b c d), .val (.int span), .un, .un, .un] = .ok .nx [.bow (hd cells a' b' c' d), .val (.int span), .un, s3, .un] := by
    by_cases h2 : b = 0
    · by_cases h3 : a < cells.length
      · have hx : ixD (.lst (cells.map .int)) (.int a) = some (.val (.int (cells.getD a.toNat 0))) := ix_ints ha h3
        have hx0 : 0 ≤ cells.getD a.toNat 0 := by
          have hi : a.toNat < cells.length := by omega
          rw [List.getD_eq_getElem?_getD, List.getElem?_eq_getElem hi]
          exact hc _ (List.getElem_mem hi)
        generalize cells.getD a.toNat 0 = x at hx hx0
        subst h2
        by_cases h4 : 1000000000000000000 ≤ x
        · exact ⟨a + 1, x, (c * 69621 + x + 239) % 2147483629, .val (.int x), by omega, hx0, by simp [h3, hx, mul_r, modD_pos, h4]⟩
        · exact ⟨a + 1, 0, (c * 69621 + x + 239) % 2147483629, .val (.int x), by omega, by omega, by simp [h3, hx, mul_r, modD_pos, h4]⟩
      · exact ⟨a, b, c, .un, ha, hb, by simp [h2, h3]⟩
    · have h2' : (b == 0) = false := beq_eq_false_iff_ne.mpr h2
      exact ⟨a, b, c, .un, ha, hb, by simp [h2']⟩
  obtain ⟨a', b', c', s3, ha', hb', hf⟩ := first
  rw [cn rfl]
  by_cases h5 : 0 < b'
  · refine ⟨hd cells a' (b' / span) c' d, b' % span, ⟨cells, a', b' / span, c', d, rfl, hc, ha', Int.ediv_nonneg hb' (by omega)⟩, Int.emod_nonneg _ (by omega), Int.emod_lt_of_pos _ h0, ?_⟩
    refine run_ret (ρ' := [.bow (hd cells a' (b' / span) c' d), .val (.int span), .un, s3, .val (.int (b' % span))]) rfl ?_ (by simp)
    show b__law_draw (callN tab k) [.bow (hd cells a b c d), .val (.int span), .un, .un, .un] = _
    unfold b__law_draw
    rw [seqS_ap, hf]
    simp [h5, modD_pos h0, divD_pos h0 h1]
  · refine ⟨hd cells a' b' c' (d + 1), ((((c' + 7919 * (d + 1)) * 48271 % 2147483647 * ((c' + 7919 * (d + 1)) * 48271 % 2147483647 / 1009 + 69621) % 2147483647) * (((c' + 7919 * (d + 1)) * 48271 % 2147483647 * ((c' + 7919 * (d + 1)) * 48271 % 2147483647 / 1009 + 69621) % 2147483647) / 2003 + 40692) % 2147483399) / 16) % span, ⟨cells, a', b', c', d + 1, rfl, hc, ha', hb'⟩, Int.emod_nonneg _ (by omega), Int.emod_lt_of_pos _ h0, ?_⟩
    generalize hn1 : (c' + 7919 * (d + 1)) * 48271 % 2147483647 = n1
    have b1 : 0 ≤ n1 ∧ n1 < 2147483647 := by subst hn1; exact ⟨Int.emod_nonneg _ (by decide), Int.emod_lt_of_pos _ (by decide)⟩
    generalize hn2 : n1 * (n1 / 1009 + 69621) % 2147483647 = n2
    have b2 : 0 ≤ n2 ∧ n2 < 2147483647 := by subst hn2; exact ⟨Int.emod_nonneg _ (by decide), Int.emod_lt_of_pos _ (by decide)⟩
    refine run_ret (ρ' := [.bow (hd cells a' b' c' (d + 1)), .val (.int span), .val (.int (n2 * (n2 / 2003 + 40692) % 2147483399)), s3, .un]) rfl ?_ (by simp)
    show b__law_draw (callN tab k) [.bow (hd cells a b c d), .val (.int span), .un, .un, .un] = _
    unfold b__law_draw
    rw [seqS_ap, hf]
    simp [h5, modD_pos h0, modD_pos, divD_pos, mul_l (i := 7919), mul_r (j := 48271), hn1, mul_l (i := n1) (by omega), hn2, mul_l (i := n2) (by omega)]
theorem s_draw (k : Nat) (n : Int) : TF (m := W) [.exB Hd, .free] [.exB Hd, .val (eI n)] (callN tab (k + 1) 14) (drawW n) (fun b => kv false (eI b)) (fun _ => [.exB Hd, .val (eI n)]) := draw_spec (fun h H n h0 h1 => draw1 h H n h0 h1) n
theorem hand1 {k : Nat} (ns : List Int) (hl : ns.length ≤ 63) : ∃ h, Hd h ∧ callN tab (k + 1) 13 [.val (.scr ns)] = .ok (.own h) [.val (.scr ns)] := by
  refine ⟨hd (ns.map fun n => if n < 0 then -n else n) 0 0 (269 + 199 * ((ns.map fun n => if n < 0 then -n else n).length : Int)) 0, ⟨_, _, _, _, _, rfl, fun x hx => ?_, by omega, by omega⟩, ?_⟩
  · obtain ⟨n, _, rfl⟩ := List.mem_map.mp hx
    show 0 ≤ if n < 0 then -n else n
    split <;> omega
  rw [cn rfl]
  have hs : slD none (some 63) (.scr ns) = some (.own (.lst (ns.map .int))) := by
    show some (RV.own (.lst ((cutL ns none (some 63)).map .int))) = _
    have e : cutL ns none (some 63) = ns := cutL_whole ⟨rfl, by show min 63 ns.length = ns.length; omega⟩
    rw [e]
  have h : lcGo (.one 2) (pure true) (primM (one1 absD) [primM (one1 intD) [varM 2]]) [2] (ns.map D.int) [.val (.scr ns), .un, .un] = .ok (.own (.lst ((ns.map D.int).filterMap fun d => match d with | .int n => some (.int (if n < 0 then -n else n)) | _ => none))) [.val (.scr ns), .un, .un] := by
    refine lcGo_pure _ (by rw [List.length_map]; exact LIM_big (by omega)) (by simp [wipeE, restoreE]) fun d hd => ?_
    obtain ⟨x, hx, rfl⟩ := List.mem_map.mp hd
    exact ⟨.nx, [.val (.scr ns), .un, .val (.int x)], true, [.val (.scr ns), .un, .val (.int x)], by simp [ctG, wipeE], rfl, .inl ⟨rfl, .int (if x < 0 then -x else x), [.val (.scr ns), .un, .val (.int x)], by simp [modD_pos], by simp [wipeE], rfl⟩⟩
  have e : ((ns.map D.int).filterMap fun d => match d with | .int n => some (D.int (if n < 0 then -n else n)) | _ => none) = (ns.map fun n => if n < 0 then -n else n).map D.int := by
    clear h hs hl
    induction ns with
    | nil => rfl
    | cons n ns ih => rw [List.map_cons, List.filterMap_cons]; show _ :: _ = _; rw [ih]; rfl
  rw [e] at h
  have hlen : (ns.map fun n => if n < 0 then -n else n).length ≤ 63 := by rw [List.length_map]; exact hl
  generalize (ns.map fun n => if n < 0 then -n else n) = cs at h hlen
  refine run_ret (ρ' := [.val (.scr ns), .val (.lst (cs.map .int)), .un]) rfl ?_ (by simp)
  simp [b__law_hand, hs, itemsD, h, mul_l]
  rfl
theorem s_hand (k : Nat) : ∀ ns : List Int, ns.length ≤ 63 → ∃ h, Hd h ∧ callN tab (k + 1) 13 [.val (.scr ns)] = .ok (.own h) [.val (.scr ns)] := fun ns h => hand1 ns h
theorem is_zip (cf : CF) (D0 : D) (ds : List D) (hz : itemsD D0 = some ds) (hl : ds.length ≤ 100000) (h : ∀ d ∈ ds, cf n__law_is [.val d, .val d] = .ok (.val (.bl true)) [.val d, .val d]) :
    primM (one1 allD) [lcM (srcF zipD [varM 0, varM 1]) (.many [2, 3]) (pure true) (callM cf n__law_is [varM 2, varM 3]) [2, 3]] [.val D0, .val D0, .un, .un] = .ok (.val (.bl true)) [.val D0, .val D0, .un, .un] := by
  have hg : lcGo (.many [2, 3]) (pure true) (callM cf n__law_is [varM 2, varM 3]) [2, 3] (zipL ds ds) [.val D0, .val D0, .un, .un] = .ok (.own (.lst ((zipL ds ds).filterMap fun _ => some (D.bl true)))) [.val D0, .val D0, .un, .un] := by
    refine lcGo_pure _ (LIM_big (by rw [zipL_len]; omega)) (by simp [wipeE, restoreE]) fun d hd => ?_
    obtain ⟨e, he, rfl⟩ := zip_mem hd
    exact ⟨.nx, [.val D0, .val D0, .val e, .val e], true, [.val D0, .val D0, .val e, .val e], by simp [ctG, wipeE], rfl, .inl ⟨rfl, .bl true, [.val D0, .val D0, .val e, .val e], by simp [h e he], by simp [wipeE], rfl⟩⟩
  rw [fm_true] at hg
  have ha := all_true (zipL ds ds)
  generalize ((zipL ds ds).map fun _ => true) = bs at hg ha
  have hzz : zipD [D0, D0] = some (zipL ds ds) := by
    show (match itemsD D0, itemsD D0 with
      | some xs, some ys => some (zipL xs ys)
      | _, _ => none) = _
    rw [hz]
  simp [hzz, hg, allD_lst, ha]
theorem is_refl : ∀ (n : Nat) (d : D), SameG true true true n d → ∀ k, callN tab (k + n + 1) n__law_is [.val d, .val d] = .ok (.val (.bl true)) [.val d, .val d] := by
  intro n
  induction n with
  | zero =>
    intro d h k
    rw [cn rfl]
    cases h with
    | int i hi => exact run_ret (ρ' := [.val (.int i), .val (.int i), .un, .un]) rfl (by simp [b__law_is, isiD, isPlain, Ty.has, isD, isNonD, reprD_int (hi rfl)]) (by simp)
    | bl i => exact run_ret (ρ' := [.val (.bl i), .val (.bl i), .un, .un]) rfl (by simp [b__law_is, isiD, isPlain, Ty.has, isD, isNonD, reprD_bl]) (by simp)
    | non => exact run_ret (ρ' := [.val .non, .val .non, .un, .un]) rfl (by simp [b__law_is, isiD, isPlain, Ty.has, isD, isNonD]) (by simp)
    | str x hx hl ho => exact run_ret (ρ' := [.val (.str x), .val (.str x), .un, .un]) rfl (by simp [b__law_is, isiD, isPlain, Ty.has, isD, isNonD, reprD_str hl, eqB_str ho ho, eqS]) (by simp)
  | succ n ih =>
    intro d h k
    rw [cn rfl]
    cases h with
    | int i hi => exact run_ret (ρ' := [.val (.int i), .val (.int i), .un, .un]) rfl (by simp [b__law_is, isiD, isPlain, Ty.has, isD, isNonD, reprD_int (hi rfl)]) (by simp)
    | bl i => exact run_ret (ρ' := [.val (.bl i), .val (.bl i), .un, .un]) rfl (by simp [b__law_is, isiD, isPlain, Ty.has, isD, isNonD, reprD_bl]) (by simp)
    | non => exact run_ret (ρ' := [.val .non, .val .non, .un, .un]) rfl (by simp [b__law_is, isiD, isPlain, Ty.has, isD, isNonD]) (by simp)
    | str x hx hl ho => exact run_ret (ρ' := [.val (.str x), .val (.str x), .un, .un]) rfl (by simp [b__law_is, isiD, isPlain, Ty.has, isD, isNonD, reprD_str hl, eqB_str ho ho, eqS]) (by simp)
    | @tup _ ds hm hl =>
      have hz := is_zip (callN tab (k + (n + 1))) (.tup ds) ds rfl hl fun d hd => ih d (hm d hd) k
      refine run_ret (ρ' := [.val (.tup ds), .val (.tup ds), .un, .un]) rfl ?_ (by simp)
      show b__law_is (callN tab (k + (n + 1))) [.val (.tup ds), .val (.tup ds), .un, .un] = _
      generalize callN tab (k + (n + 1)) = cf at hz
      unfold b__law_is
      generalize primM (one1 allD) [lcM (srcF zipD [varM 0, varM 1]) (.many [2, 3]) (pure true) (callM cf n__law_is [varM 2, varM 3]) [2, 3]] = m at hz
      simp [isiD, isPlain, Ty.has, isD, isNonD, hz]
    | @lst _ ds hL hm hl =>
      have hz := is_zip (callN tab (k + (n + 1))) (.lst ds) ds rfl hl fun d hd => ih d (hm d hd) k
      refine run_ret (ρ' := [.val (.lst ds), .val (.lst ds), .un, .un]) rfl ?_ (by simp)
      show b__law_is (callN tab (k + (n + 1))) [.val (.lst ds), .val (.lst ds), .un, .un] = _
      generalize callN tab (k + (n + 1)) = cf at hz
      unfold b__law_is
      generalize primM (one1 allD) [lcM (srcF zipD [varM 0, varM 1]) (.many [2, 3]) (pure true) (callM cf n__law_is [varM 2, varM 3]) [2, 3]] = m at hz
      simp [isiD, isPlain, Ty.has, isD, isNonD, hz]
theorem s__law_is (k : Nat) (a b : D) : TF (m := O) [.free, .free] [.val a, .val b] (callN tab (k + 12) 16) (isTG true true true a b) (fun b => kv false (eB b)) (fun _ => [.val a, .val b]) := is_specG (fun a h => is_refl 8 a h (k + 3)) a b
end Lw

namespace Lw
open VL TL
open PySem (Str)
set_option maxHeartbeats 4000000 in
theorem s_is_integer (k : Nat) (p_thing : Int) : TF (m := O) [.free] [.val (eI p_thing)] (callN tab (k + 1) 0) (f_is_integer p_thing) (fun b => kv false (eB b)) (fun _ => [.val (eI p_thing)]) := by
  rw [callN_succ (i := 0) (k := k + 0) rfl]
  refine f_def (X0 := (List.replicate 1 SS.free)) (Γr := [.free]) ?_ (.val .nil) (.valF .nil)
  show TR _ [.val (eI p_thing)] (b_is_integer (callN tab (k + 0))) _ _
  delta b_is_integer f_is_integer
  exact t_ret1 false (e := eB) (TR.conv (e_and (e_unp (f := (isiD [.int])) (g := fun x => true) (rv := fun z => .val (eB z)) (o_val (e_val (i := 0) (e := eI) (b := p_thing) rfl)) (fun _ => .val _) (fun _ => rfl)) (e_not (b_trub (e_unp (f := (isiD [.bl])) (g := fun x => false) (rv := fun z => .val (eB z)) (o_val (e_val (i := 0) (e := eI) (b := p_thing) rfl)) (fun _ => .val _) (fun _ => rfl)))) (c_cons s_rfl c_nil)) (by first | with_reducible rfl | simp only [bind_assoc, pure_bind, bind_pure] | rfl)) (fun b ρ h => RF.ret rfl ((c_cons s_free c_nil) ρ h))
set_option maxHeartbeats 4000000 in
theorem s_is_within (k : Nat) (p_thing : Int) (p_least : Int) (p_most : Int) : TF (m := O) [.free, .free, .free] [.val (eI p_thing), .val (eI p_least), .val (eI p_most)] (callN tab (k + 2) 1) (f_is_within p_thing p_least p_most) (fun b => kv false (eB b)) (fun _ => [.val (eI p_thing), .val (eI p_least), .val (eI p_most)]) := by
  rw [callN_succ (i := 1) (k := k + 1) rfl]
  refine f_def (X0 := (List.replicate 3 SS.free)) (Γr := [.free, .free, .free]) ?_ (.val (.val (.val .nil))) (.valF (.valF (.valF .nil)))
  show TR _ [.val (eI p_thing), .val (eI p_least), .val (eI p_most)] (b_is_within (callN tab (k + 1))) _ _
  delta b_is_within f_is_within
  exact t_ret1 false (e := eB) (TR.conv (e_and (e_call false (e := eB) (a_cons (o_val (e_val (i := 0) (e := eI) (b := p_thing) rfl)) (fun _ => a_nil)) (fun p => (s_is_integer (k + 0) p.1)) (fun _ => (.val .nil)) (fun _ => List.nodup_nil) (fun _ => (.val .nil)) (fun _ => (.val .nil)) (c_free (n := 3) rfl)) (e_chain (f := leD) (g := leD) (p := fun x y => decide (x ≤ y)) (q := fun y z => decide (y ≤ z)) (o_val (e_val (i := 1) (e := eI) (b := p_least) rfl)) (fun _ => (o_val (e_val (i := 0) (e := eI) (b := p_thing) rfl))) (o_val (e_val (i := 2) (e := eI) (b := p_most) rfl)) (fun _ => .val _) (fun _ => .val _) (fun _ => .val _) (fun _ => .val _) (c_cons s_rfl (c_cons s_rfl (c_cons s_rfl c_nil))) q_le q_le) (c_cons s_rfl (c_cons s_rfl (c_cons s_rfl c_nil)))) (by first | with_reducible rfl | simp only [bind_assoc, pure_bind, bind_pure] | rfl)) (fun b ρ h => RF.ret rfl ((c_cons s_free (c_cons s_free (c_cons s_free c_nil))) ρ h))
set_option maxHeartbeats 4000000 in
theorem s_are_within (k : Nat) (p_thing : (List Int)) (p_least : Int) (p_most : Int) : TF (m := O) [.free, .free, .free] [.val ((eT eI) p_thing), .val (eI p_least), .val (eI p_most)] (callN tab (k + 3) 2) (f_are_within p_thing p_least p_most) (fun b => kv false (eB b)) (fun _ => [.val ((eT eI) p_thing), .val (eI p_least), .val (eI p_most)]) := by
  rw [callN_succ (i := 2) (k := k + 2) rfl]
  refine f_def (X0 := (List.replicate 4 SS.free)) (Γr := [.free, .free, .free, .free]) ?_ (.val (.val (.val .nil))) (.valF (.valF (.valF .nil)))
  show TR _ [.val ((eT eI) p_thing), .val (eI p_least), .val (eI p_most), .any] (b_are_within (callN tab (k + 2))) _ _
  delta b_are_within f_are_within
  exact t_ret1 false (e := eB) (TR.conv (e_and (e_unp (f := (isiD [.tup])) (g := fun x => true) (rv := fun z => .val (eB z)) (o_val (e_val (i := 0) (e := (eT eI)) (b := p_thing) rfl)) (fun _ => .val _) (fun _ => rfl)) (e_primp (f := one1 allD) (g := fun p => p.1.all id) (rv := fun z => .val (eB z)) (a_cons (o_own (e_lc (vs := [3]) (Γ1 := [.val ((eT eI) p_thing), .val (eI p_least), .val (eI p_most), .any]) (Γy := fun x1 => [.val ((eT eI) p_thing), .val (eI p_least), .val (eI p_most), .val (eI x1)]) (Γz := fun x1 => [.val ((eT eI) p_thing), .val (eI p_least), .val (eI p_most), .val (eI x1)]) (X0 := List.replicate 4 SS.free) (Γw := [.val ((eT eI) p_thing), .val (eI p_least), .val (eI p_most), .any]) (e := eI) (e' := eB) (i_seq (e := (eT eI)) (g := fun x => x) (ed := eI) (z_of (o_val (e_val (i := 0) (e := (eT eI)) (b := p_thing) rfl)) (fun _ => .val _)) q_itT) (c_cons s_rfl (c_cons s_rfl (c_cons s_rfl (c_cons s_rfl c_nil)))) (fun x1 => (g_name (i := 3) rfl a_any)) (fun x1 => b_true) (fun x1 => (z_of (o_val (e_call false (e := eB) (a_cons (o_val (e_val (i := 3) (e := eI) (b := x1) rfl)) (fun _ => (a_cons (o_val (e_val (i := 1) (e := eI) (b := p_least) rfl)) (fun _ => (a_cons (o_val (e_val (i := 2) (e := eI) (b := p_most) rfl)) (fun _ => a_nil)))))) (fun p => (s_is_within (k + 0) p.1 p.2.1 p.2.2.1)) (fun _ => (.val (.val (.val .nil)))) (fun _ => List.nodup_nil) (fun _ => (.val (.val (.val .nil)))) (fun _ => (.val (.val (.val .nil)))) (c_free (n := 4) rfl))) (fun _ => .val _))) (fun x1 => (c_cons s_rfl (c_cons s_rfl (c_cons s_rfl (c_cons s_rfl c_nil))))) (fun x1 => (c_cons s_rfl (c_cons s_rfl (c_cons s_rfl (c_cons s_rfl c_nil))))) (r_cons (v := 3) rfl r_nil))) (fun _ => a_nil)) (fun _ => (.cons (.val _) .nil)) (fun p => q_all p.1)) (c_cons s_rfl (c_cons s_rfl (c_cons s_rfl (c_cons s_rfl c_nil))))) (by first | with_reducible rfl | simp only [bind_assoc, pure_bind, bind_pure] | rfl)) (fun b ρ h => RF.ret rfl ((c_cons s_free (c_cons s_free (c_cons s_free (c_cons s_free c_nil)))) ρ h))
set_option maxHeartbeats 4000000 in
theorem s_check_bays (k : Nat) (p_bays : (List Int)) : TF (m := O) [.free] [.val ((eT eI) p_bays)] (callN tab (k + 4) 3) (f_check_bays p_bays) (fun b => kv false (eU b)) (fun _ => [.val ((eT eI) p_bays)]) := by
  rw [callN_succ (i := 3) (k := k + 3) rfl]
  refine f_def (X0 := (List.replicate 1 SS.free)) (Γr := [.free]) ?_ (.val .nil) (.valF .nil)
  show TR _ [.val ((eT eI) p_bays)] (b_check_bays (callN tab (k + 3))) _ _
  delta b_check_bays f_check_bays
  refine t_ifC [.val ((eT eI) p_bays)] (TR.conv (b_or (b_not (b_trub (e_call false (e := eB) (a_cons (o_val (e_val (i := 0) (e := (eT eI)) (b := p_bays) rfl)) (fun _ => (a_cons (o_val (e_const (e := eI) (b := (0 : Int)) rfl)) (fun _ => (a_cons (o_val (e_const (e := eI) (b := (200 : Int)) rfl)) (fun _ => a_nil)))))) (fun p => (s_are_within (k + 0) p.1 p.2.1 p.2.2.1)) (fun _ => (.val (.val (.val .nil)))) (fun _ => List.nodup_nil) (fun _ => (.val (.val (.val .nil)))) (fun _ => (.val (.val (.val .nil)))) (c_free (n := 1) rfl)))) (b_not (b_as (e_chain (f := leD) (g := leD) (p := fun x y => decide (x ≤ y)) (q := fun y z => decide (y ≤ z)) (o_val (e_const (e := eI) (b := (1 : Int)) rfl)) (fun _ => (o_val (e_primp (f := one1 lenD) (g := fun p => (p.1.length : Int)) (rv := fun z => .val (eI z)) (a_cons (o_val (e_val (i := 0) (e := (eT eI)) (b := p_bays) rfl)) (fun _ => a_nil)) (fun _ => (.cons (.val _) .nil)) (fun p => q_lenT p.1)))) (o_val (e_const (e := eI) (b := (20 : Int)) rfl)) (fun _ => .val _) (fun _ => .val _) (fun _ => .val _) (fun _ => .val _) (c_cons s_rfl c_nil) q_le q_le))) (c_cons s_rfl c_nil)) (by first | with_reducible rfl | simp only [bind_assoc, pure_bind, bind_pure] | rfl)) c_rfl ?_ ?_
  · exact t_stuck not_none
  · exact t_nx (b := ()) (fun ρ h => RF.nx rfl ((c_cons s_free c_nil) ρ h))
set_option maxHeartbeats 4000000 in
theorem s_check_cranes (k : Nat) (p_bays : (List Int)) (p_cranes : Int) : TF (m := O) [.free, .free] [.val ((eT eI) p_bays), .val (eI p_cranes)] (callN tab (k + 5) 4) (f_check_cranes p_bays p_cranes) (fun b => kv false (eU b)) (fun _ => [.val ((eT eI) p_bays), .val (eI p_cranes)]) := by
  rw [callN_succ (i := 4) (k := k + 4) rfl]
  refine f_def (X0 := (List.replicate 2 SS.free)) (Γr := [.free, .free]) ?_ (.val (.val .nil)) (.valF (.valF .nil))
  show TR _ [.val ((eT eI) p_bays), .val (eI p_cranes)] (b_check_cranes (callN tab (k + 4))) _ _
  delta b_check_cranes f_check_cranes
  refine t_seqC (fun _ => [.val ((eT eI) p_bays), .val (eI p_cranes)]) (TR.conv (p_drop (e_call false (e := eU) (a_cons (o_val (e_val (i := 0) (e := (eT eI)) (b := p_bays) rfl)) (fun _ => a_nil)) (fun p => (s_check_bays (k + 0) p.1)) (fun _ => (.val .nil)) (fun _ => List.nodup_nil) (fun _ => (.val .nil)) (fun _ => (.val .nil)) (c_free (n := 2) rfl))) (by first | with_reducible rfl | simp only [bind_assoc, pure_bind, bind_pure] | rfl)) (fun _ => c_rfl) (fun _ => ?_)
  refine t_ifC [.val ((eT eI) p_bays), .val (eI p_cranes)] (TR.conv (b_not (b_trub (e_call false (e := eB) (a_cons (o_val (e_val (i := 1) (e := eI) (b := p_cranes) rfl)) (fun _ => (a_cons (o_val (e_const (e := eI) (b := (1 : Int)) rfl)) (fun _ => (a_cons (o_val (e_const (e := eI) (b := (6 : Int)) rfl)) (fun _ => a_nil)))))) (fun p => (s_is_within (k + 2) p.1 p.2.1 p.2.2.1)) (fun _ => (.val (.val (.val .nil)))) (fun _ => List.nodup_nil) (fun _ => (.val (.val (.val .nil)))) (fun _ => (.val (.val (.val .nil)))) (c_free (n := 2) rfl)))) (by first | with_reducible rfl | simp only [bind_assoc, pure_bind, bind_pure] | rfl)) c_rfl ?_ ?_
  · exact t_stuck not_none
  · exact t_nx (b := ()) (fun ρ h => RF.nx rfl ((c_cons s_free (c_cons s_free c_nil)) ρ h))
set_option maxHeartbeats 4000000 in
theorem s_cranes_needed (k : Nat) (p_bays : (List Int)) (p_hours : Int) : TF (m := O) [.free, .free] [.val ((eT eI) p_bays), .val (eI p_hours)] (callN tab (k + 1) 8) (f_cranes_needed p_bays p_hours) (fun b => kv false ((eO eI) b)) (fun _ => [.val ((eT eI) p_bays), .val (eI p_hours)]) := by
  rw [callN_succ (i := 8) (k := k + 0) rfl]
  refine f_def (X0 := (List.replicate 5 SS.free)) (Γr := [.free, .free, .free, .free, .free]) ?_ (.val (.val .nil)) (.valF (.valF .nil))
  show TR _ [.val ((eT eI) p_bays), .val (eI p_hours), .any, .any, .any] (b_cranes_needed (callN tab (k + 0))) _ _
  delta b_cranes_needed f_cranes_needed
  refine t_seqifC [.val ((eT eI) p_bays), .val (eI p_hours), .any, .any, .any] (TR.conv (b_as (e_binp (f := gtD) (g := fun x y => decide (y < x)) (rv := fun z => .val (eB z)) (o_val (e_prim (f := maxD2) (g := fun p => maxL p.1) (rv := fun z => .val (eI z)) (a_cons (o_val (e_val (i := 0) (e := (eT eI)) (b := p_bays) rfl)) (fun _ => a_nil)) (fun _ => (.cons (.val _) .nil)) (fun p => q_maxT p.1))) (fun _ => (o_val (e_val (i := 1) (e := eI) (b := p_hours) rfl))) (fun _ => .val _) (fun _ => .val _) (fun x y => q_gt x y))) (by first | with_reducible rfl | simp only [bind_assoc, pure_bind, bind_pure] | rfl)) c_rfl ?_ ?_
  · refine t_end ?_
    exact t_ret1 false (e := (eO eI)) (TR.conv (e_map (g := fun x => .val ((eO eI) x)) (e_const (e := eU) (b := ()) rfl) (fun x => none) (fun _ => rfl)) (by first | with_reducible rfl | simp only [bind_assoc, pure_bind, bind_pure] | rfl)) (fun b ρ h => ⟨RF.ret rfl ((c_cons s_free (c_cons s_free (c_cons s_free (c_cons s_free (c_cons s_free c_nil))))) ρ h), nofun⟩)
  · refine t_skip ?_
    refine t_seqC (fun p3 => [.val ((eT eI) p_bays), .val (eI p_hours), .any, .val (eI p3.1), .val (eI p3.2)]) (TR.conv (p_par false false (i := 3) (j := 4) (ea := eI) (eb := eI) (e_const (e := eI) (b := (1 : Int)) rfl) (fun _ => (e_val (i := 1) (e := eI) (b := p_hours) rfl)) rfl a_any rfl a_any (by decide)) (by first | with_reducible rfl | simp only [bind_assoc, pure_bind, bind_pure] | rfl)) (fun _ => c_rfl) (fun p3 => ?_)
    refine t_seq (TR.conv (p_for (tb := f_cranes_needed_b1 p_hours) (s0 := (p3.1, p3.2)) (Γs := (fun (s4 : Int × Int) => [.val ((eT eI) p_bays), .val (eI p_hours), .any, .val (eI s4.1), .val (eI s4.2)])) (i_seq (e := (eT eI)) (g := fun x => x) (ed := eI) (z_of (o_val (e_val (i := 0) (e := (eT eI)) (b := p_bays) rfl)) (fun _ => .val _)) q_itT) (c_cons s_rfl (c_cons s_rfl (c_cons s_rfl (c_cons s_rfl (c_cons s_rfl c_nil))))) (fun s4 x5 => (g_name (i := 2) rfl a_any)) (fun s4 x5 => ?_)) (by first | with_reducible rfl | simp only [bind_assoc, pure_bind, bind_pure] | rfl)) (fun s10 => ?_)
    · delta f_cranes_needed_b1
      refine t_seq (Γa := (fun (s6 : Int × Int) => [.val ((eT eI) p_bays), .val (eI p_hours), .val (eI x5), .val (eI s6.1), .val (eI s6.2)])) (t_ifC [.val ((eT eI) p_bays), .val (eI p_hours), .val (eI x5), .val (eI s4.1), .val (eI s4.2)] (TR.conv (b_as (e_binp (f := gtD) (g := fun x y => decide (y < x)) (rv := fun z => .val (eB z)) (o_val (e_val (i := 2) (e := eI) (b := x5) rfl)) (fun _ => (o_val (e_val (i := 4) (e := eI) (b := s4.2) rfl))) (fun _ => .val _) (fun _ => .val _) (fun x y => q_gt x y))) (by first | with_reducible rfl | simp only [bind_assoc, pure_bind, bind_pure] | rfl)) c_rfl ?_ ?_) (fun s6 => ?_)
      · refine t_last ?_
        refine t_seqC (fun p7 => [.val ((eT eI) p_bays), .val (eI p_hours), .val (eI x5), .val (eI p7.1), .val (eI p7.2)]) (TR.conv (p_par false false (i := 3) (j := 4) (ea := eI) (eb := eI) (e_binp (f := addD) (g := fun x y => x + y) (rv := fun z => .val (eI z)) (o_val (e_val (i := 3) (e := eI) (b := s4.1) rfl)) (fun _ => (o_val (e_const (e := eI) (b := (1 : Int)) rfl))) (fun _ => .val _) (fun _ => .val _) (fun x y => q_add x y)) (fun _ => (e_val (i := 1) (e := eI) (b := p_hours) rfl)) rfl a_val rfl a_val (by decide)) (by first | with_reducible rfl | simp only [bind_assoc, pure_bind, bind_pure] | rfl)) (fun _ => c_rfl) (fun p7 => ?_)
        exact t_nx (b := (p7.1, p7.2)) (fun ρ h => ⟨rfl, (c_cons s_rfl (c_cons s_rfl (c_cons s_rfl (c_cons s_rfl (c_cons s_rfl c_nil))))) ρ h⟩)
      · exact t_nx (b := (s4.1, s4.2)) (fun ρ h => ⟨rfl, (c_cons s_rfl (c_cons s_rfl (c_cons s_rfl (c_cons s_rfl (c_cons s_rfl c_nil))))) ρ h⟩)
      · refine t_last ?_
        refine t_seqC (fun v_left9 => [.val ((eT eI) p_bays), .val (eI p_hours), .val (eI x5), .val (eI s6.1), .val (eI v_left9)]) (TR.conv (p_asg false (i := 4) (e := eI) (e_binp (f := subD) (g := fun x y => x - y) (rv := fun z => .val (eI z)) (o_val (e_val (i := 4) (e := eI) (b := s6.2) rfl)) (fun _ => (o_val (e_val (i := 2) (e := eI) (b := x5) rfl))) (fun _ => .val _) (fun _ => .val _) (fun x y => q_sub x y)) rfl a_val) (by first | with_reducible rfl | simp only [bind_assoc, pure_bind, bind_pure] | rfl)) (fun _ => c_rfl) (fun v_left9 => ?_)
        exact t_nx (b := (s6.1, v_left9)) (fun ρ h => ⟨rfl, (c_cons s_rfl (c_cons s_rfl (c_cons s_val (c_cons s_rfl (c_cons s_rfl c_nil))))) ρ h⟩)
    · exact t_ret1 false (e := (eO eI)) (TR.conv (e_map (g := fun x => .val ((eO eI) x)) (e_val (i := 3) (e := eI) (b := s10.1) rfl) (fun x => some x) (fun _ => rfl)) (by first | with_reducible rfl | simp only [bind_assoc, pure_bind, bind_pure] | rfl)) (fun b ρ h => RF.ret rfl ((c_cons s_free (c_cons s_free (c_cons s_free (c_cons s_free (c_cons s_free c_nil))))) ρ h))
set_option maxHeartbeats 4000000 in
theorem s_raw_least (k : Nat) (p_bays : (List Int)) (p_cranes : Int) : TF (m := O) [.free, .free] [.val ((eT eI) p_bays), .val (eI p_cranes)] (callN tab (k + 2) 9) (f_raw_least p_bays p_cranes) (fun b => kv false (eI b)) (fun _ => [.val ((eT eI) p_bays), .val (eI p_cranes)]) := by
  rw [callN_succ (i := 9) (k := k + 1) rfl]
  refine f_def (X0 := (List.replicate 6 SS.free)) (Γr := [.free, .free, .free, .free, .free, .free]) ?_ (.val (.val .nil)) (.valF (.valF .nil))
  show TR _ [.val ((eT eI) p_bays), .val (eI p_cranes), .any, .any, .any, .any] (b_raw_least (callN tab (k + 1))) _ _
  delta b_raw_least f_raw_least
  refine t_seqC (fun p1 => [.val ((eT eI) p_bays), .val (eI p_cranes), .val (eI p1.1), .val (eI p1.2), .any, .any]) (TR.conv (p_par false false (i := 2) (j := 3) (ea := eI) (eb := eI) (e_unp (f := negD) (g := fun x => -x) (rv := fun z => .val (eI z)) (o_val (e_const (e := eI) (b := (1 : Int)) rfl)) (fun _ => .val _) q_neg) (fun _ => (e_primp (f := one1 sumD) (g := fun p => p.1.sum) (rv := fun z => .val (eI z)) (a_cons (o_val (e_val (i := 0) (e := (eT eI)) (b := p_bays) rfl)) (fun _ => a_nil)) (fun _ => (.cons (.val _) .nil)) (fun p => q_sumT p.1))) rfl a_any rfl a_any (by decide)) (by first | with_reducible rfl | simp only [bind_assoc, pure_bind, bind_pure] | rfl)) (fun _ => c_rfl) (fun p1 => ?_)
  refine t_seq (TR.conv (p_while (p := f_raw_least_b1_c p_bays p_cranes) (tb := f_raw_least_b1 p_bays p_cranes) (s0 := (p1.1, p1.2)) (Γs := (fun (s2 : Int × Int) => [.val ((eT eI) p_bays), .val (eI p_cranes), .val (eI s2.1), .val (eI s2.2), .any, .any])) (c_cons s_rfl (c_cons s_rfl (c_cons s_rfl (c_cons s_rfl (c_cons s_rfl (c_cons s_rfl c_nil)))))) (fun s2 => by delta f_raw_least_b1_c; exact (TR.conv (b_as (e_binp (f := gtD) (g := fun x y => decide (y < x)) (rv := fun z => .val (eB z)) (o_val (e_binp (f := subD) (g := fun x y => x - y) (rv := fun z => .val (eI z)) (o_val (e_val (i := 3) (e := eI) (b := s2.2) rfl)) (fun _ => (o_val (e_val (i := 2) (e := eI) (b := s2.1) rfl))) (fun _ => .val _) (fun _ => .val _) (fun x y => q_sub x y))) (fun _ => (o_val (e_const (e := eI) (b := (1 : Int)) rfl))) (fun _ => .val _) (fun _ => .val _) (fun x y => q_gt x y))) (by first | with_reducible rfl | simp only [bind_assoc, pure_bind, bind_pure] | rfl))) (fun s2 => ?_)) (by first | with_reducible rfl | simp only [bind_assoc, pure_bind, bind_pure] | rfl)) (fun s13 => ?_)
  · delta f_raw_least_b1
    refine t_seqC (fun v_middle5 => [.val ((eT eI) p_bays), .val (eI p_cranes), .val (eI s2.1), .val (eI s2.2), .val (eI v_middle5), .any]) (TR.conv (p_asg false (i := 4) (e := eI) (e_bin (f := divD) (g := fun x y => divI x y) (rv := fun z => .val (eI z)) (o_val (e_binp (f := addD) (g := fun x y => x + y) (rv := fun z => .val (eI z)) (o_val (e_val (i := 2) (e := eI) (b := s2.1) rfl)) (fun _ => (o_val (e_val (i := 3) (e := eI) (b := s2.2) rfl))) (fun _ => .val _) (fun _ => .val _) (fun x y => q_add x y))) (fun _ => (o_val (e_const (e := eI) (b := (2 : Int)) rfl))) (fun _ => .val _) (fun _ => .val _) (fun x y => q_div x y)) rfl a_any) (by first | with_reducible rfl | simp only [bind_assoc, pure_bind, bind_pure] | rfl)) (fun _ => c_rfl) (fun v_middle5 => ?_)
    refine t_seqC (fun v_many7 => [.val ((eT eI) p_bays), .val (eI p_cranes), .val (eI s2.1), .val (eI s2.2), .val (eI v_middle5), .val ((eO eI) v_many7)]) (TR.conv (p_asg false (i := 5) (e := (eO eI)) (e_call false (e := (eO eI)) (a_cons (o_val (e_val (i := 0) (e := (eT eI)) (b := p_bays) rfl)) (fun _ => (a_cons (o_val (e_val (i := 4) (e := eI) (b := v_middle5) rfl)) (fun _ => a_nil)))) (fun p => (s_cranes_needed (k + 0) p.1 p.2.1)) (fun _ => (.val (.val .nil))) (fun _ => List.nodup_nil) (fun _ => (.val (.val .nil))) (fun _ => (.val (.val .nil))) (c_free (n := 6) rfl)) rfl a_any) (by first | with_reducible rfl | simp only [bind_assoc, pure_bind, bind_pure] | rfl)) (fun _ => c_rfl) (fun v_many7 => ?_)
    refine t_ifC [.val ((eT eI) p_bays), .val (eI p_cranes), .val (eI s2.1), .val (eI s2.2), .val (eI v_middle5), .val ((eO eI) v_many7)] (TR.conv (b_and (b_as (e_binp (f := isNotD) (g := fun x y => !(Option.isNone x)) (rv := fun z => .val (eB z)) (o_val (e_val (i := 5) (e := (eO eI)) (b := v_many7) rfl)) (fun _ => (o_val (e_const (e := eU) (b := ()) rfl))) (fun _ => .val _) (fun _ => .val _) (fun x y => (q_isNotO nnI) x y))) (b_as (e_binp (f := leD) (g := fun x y => decide (x ≤ y)) (rv := fun z => .val (eB z)) (o_val (e_part (e_val (i := 5) (e := (eO eI)) (b := v_many7) rfl) (fun x => x) (fun z => .val (eI z)) q_unO)) (fun _ => (o_val (e_val (i := 1) (e := eI) (b := p_cranes) rfl))) (fun _ => .val _) (fun _ => .val _) (fun x y => q_le x y))) (c_cons s_rfl (c_cons s_rfl (c_cons s_rfl (c_cons s_rfl (c_cons s_rfl (c_cons s_rfl c_nil))))))) (by first | with_reducible rfl | simp only [bind_assoc, pure_bind, bind_pure] | rfl)) c_rfl ?_ ?_
    · refine t_last ?_
      refine t_seqC (fun v_high10 => [.val ((eT eI) p_bays), .val (eI p_cranes), .val (eI s2.1), .val (eI v_high10), .val (eI v_middle5), .val ((eO eI) v_many7)]) (TR.conv (p_asg false (i := 3) (e := eI) (e_moveV (i := 4) (e := eI) (b := v_middle5) rfl) rfl a_val) (by first | with_reducible rfl | simp only [bind_assoc, pure_bind, bind_pure] | rfl)) (fun _ => c_rfl) (fun v_high10 => ?_)
      exact t_nx (b := (s2.1, v_high10)) (fun ρ h => ⟨rfl, (c_cons s_rfl (c_cons s_rfl (c_cons s_rfl (c_cons s_rfl (c_cons s_val (c_cons s_val c_nil)))))) ρ h⟩)
    · refine t_last ?_
      refine t_seqC (fun v_low11 => [.val ((eT eI) p_bays), .val (eI p_cranes), .val (eI v_low11), .val (eI s2.2), .val (eI v_middle5), .val ((eO eI) v_many7)]) (TR.conv (p_asg false (i := 2) (e := eI) (e_moveV (i := 4) (e := eI) (b := v_middle5) rfl) rfl a_val) (by first | with_reducible rfl | simp only [bind_assoc, pure_bind, bind_pure] | rfl)) (fun _ => c_rfl) (fun v_low11 => ?_)
      exact t_nx (b := (v_low11, s2.2)) (fun ρ h => ⟨rfl, (c_cons s_rfl (c_cons s_rfl (c_cons s_rfl (c_cons s_rfl (c_cons s_val (c_cons s_val c_nil)))))) ρ h⟩)
  · exact t_ret1 false (e := eI) (TR.conv (e_val (i := 3) (e := eI) (b := s13.2) rfl) (by first | with_reducible rfl | simp only [bind_assoc, pure_bind, bind_pure] | rfl)) (fun b ρ h => RF.ret rfl ((c_cons s_free (c_cons s_free (c_cons s_free (c_cons s_free (c_cons s_free (c_cons s_free c_nil)))))) ρ h))
set_option maxHeartbeats 4000000 in
theorem s_least_longest (k : Nat) (p_bays : (List Int)) (p_cranes : Int) : TF (m := O) [.free, .free] [.val ((eT eI) p_bays), .val (eI p_cranes)] (callN tab (k + 6) 10) (f_least_longest p_bays p_cranes) (fun b => kv false (eI b)) (fun _ => [.val ((eT eI) p_bays), .val (eI p_cranes)]) := by
  rw [callN_succ (i := 10) (k := k + 5) rfl]
  refine f_def (X0 := (List.replicate 2 SS.free)) (Γr := [.free, .free]) ?_ (.val (.val .nil)) (.valF (.valF .nil))
  show TR _ [.val ((eT eI) p_bays), .val (eI p_cranes)] (b_least_longest (callN tab (k + 5))) _ _
  delta b_least_longest f_least_longest
  refine t_seqC (fun _ => [.val ((eT eI) p_bays), .val (eI p_cranes)]) (TR.conv (p_drop (e_call false (e := eU) (a_cons (o_val (e_val (i := 0) (e := (eT eI)) (b := p_bays) rfl)) (fun _ => (a_cons (o_val (e_val (i := 1) (e := eI) (b := p_cranes) rfl)) (fun _ => a_nil)))) (fun p => (s_check_cranes (k + 0) p.1 p.2.1)) (fun _ => (.val (.val .nil))) (fun _ => List.nodup_nil) (fun _ => (.val (.val .nil))) (fun _ => (.val (.val .nil))) (c_free (n := 2) rfl))) (by first | with_reducible rfl | simp only [bind_assoc, pure_bind, bind_pure] | rfl)) (fun _ => c_rfl) (fun _ => ?_)
  exact t_ret1 false (e := eI) (TR.conv (e_call false (e := eI) (a_cons (o_val (e_val (i := 0) (e := (eT eI)) (b := p_bays) rfl)) (fun _ => (a_cons (o_val (e_val (i := 1) (e := eI) (b := p_cranes) rfl)) (fun _ => a_nil)))) (fun p => (s_raw_least (k + 3) p.1 p.2.1)) (fun _ => (.val (.val .nil))) (fun _ => List.nodup_nil) (fun _ => (.val (.val .nil))) (fun _ => (.val (.val .nil))) (c_free (n := 2) rfl)) (by first | with_reducible rfl | simp only [bind_assoc, pure_bind, bind_pure] | rfl)) (fun b ρ h => RF.ret rfl ((c_cons s_free (c_cons s_free c_nil)) ρ h))
set_option maxHeartbeats 4000000 in
theorem s_can_do_rest (k : Nat) (p_bays : (List Int)) (p_cranes : Int) (p_hours : Int) : TF (m := O) [.free, .free, .free] [.val ((eT eI) p_bays), .val (eI p_cranes), .val (eI p_hours)] (callN tab (k + 2) 11) (f_can_do_rest p_bays p_cranes p_hours) (fun b => kv false (eB b)) (fun _ => [.val ((eT eI) p_bays), .val (eI p_cranes), .val (eI p_hours)]) := by
  rw [callN_succ (i := 11) (k := k + 1) rfl]
  refine f_def (X0 := (List.replicate 4 SS.free)) (Γr := [.free, .free, .free, .free]) ?_ (.val (.val (.val .nil))) (.valF (.valF (.valF .nil)))
  show TR _ [.val ((eT eI) p_bays), .val (eI p_cranes), .val (eI p_hours), .any] (b_can_do_rest (callN tab (k + 1))) _ _
  delta b_can_do_rest f_can_do_rest
  refine t_seqifC [.val ((eT eI) p_bays), .val (eI p_cranes), .val (eI p_hours), .any] (TR.conv (b_as (e_binp (f := eqD) (g := fun x y => decide (x = y)) (rv := fun z => .val (eB z)) (o_val (e_primp (f := one1 lenD) (g := fun p => (p.1.length : Int)) (rv := fun z => .val (eI z)) (a_cons (o_val (e_val (i := 0) (e := (eT eI)) (b := p_bays) rfl)) (fun _ => a_nil)) (fun _ => (.cons (.val _) .nil)) (fun p => q_lenT p.1))) (fun _ => (o_val (e_const (e := eI) (b := (0 : Int)) rfl))) (fun _ => .val _) (fun _ => .val _) (fun x y => (q_eq qI (by decide)) x y))) (by first | with_reducible rfl | simp only [bind_assoc, pure_bind, bind_pure] | rfl)) c_rfl ?_ ?_
  · refine t_end ?_
    exact t_ret1 false (e := eB) (TR.conv (e_const (e := eB) (b := true) rfl) (by first | with_reducible rfl | simp only [bind_assoc, pure_bind, bind_pure] | rfl)) (fun b ρ h => ⟨RF.ret rfl ((c_cons s_free (c_cons s_free (c_cons s_free (c_cons s_free c_nil)))) ρ h), nofun⟩)
  · refine t_skip ?_
    refine t_seqC (fun v_many3 => [.val ((eT eI) p_bays), .val (eI p_cranes), .val (eI p_hours), .val ((eO eI) v_many3)]) (TR.conv (p_asg false (i := 3) (e := (eO eI)) (e_call false (e := (eO eI)) (a_cons (o_val (e_val (i := 0) (e := (eT eI)) (b := p_bays) rfl)) (fun _ => (a_cons (o_val (e_val (i := 2) (e := eI) (b := p_hours) rfl)) (fun _ => a_nil)))) (fun p => (s_cranes_needed (k + 0) p.1 p.2.1)) (fun _ => (.val (.val .nil))) (fun _ => List.nodup_nil) (fun _ => (.val (.val .nil))) (fun _ => (.val (.val .nil))) (c_free (n := 4) rfl)) rfl a_any) (by first | with_reducible rfl | simp only [bind_assoc, pure_bind, bind_pure] | rfl)) (fun _ => c_rfl) (fun v_many3 => ?_)
    exact t_ret1 false (e := eB) (TR.conv (e_and (e_binp (f := isNotD) (g := fun x y => !(Option.isNone x)) (rv := fun z => .val (eB z)) (o_val (e_val (i := 3) (e := (eO eI)) (b := v_many3) rfl)) (fun _ => (o_val (e_const (e := eU) (b := ()) rfl))) (fun _ => .val _) (fun _ => .val _) (fun x y => (q_isNotO nnI) x y)) (e_binp (f := leD) (g := fun x y => decide (x ≤ y)) (rv := fun z => .val (eB z)) (o_val (e_part (e_val (i := 3) (e := (eO eI)) (b := v_many3) rfl) (fun x => x) (fun z => .val (eI z)) q_unO)) (fun _ => (o_val (e_val (i := 1) (e := eI) (b := p_cranes) rfl))) (fun _ => .val _) (fun _ => .val _) (fun x y => q_le x y)) (c_cons s_rfl (c_cons s_rfl (c_cons s_rfl (c_cons s_rfl c_nil))))) (by first | with_reducible rfl | simp only [bind_assoc, pure_bind, bind_pure] | rfl)) (fun b ρ h => RF.ret rfl ((c_cons s_free (c_cons s_free (c_cons s_free (c_cons s_free c_nil)))) ρ h))
set_option maxHeartbeats 4000000 in
theorem s_parting (k : Nat) (p_bays : (List Int)) (p_cranes : Int) : TF (m := O) [.free, .free] [.val ((eT eI) p_bays), .val (eI p_cranes)] (callN tab (k + 6) 12) (f_parting p_bays p_cranes) (fun b => kv false ((eT eI) b)) (fun _ => [.val ((eT eI) p_bays), .val (eI p_cranes)]) := by
  rw [callN_succ (i := 12) (k := k + 5) rfl]
  refine f_def (X0 := (List.replicate 7 SS.free)) (Γr := [.free, .free, .free, .free, .free, .free, .free]) ?_ (.val (.val .nil)) (.valF (.valF .nil))
  show TR _ [.val ((eT eI) p_bays), .val (eI p_cranes), .any, .any, .any, .any, .any] (b_parting (callN tab (k + 5))) _ _
  delta b_parting f_parting
  refine t_seqC (fun _ => [.val ((eT eI) p_bays), .val (eI p_cranes), .any, .any, .any, .any, .any]) (TR.conv (p_drop (e_call false (e := eU) (a_cons (o_val (e_val (i := 0) (e := (eT eI)) (b := p_bays) rfl)) (fun _ => (a_cons (o_val (e_val (i := 1) (e := eI) (b := p_cranes) rfl)) (fun _ => a_nil)))) (fun p => (s_check_cranes (k + 0) p.1 p.2.1)) (fun _ => (.val (.val .nil))) (fun _ => List.nodup_nil) (fun _ => (.val (.val .nil))) (fun _ => (.val (.val .nil))) (c_free (n := 7) rfl))) (by first | with_reducible rfl | simp only [bind_assoc, pure_bind, bind_pure] | rfl)) (fun _ => c_rfl) (fun _ => ?_)
  refine t_seqC (fun p3 => [.val ((eT eI) p_bays), .val (eI p_cranes), .any, .val (eI p3.1), .val ((eT eI) p3.2), .any, .any]) (TR.conv (p_par false false (i := 3) (j := 4) (ea := eI) (eb := (eT eI)) (e_call false (e := eI) (a_cons (o_val (e_val (i := 0) (e := (eT eI)) (b := p_bays) rfl)) (fun _ => (a_cons (o_val (e_val (i := 1) (e := eI) (b := p_cranes) rfl)) (fun _ => a_nil)))) (fun p => (s_raw_least (k + 3) p.1 p.2.1)) (fun _ => (.val (.val .nil))) (fun _ => List.nodup_nil) (fun _ => (.val (.val .nil))) (fun _ => (.val (.val .nil))) (c_free (n := 7) rfl)) (fun _ => (e_map (g := fun x => .val ((eT eI) x)) (e_tup (a_cons (o_val (e_const (e := eI) (b := (0 : Int)) rfl)) (fun _ => a_nil)) (fun _ => (.cons (.val _) .nil))) (fun p => [p.1]) (fun _ => rfl))) rfl a_any rfl a_any (by decide)) (by first | with_reducible rfl | simp only [bind_assoc, pure_bind, bind_pure] | rfl)) (fun _ => c_rfl) (fun p3 => ?_)
  refine t_seqL (Γs := (fun (s5 : (List Int)) => [.val ((eT eI) p_bays), .val (eI p_cranes), .any, .val (eI p3.1), .val ((eT eI) s5), .any, .any])) (rv := fun b => kv false ((eT eI) b)) (Γr := fun _ => [.free, .free, .free, .free, .free, .free, .free]) (emb := (fun x => x)) (TR.conv (t_for (tb := f_parting_b2 p_bays p3 p_cranes) (s0 := p3.2) (Γs := (fun (s5 : (List Int)) => [.val ((eT eI) p_bays), .val (eI p_cranes), .any, .val (eI p3.1), .val ((eT eI) s5), .any, .any])) (rv := fun b => kv false ((eT eI) b)) (Γr := fun _ => [.free, .free, .free, .free, .free, .free, .free]) (i_src (f := range2D) (g := fun p => rngO2 p.1 p.2.1) (ed := eI) (a_cons (o_val (e_const (e := eI) (b := (1 : Int)) rfl)) (fun _ => (a_cons (o_val (e_val (i := 1) (e := eI) (b := p_cranes) rfl)) (fun _ => a_nil)))) (fun _ => (.cons (.val _) (.cons (.val _) .nil))) (fun p => q_rng2 p.1 p.2.1)) (c_cons s_rfl (c_cons s_rfl (c_cons s_rfl (c_cons s_rfl (c_cons s_rfl (c_cons s_rfl (c_cons s_rfl c_nil))))))) (fun s5 x6 => (g_name (i := 2) rfl a_any)) (fun s5 x6 => ?_)) (by first | with_reducible rfl | simp only [bind_assoc, pure_bind, bind_pure] | rfl)) (fun s19 => ?_) (fun v ρ h => RF.ret rfl h)
  · delta f_parting_b2
    refine t_last ?_
    refine t_seqL (Γs := (fun (s9 : (List Int)) => [.val ((eT eI) p_bays), .val (eI p_cranes), .val (eI x6), .val (eI p3.1), .val ((eT eI) s9), .any, .any])) (rv := fun b => kv false ((eT eI) b)) (Γr := fun _ => [.free, .free, .free, .free, .free, .free, .free]) (emb := FL.ret) (TR.conv (t_for (tb := f_parting_b1 p_bays p3 p_cranes x6) (s0 := s5) (Γs := (fun (s9 : (List Int)) => [.val ((eT eI) p_bays), .val (eI p_cranes), .val (eI x6), .val (eI p3.1), .val ((eT eI) s9), .any, .any])) (rv := fun b => kv false ((eT eI) b)) (Γr := fun _ => [.free, .free, .free, .free, .free, .free, .free]) (i_src (f := range2D) (g := fun p => rngO2 p.1 p.2.1) (ed := eI) (a_cons (o_val (e_bin (f := ixD) (g := fun x y => ixL x y) (rv := fun z => .val (eI z)) (o_val (e_val (i := 4) (e := (eT eI)) (b := s5) rfl)) (fun _ => (o_val (e_unp (f := negD) (g := fun x => -x) (rv := fun z => .val (eI z)) (o_val (e_const (e := eI) (b := (1 : Int)) rfl)) (fun _ => .val _) q_neg))) (fun _ => .val _) (fun _ => .val _) (fun x y => q_ixT x y))) (fun _ => (a_cons (o_val (e_binp (f := addD) (g := fun x y => x + y) (rv := fun z => .val (eI z)) (o_val (e_primp (f := one1 lenD) (g := fun p => (p.1.length : Int)) (rv := fun z => .val (eI z)) (a_cons (o_val (e_val (i := 0) (e := (eT eI)) (b := p_bays) rfl)) (fun _ => a_nil)) (fun _ => (.cons (.val _) .nil)) (fun p => q_lenT p.1))) (fun _ => (o_val (e_const (e := eI) (b := (1 : Int)) rfl))) (fun _ => .val _) (fun _ => .val _) (fun x y => q_add x y))) (fun _ => a_nil)))) (fun _ => (.cons (.val _) (.cons (.val _) .nil))) (fun p => q_rng2 p.1 p.2.1)) (c_cons s_rfl (c_cons s_rfl (c_cons s_rfl (c_cons s_rfl (c_cons s_rfl (c_cons s_rfl (c_cons s_rfl c_nil))))))) (fun s9 x10 => (g_name (i := 5) rfl a_any)) (fun s9 x10 => ?_)) (by first | with_reducible rfl | simp only [bind_assoc, pure_bind, bind_pure] | rfl)) (fun s18 => ?_) (fun v ρ h => ⟨rfl, h⟩)
    · delta f_parting_b1
      refine t_seqC (fun v_is_good12 => [.val ((eT eI) p_bays), .val (eI p_cranes), .val (eI x6), .val (eI p3.1), .val ((eT eI) s9), .val (eI x10), .val (eB v_is_good12)]) (TR.conv (p_asg false (i := 6) (e := eB) (e_binp (f := leD) (g := fun x y => decide (x ≤ y)) (rv := fun z => .val (eB z)) (o_val (e_primp (f := one1 sumD) (g := fun p => p.1.sum) (rv := fun z => .val (eI z)) (a_cons (o_val (e_sl (g := fun x lo hi => cutL x lo hi) (rv := fun z => .val ((eT eI) z)) (o_val (e_val (i := 0) (e := (eT eI)) (b := p_bays) rfl)) (fun _ => (n_some (e_bin (f := ixD) (g := fun x y => ixL x y) (rv := fun z => .val (eI z)) (o_val (e_val (i := 4) (e := (eT eI)) (b := s9) rfl)) (fun _ => (o_val (e_unp (f := negD) (g := fun x => -x) (rv := fun z => .val (eI z)) (o_val (e_const (e := eI) (b := (1 : Int)) rfl)) (fun _ => .val _) q_neg))) (fun _ => .val _) (fun _ => .val _) (fun x y => q_ixT x y)))) (fun _ _ => (n_some (e_val (i := 5) (e := eI) (b := x10) rfl))) (fun _ => .val _) (fun x => q_slT x))) (fun _ => a_nil)) (fun _ => (.cons (.val _) .nil)) (fun p => q_sumT p.1))) (fun _ => (o_val (e_val (i := 3) (e := eI) (b := p3.1) rfl))) (fun _ => .val _) (fun _ => .val _) (fun x y => q_le x y)) rfl a_any) (by first | with_reducible rfl | simp only [bind_assoc, pure_bind, bind_pure] | rfl)) (fun _ => c_rfl) (fun v_is_good12 => ?_)
      refine t_ifC [.val ((eT eI) p_bays), .val (eI p_cranes), .val (eI x6), .val (eI p3.1), .val ((eT eI) s9), .val (eI x10), .val (eB v_is_good12)] (TR.conv (b_and (b_trub (e_val (i := 6) (e := eB) (b := v_is_good12) rfl)) (b_trub (e_call false (e := eB) (a_cons (o_val (e_sl (g := fun x lo hi => cutL x lo hi) (rv := fun z => .val ((eT eI) z)) (o_val (e_val (i := 0) (e := (eT eI)) (b := p_bays) rfl)) (fun _ => (n_some (e_val (i := 5) (e := eI) (b := x10) rfl))) (fun _ _ => n_none) (fun _ => .val _) (fun x => q_slT x))) (fun _ => (a_cons (o_val (e_binp (f := subD) (g := fun x y => x - y) (rv := fun z => .val (eI z)) (o_val (e_val (i := 1) (e := eI) (b := p_cranes) rfl)) (fun _ => (o_val (e_val (i := 2) (e := eI) (b := x6) rfl))) (fun _ => .val _) (fun _ => .val _) (fun x y => q_sub x y))) (fun _ => (a_cons (o_val (e_val (i := 3) (e := eI) (b := p3.1) rfl)) (fun _ => a_nil)))))) (fun p => (s_can_do_rest (k + 3) p.1 p.2.1 p.2.2.1)) (fun _ => (.val (.val (.val .nil)))) (fun _ => List.nodup_nil) (fun _ => (.val (.val (.val .nil)))) (fun _ => (.val (.val (.val .nil)))) (c_free (n := 7) rfl))) (c_cons s_rfl (c_cons s_rfl (c_cons s_rfl (c_cons s_rfl (c_cons s_rfl (c_cons s_rfl (c_cons s_rfl c_nil)))))))) (by first | with_reducible rfl | simp only [bind_assoc, pure_bind, bind_pure] | rfl)) c_rfl ?_ ?_
      · refine t_seqC (fun v_found16 => [.val ((eT eI) p_bays), .val (eI p_cranes), .val (eI x6), .val (eI p3.1), .val ((eT eI) v_found16), .val (eI x10), .val (eB v_is_good12)]) (TR.conv (p_asg false (i := 4) (e := (eT eI)) (e_bin (f := addD) (g := fun x y => catO x y) (rv := fun z => .val ((eT eI) z)) (o_val (e_val (i := 4) (e := (eT eI)) (b := s9) rfl)) (fun _ => (o_val (e_map (g := fun x => .val ((eT eI) x)) (e_tup (a_cons (o_val (e_val (i := 5) (e := eI) (b := x10) rfl)) (fun _ => a_nil)) (fun _ => (.cons (.val _) .nil))) (fun p => [p.1]) (fun _ => rfl)))) (fun _ => .val _) (fun _ => .val _) (fun x y => q_catT x y)) rfl a_val) (by first | with_reducible rfl | simp only [bind_assoc, pure_bind, bind_pure] | rfl)) (fun _ => c_rfl) (fun v_found16 => ?_)
        exact t_brk (b := FL.brk v_found16) (fun ρ h => ⟨rfl, (c_cons s_rfl (c_cons s_rfl (c_cons s_rfl (c_cons s_rfl (c_cons s_rfl (c_cons s_val (c_cons s_val c_nil))))))) ρ h⟩)
      · exact t_nx (b := FL.nx s9) (fun ρ h => ⟨.inl rfl, (c_cons s_rfl (c_cons s_rfl (c_cons s_rfl (c_cons s_rfl (c_cons s_rfl (c_cons s_val (c_cons s_val c_nil))))))) ρ h⟩)
    · exact t_nx (b := FL.nx s18) (fun ρ h => ⟨.inl rfl, (c_cons s_rfl (c_cons s_rfl (c_cons s_val (c_cons s_rfl (c_cons s_rfl (c_cons s_rfl (c_cons s_rfl c_nil))))))) ρ h⟩)
  · exact t_ret1 false (e := (eT eI)) (TR.conv (e_val (i := 4) (e := (eT eI)) (b := s19) rfl) (by first | with_reducible rfl | simp only [bind_assoc, pure_bind, bind_pure] | rfl)) (fun b ρ h => RF.ret rfl ((c_cons s_free (c_cons s_free (c_cons s_free (c_cons s_free (c_cons s_free (c_cons s_free (c_cons s_free c_nil))))))) ρ h))
set_option maxHeartbeats 4000000 in
theorem s_is_parting_of (k : Nat) (p_bays : (List Int)) (p_thing : (List Int)) : TF (m := O) [.free, .free] [.val ((eT eI) p_bays), .val ((eT eI) p_thing)] (callN tab (k + 4) 5) (f_is_parting_of p_bays p_thing) (fun b => kv false (eB b)) (fun _ => [.val ((eT eI) p_bays), .val ((eT eI) p_thing)]) := by
  rw [callN_succ (i := 5) (k := k + 3) rfl]
  refine f_def (X0 := (List.replicate 4 SS.free)) (Γr := [.free, .free, .free, .free]) ?_ (.val (.val .nil)) (.valF (.valF .nil))
  show TR _ [.val ((eT eI) p_bays), .val ((eT eI) p_thing), .any, .any] (b_is_parting_of (callN tab (k + 3))) _ _
  delta b_is_parting_of f_is_parting_of
  refine t_seqifC [.val ((eT eI) p_bays), .val ((eT eI) p_thing), .any, .any] (TR.conv (b_or (b_not (b_trub (e_call false (e := eB) (a_cons (o_val (e_val (i := 1) (e := (eT eI)) (b := p_thing) rfl)) (fun _ => (a_cons (o_val (e_const (e := eI) (b := (0 : Int)) rfl)) (fun _ => (a_cons (o_val (e_primp (f := one1 lenD) (g := fun p => (p.1.length : Int)) (rv := fun z => .val (eI z)) (a_cons (o_val (e_val (i := 0) (e := (eT eI)) (b := p_bays) rfl)) (fun _ => a_nil)) (fun _ => (.cons (.val _) .nil)) (fun p => q_lenT p.1))) (fun _ => a_nil)))))) (fun p => (s_are_within (k + 0) p.1 p.2.1 p.2.2.1)) (fun _ => (.val (.val (.val .nil)))) (fun _ => List.nodup_nil) (fun _ => (.val (.val (.val .nil)))) (fun _ => (.val (.val (.val .nil)))) (c_free (n := 4) rfl)))) (b_or (b_not (b_as (e_chain (f := leD) (g := leD) (p := fun x y => decide (x ≤ y)) (q := fun y z => decide (y ≤ z)) (o_val (e_const (e := eI) (b := (1 : Int)) rfl)) (fun _ => (o_val (e_primp (f := one1 lenD) (g := fun p => (p.1.length : Int)) (rv := fun z => .val (eI z)) (a_cons (o_val (e_val (i := 1) (e := (eT eI)) (b := p_thing) rfl)) (fun _ => a_nil)) (fun _ => (.cons (.val _) .nil)) (fun p => q_lenT p.1)))) (o_val (e_const (e := eI) (b := (6 : Int)) rfl)) (fun _ => .val _) (fun _ => .val _) (fun _ => .val _) (fun _ => .val _) (c_cons s_rfl (c_cons s_rfl (c_cons s_rfl (c_cons s_rfl c_nil)))) q_le q_le))) (b_as (e_binp (f := neD) (g := fun x y => !decide (x = y)) (rv := fun z => .val (eB z)) (o_val (e_bin (f := ixD) (g := fun x y => ixL x y) (rv := fun z => .val (eI z)) (o_val (e_val (i := 1) (e := (eT eI)) (b := p_thing) rfl)) (fun _ => (o_val (e_const (e := eI) (b := (0 : Int)) rfl))) (fun _ => .val _) (fun _ => .val _) (fun x y => q_ixT x y))) (fun _ => (o_val (e_const (e := eI) (b := (0 : Int)) rfl))) (fun _ => .val _) (fun _ => .val _) (fun x y => (q_ne qI (by decide)) x y))) (c_cons s_rfl (c_cons s_rfl (c_cons s_rfl (c_cons s_rfl c_nil))))) (c_cons s_rfl (c_cons s_rfl (c_cons s_rfl (c_cons s_rfl c_nil))))) (by first | with_reducible rfl | simp only [bind_assoc, pure_bind, bind_pure] | rfl)) c_rfl ?_ ?_
  · refine t_end ?_
    exact t_ret1 false (e := eB) (TR.conv (e_const (e := eB) (b := false) rfl) (by first | with_reducible rfl | simp only [bind_assoc, pure_bind, bind_pure] | rfl)) (fun b ρ h => ⟨RF.ret rfl ((c_cons s_free (c_cons s_free (c_cons s_free (c_cons s_free c_nil)))) ρ h), nofun⟩)
  · refine t_skip ?_
    exact t_ret1 false (e := eB) (TR.conv (e_primp (f := one1 allD) (g := fun p => p.1.all id) (rv := fun z => .val (eB z)) (a_cons (o_own (e_lc (vs := [2, 3]) (Γ1 := [.val ((eT eI) p_bays), .val ((eT eI) p_thing), .any, .any]) (Γy := fun x9 => [.val ((eT eI) p_bays), .val ((eT eI) p_thing), .val (eI x9.1), .val (eI x9.2)]) (Γz := fun x9 => [.val ((eT eI) p_bays), .val ((eT eI) p_thing), .val (eI x9.1), .val (eI x9.2)]) (X0 := List.replicate 4 SS.free) (Γw := [.val ((eT eI) p_bays), .val ((eT eI) p_thing), .any, .any]) (e := (eP eI eI)) (e' := eB) (i_srcp (f := zipD) (g := fun p => p.1.zip p.2.1) (ed := (eP eI eI)) (a_cons (o_val (e_val (i := 1) (e := (eT eI)) (b := p_thing) rfl)) (fun _ => (a_cons (o_val (e_sl (g := fun x lo hi => cutL x lo hi) (rv := fun z => .val ((eT eI) z)) (o_val (e_val (i := 1) (e := (eT eI)) (b := p_thing) rfl)) (fun _ => (n_some (e_const (e := eI) (b := (1 : Int)) rfl))) (fun _ _ => n_none) (fun _ => .val _) (fun x => q_slT x))) (fun _ => a_nil)))) (fun _ => (.cons (.val _) (.cons (.val _) .nil))) (fun p => q_zip p.1 p.2.1 (q_itT _) (q_itT _))) (c_cons s_rfl (c_cons s_rfl (c_cons s_rfl (c_cons s_rfl c_nil)))) (fun x9 => (g_tup rfl rfl (g_cons (g_name (i := 2) rfl a_any) (g_cons (g_name (i := 3) rfl a_any) g_nil)))) (fun x9 => b_true) (fun x9 => (z_of (o_val (e_binp (f := leD) (g := fun x y => decide (x ≤ y)) (rv := fun z => .val (eB z)) (o_val (e_val (i := 2) (e := eI) (b := x9.1) rfl)) (fun _ => (o_val (e_val (i := 3) (e := eI) (b := x9.2) rfl))) (fun _ => .val _) (fun _ => .val _) (fun x y => q_le x y))) (fun _ => .val _))) (fun x9 => (c_cons s_rfl (c_cons s_rfl (c_cons s_rfl (c_cons s_rfl c_nil))))) (fun x9 => (c_cons s_rfl (c_cons s_rfl (c_cons s_rfl (c_cons s_rfl c_nil))))) (r_cons (v := 2) rfl (r_cons (v := 3) rfl r_nil)))) (fun _ => a_nil)) (fun _ => (.cons (.val _) .nil)) (fun p => q_all p.1)) (by first | with_reducible rfl | simp only [bind_assoc, pure_bind, bind_pure] | rfl)) (fun b ρ h => RF.ret rfl ((c_cons s_free (c_cons s_free (c_cons s_free (c_cons s_free c_nil)))) ρ h))
set_option maxHeartbeats 4000000 in
theorem s_works_of (k : Nat) (p_bays : (List Int)) (p_told : (List Int)) : TF (m := O) [.free, .free] [.val ((eT eI) p_bays), .val ((eT eI) p_told)] (callN tab (k + 1) 6) (f_works_of p_bays p_told) (fun b => kv true ((eL eI) b)) (fun _ => [.val ((eT eI) p_bays), .val ((eT eI) p_told)]) := by
  rw [callN_succ (i := 6) (k := k + 0) rfl]
  refine f_def (X0 := (List.replicate 5 SS.free)) (Γr := [.free, .free, .free, .free, .free]) ?_ (.val (.val .nil)) (.valF (.valF .nil))
  show TR _ [.val ((eT eI) p_bays), .val ((eT eI) p_told), .any, .any, .any] (b_works_of (callN tab (k + 0))) _ _
  delta b_works_of f_works_of
  refine t_seqC (fun v_ends2 => [.val ((eT eI) p_bays), .val ((eT eI) p_told), .val ((eT eI) v_ends2), .any, .any]) (TR.conv (p_asg false (i := 2) (e := (eT eI)) (e_bin (f := addD) (g := fun x y => catO x y) (rv := fun z => .val ((eT eI) z)) (o_val (e_sl (g := fun x lo hi => cutL x lo hi) (rv := fun z => .val ((eT eI) z)) (o_val (e_val (i := 1) (e := (eT eI)) (b := p_told) rfl)) (fun _ => (n_some (e_const (e := eI) (b := (1 : Int)) rfl))) (fun _ _ => n_none) (fun _ => .val _) (fun x => q_slT x))) (fun _ => (o_val (e_map (g := fun x => .val ((eT eI) x)) (e_tup (a_cons (o_val (e_primp (f := one1 lenD) (g := fun p => (p.1.length : Int)) (rv := fun z => .val (eI z)) (a_cons (o_val (e_val (i := 0) (e := (eT eI)) (b := p_bays) rfl)) (fun _ => a_nil)) (fun _ => (.cons (.val _) .nil)) (fun p => q_lenT p.1))) (fun _ => a_nil)) (fun _ => (.cons (.val _) .nil))) (fun p => [p.1]) (fun _ => rfl)))) (fun _ => .val _) (fun _ => .val _) (fun x y => q_catT x y)) rfl a_any) (by first | with_reducible rfl | simp only [bind_assoc, pure_bind, bind_pure] | rfl)) (fun _ => c_rfl) (fun v_ends2 => ?_)
  exact t_ret1 true (e := (eL eI)) (TR.conv (e_lc (vs := [3, 4]) (Γ1 := [.val ((eT eI) p_bays), .val ((eT eI) p_told), .val ((eT eI) v_ends2), .any, .any]) (Γy := fun x3 => [.val ((eT eI) p_bays), .val ((eT eI) p_told), .val ((eT eI) v_ends2), .val (eI x3.1), .val (eI x3.2)]) (Γz := fun x3 => [.val ((eT eI) p_bays), .val ((eT eI) p_told), .val ((eT eI) v_ends2), .val (eI x3.1), .val (eI x3.2)]) (X0 := List.replicate 5 SS.free) (Γw := [.val ((eT eI) p_bays), .val ((eT eI) p_told), .val ((eT eI) v_ends2), .any, .any]) (e := (eP eI eI)) (e' := eI) (i_srcp (f := zipD) (g := fun p => p.1.zip p.2.1) (ed := (eP eI eI)) (a_cons (o_val (e_val (i := 1) (e := (eT eI)) (b := p_told) rfl)) (fun _ => (a_cons (o_val (e_val (i := 2) (e := (eT eI)) (b := v_ends2) rfl)) (fun _ => a_nil)))) (fun _ => (.cons (.val _) (.cons (.val _) .nil))) (fun p => q_zip p.1 p.2.1 (q_itT _) (q_itT _))) (c_cons s_rfl (c_cons s_rfl (c_cons s_rfl (c_cons s_rfl (c_cons s_rfl c_nil))))) (fun x3 => (g_tup rfl rfl (g_cons (g_name (i := 3) rfl a_any) (g_cons (g_name (i := 4) rfl a_any) g_nil)))) (fun x3 => b_true) (fun x3 => (z_of (o_val (e_primp (f := one1 sumD) (g := fun p => p.1.sum) (rv := fun z => .val (eI z)) (a_cons (o_val (e_sl (g := fun x lo hi => cutL x lo hi) (rv := fun z => .val ((eT eI) z)) (o_val (e_val (i := 0) (e := (eT eI)) (b := p_bays) rfl)) (fun _ => (n_some (e_val (i := 3) (e := eI) (b := x3.1) rfl))) (fun _ _ => (n_some (e_val (i := 4) (e := eI) (b := x3.2) rfl))) (fun _ => .val _) (fun x => q_slT x))) (fun _ => a_nil)) (fun _ => (.cons (.val _) .nil)) (fun p => q_sumT p.1))) (fun _ => .val _))) (fun x3 => (c_cons s_rfl (c_cons s_rfl (c_cons s_rfl (c_cons s_rfl (c_cons s_rfl c_nil)))))) (fun x3 => (c_cons s_rfl (c_cons s_rfl (c_cons s_rfl (c_cons s_rfl (c_cons s_rfl c_nil)))))) (r_cons (v := 3) rfl (r_cons (v := 4) rfl r_nil))) (by first | with_reducible rfl | simp only [bind_assoc, pure_bind, bind_pure] | rfl)) (fun b ρ h => RF.ret rfl ((c_cons s_free (c_cons s_free (c_cons s_free (c_cons s_free (c_cons s_free c_nil))))) ρ h))
set_option maxHeartbeats 4000000 in
theorem s_longest (k : Nat) (p_bays : (List Int)) (p_parting : (List Int)) : TF (m := O) [.free, .free] [.val ((eT eI) p_bays), .val ((eT eI) p_parting)] (callN tab (k + 5) 7) (f_longest p_bays p_parting) (fun b => kv false (eI b)) (fun _ => [.val ((eT eI) p_bays), .val ((eT eI) p_parting)]) := by
  rw [callN_succ (i := 7) (k := k + 4) rfl]
  refine f_def (X0 := (List.replicate 2 SS.free)) (Γr := [.free, .free]) ?_ (.val (.val .nil)) (.valF (.valF .nil))
  show TR _ [.val ((eT eI) p_bays), .val ((eT eI) p_parting)] (b_longest (callN tab (k + 4))) _ _
  delta b_longest f_longest
  refine t_seqC (fun _ => [.val ((eT eI) p_bays), .val ((eT eI) p_parting)]) (TR.conv (p_drop (e_call false (e := eU) (a_cons (o_val (e_val (i := 0) (e := (eT eI)) (b := p_bays) rfl)) (fun _ => a_nil)) (fun p => (s_check_bays (k + 0) p.1)) (fun _ => (.val .nil)) (fun _ => List.nodup_nil) (fun _ => (.val .nil)) (fun _ => (.val .nil)) (c_free (n := 2) rfl))) (by first | with_reducible rfl | simp only [bind_assoc, pure_bind, bind_pure] | rfl)) (fun _ => c_rfl) (fun _ => ?_)
  refine t_seqifC [.val ((eT eI) p_bays), .val ((eT eI) p_parting)] (TR.conv (b_not (b_trub (e_call false (e := eB) (a_cons (o_val (e_val (i := 0) (e := (eT eI)) (b := p_bays) rfl)) (fun _ => (a_cons (o_val (e_val (i := 1) (e := (eT eI)) (b := p_parting) rfl)) (fun _ => a_nil)))) (fun p => (s_is_parting_of (k + 0) p.1 p.2.1)) (fun _ => (.val (.val .nil))) (fun _ => List.nodup_nil) (fun _ => (.val (.val .nil))) (fun _ => (.val (.val .nil))) (c_free (n := 2) rfl)))) (by first | with_reducible rfl | simp only [bind_assoc, pure_bind, bind_pure] | rfl)) c_rfl ?_ ?_
  · refine t_end ?_
    exact t_stuck not_none
  · refine t_skip ?_
    exact t_ret1 false (e := eI) (TR.conv (e_prim (f := maxD2) (g := fun p => maxL p.1) (rv := fun z => .val (eI z)) (a_cons (o_own (e_call true (e := (eL eI)) (a_cons (o_val (e_val (i := 0) (e := (eT eI)) (b := p_bays) rfl)) (fun _ => (a_cons (o_val (e_val (i := 1) (e := (eT eI)) (b := p_parting) rfl)) (fun _ => a_nil)))) (fun p => (s_works_of (k + 3) p.1 p.2.1)) (fun _ => (.val (.val .nil))) (fun _ => List.nodup_nil) (fun _ => (.val (.val .nil))) (fun _ => (.val (.val .nil))) (c_free (n := 2) rfl))) (fun _ => a_nil)) (fun _ => (.cons (.val _) .nil)) (fun p => q_maxL p.1)) (by first | with_reducible rfl | simp only [bind_assoc, pure_bind, bind_pure] | rfl)) (fun b ρ h => RF.ret rfl ((c_cons s_free (c_cons s_free c_nil)) ρ h))
set_option maxHeartbeats 4000000 in
theorem s__law_any (k : Nat) (p_things : (List Int)) : TF (m := W) [.exB Hd, .free] [.exB Hd, .val ((eL eI) p_things)] (callN tab (k + 2) 15) (f__law_any p_things) (fun b => kv false (eI b)) (fun _ => [.exB Hd, .val ((eL eI) p_things)]) := by
  rw [callN_succ (i := 15) (k := k + 1) rfl]
  refine f_def (X0 := [.exB Hd, .free]) (Γr := [.exB Hd, .free]) ?_ (.exB (.val .nil)) (.exB (.valF .nil))
  show TR _ [.exB Hd, .val ((eL eI) p_things)] (b__law_any (callN tab (k + 1))) _ _
  delta b__law_any f__law_any
  exact t_ret1 false (e := eI) (TR.conv (e_bin (f := ixD) (g := fun x y => ixL x y) (rv := fun z => .val (eI z)) (o_val (e_val (i := 1) (e := (eL eI)) (b := p_things) rfl)) (fun _ => (o_val (e_call false (e := eI) (a_cons (o_bor (e_exB (i := 0) rfl)) (fun _ => (a_cons (o_val (e_primp (f := one1 lenD) (g := fun p => (p.1.length : Int)) (rv := fun z => .val (eI z)) (a_cons (o_val (e_val (i := 1) (e := (eL eI)) (b := p_things) rfl)) (fun _ => a_nil)) (fun _ => (.cons (.val _) .nil)) (fun p => q_lenL p.1))) (fun _ => a_nil)))) (fun p => s_draw (k + 0) p.2.1) (fun _ => (.exB rfl (.val .nil))) (fun _ => nd1) (fun _ => (.exB rfl (.val .nil))) (fun _ => (.exB rfl (.val .nil))) (c_cons s_rfl (c_cons s_free c_nil))))) (fun _ => .val _) (fun _ => .val _) (fun x y => q_ixL x y)) (by first | with_reducible rfl | simp only [bind_assoc, pure_bind, bind_pure] | rfl)) (fun b ρ h => RF.ret rfl ((c_cons s_rfl (c_cons s_free c_nil)) ρ h))
set_option maxHeartbeats 4000000 in
theorem s__law_bays (k : Nat) (p_most : Int) : TF (m := W) [.exB Hd, .free] [.exB Hd, .val (eI p_most)] (callN tab (k + 3) 17) (f__law_bays p_most) (fun b => kv false ((eT eI) b)) (fun _ => [.exB Hd, .val (eI p_most)]) := by
  rw [callN_succ (i := 17) (k := k + 2) rfl]
  refine f_def (X0 := [.exB Hd, .free, .free, .free, .free]) (Γr := [.exB Hd, .free, .free, .free, .free]) ?_ (.exB (.val .nil)) (.exB (.valF .nil))
  show TR _ [.exB Hd, .val (eI p_most), .any, .any, .any] (b__law_bays (callN tab (k + 2))) _ _
  delta b__law_bays f__law_bays
  refine t_seqC (fun v_wide2 => [.exB Hd, .val (eI p_most), .val (eI v_wide2), .any, .any]) (TR.conv (p_asg false (i := 2) (e := eI) (e_call false (e := eI) (a_cons (o_bor (e_exB (i := 0) rfl)) (fun _ => (a_cons (o_own (e_map (g := fun x => .own ((eL eI) x)) (e_lst (a_cons (o_val (e_const (e := eI) (b := (3 : Int)) rfl)) (fun _ => (a_cons (o_val (e_const (e := eI) (b := (10 : Int)) rfl)) (fun _ => (a_cons (o_val (e_const (e := eI) (b := (201 : Int)) rfl)) (fun _ => a_nil)))))) (fun _ => (.cons (.val _) (.cons (.val _) (.cons (.val _) .nil))))) (fun p => [p.1, p.2.1, p.2.2.1]) (fun _ => rfl))) (fun _ => a_nil)))) (fun p => (s__law_any (k + 0) p.2.1)) (fun _ => (.exB rfl (.val .nil))) (fun _ => nd1) (fun _ => (.exB rfl (.val .nil))) (fun _ => (.exB rfl (.val .nil))) (c_cons s_rfl (c_cons s_free (c_cons s_free (c_cons s_free (c_cons s_free c_nil)))))) rfl a_any) (by first | with_reducible rfl | simp only [bind_assoc, pure_bind, bind_pure] | rfl)) (fun _ => c_rfl) (fun v_wide2 => ?_)
  refine t_seqC (fun v_found8 => [.exB Hd, .val (eI p_most), .val (eI v_wide2), .own ((eL eI) v_found8), .any]) (TR.conv (p_asg true (i := 3) (e := (eL eI)) (e_lc (vs := [4]) (Γ1 := [.exB Hd, .val (eI p_most), .val (eI v_wide2), .any, .any]) (Γy := fun x5 => [.exB Hd, .val (eI p_most), .val (eI v_wide2), .any, .val (eI x5)]) (Γz := fun x5 => [.exB Hd, .val (eI p_most), .val (eI v_wide2), .any, .val (eI x5)]) (X0 := List.replicate 5 SS.free) (Γw := [.exB Hd, .val (eI p_most), .val (eI v_wide2), .any, .any]) (e := eI) (e' := eI) (i_src (f := range1D) (g := fun p => rngO1 p.1) (ed := eI) (a_cons (o_val (e_binp (f := addD) (g := fun x y => x + y) (rv := fun z => .val (eI z)) (o_val (e_const (e := eI) (b := (1 : Int)) rfl)) (fun _ => (o_val (e_call false (e := eI) (a_cons (o_bor (e_exB (i := 0) rfl)) (fun _ => (a_cons (o_val (e_val (i := 1) (e := eI) (b := p_most) rfl)) (fun _ => a_nil)))) (fun p => s_draw (k + 1) p.2.1) (fun _ => (.exB rfl (.val .nil))) (fun _ => nd1) (fun _ => (.exB rfl (.val .nil))) (fun _ => (.exB rfl (.val .nil))) (c_cons s_rfl (c_cons s_free (c_cons s_free (c_cons s_free (c_cons s_free c_nil)))))))) (fun _ => .val _) (fun _ => .val _) (fun x y => q_add x y))) (fun _ => a_nil)) (fun _ => (.cons (.val _) .nil)) (fun p => q_rng1 p.1)) (c_cons s_rfl (c_cons s_rfl (c_cons s_rfl (c_cons s_rfl (c_cons s_rfl c_nil))))) (fun x5 => (g_name (i := 4) rfl a_any)) (fun x5 => b_true) (fun x5 => (z_of (o_val (e_call false (e := eI) (a_cons (o_bor (e_exB (i := 0) rfl)) (fun _ => (a_cons (o_val (e_val (i := 2) (e := eI) (b := v_wide2) rfl)) (fun _ => a_nil)))) (fun p => s_draw (k + 1) p.2.1) (fun _ => (.exB rfl (.val .nil))) (fun _ => nd1) (fun _ => (.exB rfl (.val .nil))) (fun _ => (.exB rfl (.val .nil))) (c_free (n := 5) rfl))) (fun _ => .val _))) (fun x5 => (c_cons s_rfl (c_cons s_rfl (c_cons s_rfl (c_cons s_rfl (c_cons s_rfl c_nil)))))) (fun x5 => (c_cons s_rfl (c_cons s_rfl (c_cons s_rfl (c_cons s_rfl (c_cons s_rfl c_nil)))))) (r_cons (v := 4) rfl r_nil)) rfl a_any) (by first | with_reducible rfl | simp only [bind_assoc, pure_bind, bind_pure] | rfl)) (fun _ => c_rfl) (fun v_found8 => ?_)
  refine t_seq (Γa := (fun (s10 : (List Int)) => [.exB Hd, .val (eI p_most), .val (eI v_wide2), .own ((eL eI) s10), .any])) (t_ifC [.exB Hd, .val (eI p_most), .val (eI v_wide2), .own ((eL eI) v_found8), .any] (TR.conv (b_as (e_binp (f := eqD) (g := fun x y => decide (x = y)) (rv := fun z => .val (eB z)) (o_val (e_call false (e := eI) (a_cons (o_bor (e_exB (i := 0) rfl)) (fun _ => (a_cons (o_val (e_const (e := eI) (b := (4 : Int)) rfl)) (fun _ => a_nil)))) (fun p => s_draw (k + 1) p.2.1) (fun _ => (.exB rfl (.val .nil))) (fun _ => nd1) (fun _ => (.exB rfl (.val .nil))) (fun _ => (.exB rfl (.val .nil))) (c_cons s_rfl (c_cons s_free (c_cons s_free (c_cons s_free (c_cons s_free c_nil))))))) (fun _ => (o_val (e_const (e := eI) (b := (0 : Int)) rfl))) (fun _ => .val _) (fun _ => .val _) (fun x y => (q_eq qI (by decide)) x y))) (by first | with_reducible rfl | simp only [bind_assoc, pure_bind, bind_pure] | rfl)) c_rfl ?_ ?_) (fun s10 => ?_)
  · refine t_last ?_
    refine t_seqC (fun l12 => [.exB Hd, .val (eI p_most), .val (eI v_wide2), .own ((eL eI) l12), .any]) (TR.conv (p_ix true (i := 3) (e := eI) (ei := eI) (d := (eL eI) v_found8) (g := fun x y => setL v_found8 y x) (eg := (eL eI)) (z_of (o_val (e_const (e := eI) (b := (200 : Int)) rfl)) (fun _ => .val _)) (fun _ => (e_call false (e := eI) (a_cons (o_bor (e_exB (i := 0) rfl)) (fun _ => (a_cons (o_val (e_primp (f := one1 lenD) (g := fun p => (v_found8.length : Int)) (rv := fun z => .val (eI z)) (a_cons (o_bor (e_own (i := 3) (e := (eL eI)) (b := v_found8) rfl)) (fun _ => a_nil)) (fun _ => (.cons (.own rfl) .nil)) (fun p => q_lenL v_found8))) (fun _ => a_nil)))) (fun p => s_draw (k + 1) p.2.1) (fun _ => (.exB rfl (.val .nil))) (fun _ => nd1) (fun _ => (.exB rfl (.val .nil))) (fun _ => (.exB rfl (.val .nil))) (c_cons s_rfl (c_cons s_free (c_cons s_free (c_cons s_free (c_cons s_free c_nil))))))) rfl rfl (fun x y => q_set v_found8 y x)) (by first | with_reducible rfl | simp only [bind_assoc, pure_bind, bind_pure] | rfl)) (fun _ => c_rfl) (fun l12 => ?_)
    exact t_nx (b := l12) (fun ρ h => ⟨rfl, (c_cons s_rfl (c_cons s_rfl (c_cons s_rfl (c_cons s_rfl (c_cons s_rfl c_nil))))) ρ h⟩)
  · exact t_nx (b := v_found8) (fun ρ h => ⟨rfl, (c_cons s_rfl (c_cons s_rfl (c_cons s_rfl (c_cons s_rfl (c_cons s_rfl c_nil))))) ρ h⟩)
  · exact t_ret1 false (e := (eT eI)) (TR.conv (e_primp (f := one1 tupleD) (g := fun p => s10) (rv := fun z => .val ((eT eI) z)) (a_cons (o_bor (e_own (i := 3) (e := (eL eI)) (b := s10) rfl)) (fun _ => a_nil)) (fun _ => (.cons (.own rfl) .nil)) (fun p => q_tupleL s10)) (by first | with_reducible rfl | simp only [bind_assoc, pure_bind, bind_pure] | rfl)) (fun b ρ h => RF.ret rfl ((c_cons s_rfl (c_cons s_free (c_cons s_free (c_cons s_free (c_cons s_free c_nil))))) ρ h))
set_option maxHeartbeats 4000000 in
theorem s__law_all_partings (k : Nat) (p_many : Int) (p_cranes : Int) : TF (m := O) [.free, .free] [.val (eI p_many), .val (eI p_cranes)] (callN tab (k + 1) 18) (f__law_all_partings p_many p_cranes) (fun b => kv true ((eL (eT eI)) b)) (fun _ => [.val (eI p_many), .val (eI p_cranes)]) := by
  rw [callN_succ (i := 18) (k := k + 0) rfl]
  refine f_def (X0 := (List.replicate 7 SS.free)) (Γr := [.free, .free, .free, .free, .free, .free, .free]) ?_ (.val (.val .nil)) (.valF (.valF .nil))
  show TR _ [.val (eI p_many), .val (eI p_cranes), .any, .any, .any, .any, .any] (b__law_all_partings (callN tab (k + 0))) _ _
  delta b__law_all_partings f__law_all_partings
  refine t_seqC (fun v_found1 => [.val (eI p_many), .val (eI p_cranes), .own ((eL (eT eI)) v_found1), .any, .any, .any, .any]) (TR.conv (p_asg true (i := 2) (e := (eL (eT eI))) (e_map (g := fun x => .own ((eL (eT eI)) x)) (e_lst (a_cons (o_val (e_map (g := fun x => .val ((eT eI) x)) (e_tup (a_cons (o_val (e_const (e := eI) (b := (0 : Int)) rfl)) (fun _ => a_nil)) (fun _ => (.cons (.val _) .nil))) (fun p => [p.1]) (fun _ => rfl))) (fun _ => a_nil)) (fun _ => (.cons (.val _) .nil))) (fun p => [p.1]) (fun _ => rfl)) rfl a_any) (by first | with_reducible rfl | simp only [bind_assoc, pure_bind, bind_pure] | rfl)) (fun _ => c_rfl) (fun v_found1 => ?_)
  refine t_seq (TR.conv (p_for (tb := f__law_all_partings_b2 p_many) (s0 := v_found1) (Γs := (fun (s3 : (List (List Int))) => [.val (eI p_many), .val (eI p_cranes), .own ((eL (eT eI)) s3), .any, .any, .any, .any])) (i_src (f := range1D) (g := fun p => rngO1 p.1) (ed := eI) (a_cons (o_val (e_binp (f := subD) (g := fun x y => x - y) (rv := fun z => .val (eI z)) (o_val (e_val (i := 1) (e := eI) (b := p_cranes) rfl)) (fun _ => (o_val (e_const (e := eI) (b := (1 : Int)) rfl))) (fun _ => .val _) (fun _ => .val _) (fun x y => q_sub x y))) (fun _ => a_nil)) (fun _ => (.cons (.val _) .nil)) (fun p => q_rng1 p.1)) (c_cons s_rfl (c_cons s_rfl (c_cons s_rfl (c_cons s_rfl (c_cons s_rfl (c_cons s_rfl (c_cons s_rfl c_nil))))))) (fun s3 x4 => (g_name (i := 3) rfl a_any)) (fun s3 x4 => ?_)) (by first | with_reducible rfl | simp only [bind_assoc, pure_bind, bind_pure] | rfl)) (fun s16 => ?_)
  · delta f__law_all_partings_b2
    refine t_seqC (fun v_longer5 => [.val (eI p_many), .val (eI p_cranes), .own ((eL (eT eI)) s3), .val (eI x4), .own ((eL (eT eI)) v_longer5), .any, .any]) (TR.conv (p_asg true (i := 4) (e := (eL (eT eI))) (e_map (g := fun x => .own ((eL (eT eI)) x)) (e_lst a_nil (fun _ => .nil)) (fun p => ([] : (List (List Int)))) (fun _ => rfl)) rfl a_any) (by first | with_reducible rfl | simp only [bind_assoc, pure_bind, bind_pure] | rfl)) (fun _ => c_rfl) (fun v_longer5 => ?_)
    refine t_seq (TR.conv (p_for (tb := f__law_all_partings_b1 p_many) (s0 := v_longer5) (Γs := (fun (s6 : (List (List Int))) => [.val (eI p_many), .val (eI p_cranes), .val ((eL (eT eI)) s3), .val (eI x4), .own ((eL (eT eI)) s6), .any, .any])) (i_seq (e := (eL (eT eI))) (g := fun x => x) (ed := (eT eI)) (z_own (i := 2) (e := (eL (eT eI))) (v := s3) rfl) q_itL) (c_cons s_rfl (c_cons s_rfl (c_cons s_rfl (c_cons s_rfl (c_cons s_rfl (c_cons s_rfl (c_cons s_rfl c_nil))))))) (fun s6 x7 => (g_name (i := 5) rfl a_any)) (fun s6 x7 => ?_)) (by first | with_reducible rfl | simp only [bind_assoc, pure_bind, bind_pure] | rfl)) (fun s14 => ?_)
    · delta f__law_all_partings_b1
      refine t_last ?_
      refine t_seqC (fun l8 => [.val (eI p_many), .val (eI p_cranes), .val ((eL (eT eI)) s3), .val (eI x4), .own ((eL (eT eI)) l8), .val ((eT eI) x7), .any]) (TR.conv (p_ext true (i := 4) (es := fun x => List.map (eT eI) x) (ds := List.map (eT eI) s6) (g := fun x => catO s6 x) (eg := (eL (eT eI))) (o_own (e_lc (vs := [6]) (Γ1 := [.val (eI p_many), .val (eI p_cranes), .val ((eL (eT eI)) s3), .val (eI x4), .own ((eL (eT eI)) s6), .val ((eT eI) x7), .any]) (Γy := fun x11 => [.val (eI p_many), .val (eI p_cranes), .val ((eL (eT eI)) s3), .val (eI x4), .own ((eL (eT eI)) s6), .val ((eT eI) x7), .val (eI x11)]) (Γz := fun x11 => [.val (eI p_many), .val (eI p_cranes), .val ((eL (eT eI)) s3), .val (eI x4), .own ((eL (eT eI)) s6), .val ((eT eI) x7), .val (eI x11)]) (X0 := List.replicate 7 SS.free) (Γw := [.val (eI p_many), .val (eI p_cranes), .val ((eL (eT eI)) s3), .val (eI x4), .own ((eL (eT eI)) s6), .val ((eT eI) x7), .any]) (e := eI) (e' := (eT eI)) (i_src (f := range2D) (g := fun p => rngO2 p.1 p.2.1) (ed := eI) (a_cons (o_val (e_bin (f := ixD) (g := fun x y => ixL x y) (rv := fun z => .val (eI z)) (o_val (e_val (i := 5) (e := (eT eI)) (b := x7) rfl)) (fun _ => (o_val (e_unp (f := negD) (g := fun x => -x) (rv := fun z => .val (eI z)) (o_val (e_const (e := eI) (b := (1 : Int)) rfl)) (fun _ => .val _) q_neg))) (fun _ => .val _) (fun _ => .val _) (fun x y => q_ixT x y))) (fun _ => (a_cons (o_val (e_binp (f := addD) (g := fun x y => x + y) (rv := fun z => .val (eI z)) (o_val (e_val (i := 0) (e := eI) (b := p_many) rfl)) (fun _ => (o_val (e_const (e := eI) (b := (1 : Int)) rfl))) (fun _ => .val _) (fun _ => .val _) (fun x y => q_add x y))) (fun _ => a_nil)))) (fun _ => (.cons (.val _) (.cons (.val _) .nil))) (fun p => q_rng2 p.1 p.2.1)) (c_cons s_rfl (c_cons s_rfl (c_cons s_rfl (c_cons s_rfl (c_cons s_rfl (c_cons s_rfl (c_cons s_rfl c_nil))))))) (fun x11 => (g_name (i := 6) rfl a_any)) (fun x11 => b_true) (fun x11 => (z_of (o_val (e_bin (f := addD) (g := fun x y => catO x y) (rv := fun z => .val ((eT eI) z)) (o_val (e_val (i := 5) (e := (eT eI)) (b := x7) rfl)) (fun _ => (o_val (e_map (g := fun x => .val ((eT eI) x)) (e_tup (a_cons (o_val (e_val (i := 6) (e := eI) (b := x11) rfl)) (fun _ => a_nil)) (fun _ => (.cons (.val _) .nil))) (fun p => [p.1]) (fun _ => rfl)))) (fun _ => .val _) (fun _ => .val _) (fun x y => q_catT x y))) (fun _ => .val _))) (fun x11 => (c_cons s_rfl (c_cons s_rfl (c_cons s_rfl (c_cons s_rfl (c_cons s_rfl (c_cons s_rfl (c_cons s_rfl c_nil)))))))) (fun x11 => (c_cons s_rfl (c_cons s_rfl (c_cons s_rfl (c_cons s_rfl (c_cons s_rfl (c_cons s_rfl (c_cons s_rfl c_nil)))))))) (r_cons (v := 6) rfl r_nil))) rfl rfl (fun _ => .val _) (fun x => q_ext s6 x)) (by first | with_reducible rfl | simp only [bind_assoc, pure_bind, bind_pure] | rfl)) (fun _ => c_rfl) (fun l8 => ?_)
      exact t_nx (b := l8) (fun ρ h => ⟨rfl, (c_cons s_rfl (c_cons s_rfl (c_cons s_rfl (c_cons s_rfl (c_cons s_rfl (c_cons s_val (c_cons s_rfl c_nil))))))) ρ h⟩)
    · refine t_last ?_
      refine t_seqC (fun v_found15 => [.val (eI p_many), .val (eI p_cranes), .own ((eL (eT eI)) v_found15), .val (eI x4), .any, .any, .any]) (TR.conv (p_asg true (i := 2) (e := (eL (eT eI))) (e_moveO (i := 4) (e := (eL (eT eI))) (b := s14) rfl) rfl a_val) (by first | with_reducible rfl | simp only [bind_assoc, pure_bind, bind_pure] | rfl)) (fun _ => c_rfl) (fun v_found15 => ?_)
      exact t_nx (b := v_found15) (fun ρ h => ⟨rfl, (c_cons s_rfl (c_cons s_rfl (c_cons s_rfl (c_cons s_val (c_cons s_rfl (c_cons s_rfl (c_cons s_rfl c_nil))))))) ρ h⟩)
  · exact TR.conv (t_retB (e := (eL (eT eI))) (v := s16) (fun x => x) (e_own (i := 2) (e := (eL (eT eI))) (b := s16) rfl) rfl (fun b ρ h => RF.ret rfl ((c_cons s_free (c_cons s_free (c_cons s_free (c_cons s_free (c_cons s_free (c_cons s_free (c_cons s_free c_nil))))))) ρ h))) (by first | with_reducible rfl | simp only [bind_assoc, pure_bind, bind_pure] | rfl)
set_option maxHeartbeats 4000000 in
theorem s__law_longest (k : Nat) (p_bays : (List Int)) (p_row : (List Int)) : TF (m := O) [.free, .free] [.val ((eT eI) p_bays), .val ((eT eI) p_row)] (callN tab (k + 1) 19) (f__law_longest p_bays p_row) (fun b => kv false (eI b)) (fun _ => [.val ((eT eI) p_bays), .val ((eT eI) p_row)]) := by
  rw [callN_succ (i := 19) (k := k + 0) rfl]
  refine f_def (X0 := (List.replicate 5 SS.free)) (Γr := [.free, .free, .free, .free, .free]) ?_ (.val (.val .nil)) (.valF (.valF .nil))
  show TR _ [.val ((eT eI) p_bays), .val ((eT eI) p_row), .any, .any, .any] (b__law_longest (callN tab (k + 0))) _ _
  delta b__law_longest f__law_longest
  refine t_seqC (fun v_ends2 => [.val ((eT eI) p_bays), .val ((eT eI) p_row), .own ((eL eI) v_ends2), .any, .any]) (TR.conv (p_asg true (i := 2) (e := (eL eI)) (e_bin (f := addD) (g := fun x y => catO x y) (rv := fun z => .own ((eL eI) z)) (o_own (e_primp (f := one1 listD) (g := fun p => p.1) (rv := fun z => .own ((eL eI) z)) (a_cons (o_val (e_sl (g := fun x lo hi => cutL x lo hi) (rv := fun z => .val ((eT eI) z)) (o_val (e_val (i := 1) (e := (eT eI)) (b := p_row) rfl)) (fun _ => (n_some (e_const (e := eI) (b := (1 : Int)) rfl))) (fun _ _ => n_none) (fun _ => .val _) (fun x => q_slT x))) (fun _ => a_nil)) (fun _ => (.cons (.val _) .nil)) (fun p => q_listT p.1))) (fun _ => (o_own (e_map (g := fun x => .own ((eL eI) x)) (e_lst (a_cons (o_val (e_primp (f := one1 lenD) (g := fun p => (p.1.length : Int)) (rv := fun z => .val (eI z)) (a_cons (o_val (e_val (i := 0) (e := (eT eI)) (b := p_bays) rfl)) (fun _ => a_nil)) (fun _ => (.cons (.val _) .nil)) (fun p => q_lenT p.1))) (fun _ => a_nil)) (fun _ => (.cons (.val _) .nil))) (fun p => [p.1]) (fun _ => rfl)))) (fun _ => .val _) (fun _ => .val _) (fun x y => q_catL x y)) rfl a_any) (by first | with_reducible rfl | simp only [bind_assoc, pure_bind, bind_pure] | rfl)) (fun _ => c_rfl) (fun v_ends2 => ?_)
  exact t_ret1 false (e := eI) (TR.conv (e_prim (f := maxD2) (g := fun p => maxL p.1) (rv := fun z => .val (eI z)) (a_cons (o_own (e_lc (vs := [3, 4]) (Γ1 := [.val ((eT eI) p_bays), .val ((eT eI) p_row), .val ((eL eI) v_ends2), .any, .any]) (Γy := fun x3 => [.val ((eT eI) p_bays), .val ((eT eI) p_row), .val ((eL eI) v_ends2), .val (eI x3.1), .val (eI x3.2)]) (Γz := fun x3 => [.val ((eT eI) p_bays), .val ((eT eI) p_row), .val ((eL eI) v_ends2), .val (eI x3.1), .val (eI x3.2)]) (X0 := List.replicate 5 SS.free) (Γw := [.val ((eT eI) p_bays), .val ((eT eI) p_row), .val ((eL eI) v_ends2), .any, .any]) (e := (eP eI eI)) (e' := eI) (i_srcp (f := zipD) (g := fun p => p.1.zip v_ends2) (ed := (eP eI eI)) (a_cons (o_val (e_val (i := 1) (e := (eT eI)) (b := p_row) rfl)) (fun _ => (a_cons (o_bor (e_own (i := 2) (e := (eL eI)) (b := v_ends2) rfl)) (fun _ => a_nil)))) (fun _ => (.cons (.val _) (.cons (.own rfl) .nil))) (fun p => q_zip p.1 v_ends2 (q_itT _) (q_itL _))) (c_cons s_rfl (c_cons s_rfl (c_cons s_rfl (c_cons s_rfl (c_cons s_rfl c_nil))))) (fun x3 => (g_tup rfl rfl (g_cons (g_name (i := 3) rfl a_any) (g_cons (g_name (i := 4) rfl a_any) g_nil)))) (fun x3 => b_true) (fun x3 => (z_of (o_val (e_primp (f := one1 sumD) (g := fun p => p.1.sum) (rv := fun z => .val (eI z)) (a_cons (o_val (e_sl (g := fun x lo hi => cutL x lo hi) (rv := fun z => .val ((eT eI) z)) (o_val (e_val (i := 0) (e := (eT eI)) (b := p_bays) rfl)) (fun _ => (n_some (e_val (i := 3) (e := eI) (b := x3.1) rfl))) (fun _ _ => (n_some (e_val (i := 4) (e := eI) (b := x3.2) rfl))) (fun _ => .val _) (fun x => q_slT x))) (fun _ => a_nil)) (fun _ => (.cons (.val _) .nil)) (fun p => q_sumT p.1))) (fun _ => .val _))) (fun x3 => (c_cons s_rfl (c_cons s_rfl (c_cons s_rfl (c_cons s_rfl (c_cons s_rfl c_nil)))))) (fun x3 => (c_cons s_rfl (c_cons s_rfl (c_cons s_rfl (c_cons s_rfl (c_cons s_rfl c_nil)))))) (r_cons (v := 3) rfl (r_cons (v := 4) rfl r_nil)))) (fun _ => a_nil)) (fun _ => (.cons (.val _) .nil)) (fun p => q_maxL p.1)) (by first | with_reducible rfl | simp only [bind_assoc, pure_bind, bind_pure] | rfl)) (fun b ρ h => RF.ret rfl ((c_cons s_free (c_cons s_free (c_cons s_free (c_cons s_free (c_cons s_free c_nil))))) ρ h))
set_option maxHeartbeats 4000000 in
theorem s__law_least_longest (k : Nat) (p_bays : (List Int)) (p_cranes : Int) : TF (m := O) [.free, .free] [.val ((eT eI) p_bays), .val (eI p_cranes)] (callN tab (k + 2) 20) (f__law_least_longest p_bays p_cranes) (fun b => kv false (eI b)) (fun _ => [.val ((eT eI) p_bays), .val (eI p_cranes)]) := by
  rw [callN_succ (i := 20) (k := k + 1) rfl]
  refine f_def (X0 := (List.replicate 3 SS.free)) (Γr := [.free, .free, .free]) ?_ (.val (.val .nil)) (.valF (.valF .nil))
  show TR _ [.val ((eT eI) p_bays), .val (eI p_cranes), .any] (b__law_least_longest (callN tab (k + 1))) _ _
  delta b__law_least_longest f__law_least_longest
  exact t_ret1 false (e := eI) (TR.conv (e_prim (f := minD2) (g := fun p => minL p.1) (rv := fun z => .val (eI z)) (a_cons (o_own (e_lc (vs := [2]) (Γ1 := [.val ((eT eI) p_bays), .val (eI p_cranes), .any]) (Γy := fun x2 => [.val ((eT eI) p_bays), .val (eI p_cranes), .val ((eT eI) x2)]) (Γz := fun x2 => [.val ((eT eI) p_bays), .val (eI p_cranes), .val ((eT eI) x2)]) (X0 := List.replicate 3 SS.free) (Γw := [.val ((eT eI) p_bays), .val (eI p_cranes), .any]) (e := (eT eI)) (e' := eI) (i_seq (e := (eL (eT eI))) (g := fun x => x) (ed := (eT eI)) (z_of (o_own (e_call true (e := (eL (eT eI))) (a_cons (o_val (e_primp (f := one1 lenD) (g := fun p => (p.1.length : Int)) (rv := fun z => .val (eI z)) (a_cons (o_val (e_val (i := 0) (e := (eT eI)) (b := p_bays) rfl)) (fun _ => a_nil)) (fun _ => (.cons (.val _) .nil)) (fun p => q_lenT p.1))) (fun _ => (a_cons (o_val (e_val (i := 1) (e := eI) (b := p_cranes) rfl)) (fun _ => a_nil)))) (fun p => (s__law_all_partings (k + 0) p.1 p.2.1)) (fun _ => (.val (.val .nil))) (fun _ => List.nodup_nil) (fun _ => (.val (.val .nil))) (fun _ => (.val (.val .nil))) (c_free (n := 3) rfl))) (fun _ => .val _)) q_itL) (c_cons s_rfl (c_cons s_rfl (c_cons s_rfl c_nil))) (fun x2 => (g_name (i := 2) rfl a_any)) (fun x2 => b_true) (fun x2 => (z_of (o_val (e_call false (e := eI) (a_cons (o_val (e_val (i := 0) (e := (eT eI)) (b := p_bays) rfl)) (fun _ => (a_cons (o_val (e_val (i := 2) (e := (eT eI)) (b := x2) rfl)) (fun _ => a_nil)))) (fun p => (s__law_longest (k + 0) p.1 p.2.1)) (fun _ => (.val (.val .nil))) (fun _ => List.nodup_nil) (fun _ => (.val (.val .nil))) (fun _ => (.val (.val .nil))) (c_free (n := 3) rfl))) (fun _ => .val _))) (fun x2 => (c_cons s_rfl (c_cons s_rfl (c_cons s_rfl c_nil)))) (fun x2 => (c_cons s_rfl (c_cons s_rfl (c_cons s_rfl c_nil)))) (r_cons (v := 2) rfl r_nil))) (fun _ => a_nil)) (fun _ => (.cons (.val _) .nil)) (fun p => q_minL p.1)) (by first | with_reducible rfl | simp only [bind_assoc, pure_bind, bind_pure] | rfl)) (fun b ρ h => RF.ret rfl ((c_cons s_free (c_cons s_free (c_cons s_free c_nil))) ρ h))
set_option maxHeartbeats 4000000 in
theorem s__law_any_1 (k : Nat) (p_things : (List (List Int))) : TF (m := W) [.exB Hd, .free] [.exB Hd, .val ((eL (eT eI)) p_things)] (callN tab (k + 2) 15) (f__law_any_1 p_things) (fun b => kv false ((eT eI) b)) (fun _ => [.exB Hd, .val ((eL (eT eI)) p_things)]) := by
  rw [callN_succ (i := 15) (k := k + 1) rfl]
  refine f_def (X0 := [.exB Hd, .free]) (Γr := [.exB Hd, .free]) ?_ (.exB (.val .nil)) (.exB (.valF .nil))
  show TR _ [.exB Hd, .val ((eL (eT eI)) p_things)] (b__law_any (callN tab (k + 1))) _ _
  delta b__law_any f__law_any_1
  exact t_ret1 false (e := (eT eI)) (TR.conv (e_bin (f := ixD) (g := fun x y => ixL x y) (rv := fun z => .val ((eT eI) z)) (o_val (e_val (i := 1) (e := (eL (eT eI))) (b := p_things) rfl)) (fun _ => (o_val (e_call false (e := eI) (a_cons (o_bor (e_exB (i := 0) rfl)) (fun _ => (a_cons (o_val (e_primp (f := one1 lenD) (g := fun p => (p.1.length : Int)) (rv := fun z => .val (eI z)) (a_cons (o_val (e_val (i := 1) (e := (eL (eT eI))) (b := p_things) rfl)) (fun _ => a_nil)) (fun _ => (.cons (.val _) .nil)) (fun p => q_lenL p.1))) (fun _ => a_nil)))) (fun p => s_draw (k + 0) p.2.1) (fun _ => (.exB rfl (.val .nil))) (fun _ => nd1) (fun _ => (.exB rfl (.val .nil))) (fun _ => (.exB rfl (.val .nil))) (c_cons s_rfl (c_cons s_free c_nil))))) (fun _ => .val _) (fun _ => .val _) (fun x y => q_ixL x y)) (by first | with_reducible rfl | simp only [bind_assoc, pure_bind, bind_pure] | rfl)) (fun b ρ h => RF.ret rfl ((c_cons s_rfl (c_cons s_free c_nil)) ρ h))
set_option maxHeartbeats 4000000 in
theorem s__law_is_right (k : Nat) (p_bays : (List Int)) (p_cranes : Int) : TF (m := W) [.exB Hd, .free, .free] [.exB Hd, .val ((eT eI) p_bays), .val (eI p_cranes)] (callN tab (k + 13) 23) (f__law_is_right p_bays p_cranes) (fun b => kv false (eB b)) (fun _ => [.exB Hd, .val ((eT eI) p_bays), .val (eI p_cranes)]) := by
  rw [callN_succ (i := 23) (k := k + 12) rfl]
  refine f_def (X0 := [.exB Hd, .free, .free, .free, .free, .free, .free, .free, .free, .free, .free]) (Γr := [.exB Hd, .free, .free, .free, .free, .free, .free, .free, .free, .free, .free]) ?_ (.exB (.val (.val .nil))) (.exB (.valF (.valF .nil)))
  show TR _ [.exB Hd, .val ((eT eI) p_bays), .val (eI p_cranes), .any, .any, .any, .any, .any, .any, .any, .any] (b__law_is_right (callN tab (k + 12))) _ _
  delta b__law_is_right f__law_is_right
  refine t_seqC (fun p3 => [.exB Hd, .val ((eT eI) p_bays), .val (eI p_cranes), .any, .any, .any, .any, .val ((eL (eT eI)) p3.1), .val (eS p3.2), .any, .any]) (TR.conv (p_asgG (e := (eP (eL (eT eI)) eS)) (z_of (o_val (e_map (g := fun x => .val ((eP (eL (eT eI)) eS) x)) (e_tup (a_cons (o_own (e_call true (e := (eL (eT eI))) (a_cons (o_val (e_primp (f := one1 lenD) (g := fun p => (p.1.length : Int)) (rv := fun z => .val (eI z)) (a_cons (o_val (e_val (i := 1) (e := (eT eI)) (b := p_bays) rfl)) (fun _ => a_nil)) (fun _ => (.cons (.val _) .nil)) (fun p => q_lenT p.1))) (fun _ => (a_cons (o_val (e_val (i := 2) (e := eI) (b := p_cranes) rfl)) (fun _ => a_nil)))) (fun p => (s__law_all_partings (k + 11) p.1 p.2.1).up) (fun _ => (.val (.val .nil))) (fun _ => List.nodup_nil) (fun _ => (.val (.val .nil))) (fun _ => (.val (.val .nil))) (c_cons s_rfl (c_cons s_free (c_cons s_free (c_cons s_free (c_cons s_free (c_cons s_free (c_cons s_free (c_cons s_free (c_cons s_free (c_cons s_free (c_cons s_free c_nil))))))))))))) (fun _ => (a_cons (o_val (e_prim (f := one1 reprD) (g := fun p => reprS ((eT eI) p.1)) (rv := fun z => .val (eS z)) (a_cons (o_val (e_val (i := 1) (e := (eT eI)) (b := p_bays) rfl)) (fun _ => a_nil)) (fun _ => (.cons (.val _) .nil)) (fun _ _ h => q_repr h))) (fun _ => a_nil)))) (fun _ => (.cons (.val _) (.cons (.val _) .nil)))) (fun p => (p.1, p.2.1)) (fun _ => rfl))) (fun _ => .val _)) (fun p3 => (g_tup rfl rfl (g_cons (g_name (i := 7) rfl a_any) (g_cons (g_name (i := 8) rfl a_any) g_nil))))) (by first | with_reducible rfl | simp only [bind_assoc, pure_bind, bind_pure] | rfl)) (fun _ => c_rfl) (fun p3 => ?_)
  refine t_seqC (fun v_least5 => [.exB Hd, .val ((eT eI) p_bays), .val (eI p_cranes), .val (eI v_least5), .any, .any, .any, .val ((eL (eT eI)) p3.1), .val (eS p3.2), .any, .any]) (TR.conv (p_asg false (i := 3) (e := eI) (e_call false (e := eI) (a_cons (o_val (e_val (i := 1) (e := (eT eI)) (b := p_bays) rfl)) (fun _ => (a_cons (o_val (e_val (i := 2) (e := eI) (b := p_cranes) rfl)) (fun _ => a_nil)))) (fun p => (s__law_least_longest (k + 10) p.1 p.2.1).up) (fun _ => (.val (.val .nil))) (fun _ => List.nodup_nil) (fun _ => (.val (.val .nil))) (fun _ => (.val (.val .nil))) (c_cons s_rfl (c_cons s_free (c_cons s_free (c_cons s_free (c_cons s_free (c_cons s_free (c_cons s_free (c_cons s_free (c_cons s_free (c_cons s_free (c_cons s_free c_nil)))))))))))) rfl a_any) (by first | with_reducible rfl | simp only [bind_assoc, pure_bind, bind_pure] | rfl)) (fun _ => c_rfl) (fun v_least5 => ?_)
  refine t_seqC (fun v_best10 => [.exB Hd, .val ((eT eI) p_bays), .val (eI p_cranes), .val (eI v_least5), .val ((eT eI) v_best10), .any, .any, .val ((eL (eT eI)) p3.1), .val (eS p3.2), .any, .any]) (TR.conv (p_asg false (i := 4) (e := (eT eI)) (e_bin (f := ixD) (g := fun x y => ixL x y) (rv := fun z => .val ((eT eI) z)) (o_own (e_lc (vs := [5]) (Γ1 := [.exB Hd, .val ((eT eI) p_bays), .val (eI p_cranes), .val (eI v_least5), .any, .any, .any, .val ((eL (eT eI)) p3.1), .val (eS p3.2), .any, .any]) (Γy := fun x6 => [.exB Hd, .val ((eT eI) p_bays), .val (eI p_cranes), .val (eI v_least5), .any, .val ((eT eI) x6), .any, .val ((eL (eT eI)) p3.1), .val (eS p3.2), .any, .any]) (Γz := fun x6 => [.exB Hd, .val ((eT eI) p_bays), .val (eI p_cranes), .val (eI v_least5), .any, .val ((eT eI) x6), .any, .val ((eL (eT eI)) p3.1), .val (eS p3.2), .any, .any]) (X0 := List.replicate 11 SS.free) (Γw := [.exB Hd, .val ((eT eI) p_bays), .val (eI p_cranes), .val (eI v_least5), .any, .any, .any, .val ((eL (eT eI)) p3.1), .val (eS p3.2), .any, .any]) (e := (eT eI)) (e' := (eT eI)) (i_seq (e := (eL (eT eI))) (g := fun x => x) (ed := (eT eI)) (z_of (o_val (e_val (i := 7) (e := (eL (eT eI))) (b := p3.1) rfl)) (fun _ => .val _)) q_itL) (c_cons s_rfl (c_cons s_rfl (c_cons s_rfl (c_cons s_rfl (c_cons s_rfl (c_cons s_rfl (c_cons s_rfl (c_cons s_rfl (c_cons s_rfl (c_cons s_rfl (c_cons s_rfl c_nil))))))))))) (fun x6 => (g_name (i := 5) rfl a_any)) (fun x6 => (b_as (e_binp (f := eqD) (g := fun x y => decide (x = y)) (rv := fun z => .val (eB z)) (o_val (e_call false (e := eI) (a_cons (o_val (e_val (i := 1) (e := (eT eI)) (b := p_bays) rfl)) (fun _ => (a_cons (o_val (e_val (i := 5) (e := (eT eI)) (b := x6) rfl)) (fun _ => a_nil)))) (fun p => (s__law_longest (k + 11) p.1 p.2.1).up) (fun _ => (.val (.val .nil))) (fun _ => List.nodup_nil) (fun _ => (.val (.val .nil))) (fun _ => (.val (.val .nil))) (c_free (n := 11) rfl))) (fun _ => (o_val (e_val (i := 3) (e := eI) (b := v_least5) rfl))) (fun _ => .val _) (fun _ => .val _) (fun x y => (q_eq qI (by decide)) x y)))) (fun x6 => (z_of (o_val (e_val (i := 5) (e := (eT eI)) (b := x6) rfl)) (fun _ => .val _))) (fun x6 => (c_cons s_rfl (c_cons s_rfl (c_cons s_rfl (c_cons s_rfl (c_cons s_rfl (c_cons s_rfl (c_cons s_rfl (c_cons s_rfl (c_cons s_rfl (c_cons s_rfl (c_cons s_rfl c_nil)))))))))))) (fun x6 => (c_cons s_rfl (c_cons s_rfl (c_cons s_rfl (c_cons s_rfl (c_cons s_rfl (c_cons s_rfl (c_cons s_rfl (c_cons s_rfl (c_cons s_rfl (c_cons s_rfl (c_cons s_rfl c_nil)))))))))))) (r_cons (v := 5) rfl r_nil))) (fun _ => (o_val (e_const (e := eI) (b := (0 : Int)) rfl))) (fun _ => .val _) (fun _ => .val _) (fun x y => q_ixL x y)) rfl a_any) (by first | with_reducible rfl | simp only [bind_assoc, pure_bind, bind_pure] | rfl)) (fun _ => c_rfl) (fun v_best10 => ?_)
  refine t_seqifC [.exB Hd, .val ((eT eI) p_bays), .val (eI p_cranes), .val (eI v_least5), .val ((eT eI) v_best10), .any, .any, .val ((eL (eT eI)) p3.1), .val (eS p3.2), .any, .any] (TR.conv (b_not (b_trub (e_call false (e := eB) (a_cons (o_own (e_map (g := fun x => .own ((eL eD) x)) (e_lst (a_cons (o_val (e_map (g := fun x => .val (eD x)) (e_call false (e := eI) (a_cons (o_val (e_val (i := 1) (e := (eT eI)) (b := p_bays) rfl)) (fun _ => (a_cons (o_val (e_val (i := 2) (e := eI) (b := p_cranes) rfl)) (fun _ => a_nil)))) (fun p => (s_least_longest (k + 6) p.1 p.2.1).up) (fun _ => (.val (.val .nil))) (fun _ => List.nodup_nil) (fun _ => (.val (.val .nil))) (fun _ => (.val (.val .nil))) (c_cons s_rfl (c_cons s_free (c_cons s_free (c_cons s_free (c_cons s_free (c_cons s_free (c_cons s_free (c_cons s_free (c_cons s_free (c_cons s_free (c_cons s_free c_nil)))))))))))) (fun x => eI x) (fun _ => rfl))) (fun _ => (a_cons (o_val (e_map (g := fun x => .val (eD x)) (e_call false (e := (eT eI)) (a_cons (o_val (e_val (i := 1) (e := (eT eI)) (b := p_bays) rfl)) (fun _ => (a_cons (o_val (e_val (i := 2) (e := eI) (b := p_cranes) rfl)) (fun _ => a_nil)))) (fun p => (s_parting (k + 6) p.1 p.2.1).up) (fun _ => (.val (.val .nil))) (fun _ => List.nodup_nil) (fun _ => (.val (.val .nil))) (fun _ => (.val (.val .nil))) (c_cons s_rfl (c_cons s_free (c_cons s_free (c_cons s_free (c_cons s_free (c_cons s_free (c_cons s_free (c_cons s_free (c_cons s_free (c_cons s_free (c_cons s_free c_nil)))))))))))) (fun x => (eT eI) x) (fun _ => rfl))) (fun _ => a_nil)))) (fun _ => (.cons (.val _) (.cons (.val _) .nil)))) (fun p => [p.1, p.2.1]) (fun _ => rfl))) (fun _ => (a_cons (o_own (e_map (g := fun x => .own ((eL eD) x)) (e_lst (a_cons (o_val (e_map (g := fun x => .val (eD x)) (e_val (i := 3) (e := eI) (b := v_least5) rfl) (fun x => eI x) (fun _ => rfl))) (fun _ => (a_cons (o_val (e_map (g := fun x => .val (eD x)) (e_val (i := 4) (e := (eT eI)) (b := v_best10) rfl) (fun x => (eT eI) x) (fun _ => rfl))) (fun _ => a_nil)))) (fun _ => (.cons (.val _) (.cons (.val _) .nil)))) (fun p => [p.1, p.2.1]) (fun _ => rfl))) (fun _ => a_nil)))) (fun p => (s__law_is (k + 0) ((eL eD) p.1) ((eL eD) p.2.1)).up) (fun _ => .val (.val .nil)) (fun _ => List.nodup_nil) (fun _ => .val (.val .nil)) (fun _ => .val (.val .nil)) (c_cons s_rfl (c_cons s_free (c_cons s_free (c_cons s_free (c_cons s_free (c_cons s_free (c_cons s_free (c_cons s_free (c_cons s_free (c_cons s_free (c_cons s_free c_nil)))))))))))))) (by first | with_reducible rfl | simp only [bind_assoc, pure_bind, bind_pure] | rfl)) c_rfl ?_ ?_
  · refine t_end ?_
    exact t_ret1 false (e := eB) (TR.conv (e_const (e := eB) (b := false) rfl) (by first | with_reducible rfl | simp only [bind_assoc, pure_bind, bind_pure] | rfl)) (fun b ρ h => ⟨RF.ret rfl ((c_cons s_rfl (c_cons s_free (c_cons s_free (c_cons s_free (c_cons s_free (c_cons s_free (c_cons s_free (c_cons s_free (c_cons s_free (c_cons s_free (c_cons s_free c_nil))))))))))) ρ h), nofun⟩)
  · refine t_skip ?_
    refine t_seqL (Γs := (fun (s21 : Unit) => [.exB Hd, .val ((eT eI) p_bays), .val (eI p_cranes), .val (eI v_least5), .val ((eT eI) v_best10), .any, .any, .val ((eL (eT eI)) p3.1), .val (eS p3.2), .any, .any])) (rv := fun b => kv false (eB b)) (Γr := fun _ => [.exB Hd, .free, .free, .free, .free, .free, .free, .free, .free, .free, .free]) (emb := (fun x => x)) (TR.conv (t_for (tb := f__law_is_right_b1 p_bays) (s0 := ()) (Γs := (fun (s21 : Unit) => [.exB Hd, .val ((eT eI) p_bays), .val (eI p_cranes), .val (eI v_least5), .val ((eT eI) v_best10), .any, .any, .val ((eL (eT eI)) p3.1), .val (eS p3.2), .any, .any])) (rv := fun b => kv false (eB b)) (Γr := fun _ => [.exB Hd, .free, .free, .free, .free, .free, .free, .free, .free, .free, .free]) (i_seq (e := (eL (eT eI))) (g := fun x => x) (ed := (eT eI)) (z_of (o_own (e_bin (f := addD) (g := fun x y => catO x y) (rv := fun z => .own ((eL (eT eI)) z)) (o_own (e_lc (vs := [10]) (Γ1 := [.exB Hd, .val ((eT eI) p_bays), .val (eI p_cranes), .val (eI v_least5), .val ((eT eI) v_best10), .any, .any, .val ((eL (eT eI)) p3.1), .val (eS p3.2), .any, .any]) (Γy := fun x17 => [.exB Hd, .val ((eT eI) p_bays), .val (eI p_cranes), .val (eI v_least5), .val ((eT eI) v_best10), .any, .any, .val ((eL (eT eI)) p3.1), .val (eS p3.2), .any, .val (eI x17)]) (Γz := fun x17 => [.exB Hd, .val ((eT eI) p_bays), .val (eI p_cranes), .val (eI v_least5), .val ((eT eI) v_best10), .any, .any, .val ((eL (eT eI)) p3.1), .val (eS p3.2), .any, .val (eI x17)]) (X0 := List.replicate 11 SS.free) (Γw := [.exB Hd, .val ((eT eI) p_bays), .val (eI p_cranes), .val (eI v_least5), .val ((eT eI) v_best10), .any, .any, .val ((eL (eT eI)) p3.1), .val (eS p3.2), .any, .any]) (e := eI) (e' := (eT eI)) (i_src (f := range1D) (g := fun p => rngO1 p.1) (ed := eI) (a_cons (o_val (e_const (e := eI) (b := (4 : Int)) rfl)) (fun _ => a_nil)) (fun _ => (.cons (.val _) .nil)) (fun p => q_rng1 p.1)) (c_cons s_rfl (c_cons s_rfl (c_cons s_rfl (c_cons s_rfl (c_cons s_rfl (c_cons s_rfl (c_cons s_rfl (c_cons s_rfl (c_cons s_rfl (c_cons s_rfl (c_cons s_rfl c_nil))))))))))) (fun x17 => (g_name (i := 10) rfl a_any)) (fun x17 => b_true) (fun x17 => (z_of (o_val (e_call false (e := (eT eI)) (a_cons (o_bor (e_exB (i := 0) rfl)) (fun _ => (a_cons (o_val (e_val (i := 7) (e := (eL (eT eI))) (b := p3.1) rfl)) (fun _ => a_nil)))) (fun p => (s__law_any_1 (k + 10) p.2.1)) (fun _ => (.exB rfl (.val .nil))) (fun _ => nd1) (fun _ => (.exB rfl (.val .nil))) (fun _ => (.exB rfl (.val .nil))) (c_free (n := 11) rfl))) (fun _ => .val _))) (fun x17 => (c_cons s_rfl (c_cons s_rfl (c_cons s_rfl (c_cons s_rfl (c_cons s_rfl (c_cons s_rfl (c_cons s_rfl (c_cons s_rfl (c_cons s_rfl (c_cons s_rfl (c_cons s_rfl c_nil)))))))))))) (fun x17 => (c_cons s_rfl (c_cons s_rfl (c_cons s_rfl (c_cons s_rfl (c_cons s_rfl (c_cons s_rfl (c_cons s_rfl (c_cons s_rfl (c_cons s_rfl (c_cons s_rfl (c_cons s_rfl c_nil)))))))))))) (r_cons (v := 10) rfl r_nil))) (fun _ => (o_own (e_map (g := fun x => .own ((eL (eT eI)) x)) (e_lst (a_cons (o_val (e_val (i := 4) (e := (eT eI)) (b := v_best10) rfl)) (fun _ => a_nil)) (fun _ => (.cons (.val _) .nil))) (fun p => [p.1]) (fun _ => rfl)))) (fun _ => .val _) (fun _ => .val _) (fun x y => q_catL x y))) (fun _ => .val _)) q_itL) (c_cons s_rfl (c_cons s_rfl (c_cons s_rfl (c_cons s_rfl (c_cons s_rfl (c_cons s_rfl (c_cons s_rfl (c_cons s_rfl (c_cons s_rfl (c_cons s_rfl (c_cons s_rfl c_nil))))))))))) (fun s21 x22 => (g_name (i := 5) rfl a_any)) (fun s21 x22 => ?_)) (by first | with_reducible rfl | simp only [bind_assoc, pure_bind, bind_pure] | rfl)) (fun s28 => ?_) (fun v ρ h => RF.ret rfl h)
    · delta f__law_is_right_b1
      refine t_ifC [.exB Hd, .val ((eT eI) p_bays), .val (eI p_cranes), .val (eI v_least5), .val ((eT eI) v_best10), .val ((eT eI) x22), .any, .val ((eL (eT eI)) p3.1), .val (eS p3.2), .any, .any] (TR.conv (b_not (b_trub (e_call false (e := eB) (a_cons (o_val (e_call false (e := eI) (a_cons (o_val (e_val (i := 1) (e := (eT eI)) (b := p_bays) rfl)) (fun _ => (a_cons (o_val (e_val (i := 5) (e := (eT eI)) (b := x22) rfl)) (fun _ => a_nil)))) (fun p => (s_longest (k + 7) p.1 p.2.1).up) (fun _ => (.val (.val .nil))) (fun _ => List.nodup_nil) (fun _ => (.val (.val .nil))) (fun _ => (.val (.val .nil))) (c_cons s_rfl (c_cons s_free (c_cons s_free (c_cons s_free (c_cons s_free (c_cons s_free (c_cons s_free (c_cons s_free (c_cons s_free (c_cons s_free (c_cons s_free c_nil))))))))))))) (fun _ => (a_cons (o_val (e_call false (e := eI) (a_cons (o_val (e_val (i := 1) (e := (eT eI)) (b := p_bays) rfl)) (fun _ => (a_cons (o_val (e_val (i := 5) (e := (eT eI)) (b := x22) rfl)) (fun _ => a_nil)))) (fun p => (s__law_longest (k + 11) p.1 p.2.1).up) (fun _ => (.val (.val .nil))) (fun _ => List.nodup_nil) (fun _ => (.val (.val .nil))) (fun _ => (.val (.val .nil))) (c_cons s_rfl (c_cons s_free (c_cons s_free (c_cons s_free (c_cons s_free (c_cons s_free (c_cons s_free (c_cons s_free (c_cons s_free (c_cons s_free (c_cons s_free c_nil))))))))))))) (fun _ => a_nil)))) (fun p => (s__law_is (k + 0) (eI p.1) (eI p.2.1)).up) (fun _ => .val (.val .nil)) (fun _ => List.nodup_nil) (fun _ => .val (.val .nil)) (fun _ => .val (.val .nil)) (c_cons s_rfl (c_cons s_free (c_cons s_free (c_cons s_free (c_cons s_free (c_cons s_free (c_cons s_free (c_cons s_free (c_cons s_free (c_cons s_free (c_cons s_free c_nil)))))))))))))) (by first | with_reducible rfl | simp only [bind_assoc, pure_bind, bind_pure] | rfl)) c_rfl ?_ ?_
      · exact TR.conv (t_ret false (e := eB) FL.ret (e_const (e := eB) (b := false) rfl) (fun b ρ h => ⟨rfl, (c_cons s_rfl (c_cons s_free (c_cons s_free (c_cons s_free (c_cons s_free (c_cons s_free (c_cons s_free (c_cons s_free (c_cons s_free (c_cons s_free (c_cons s_free c_nil))))))))))) ρ h⟩)) (by first | with_reducible rfl | simp only [bind_assoc, pure_bind, bind_pure] | rfl)
      · exact t_nx (b := FL.nx ()) (fun ρ h => ⟨.inl rfl, (c_cons s_rfl (c_cons s_rfl (c_cons s_rfl (c_cons s_rfl (c_cons s_rfl (c_cons s_val (c_cons s_rfl (c_cons s_rfl (c_cons s_rfl (c_cons s_rfl (c_cons s_rfl c_nil))))))))))) ρ h⟩)
    · refine t_seqifC [.exB Hd, .val ((eT eI) p_bays), .val (eI p_cranes), .val (eI v_least5), .val ((eT eI) v_best10), .any, .any, .val ((eL (eT eI)) p3.1), .val (eS p3.2), .any, .any] (TR.conv (b_or (b_as (e_binp (f := gtD) (g := fun x y => decide (y < x)) (rv := fun z => .val (eB z)) (o_val (e_call false (e := eI) (a_cons (o_val (e_val (i := 1) (e := (eT eI)) (b := p_bays) rfl)) (fun _ => (a_cons (o_val (e_binp (f := addD) (g := fun x y => x + y) (rv := fun z => .val (eI z)) (o_val (e_val (i := 2) (e := eI) (b := p_cranes) rfl)) (fun _ => (o_val (e_const (e := eI) (b := (1 : Int)) rfl))) (fun _ => .val _) (fun _ => .val _) (fun x y => q_add x y))) (fun _ => a_nil)))) (fun p => (s_least_longest (k + 6) p.1 p.2.1).up) (fun _ => (.val (.val .nil))) (fun _ => List.nodup_nil) (fun _ => (.val (.val .nil))) (fun _ => (.val (.val .nil))) (c_cons s_rfl (c_cons s_free (c_cons s_free (c_cons s_free (c_cons s_free (c_cons s_free (c_cons s_free (c_cons s_free (c_cons s_free (c_cons s_free (c_cons s_free c_nil))))))))))))) (fun _ => (o_val (e_val (i := 3) (e := eI) (b := v_least5) rfl))) (fun _ => .val _) (fun _ => .val _) (fun x y => q_gt x y))) (b_as (e_binp (f := neD) (g := fun x y => !decide (x = y)) (rv := fun z => .val (eB z)) (o_val (e_call false (e := eI) (a_cons (o_val (e_step (g := fun x lo hi c => pkT x lo hi c) (rv := fun z => .val ((eT eI) z)) (o_val (e_val (i := 1) (e := (eT eI)) (b := p_bays) rfl)) (fun _ => n_none) (fun _ _ => n_none) (n_some (e_unp (f := negD) (g := fun x => -x) (rv := fun z => .val (eI z)) (o_val (e_const (e := eI) (b := (1 : Int)) rfl)) (fun _ => .val _) q_neg)) (fun _ => .val _) (fun x => q_stT x))) (fun _ => (a_cons (o_val (e_val (i := 2) (e := eI) (b := p_cranes) rfl)) (fun _ => a_nil)))) (fun p => (s_least_longest (k + 6) p.1 p.2.1).up) (fun _ => (.val (.val .nil))) (fun _ => List.nodup_nil) (fun _ => (.val (.val .nil))) (fun _ => (.val (.val .nil))) (c_cons s_rfl (c_cons s_free (c_cons s_free (c_cons s_free (c_cons s_free (c_cons s_free (c_cons s_free (c_cons s_free (c_cons s_free (c_cons s_free (c_cons s_free c_nil))))))))))))) (fun _ => (o_val (e_val (i := 3) (e := eI) (b := v_least5) rfl))) (fun _ => .val _) (fun _ => .val _) (fun x y => (q_ne qI (by decide)) x y))) (c_cons s_rfl (c_cons s_rfl (c_cons s_rfl (c_cons s_rfl (c_cons s_rfl (c_cons s_rfl (c_cons s_rfl (c_cons s_rfl (c_cons s_rfl (c_cons s_rfl (c_cons s_rfl c_nil)))))))))))) (by first | with_reducible rfl | simp only [bind_assoc, pure_bind, bind_pure] | rfl)) c_rfl ?_ ?_
      · refine t_end ?_
        exact t_ret1 false (e := eB) (TR.conv (e_const (e := eB) (b := false) rfl) (by first | with_reducible rfl | simp only [bind_assoc, pure_bind, bind_pure] | rfl)) (fun b ρ h => ⟨RF.ret rfl ((c_cons s_rfl (c_cons s_free (c_cons s_free (c_cons s_free (c_cons s_free (c_cons s_free (c_cons s_free (c_cons s_free (c_cons s_free (c_cons s_free (c_cons s_free c_nil))))))))))) ρ h), nofun⟩)
      · refine t_skip ?_
        refine t_seqC (fun v_at35 => [.exB Hd, .val ((eT eI) p_bays), .val (eI p_cranes), .val (eI v_least5), .val ((eT eI) v_best10), .any, .val (eI v_at35), .val ((eL (eT eI)) p3.1), .val (eS p3.2), .any, .any]) (TR.conv (p_asg false (i := 6) (e := eI) (e_call false (e := eI) (a_cons (o_bor (e_exB (i := 0) rfl)) (fun _ => (a_cons (o_val (e_primp (f := one1 lenD) (g := fun p => (p.1.length : Int)) (rv := fun z => .val (eI z)) (a_cons (o_val (e_val (i := 1) (e := (eT eI)) (b := p_bays) rfl)) (fun _ => a_nil)) (fun _ => (.cons (.val _) .nil)) (fun p => q_lenT p.1))) (fun _ => a_nil)))) (fun p => s_draw (k + 11) p.2.1) (fun _ => (.exB rfl (.val .nil))) (fun _ => nd1) (fun _ => (.exB rfl (.val .nil))) (fun _ => (.exB rfl (.val .nil))) (c_cons s_rfl (c_cons s_free (c_cons s_free (c_cons s_free (c_cons s_free (c_cons s_free (c_cons s_free (c_cons s_free (c_cons s_free (c_cons s_free (c_cons s_free c_nil)))))))))))) rfl a_any) (by first | with_reducible rfl | simp only [bind_assoc, pure_bind, bind_pure] | rfl)) (fun _ => c_rfl) (fun v_at35 => ?_)
        refine t_seqL (Γs := fun s36 => [.exB Hd, .val ((eT eI) p_bays), .val (eI p_cranes), .val (eI v_least5), .val ((eT eI) v_best10), .any, .val (eI v_at35), .val ((eL (eT eI)) p3.1), .val (eS p3.2), .any, .any]) (rv := fun b => kv false (eB b)) (Γr := fun _ => [.exB Hd, .free, .free, .free, .free, .free, .free, .free, .free, .free, .free]) (emb := (fun x => x)) ?_ (fun s36 => ?_) (fun v ρ h => RF.ret rfl h)
        · refine t_ifC [.exB Hd, .val ((eT eI) p_bays), .val (eI p_cranes), .val (eI v_least5), .val ((eT eI) v_best10), .any, .val (eI v_at35), .val ((eL (eT eI)) p3.1), .val (eS p3.2), .any, .any] (TR.conv (b_as (e_binp (f := ltD) (g := fun x y => decide (x < y)) (rv := fun z => .val (eB z)) (o_val (e_bin (f := ixD) (g := fun x y => ixL x y) (rv := fun z => .val (eI z)) (o_val (e_val (i := 1) (e := (eT eI)) (b := p_bays) rfl)) (fun _ => (o_val (e_val (i := 6) (e := eI) (b := v_at35) rfl))) (fun _ => .val _) (fun _ => .val _) (fun x y => q_ixT x y))) (fun _ => (o_val (e_const (e := eI) (b := (200 : Int)) rfl))) (fun _ => .val _) (fun _ => .val _) (fun x y => q_lt x y))) (by first | with_reducible rfl | simp only [bind_assoc, pure_bind, bind_pure] | rfl)) c_rfl ?_ ?_
          · refine t_seqC (fun v_more41 => [.exB Hd, .val ((eT eI) p_bays), .val (eI p_cranes), .val (eI v_least5), .val ((eT eI) v_best10), .any, .val (eI v_at35), .val ((eL (eT eI)) p3.1), .val (eS p3.2), .val ((eT eI) v_more41), .any]) (TR.conv (p_asg false (i := 9) (e := (eT eI)) (e_bin (f := addD) (g := fun x y => catO x y) (rv := fun z => .val ((eT eI) z)) (o_val (e_bin (f := addD) (g := fun x y => catO x y) (rv := fun z => .val ((eT eI) z)) (o_val (e_sl (g := fun x lo hi => cutL x lo hi) (rv := fun z => .val ((eT eI) z)) (o_val (e_val (i := 1) (e := (eT eI)) (b := p_bays) rfl)) (fun _ => n_none) (fun _ _ => (n_some (e_val (i := 6) (e := eI) (b := v_at35) rfl))) (fun _ => .val _) (fun x => q_slT x))) (fun _ => (o_val (e_map (g := fun x => .val ((eT eI) x)) (e_tup (a_cons (o_val (e_binp (f := addD) (g := fun x y => x + y) (rv := fun z => .val (eI z)) (o_val (e_bin (f := ixD) (g := fun x y => ixL x y) (rv := fun z => .val (eI z)) (o_val (e_val (i := 1) (e := (eT eI)) (b := p_bays) rfl)) (fun _ => (o_val (e_val (i := 6) (e := eI) (b := v_at35) rfl))) (fun _ => .val _) (fun _ => .val _) (fun x y => q_ixT x y))) (fun _ => (o_val (e_const (e := eI) (b := (1 : Int)) rfl))) (fun _ => .val _) (fun _ => .val _) (fun x y => q_add x y))) (fun _ => a_nil)) (fun _ => (.cons (.val _) .nil))) (fun p => [p.1]) (fun _ => rfl)))) (fun _ => .val _) (fun _ => .val _) (fun x y => q_catT x y))) (fun _ => (o_val (e_sl (g := fun x lo hi => cutL x lo hi) (rv := fun z => .val ((eT eI) z)) (o_val (e_val (i := 1) (e := (eT eI)) (b := p_bays) rfl)) (fun _ => (n_some (e_binp (f := addD) (g := fun x y => x + y) (rv := fun z => .val (eI z)) (o_val (e_val (i := 6) (e := eI) (b := v_at35) rfl)) (fun _ => (o_val (e_const (e := eI) (b := (1 : Int)) rfl))) (fun _ => .val _) (fun _ => .val _) (fun x y => q_add x y)))) (fun _ _ => n_none) (fun _ => .val _) (fun x => q_slT x)))) (fun _ => .val _) (fun _ => .val _) (fun x y => q_catT x y)) rfl a_any) (by first | with_reducible rfl | simp only [bind_assoc, pure_bind, bind_pure] | rfl)) (fun _ => c_rfl) (fun v_more41 => ?_)
            refine t_ifC [.exB Hd, .val ((eT eI) p_bays), .val (eI p_cranes), .val (eI v_least5), .val ((eT eI) v_best10), .any, .val (eI v_at35), .val ((eL (eT eI)) p3.1), .val (eS p3.2), .val ((eT eI) v_more41), .any] (TR.conv (b_not (b_as (e_chain (f := leD) (g := leD) (p := fun x y => decide (x ≤ y)) (q := fun y z => decide (y ≤ z)) (o_val (e_val (i := 3) (e := eI) (b := v_least5) rfl)) (fun _ => (o_val (e_call false (e := eI) (a_cons (o_val (e_val (i := 9) (e := (eT eI)) (b := v_more41) rfl)) (fun _ => (a_cons (o_val (e_val (i := 2) (e := eI) (b := p_cranes) rfl)) (fun _ => a_nil)))) (fun p => (s_least_longest (k + 6) p.1 p.2.1).up) (fun _ => (.val (.val .nil))) (fun _ => List.nodup_nil) (fun _ => (.val (.val .nil))) (fun _ => (.val (.val .nil))) (c_cons s_rfl (c_cons s_free (c_cons s_free (c_cons s_free (c_cons s_free (c_cons s_free (c_cons s_free (c_cons s_free (c_cons s_free (c_cons s_free (c_cons s_free c_nil)))))))))))))) (o_val (e_binp (f := addD) (g := fun x y => x + y) (rv := fun z => .val (eI z)) (o_val (e_val (i := 3) (e := eI) (b := v_least5) rfl)) (fun _ => (o_val (e_const (e := eI) (b := (1 : Int)) rfl))) (fun _ => .val _) (fun _ => .val _) (fun x y => q_add x y))) (fun _ => .val _) (fun _ => .val _) (fun _ => .val _) (fun _ => .val _) (c_cons s_rfl (c_cons s_rfl (c_cons s_rfl (c_cons s_rfl (c_cons s_rfl (c_cons s_rfl (c_cons s_rfl (c_cons s_rfl (c_cons s_rfl (c_cons s_rfl (c_cons s_rfl c_nil))))))))))) q_le q_le))) (by first | with_reducible rfl | simp only [bind_assoc, pure_bind, bind_pure] | rfl)) c_rfl ?_ ?_
            · exact TR.conv (t_ret false (e := eB) Sum.inr (e_const (e := eB) (b := false) rfl) (fun b ρ h => ⟨rfl, (c_cons s_rfl (c_cons s_free (c_cons s_free (c_cons s_free (c_cons s_free (c_cons s_free (c_cons s_free (c_cons s_free (c_cons s_free (c_cons s_free (c_cons s_free c_nil))))))))))) ρ h⟩)) (by first | with_reducible rfl | simp only [bind_assoc, pure_bind, bind_pure] | rfl)
            · exact t_nx (b := Sum.inl ()) (fun ρ h => ⟨rfl, (c_cons s_rfl (c_cons s_rfl (c_cons s_rfl (c_cons s_rfl (c_cons s_rfl (c_cons s_rfl (c_cons s_rfl (c_cons s_rfl (c_cons s_rfl (c_cons s_val (c_cons s_rfl c_nil))))))))))) ρ h⟩)
          · exact t_nx (b := Sum.inl ()) (fun ρ h => ⟨rfl, (c_cons s_rfl (c_cons s_rfl (c_cons s_rfl (c_cons s_rfl (c_cons s_rfl (c_cons s_rfl (c_cons s_rfl (c_cons s_rfl (c_cons s_rfl (c_cons s_rfl (c_cons s_rfl c_nil))))))))))) ρ h⟩)
        · refine t_seqifC [.exB Hd, .val ((eT eI) p_bays), .val (eI p_cranes), .val (eI v_least5), .val ((eT eI) v_best10), .any, .val (eI v_at35), .val ((eL (eT eI)) p3.1), .val (eS p3.2), .any, .any] (TR.conv (b_or (b_as (e_binp (f := neD) (g := fun x y => !decide (x = y)) (rv := fun z => .val (eB z)) (o_val (e_call false (e := eI) (a_cons (o_val (e_val (i := 1) (e := (eT eI)) (b := p_bays) rfl)) (fun _ => (a_cons (o_val (e_const (e := eI) (b := (1 : Int)) rfl)) (fun _ => a_nil)))) (fun p => (s_least_longest (k + 6) p.1 p.2.1).up) (fun _ => (.val (.val .nil))) (fun _ => List.nodup_nil) (fun _ => (.val (.val .nil))) (fun _ => (.val (.val .nil))) (c_cons s_rfl (c_cons s_free (c_cons s_free (c_cons s_free (c_cons s_free (c_cons s_free (c_cons s_free (c_cons s_free (c_cons s_free (c_cons s_free (c_cons s_free c_nil))))))))))))) (fun _ => (o_val (e_primp (f := one1 sumD) (g := fun p => p.1.sum) (rv := fun z => .val (eI z)) (a_cons (o_val (e_val (i := 1) (e := (eT eI)) (b := p_bays) rfl)) (fun _ => a_nil)) (fun _ => (.cons (.val _) .nil)) (fun p => q_sumT p.1)))) (fun _ => .val _) (fun _ => .val _) (fun x y => (q_ne qI (by decide)) x y))) (b_as (e_binp (f := ltD) (g := fun x y => decide (x < y)) (rv := fun z => .val (eB z)) (o_val (e_bin (f := mulD) (g := fun x y => mulI x y) (rv := fun z => .val (eI z)) (o_val (e_const (e := eI) (b := (2 : Int)) rfl)) (fun _ => (o_val (e_call false (e := eI) (a_cons (o_val (e_val (i := 1) (e := (eT eI)) (b := p_bays) rfl)) (fun _ => (a_cons (o_val (e_const (e := eI) (b := (2 : Int)) rfl)) (fun _ => a_nil)))) (fun p => (s_least_longest (k + 6) p.1 p.2.1).up) (fun _ => (.val (.val .nil))) (fun _ => List.nodup_nil) (fun _ => (.val (.val .nil))) (fun _ => (.val (.val .nil))) (c_cons s_rfl (c_cons s_free (c_cons s_free (c_cons s_free (c_cons s_free (c_cons s_free (c_cons s_free (c_cons s_free (c_cons s_free (c_cons s_free (c_cons s_free c_nil)))))))))))))) (fun _ => .val _) (fun _ => .val _) (fun x y => q_mul x y))) (fun _ => (o_val (e_primp (f := one1 sumD) (g := fun p => p.1.sum) (rv := fun z => .val (eI z)) (a_cons (o_val (e_val (i := 1) (e := (eT eI)) (b := p_bays) rfl)) (fun _ => a_nil)) (fun _ => (.cons (.val _) .nil)) (fun p => q_sumT p.1)))) (fun _ => .val _) (fun _ => .val _) (fun x y => q_lt x y))) (c_cons s_rfl (c_cons s_rfl (c_cons s_rfl (c_cons s_rfl (c_cons s_rfl (c_cons s_rfl (c_cons s_rfl (c_cons s_rfl (c_cons s_rfl (c_cons s_rfl (c_cons s_rfl c_nil)))))))))))) (by first | with_reducible rfl | simp only [bind_assoc, pure_bind, bind_pure] | rfl)) c_rfl ?_ ?_
          · refine t_end ?_
            exact t_ret1 false (e := eB) (TR.conv (e_const (e := eB) (b := false) rfl) (by first | with_reducible rfl | simp only [bind_assoc, pure_bind, bind_pure] | rfl)) (fun b ρ h => ⟨RF.ret rfl ((c_cons s_rfl (c_cons s_free (c_cons s_free (c_cons s_free (c_cons s_free (c_cons s_free (c_cons s_free (c_cons s_free (c_cons s_free (c_cons s_free (c_cons s_free c_nil))))))))))) ρ h), nofun⟩)
          · refine t_skip ?_
            exact t_ret1 false (e := eB) (TR.conv (e_and (e_binp (f := eqS) (g := fun x y => decide (x = y)) (rv := fun z => .val (eB z)) (o_val (e_prim (f := one1 reprD) (g := fun p => reprS ((eT eI) p.1)) (rv := fun z => .val (eS z)) (a_cons (o_val (e_val (i := 1) (e := (eT eI)) (b := p_bays) rfl)) (fun _ => a_nil)) (fun _ => (.cons (.val _) .nil)) (fun _ _ h => q_repr h))) (fun _ => (o_val (e_val (i := 8) (e := eS) (b := p3.2) rfl))) (fun _ => .val _) (fun _ => .val _) (fun x y => q_eqS x y)) (e_binp (f := geD) (g := fun x y => decide (y ≤ x)) (rv := fun z => .val (eB z)) (o_val (e_val (i := 3) (e := eI) (b := v_least5) rfl)) (fun _ => (o_val (e_prim (f := maxD2) (g := fun p => maxL p.1) (rv := fun z => .val (eI z)) (a_cons (o_val (e_val (i := 1) (e := (eT eI)) (b := p_bays) rfl)) (fun _ => a_nil)) (fun _ => (.cons (.val _) .nil)) (fun p => q_maxT p.1)))) (fun _ => .val _) (fun _ => .val _) (fun x y => q_ge x y)) (c_cons s_rfl (c_cons s_rfl (c_cons s_rfl (c_cons s_rfl (c_cons s_rfl (c_cons s_rfl (c_cons s_rfl (c_cons s_rfl (c_cons s_rfl (c_cons s_rfl (c_cons s_rfl c_nil)))))))))))) (by first | with_reducible rfl | simp only [bind_assoc, pure_bind, bind_pure] | rfl)) (fun b ρ h => RF.ret rfl ((c_cons s_rfl (c_cons s_free (c_cons s_free (c_cons s_free (c_cons s_free (c_cons s_free (c_cons s_free (c_cons s_free (c_cons s_free (c_cons s_free (c_cons s_free c_nil))))))))))) ρ h))
set_option maxHeartbeats 4000000 in
theorem s__law_is_number (k : Nat) (p_thing : Int) (p_most : Int) : TF (m := O) [.free, .free] [.val (eI p_thing), .val (eI p_most)] (callN tab (k + 1) 21) (f__law_is_number p_thing p_most) (fun b => kv false (eB b)) (fun _ => [.val (eI p_thing), .val (eI p_most)]) := by
  rw [callN_succ (i := 21) (k := k + 0) rfl]
  refine f_def (X0 := (List.replicate 2 SS.free)) (Γr := [.free, .free]) ?_ (.val (.val .nil)) (.valF (.valF .nil))
  show TR _ [.val (eI p_thing), .val (eI p_most)] (b__law_is_number (callN tab (k + 0))) _ _
  delta b__law_is_number f__law_is_number
  exact t_ret1 false (e := eB) (TR.conv (e_and (e_unp (f := (isiD [.int])) (g := fun x => true) (rv := fun z => .val (eB z)) (o_val (e_val (i := 0) (e := eI) (b := p_thing) rfl)) (fun _ => .val _) (fun _ => rfl)) (e_and (e_not (b_trub (e_unp (f := (isiD [.bl])) (g := fun x => false) (rv := fun z => .val (eB z)) (o_val (e_val (i := 0) (e := eI) (b := p_thing) rfl)) (fun _ => .val _) (fun _ => rfl)))) (e_chain (f := leD) (g := leD) (p := fun x y => decide (x ≤ y)) (q := fun y z => decide (y ≤ z)) (o_val (e_const (e := eI) (b := (0 : Int)) rfl)) (fun _ => (o_val (e_val (i := 0) (e := eI) (b := p_thing) rfl))) (o_val (e_val (i := 1) (e := eI) (b := p_most) rfl)) (fun _ => .val _) (fun _ => .val _) (fun _ => .val _) (fun _ => .val _) (c_cons s_rfl (c_cons s_rfl c_nil)) q_le q_le) (c_cons s_rfl (c_cons s_rfl c_nil))) (c_cons s_rfl (c_cons s_rfl c_nil))) (by first | with_reducible rfl | simp only [bind_assoc, pure_bind, bind_pure] | rfl)) (fun b ρ h => RF.ret rfl ((c_cons s_free (c_cons s_free c_nil)) ρ h))
set_option maxHeartbeats 4000000 in
theorem s__law_is_row (k : Nat) (p_thing : (List Int)) (p_size : Int) (p_most : Int) : TF (m := O) [.free, .free, .free] [.val ((eT eI) p_thing), .val (eI p_size), .val (eI p_most)] (callN tab (k + 2) 22) (f__law_is_row p_thing p_size p_most) (fun b => kv false (eB b)) (fun _ => [.val ((eT eI) p_thing), .val (eI p_size), .val (eI p_most)]) := by
  rw [callN_succ (i := 22) (k := k + 1) rfl]
  refine f_def (X0 := (List.replicate 5 SS.free)) (Γr := [.free, .free, .free, .free, .free]) ?_ (.val (.val (.val .nil))) (.valF (.valF (.valF .nil)))
  show TR _ [.val ((eT eI) p_thing), .val (eI p_size), .val (eI p_most), .any, .any] (b__law_is_row (callN tab (k + 1))) _ _
  delta b__law_is_row f__law_is_row
  refine t_seqifC [.val ((eT eI) p_thing), .val (eI p_size), .val (eI p_most), .any, .any] (TR.conv (b_or (b_not (b_trub (e_unp (f := (isiD [.tup])) (g := fun x => true) (rv := fun z => .val (eB z)) (o_val (e_val (i := 0) (e := (eT eI)) (b := p_thing) rfl)) (fun _ => .val _) (fun _ => rfl)))) (b_or (b_as (e_binp (f := neD) (g := fun x y => !decide (x = y)) (rv := fun z => .val (eB z)) (o_val (e_primp (f := one1 lenD) (g := fun p => (p.1.length : Int)) (rv := fun z => .val (eI z)) (a_cons (o_val (e_val (i := 0) (e := (eT eI)) (b := p_thing) rfl)) (fun _ => a_nil)) (fun _ => (.cons (.val _) .nil)) (fun p => q_lenT p.1))) (fun _ => (o_val (e_val (i := 1) (e := eI) (b := p_size) rfl))) (fun _ => .val _) (fun _ => .val _) (fun x y => (q_ne qI (by decide)) x y))) (b_not (b_trub (e_primp (f := one1 allD) (g := fun p => p.1.all id) (rv := fun z => .val (eB z)) (a_cons (o_own (e_lc (vs := [3]) (Γ1 := [.val ((eT eI) p_thing), .val (eI p_size), .val (eI p_most), .any, .any]) (Γy := fun x2 => [.val ((eT eI) p_thing), .val (eI p_size), .val (eI p_most), .val (eI x2), .any]) (Γz := fun x2 => [.val ((eT eI) p_thing), .val (eI p_size), .val (eI p_most), .val (eI x2), .any]) (X0 := List.replicate 5 SS.free) (Γw := [.val ((eT eI) p_thing), .val (eI p_size), .val (eI p_most), .any, .any]) (e := eI) (e' := eB) (i_seq (e := (eT eI)) (g := fun x => x) (ed := eI) (z_of (o_val (e_val (i := 0) (e := (eT eI)) (b := p_thing) rfl)) (fun _ => .val _)) q_itT) (c_cons s_rfl (c_cons s_rfl (c_cons s_rfl (c_cons s_rfl (c_cons s_rfl c_nil))))) (fun x2 => (g_name (i := 3) rfl a_any)) (fun x2 => b_true) (fun x2 => (z_of (o_val (e_call false (e := eB) (a_cons (o_val (e_val (i := 3) (e := eI) (b := x2) rfl)) (fun _ => (a_cons (o_val (e_val (i := 2) (e := eI) (b := p_most) rfl)) (fun _ => a_nil)))) (fun p => (s__law_is_number (k + 0) p.1 p.2.1)) (fun _ => (.val (.val .nil))) (fun _ => List.nodup_nil) (fun _ => (.val (.val .nil))) (fun _ => (.val (.val .nil))) (c_free (n := 5) rfl))) (fun _ => .val _))) (fun x2 => (c_cons s_rfl (c_cons s_rfl (c_cons s_rfl (c_cons s_rfl (c_cons s_rfl c_nil)))))) (fun x2 => (c_cons s_rfl (c_cons s_rfl (c_cons s_rfl (c_cons s_rfl (c_cons s_rfl c_nil)))))) (r_cons (v := 3) rfl r_nil))) (fun _ => a_nil)) (fun _ => (.cons (.val _) .nil)) (fun p => q_all p.1)))) (c_cons s_rfl (c_cons s_rfl (c_cons s_rfl (c_cons s_rfl (c_cons s_rfl c_nil)))))) (c_cons s_rfl (c_cons s_rfl (c_cons s_rfl (c_cons s_rfl (c_cons s_rfl c_nil)))))) (by first | with_reducible rfl | simp only [bind_assoc, pure_bind, bind_pure] | rfl)) c_rfl ?_ ?_
  · refine t_end ?_
    exact t_ret1 false (e := eB) (TR.conv (e_const (e := eB) (b := false) rfl) (by first | with_reducible rfl | simp only [bind_assoc, pure_bind, bind_pure] | rfl)) (fun b ρ h => ⟨RF.ret rfl ((c_cons s_free (c_cons s_free (c_cons s_free (c_cons s_free (c_cons s_free c_nil))))) ρ h), nofun⟩)
  · refine t_skip ?_
    exact t_ret1 false (e := eB) (TR.conv (e_and (e_binp (f := eqD) (g := fun x y => decide (x = y)) (rv := fun z => .val (eB z)) (o_val (e_bin (f := ixD) (g := fun x y => ixL x y) (rv := fun z => .val (eI z)) (o_val (e_val (i := 0) (e := (eT eI)) (b := p_thing) rfl)) (fun _ => (o_val (e_const (e := eI) (b := (0 : Int)) rfl))) (fun _ => .val _) (fun _ => .val _) (fun x y => q_ixT x y))) (fun _ => (o_val (e_const (e := eI) (b := (0 : Int)) rfl))) (fun _ => .val _) (fun _ => .val _) (fun x y => (q_eq qI (by decide)) x y)) (e_primp (f := one1 allD) (g := fun p => p.1.all id) (rv := fun z => .val (eB z)) (a_cons (o_own (e_lc (vs := [3, 4]) (Γ1 := [.val ((eT eI) p_thing), .val (eI p_size), .val (eI p_most), .any, .any]) (Γy := fun x10 => [.val ((eT eI) p_thing), .val (eI p_size), .val (eI p_most), .val (eI x10.1), .val (eI x10.2)]) (Γz := fun x10 => [.val ((eT eI) p_thing), .val (eI p_size), .val (eI p_most), .val (eI x10.1), .val (eI x10.2)]) (X0 := List.replicate 5 SS.free) (Γw := [.val ((eT eI) p_thing), .val (eI p_size), .val (eI p_most), .any, .any]) (e := (eP eI eI)) (e' := eB) (i_srcp (f := zipD) (g := fun p => p.1.zip p.2.1) (ed := (eP eI eI)) (a_cons (o_val (e_val (i := 0) (e := (eT eI)) (b := p_thing) rfl)) (fun _ => (a_cons (o_val (e_sl (g := fun x lo hi => cutL x lo hi) (rv := fun z => .val ((eT eI) z)) (o_val (e_val (i := 0) (e := (eT eI)) (b := p_thing) rfl)) (fun _ => (n_some (e_const (e := eI) (b := (1 : Int)) rfl))) (fun _ _ => n_none) (fun _ => .val _) (fun x => q_slT x))) (fun _ => a_nil)))) (fun _ => (.cons (.val _) (.cons (.val _) .nil))) (fun p => q_zip p.1 p.2.1 (q_itT _) (q_itT _))) (c_cons s_rfl (c_cons s_rfl (c_cons s_rfl (c_cons s_rfl (c_cons s_rfl c_nil))))) (fun x10 => (g_tup rfl rfl (g_cons (g_name (i := 3) rfl a_any) (g_cons (g_name (i := 4) rfl a_any) g_nil)))) (fun x10 => b_true) (fun x10 => (z_of (o_val (e_binp (f := leD) (g := fun x y => decide (x ≤ y)) (rv := fun z => .val (eB z)) (o_val (e_val (i := 3) (e := eI) (b := x10.1) rfl)) (fun _ => (o_val (e_val (i := 4) (e := eI) (b := x10.2) rfl))) (fun _ => .val _) (fun _ => .val _) (fun x y => q_le x y))) (fun _ => .val _))) (fun x10 => (c_cons s_rfl (c_cons s_rfl (c_cons s_rfl (c_cons s_rfl (c_cons s_rfl c_nil)))))) (fun x10 => (c_cons s_rfl (c_cons s_rfl (c_cons s_rfl (c_cons s_rfl (c_cons s_rfl c_nil)))))) (r_cons (v := 3) rfl (r_cons (v := 4) rfl r_nil)))) (fun _ => a_nil)) (fun _ => (.cons (.val _) .nil)) (fun p => q_all p.1)) (c_cons s_rfl (c_cons s_rfl (c_cons s_rfl (c_cons s_rfl (c_cons s_rfl c_nil)))))) (by first | with_reducible rfl | simp only [bind_assoc, pure_bind, bind_pure] | rfl)) (fun b ρ h => RF.ret rfl ((c_cons s_free (c_cons s_free (c_cons s_free (c_cons s_free (c_cons s_free c_nil))))) ρ h))
set_option maxHeartbeats 4000000 in
theorem s__law_is_long_right (k : Nat) : TF (m := W) [.exB Hd] [.exB Hd] (callN tab (k + 7) 24) (f__law_is_long_right) (fun b => kv false (eB b)) (fun _ => [.exB Hd]) := by
  rw [callN_succ (i := 24) (k := k + 6) rfl]
  refine f_def (X0 := [.exB Hd, .free, .free, .free, .free, .free, .free, .free]) (Γr := [.exB Hd, .free, .free, .free, .free, .free, .free, .free]) ?_ (.exB .nil) (.exB .nil)
  show TR _ [.exB Hd, .any, .any, .any, .any, .any, .any, .any] (b__law_is_long_right (callN tab (k + 6))) _ _
  delta b__law_is_long_right f__law_is_long_right
  refine t_seqC (fun p3 => [.exB Hd, .any, .val ((eT eI) p3.1), .val (eI p3.2), .any, .any, .any, .any]) (TR.conv (p_par false false (i := 2) (j := 3) (ea := (eT eI)) (eb := eI) (e_call false (e := (eT eI)) (a_cons (o_bor (e_exB (i := 0) rfl)) (fun _ => (a_cons (o_val (e_const (e := eI) (b := (20 : Int)) rfl)) (fun _ => a_nil)))) (fun p => (s__law_bays (k + 3) p.2.1)) (fun _ => (.exB rfl (.val .nil))) (fun _ => nd1) (fun _ => (.exB rfl (.val .nil))) (fun _ => (.exB rfl (.val .nil))) (c_cons s_rfl (c_cons s_free (c_cons s_free (c_cons s_free (c_cons s_free (c_cons s_free (c_cons s_free (c_cons s_free c_nil))))))))) (fun _ => (e_binp (f := addD) (g := fun x y => x + y) (rv := fun z => .val (eI z)) (o_val (e_const (e := eI) (b := (1 : Int)) rfl)) (fun _ => (o_val (e_call false (e := eI) (a_cons (o_bor (e_exB (i := 0) rfl)) (fun _ => (a_cons (o_val (e_const (e := eI) (b := (6 : Int)) rfl)) (fun _ => a_nil)))) (fun p => s_draw (k + 5) p.2.1) (fun _ => (.exB rfl (.val .nil))) (fun _ => nd1) (fun _ => (.exB rfl (.val .nil))) (fun _ => (.exB rfl (.val .nil))) (c_cons s_rfl (c_cons s_free (c_cons s_free (c_cons s_free (c_cons s_free (c_cons s_free (c_cons s_free (c_cons s_free c_nil))))))))))) (fun _ => .val _) (fun _ => .val _) (fun x y => q_add x y))) rfl a_any rfl a_any (by decide)) (by first | with_reducible rfl | simp only [bind_assoc, pure_bind, bind_pure] | rfl)) (fun _ => c_rfl) (fun p3 => ?_)
  refine t_seqC (fun p6 => [.exB Hd, .any, .val ((eT eI) p3.1), .val (eI p3.2), .val (eI p6.1), .val ((eT eI) p6.2), .any, .any]) (TR.conv (p_par false false (i := 4) (j := 5) (ea := eI) (eb := (eT eI)) (e_call false (e := eI) (a_cons (o_val (e_val (i := 2) (e := (eT eI)) (b := p3.1) rfl)) (fun _ => (a_cons (o_val (e_val (i := 3) (e := eI) (b := p3.2) rfl)) (fun _ => a_nil)))) (fun p => (s_least_longest (k + 0) p.1 p.2.1).up) (fun _ => (.val (.val .nil))) (fun _ => List.nodup_nil) (fun _ => (.val (.val .nil))) (fun _ => (.val (.val .nil))) (c_cons s_rfl (c_cons s_free (c_cons s_free (c_cons s_free (c_cons s_free (c_cons s_free (c_cons s_free (c_cons s_free c_nil))))))))) (fun _ => (e_call false (e := (eT eI)) (a_cons (o_val (e_val (i := 2) (e := (eT eI)) (b := p3.1) rfl)) (fun _ => (a_cons (o_val (e_val (i := 3) (e := eI) (b := p3.2) rfl)) (fun _ => a_nil)))) (fun p => (s_parting (k + 0) p.1 p.2.1).up) (fun _ => (.val (.val .nil))) (fun _ => List.nodup_nil) (fun _ => (.val (.val .nil))) (fun _ => (.val (.val .nil))) (c_cons s_rfl (c_cons s_free (c_cons s_free (c_cons s_free (c_cons s_free (c_cons s_free (c_cons s_free (c_cons s_free c_nil)))))))))) rfl a_any rfl a_any (by decide)) (by first | with_reducible rfl | simp only [bind_assoc, pure_bind, bind_pure] | rfl)) (fun _ => c_rfl) (fun p6 => ?_)
  refine t_seqifC [.exB Hd, .any, .val ((eT eI) p3.1), .val (eI p3.2), .val (eI p6.1), .val ((eT eI) p6.2), .any, .any] (TR.conv (b_or (b_not (b_trub (e_call false (e := eB) (a_cons (o_val (e_val (i := 5) (e := (eT eI)) (b := p6.2) rfl)) (fun _ => (a_cons (o_val (e_val (i := 3) (e := eI) (b := p3.2) rfl)) (fun _ => (a_cons (o_val (e_primp (f := one1 lenD) (g := fun p => (p.1.length : Int)) (rv := fun z => .val (eI z)) (a_cons (o_val (e_val (i := 2) (e := (eT eI)) (b := p3.1) rfl)) (fun _ => a_nil)) (fun _ => (.cons (.val _) .nil)) (fun p => q_lenT p.1))) (fun _ => a_nil)))))) (fun p => (s__law_is_row (k + 4) p.1 p.2.1 p.2.2.1).up) (fun _ => (.val (.val (.val .nil)))) (fun _ => List.nodup_nil) (fun _ => (.val (.val (.val .nil)))) (fun _ => (.val (.val (.val .nil)))) (c_cons s_rfl (c_cons s_free (c_cons s_free (c_cons s_free (c_cons s_free (c_cons s_free (c_cons s_free (c_cons s_free c_nil))))))))))) (b_or (b_as (e_binp (f := neD) (g := fun x y => !decide (x = y)) (rv := fun z => .val (eB z)) (o_val (e_call false (e := eI) (a_cons (o_val (e_val (i := 2) (e := (eT eI)) (b := p3.1) rfl)) (fun _ => (a_cons (o_val (e_val (i := 5) (e := (eT eI)) (b := p6.2) rfl)) (fun _ => a_nil)))) (fun p => (s__law_longest (k + 5) p.1 p.2.1).up) (fun _ => (.val (.val .nil))) (fun _ => List.nodup_nil) (fun _ => (.val (.val .nil))) (fun _ => (.val (.val .nil))) (c_cons s_rfl (c_cons s_free (c_cons s_free (c_cons s_free (c_cons s_free (c_cons s_free (c_cons s_free (c_cons s_free c_nil)))))))))) (fun _ => (o_val (e_val (i := 4) (e := eI) (b := p6.1) rfl))) (fun _ => .val _) (fun _ => .val _) (fun x y => (q_ne qI (by decide)) x y))) (b_as (e_binp (f := neD) (g := fun x y => !decide (x = y)) (rv := fun z => .val (eB z)) (o_val (e_call false (e := eI) (a_cons (o_val (e_val (i := 2) (e := (eT eI)) (b := p3.1) rfl)) (fun _ => (a_cons (o_val (e_val (i := 5) (e := (eT eI)) (b := p6.2) rfl)) (fun _ => a_nil)))) (fun p => (s_longest (k + 1) p.1 p.2.1).up) (fun _ => (.val (.val .nil))) (fun _ => List.nodup_nil) (fun _ => (.val (.val .nil))) (fun _ => (.val (.val .nil))) (c_cons s_rfl (c_cons s_free (c_cons s_free (c_cons s_free (c_cons s_free (c_cons s_free (c_cons s_free (c_cons s_free c_nil)))))))))) (fun _ => (o_val (e_val (i := 4) (e := eI) (b := p6.1) rfl))) (fun _ => .val _) (fun _ => .val _) (fun x y => (q_ne qI (by decide)) x y))) (c_cons s_rfl (c_cons s_rfl (c_cons s_rfl (c_cons s_rfl (c_cons s_rfl (c_cons s_rfl (c_cons s_rfl (c_cons s_rfl c_nil))))))))) (c_cons s_rfl (c_cons s_rfl (c_cons s_rfl (c_cons s_rfl (c_cons s_rfl (c_cons s_rfl (c_cons s_rfl (c_cons s_rfl c_nil))))))))) (by first | with_reducible rfl | simp only [bind_assoc, pure_bind, bind_pure] | rfl)) c_rfl ?_ ?_
  · refine t_end ?_
    exact t_ret1 false (e := eB) (TR.conv (e_const (e := eB) (b := false) rfl) (by first | with_reducible rfl | simp only [bind_assoc, pure_bind, bind_pure] | rfl)) (fun b ρ h => ⟨RF.ret rfl ((c_cons s_rfl (c_cons s_free (c_cons s_free (c_cons s_free (c_cons s_free (c_cons s_free (c_cons s_free (c_cons s_free c_nil)))))))) ρ h), nofun⟩)
  · refine t_skip ?_
    refine t_seqifC [.exB Hd, .any, .val ((eT eI) p3.1), .val (eI p3.2), .val (eI p6.1), .val ((eT eI) p6.2), .any, .any] (TR.conv (b_as (e_binp (f := leD) (g := fun x y => decide (x ≤ y)) (rv := fun z => .val (eB z)) (o_val (e_val (i := 4) (e := eI) (b := p6.1) rfl)) (fun _ => (o_val (e_prim (f := maxD2) (g := fun p => maxL p.1) (rv := fun z => .val (eI z)) (a_cons (o_val (e_val (i := 2) (e := (eT eI)) (b := p3.1) rfl)) (fun _ => a_nil)) (fun _ => (.cons (.val _) .nil)) (fun p => q_maxT p.1)))) (fun _ => .val _) (fun _ => .val _) (fun x y => q_le x y))) (by first | with_reducible rfl | simp only [bind_assoc, pure_bind, bind_pure] | rfl)) c_rfl ?_ ?_
    · refine t_end ?_
      exact t_ret1 false (e := eB) (TR.conv (e_binp (f := eqD) (g := fun x y => decide (x = y)) (rv := fun z => .val (eB z)) (o_val (e_val (i := 4) (e := eI) (b := p6.1) rfl)) (fun _ => (o_val (e_prim (f := maxD2) (g := fun p => maxL p.1) (rv := fun z => .val (eI z)) (a_cons (o_val (e_val (i := 2) (e := (eT eI)) (b := p3.1) rfl)) (fun _ => a_nil)) (fun _ => (.cons (.val _) .nil)) (fun p => q_maxT p.1)))) (fun _ => .val _) (fun _ => .val _) (fun x y => (q_eq qI (by decide)) x y)) (by first | with_reducible rfl | simp only [bind_assoc, pure_bind, bind_pure] | rfl)) (fun b ρ h => ⟨RF.ret rfl ((c_cons s_rfl (c_cons s_free (c_cons s_free (c_cons s_free (c_cons s_free (c_cons s_free (c_cons s_free (c_cons s_free c_nil)))))))) ρ h), nofun⟩)
    · refine t_skip ?_
      refine t_seqC (fun p17 => [.exB Hd, .any, .val ((eT eI) p3.1), .val (eI p3.2), .val (eI p6.1), .val ((eT eI) p6.2), .val (eI p17.1), .val (eI p17.2)]) (TR.conv (p_asgG (e := (eP eI eI)) (z_of (o_val (e_map (g := fun x => .val ((eP eI eI) x)) (e_tup (a_cons (o_val (e_const (e := eI) (b := (1 : Int)) rfl)) (fun _ => (a_cons (o_val (e_const (e := eI) (b := (0 : Int)) rfl)) (fun _ => a_nil)))) (fun _ => (.cons (.val _) (.cons (.val _) .nil)))) (fun p => (p.1, p.2.1)) (fun _ => rfl))) (fun _ => .val _)) (fun p17 => (g_tup rfl rfl (g_cons (g_name (i := 6) rfl a_any) (g_cons (g_name (i := 7) rfl a_any) g_nil))))) (by first | with_reducible rfl | simp only [bind_assoc, pure_bind, bind_pure] | rfl)) (fun _ => c_rfl) (fun p17 => ?_)
      refine t_seq (TR.conv (p_for (tb := f__law_is_long_right_b1 p6) (s0 := (p17.1, p17.2)) (Γs := (fun (s18 : Int × Int) => [.exB Hd, .any, .val ((eT eI) p3.1), .val (eI p3.2), .val (eI p6.1), .val ((eT eI) p6.2), .val (eI s18.1), .val (eI s18.2)])) (i_seq (e := (eT eI)) (g := fun x => x) (ed := eI) (z_of (o_val (e_val (i := 2) (e := (eT eI)) (b := p3.1) rfl)) (fun _ => .val _)) q_itT) (c_cons s_rfl (c_cons s_rfl (c_cons s_rfl (c_cons s_rfl (c_cons s_rfl (c_cons s_rfl (c_cons s_rfl (c_cons s_rfl c_nil)))))))) (fun s18 x19 => (g_name (i := 1) rfl a_any)) (fun s18 x19 => ?_)) (by first | with_reducible rfl | simp only [bind_assoc, pure_bind, bind_pure] | rfl)) (fun s24 => ?_)
      · delta f__law_is_long_right_b1
        refine t_seq (Γa := (fun (s20 : Int × Int) => [.exB Hd, .val (eI x19), .val ((eT eI) p3.1), .val (eI p3.2), .val (eI p6.1), .val ((eT eI) p6.2), .val (eI s20.1), .val (eI s20.2)])) (t_ifC [.exB Hd, .val (eI x19), .val ((eT eI) p3.1), .val (eI p3.2), .val (eI p6.1), .val ((eT eI) p6.2), .val (eI s18.1), .val (eI s18.2)] (TR.conv (b_as (e_binp (f := gtD) (g := fun x y => decide (y < x)) (rv := fun z => .val (eB z)) (o_val (e_binp (f := addD) (g := fun x y => x + y) (rv := fun z => .val (eI z)) (o_val (e_val (i := 7) (e := eI) (b := s18.2) rfl)) (fun _ => (o_val (e_val (i := 1) (e := eI) (b := x19) rfl))) (fun _ => .val _) (fun _ => .val _) (fun x y => q_add x y))) (fun _ => (o_val (e_binp (f := subD) (g := fun x y => x - y) (rv := fun z => .val (eI z)) (o_val (e_val (i := 4) (e := eI) (b := p6.1) rfl)) (fun _ => (o_val (e_const (e := eI) (b := (1 : Int)) rfl))) (fun _ => .val _) (fun _ => .val _) (fun x y => q_sub x y)))) (fun _ => .val _) (fun _ => .val _) (fun x y => q_gt x y))) (by first | with_reducible rfl | simp only [bind_assoc, pure_bind, bind_pure] | rfl)) c_rfl ?_ ?_) (fun s20 => ?_)
        · refine t_last ?_
          refine t_seqC (fun p21 => [.exB Hd, .val (eI x19), .val ((eT eI) p3.1), .val (eI p3.2), .val (eI p6.1), .val ((eT eI) p6.2), .val (eI p21.1), .val (eI p21.2)]) (TR.conv (p_par false false (i := 6) (j := 7) (ea := eI) (eb := eI) (e_binp (f := addD) (g := fun x y => x + y) (rv := fun z => .val (eI z)) (o_val (e_val (i := 6) (e := eI) (b := s18.1) rfl)) (fun _ => (o_val (e_const (e := eI) (b := (1 : Int)) rfl))) (fun _ => .val _) (fun _ => .val _) (fun x y => q_add x y)) (fun _ => (e_const (e := eI) (b := (0 : Int)) rfl)) rfl a_val rfl a_val (by decide)) (by first | with_reducible rfl | simp only [bind_assoc, pure_bind, bind_pure] | rfl)) (fun _ => c_rfl) (fun p21 => ?_)
          exact t_nx (b := (p21.1, p21.2)) (fun ρ h => ⟨rfl, (c_cons s_rfl (c_cons s_rfl (c_cons s_rfl (c_cons s_rfl (c_cons s_rfl (c_cons s_rfl (c_cons s_rfl (c_cons s_rfl c_nil)))))))) ρ h⟩)
        · exact t_nx (b := (s18.1, s18.2)) (fun ρ h => ⟨rfl, (c_cons s_rfl (c_cons s_rfl (c_cons s_rfl (c_cons s_rfl (c_cons s_rfl (c_cons s_rfl (c_cons s_rfl (c_cons s_rfl c_nil)))))))) ρ h⟩)
        · refine t_last ?_
          refine t_seqC (fun v_here23 => [.exB Hd, .val (eI x19), .val ((eT eI) p3.1), .val (eI p3.2), .val (eI p6.1), .val ((eT eI) p6.2), .val (eI s20.1), .val (eI v_here23)]) (TR.conv (p_asg false (i := 7) (e := eI) (e_binp (f := addD) (g := fun x y => x + y) (rv := fun z => .val (eI z)) (o_val (e_val (i := 7) (e := eI) (b := s20.2) rfl)) (fun _ => (o_val (e_val (i := 1) (e := eI) (b := x19) rfl))) (fun _ => .val _) (fun _ => .val _) (fun x y => q_add x y)) rfl a_val) (by first | with_reducible rfl | simp only [bind_assoc, pure_bind, bind_pure] | rfl)) (fun _ => c_rfl) (fun v_here23 => ?_)
          exact t_nx (b := (s20.1, v_here23)) (fun ρ h => ⟨rfl, (c_cons s_rfl (c_cons s_val (c_cons s_rfl (c_cons s_rfl (c_cons s_rfl (c_cons s_rfl (c_cons s_rfl (c_cons s_rfl c_nil)))))))) ρ h⟩)
      · exact t_ret1 false (e := eB) (TR.conv (e_binp (f := gtD) (g := fun x y => decide (y < x)) (rv := fun z => .val (eB z)) (o_val (e_val (i := 6) (e := eI) (b := s24.1) rfl)) (fun _ => (o_val (e_val (i := 3) (e := eI) (b := p3.2) rfl))) (fun _ => .val _) (fun _ => .val _) (fun x y => q_gt x y)) (by first | with_reducible rfl | simp only [bind_assoc, pure_bind, bind_pure] | rfl)) (fun b ρ h => RF.ret rfl ((c_cons s_rfl (c_cons s_free (c_cons s_free (c_cons s_free (c_cons s_free (c_cons s_free (c_cons s_free (c_cons s_free c_nil)))))))) ρ h))
set_option maxHeartbeats 4000000 in
theorem s_law (k : Nat) (p_script : (List Int)) (hl : p_script.length ≤ 63) : TF (m := W) [.free] [.val (D.scr p_script)] (callN tab (k + 14) 25) (f_law p_script) (fun b => kv false (eB b)) (fun _ => [.val (D.scr p_script)]) := by
  rw [callN_succ (i := 25) (k := k + 13) rfl]
  refine f_def (X0 := (List.replicate 3 SS.free)) (Γr := [.free, .free, .free]) ?_ (.val .nil) (.valF .nil)
  show TR _ [.val (D.scr p_script), .any, .any] (b_law (callN tab (k + 13))) _ _
  delta b_law f_law
  refine t_seqC (fun _ => [.val (D.scr p_script), .exO Hd, .any]) (TR.conv (p_hand (i := 1) (j := 0) (s_hand (k + 12)) hl rfl rfl) (by first | with_reducible rfl | simp only [bind_assoc, pure_bind, bind_pure] | rfl)) (fun _ => c_rfl) (fun _ => ?_)
  refine t_seqifC [.val (D.scr p_script), .exO Hd, .any] (TR.conv (b_or (b_as (e_binp (f := neD) (g := fun x y => !decide (x = y)) (rv := fun z => .val (eB z)) (o_val (e_call false (e := eI) (a_cons (o_val (e_map (g := fun x => .val ((eT eI) x)) (e_tup (a_cons (o_val (e_const (e := eI) (b := (3 : Int)) rfl)) (fun _ => (a_cons (o_val (e_const (e := eI) (b := (1 : Int)) rfl)) (fun _ => (a_cons (o_val (e_const (e := eI) (b := (2 : Int)) rfl)) (fun _ => (a_cons (o_val (e_const (e := eI) (b := (4 : Int)) rfl)) (fun _ => a_nil)))))))) (fun _ => (.cons (.val _) (.cons (.val _) (.cons (.val _) (.cons (.val _) .nil)))))) (fun p => [p.1, p.2.1, p.2.2.1, p.2.2.2.1]) (fun _ => rfl))) (fun _ => (a_cons (o_val (e_const (e := eI) (b := (2 : Int)) rfl)) (fun _ => a_nil)))) (fun p => (s_least_longest (k + 7) p.1 p.2.1).up) (fun _ => (.val (.val .nil))) (fun _ => List.nodup_nil) (fun _ => (.val (.val .nil))) (fun _ => (.val (.val .nil))) (c_free (n := 3) rfl))) (fun _ => (o_val (e_const (e := eI) (b := (6 : Int)) rfl))) (fun _ => .val _) (fun _ => .val _) (fun x y => (q_ne qI (by decide)) x y))) (b_or (b_as (e_binp (f := neD) (g := fun x y => !decide (x = y)) (rv := fun z => .val (eB z)) (o_val (e_call false (e := (eT eI)) (a_cons (o_val (e_map (g := fun x => .val ((eT eI) x)) (e_tup (a_cons (o_val (e_const (e := eI) (b := (3 : Int)) rfl)) (fun _ => (a_cons (o_val (e_const (e := eI) (b := (1 : Int)) rfl)) (fun _ => (a_cons (o_val (e_const (e := eI) (b := (2 : Int)) rfl)) (fun _ => (a_cons (o_val (e_const (e := eI) (b := (4 : Int)) rfl)) (fun _ => a_nil)))))))) (fun _ => (.cons (.val _) (.cons (.val _) (.cons (.val _) (.cons (.val _) .nil)))))) (fun p => [p.1, p.2.1, p.2.2.1, p.2.2.2.1]) (fun _ => rfl))) (fun _ => (a_cons (o_val (e_const (e := eI) (b := (2 : Int)) rfl)) (fun _ => a_nil)))) (fun p => (s_parting (k + 7) p.1 p.2.1).up) (fun _ => (.val (.val .nil))) (fun _ => List.nodup_nil) (fun _ => (.val (.val .nil))) (fun _ => (.val (.val .nil))) (c_free (n := 3) rfl))) (fun _ => (o_val (e_map (g := fun x => .val ((eT eI) x)) (e_tup (a_cons (o_val (e_const (e := eI) (b := (0 : Int)) rfl)) (fun _ => (a_cons (o_val (e_const (e := eI) (b := (2 : Int)) rfl)) (fun _ => a_nil)))) (fun _ => (.cons (.val _) (.cons (.val _) .nil)))) (fun p => [p.1, p.2.1]) (fun _ => rfl)))) (fun _ => .val _) (fun _ => .val _) (fun x y => (q_ne (qT qI) (by decide)) x y))) (b_as (e_binp (f := neD) (g := fun x y => !decide (x = y)) (rv := fun z => .val (eB z)) (o_val (e_call false (e := eI) (a_cons (o_val (e_map (g := fun x => .val ((eT eI) x)) (e_tup (a_cons (o_val (e_const (e := eI) (b := (3 : Int)) rfl)) (fun _ => (a_cons (o_val (e_const (e := eI) (b := (1 : Int)) rfl)) (fun _ => (a_cons (o_val (e_const (e := eI) (b := (2 : Int)) rfl)) (fun _ => a_nil)))))) (fun _ => (.cons (.val _) (.cons (.val _) (.cons (.val _) .nil))))) (fun p => [p.1, p.2.1, p.2.2.1]) (fun _ => rfl))) (fun _ => (a_cons (o_val (e_map (g := fun x => .val ((eT eI) x)) (e_tup (a_cons (o_val (e_const (e := eI) (b := (0 : Int)) rfl)) (fun _ => (a_cons (o_val (e_const (e := eI) (b := (0 : Int)) rfl)) (fun _ => a_nil)))) (fun _ => (.cons (.val _) (.cons (.val _) .nil)))) (fun p => [p.1, p.2.1]) (fun _ => rfl))) (fun _ => a_nil)))) (fun p => (s_longest (k + 8) p.1 p.2.1).up) (fun _ => (.val (.val .nil))) (fun _ => List.nodup_nil) (fun _ => (.val (.val .nil))) (fun _ => (.val (.val .nil))) (c_free (n := 3) rfl))) (fun _ => (o_val (e_const (e := eI) (b := (6 : Int)) rfl))) (fun _ => .val _) (fun _ => .val _) (fun x y => (q_ne qI (by decide)) x y))) (c_cons s_rfl (c_cons s_rfl (c_cons s_rfl c_nil)))) (c_cons s_rfl (c_cons s_rfl (c_cons s_rfl c_nil)))) (by first | with_reducible rfl | simp only [bind_assoc, pure_bind, bind_pure] | rfl)) c_rfl ?_ ?_
  · refine t_end ?_
    exact t_ret1 false (e := eB) (TR.conv (e_const (e := eB) (b := false) rfl) (by first | with_reducible rfl | simp only [bind_assoc, pure_bind, bind_pure] | rfl)) (fun b ρ h => ⟨RF.ret rfl ((c_cons s_free (c_cons s_free (c_cons s_free c_nil))) ρ h), nofun⟩)
  · refine t_skip ?_
    refine t_seqL (Γs := (fun (s8 : Unit) => [.val (D.scr p_script), .exO Hd, .any])) (rv := fun b => kv false (eB b)) (Γr := fun _ => [.free, .free, .free]) (emb := (fun x => x)) (TR.conv (t_for (tb := f_law_b1) (s0 := ()) (Γs := (fun (s8 : Unit) => [.val (D.scr p_script), .exO Hd, .any])) (rv := fun b => kv false (eB b)) (Γr := fun _ => [.free, .free, .free]) (i_src (f := range1D) (g := fun p => rngO1 p.1) (ed := eI) (a_cons (o_val (e_const (e := eI) (b := (4 : Int)) rfl)) (fun _ => a_nil)) (fun _ => (.cons (.val _) .nil)) (fun p => q_rng1 p.1)) (c_cons s_rfl (c_cons s_rfl (c_cons s_rfl c_nil))) (fun s8 x9 => (g_name (i := 2) rfl a_any)) (fun s8 x9 => ?_)) (by first | with_reducible rfl | simp only [bind_assoc, pure_bind, bind_pure] | rfl)) (fun s18 => ?_) (fun v ρ h => RF.ret rfl h)
    · delta f_law_b1
      refine t_ifC [.val (D.scr p_script), .exO Hd, .val (eI x9)] (TR.conv (b_or (b_not (b_trub (e_call false (e := eB) (a_cons (o_bor (e_exO (i := 1) rfl)) (fun _ => (a_cons (o_val (e_call false (e := (eT eI)) (a_cons (o_bor (e_exO (i := 1) rfl)) (fun _ => (a_cons (o_val (e_const (e := eI) (b := (8 : Int)) rfl)) (fun _ => a_nil)))) (fun p => (s__law_bays (k + 10) p.2.1)) (fun _ => (.exO rfl (.val .nil))) (fun _ => nd1) (fun _ => (.exO rfl (.val .nil))) (fun _ => (.exO rfl (.val .nil))) (c_free (n := 3) rfl))) (fun _ => (a_cons (o_val (e_binp (f := addD) (g := fun x y => x + y) (rv := fun z => .val (eI z)) (o_val (e_const (e := eI) (b := (1 : Int)) rfl)) (fun _ => (o_val (e_call false (e := eI) (a_cons (o_bor (e_exO (i := 1) rfl)) (fun _ => (a_cons (o_val (e_const (e := eI) (b := (4 : Int)) rfl)) (fun _ => a_nil)))) (fun p => s_draw (k + 12) p.2.1) (fun _ => (.exO rfl (.val .nil))) (fun _ => nd1) (fun _ => (.exO rfl (.val .nil))) (fun _ => (.exO rfl (.val .nil))) (c_free (n := 3) rfl)))) (fun _ => .val _) (fun _ => .val _) (fun x y => q_add x y))) (fun _ => a_nil)))))) (fun p => (s__law_is_right (k + 0) p.2.1 p.2.2.1)) (fun _ => (.exO rfl (.val (.val .nil)))) (fun _ => nd1) (fun _ => (.exO rfl (.val (.val .nil)))) (fun _ => (.exO rfl (.val (.val .nil)))) (c_free (n := 3) rfl)))) (b_not (b_trub (e_call false (e := eB) (a_cons (o_bor (e_exO (i := 1) rfl)) (fun _ => a_nil)) (fun p => (s__law_is_long_right (k + 6) )) (fun _ => (.exO rfl .nil)) (fun _ => nd1) (fun _ => (.exO rfl .nil)) (fun _ => (.exO rfl .nil)) (c_free (n := 3) rfl)))) (c_cons s_rfl (c_cons s_rfl (c_cons s_rfl c_nil)))) (by first | with_reducible rfl | simp only [bind_assoc, pure_bind, bind_pure] | rfl)) c_rfl ?_ ?_
      · exact TR.conv (t_ret false (e := eB) FL.ret (e_const (e := eB) (b := false) rfl) (fun b ρ h => ⟨rfl, (c_cons s_free (c_cons s_free (c_cons s_free c_nil))) ρ h⟩)) (by first | with_reducible rfl | simp only [bind_assoc, pure_bind, bind_pure] | rfl)
      · exact t_nx (b := FL.nx ()) (fun ρ h => ⟨.inl rfl, (c_cons s_rfl (c_cons s_rfl (c_cons s_val c_nil))) ρ h⟩)
    · exact t_ret1 false (e := eB) (TR.conv (e_const (e := eB) (b := true) rfl) (by first | with_reducible rfl | simp only [bind_assoc, pure_bind, bind_pure] | rfl)) (fun b ρ h => RF.ret rfl ((c_cons s_free (c_cons s_free (c_cons s_free c_nil))) ρ h))
end Lw

namespace Lw
/-! ### rows compared sign by sign -/
def lexLt : List Int → List Int → Prop
  | a :: x, b :: y => a < b ∨ (a = b ∧ lexLt x y)
  | _, _ => False
theorem lex_irr : ∀ x : List Int, ¬ lexLt x x
  | [] => fun h => h
  | a :: x => fun h => by rcases h with h | h; omega; exact lex_irr x h.2
theorem lex_asym : ∀ {x y : List Int}, lexLt x y → ¬ lexLt y x
  | [], _, h, _ => h
  | _ :: _, [], h, _ => h
  | a :: x, b :: y, h, k => by
    rcases h with h | ⟨h, h'⟩ <;> rcases k with k | ⟨k, k'⟩
    · omega
    · omega
    · omega
    · exact lex_asym h' k'
theorem lex_app : ∀ {x y : List Int} (u v : List Int), lexLt x y → lexLt (x ++ u) (y ++ v)
  | [], _, _, _, h => h.elim
  | _ :: _, [], _, _, h => h.elim
  | a :: x, b :: y, u, v, h => by
    rcases h with h | ⟨h, h'⟩
    · exact .inl h
    · exact .inr ⟨h, lex_app u v h'⟩
theorem lex_same : ∀ (x : List Int) {a b : Int}, a < b → lexLt (x ++ [a]) (x ++ [b])
  | [], a, b, h => .inl h
  | c :: x, a, b, h => .inr ⟨rfl, lex_same x h⟩
end Lw
namespace Lw
/-! ### parting bays -/
theorem sum_app (a b : List Int) : (a ++ b).sum = a.sum + b.sum := by
  induction a with
  | nil => simp
  | cons x a ih => rw [List.cons_append, List.sum_cons, List.sum_cons, ih]; omega
theorem sum_nn : ∀ {l : List Int}, (∀ x ∈ l, 0 ≤ x) → 0 ≤ l.sum
  | [], _ => by simp
  | x :: l, h => by
    have := sum_nn (l := l) fun y hy => h y (by simp [hy])
    have := h x (by simp)
    rw [List.sum_cons]; omega
/-- so many cranes more, each at most H, behind one that still has so much left -/
def Fit (H : Int) : Int → Nat → List Int → Prop
  | left, 0, bs => bs.sum ≤ left
  | left, k + 1, bs => ∃ j, j ≤ bs.length ∧ (bs.take j).sum ≤ left ∧ Fit H H k (bs.drop j)
def NN (bs : List Int) : Prop := ∀ x ∈ bs, 0 ≤ x
theorem NN.drop {bs : List Int} (h : NN bs) (j : Nat) : NN (bs.drop j) := fun x hx => h x (List.mem_of_mem_drop hx)
theorem NN.take {bs : List Int} (h : NN bs) (j : Nat) : NN (bs.take j) := fun x hx => h x (List.mem_of_mem_take hx)
theorem fit_nil {H left : Int} (h : 0 ≤ left) (hH : 0 ≤ H) : ∀ k, Fit H left k []
  | 0 => by simpa [Fit] using h
  | k + 1 => ⟨0, by simp, by simpa using h, by simpa using fit_nil hH hH k⟩
theorem fit_tail {H : Int} {b : Int} (hb : 0 ≤ b) : ∀ {left : Int} {k : Nat} {bs : List Int}, Fit H left k (b :: bs) → Fit H left k bs
  | left, 0, bs, h => by simp only [Fit, List.sum_cons] at *; omega
  | left, k + 1, bs, ⟨0, h1, h2, h3⟩ => ⟨0, by simp, by simpa using h2, by simpa using fit_tail hb (by simpa using h3)⟩
  | left, k + 1, bs, ⟨j + 1, h1, h2, h3⟩ => ⟨j, by simpa using h1, by simp only [List.take_succ_cons, List.sum_cons] at h2; omega, by simpa using h3⟩
theorem fit_lead {H left b : Int} (hb : 0 ≤ b) (hl : b ≤ left) {k : Nat} {bs : List Int} : Fit H left k (b :: bs) ↔ Fit H (left - b) k bs := by
  cases k with
  | zero => simp only [Fit, List.sum_cons]; omega
  | succ k =>
    constructor
    · rintro ⟨j, h1, h2, h3⟩
      cases j with
      | zero => exact ⟨0, by simp, by simp; omega, by simpa using fit_tail hb (by simpa using h3)⟩
      | succ j => exact ⟨j, by simpa using h1, by simp only [List.take_succ_cons, List.sum_cons] at h2; omega, by simpa using h3⟩
    · rintro ⟨j, h1, h2, h3⟩
      exact ⟨j + 1, by simpa using h1, by simp only [List.take_succ_cons, List.sum_cons]; omega, by simpa using h3⟩
/-- going along greedily -/
def stp (H : Int) (s : Int × Int) (b : Int) : Int × Int := if s.2 < b then (s.1 + 1, H - b) else (s.1, s.2 - b)
theorem stp_shift (H : Int) : ∀ (bs : List Int) (m left d : Int), (bs.foldl (stp H) (m + d, left)).1 = (bs.foldl (stp H) (m, left)).1 + d
  | [], m, left, d => rfl
  | b :: bs, m, left, d => by
    rw [List.foldl_cons, List.foldl_cons]
    unfold stp
    by_cases q : left < b
    · simp only [q, if_true]
      rw [show m + d + 1 = m + 1 + d by omega]
      exact stp_shift H bs (m + 1) (H - b) d
    · simp only [q, if_false]
      exact stp_shift H bs m (left - b) d
theorem fit_greedy {H : Int} : ∀ {bs : List Int} {left : Int} {k : Nat}, NN bs → (∀ b ∈ bs, b ≤ H) → 0 ≤ left → 0 ≤ H → ((bs.foldl (stp H) (1, left)).1 ≤ 1 + (k : Int) ↔ Fit H left k bs)
  | [], left, k, _, _, hl, hH => by
    constructor
    · intro _; exact fit_nil hl hH k
    · intro _; show (1 : Int) ≤ 1 + k; omega
  | b :: bs, left, k, hn, hb, hl, hH => by
    have b0 := hn b (by simp)
    have b1 := hb b (by simp)
    have hn' : NN bs := fun x hx => hn x (by simp [hx])
    have hb' : ∀ x ∈ bs, x ≤ H := fun x hx => hb x (by simp [hx])
    rw [List.foldl_cons]
    by_cases q : left < b
    · have e : stp H (1, left) b = (1 + 1, H - b) := by simp [stp, q]
      rw [e, stp_shift]
      cases k with
      | zero =>
        constructor
        · intro h
          have m1 : 1 ≤ (bs.foldl (stp H) (1, H - b)).1 := by
            have := (fit_greedy (H := H) (bs := bs) (left := H - b) (k := 0) hn' hb' (by omega) hH)
            by_cases z : (1 : Int) ≤ (bs.foldl (stp H) (1, H - b)).1
            · exact z
            · exact absurd (this.mp (by omega)) (fun f => by
                have ge : ∀ (l : List Int) (m w : Int), m ≤ (l.foldl (stp H) (m, w)).1 := fun l => by
                  induction l with
                  | nil => intro m w; exact Int.le_refl _
                  | cons x l ih =>
                    intro m w
                    rw [List.foldl_cons]
                    unfold stp
                    by_cases y : w < x
                    · simp only [y, if_true]; have := ih (m + 1) (H - x); unfold stp at this; omega
                    · simp only [y, if_false]; have := ih m (w - x); unfold stp at this; omega
                exact z (ge bs 1 (H - b)))
          simp only [Int.natCast_zero] at h; omega
        · intro h
          simp only [Fit, List.sum_cons] at h
          have := sum_nn hn'
          omega
      | succ k =>
        have ih := fit_greedy (H := H) (bs := bs) (left := H - b) (k := k) hn' hb' (by omega) hH
        rw [show ((k + 1 : Nat) : Int) = (k : Int) + 1 by omega]
        constructor
        · intro h
          exact ⟨0, by simp, by simpa using hl, by simpa using (fit_lead b0 b1).mpr (ih.mp (by omega))⟩
        · rintro ⟨j, h1, h2, h3⟩
          cases j with
          | zero =>
            have := ih.mpr ((fit_lead b0 b1).mp (by simpa using h3))
            omega
          | succ j =>
            simp only [List.take_succ_cons, List.sum_cons] at h2
            have := sum_nn (hn'.take j)
            omega
    · have e : stp H (1, left) b = (1, left - b) := by simp [stp, q]
      rw [e]
      exact (fit_greedy (H := H) hn' hb' (by omega) hH).trans (fit_lead b0 (by omega)).symm
/-- cranes, at least one -/
def Fits (H : Int) (c : Nat) (bs : List Int) : Prop := Fit H H (c - 1) bs
theorem fit_top {H : Int} : ∀ {left : Int} {k : Nat} {bs : List Int}, NN bs → left ≤ H → Fit H left k bs → ∀ b ∈ bs, b ≤ H
  | left, 0, bs, hn, hl, h, b, hb => by
    simp only [Fit] at h
    have : b ≤ bs.sum := by
      obtain ⟨s, t, rfl⟩ := List.append_of_mem hb
      rw [sum_app, List.sum_cons]
      have := sum_nn (l := s) fun x hx => hn x (by simp [hx])
      have := sum_nn (l := t) fun x hx => hn x (by simp [hx])
      omega
    omega
  | left, k + 1, bs, hn, hl, ⟨j, h1, h2, h3⟩, b, hb => by
    rw [← List.take_append_drop j bs] at hb
    rcases List.mem_append.mp hb with hb | hb
    · obtain ⟨s, t, e⟩ := List.append_of_mem hb
      rw [e, sum_app, List.sum_cons] at h2
      have := sum_nn (l := s) fun x hx => hn.take j x (by rw [e]; simp [hx])
      have := sum_nn (l := t) fun x hx => hn.take j x (by rw [e]; simp [hx])
      omega
    · exact fit_top (hn.drop j) (Int.le_refl _) h3 b hb
/-- near bays fit in near hours -/
def Near (d : Int) (bs cs : List Int) : Prop := cs.length = bs.length ∧ ∀ m j, ((cs.drop m).take j).sum ≤ ((bs.drop m).take j).sum + d
theorem fit_near {H d : Int} : ∀ {k : Nat} {left : Int} {bs cs : List Int}, Near d bs cs → Fit H left k bs → Fit (H + d) (left + d) k cs
  | 0, left, bs, cs, ⟨n1, n2⟩, h => by
    have := n2 0 bs.length
    simp only [List.drop_zero] at this
    rw [List.take_of_length_le (by omega), List.take_of_length_le (by omega)] at this
    simp only [Fit] at *
    omega
  | k + 1, left, bs, cs, ⟨n1, n2⟩, ⟨j, h1, h2, h3⟩ => by
    refine ⟨j, by omega, ?_, fit_near ⟨by simp [n1], fun m i => ?_⟩ h3⟩
    · have := n2 0 j
      simp only [List.drop_zero] at this
      omega
    · rw [List.drop_drop, List.drop_drop]; exact n2 _ _
theorem fit_mono {H H' : Int} (hH : H ≤ H') {k : Nat} {left : Int} {bs : List Int} (h : Fit H left k bs) : Fit H' (left + (H' - H)) k bs := by
  have := fit_near (H := H) (d := H' - H) (cs := bs) ⟨rfl, fun _ _ => by omega⟩ h
  rwa [show H + (H' - H) = H' by omega] at this
theorem fits_mono {H H' : Int} (hH : H ≤ H') {c : Nat} {bs : List Int} (h : Fits H c bs) : Fits H' c bs := by
  have := fit_mono hH h
  rwa [show H + (H' - H) = H' by omega] at this
theorem fit_more {H : Int} (hH : 0 ≤ H) : ∀ {k : Nat} {left : Int} {bs : List Int}, Fit H left k bs → Fit H left (k + 1) bs
  | 0, left, bs, h => ⟨bs.length, Nat.le_refl _, by simpa [Fit] using h, by simpa [Fit] using hH⟩
  | k + 1, left, bs, ⟨j, h1, h2, h3⟩ => ⟨j, h1, h2, fit_more hH h3⟩
/-! parts -/
theorem fit_parts {H : Int} : ∀ {k : Nat} {left : Int} {bs : List Int}, Fit H left k bs ↔ ∃ (p : List Int) (ps : List (List Int)), ps.length = k ∧ p ++ ps.flatten = bs ∧ p.sum ≤ left ∧ ∀ q ∈ ps, q.sum ≤ H
  | 0, left, bs => by
    constructor
    · intro h; exact ⟨bs, [], rfl, by simp, h, by simp⟩
    · rintro ⟨p, ps, h1, h2, h3, _⟩
      have : ps = [] := List.length_eq_zero_iff.mp h1
      subst this
      simp only [List.flatten_nil, List.append_nil] at h2
      subst h2; exact h3
  | k + 1, left, bs => by
    constructor
    · rintro ⟨j, h1, h2, h3⟩
      obtain ⟨p, ps, e1, e2, e3, e4⟩ := fit_parts.mp h3
      refine ⟨bs.take j, p :: ps, by simp [e1], ?_, h2, fun q hq => ?_⟩
      · rw [List.flatten_cons, e2, List.take_append_drop]
      · rcases List.mem_cons.mp hq with rfl | hq
        · exact e3
        · exact e4 q hq
    · rintro ⟨p, ps, e1, e2, e3, e4⟩
      cases ps with
      | nil => simp at e1
      | cons q ps =>
        refine ⟨p.length, ?_, ?_, fit_parts.mpr ⟨q, ps, by simpa using e1, ?_, e4 q (by simp), fun r hr => e4 r (by simp [hr])⟩⟩
        · rw [← e2, List.length_append]; omega
        · rw [← e2, List.take_left]; exact e3
        · rw [← e2, List.drop_left, List.flatten_cons]
theorem fits_parts {H : Int} {c : Nat} (hc : 1 ≤ c) {bs : List Int} : Fits H c bs ↔ ∃ ps : List (List Int), ps.length = c ∧ ps.flatten = bs ∧ ∀ q ∈ ps, q.sum ≤ H := by
  unfold Fits
  rw [fit_parts]
  constructor
  · rintro ⟨p, ps, e1, e2, e3, e4⟩
    exact ⟨p :: ps, by simp [e1]; omega, by simpa using e2, fun q hq => by
      rcases List.mem_cons.mp hq with rfl | hq
      · exact e3
      · exact e4 q hq⟩
  · rintro ⟨ps, e1, e2, e4⟩
    cases ps with
    | nil => simp at e1; omega
    | cons q ps => exact ⟨q, ps, by simp at e1; omega, by simpa using e2, e4 q (by simp), fun r hr => e4 r (by simp [hr])⟩
theorem sum_rev (l : List Int) : l.reverse.sum = l.sum := by
  induction l with
  | nil => rfl
  | cons x l ih => rw [List.reverse_cons, sum_app, ih]; simp; omega
theorem fits_rev {H : Int} {c : Nat} (hc : 1 ≤ c) {bs : List Int} (h : Fits H c bs) : Fits H c bs.reverse := by
  obtain ⟨ps, e1, e2, e3⟩ := (fits_parts hc).mp h
  refine (fits_parts hc).mpr ⟨(ps.map List.reverse).reverse, by simp [e1], ?_, fun q hq => ?_⟩
  · rw [← e2, List.reverse_flatten]
  · have : q ∈ ps.map List.reverse := List.mem_reverse.mp hq
    obtain ⟨r, hr, rfl⟩ := List.mem_map.mp this
    rw [sum_rev]; exact e3 r hr
/-- the least of the most hours -/
structure Lst (bs : List Int) (c : Nat) (h : Int) : Prop where
  yes : Fits h c bs
  no : ¬ Fits (h - 1) c bs
theorem Lst.le {bs : List Int} {c : Nat} {h m : Int} (L : Lst bs c h) (f : Fits m c bs) : h ≤ m := by
  by_cases z : h ≤ m
  · exact z
  · exact absurd (fits_mono (show m ≤ h - 1 by omega) f) L.no
theorem Lst.uniq {bs : List Int} {c : Nat} {h m : Int} (L : Lst bs c h) (M : Lst bs c m) : h = m := Int.le_antisymm (L.le M.yes) (M.le L.yes)
/-! ### rows of first bays -/
def cut (bs : List Int) (a b : Int) : List Int := (bs.take b.toNat).drop a.toNat
def works (bs : List Int) : List Int → List Int
  | [] => []
  | [a] => [(cut bs a bs.length).sum]
  | a :: b :: r => (cut bs a b).sum :: works bs (b :: r)
structure Row (n : Int) (c : Nat) (r : List Int) : Prop where
  len : r.length = c
  hd : r.head? = some 0
  asc : r.Pairwise (· ≤ ·)
  top : ∀ a ∈ r, 0 ≤ a ∧ a ≤ n
theorem cut_eq (bs : List Int) {a b : Nat} (h : a ≤ b) : cut bs (a : Int) (b : Int) = (bs.drop a).take (b - a) := by
  unfold cut
  rw [Int.toNat_natCast, Int.toNat_natCast, List.drop_take]
/-- a row that does leaves what can be done -/
theorem row_fit {H : Int} {bs : List Int} : ∀ {r : List Int} {a : Nat}, (((a : Int)) :: r).Pairwise (· ≤ ·) → (∀ x ∈ r, x ≤ (bs.length : Int)) → (∀ w ∈ works bs ((a : Int) :: r), w ≤ H) → Fit H H r.length (bs.drop a)
  | [], a, _, _, h => by
    have := h _ (by simp [works]; rfl)
    simp only [Fit, List.length_nil]
    by_cases z : a ≤ bs.length
    · rw [cut_eq bs z, List.take_of_length_le (by simp)] at this; exact this
    · unfold cut at this
      rw [Int.toNat_natCast, Int.toNat_natCast, List.take_of_length_le (Nat.le_refl _)] at this
      exact this
  | b :: r, a, p, t, h => by
    obtain ⟨p1, p2⟩ := List.pairwise_cons.mp p
    have ab := p1 b (by simp)
    have bn := t b (by simp)
    obtain ⟨b, rfl⟩ : ∃ k : Nat, b = k := ⟨b.toNat, by omega⟩
    have w1 := h _ (by rw [works]; exact List.mem_cons_self ..)
    rw [cut_eq bs (by omega)] at w1
    have ih := row_fit (r := r) (a := b) p2 (fun x hx => t x (by simp [hx])) fun w hw => h w (by rw [works]; exact List.mem_cons_of_mem _ hw)
    refine ⟨b - a, by simp; omega, w1, ?_⟩
    rw [List.drop_drop, show a + (b - a) = b by omega]
    exact ih
end Lw

namespace Lw
open VL TL
open PySem (Str)
structure Bay (bs : List Int) : Prop where
  n1 : 1 ≤ bs.length
  n20 : bs.length ≤ 20
  ok : ∀ b ∈ bs, 0 ≤ b ∧ b ≤ 200
theorem Bay.nn {bs : List Int} (B : Bay bs) : NN bs := fun x hx => (B.ok x hx).1
theorem cut_two (xs : List Int) {a b : Int} (h0 : 0 ≤ a) (h1 : 0 ≤ b) : cutL xs (some a) (some b) = cut xs a b := by
  unfold cutL cut
  rw [sIx_pos h0, sIx_pos h1, List.drop_take]
  by_cases p : a.toNat ≤ xs.length
  · rw [Nat.min_eq_left p]
    by_cases q : b.toNat ≤ xs.length
    · rw [Nat.min_eq_left q]
    · rw [Nat.min_eq_right (by omega), List.take_of_length_le (by simp), List.take_of_length_le (by simp; omega)]
  · have m1 : min a.toNat xs.length = xs.length := by omega
    rw [m1, List.drop_of_length_le (Nat.le_refl _), List.drop_of_length_le (by omega)]
    simp
theorem within {i a b : Int} (h0 : a ≤ i) (h1 : i ≤ b) : f_is_within i a b = pure true := by
  unfold f_is_within f_is_integer
  simp [h0, h1]
theorem are_within {l : List Int} (hl : l.length ≤ 1000) {a b : Int} (h : ∀ i ∈ l, a ≤ i ∧ i ≤ b) : f_are_within l a b = pure true := by
  unfold f_are_within
  rw [lcT_O' (fun _ => true) (by omega) fun i hi => within (h i hi).1 (h i hi).2]
  have al : l.all (fun _ => true) = true := List.all_eq_true.mpr fun _ _ => rfl
  simp [al]
theorem check_bays {bs : List Int} (B : Bay bs) : f_check_bays bs = pure () := by
  have h1 := B.n1
  have h2 := B.n20
  have a : (1 : Int) ≤ (bs.length : Int) := by omega
  have b : (bs.length : Int) ≤ 20 := by omega
  unfold f_check_bays
  rw [are_within (by omega) fun i hi => B.ok i hi]
  simp [a, b]
theorem check_cranes {bs : List Int} (B : Bay bs) {c : Nat} (c1 : 1 ≤ c) (c6 : c ≤ 6) : f_check_cranes bs c = pure () := by
  unfold f_check_cranes
  rw [check_bays B, within (by omega) (by omega)]
  rfl
theorem foldT_pu {σ α : Type} {f : σ → α → O σ} {g : σ → α → σ} (h : ∀ s x, f s x = pure (g s x)) : ∀ (xs : List α) (s : σ), foldT f s xs = pure (xs.foldl g s)
  | [], _ => rfl
  | x :: xs, s => by
    unfold foldT
    rw [h]
    simp only [pure_bind]
    exact foldT_pu h xs (g s x)
theorem needed {bs : List Int} (ne : bs ≠ []) (hn : NN bs) (H : Int) : ∃ o, f_cranes_needed bs H = pure o ∧ ∀ c : Nat, 1 ≤ c → ((∃ m, o = some m ∧ m ≤ (c : Int)) ↔ Fits H c bs) := by
  unfold f_cranes_needed
  obtain ⟨M, e, hm, ht⟩ := maxL_ok ne
  rw [e]
  simp only [lf_some_O, pure_bind]
  by_cases q : H < M
  · refine ⟨none, by simp [q], fun c hc => ?_⟩
    constructor
    · rintro ⟨m, h, _⟩; cases h
    · intro f
      have := fit_top hn (Int.le_refl _) f M hm
      omega
  · have st : ∀ (s : Int × Int) (x : Int), f_cranes_needed_b1 H s x = pure (stp H s x) := fun s x => by
      unfold f_cranes_needed_b1 stp
      by_cases z : s.2 < x
      · simp [z]
      · simp [z]
    rw [foldT_pu st]
    refine ⟨some (bs.foldl (stp H) (1, H)).1, by simp [q], fun c hc => ?_⟩
    have H0 : 0 ≤ H := by have := hn M hm; omega
    have g := fit_greedy (H := H) (bs := bs) (left := H) (k := c - 1) hn (fun b hb => by have := ht b hb; omega) H0 H0
    rw [show (1 : Int) + ((c - 1 : Nat) : Int) = (c : Int) by omega] at g
    unfold Fits
    rw [← g]
    constructor
    · rintro ⟨m, h, h2⟩; cases h; exact h2
    · intro h; exact ⟨_, rfl, h⟩
theorem fits_sum (bs : List Int) (hn : NN bs) : ∀ c : Nat, Fits bs.sum c bs := fun c => by
  unfold Fits
  generalize c - 1 = k
  induction k with
  | zero => exact Int.le_refl _
  | succ k ih => exact fit_more (sum_nn hn) ih
theorem sum_b {bs : List Int} (B : Bay bs) : 0 ≤ bs.sum ∧ bs.sum ≤ 4000 := by
  have go : ∀ l : List Int, (∀ b ∈ l, 0 ≤ b ∧ b ≤ 200) → l.sum ≤ 200 * l.length := fun l => by
    induction l with
    | nil => intro _; simp
    | cons b l ih =>
      intro h
      have := ih fun x hx => h x (by simp [hx])
      have := h b (by simp)
      rw [List.sum_cons, List.length_cons]; omega
  have := go bs B.ok
  have := B.n20
  exact ⟨sum_nn B.nn, by omega⟩
theorem raw_least {bs : List Int} (B : Bay bs) {c : Nat} (c1 : 1 ≤ c) : ∃ h, f_raw_least bs c = pure h ∧ Lst bs c h ∧ 0 ≤ h ∧ h ≤ 4000 := by
  have ne : bs ≠ [] := fun z => by have := B.n1; rw [z] at this; simp at this
  obtain ⟨s0, s4⟩ := sum_b B
  unfold f_raw_least
  obtain ⟨s', e, h1, h2, h3⟩ := while_O (p := f_raw_least_b1_c bs c) (f := f_raw_least_b1 bs c)
    (fun s => -1 ≤ s.1 ∧ s.1 < s.2 ∧ s.2 ≤ bs.sum ∧ ¬ Fits s.1 c bs ∧ Fits s.2 c bs) (fun s => (s.2 - s.1).toNat)
    (fun s => Lst bs c s.2 ∧ 0 ≤ s.2 ∧ s.2 ≤ bs.sum)
    (fun s ⟨i1, i2, i3, i4, i5⟩ => by
      unfold f_raw_least_b1_c f_raw_least_b1
      by_cases q : 1 < s.2 - s.1
      · refine .inr ⟨by simp [q], ?_⟩
        obtain ⟨o, e1, e2⟩ := needed ne B.nn ((s.1 + s.2) / 2)
        have e2 := e2 c c1
        rw [divI_pos (by omega) (by omega)]
        simp only [lf_some_O, pure_bind]
        rw [e1]
        simp only [pure_bind]
        by_cases f : Fits ((s.1 + s.2) / 2) c bs
        · obtain ⟨m, hm, hm'⟩ := e2.mpr f
          subst hm
          refine ⟨(s.1, (s.1 + s.2) / 2), by simp [hm'], ⟨i1, by simp only; omega, by simp only; omega, i4, f⟩, by simp only; omega⟩
        · refine ⟨((s.1 + s.2) / 2, s.2), ?_, ⟨by simp only; omega, by simp only; omega, i3, f, i5⟩, by simp only; omega⟩
          cases o with
          | none => simp
          | some m =>
            have : ¬ m ≤ (c : Int) := fun z => f (e2.mp ⟨m, rfl, z⟩)
            simp [this]
      · refine .inl ⟨by simp [q], ⟨i5, ?_⟩, by omega, i3⟩
        rw [show s.2 - 1 = s.1 by omega]; exact i4) (-1, bs.sum) ⟨by simp, by simp only; omega, Int.le_refl _, fun f => by
      obtain ⟨b, hb⟩ := List.exists_mem_of_ne_nil _ ne
      have := fit_top B.nn (Int.le_refl _) f b hb
      have := B.nn b hb
      simp only at *
      omega, fits_sum bs B.nn c⟩ (by simp only; omega)
  simp only [pure_bind, e]
  exact ⟨s'.2, rfl, h1, h2, by omega⟩
theorem least_longest {bs : List Int} (B : Bay bs) {c : Nat} (c1 : 1 ≤ c) (c6 : c ≤ 6) : ∃ h, f_least_longest bs c = pure h ∧ f_raw_least bs c = pure h ∧ Lst bs c h ∧ 0 ≤ h ∧ h ≤ 4000 := by
  obtain ⟨h, e, r⟩ := raw_least B c1
  refine ⟨h, ?_, e, r⟩
  unfold f_least_longest
  rw [check_cranes B c1 c6, e]; rfl
theorem fits_nil {H : Int} (h : 0 ≤ H) (c : Nat) : Fits H c [] := fit_nil h h _
theorem can_do {cs : List Int} (hn : NN cs) {H : Int} (h0 : 0 ≤ H) {k : Nat} (k1 : 1 ≤ k) : ∃ b : Bool, f_can_do_rest cs k H = pure b ∧ (b = true ↔ Fits H k cs) := by
  unfold f_can_do_rest
  by_cases z : cs = []
  · subst z
    exact ⟨true, rfl, by simp [fits_nil h0 k]⟩
  · have : ¬ ((cs.length : Int) = 0) := fun q => z (List.length_eq_zero_iff.mp (by omega))
    obtain ⟨o, e1, e2⟩ := needed z hn H
    have e2 := e2 k k1
    simp only [this, decide_false, pure_bind, Bool.false_eq_true, if_false, e1]
    cases o with
    | none =>
      refine ⟨false, by simp, ?_⟩
      rw [← e2]
      simp
    | some m =>
      refine ⟨decide (m ≤ (k : Int)), by simp, ?_⟩
      rw [← e2]
      simp
/-! ### rows' works -/
def secs (bs : List Int) : List Int → List Int
  | [] => []
  | [a] => []
  | a :: b :: r => (cut bs a b).sum :: secs bs (b :: r)
theorem works_secs (bs : List Int) (a : Int) : ∀ xs : List Int, works bs (xs ++ [a]) = secs bs (xs ++ [a]) ++ [(cut bs a bs.length).sum]
  | [] => rfl
  | [x] => rfl
  | x :: y :: xs => by
    have := works_secs bs a (y :: xs)
    simp only [List.cons_append, works, secs] at this ⊢
    rw [this]
theorem secs_snoc (bs : List Int) (a b : Int) : ∀ xs : List Int, secs bs (xs ++ [a] ++ [b]) = secs bs (xs ++ [a]) ++ [(cut bs a b).sum]
  | [] => rfl
  | [x] => rfl
  | x :: y :: xs => by
    have := secs_snoc bs a b (y :: xs)
    simp only [List.cons_append, secs] at this ⊢
    rw [this]
theorem works_suf (bs : List Int) (y : Int) (ys : List Int) {w : Int} (h : w ∈ works bs (y :: ys)) : ∀ xs : List Int, w ∈ works bs (xs ++ y :: ys)
  | [] => h
  | [x] => by rw [List.cons_append, List.nil_append, works]; exact List.mem_cons_of_mem _ h
  | x :: z :: xs => by
    have := works_suf bs y ys h (z :: xs)
    rw [List.cons_append, List.cons_append, works]
    exact List.mem_cons_of_mem _ this
theorem works_zip (bs : List Int) : ∀ r : List Int, (r.zip (r.drop 1 ++ [(bs.length : Int)])).map (fun q => (cut bs q.1 q.2).sum) = works bs r
  | [] => rfl
  | [a] => rfl
  | a :: b :: r => by
    have := works_zip bs (b :: r)
    simp only [List.drop_succ_cons, List.drop_zero, List.cons_append, List.zip_cons_cons, List.map_cons, works] at this ⊢
    rw [this]
theorem works_ne (bs : List Int) : ∀ {r : List Int}, r ≠ [] → works bs r ≠ []
  | [a], _ => by simp [works]
  | a :: b :: r, _ => by simp [works]
def lgst (bs r : List Int) : Int := (maxL (works bs r)).getD 0
theorem lgst_ok (bs : List Int) {r : List Int} (h : r ≠ []) : maxL (works bs r) = some (lgst bs r) ∧ lgst bs r ∈ works bs r ∧ ∀ H, lgst bs r ≤ H ↔ ∀ w ∈ works bs r, w ≤ H := by
  obtain ⟨M, e, hm, ht⟩ := maxL_ok (works_ne bs h)
  unfold lgst
  rw [e]
  refine ⟨rfl, hm, fun H => ⟨fun h w hw => Int.le_trans (ht w hw) h, fun h => h M hm⟩⟩
section
variable {bs : List Int} (B : Bay bs) {c : Nat} {r : List Int} (R : Row bs.length c r) (c1 : 1 ≤ c) (c6 : c ≤ 6)
include B R c1 c6
theorem row_ne : r ≠ [] := fun z => by have := R.len; rw [z] at this; simp at this; omega
theorem works_of : f_works_of bs r = pure (works bs r) := by
  have hl := R.len
  unfold f_works_of
  rw [cut_drop _ (by omega)]
  have h20 := B.n20
  rw [catO_ok (by simp; omega)]
  simp only [lf_some_O, pure_bind]
  have e1 : (1 : Int).toNat = 1 := rfl
  rw [e1, lcT_O' (fun q : Int × Int => (cut bs q.1 q.2).sum) (by simp [List.length_zip]; omega) fun q hq => by
    obtain ⟨m1, m2⟩ := List.of_mem_zip hq
    have a0 := (R.top q.1 m1).1
    have b0 : 0 ≤ q.2 := by
      rcases List.mem_append.mp m2 with m2 | m2
      · exact (R.top q.2 (List.mem_of_mem_drop m2)).1
      · have : q.2 = (bs.length : Int) := by simpa using m2
        omega
    rw [cut_two bs a0 b0], works_zip]
theorem law_longest : f__law_longest bs r = pure (lgst bs r) := by
  have hl := R.len
  have h20 := B.n20
  have w := works_of B R c1 c6
  unfold f_works_of at w
  unfold f__law_longest
  rw [cut_drop _ (by omega)] at w ⊢
  rw [catO_ok (by simp; omega)] at w ⊢
  simp only [lf_some_O, pure_bind] at w ⊢
  rw [w]
  simp only [pure_bind]
  rw [(lgst_ok bs (row_ne B R c1 c6)).1]; rfl
theorem longest : f_longest bs r = pure (lgst bs r) := by
  have hl := R.len
  have h20 := B.n20
  have ne := row_ne B R c1 c6
  obtain ⟨x, xs, rfl⟩ : ∃ x xs, r = x :: xs := by cases r with | nil => exact absurd rfl ne | cons x xs => exact ⟨x, xs, rfl⟩
  have x0 : x = 0 := by have := R.hd; simpa using this
  subst x0
  have e1 : (1 : Int).toNat = 1 := rfl
  have po : f_is_parting_of bs (0 :: xs) = pure true := by
    have l1 : (1 : Int) ≤ ((0 :: xs).length : Int) := by omega
    have l2 : ((0 :: xs).length : Int) ≤ 6 := by omega
    unfold f_is_parting_of
    rw [are_within (by omega) fun i hi => R.top i hi]
    simp only [pure_bind, Bool.not_true, Bool.false_eq_true, if_false, l1, l2, decide_true, if_true, ixL_0, lf_some_O]
    rw [cut_drop _ (by omega), e1, lcT_O' (fun _ => true) (by simp [List.length_zip]; simp at hl; omega) fun q hq => by
      have : q.1 ≤ q.2 := by
        obtain ⟨j, hj⟩ := List.mem_iff_getElem?.mp hq
        obtain ⟨g1, g2⟩ := next_get hj
        have jl : j + 1 < (0 :: xs).length := by
          by_cases y : j + 1 < (0 :: xs).length
          · exact y
          · rw [List.getElem?_eq_none (by omega)] at g2; cases g2
        rw [List.getElem?_eq_getElem (by omega)] at g1
        rw [List.getElem?_eq_getElem jl] at g2
        rw [← Option.some.inj g1, ← Option.some.inj g2]
        exact List.pairwise_iff_getElem.mp R.asc j (j + 1) (by omega) jl (by omega)
      simp [this]]
    simp only [pure_bind]
    congr 1
    rw [List.all_map]
    exact List.all_eq_true.mpr fun _ _ => rfl
  unfold f_longest
  rw [check_bays B, po, works_of B R c1 c6]
  simp only [pure_bind, Bool.not_true, Bool.false_eq_true, if_false]
  rw [(lgst_ok bs ne).1]; rfl
end
end Lw

namespace Lw
open VL TL
open PySem (Str)
/-! ### the first that does -/
theorem loop_find {f : List Int → Int → O (FL (List Int) (List Int))} {P : Int → Prop} {s : List Int} : ∀ (xs : List Int), (∀ x ∈ xs, (P x ∧ f s x = pure (FL.brk (s ++ [x]))) ∨ (¬ P x ∧ f s x = pure (FL.nx s))) → xs.Pairwise (· < ·) → (∃ x ∈ xs, P x) → ∃ b ∈ xs, P b ∧ (∀ y ∈ xs, P y → b ≤ y) ∧ loopT f s xs = pure (.inl (s ++ [b]))
  | [], _, _, ⟨x, hx, _⟩ => by cases hx
  | x :: xs, h, hp, ⟨z, hz, pz⟩ => by
    obtain ⟨p1, p2⟩ := List.pairwise_cons.mp hp
    rcases h x (by simp) with ⟨a, e⟩ | ⟨a, e⟩
    · refine ⟨x, by simp, a, fun y hy _ => ?_, ?_⟩
      · rcases List.mem_cons.mp hy with rfl | hy
        · exact Int.le_refl _
        · have := p1 y hy; omega
      · unfold loopT; rw [e]; rfl
    · have zx : z ∈ xs := by
        rcases List.mem_cons.mp hz with rfl | hz
        · exact absurd pz a
        · exact hz
      obtain ⟨b, b1, b2, b3, b4⟩ := loop_find xs (fun y hy => h y (by simp [hy])) p2 ⟨z, zx, pz⟩
      refine ⟨b, by simp [b1], b2, fun y hy py => ?_, ?_⟩
      · rcases List.mem_cons.mp hy with rfl | hy
        · exact absurd py a
        · exact b3 y hy py
      · unfold loopT; rw [e]; exact b4
theorem rngI_pw (a b : Int) : (rngI a b).Pairwise (· < ·) := by
  unfold rngI
  exact List.pairwise_map.mpr (List.pairwise_lt_range.imp fun h => by omega)
theorem rngI_cons {a b : Int} (h : a < b) : rngI a b = a :: rngI (a + 1) b := by
  unfold rngI
  obtain ⟨k, hk⟩ : ∃ k : Nat, (b - a).toNat = k + 1 := ⟨(b - a).toNat - 1, by omega⟩
  have : (b - (a + 1)).toNat = k := by omega
  rw [hk, this, List.range_succ_eq_map, List.map_cons, List.map_map]
  simp only [Int.natCast_zero, Int.add_zero]
  congr 1
  refine List.map_congr_left fun i _ => ?_
  simp only [Function.comp_apply]; omega
/-- the prefix found so far -/
structure Inv (bs : List Int) (c : Nat) (H : Int) (i : Nat) (xs : List Int) (a : Int) : Prop where
  row : Row bs.length i (xs ++ [a])
  sec : ∀ w ∈ secs bs (xs ++ [a]), w ≤ H
  fit : Fit H H (c - i) (bs.drop a.toNat)
  lex : ∀ r, Row bs.length c r → (∀ w ∈ works bs r, w ≤ H) → xs ++ [a] = r.take i ∨ lexLt (xs ++ [a]) (r.take i)
theorem asc_snoc {l : List Int} {b : Int} (h : l.Pairwise (· ≤ ·)) (hb : ∀ x ∈ l, x ≤ b) : (l ++ [b]).Pairwise (· ≤ ·) := by
  rw [List.pairwise_append]
  exact ⟨h, List.pairwise_singleton _ _, fun x hx y hy => by have : y = b := by simpa using hy
                                                             rw [this]; exact hb x hx⟩
theorem asc_last {l : List Int} {a : Int} (h : (l ++ [a]).Pairwise (· ≤ ·)) : ∀ x ∈ l ++ [a], x ≤ a := fun x hx => by
  rw [List.pairwise_append] at h
  rcases List.mem_append.mp hx with hx | hx
  · exact h.2.2 x hx a (by simp)
  · have : x = a := by simpa using hx
    omega
section
variable {bs : List Int} (B : Bay bs) {c : Nat} (c1 : 1 ≤ c) (c6 : c ≤ 6) {H : Int} (H0 : 0 ≤ H)
include B c1 c6 H0
theorem part_step {i : Nat} {xs : List Int} {a : Int} (I : Inv bs c H i xs a) (i1 : 1 ≤ i) (ic : i < c) : ∃ b, f_parting_b2 bs (H, [0]) c (xs ++ [a]) i = pure (.nx (xs ++ [a] ++ [b])) ∧ Inv bs c H (i + 1) (xs ++ [a]) b := by
  have h20 := B.n20
  obtain ⟨a0, an⟩ := I.row.top a (by simp)
  have rl := I.row.len
  have gl : ixL (xs ++ [a]) (-1) = some a := by rw [ixL_last]; simp
  have fx := I.fit
  obtain ⟨k, hk⟩ : ∃ k, c - i = k + 1 := ⟨c - i - 1, by omega⟩
  rw [hk] at fx
  obtain ⟨j, j1, j2, j3⟩ := fx
  have fs : ∀ b : Int, 0 ≤ b → (Fits H (c - i) (bs.drop b.toNat) ↔ Fit H H k (bs.drop b.toNat)) := fun b _ => by
    unfold Fits; rw [hk]; exact Iff.rfl
  have jn : a.toNat + j ≤ bs.length := by rw [List.length_drop] at j1; omega
  have ex : ∃ x ∈ rngI a ((bs.length : Int) + 1), (cut bs a x).sum ≤ H ∧ Fits H (c - i) (bs.drop x.toNat) := by
    refine ⟨a + j, mem_rng.mpr ⟨by omega, by omega⟩, ?_, (fs _ (by omega)).mpr ?_⟩
    · have : cut bs a (a + j) = (bs.drop a.toNat).take j := by
        unfold cut
        rw [List.drop_take]
        congr 1; omega
      rw [this]; exact j2
    · rw [show (a + (j : Int)).toNat = a.toNat + j by omega, ← List.drop_drop]; exact j3
  obtain ⟨b, b1, ⟨b2, b3⟩, b4, e⟩ := loop_find (f := f_parting_b1 bs (H, [0]) c i) (P := fun x => (cut bs a x).sum ≤ H ∧ Fits H (c - i) (bs.drop x.toNat)) (s := xs ++ [a]) (rngI a ((bs.length : Int) + 1)) (fun x hx => by
    obtain ⟨x0, x1⟩ := mem_rng.mp hx
    unfold f_parting_b1
    rw [gl]
    simp only [lf_some_O, pure_bind]
    rw [cut_two bs a0 (by omega), cut_drop _ (by omega), show (c : Int) - (i : Int) = ((c - i : Nat) : Int) by omega]
    obtain ⟨d, d1, d2⟩ := can_do (B.nn.drop x.toNat) H0 (k := c - i) (by omega)
    by_cases q : (cut bs a x).sum ≤ H
    · simp only [q, decide_true, if_true, true_and, d1, pure_bind]
      by_cases f : Fits H (c - i) (bs.drop x.toNat)
      · refine .inl ⟨f, ?_⟩
        rw [d2.mpr f]
        simp only [if_true]
        rw [catO_ok (by simp at rl ⊢; omega)]; rfl
      · refine .inr ⟨f, ?_⟩
        have : d = false := by cases d with | true => exact absurd (d2.mp rfl) f | false => rfl
        rw [this]; rfl
    · refine .inr ⟨fun z => q z.1, ?_⟩
      simp [q]) (rngI_pw _ _) ex
  obtain ⟨ab, bn⟩ := mem_rng.mp b1
  have b0 : 0 ≤ b := by omega
  refine ⟨b, ?_, ⟨⟨by rw [List.length_append, rl]; rfl, ?_, asc_snoc I.row.asc fun x hx => Int.le_trans (asc_last I.row.asc x hx) ab, fun x hx => ?_⟩, fun w hw => ?_, ?_, fun r R good => ?_⟩⟩
  · unfold f_parting_b2
    rw [gl]
    simp only [lf_some_O, pure_bind]
    rw [rngO2_ok (by omega) (by omega) (by omega) (by omega)]
    simp only [lf_some_O, pure_bind]
    rw [e]; rfl
  · have := I.row.hd
    rw [List.head?_append, this]; rfl
  · rcases List.mem_append.mp hx with hx | hx
    · exact I.row.top x hx
    · have : x = b := by simpa using hx
      omega
  · rw [secs_snoc] at hw
    rcases List.mem_append.mp hw with hw | hw
    · exact I.sec w hw
    · have : w = (cut bs a b).sum := by simpa using hw
      rw [this]; exact b2
  · have := (fs b b0).mp b3
    rw [show c - (i + 1) = k by omega]; exact this
  · have Rl := R.len
    have ti : r.take (i + 1) = r.take i ++ [r[i]'(by omega)] := by
      rw [List.take_add_one, List.getElem?_eq_getElem (by omega)]; rfl
    rw [ti]
    rcases I.lex r R good with h | h
    · -- the same so far
      have sp : r = r.take i ++ r[i]'(by omega) :: r.drop (i + 1) := by
        rw [← List.drop_eq_getElem_cons (by omega), List.take_append_drop]
      rw [← h] at sp ⊢
      have asc := R.asc
      have top := R.top
      generalize r[i]'(by omega) = b' at *
      generalize r.drop (i + 1) = t at *
      subst sp
      rw [List.append_assoc, List.cons_append, List.nil_append] at asc good top
      have asc2 := (List.pairwise_append.mp asc).2.1
      have ab' : a ≤ b' := (List.pairwise_cons.mp asc2).1 b' (by simp)
      have bn' := top b' (by simp)
      have w1 : (cut bs a b').sum ≤ H := good _ (works_suf bs a (b' :: t) (by rw [works]; exact List.mem_cons_self ..) xs)
      obtain ⟨m, rfl⟩ : ∃ m : Nat, b' = m := ⟨b'.toNat, by omega⟩
      have tl : t.length = k := by
        rw [List.length_append, rl, List.length_cons] at Rl
        omega
      have f1 := row_fit (bs := bs) (H := H) (r := t) (a := m) (List.pairwise_cons.mp asc2).2 (fun x hx => (top x (by simp [hx])).2) fun w hw => by
        have g := works_suf bs (m : Int) t hw (xs ++ [a])
        rw [List.append_assoc, List.cons_append, List.nil_append] at g
        exact good w g
      rw [tl] at f1
      have := b4 m (mem_rng.mpr ⟨ab', by omega⟩) ⟨w1, (fs _ (by omega)).mpr (by simpa using f1)⟩
      by_cases q : b = (m : Int)
      · exact .inl (by rw [q])
      · exact .inr (lex_same _ (by omega))
    · exact .inr (lex_app _ _ h)
theorem part_go : ∀ (m i : Nat) (xs : List Int) (a : Int), Inv bs c H i xs a → 1 ≤ i → i + m = c → ∃ ys b, loopT (f_parting_b2 bs (H, [0]) c) (xs ++ [a]) (rngI i c) = pure (.inl (ys ++ [b])) ∧ Inv bs c H c ys b
  | 0, i, xs, a, I, i1, e => by
    have : i = c := by omega
    subst this
    exact ⟨xs, a, by rw [rng_nil (Int.le_refl _)]; rfl, I⟩
  | m + 1, i, xs, a, I, i1, e => by
    obtain ⟨b, s1, s2⟩ := part_step B c1 c6 H0 I i1 (by omega)
    obtain ⟨ys, z, e1, e2⟩ := part_go m (i + 1) (xs ++ [a]) b s2 (by omega) (by omega)
    refine ⟨ys, z, ?_, e2⟩
    rw [rngI_cons (by omega)]
    unfold loopT
    rw [s1]
    exact e1
end
/-- the least row that does -/
theorem parting {bs : List Int} (B : Bay bs) {c : Nat} (c1 : 1 ≤ c) (c6 : c ≤ 6) {h : Int} (e : f_raw_least bs c = pure h) (L : Lst bs c h) (h0 : 0 ≤ h) : ∃ p, f_parting bs c = pure p ∧ Row bs.length c p ∧ lgst bs p ≤ h ∧ ∀ r, Row bs.length c r → lgst bs r ≤ h → p = r ∨ lexLt p r := by
  have I : Inv bs c h 1 [] 0 := by
    refine ⟨⟨rfl, rfl, List.pairwise_singleton _ _, fun a ha => ?_⟩, fun w hw => (by cases hw), ?_, fun r R _ => ?_⟩
    · have : a = 0 := by simpa using ha
      omega
    · have := L.yes
      unfold Fits at this
      simpa using this
    · have := R.hd
      cases r with
      | nil => simp at this
      | cons x r =>
        have : x = 0 := by simpa using this
        subst this
        exact .inl rfl
  obtain ⟨ys, b, e1, J⟩ := part_go B c1 c6 h0 (c - 1) 1 [] 0 I (Nat.le_refl _) (by omega)
  have Jr := J.row
  have ne : ys ++ [b] ≠ [] := by simp
  refine ⟨ys ++ [b], ?_, Jr, ?_, fun r R hr => ?_⟩
  · unfold f_parting
    rw [check_cranes B c1 c6, e]
    simp only [pure_bind]
    rw [rngO2_ok (by omega) (by omega) (by omega) (by omega)]
    simp only [lf_some_O, pure_bind]
    have e1' : loopT (f_parting_b2 bs (h, [0]) c) [0] (rngI 1 c) = pure (.inl (ys ++ [b])) := e1
    rw [e1']; rfl
  · refine ((lgst_ok bs ne).2.2 h).mpr fun w hw => ?_
    rw [works_secs] at hw
    rcases List.mem_append.mp hw with hw | hw
    · exact J.sec w hw
    · have : w = (cut bs b bs.length).sum := by simpa using hw
      have f := J.fit
      rw [Nat.sub_self] at f
      have z : cut bs b (bs.length : Int) = bs.drop b.toNat := by
        unfold cut; rw [Int.toNat_natCast, List.take_of_length_le (Nat.le_refl _)]
      rw [this, z]; exact f
  · have rn : r ≠ [] := fun z => by have := R.len; rw [z] at this; simp at this; omega
    have := J.lex r R (((lgst_ok bs rn).2.2 h).mp hr)
    rwa [List.take_of_length_le (by rw [R.len]; exact Nat.le_refl _)] at this
/-! ### all rows -/
def lst (r : List Int) : Int := r.getLast?.getD 0
def ext (n : Int) (r : List Int) : List (List Int) := (rngI (lst r) (n + 1)).map fun a => r ++ [a]
def rows (n : Int) : Nat → List (List Int)
  | 0 => [[0]]
  | k + 1 => (rows n k).flatMap (ext n)
theorem row_snoc {n : Int} {k : Nat} {r : List Int} {a : Int} (k1 : 1 ≤ k) : Row n (k + 1) (r ++ [a]) ↔ Row n k r ∧ lst r ≤ a ∧ a ≤ n := by
  constructor
  · intro R
    have rl : r.length = k := by have := R.len; simpa using this
    have ne : r ≠ [] := fun z => by rw [z] at rl; simp at rl; omega
    obtain ⟨x, xs, rfl⟩ : ∃ x xs, r = x :: xs := by cases r with | nil => exact absurd rfl ne | cons x xs => exact ⟨x, xs, rfl⟩
    have asc := List.pairwise_append.mp R.asc
    refine ⟨⟨rl, by simpa using R.hd, asc.1, fun y hy => R.top y (List.mem_append.mpr (.inl hy))⟩, ?_, (R.top a (by simp)).2⟩
    unfold lst
    rw [List.getLast?_eq_some_getLast ne]
    exact asc.2.2 _ (List.getLast_mem ne) a (by simp)
  · rintro ⟨R, h1, h2⟩
    have rl := R.len
    have ne : r ≠ [] := fun z => by rw [z] at rl; simp at rl; omega
    have gl : lst r = r.getLast ne := by unfold lst; rw [List.getLast?_eq_some_getLast ne]; rfl
    have tl : ∀ x ∈ r, x ≤ lst r := fun x hx => by
      rw [gl]
      have e := List.dropLast_concat_getLast ne
      have asc := R.asc
      rw [← e] at asc hx
      exact asc_last asc x hx
    have l0 := (R.top _ (List.getLast_mem ne)).1
    rw [← gl] at l0
    refine ⟨by simp [rl], ?_, asc_snoc R.asc fun x hx => Int.le_trans (tl x hx) h1, fun x hx => ?_⟩
    · rw [List.head?_append, R.hd]; rfl
    · rcases List.mem_append.mp hx with hx | hx
      · exact R.top x hx
      · have : x = a := by simpa using hx
        omega
theorem mem_rows {n : Int} (n0 : 0 ≤ n) : ∀ (k : Nat) (r : List Int), r ∈ rows n k ↔ Row n (k + 1) r
  | 0, r => by
    rw [rows, List.mem_singleton]
    constructor
    · rintro rfl
      exact ⟨rfl, rfl, List.pairwise_singleton _ _, fun a ha => (by simp at ha; omega)⟩
    · intro R
      have l := R.len
      have h := R.hd
      match r, l with
      | [x], _ => simpa using h
  | k + 1, r => by
    rw [rows, List.mem_flatMap]
    constructor
    · rintro ⟨q, hq, hr⟩
      obtain ⟨a, ha, rfl⟩ := List.mem_map.mp hr
      obtain ⟨a0, a1⟩ := mem_rng.mp ha
      exact (row_snoc (by omega)).mpr ⟨(mem_rows n0 k q).mp hq, a0, by omega⟩
    · intro R
      rcases List.eq_nil_or_concat r with rfl | ⟨q, a, rfl⟩
      · have := R.len; simp at this
      · rw [List.concat_eq_append] at *
        obtain ⟨h1, h2, h3⟩ := (row_snoc (by omega)).mp R
        exact ⟨q, (mem_rows n0 k q).mpr h1, List.mem_map.mpr ⟨a, mem_rng.mpr ⟨h2, by omega⟩, rfl⟩⟩
theorem rows_pw {n : Int} : ∀ k : Nat, (rows n k).Pairwise lexLt
  | 0 => List.pairwise_singleton _ _
  | k + 1 => by
    rw [rows, List.pairwise_flatMap]
    refine ⟨fun y hy => List.pairwise_map.mpr ((rngI_pw _ _).imp fun h => lex_same y h), (rows_pw k).imp fun {a b} h => ?_⟩
    intro x hx z hz
    obtain ⟨i, _, rfl⟩ := List.mem_map.mp hx
    obtain ⟨j, _, rfl⟩ := List.mem_map.mp hz
    exact lex_app _ _ h
theorem ext_len {n : Int} {r : List Int} (n0 : 0 ≤ n) (h : 0 ≤ lst r) : (ext n r).length ≤ n.toNat + 1 := by
  unfold ext rngI
  simp; omega
theorem lst0 {n : Int} {k : Nat} {r : List Int} (R : Row n k r) : 0 ≤ lst r := by
  unfold lst
  cases h : r.getLast? with
  | none => exact Int.le_refl _
  | some x => exact (R.top x (List.mem_of_getLast? h)).1
theorem rows_len {n : Int} (n0 : 0 ≤ n) : ∀ k : Nat, (rows n k).length ≤ (n.toNat + 1) ^ k
  | 0 => by simp [rows]
  | k + 1 => by
    rw [rows, List.length_flatMap]
    have h : ∀ l : List (List Int), (∀ r ∈ l, 0 ≤ lst r) → (l.map fun x => (ext n x).length).sum ≤ l.length * (n.toNat + 1) := fun l => by
      induction l with
      | nil => intro _; simp
      | cons x l ih =>
        intro hl
        rw [List.map_cons, List.sum_cons, List.length_cons, Nat.add_mul]
        have := ext_len (n := n) n0 (hl x (by simp))
        have := ih fun r hr => hl r (by simp [hr])
        omega
    exact Nat.le_trans (h _ fun r hr => lst0 ((mem_rows n0 k r).mp hr)) (by rw [Nat.pow_succ]; exact Nat.mul_le_mul_right _ (rows_len n0 k))
theorem rows_8 {n : Nat} (hn : n ≤ 8) {k : Nat} (hk : k ≤ 3) : (rows n k).length ≤ 729 := by
  refine Nat.le_trans (rows_len (by omega) k) ?_
  rw [Int.toNat_natCast]
  exact Nat.le_trans (Nat.pow_le_pow_left (show n + 1 ≤ 9 by omega) k) (Nat.pow_le_pow_right (n := 9) (by omega) hk)
theorem all_b1 {n : Nat} (hn : n ≤ 8) : ∀ (xs s : List (List Int)), s.length + xs.length * 9 ≤ 100000 → (∀ x ∈ xs, ∃ k, 1 ≤ k ∧ k ≤ 5 ∧ Row n k x) → foldT (f__law_all_partings_b1 n) s xs = pure (s ++ xs.flatMap (ext n))
  | [], s, _, _ => by simp
  | x :: xs, s, hl, hx => by
    rw [List.length_cons] at hl
    obtain ⟨k, k1, k5, R⟩ := hx x (by simp)
    have l0 := lst0 R
    have ml := ext_len (n := n) (r := x) (by omega) l0
    rw [Int.toNat_natCast] at ml
    have rl := R.len
    have ne : x ≠ [] := fun z => by rw [z] at rl; simp at rl; omega
    have gl : lst x = x.getLast ne := by unfold lst; rw [List.getLast?_eq_some_getLast ne]; rfl
    have ln : lst x ≤ n := by rw [gl]; exact (R.top _ (List.getLast_mem ne)).2
    have r := all_b1 hn xs (s ++ ext n x) (by rw [List.length_append]; omega) fun y hy => hx y (by simp [hy])
    have st : f__law_all_partings_b1 n s x = pure (s ++ ext n x) := by
      unfold f__law_all_partings_b1
      rw [ixL_last, List.getLast?_eq_some_getLast ne, ← gl]
      simp only [lf_some_O, pure_bind]
      rw [rngO2_ok (by omega) (by omega) (by omega) (by omega)]
      simp only [lf_some_O, pure_bind]
      have rgl : (rngI (lst x) ((n : Int) + 1)).length ≤ 100 := by unfold rngI; simp; omega
      rw [lcT_O' (fun j => x ++ [j]) (by omega) fun j _ => by rw [catO_ok (by simp; omega)]; rfl]
      have me : (rngI (lst x) ((n : Int) + 1)).map (fun j => x ++ [j]) = ext n x := rfl
      rw [me]
      simp only [pure_bind]
      rw [catO_ok (by omega)]
      rfl
    unfold foldT
    rw [st]
    simp only [pure_bind]
    rw [r, List.flatMap_cons, List.append_assoc]
theorem all_rows {n c : Nat} (hn : n ≤ 8) (c1 : 1 ≤ c) (c4 : c ≤ 4) : f__law_all_partings n c = pure (rows n (c - 1)) := by
  unfold f__law_all_partings
  rw [rngO1_ok (by omega) (by omega)]
  simp only [lf_some_O, pure_bind]
  have go : ∀ k : Nat, k ≤ 3 → foldT (f__law_all_partings_b2 n) [[0]] (rngI 0 (k : Int)) = pure (rows n k) := fun k => by
    induction k with
    | zero => intro _; rfl
    | succ k ih =>
      intro hk
      have sn : rngI 0 ((k + 1 : Nat) : Int) = rngI 0 (k : Int) ++ [(k : Int)] := by
        rw [show ((k + 1 : Nat) : Int) = (k : Int) + 1 by omega]; exact rng_snoc (by omega)
      have fa : ∀ (xs ys : List Int) (s : List (List Int)), foldT (f__law_all_partings_b2 n) s (xs ++ ys) = foldT (f__law_all_partings_b2 n) s xs >>= fun s => foldT (f__law_all_partings_b2 n) s ys := fun xs => by
        induction xs with
        | nil => intro ys s; simp
        | cons x xs ihx =>
          intro ys s
          rw [List.cons_append]
          show f__law_all_partings_b2 n s x >>= (fun s => foldT _ s (xs ++ ys)) = (f__law_all_partings_b2 n s x >>= fun s => foldT _ s xs) >>= _
          rw [bind_assoc]
          congr 1; funext s'; exact ihx ys s'
      rw [sn, fa, ih (by omega)]
      simp only [pure_bind]
      unfold foldT f__law_all_partings_b2
      have l5 := rows_8 (n := n) hn (k := k) (by omega)
      simp only [pure_bind]
      rw [all_b1 hn (rows n k) [] (by simp only [List.length_nil]; omega) fun x hx => ⟨k + 1, by omega, by omega, (mem_rows (by omega) k x).mp hx⟩]
      simp [rows]
  have := go (c - 1) (by omega)
  rw [show ((c - 1 : Nat) : Int) = (c : Int) - 1 by omega] at this
  rw [this]
  simp
end Lw

namespace Lw
open VL TL
open PySem (Str)
theorem lcL_Wm {el : α → W β} (F : α → β) : ∀ {xs : List α}, (∀ x ∈ xs, el x = pure (F x)) → lcL (fun _ => (pure true : W Bool)) el xs = pure (xs.map F)
  | [], _ => rfl
  | x :: xs, h => by
    unfold lcL
    rw [lcL_Wm F fun y hy => h y (by simp [hy]), h x (by simp)]
    simp
theorem lcL_Wf {p : α → W Bool} {P : α → Bool} : ∀ {xs : List α}, (∀ x ∈ xs, p x = pure (P x)) → lcL p (fun x => (pure x : W α)) xs = pure (xs.filter P)
  | [], _ => rfl
  | x :: xs, h => by
    unfold lcL
    rw [lcL_Wf (P := P) fun y hy => h y (by simp [hy]), h x (by simp)]
    cases q : P x <;> simp [q]
theorem lcT_Wf {p : α → W Bool} {P : α → Bool} {xs : List α} (hl : xs.length ≤ 16777216) (h : ∀ x ∈ xs, p x = pure (P x)) : lcT p (fun x => (pure x : W α)) xs = pure (xs.filter P) := by
  unfold lcT
  rw [if_pos (LIM_big hl), lcL_Wf h]; rfl
theorem foldT_puW {σ α : Type} {f : σ → α → W σ} {g : σ → α → σ} (h : ∀ s x, f s x = pure (g s x)) : ∀ (xs : List α) (s : σ), foldT f s xs = pure (xs.foldl g s)
  | [], _ => rfl
  | x :: xs, s => by
    unfold foldT
    rw [h]
    simp only [pure_bind]
    exact foldT_puW h xs (g s x)
/-! ### the law's own least -/
theorem row_fits {bs : List Int} {c : Nat} (c1 : 1 ≤ c) {r : List Int} (R : Row bs.length c r) {H : Int} (h : lgst bs r ≤ H) : Fits H c bs := by
  have rl := R.len
  have rh := R.hd
  cases r with
  | nil => simp at rl; omega
  | cons x r =>
    have : x = 0 := by simpa using rh
    subst this
    have f := row_fit (bs := bs) (H := H) (r := r) (a := 0) R.asc (fun y hy => (R.top y (by simp [hy])).2) (((lgst_ok bs (by simp)).2.2 H).mp h)
    unfold Fits
    rw [show c - 1 = r.length by simp at rl; omega]
    simpa using f
theorem best_of {bs : List Int} (B : Bay bs) (n8 : bs.length ≤ 8) {c : Nat} (c1 : 1 ≤ c) (c4 : c ≤ 4) : ∃ h p, f_least_longest bs c = pure h ∧ f_parting bs c = pure p ∧ Lst bs c h ∧ 0 ≤ h ∧ h ≤ 4000 ∧ f__law_least_longest bs c = pure h ∧ Row bs.length c p ∧ ∃ t, (rows bs.length (c - 1)).filter (fun r => decide (lgst bs r = h)) = p :: t := by
  obtain ⟨h, e1, e2, L, h0, h4⟩ := least_longest B c1 (by omega)
  obtain ⟨p, q1, R, q2, q3⟩ := parting B c1 (by omega) e2 L h0
  have rl := rows_8 (n := bs.length) n8 (k := c - 1) (by omega)
  have mr : ∀ r, r ∈ rows bs.length (c - 1) ↔ Row bs.length c r := fun r => by
    rw [mem_rows (by omega), show c - 1 + 1 = c by omega]
  have ge : ∀ r, Row bs.length c r → h ≤ lgst bs r := fun r hr => L.le (row_fits c1 hr (Int.le_refl _))
  have pe : lgst bs p = h := by have := ge p R; omega
  refine ⟨h, p, e1, q1, L, h0, h4, ?_, R, ?_⟩
  · unfold f__law_least_longest
    rw [all_rows n8 c1 c4]
    simp only [pure_bind]
    rw [lcT_O' (lgst bs) (by omega) fun r hr => law_longest B ((mr r).mp hr) c1 (by omega)]
    simp only [pure_bind]
    obtain ⟨m, em, hm, hl⟩ := minL_ok (xs := (rows bs.length (c - 1)).map (lgst bs)) (by
      intro z
      rw [List.map_eq_nil_iff] at z
      have := (mr p).mpr R
      rw [z] at this; cases this)
    rw [em]
    have : m = h := by
      obtain ⟨r, hr, e⟩ := List.mem_map.mp hm
      have a := ge r ((mr r).mp hr)
      have b := hl _ (List.mem_map.mpr ⟨p, (mr p).mpr R, rfl⟩)
      omega
    rw [this]; rfl
  · have pm : p ∈ (rows bs.length (c - 1)).filter (fun r => decide (lgst bs r = h)) := List.mem_filter.mpr ⟨(mr p).mpr R, by simp [pe]⟩
    have pw : ((rows bs.length (c - 1)).filter (fun r => decide (lgst bs r = h))).Pairwise lexLt := (rows_pw _).filter _
    have al : ∀ r ∈ (rows bs.length (c - 1)).filter (fun r => decide (lgst bs r = h)), p = r ∨ lexLt p r := fun r hr => by
      obtain ⟨a, b⟩ := List.mem_filter.mp hr
      exact q3 r ((mr r).mp a) (by have : lgst bs r = h := by simpa using b
                                   omega)
    generalize (rows bs.length (c - 1)).filter (fun r => decide (lgst bs r = h)) = l at *
    cases l with
    | nil => cases pm
    | cons q t =>
      refine ⟨t, ?_⟩
      rcases al q (by simp) with z | z
      · rw [z]
      · rcases List.mem_cons.mp pm with y | y
        · rw [y]
        · exact absurd ((List.pairwise_cons.mp pw).1 p y) (lex_asym z)
/-! ### drawn bays -/
theorem bays {m : Int} (m1 : 1 ≤ m) (m20 : m ≤ 20) (Q : List Int → Prop) (E : Exc → Prop) (hQ : ∀ bs, Bay bs → (bs.length : Int) ≤ m → Q bs) : f__law_bays m Q (fun _ => False) := by
  unfold f__law_bays
  refine wP (fun v : Int => 1 ≤ v ∧ v ≤ 201) (fun K hK => ?_) fun v ⟨v0, v1⟩ => ?_
  · unfold f__law_any
    simp only [W_bind, W_draw, W_lf]
    refine ⟨by decide, by decide, fun d d0 d1 => ?_⟩
    have d1 : d < 3 := d1
    have hd : d = 0 ∨ d = 1 ∨ d = 2 := by omega
    rcases hd with rfl | rfl | rfl
    · exact hK _ ⟨by decide, by decide⟩
    · exact hK _ ⟨by decide, by decide⟩
    · exact hK _ ⟨by decide, by decide⟩
  refine wP (fun bs : List Int => Bay bs ∧ (bs.length : Int) ≤ m) (fun K hK => ?_) fun bs ⟨B, hb⟩ => ?_
  · simp only [W_bind, W_draw]
    refine ⟨by omega, by omega, fun d d0 d1 => ?_⟩
    rw [rngO1_ok (by omega) (by omega)]
    simp only [W_lf, osat_some]
    have rl : (rngI 0 (1 + d)).length = (1 + d).toNat := by unfold rngI; simp
    refine lcT_W (fun _ y => 0 ≤ y ∧ y < v) (by omega) (fun x _ Q hQ => ?_) fun ys hl hy => hK _ ⟨⟨by omega, by omega, fun b hb => ?_⟩, by omega⟩
    · simp only [W_draw]
      exact ⟨by omega, by omega, fun d d0 d1 => hQ _ ⟨d0, d1⟩⟩
    · obtain ⟨j, hj, rfl⟩ := List.mem_iff_getElem.mp hb
      have := hy ((rngI 0 (1 + d))[j]'(by omega), ys[j]) (List.mem_iff_getElem.mpr ⟨j, by rw [List.length_zip]; omega, by rw [List.getElem_zip]⟩)
      simp only at this
      omega
  have n1 := B.n1
  have n20 := B.n20
  refine wP (fun bs : List Int => Bay bs ∧ (bs.length : Int) ≤ m) (fun K hK => ?_) fun bs ⟨B, hb⟩ => hQ bs B hb
  simp only [W_bind, W_draw, W_pure]
  refine ⟨by omega, by omega, fun d d0 d1 => ?_⟩
  by_cases z : d = 0
  · simp only [z, decide_true, W_ite, if_true, W_bind, W_draw]
    refine ⟨by omega, by omega, fun a a0 a1 => ?_⟩
    rw [setL_ok a0 a1]
    simp only [W_lf, osat_some, W_pure]
    refine hK _ ⟨⟨by simpa using n1, by simpa using n20, fun b hb => ?_⟩, by simpa using hb⟩
    rcases List.mem_or_eq_of_mem_set hb with h | h
    · exact B.ok b h
    · omega
  · simp only [z, decide_false, W_ite, Bool.false_eq_true, if_false, W_pure]
    exact hK _ ⟨B, hb⟩
theorem some_row {rows : List (List Int)} (h0 : 0 < rows.length) (h1 : rows.length ≤ 100000) (Q : List Int → Prop) (E : Exc → Prop) (hQ : ∀ r ∈ rows, Q r) : f__law_any_1 rows Q E := by
  unfold f__law_any_1
  simp only [W_bind, W_draw, W_lf]
  refine ⟨by omega, by omega, fun v v0 v1 => ?_⟩
  have hv : v.toNat < rows.length := by omega
  rw [ixL_pos v0, List.getElem?_eq_getElem hv, osat_some]
  exact hQ _ (List.getElem_mem hv)
theorem near_more {A C : List Int} {x : Int} : Near 1 (A ++ x :: C) (A ++ (x + 1) :: C) ∧ Near 0 (A ++ (x + 1) :: C) (A ++ x :: C) := by
  have go : ∀ (A : List Int) (m j : Nat), (((A ++ x :: C).drop m).take j).sum ≤ (((A ++ (x + 1) :: C).drop m).take j).sum ∧ (((A ++ (x + 1) :: C).drop m).take j).sum ≤ (((A ++ x :: C).drop m).take j).sum + 1 := fun A => by
    induction A with
    | nil =>
      intro m j
      cases m with
      | zero =>
        cases j with
        | zero => simp
        | succ j => simp only [List.nil_append, List.drop_zero, List.take_succ_cons, List.sum_cons]; omega
      | succ m => simp only [List.nil_append, List.drop_succ_cons]; omega
    | cons a A ih =>
      intro m j
      cases m with
      | zero =>
        cases j with
        | zero => simp
        | succ j =>
          have := ih 0 j
          simp only [List.cons_append, List.drop_zero, List.take_succ_cons, List.sum_cons] at this ⊢
          omega
      | succ m =>
        have := ih m j
        simpa only [List.cons_append, List.drop_succ_cons] using this
  exact ⟨⟨by simp, fun m j => (go A m j).2⟩, ⟨by simp, fun m j => by have := (go A m j).1; omega⟩⟩
theorem is_right {bs : List Int} (B : Bay bs) (n8 : bs.length ≤ 8) {c : Nat} (c1 : 1 ≤ c) (c4 : c ≤ 4) (Q : Bool → Prop) (hQ : Q true) : f__law_is_right bs c Q (fun _ => False) := by
  have n1 := B.n1
  have n20 := B.n20
  have rl := rows_8 (n := bs.length) n8 (k := c - 1) (by omega)
  have mr : ∀ r, r ∈ rows bs.length (c - 1) ↔ Row bs.length c r := fun r => by
    rw [mem_rows (by omega), show c - 1 + 1 = c by omega]
  obtain ⟨h, p, e1, e2, L, h0, h4, e3, R, t, e4⟩ := best_of B n8 c1 c4
  have lgb : ∀ r, Row bs.length c r → 0 ≤ lgst bs r ∧ lgst bs r ≤ 4000 := fun r hr => by
    have ne := row_ne B hr c1 (by omega)
    have nn : ∀ r : List Int, ∀ w ∈ works bs r, 0 ≤ w := fun r => by
      induction r with
      | nil => intro w hw; cases hw
      | cons a r ih =>
        intro w hw
        have cn : ∀ a b, 0 ≤ (cut bs a b).sum := fun a b => sum_nn fun x hx => B.nn x (List.mem_of_mem_take (List.mem_of_mem_drop hx))
        cases r with
        | nil => have : w = (cut bs a bs.length).sum := by simpa [works] using hw
                 rw [this]; exact cn _ _
        | cons b r =>
          rw [works] at hw
          rcases List.mem_cons.mp hw with rfl | hw
          · exact cn _ _
          · exact ih w hw
    refine ⟨nn r _ (lgst_ok bs ne).2.1, ((lgst_ok bs ne).2.2 4000).mpr fun w hw => ?_⟩
    have cn : ∀ a b, (cut bs a b).sum ≤ 4000 := fun a b => by
      have s := sum_b B
      have e : bs.sum = (bs.take b.toNat).sum + (bs.drop b.toNat).sum := by rw [← sum_app, List.take_append_drop]
      have e2 : (bs.take b.toNat).sum = ((bs.take b.toNat).take a.toNat).sum + (cut bs a b).sum := by
        unfold cut; rw [← sum_app, List.take_append_drop]
      have := sum_nn (B.nn.drop b.toNat)
      have := sum_nn ((B.nn.take b.toNat).take a.toNat)
      omega
    have go : ∀ r : List Int, ∀ w ∈ works bs r, w ≤ 4000 := fun r => by
      induction r with
      | nil => intro w hw; cases hw
      | cons a r ih =>
        intro w hw
        cases r with
        | nil => have : w = (cut bs a bs.length).sum := by simpa [works] using hw
                 rw [this]; exact cn _ _
        | cons b r =>
          rw [works] at hw
          rcases List.mem_cons.mp hw with rfl | hw
          · exact cn _ _
          · exact ih w hw
    exact go r w hw
  obtain ⟨s1, k1⟩ := repr_ok (shw_T (B := 20) (Bs := []) (e := eI) (xs := bs) n20 fun x hx => shw_I (by have := B.ok x hx; exact Nat.lt_trans (show x.natAbs < 1000 by omega) (by decide)))
  unfold f__law_is_right
  refine wv (rows bs.length (c - 1), s1) (fun K hK => ?_) ?_
  · rw [all_rows n8 c1 c4, k1]; exact hK
  refine wv h (fun K hK => ?_) ?_
  · rw [e3]; exact hK
  refine wv p (fun K hK => ?_) ?_
  · rw [lcT_Wf (P := fun r => decide (lgst bs r = h)) (by simp only; omega) fun r hr => by rw [law_longest B ((mr r).mp hr) c1 (by omega)]; rfl]
    simp only [e4, pure_bind, ixL_0, lf_some_W]
    exact hK
  refine wg (fun K hK => ?_) ?_
  · rw [e1, e2]
    have tg : isTG true true true ((eL eD) [(eI h), ((eT eI) p)]) ((eL eD) [(eI h), ((eT eI) p)]) = pure true := isTG_eq rfl (sameG_L rfl (fun d hd => by
      have hd : d = eI h ∨ d = eT eI p := by simpa using hd
      rcases hd with rfl | rfl
      · exact sameG_int (Nat.lt_of_le_of_lt (show h.natAbs ≤ 2 ^ 12 by omega) (Nat.pow_lt_pow_right (by omega) (by omega)))
      · exact sameG_T (fun a ha => sameG_int (Nat.lt_of_le_of_lt (show a.natAbs ≤ 2 ^ 12 by have := R.top a ha; omega) (Nat.pow_lt_pow_right (by omega) (by omega)))) (by have := R.len; omega)) (by simp))
    simp only [up_pure_W, pure_bind, tg, Bool.not_true]
    exact hK
  refine wv (.inl ()) (fun K hK => ?_) ?_
  · rw [rngO1_ok (by omega) (by omega)]
    simp only [lf_some_W, pure_bind]
    refine wP (fun l : List (List Int) => l.length = 4 ∧ ∀ r ∈ l, Row bs.length c r) (fun M hM => ?_) fun l ⟨r1, r2⟩ => ?_
    · have r4 : (rngI 0 4).length = 4 := rfl
      refine lcT_W (fun _ r => Row bs.length c r) (by omega) (fun x _ Q hQ => some_row (List.length_pos_of_mem ((mr p).mpr R)) (by omega) _ _ fun r hr => hQ r ((mr r).mp hr)) fun ys hl hy => hM _ ⟨by omega, fun r hr => ?_⟩
      obtain ⟨j, hj, rfl⟩ := List.mem_iff_getElem.mp hr
      exact hy ((rngI 0 4)[j]'(by omega), ys[j]) (List.mem_iff_getElem.mpr ⟨j, by rw [List.length_zip]; omega, by rw [List.getElem_zip]⟩)
    · rw [catO_ok (by simp; omega)]
      simp only [lf_some_W, pure_bind]
      refine loopT_W' (fun xs _ => ∀ r ∈ xs, Row bs.length c r) (fun r rs _ hr Q hQ => ?_) _ _ _ (fun r hr => ?_) fun s _ => hK
      · have Rr := hr r (by simp)
        have lb := lgb r Rr
        unfold f__law_is_right_b1
        rw [longest B Rr c1 (by omega), law_longest B Rr c1 (by omega)]
        have tg : isTG true true true (eI (lgst bs r)) (eI (lgst bs r)) = pure true := isTG_eq rfl (sameG_int (Nat.lt_of_le_of_lt (show (lgst bs r).natAbs ≤ 2 ^ 12 by omega) (Nat.pow_lt_pow_right (by omega) (by omega))))
        simp only [up_pure_W, pure_bind, tg, Bool.not_true, Bool.false_eq_true, if_false]
        exact hQ _ fun w hw => hr w (by simp [hw])
      · rcases List.mem_append.mp hr with hr | hr
        · exact r2 r hr
        · have : r = p := by simpa using hr
          rw [this]; exact R
  show (_ >>= _ : W Bool) Q _
  have Br : Bay bs.reverse := ⟨by simpa using n1, by simpa using n20, fun b hb => B.ok b (List.mem_reverse.mp hb)⟩
  refine wg (fun K hK => ?_) ?_
  · obtain ⟨h2, f1, _, L2, _, _⟩ := least_longest B (c := c + 1) (by omega) (by omega)
    obtain ⟨h3, f3, _, L3, _, _⟩ := least_longest Br c1 (by omega)
    have le2 : h2 ≤ h := L2.le (by
      have := L.yes
      unfold Fits at *
      rw [show c + 1 - 1 = (c - 1) + 1 by omega]
      exact fit_more h0 this)
    have e3 : h3 = h := by
      refine Int.le_antisymm (L3.le (fits_rev c1 L.yes)) (L.le ?_)
      have := fits_rev c1 L3.yes
      rwa [List.reverse_reverse] at this
    rw [show (c : Int) + 1 = ((c + 1 : Nat) : Int) by omega, f1, pkT_rev (by omega)]
    have d1 : decide (h < h2) = false := decide_eq_false (by omega)
    simp only [up_pure_W, pure_bind, d1, Bool.false_eq_true, if_false, lf_some_W, f3, e3, decide_true, Bool.not_true]
    exact hK
  refine wP (fun a : Int => 0 ≤ a ∧ a < (bs.length : Int)) (fun K hK => by simp only [W_draw]; exact ⟨by omega, by omega, fun d a b => hK _ ⟨a, b⟩⟩) fun a ⟨a0, a1⟩ => ?_
  refine wv (.inl ()) (fun K hK => ?_) ?_
  · have ha : a.toNat < bs.length := by omega
    rw [ixL_pos a0, List.getElem?_eq_getElem ha]
    have sp : bs = bs.take a.toNat ++ bs[a.toNat] :: bs.drop (a.toNat + 1) := by
      rw [← List.drop_eq_getElem_cons ha, List.take_append_drop]
    have bx := B.ok _ (List.getElem_mem ha)
    simp only [lf_some_W, pure_bind]
    by_cases q : bs[a.toNat] < 200
    · simp only [q, decide_true, if_true]
      rw [cut_take _ a0, cut_drop _ (by omega), show (a + 1).toNat = a.toNat + 1 by omega]
      rw [catO_ok (by simp; omega)]
      simp only [lf_some_W, pure_bind]
      rw [catO_ok (by simp; omega)]
      simp only [lf_some_W, pure_bind]
      have ee : bs.take a.toNat ++ [bs[a.toNat] + 1] ++ bs.drop (a.toNat + 1) = bs.take a.toNat ++ (bs[a.toNat] + 1) :: bs.drop (a.toNat + 1) := by simp
      rw [ee]
      obtain ⟨nm1, nm2⟩ := near_more (A := bs.take a.toNat) (C := bs.drop (a.toNat + 1)) (x := bs[a.toNat])
      rw [← sp] at nm1 nm2
      have Bm : Bay (bs.take a.toNat ++ (bs[a.toNat] + 1) :: bs.drop (a.toNat + 1)) := ⟨by rw [nm1.1]; exact n1, by rw [nm1.1]; exact n20, fun b hb => by
        rcases List.mem_append.mp hb with hb | hb
        · exact B.ok b (List.mem_of_mem_take hb)
        · rcases List.mem_cons.mp hb with rfl | hb
          · omega
          · exact B.ok b (List.mem_of_mem_drop hb)⟩
      generalize bs.take a.toNat ++ (bs[a.toNat] + 1) :: bs.drop (a.toNat + 1) = cs at *
      obtain ⟨h5, f5, _, L5, _, _⟩ := least_longest Bm c1 (by omega)
      have g1 : h ≤ h5 := L.le (by
        have := fit_near nm2 L5.yes
        unfold Fits
        simpa using this)
      have g2 : h5 ≤ h + 1 := L5.le (by
        have := fit_near nm1 L.yes
        unfold Fits
        exact this)
      simp only [f5, up_pure_W, pure_bind, g1, g2, decide_true, if_true, Bool.not_true, Bool.false_eq_true, if_false]
      exact hK
    · simp only [q, decide_false, Bool.false_eq_true, if_false]
      exact hK
  show (_ >>= _ : W Bool) Q _
  refine wg (fun K hK => ?_) ?_
  · obtain ⟨h2, f1, _, L2, _, _⟩ := least_longest B (c := 1) (by omega) (by omega)
    obtain ⟨h3, f3, _, L3, b0, b4⟩ := least_longest B (c := 2) (by omega) (by omega)
    have e2 : h2 = bs.sum := by
      have y := L2.yes
      have n := L2.no
      have y : bs.sum ≤ h2 := y
      have n : ¬ bs.sum ≤ h2 - 1 := n
      omega
    have e3 : ¬ 2 * h3 < bs.sum := by
      obtain ⟨j, j1, j2, j3⟩ := L3.yes
      have : bs.sum = (bs.take j).sum + (bs.drop j).sum := by rw [← sum_app, List.take_append_drop]
      have j3 : (bs.drop j).sum ≤ h3 := j3
      omega
    rw [show (1 : Int) = ((1 : Nat) : Int) from rfl, show (2 : Int) = ((2 : Nat) : Int) from rfl, f1, f3]
    simp only [up_pure_W, pure_bind, e2, decide_true, Bool.not_true, Bool.false_eq_true, if_false]
    rw [mulI_l (by decide)]
    have d3 : decide (((2 : Nat) : Int) * h3 < bs.sum) = false := decide_eq_false e3
    simp only [lf_some_W, pure_bind, d3]
    exact hK
  have ne : bs ≠ [] := fun z => by rw [z] at n1; simp at n1
  obtain ⟨M, em, hm, _⟩ := maxL_ok ne
  rw [k1, em]
  have mh : M ≤ h := fit_top B.nn (Int.le_refl _) L.yes M hm
  simp only [lf_some_W, pure_bind, decide_true, if_true, mh]
  exact hQ
theorem is_row {n c : Nat} {r : List Int} (c1 : 1 ≤ c) (c6 : c ≤ 6) (R : Row n c r) : f__law_is_row r c n = pure true := by
  have rl := R.len
  have rh := R.hd
  have asc := R.asc
  unfold f__law_is_row
  rw [lcT_O' (fun _ => true) (by omega) fun i hi => by
    have := R.top i hi
    unfold f__law_is_number
    simp [this.1, this.2]]
  have al : r.all (fun _ => true) = true := List.all_eq_true.mpr fun _ _ => rfl
  have al2 : (r.map fun _ => true).all id = true := by rw [List.all_map]; exact al
  cases r with
  | nil => simp at rl; omega
  | cons x r =>
    have : x = 0 := by simpa using rh
    subst this
    rw [ixL_0, cut_drop _ (by omega)]
    have e1 : (1 : Int).toNat = 1 := rfl
    have rl' : (((0 : Int) :: r).length : Int) = c := by omega
    simp only [pure_bind, Bool.not_true, Bool.false_eq_true, if_false, rl', decide_true, al2, lf_some_O, if_true, e1]
    rw [lcT_O' (fun _ => true) (by rw [List.length_zip]; omega) fun q hq => by
      have : q.1 ≤ q.2 := by
        obtain ⟨j, hj⟩ := List.mem_iff_getElem?.mp hq
        obtain ⟨g1, g2⟩ := next_get hj
        have jl : j + 1 < (0 :: r).length := by
          by_cases y : j + 1 < (0 :: r).length
          · exact y
          · rw [List.getElem?_eq_none (by omega)] at g2; cases g2
        rw [List.getElem?_eq_getElem (by omega)] at g1
        rw [List.getElem?_eq_getElem jl] at g2
        rw [← Option.some.inj g1, ← Option.some.inj g2]
        exact List.pairwise_iff_getElem.mp asc j (j + 1) (by omega) jl (by omega)
      simp [this]]
    simp only [pure_bind]
    congr 1
    rw [List.all_map]
    exact List.all_eq_true.mpr fun _ _ => rfl
theorem own_greedy {H : Int} : ∀ (bs : List Int) (m here : Int), (bs.foldl (fun (s : Int × Int) x => if H < s.2 + x then (s.1 + 1, x) else (s.1, s.2 + x)) (m, here)).1 = (bs.foldl (stp H) (m, H - here)).1
  | [], _, _ => rfl
  | b :: bs, m, here => by
    rw [List.foldl_cons, List.foldl_cons]
    unfold stp
    by_cases q : H < here + b
    · have q' : H - here < b := by omega
      simp only [q, q', if_true]
      have := own_greedy (H := H) bs (m + 1) b
      exact this
    · have q' : ¬ H - here < b := by omega
      simp only [q, q', if_false]
      have := own_greedy (H := H) bs m (here + b)
      rw [this, show H - (here + b) = H - here - b by omega]; rfl
theorem long_right (Q : Bool → Prop) (hQ : Q true) : f__law_is_long_right Q (fun _ => False) := by
  unfold f__law_is_long_right
  refine wP (fun q : List Int × Int => Bay q.1 ∧ ∃ c : Nat, q.2 = c ∧ 1 ≤ c ∧ c ≤ 6) (fun K hK => ?_) fun q ⟨B, c, ec, c1, c6⟩ => ?_
  · simp only [W_bind]
    refine bays (by decide) (by decide) _ (fun _ => False) fun bs B _ => ?_
    simp only [W_draw, W_pure]
    exact ⟨by omega, by omega, fun d d0 d1 => hK _ ⟨B, (1 + d).toNat, by simp only; omega, by omega, by omega⟩⟩
  obtain ⟨bs, cc⟩ := q
  simp only at B ec
  subst ec
  obtain ⟨h, e1, e2, L, h0, h4⟩ := least_longest B c1 c6
  obtain ⟨p, q1, R, q2, q3⟩ := parting B c1 c6 e2 L h0
  have pe : lgst bs p = h := by have := L.le (row_fits c1 R (Int.le_refl _)); omega
  refine wv (h, p) (fun K hK => ?_) ?_
  · simp only [e1, q1]; exact hK
  refine wg (fun K hK => ?_) ?_
  · simp only
    rw [is_row c1 c6 R, law_longest B R c1 c6, longest B R c1 c6, pe]
    simp only [up_pure_W, pure_bind, Bool.not_true, Bool.false_eq_true, if_false, decide_true]
    exact hK
  have ne : bs ≠ [] := fun z => by have := B.n1; rw [z] at this; simp at this
  obtain ⟨M, em, hm, ht⟩ := maxL_ok ne
  have mh : M ≤ h := fit_top B.nn (Int.le_refl _) L.yes M hm
  simp only [em, lf_some_W, pure_bind]
  by_cases z : h ≤ M
  · have : h = M := by omega
    simp only [this, Int.le_refl, decide_true, if_true]
    exact hQ
  · simp only [z, decide_false, Bool.false_eq_true, if_false]
    have st : ∀ (s : Int × Int) (x : Int), f__law_is_long_right_b1 (h, p) s x = pure (if h - 1 < s.2 + x then (s.1 + 1, x) else (s.1, s.2 + x)) := fun s x => by
      unfold f__law_is_long_right_b1
      by_cases y : h - 1 < s.2 + x
      · simp [y]
      · simp [y]
    rw [foldT_puW st]
    simp only [pure_bind]
    have M0 := B.nn M hm
    have g := fit_greedy (H := h - 1) (bs := bs) (left := h - 1) (k := c - 1) B.nn (fun b hb => by have := ht b hb; omega) (by omega) (by omega)
    have no : ¬ (bs.foldl (stp (h - 1)) (1, h - 1)).1 ≤ 1 + ((c - 1 : Nat) : Int) := fun f => L.no (g.mp f)
    have og := own_greedy (H := h - 1) bs 1 0
    rw [Int.sub_zero] at og
    rw [og]
    have : ((c : Int) < (bs.foldl (stp (h - 1)) (1, h - 1)).1) := by omega
    simp only [this, decide_true]
    exact hQ
theorem law_b1 (x : Int) (Q : FL Unit Bool → Prop) (hQ : Q (.nx ())) : f_law_b1 () x Q (fun _ => False) := by
  unfold f_law_b1
  refine wg (fun K hK => ?_) hQ
  simp only [W_bind]
  refine bays (by decide) (by decide) _ (fun _ => False) fun bs B hb => ?_
  simp only [W_draw]
  refine ⟨by omega, by omega, fun d d0 d1 => ?_⟩
  have := is_right B (by omega) (c := (1 + d).toNat) (by omega) (by omega)
  rw [Int.toNat_of_nonneg (by omega)] at this
  refine this _ ?_
  simp only [W_pure, Bool.not_true, W_ite, Bool.false_eq_true, if_false, W_bind]
  exact long_right _ (by simpa using hK)
theorem law_holds (ns : List Int) : f_law ns (fun b => b = true) (fun _ => False) := by
  unfold f_law
  refine wv () (fun K hK => hK) ?_
  have B : Bay [3, 1, 2, 4] := ⟨by decide, by decide, by decide⟩
  have B2 : Bay [3, 1, 2] := ⟨by decide, by decide, by decide⟩
  obtain ⟨h, p, e1, e2, L, h0, h4, e3, R, t, e4⟩ := best_of B (by decide) (c := 2) (by decide) (by decide)
  have h6 : h = 6 := by
    have f6 : Fits 6 2 [3, 1, 2, 4] := (fit_greedy (H := 6) (left := 6) (k := 1) B.nn (by decide) (by decide) (by decide)).mp (by decide)
    have f5 : ¬ Fits (6 - 1) 2 [3, 1, 2, 4] := fun f => by
      have := (fit_greedy (H := 5) (left := 5) (k := 1) B.nn (by decide) (by decide) (by decide)).mpr f
      exact absurd this (by decide)
    exact L.uniq ⟨f6, f5⟩
  subst h6
  have ep : p = [0, 2] := by
    have : (rows [3, 1, 2, 4].length (2 - 1)).filter (fun r => decide (lgst [3, 1, 2, 4] r = 6)) = [[0, 2], [0, 3]] := by decide +kernel
    have z := this.symm.trans e4
    cases z; rfl
  subst ep
  have R2 : Row ([3, 1, 2] : List Int).length 2 [0, 0] := ⟨rfl, rfl, by decide, by decide⟩
  have lg : lgst [3, 1, 2] [0, 0] = 6 := by decide +kernel
  refine wg (fun K hK => ?_) ?_
  · rw [show (2 : Int) = ((2 : Nat) : Int) from rfl] at *
    rw [e1]
    simp only [up_pure_W, pure_bind, decide_true, Bool.not_true, Bool.false_eq_true, if_false]
    rw [e2]
    simp only [up_pure_W, pure_bind, decide_true, Bool.not_true, Bool.false_eq_true, if_false]
    rw [longest B2 R2 (by decide) (by decide), lg]
    exact hK
  show (_ >>= _ : W Bool) _ _
  refine wv (.inl ()) (fun K hK => ?_) rfl
  rw [rngO1_ok (by omega) (by omega)]
  refine wv (rngI 0 4) (fun K hK => hK) ?_
  exact loopT_W' (fun _ _ => True) (fun i is u _ Q hQ => law_b1 i Q (hQ _ trivial)) _ _ _ trivial fun s _ => hK
theorem math0 (k : Nat) (ns : List Int) (hl : ns.length ≤ 63) : ∃ ρ', callN tab (k + 14) 25 [.val (.scr ns)] = .ok (.val (.bl true)) ρ' :=
  law_true (f := callN tab (k + 14) 25) (as := [.val (.scr ns)]) (s_law k ns hl) ⟨rfl, trivial⟩ (law_holds ns)
theorem math (ns : List Int) (hl : ns.length ≤ 63) : ∃ ρ', callN tab 40 25 [.val (.scr ns)] = .ok (.val (.bl true)) ρ' := math0 26 ns hl
end Lw

namespace Lw
open PySem L2 VL PySem.Spec PyProof PyProof.Rows
abbrev GAt {K : PySem.W.Frag} {h : PySem.Heap} (_ : K.In h) (mg : PySem.Str → Option PySem.Value) (x : PySem.Str) (d : D) : Prop := ∃ (v : L2.V) (u : PySem.Value), mg x = some u ∧ L2.RelV v u ∧ VL.GRep K v d
structure DefF (K : PySem.W.Frag) (x : Str) (st : Stmt) : Prop where
  ex : ∃ (f : Addr) (oc : Value) (od : Option Addr) (kV doc pm : Value) (an : Option Addr) (cdv ct : Value) (osl : Array (Option Value)), PySem.W.nsIn K mainGlobals x = some (some (.ref f)) ∧
    K.lookup f = some ⟨oc, od, .func (PySem.W.fnOf x x (defArgs st) (defBody st) (defScope st) .none kV doc pm an cdv ct), osl⟩ ∧ PySem.W.codeIn K cdv x = true ∧ PySem.W.keepIn K (.ref f) = true
theorem cI {K : PySem.W.Frag} {h : Heap} {mg : Str → Option Value} {x : Str} {v : Value} {i : Int} (KX : K.In h) (G : h.Ns mainGlobals mg) (a : PySem.W.nsIn K mainGlobals x = some (some v)) (e : ∃ t, v = .int i t) : ∃ t, mg x = some (.int i t) := by
  obtain ⟨t, rfl⟩ := e
  exact ⟨t, PySem.W.mg_of KX G a⟩
theorem cS {K : PySem.W.Frag} {h : Heap} {mg : Str → Option Value} {x : Str} {v : Value} {i : Str} (KX : K.In h) (G : h.Ns mainGlobals mg) (a : PySem.W.nsIn K mainGlobals x = some (some v)) (e : ∃ t, v = .str i t) : ∃ t, mg x = some (.str i t) := by
  obtain ⟨t, rfl⟩ := e
  exact ⟨t, PySem.W.mg_of KX G a⟩
theorem DefF.of {K : PySem.W.Frag} {x : Str} {st : Stmt} {f : Addr} {oc : Value} {od : Option Addr} {kV doc pm : Value} {an : Option Addr} {cdv ct : Value} {osl : Array (Option Value)} (a : PySem.W.nsIn K mainGlobals x = some (some (.ref f)))
    (l : K.lookup f = some ⟨oc, od, .func (PySem.W.fnOf x x (defArgs st) (defBody st) (defScope st) .none kV doc pm an cdv ct), osl⟩) (c : PySem.W.codeIn K cdv x = true) (k : PySem.W.keepIn K (.ref f) = true) : DefF K x st := ⟨_, _, _, _, _, _, _, _, _, _, a, l, c, k⟩
theorem DefF.fn {K : PySem.W.Frag} {x : Str} {st : Stmt} {h : Heap} {mg : Str → Option Value} (KX : K.In h) (G : h.Ns mainGlobals mg) (d : DefF K x st) : ∃ f fd, Fun K x x st f fd ∧ mg x = some (.ref f) := by
  obtain ⟨f, oc, od, kV, doc, pm, an, cdv, ct, osl, a, l, c, k⟩ := d.ex
  exact ⟨f, _, fun_mk l c k, PySem.W.mg_of KX G a⟩
theorem defs_at {P : Program} {w : World} {K : PySem.W.Frag} {mg : Str → Option Value} {h : Heap} (KX : K.In h) (Gh : h.Ns mainGlobals mg) (G : Gm K mg) {C : Cfg} (d_is_integer : DefF K "is_integer" st_is_integer) (d_is_within : DefF K "is_within" st_is_within) (d_are_within : DefF K "are_within" st_are_within) (d_check_bays : DefF K "check_bays" st_check_bays) (d_check_cranes : DefF K "check_cranes" st_check_cranes) (d_is_parting_of : DefF K "is_parting_of" st_is_parting_of) (d_works_of : DefF K "works_of" st_works_of) (d_longest : DefF K "longest" st_longest) (d_cranes_needed : DefF K "cranes_needed" st_cranes_needed) (d_raw_least : DefF K "raw_least" st_raw_least) (d_least_longest : DefF K "least_longest" st_least_longest) (d_can_do_rest : DefF K "can_do_rest" st_can_do_rest) (d_parting : DefF K "parting" st_parting) (d__law_hand : DefF K "_law_hand" st__law_hand) (d__law_draw : DefF K "_law_draw" st__law_draw) (d__law_any : DefF K "_law_any" st__law_any) (d__law_is : DefF K "_law_is" st__law_is) (d__law_bays : DefF K "_law_bays" st__law_bays) (d__law_all_partings : DefF K "_law_all_partings" st__law_all_partings) (d__law_longest : DefF K "_law_longest" st__law_longest) (d__law_least_longest : DefF K "_law_least_longest" st__law_least_longest) (d__law_is_number : DefF K "_law_is_number" st__law_is_number) (d__law_is_row : DefF K "_law_is_row" st__law_is_row) (d__law_is_right : DefF K "_law_is_right" st__law_is_right) (d__law_is_long_right : DefF K "_law_is_long_right" st__law_is_long_right) (d_law : DefF K "law" st_law) : DefAt P w K mg C TT tab := by
  intro i x np hT
  match i, hT with
  | 0, hT =>
    cases hT
    obtain ⟨f, fd, F, hm⟩ := d_is_integer.fn KX Gh
    exact ⟨1, b_is_integer, rfl, st_is_integer, f, fd, _, _, F, sc_is_integer, rfl, rfl, hm, F.binds fun _ _ _ _ _ _ us hl => (match us, hl with | [_], _ => rfl), fun base cf cdv A outer s H E vx => w_is_integer G base cf cdv A outer s H E vx⟩
  | 1, hT =>
    cases hT
    obtain ⟨f, fd, F, hm⟩ := d_is_within.fn KX Gh
    exact ⟨3, b_is_within, rfl, st_is_within, f, fd, _, _, F, sc_is_within, rfl, rfl, hm, F.binds fun _ _ _ _ _ _ us hl => (match us, hl with | [_, _, _], _ => rfl), fun base cf cdv A outer s H E vx => w_is_within G base cf cdv A outer s H E vx⟩
  | 2, hT =>
    cases hT
    obtain ⟨f, fd, F, hm⟩ := d_are_within.fn KX Gh
    exact ⟨4, b_are_within, rfl, st_are_within, f, fd, _, _, F, sc_are_within, rfl, rfl, hm, F.binds fun _ _ _ _ _ _ us hl => (match us, hl with | [_, _, _], _ => rfl), fun base cf cdv A outer s H E vx => w_are_within G base cf cdv A outer s H E vx⟩
  | 3, hT =>
    cases hT
    obtain ⟨f, fd, F, hm⟩ := d_check_bays.fn KX Gh
    exact ⟨1, b_check_bays, rfl, st_check_bays, f, fd, _, _, F, sc_check_bays, rfl, rfl, hm, F.binds fun _ _ _ _ _ _ us hl => (match us, hl with | [_], _ => rfl), fun base cf cdv A outer s H E vx => w_check_bays G base cf cdv A outer s H E vx⟩
  | 4, hT =>
    cases hT
    obtain ⟨f, fd, F, hm⟩ := d_check_cranes.fn KX Gh
    exact ⟨2, b_check_cranes, rfl, st_check_cranes, f, fd, _, _, F, sc_check_cranes, rfl, rfl, hm, F.binds fun _ _ _ _ _ _ us hl => (match us, hl with | [_, _], _ => rfl), fun base cf cdv A outer s H E vx => w_check_cranes G base cf cdv A outer s H E vx⟩
  | 5, hT =>
    cases hT
    obtain ⟨f, fd, F, hm⟩ := d_is_parting_of.fn KX Gh
    exact ⟨4, b_is_parting_of, rfl, st_is_parting_of, f, fd, _, _, F, sc_is_parting_of, rfl, rfl, hm, F.binds fun _ _ _ _ _ _ us hl => (match us, hl with | [_, _], _ => rfl), fun base cf cdv A outer s H E vx => w_is_parting_of G base cf cdv A outer s H E vx⟩
  | 6, hT =>
    cases hT
    obtain ⟨f, fd, F, hm⟩ := d_works_of.fn KX Gh
    exact ⟨5, b_works_of, rfl, st_works_of, f, fd, _, _, F, sc_works_of, rfl, rfl, hm, F.binds fun _ _ _ _ _ _ us hl => (match us, hl with | [_, _], _ => rfl), fun base cf cdv A outer s H E vx => w_works_of G base cf cdv A outer s H E vx⟩
  | 7, hT =>
    cases hT
    obtain ⟨f, fd, F, hm⟩ := d_longest.fn KX Gh
    exact ⟨2, b_longest, rfl, st_longest, f, fd, _, _, F, sc_longest, rfl, rfl, hm, F.binds fun _ _ _ _ _ _ us hl => (match us, hl with | [_, _], _ => rfl), fun base cf cdv A outer s H E vx => w_longest G base cf cdv A outer s H E vx⟩
  | 8, hT =>
    cases hT
    obtain ⟨f, fd, F, hm⟩ := d_cranes_needed.fn KX Gh
    exact ⟨5, b_cranes_needed, rfl, st_cranes_needed, f, fd, _, _, F, sc_cranes_needed, rfl, rfl, hm, F.binds fun _ _ _ _ _ _ us hl => (match us, hl with | [_, _], _ => rfl), fun base cf cdv A outer s H E vx => w_cranes_needed G base cf cdv A outer s H E vx⟩
  | 9, hT =>
    cases hT
    obtain ⟨f, fd, F, hm⟩ := d_raw_least.fn KX Gh
    exact ⟨6, b_raw_least, rfl, st_raw_least, f, fd, _, _, F, sc_raw_least, rfl, rfl, hm, F.binds fun _ _ _ _ _ _ us hl => (match us, hl with | [_, _], _ => rfl), fun base cf cdv A outer s H E vx => w_raw_least G base cf cdv A outer s H E vx⟩
  | 10, hT =>
    cases hT
    obtain ⟨f, fd, F, hm⟩ := d_least_longest.fn KX Gh
    exact ⟨2, b_least_longest, rfl, st_least_longest, f, fd, _, _, F, sc_least_longest, rfl, rfl, hm, F.binds fun _ _ _ _ _ _ us hl => (match us, hl with | [_, _], _ => rfl), fun base cf cdv A outer s H E vx => w_least_longest G base cf cdv A outer s H E vx⟩
  | 11, hT =>
    cases hT
    obtain ⟨f, fd, F, hm⟩ := d_can_do_rest.fn KX Gh
    exact ⟨4, b_can_do_rest, rfl, st_can_do_rest, f, fd, _, _, F, sc_can_do_rest, rfl, rfl, hm, F.binds fun _ _ _ _ _ _ us hl => (match us, hl with | [_, _, _], _ => rfl), fun base cf cdv A outer s H E vx => w_can_do_rest G base cf cdv A outer s H E vx⟩
  | 12, hT =>
    cases hT
    obtain ⟨f, fd, F, hm⟩ := d_parting.fn KX Gh
    exact ⟨7, b_parting, rfl, st_parting, f, fd, _, _, F, sc_parting, rfl, rfl, hm, F.binds fun _ _ _ _ _ _ us hl => (match us, hl with | [_, _], _ => rfl), fun base cf cdv A outer s H E vx => w_parting G base cf cdv A outer s H E vx⟩
  | 13, hT =>
    cases hT
    obtain ⟨f, fd, F, hm⟩ := d__law_hand.fn KX Gh
    exact ⟨3, b__law_hand, rfl, st__law_hand, f, fd, _, _, F, sc__law_hand, rfl, rfl, hm, F.binds fun _ _ _ _ _ _ us hl => (match us, hl with | [_], _ => rfl), fun base cf cdv A outer s H E vx => w__law_hand G base cf cdv A outer s H E vx⟩
  | 14, hT =>
    cases hT
    obtain ⟨f, fd, F, hm⟩ := d__law_draw.fn KX Gh
    exact ⟨5, b__law_draw, rfl, st__law_draw, f, fd, _, _, F, sc__law_draw, rfl, rfl, hm, F.binds fun _ _ _ _ _ _ us hl => (match us, hl with | [_, _], _ => rfl), fun base cf cdv A outer s H E vx => w__law_draw G base cf cdv A outer s H E vx⟩
  | 15, hT =>
    cases hT
    obtain ⟨f, fd, F, hm⟩ := d__law_any.fn KX Gh
    exact ⟨2, b__law_any, rfl, st__law_any, f, fd, _, _, F, sc__law_any, rfl, rfl, hm, F.binds fun _ _ _ _ _ _ us hl => (match us, hl with | [_, _], _ => rfl), fun base cf cdv A outer s H E vx => w__law_any G base cf cdv A outer s H E vx⟩
  | 16, hT =>
    cases hT
    obtain ⟨f, fd, F, hm⟩ := d__law_is.fn KX Gh
    exact ⟨4, b__law_is, rfl, st__law_is, f, fd, _, _, F, sc__law_is, rfl, rfl, hm, F.binds fun _ _ _ _ _ _ us hl => (match us, hl with | [_, _], _ => rfl), fun base cf cdv A outer s H E vx => w__law_is G base cf cdv A outer s H E vx⟩
  | 17, hT =>
    cases hT
    obtain ⟨f, fd, F, hm⟩ := d__law_bays.fn KX Gh
    exact ⟨5, b__law_bays, rfl, st__law_bays, f, fd, _, _, F, sc__law_bays, rfl, rfl, hm, F.binds fun _ _ _ _ _ _ us hl => (match us, hl with | [_, _], _ => rfl), fun base cf cdv A outer s H E vx => w__law_bays G base cf cdv A outer s H E vx⟩
  | 18, hT =>
    cases hT
    obtain ⟨f, fd, F, hm⟩ := d__law_all_partings.fn KX Gh
    exact ⟨7, b__law_all_partings, rfl, st__law_all_partings, f, fd, _, _, F, sc__law_all_partings, rfl, rfl, hm, F.binds fun _ _ _ _ _ _ us hl => (match us, hl with | [_, _], _ => rfl), fun base cf cdv A outer s H E vx => w__law_all_partings G base cf cdv A outer s H E vx⟩
  | 19, hT =>
    cases hT
    obtain ⟨f, fd, F, hm⟩ := d__law_longest.fn KX Gh
    exact ⟨5, b__law_longest, rfl, st__law_longest, f, fd, _, _, F, sc__law_longest, rfl, rfl, hm, F.binds fun _ _ _ _ _ _ us hl => (match us, hl with | [_, _], _ => rfl), fun base cf cdv A outer s H E vx => w__law_longest G base cf cdv A outer s H E vx⟩
  | 20, hT =>
    cases hT
    obtain ⟨f, fd, F, hm⟩ := d__law_least_longest.fn KX Gh
    exact ⟨3, b__law_least_longest, rfl, st__law_least_longest, f, fd, _, _, F, sc__law_least_longest, rfl, rfl, hm, F.binds fun _ _ _ _ _ _ us hl => (match us, hl with | [_, _], _ => rfl), fun base cf cdv A outer s H E vx => w__law_least_longest G base cf cdv A outer s H E vx⟩
  | 21, hT =>
    cases hT
    obtain ⟨f, fd, F, hm⟩ := d__law_is_number.fn KX Gh
    exact ⟨2, b__law_is_number, rfl, st__law_is_number, f, fd, _, _, F, sc__law_is_number, rfl, rfl, hm, F.binds fun _ _ _ _ _ _ us hl => (match us, hl with | [_, _], _ => rfl), fun base cf cdv A outer s H E vx => w__law_is_number G base cf cdv A outer s H E vx⟩
  | 22, hT =>
    cases hT
    obtain ⟨f, fd, F, hm⟩ := d__law_is_row.fn KX Gh
    exact ⟨5, b__law_is_row, rfl, st__law_is_row, f, fd, _, _, F, sc__law_is_row, rfl, rfl, hm, F.binds fun _ _ _ _ _ _ us hl => (match us, hl with | [_, _, _], _ => rfl), fun base cf cdv A outer s H E vx => w__law_is_row G base cf cdv A outer s H E vx⟩
  | 23, hT =>
    cases hT
    obtain ⟨f, fd, F, hm⟩ := d__law_is_right.fn KX Gh
    exact ⟨11, b__law_is_right, rfl, st__law_is_right, f, fd, _, _, F, sc__law_is_right, rfl, rfl, hm, F.binds fun _ _ _ _ _ _ us hl => (match us, hl with | [_, _, _], _ => rfl), fun base cf cdv A outer s H E vx => w__law_is_right G base cf cdv A outer s H E vx⟩
  | 24, hT =>
    cases hT
    obtain ⟨f, fd, F, hm⟩ := d__law_is_long_right.fn KX Gh
    exact ⟨8, b__law_is_long_right, rfl, st__law_is_long_right, f, fd, _, _, F, sc__law_is_long_right, rfl, rfl, hm, F.binds fun _ _ _ _ _ _ us hl => (match us, hl with | [_], _ => rfl), fun base cf cdv A outer s H E vx => w__law_is_long_right G base cf cdv A outer s H E vx⟩
  | 25, hT =>
    cases hT
    obtain ⟨f, fd, F, hm⟩ := d_law.fn KX Gh
    exact ⟨3, b_law, rfl, st_law, f, fd, _, _, F, sc_law, rfl, rfl, hm, F.binds fun _ _ _ _ _ _ us hl => (match us, hl with | [_], _ => rfl), fun base cf cdv A outer s H E vx => w_law G base cf cdv A outer s H E vx⟩
  | k + 26, hT => cases hT
theorem law_fn {l : PySem.W.OpenLaw} {w : World} {K : PySem.W.Frag} {h : Heap} {mg : Str → Option Value} {fa : Addr} (KX : K.In h) (Gh : h.Ns mainGlobals mg) (hfa : mg "law" = some (.ref fa)) (G : Gm K mg) (d_is_integer : DefF K "is_integer" st_is_integer) (d_is_within : DefF K "is_within" st_is_within) (d_are_within : DefF K "are_within" st_are_within) (d_check_bays : DefF K "check_bays" st_check_bays) (d_check_cranes : DefF K "check_cranes" st_check_cranes) (d_is_parting_of : DefF K "is_parting_of" st_is_parting_of) (d_works_of : DefF K "works_of" st_works_of) (d_longest : DefF K "longest" st_longest) (d_cranes_needed : DefF K "cranes_needed" st_cranes_needed) (d_raw_least : DefF K "raw_least" st_raw_least) (d_least_longest : DefF K "least_longest" st_least_longest) (d_can_do_rest : DefF K "can_do_rest" st_can_do_rest) (d_parting : DefF K "parting" st_parting) (d__law_hand : DefF K "_law_hand" st__law_hand) (d__law_draw : DefF K "_law_draw" st__law_draw) (d__law_any : DefF K "_law_any" st__law_any) (d__law_is : DefF K "_law_is" st__law_is) (d__law_bays : DefF K "_law_bays" st__law_bays) (d__law_all_partings : DefF K "_law_all_partings" st__law_all_partings) (d__law_longest : DefF K "_law_longest" st__law_longest) (d__law_least_longest : DefF K "_law_least_longest" st__law_least_longest) (d__law_is_number : DefF K "_law_is_number" st__law_is_number) (d__law_is_row : DefF K "_law_is_row" st__law_is_row) (d__law_is_right : DefF K "_law_is_right" st__law_is_right) (d__law_is_long_right : DefF K "_law_is_long_right" st__law_is_long_right) (d_law : DefF K "law" st_law) (k : Nat) :
    ∃ fd : FuncData, (∀ (s : Shared) (v : Value), BindsTo s fd ⟨[v], []⟩ [("script", v)]) ∧ ∀ base : Heap, K.In base → base.Ns mainGlobals mg → FnG l.prog w K mg base (L2.CX l.prog w) (k + 1) fa fd ["script"] (spOf ⟨K, fun _ _ _ _ => False⟩ (callN tab (k + 1)) 25 1) := by
  have T := fun (base : Heap) => tab_ok (base := base) (C := ⟨K, fun _ _ _ _ => False⟩) (P := l.prog) (w := w) rfl (defs_at KX Gh G d_is_integer d_is_within d_are_within d_check_bays d_check_cranes d_is_parting_of d_works_of d_longest d_cranes_needed d_raw_least d_least_longest d_can_do_rest d_parting d__law_hand d__law_draw d__law_any d__law_is d__law_bays d__law_all_partings d__law_longest d__law_least_longest d__law_is_number d__law_is_row d__law_is_right d__law_is_long_right d_law)
  obtain ⟨f, oc, od, kV, doc, pm, an, cdv, ct, osl, a, lk, c, kp⟩ := d_law.ex
  have e := hfa.symm.trans (PySem.W.mg_of KX Gh a)
  cases e
  have F := fun_mk lk c kp
  refine ⟨_, fun s v => .of_eq rfl, fun base _ _ => def_ok (C := ⟨K, fun _ _ _ _ => False⟩) (np := 1) (ns := 3) F sc_law rfl rfl rfl (callN_succ (f := fun cf => runDef 3 (b_law cf)) rfl) (T base k) fun cdv A outer s H E vx => w_law G base _ cdv A outer s H E vx⟩
end Lw
open PySem PySem.W PyProof.Rows
set_option maxRecDepth 100000 in
set_option maxHeartbeats 0 in
theorem PySem.Challenge.cw_tidequays_k32_whole_cranes_on_one_rail_holds : PySem.Challenge.rw_tidequays_k32_whole_cranes_on_one_rail.Holds := by
  w_on; o_law; k_head; (case hw => w_witness2)
  k_fill
  refine VL.law_walk (l := PySem.Challenge.rw_tidequays_k32_whole_cranes_on_one_rail) (tab := Lw.tab) (k := 39 + 1) (i := 25) rfl rfl ⟨rfl, by decide, by decide⟩ (fun w h Y => PySem.W.kIn_of Y) Lw.math ?F
  case F =>
    intro w mg fa h KX G hmg
    have c_MOST_BAYS : ∃ t, mg "MOST_BAYS" = some (.int 20 t) := by (refine' Lw.cI KX G ?a ?e; (case a => k_is); (case e => exact ⟨_, rfl⟩))
    have c_MOST_WORK : ∃ t, mg "MOST_WORK" = some (.int 200 t) := by (refine' Lw.cI KX G ?a ?e; (case a => k_is); (case e => exact ⟨_, rfl⟩))
    have c_MOST_CRANES : ∃ t, mg "MOST_CRANES" = some (.int 6 t) := by (refine' Lw.cI KX G ?a ?e; (case a => k_is); (case e => exact ⟨_, rfl⟩))
    refine' Lw.law_fn KX G hmg ⟨PySem.W.mg_none_of KX G ?z_isinstance, PySem.W.mg_none_of KX G ?z_bool, PySem.W.mg_none_of KX G ?z_int, PySem.W.mg_none_of KX G ?z_all, PySem.W.mg_none_of KX G ?z_tuple, PySem.W.mg_none_of KX G ?z_len, PySem.W.mg_none_of KX G ?z_zip, PySem.W.mg_none_of KX G ?z_sum, PySem.W.mg_none_of KX G ?z_max, PySem.W.mg_none_of KX G ?z_range, PySem.W.mg_none_of KX G ?z_abs, PySem.W.mg_none_of KX G ?z_repr, PySem.W.mg_none_of KX G ?z_str, PySem.W.mg_none_of KX G ?z_list, PySem.W.mg_none_of KX G ?z_min, c_MOST_BAYS, c_MOST_WORK, c_MOST_CRANES⟩ ?d_is_integer ?d_is_within ?d_are_within ?d_check_bays ?d_check_cranes ?d_is_parting_of ?d_works_of ?d_longest ?d_cranes_needed ?d_raw_least ?d_least_longest ?d_can_do_rest ?d_parting ?d__law_hand ?d__law_draw ?d__law_any ?d__law_is ?d__law_bays ?d__law_all_partings ?d__law_longest ?d__law_least_longest ?d__law_is_number ?d__law_is_row ?d__law_is_right ?d__law_is_long_right ?d_law 39
    (case d_is_integer => (refine' Lw.DefF.of ?a ?l ?c ?k; (case a => k_is); (case l => k_is); (case c => k_is); (case k => k_is)))
    (case d_is_within => (refine' Lw.DefF.of ?a ?l ?c ?k; (case a => k_is); (case l => k_is); (case c => k_is); (case k => k_is)))
    (case d_are_within => (refine' Lw.DefF.of ?a ?l ?c ?k; (case a => k_is); (case l => k_is); (case c => k_is); (case k => k_is)))
    (case d_check_bays => (refine' Lw.DefF.of ?a ?l ?c ?k; (case a => k_is); (case l => k_is); (case c => k_is); (case k => k_is)))
    (case d_check_cranes => (refine' Lw.DefF.of ?a ?l ?c ?k; (case a => k_is); (case l => k_is); (case c => k_is); (case k => k_is)))
    (case d_is_parting_of => (refine' Lw.DefF.of ?a ?l ?c ?k; (case a => k_is); (case l => k_is); (case c => k_is); (case k => k_is)))
    (case d_works_of => (refine' Lw.DefF.of ?a ?l ?c ?k; (case a => k_is); (case l => k_is); (case c => k_is); (case k => k_is)))
    (case d_longest => (refine' Lw.DefF.of ?a ?l ?c ?k; (case a => k_is); (case l => k_is); (case c => k_is); (case k => k_is)))
    (case d_cranes_needed => (refine' Lw.DefF.of ?a ?l ?c ?k; (case a => k_is); (case l => k_is); (case c => k_is); (case k => k_is)))
    (case d_raw_least => (refine' Lw.DefF.of ?a ?l ?c ?k; (case a => k_is); (case l => k_is); (case c => k_is); (case k => k_is)))
    (case d_least_longest => (refine' Lw.DefF.of ?a ?l ?c ?k; (case a => k_is); (case l => k_is); (case c => k_is); (case k => k_is)))
    (case d_can_do_rest => (refine' Lw.DefF.of ?a ?l ?c ?k; (case a => k_is); (case l => k_is); (case c => k_is); (case k => k_is)))
    (case d_parting => (refine' Lw.DefF.of ?a ?l ?c ?k; (case a => k_is); (case l => k_is); (case c => k_is); (case k => k_is)))
    (case d__law_hand => (refine' Lw.DefF.of ?a ?l ?c ?k; (case a => k_is); (case l => k_is); (case c => k_is); (case k => k_is)))
    (case d__law_draw => (refine' Lw.DefF.of ?a ?l ?c ?k; (case a => k_is); (case l => k_is); (case c => k_is); (case k => k_is)))
    (case d__law_any => (refine' Lw.DefF.of ?a ?l ?c ?k; (case a => k_is); (case l => k_is); (case c => k_is); (case k => k_is)))
    (case d__law_is => (refine' Lw.DefF.of ?a ?l ?c ?k; (case a => k_is); (case l => k_is); (case c => k_is); (case k => k_is)))
    (case d__law_bays => (refine' Lw.DefF.of ?a ?l ?c ?k; (case a => k_is); (case l => k_is); (case c => k_is); (case k => k_is)))
    (case d__law_all_partings => (refine' Lw.DefF.of ?a ?l ?c ?k; (case a => k_is); (case l => k_is); (case c => k_is); (case k => k_is)))
    (case d__law_longest => (refine' Lw.DefF.of ?a ?l ?c ?k; (case a => k_is); (case l => k_is); (case c => k_is); (case k => k_is)))
    (case d__law_least_longest => (refine' Lw.DefF.of ?a ?l ?c ?k; (case a => k_is); (case l => k_is); (case c => k_is); (case k => k_is)))
    (case d__law_is_number => (refine' Lw.DefF.of ?a ?l ?c ?k; (case a => k_is); (case l => k_is); (case c => k_is); (case k => k_is)))
    (case d__law_is_row => (refine' Lw.DefF.of ?a ?l ?c ?k; (case a => k_is); (case l => k_is); (case c => k_is); (case k => k_is)))
    (case d__law_is_right => (refine' Lw.DefF.of ?a ?l ?c ?k; (case a => k_is); (case l => k_is); (case c => k_is); (case k => k_is)))
    (case d__law_is_long_right => (refine' Lw.DefF.of ?a ?l ?c ?k; (case a => k_is); (case l => k_is); (case c => k_is); (case k => k_is)))
    (case d_law => (refine' Lw.DefF.of ?a ?l ?c ?k; (case a => k_is); (case l => k_is); (case c => k_is); (case k => k_is)))
    (case z_isinstance => k_is)
    (case z_bool => k_is)
    (case z_int => k_is)
    (case z_all => k_is)
    (case z_tuple => k_is)
    (case z_len => k_is)
    (case z_zip => k_is)
    (case z_sum => k_is)
    (case z_max => k_is)
    (case z_range => k_is)
    (case z_abs => k_is)
    (case z_repr => k_is)
    (case z_str => k_is)
    (case z_list => k_is)
    (case z_min => k_is)
