import PyProof.Rows.All
import Wide.All
import OpenK.AllK
import Wide.FinOn
import HandS.ForMost
import HandS.ForExc
import HandS.Wide
import HandS.CallSlots
import HandS.SortRule
import HandS.SortInts
import HandS.NoneIn
import HandS.IsInst
import HandS.Deep
import HandS.TupLe
import HandS.Conv
import HandS.More
import HandS.Defaults
import HandS.Style
import HandS.StrMore
import HandS.RevRange
import KE.KEqNest
import HandS.DictComp
import HandS.ExcOwn
import HandS.TryMany
import HandS.TryOnly
import HandS.ExcIs
import HandS.TupAny
import HandS.Replace
import HandS.WordsDict
import HandS.TupLen
import HandS.Records
import HandS.TupMul
import PyProof.EqAt
import PyProof.EqKinds
import PyProof.TupleCall
import HandS.ExcField
import KE.KExcIs
import HandS.Iter
import HandS.ExcValue
import KE.DataFind
import PyProof.Rows.StrFit
import PySem.Challenge.RW_ringstones_k81_whole_likeness
set_option Elab.async false
set_option linter.all false
set_option maxRecDepth 100000
set_option maxHeartbeats 4000000
/-! The engine: typed values over the hand layer; every def's body is read as a plain Lean function. -/
namespace G
open PySem PySem.Spec PyProof.Rows L2
abbrev Frag := PySem.W.Frag
/-! ### outcomes -/
inductive Pay where
  | no | int (i : Int) | strs (xs : List Str)
structure Exn where
  cls : Str
  pay : Pay
inductive Res (α : Type) where
  | ok (a : α) | exc (x : Exn) | stuck
def Res.bind {α β : Type} (m : Res α) (k : α → Res β) : Res β :=
  match m with
  | .ok a => k a
  | .exc x => .exc x
  | .stuck => .stuck
@[simp] theorem Res.ok_bind {α β : Type} (a : α) (k : α → Res β) : (Res.ok a).bind k = k a := rfl
@[simp] theorem Res.exc_bind {α β : Type} (x : Exn) (k : α → Res β) : (Res.exc x : Res α).bind k = .exc x := rfl
@[simp] theorem Res.stuck_bind {α β : Type} (k : α → Res β) : (Res.stuck : Res α).bind k = .stuck := rfl
/-- as a rule that leaves its steps -/
theorem Res.okb {α β : Type} (a : α) (k : α → Res β) : (Res.ok a).bind k = k a := Eq.trans (Eq.refl ((Res.ok a).bind k)) (Eq.refl (k a))
theorem Res.bind_assoc {α β γ : Type} (m : Res α) (k : α → Res β) (l : β → Res γ) : (m.bind k).bind l = m.bind fun a => (k a).bind l := by cases m <;> rfl
/-- c holds, or it is stuck -/
def guardR {α : Type} (c : Bool) (m : Res α) : Res α := if c then m else .stuck
@[simp] theorem guardR_true {α : Type} (m : Res α) : guardR true m = m := rfl
@[simp] theorem guardR_false {α : Type} (m : Res α) : guardR false m = .stuck := rfl
theorem guardR_of {α : Type} {c : Bool} {m : Res α} (h : c = true) : guardR c m = m := by rw [h]; rfl

/-! ### lists side by side -/
def All2 {α β : Type} (P : α → β → Prop) : List α → List β → Prop
  | [], [] => True
  | a :: as, b :: bs => P a b ∧ All2 P as bs
  | _, _ => False
section
variable {α β : Type} {P R : α → β → Prop}
theorem All2.imp (h : ∀ a b, P a b → R a b) : ∀ {as : List α} {bs : List β}, All2 P as bs → All2 R as bs
  | [], [], _ => trivial
  | _ :: _, _ :: _, ⟨x, y⟩ => ⟨h _ _ x, All2.imp h y⟩
  | [], _ :: _, x => x.elim
  | _ :: _, [], x => x.elim
theorem All2.length : ∀ {as : List α} {bs : List β}, All2 P as bs → as.length = bs.length
  | [], [], _ => rfl
  | _ :: _, _ :: _, ⟨_, y⟩ => congrArg (· + 1) (All2.length y)
  | [], _ :: _, x => x.elim
  | _ :: _, [], x => x.elim
theorem All2.get : ∀ {as : List α} {bs : List β} {i : Nat} {b : β}, All2 P as bs → bs[i]? = some b → ∃ a, as[i]? = some a ∧ P a b
  | _ :: _, _ :: _, 0, b, ⟨x, _⟩, h => by
    have e : _ = b := Option.some.inj h
    subst e
    exact ⟨_, rfl, x⟩
  | _ :: as, _ :: bs, i + 1, b, ⟨_, y⟩, h => All2.get (as := as) (bs := bs) (i := i) y h
  | [], [], i, b, _, h => by simp at h
  | [], _ :: _, _, _, x, _ => x.elim
  | _ :: _, [], _, _, x, _ => x.elim
theorem All2.get' : ∀ {as : List α} {bs : List β} {i : Nat} {a : α}, All2 P as bs → as[i]? = some a → ∃ b, bs[i]? = some b ∧ P a b
  | _ :: _, _ :: _, 0, b, ⟨x, _⟩, h => by
    have e : _ = b := Option.some.inj h
    subst e
    exact ⟨_, rfl, x⟩
  | _ :: as, _ :: bs, i + 1, b, ⟨_, y⟩, h => All2.get' (as := as) (bs := bs) (i := i) y h
  | [], [], i, b, _, h => by simp at h
  | [], _ :: _, _, _, x, _ => x.elim
  | _ :: _, [], _, _, x, _ => x.elim
theorem All2.append : ∀ {as as' : List α} {bs bs' : List β}, All2 P as bs → All2 P as' bs' → All2 P (as ++ as') (bs ++ bs')
  | [], _, [], _, _, h => h
  | _ :: _, _, _ :: _, _, ⟨x, y⟩, h => ⟨x, All2.append y h⟩
  | [], _, _ :: _, _, x, _ => x.elim
  | _ :: _, _, [], _, x, _ => x.elim
theorem All2.take : ∀ (n : Nat) {as : List α} {bs : List β}, All2 P as bs → All2 P (as.take n) (bs.take n)
  | 0, _, _, _ => by rw [List.take_zero, List.take_zero]; exact trivial
  | n + 1, [], [], _ => trivial
  | n + 1, _ :: as, _ :: bs, ⟨x, y⟩ => ⟨x, All2.take n y⟩
  | _ + 1, [], _ :: _, x => x.elim
  | _ + 1, _ :: _, [], x => x.elim
theorem All2.drop : ∀ (n : Nat) {as : List α} {bs : List β}, All2 P as bs → All2 P (as.drop n) (bs.drop n)
  | 0, _, _, h => h
  | n + 1, [], [], _ => trivial
  | n + 1, _ :: as, _ :: bs, ⟨x, y⟩ => All2.drop n y
  | _ + 1, [], _ :: _, x => x.elim
  | _ + 1, _ :: _, [], x => x.elim
theorem All2.set : ∀ (i : Nat) {as : List α} {bs : List β} {a : α} {b : β}, All2 P as bs → P a b → All2 P (as.set i a) (bs.set i b)
  | _, [], [], _, _, _, _ => by simp [All2]
  | 0, _ :: _, _ :: _, _, _, ⟨x, y⟩, h => ⟨h, y⟩
  | i + 1, _ :: _, _ :: _, _, _, ⟨x, y⟩, h => ⟨x, All2.set i y h⟩
  | _, [], _ :: _, _, _, x, _ => x.elim
  | _, _ :: _, [], _, _, x, _ => x.elim
end
theorem All2.map_eq {α : Type} {f : α → V} : ∀ {vs : List V} {as : List α}, All2 (fun v a => v = f a) vs as → vs = as.map f
  | [], [], _ => rfl
  | _ :: _, _ :: _, ⟨x, y⟩ => by rw [x, All2.map_eq y]; rfl
  | [], _ :: _, x => x.elim
  | _ :: _, [], x => x.elim
theorem All2.of_map {α : Type} {f : α → V} : ∀ {as : List α}, All2 (fun v a => v = f a) (as.map f) as
  | [] => trivial
  | _ :: _ => ⟨rfl, All2.of_map⟩

/-! ### heaps -/
def isT : HO → Bool
  | .tup _ => true
  | .frz _ _ => true
  | .xd _ => true
  | _ => false
/-- what never changes -/
def tups (H : Hp) : Hp := fun a => match H a with
  | some u => if isT u then some u else none
  | none => none
theorem tups_le (H : Hp) : Same (tups H) H := fun a u h => by
  unfold tups at h
  split at h
  · rename_i w e
    split at h
    · rw [e]; exact h
    · cases h
  · cases h
theorem tups_some {H : Hp} {a : Addr} {u : HO} (h : H a = some u) (t : isT u = true) : tups H a = some u := by
  unfold tups; rw [h]; simp [t]
theorem tups_isT {H : Hp} {a : Addr} {u : HO} (h : tups H a = some u) : isT u = true := by
  unfold tups at h
  split at h
  · split at h
    · cases h; assumption
    · cases h
  · cases h
theorem tups_mono {H H' : Hp} (h : Same H H') : Same (tups H) (tups H') := fun a u e => tups_some (h _ _ (tups_le H _ _ e)) (tups_isT e)
def noHp : Hp := fun _ => none
/-- both -/
def join (F N : Hp) : Hp := fun a => match F a with
  | some u => some u
  | none => N a
theorem join_l {F N : Hp} : Same F (join F N) := fun a u h => by unfold join; rw [h]
theorem join_le {F N H : Hp} (h1 : Same F H) (h2 : Same N H) : Same (join F N) H := fun a u h => by
  unfold join at h
  split at h
  · rename_i w e; cases h; exact h1 _ _ e
  · exact h2 _ _ h
theorem join_r {F N H : Hp} (h1 : Same F H) (h2 : Same N H) : Same N (join F N) := fun a u h => by
  unfold join
  split
  · rename_i w e
    rw [← h1 _ _ e, h2 _ _ h]
  · exact h
theorem join_or {F N : Hp} {a : Addr} {u : HO} (h : join F N a = some u) : F a = some u ∨ N a = some u := by
  unfold join at h
  split at h
  · rename_i w e; cases h; exact .inl e
  · exact .inr h

/-! ### how a Lean value is held -/
class Enc (α : Type) where
  rep : Frag → Hp → V → α → Prop
  mono : ∀ {K : Frag} {H H' : Hp} {v : V} {a : α}, Same H H' → rep K H v a → rep K H' v a
/-- a value without lists and dicts -/
class Imm (α : Type) [Enc α] : Prop where
  imm : ∀ {K : Frag} {H : Hp} {v : V} {a : α}, Enc.rep K H v a → Enc.rep K (tups H) v a
/-- .. without any object -/
class Flat (α : Type) [Enc α] where
  v : α → V
  flat : ∀ {K : Frag} {H : Hp} {u : V} {a : α}, Enc.rep K H u a ↔ u = v a
instance : Enc Int := ⟨fun _ _ v i => v = .int i, fun _ h => h⟩
instance : Enc Bool := ⟨fun _ _ v i => v = .bl i, fun _ h => h⟩
instance : Enc Str := ⟨fun _ _ v i => v = .str i, fun _ h => h⟩
instance : Enc Unit := ⟨fun _ _ v _ => v = .non, fun _ h => h⟩
instance : Flat Int := ⟨.int, Iff.rfl⟩
instance : Flat Bool := ⟨.bl, Iff.rfl⟩
instance : Flat Str := ⟨.str, Iff.rfl⟩
instance : Flat Unit := ⟨fun _ => .non, Iff.rfl⟩
instance {α : Type} [Enc α] [Flat α] : Imm α := ⟨fun h => Flat.flat.mpr (Flat.flat.mp h)⟩
instance {α : Type} [Enc α] : Enc (Option α) :=
  ⟨fun K H v o => match o with
    | none => v = .non
    | some a => v ≠ .non ∧ Enc.rep K H v a,
   fun {K H H' v o} s h => by
    cases o with
    | none => exact h
    | some a => exact ⟨h.1, Enc.mono s h.2⟩⟩
instance {α : Type} [Enc α] [Imm α] : Imm (Option α) := ⟨fun {K H v o} h => by
  cases o with
  | none => exact h
  | some a => exact ⟨h.1, Imm.imm h.2⟩⟩
theorem All2.mono {α : Type} [Enc α] {K : Frag} {H H' : Hp} {vs : List V} {as : List α} (s : Same H H') (h : All2 (fun v a => Enc.rep K H v a) vs as) : All2 (fun v a => Enc.rep K H' v a) vs as :=
  All2.imp (fun _ _ x => Enc.mono s x) h
instance {α : Type} [Enc α] : Enc (List α) :=
  ⟨fun K H v as => ∃ p vs, v = .ref p ∧ H p = some (.lst vs) ∧ All2 (fun v a => Enc.rep K H v a) vs as,
   fun s ⟨p, vs, e, h, r⟩ => ⟨p, vs, e, s _ _ h, r.mono s⟩⟩
theorem seqT {K : Frag} {H H' : Hp} {a : Addr} {xs : List V} (e : Same H H') (h : SqT K H a xs) : SqT K H' a xs := by
  rcases h with (h | ⟨o, h⟩) | h
  · exact .inl (.inl (e _ _ h))
  · exact .inl (.inr ⟨o, e _ _ h⟩)
  · exact .inr h
theorem seqT_tups {K : Frag} {H : Hp} {a : Addr} {xs : List V} (h : SqT K H a xs) : SqT K (tups H) a xs := by
  rcases h with (h | ⟨o, h⟩) | h
  · exact .inl (.inl (tups_some h rfl))
  · exact .inl (.inr ⟨o, tups_some h rfl⟩)
  · exact .inr h
/-- a tuple of two -/
instance {α β : Type} [Enc α] [Enc β] : Enc (α × β) :=
  ⟨fun K H v x => ∃ p v1 v2, v = .ref p ∧ H p = some (.tup [v1, v2]) ∧ Enc.rep K H v1 x.1 ∧ Enc.rep K H v2 x.2,
   fun s ⟨p, v1, v2, e, h, r1, r2⟩ => ⟨p, v1, v2, e, s _ _ h, Enc.mono s r1, Enc.mono s r2⟩⟩
instance {α β : Type} [Enc α] [Enc β] [Imm α] [Imm β] : Imm (α × β) :=
  ⟨fun ⟨p, v1, v2, e, h, r1, r2⟩ => ⟨p, v1, v2, e, tups_some h rfl, Imm.imm r1, Imm.imm r2⟩⟩
/-- a tuple of three -/
structure T3 (α β γ : Type) where
  a : α
  b : β
  c : γ
instance {α β γ : Type} [Enc α] [Enc β] [Enc γ] : Enc (T3 α β γ) :=
  ⟨fun K H v x => ∃ p v1 v2 v3, v = .ref p ∧ H p = some (.tup [v1, v2, v3]) ∧ Enc.rep K H v1 x.a ∧ Enc.rep K H v2 x.b ∧ Enc.rep K H v3 x.c,
   fun s ⟨p, v1, v2, v3, e, h, r1, r2, r3⟩ => ⟨p, v1, v2, v3, e, s _ _ h, Enc.mono s r1, Enc.mono s r2, Enc.mono s r3⟩⟩
instance {α β γ : Type} [Enc α] [Enc β] [Enc γ] [Imm α] [Imm β] [Imm γ] : Imm (T3 α β γ) :=
  ⟨fun ⟨p, v1, v2, v3, e, h, r1, r2, r3⟩ => ⟨p, v1, v2, v3, e, tups_some h rfl, Imm.imm r1, Imm.imm r2, Imm.imm r3⟩⟩
/-- a tuple of any length, of one kind -/
structure Tup (α : Type) where
  l : List α
instance {α : Type} [Enc α] : Enc (Tup α) :=
  ⟨fun K H v as => ∃ p vs, v = .ref p ∧ SqT K H p vs ∧ All2 (fun v a => Enc.rep K H v a) vs as.l,
   fun s ⟨p, vs, e, h, r⟩ => ⟨p, vs, e, seqT s h, r.mono s⟩⟩
instance {α : Type} [Enc α] [Imm α] : Imm (Tup α) :=
  ⟨fun ⟨p, vs, e, h, r⟩ => ⟨p, vs, e, seqT_tups h, All2.imp (fun _ _ x => Imm.imm x) r⟩⟩
/-- the law's script -/
structure Scr where
  ns : List Int
instance : Enc Scr :=
  ⟨fun K H v x => ∃ p, v = .ref p ∧ SqL K H p (x.ns.map V.int), fun s ⟨p, e, h⟩ => ⟨p, e, s.seq h⟩⟩

/-! ### slots -/
structure Slot where
  P : Frag → Hp → Hp → Option V → Prop
  mono : ∀ {K : Frag} {F F' G G' : Hp} {o : Option V}, Same F F' → Same G G' → P K F G o → P K F' G' o
/-- nothing is known -/
def any : Slot := ⟨fun _ _ _ _ => True, fun _ _ h => h⟩
/-- a value that nobody changes -/
def fr {α : Type} [Enc α] (a : α) : Slot := ⟨fun K F _ o => ∃ v, o = some v ∧ Enc.rep K F v a, fun s _ ⟨v, e, r⟩ => ⟨v, e, Enc.mono s r⟩⟩
/-- a list of one's own, its items changed by nobody -/
def ow {α : Type} [Enc α] (as : List α) : Slot :=
  ⟨fun K F G o => ∃ p vs, o = some (.ref p) ∧ G p = some (.lst vs) ∧ All2 (fun v a => Enc.rep K F v a) vs as,
   fun s t ⟨p, vs, e, h, r⟩ => ⟨p, vs, e, t _ _ h, r.mono s⟩⟩
/-- .. that stands at p -/
def lk {α : Type} [Enc α] (p : Addr) (vs : List V) (as : List α) : Slot :=
  ⟨fun K F G o => o = some (.ref p) ∧ G p = some (.lst vs) ∧ All2 (fun v a => Enc.rep K F v a) vs as,
   fun s t ⟨e, h, r⟩ => ⟨e, t _ _ h, r.mono s⟩⟩
def Sl (K : Frag) (F H : Hp) : List Slot → L2.St → Prop
  | [], [] => True
  | s :: ss, o :: σ => s.P K F H o ∧ Sl K F H ss σ
  | _, _ => False
theorem Sl.mono {K : Frag} {F F' H H' : Hp} (a : Same F F') (b : Same H H') : ∀ {ss : List Slot} {σ : L2.St}, Sl K F H ss σ → Sl K F' H' ss σ
  | [], [], _ => trivial
  | s :: ss, o :: σ, ⟨x, y⟩ => ⟨s.mono a b x, Sl.mono a b y⟩
  | [], _ :: _, h => h.elim
  | _ :: _, [], h => h.elim
theorem Sl.get {K : Frag} {F H : Hp} : ∀ {ss : List Slot} {σ : L2.St} {i : Nat} {s : Slot}, Sl K F H ss σ → ss[i]? = some s → ∃ o, σ[i]? = some o ∧ s.P K F H o
  | s :: ss, o :: σ, 0, t, ⟨x, y⟩, h => by
    have e : s = t := Option.some.inj h
    subst e
    exact ⟨o, rfl, x⟩
  | s :: ss, o :: σ, i + 1, t, ⟨x, y⟩, h => Sl.get (i := i) y h
  | [], [], _, _, _, h => by simp at h
  | [], _ :: _, _, _, h, _ => h.elim
  | _ :: _, [], _, _, h, _ => h.elim

/-! ### readings -/
def payRep (p : Pay) (d : Option Addr) (H : Hp) : Prop :=
  match p with
  | .no => d = none
  | .int i => ∃ x, d = some x ∧ H x = some (.xd [("row", .int i)])
  | .strs xs => ∃ x p o, d = some x ∧ H x = some (.xd [("boards", .ref p)]) ∧ H p = some (.frz o (.lst (xs.map V.str)))
section
variable (X : Cx) (W : WX)
/-- an exception is wished for -/
def EX (σ : L2.St) (H : Hp) (x : Exn) : Prop := ∀ cls d H', X.mg x.cls = some cls → Same H H' → payRep x.pay d H' → W cls d σ H'
def wpR {α : Type} (m : Res α) (σ : L2.St) (H : Hp) (P : α → Prop) : Prop :=
  match m with
  | .ok a => P a
  | .exc x => EX X W σ H x
  | .stuck => False
/-- an expression that is looked at: ss what the slots hold -/
def rI {α : Type} [Enc α] (ss : List Slot) (m : Res α) : TE := fun σ H Q =>
  Sl X.K H H ss σ ∧ wpR X W m σ H fun a => ∀ v H', Same H H' → Enc.rep X.K H' v a → Q v H'
def XI {α : Type} [Enc α] (ss : List Slot) (e : Expr) (m : Res α) : Prop := PE X e (rI X W ss m)
/-- a test -/
def rT (ss : List Slot) (m : Res Bool) : TT := fun σ H Q =>
  Sl X.K H H ss σ ∧ wpR X W m σ H fun a => ∀ H', Same H H' → Q a H'
def XT (ss : List Slot) (e : Expr) (m : Res Bool) : Prop := PT X e (rT X W ss m)
end
/-- the frozen heap grows by new things -/
structure Ext (F H F' H' : Hp) : Prop where
  le : Same F F'
  sub : Same F' H'
  new : ∀ a u, F' a = some u → F a = some u ∨ H a = none ∨ isT u = true
/-- things of one's own -/
def Priv (G H F' H' : Hp) : Prop := ∀ a u, G a = some u → H' a = some u ∧ H a = none ∧ F' a = none ∧ isT u = false
section
variable (X : Cx) (W : WX)
/-- an expression that is kept -/
def rK {α : Type} (ss : List Slot) (m : Res α) (kd : α → Slot) : TE := fun σ H Q =>
  ∃ F, Same F H ∧ Sl X.K F H ss σ ∧ wpR X W m σ H fun a => ∀ v H' F' G', Same H H' → Ext F H F' H' → Priv G' H F' H' → (kd a).P X.K F' G' (some v) → Q v H'
def XK {α : Type} (ss : List Slot) (e : Expr) (m : Res α) (kd : α → Slot) : Prop := PE X e (rK X W ss m kd)
end
section
variable {X : Cx} {W : WX} {ss : List Slot}
theorem EX.mono {σ : L2.St} {H H' : Hp} {x : Exn} (h : EX X W σ H x) (s : Same H H') : EX X W σ H' x := fun c d H2 a b e => h c d H2 a (s.trans b) e
theorem wpR_bind {α β : Type} {m : Res α} {k : α → Res β} {σ : L2.St} {H : Hp} {P : β → Prop} (h : wpR X W (m.bind k) σ H P) : wpR X W m σ H fun a => wpR X W (k a) σ H P := by
  cases m with
  | ok a => exact h
  | exc x => exact h
  | stuck => exact h
theorem wpR_imp {α : Type} {m : Res α} {σ : L2.St} {H H' : Hp} {P P' : α → Prop} (h : wpR X W m σ H P) (s : Same H H') (f : ∀ a, P a → P' a) : wpR X W m σ H' P' := by
  cases m with
  | ok a => exact f a h
  | exc x => exact EX.mono h s
  | stuck => exact h
theorem PE_imp {e : Expr} {t t' : TE} (h : PE X e t) (f : ∀ σ H Q, t' σ H Q → t σ H Q) : PE X e t' := ⟨fun pins s σ H Q I q => h.run pins s σ H Q I (f _ _ _ q)⟩
theorem PT_imp {e : Expr} {t t' : TT} (h : PT X e t) (f : ∀ σ H Q, t' σ H Q → t σ H Q) : PT X e t' := ⟨fun pins s σ H Q I q => h.run pins s σ H Q I (f _ _ _ q)⟩
theorem PA_imp {e : List Expr} {t t' : TA} (h : PA X e t) (f : ∀ σ H Q, t' σ H Q → t σ H Q) : PA X e t' := ⟨fun pos pins s σ H Q I q => h.run pos pins s σ H Q I (f _ _ _ q)⟩
theorem PSs_imp {e : List Stmt} {t t' : TS} (h : PSs X e t) (f : ∀ D σ H, t' D σ H → t D σ H) : PSs X e t' := ⟨fun pins s σ H D I q => h.run pins s σ H D I (f D σ H q)⟩
theorem PS_imp {e : Stmt} {t t' : TS} (h : PS X e t) (f : ∀ D σ H, t' D σ H → t D σ H) : PS X e t' := ⟨fun pins s σ H D I q => h.run pins s σ H D I (f D σ H q)⟩
theorem XI.cast {α : Type} [Enc α] {e : Expr} {m m' : Res α} (h : XI X W ss e m) (q : m' = m) : XI X W ss e m' := q ▸ h
theorem XT.cast {e : Expr} {m m' : Res Bool} (h : XT X W ss e m) (q : m' = m) : XT X W ss e m' := q ▸ h
theorem XK.cast {α : Type} {e : Expr} {m m' : Res α} {kd : α → Slot} (h : XK X W ss e m kd) (q : m' = m) : XK X W ss e m' kd := q ▸ h

/-! ### names, constants -/
theorem xi_fr (i : Nat) {α : Type} [Enc α] {a : α} {x : Str} {pos : Pos} (hs : ss[i]? = some (fr a) := by rfl) (hp : PE X (.Name x pos) (tVar i) := by exact pv _) : XI X W ss (.Name x pos) (.ok a) := by
  refine PE_imp hp fun σ H Q ⟨sl, q⟩ => ?_
  obtain ⟨o, ho, v, e, r⟩ := sl.get hs
  subst e
  exact ⟨v, ho, q v H (Same.refl H) r⟩
theorem xi_ow (i : Nat) {α : Type} [Enc α] {as : List α} {x : Str} {pos : Pos} (hs : ss[i]? = some (ow as) := by rfl) (hp : PE X (.Name x pos) (tVar i) := by exact pv _) : XI X W ss (.Name x pos) (.ok as) := by
  refine PE_imp hp fun σ H Q ⟨sl, q⟩ => ?_
  obtain ⟨o, ho, p, vs, e, g, r⟩ := sl.get hs
  subst e
  exact ⟨.ref p, ho, q _ H (Same.refl H) ⟨p, vs, rfl, g, r⟩⟩
theorem xi_lk (i : Nat) {α : Type} [Enc α] {as : List α} {p : Addr} {vs : List V} {x : Str} {pos : Pos} (hs : ss[i]? = some (lk p vs as) := by rfl) (hp : PE X (.Name x pos) (tVar i) := by exact pv _) : XI X W ss (.Name x pos) (.ok as) := by
  refine PE_imp hp fun σ H Q ⟨sl, q⟩ => ?_
  obtain ⟨o, ho, e, g, r⟩ := sl.get hs
  subst e
  exact ⟨.ref p, ho, q _ H (Same.refl H) ⟨p, vs, rfl, g, r⟩⟩
theorem xi_const {α : Type} [Enc α] {e : Expr} {v : V} {a : α} (h : PE X e (tC v)) (r : ∀ K H, Enc.rep K H v a) : XI X W ss e (.ok a) :=
  PE_imp h fun σ H Q ⟨_, q⟩ => q v H (Same.refl H) (r _ _)
theorem xi_int {i : Int} {j pos} : XI X W ss (.Constant (.int i) j pos) (.ok i) := xi_const pe_int fun _ _ => rfl
theorem xi_bl {b : Bool} {j pos} : XI X W ss (.Constant (.bool b) j pos) (.ok b) := xi_const pe_bl fun _ _ => rfl
theorem xi_str {b : Str} {j pos} : XI X W ss (.Constant (.str b) j pos) (.ok b) := xi_const pe_str fun _ _ => rfl
theorem xi_non {j pos} : XI X W ss (.Constant .none j pos) (.ok ()) := xi_const pe_non fun _ _ => rfl
theorem xi_none {α : Type} [Enc α] {j pos} : XI X W ss (.Constant .none j pos) (.ok (none : Option α)) := xi_const pe_non fun _ _ => rfl

/-! ### two values -/
/-- it ends well -/
def okR {γ : Type} (m : Res γ) (P : γ → Prop) : Prop :=
  match m with
  | .ok c => P c
  | _ => False
/-- what an operation on two held values asks -/
def Op2 (X : Cx) (r : R2) {α β γ : Type} [Enc α] [Enc β] [Enc γ] (g : α → β → Res γ) : Prop :=
  ∀ (a : α) (b : β) (v w : V) (H : Hp) (Q : VK), Enc.rep X.K H v a → Enc.rep X.K H w b →
    okR (g a b) (fun c => ∀ v' H', Same H H' → Enc.rep X.K H' v' c → Q v' H') → r v w H Q
/-- never an exception -/
def NoX {α : Type} (m : Res α) : Prop := ∀ x, m ≠ .exc x
theorem r_op2 {α β γ : Type} [Enc α] [Enc β] [Enc γ] {r : R2} {g : α → β → Res γ} {m1 : Res α} {m2 : Res β} (ho : Op2 X r g) (hg : ∀ a b, NoX (g a b)) {σ : L2.St} {H : Hp} {Q : VK}
    (h : rI X W ss (m1.bind fun a => m2.bind fun b => g a b) σ H Q) : tOp r (rI X W ss m1) (rI X W ss m2) σ H Q := by
  obtain ⟨sl, q⟩ := h
  refine ⟨sl, wpR_imp (wpR_bind q) (Same.refl H) fun a q v H1 s1 r1 => ?_⟩
  refine ⟨sl.mono s1 s1, wpR_imp (wpR_bind q) s1 fun b q w H2 s2 r2 => ?_⟩
  refine ho a b v w H2 Q (Enc.mono s2 r1) r2 ?_
  unfold okR
  cases e : g a b with
  | ok c => rw [e] at q; exact fun v' H' s3 r3 => q v' H' (s1.trans (s2.trans s3)) r3
  | exc x => exact hg a b x e
  | stuck => rw [e] at q; exact q
theorem noX_ok {α : Type} {a : α} : NoX (Res.ok a) := fun _ h => nomatch h
theorem noX_guard {α : Type} {c : Bool} {a : α} : NoX (guardR c (Res.ok a)) := fun _ h => by cases c <;> cases h
theorem noX_opt {α : Type} {o : Option α} : NoX (match o with | some a => Res.ok a | none => Res.stuck) := fun _ h => by cases o <;> cases h
theorem xi_bin {α β γ : Type} [Enc α] [Enc β] [Enc γ] {op : Operator} {r : R2} {g : α → β → Res γ} {m1 : Res α} {m2 : Res β} {a b : Expr} {pos : Pos} (hr : OpR X (binaryOp op) r) (ho : Op2 X r g) (hg : ∀ a b, NoX (g a b))
    (h1 : XI X W ss a m1) (h2 : XI X W ss b m2) : XI X W ss (.BinOp a op b pos) (m1.bind fun a => m2.bind fun b => g a b) :=
  PE_imp (pe_op hr h1 h2) fun _ _ _ h => r_op2 ho hg h
theorem xi_cmp {α β γ : Type} [Enc α] [Enc β] [Enc γ] {op : CmpOp} {r : R2} {g : α → β → Res γ} {m1 : Res α} {m2 : Res β} {a b : Expr} {pos : Pos} (hr : OpR X (compareOp op) r) (ho : Op2 X r g) (hg : ∀ a b, NoX (g a b)) (hm : behindInMarks op b = false)
    (h1 : XI X W ss a m1) (h2 : XI X W ss b m2) : XI X W ss (.Compare a [op] [b] pos) (m1.bind fun a => m2.bind fun b => g a b) :=
  PE_imp (pe_cmpR hr h1 h2 hm) fun _ _ _ h => r_op2 ho hg h
theorem xt_cmp {α β : Type} [Enc α] [Enc β] {op : CmpOp} {r : R2} {g : α → β → Res Bool} {m1 : Res α} {m2 : Res β} {a b : Expr} {pos : Pos} (hr : OpR X (compareOp op) r) (ho : Op2 X r g) (hg : ∀ a b, NoX (g a b)) (hm : behindInMarks op b = false)
    (h1 : XI X W ss a m1) (h2 : XI X W ss b m2) : XT X W ss (.Compare a [op] [b] pos) (m1.bind fun a => m2.bind fun b => g a b) :=
  PT_imp (pt_cmpR hr h1 h2 hm) fun σ H Q ⟨sl, q⟩ => r_op2 ho hg ⟨sl, wpR_imp q (Same.refl H) fun _ q v H' s r => ⟨_, r, q H' s⟩⟩
/-! .. of ints -/
theorem op2_I0 {g : Int → Int → V} {γ : Type} [Enc γ] {f : Int → Int → γ} (h : ∀ i j K H, Enc.rep K H (g i j) (f i j)) : Op2 X (rI0 g) (fun i j : Int => Res.ok (f i j)) := fun a b v w H Q r1 r2 q =>
  ⟨a, b, r1, r2, q _ H (Same.refl H) (h _ _ _ _)⟩
theorem op2_I {C : Int → Int → Prop} {c : Int → Int → Bool} {g : Int → Int → V} {γ : Type} [Enc γ] {f : Int → Int → γ} (hc : ∀ i j, c i j = true → C i j) (h : ∀ i j K H, Enc.rep K H (g i j) (f i j)) :
    Op2 X (L2.rI C g) (fun i j : Int => guardR (c i j) (Res.ok (f i j))) := fun a b v w H Q r1 r2 q => by
  cases e : c a b with
  | true =>
    have q : okR (guardR (c a b) (Res.ok (f a b))) _ := q
    rw [e] at q; exact ⟨a, b, r1, r2, hc _ _ e, q _ H (Same.refl H) (h _ _ _ _)⟩
  | false =>
    have q : okR (guardR (c a b) (Res.ok (f a b))) _ := q
    rw [e] at q; exact q.elim
end
end G

namespace G
open PySem PySem.Spec PyProof.Rows L2
section
variable {X : Cx} {W : WX} {ss : List Slot}
/-! ### what is kept -/
theorem priv_no {H F' H' : Hp} : Priv noHp H F' H' := fun _ _ h => nomatch h
theorem ext_imm {F H H' : Hp} (a : Same F H) (s : Same H H') : Ext F H (join F (tups H')) H' :=
  ⟨join_l, join_le (a.trans s) (tups_le H'), fun a u h => (join_or h).elim .inl fun z => .inr (.inr (tups_isT z))⟩
theorem xk_imm {α : Type} [Enc α] [Imm α] {e : Expr} {m : Res α} (h : XI X W ss e m) : XK X W ss e m fr := by
  refine PE_imp h fun σ H Q ⟨F, a, sl, q⟩ => ⟨sl.mono a (Same.refl H), wpR_imp q (Same.refl H) fun x q v H' s r => ?_⟩
  exact q v H' _ noHp s (ext_imm a s) priv_no ⟨v, rfl, Enc.mono (join_r (a.trans s) (tups_le H')) (Imm.imm r)⟩
theorem xk_fr (i : Nat) {α : Type} [Enc α] {a : α} {x : Str} {pos : Pos} (hs : ss[i]? = some (fr a) := by rfl) (hp : PE X (.Name x pos) (tVar i) := by exact pv _) : XK X W ss (.Name x pos) (.ok a) fr := by
  refine PE_imp hp fun σ H Q ⟨F, a, sl, q⟩ => ?_
  obtain ⟨o, ho, v, e, r⟩ := sl.get hs
  subst e
  exact ⟨v, ho, q v H F noHp (Same.refl H) ⟨Same.refl F, a, fun _ _ h => .inl h⟩ priv_no ⟨v, rfl, r⟩⟩
/-- a list of one's own is let go -/
theorem xk_free {α : Type} [Enc α] {e : Expr} {m : Res (List α)} (h : XK X W ss e m ow) : XK X W ss e m fr := by
  refine PE_imp h fun σ H Q ⟨F, a, sl, q⟩ => ⟨F, a, sl, wpR_imp q (Same.refl H) fun x q v H' F' G' s ex pr k => ?_⟩
  obtain ⟨p, vs, e, g, r⟩ := k
  have gH : Same G' H' := fun a u z => (pr a u z).1
  refine q v H' (join F' G') noHp s ⟨ex.le.trans join_l, join_le ex.sub gH, fun a u z => (join_or z).elim (ex.new a u) fun z => .inr (.inl (pr a u z).2.1)⟩ priv_no ?_
  exact ⟨v, rfl, p, vs, Option.some.inj e, join_r ex.sub gH _ _ g, r.mono join_l⟩
/-- how a kept value is looked at -/
class View {α : Type} [Enc α] (kd : α → Slot) : Prop where
  view : ∀ {K : Frag} {H : Hp} {v : V} {a : α}, (kd a).P K H H (some v) → Enc.rep K H v a
instance {α : Type} [Enc α] : View (fr (α := α)) := ⟨fun ⟨v, e, r⟩ => by cases e; exact r⟩
instance {α : Type} [Enc α] : View (ow (α := α)) := ⟨fun ⟨p, vs, e, g, r⟩ => by cases e; exact ⟨p, vs, rfl, g, r⟩⟩
theorem xi_of {α : Type} [Enc α] {kd : α → Slot} [View kd] {e : Expr} {m : Res α} (h : XK X W ss e m kd) : XI X W ss e m := by
  refine PE_imp h fun σ H Q ⟨sl, q⟩ => ⟨H, Same.refl H, sl, wpR_imp q (Same.refl H) fun x q v H' F' G' s ex pr k => ?_⟩
  exact q v H' s (View.view ((kd x).mono ex.sub (fun a u z => (pr a u z).1) k))

/-! ### the state between two statements -/
def Dj (G G' : Hp) : Prop := ∀ a, G a = none ∨ G' a = none
/-- slots with their own heaps -/
def All3 (K : Frag) (F : Hp) : List Slot → List Hp → L2.St → Prop
  | [], [], [] => True
  | s :: ss, G :: Gs, o :: σ => s.P K F G o ∧ All3 K F ss Gs σ
  | _, _, _ => False
structure Asn (K : Frag) (B F0 : Hp) (ss : List Slot) (σ : L2.St) (H : Hp) (F : Hp) (Gs : List Hp) : Prop where
  ext : Ext F0 B F H
  base : Same B H
  all : All3 K F ss Gs σ
  priv : ∀ G ∈ Gs, Priv G B F H
  dj : Gs.Pairwise Dj
end
theorem Ext.trans {F H F' H' F2 H2 : Hp} (a : Ext F H F' H') (s : Same H H') (b : Ext F' H' F2 H2) : Ext F H F2 H2 :=
  ⟨a.le.trans b.le, b.sub, fun x u h => (b.new x u h).elim (a.new x u) fun z => z.elim (fun z => .inr (.inl (Same.free s z))) fun z => .inr (.inr z)⟩
theorem All3.mono {K : Frag} {F F' : Hp} (a : Same F F') : ∀ {ss : List Slot} {Gs : List Hp} {σ : L2.St}, All3 K F ss Gs σ → All3 K F' ss Gs σ
  | [], [], [], _ => trivial
  | s :: ss, _ :: Gs, o :: σ, ⟨x, y⟩ => ⟨s.mono a (Same.refl _) x, All3.mono a y⟩
  | [], _ :: _, _, h => h.elim
  | [], [], _ :: _, h => h.elim
  | _ :: _, [], _, h => h.elim
  | _ :: _, _ :: _, [], h => h.elim
theorem All3.sl {K : Frag} {F H : Hp} : ∀ {ss : List Slot} {Gs : List Hp} {σ : L2.St}, All3 K F ss Gs σ → (∀ G ∈ Gs, Same G H) → Sl K F H ss σ
  | [], [], [], _, _ => trivial
  | s :: ss, _ :: Gs, o :: σ, ⟨x, y⟩, h => ⟨s.mono (Same.refl _) (h _ List.mem_cons_self) x, All3.sl y fun G m => h G (List.mem_cons_of_mem _ m)⟩
  | [], _ :: _, _, h, _ => h.elim
  | [], [], _ :: _, h, _ => h.elim
  | _ :: _, [], _, h, _ => h.elim
  | _ :: _, _ :: _, [], h, _ => h.elim
theorem All3.set {K : Frag} {F G : Hp} {s : Slot} {o : Option V} (x : s.P K F G o) : ∀ (i : Nat) {ss : List Slot} {Gs : List Hp} {σ : L2.St}, All3 K F ss Gs σ → All3 K F (ss.set i s) (Gs.set i G) (σ.set i o)
  | _, [], [], [], h => h
  | 0, _ :: _, _ :: _, _ :: _, ⟨_, y⟩ => ⟨x, y⟩
  | i + 1, _ :: _, _ :: _, _ :: _, ⟨z, y⟩ => ⟨z, All3.set x i y⟩
  | _, [], _ :: _, _, h => h.elim
  | _, [], [], _ :: _, h => h.elim
  | _, _ :: _, [], _, h => h.elim
  | _, _ :: _, _ :: _, [], h => h.elim
theorem All3.get {K : Frag} {F : Hp} : ∀ {ss : List Slot} {Gs : List Hp} {σ : L2.St} {i : Nat} {s : Slot}, All3 K F ss Gs σ → ss[i]? = some s → ∃ G o, Gs[i]? = some G ∧ σ[i]? = some o ∧ s.P K F G o
  | s :: ss, G :: Gs, o :: σ, 0, t, ⟨x, y⟩, h => by
    have e : s = t := Option.some.inj h
    subst e
    exact ⟨G, o, rfl, rfl, x⟩
  | s :: ss, G :: Gs, o :: σ, i + 1, t, ⟨x, y⟩, h => All3.get (i := i) y h
  | [], [], [], _, _, _, h => by simp at h
  | [], _ :: _, _, _, _, h, _ => h.elim
  | [], [], _ :: _, _, _, h, _ => h.elim
  | _ :: _, [], _, _, _, h, _ => h.elim
  | _ :: _, _ :: _, [], _, _, h, _ => h.elim
theorem pw_set {G : Hp} : ∀ {Gs : List Hp} (i : Nat), Gs.Pairwise Dj → (∀ G' ∈ Gs, Dj G G') → (Gs.set i G).Pairwise Dj
  | [], _, _, _ => List.Pairwise.nil
  | A :: Gs, 0, h, d => List.pairwise_cons.mpr ⟨fun G' m => d G' (List.mem_cons_of_mem _ m), (List.pairwise_cons.mp h).2⟩
  | A :: Gs, i + 1, h, d => by
    obtain ⟨h1, h2⟩ := List.pairwise_cons.mp h
    refine List.pairwise_cons.mpr ⟨fun G' m => ?_, pw_set i h2 fun G' m => d G' (List.mem_cons_of_mem _ m)⟩
    rcases List.mem_or_eq_of_mem_set m with z | z
    · exact h1 G' z
    · subst z
      exact fun a => (d A List.mem_cons_self a).symm
theorem Asn.sub {K : Frag} {B F0 H F : Hp} {ss : List Slot} {σ : L2.St} {Gs : List Hp} (A : Asn K B F0 ss σ H F Gs) : ∀ G ∈ Gs, Same G H := fun G m a u h => (A.priv G m a u h).1
theorem Asn.sl {K : Frag} {B F0 H F : Hp} {ss : List Slot} {σ : L2.St} {Gs : List Hp} (A : Asn K B F0 ss σ H F Gs) : Sl K F H ss σ := A.all.sl A.sub
/-- the heap grows -/
theorem Asn.grow {K : Frag} {B F0 H F H' F' : Hp} {ss : List Slot} {σ : L2.St} {Gs : List Hp} (A : Asn K B F0 ss σ H F Gs) (s : Same H H') (ex : Ext F H F' H') : Asn K B F0 ss σ H' F' Gs := by
  refine ⟨⟨A.ext.le.trans ex.le, ex.sub, fun a u h => ?_⟩, A.base.trans s, A.all.mono ex.le, fun G m a u h => ?_, A.dj⟩
  · rcases ex.new a u h with z | z | z
    · exact A.ext.new a u z
    · exact .inr (.inl (Same.free A.base z))
    · exact .inr (.inr z)
  · obtain ⟨h1, h2, h3, h4⟩ := A.priv G m a u h
    refine ⟨s _ _ h1, h2, ?_, h4⟩
    cases e : F' a with
    | none => rfl
    | some w =>
      rcases ex.new a w e with z | z | z
      · rw [h3] at z; cases z
      · rw [h1] at z; cases z
      · have q := ex.sub _ _ e
        rw [s _ _ h1] at q
        cases q
        rw [h4] at z; cases z
/-- a value is stored -/
theorem Asn.set {K : Frag} {B F0 H F H' F' G : Hp} {ss : List Slot} {σ : L2.St} {Gs : List Hp} {s : Slot} {o : Option V} (A : Asn K B F0 ss σ H F Gs) (sa : Same H H') (ex : Ext F H F' H') (pr : Priv G H F' H') (x : s.P K F' G o) (i : Nat) :
    Asn K B F0 (ss.set i s) (σ.set i o) H' F' (Gs.set i G) := by
  have A' := A.grow sa ex
  refine ⟨A'.ext, A'.base, A'.all.set x i, fun G' m a u h => ?_, pw_set i A'.dj fun G' m a => ?_⟩
  · rcases List.mem_or_eq_of_mem_set m with z | z
    · exact A'.priv G' z a u h
    · subst z
      obtain ⟨h1, h2, h3, h4⟩ := pr a u h
      exact ⟨h1, Same.free A.base h2, h3, h4⟩
  · cases e : G a with
    | none => exact .inl rfl
    | some u =>
      refine .inr ?_
      cases e2 : G' a with
      | none => rfl
      | some w =>
        have z := A.sub G' m _ _ e2
        rw [(pr a u e).2.1] at z
        cases z
/-- weaker slots -/
theorem All3.any {K : Frag} {F : Hp} (i : Nat) : ∀ {ss : List Slot} {Gs : List Hp} {σ : L2.St}, All3 K F ss Gs σ → All3 K F (ss.set i any) Gs σ := by
  intro ss Gs σ h
  induction ss generalizing Gs σ i with
  | nil => exact h
  | cons s ss ih =>
    cases Gs with
    | nil => exact h.elim
    | cons G Gs =>
      cases σ with
      | nil => exact h.elim
      | cons o σ =>
        cases i with
        | zero => exact ⟨trivial, h.2⟩
        | succ i => exact ⟨h.1, ih i h.2⟩
end G

namespace G
open PySem PySem.Spec PyProof.Rows L2
section
variable (X : Cx) (W : WX)
/-- an exception that leaves a statement -/
def EXS (B : Hp) (x : Exn) : Prop := ∀ σ cls d H', X.mg x.cls = some cls → Same B H' → payRep x.pay d H' → W cls d σ H'
def wpS {α : Type} (m : Res α) (B : Hp) (P : α → Prop) : Prop :=
  match m with
  | .ok a => P a
  | .exc x => EXS X W B x
  | .stuck => False
/-- a state that ss tells of, and what is wanted behind -/
def rdX (ss : List Slot) (w : Ends → Hp → Hp → Prop) : TS := fun D σ H => ∃ B F0 F Gs, Asn X.K B F0 ss σ H F Gs ∧ w D B F0
/-- a value is handed back -/
def RtOk {R : Type} (kr : R → Slot) (r : R) (D : Ends) (B F0 : Hp) : Prop := ∀ v H' F' G', Same B H' → Ext F0 B F' H' → Priv G' B F' H' → (kr r).P X.K F' G' (some v) → D.rt v H'
def NxOk (ss : List Slot) (D : Ends) (B F0 : Hp) : Prop := ∀ σ' H' F' Gs', Asn X.K B F0 ss σ' H' F' Gs' → D.nx σ' H'
def BkOk (ss : List Slot) (D : Ends) (B F0 : Hp) : Prop := ∀ σ' H' F' Gs', Asn X.K B F0 ss σ' H' F' Gs' → D.bk σ' H'
def CtOk (ss : List Slot) (D : Ends) (B F0 : Hp) : Prop := ∀ σ' H' F' Gs', Asn X.K B F0 ss σ' H' F' Gs' → D.ct σ' H'
/-- the end of the body: wT -/
def wT {R : Type} (e : Bool) (M : Res R) (kr : R → Slot) : Ends → Hp → Hp → Prop := fun D B F0 => (e = true → ∀ σ H, D.rt .non H → D.nx σ H) ∧ wpS X W M B fun r => RtOk X kr r D B F0
/-- it goes on: wN -/
def wN {S : Type} (M : Res S) (post : S → List Slot) : Ends → Hp → Hp → Prop := fun D B F0 => wpS X W M B fun s => NxOk X (post s) D B F0
end
inductive Out (S L R : Type) where
  | nx (s : S) | rt (r : R) | bk (l : L) | ct (l : L)
section
variable (X : Cx) (W : WX)
/-- .. or leaves: wB -/
def wB {S L R : Type} (M : Res (Out S L R)) (post : S → List Slot) (pl : L → List Slot) (kr : R → Slot) : Ends → Hp → Hp → Prop := fun D B F0 => wpS X W M B fun o =>
  match o with
  | .nx s => NxOk X (post s) D B F0
  | .rt r => RtOk X kr r D B F0
  | .bk l => BkOk X (pl l) D B F0
  | .ct l => CtOk X (pl l) D B F0
def ST {R : Type} (e : Bool) (ss : List Slot) (st : List Stmt) (M : Res R) (kr : R → Slot) : Prop := PSs X st (rdX X ss (wT X W e M kr))
def SN {S : Type} (ss : List Slot) (st : List Stmt) (M : Res S) (post : S → List Slot) : Prop := PSs X st (rdX X ss (wN X W M post))
def SB {S L R : Type} (ss : List Slot) (st : List Stmt) (M : Res (Out S L R)) (post : S → List Slot) (pl : L → List Slot) (kr : R → Slot) : Prop := PSs X st (rdX X ss (wB X W M post pl kr))
def S1 {S : Type} (ss : List Slot) (st : Stmt) (M : Res S) (post : S → List Slot) : Prop := PS X st (rdX X ss (wN X W M post))
end
section
variable {X : Cx} {W : WX} {ss : List Slot} {st : Stmt} {rest : List Stmt}
theorem EXS.ex {B H : Hp} {x : Exn} {σ : L2.St} (h : EXS X W B x) (s : Same B H) : EX X W σ H x := fun cls d H' a b e => h σ cls d H' a (s.trans b) e
theorem wpS_bind {α β : Type} {m : Res α} {k : α → Res β} {B : Hp} {P : β → Prop} (h : wpS X W (m.bind k) B P) : wpS X W m B fun a => wpS X W (k a) B P := by
  cases m with
  | ok a => exact h
  | exc x => exact h
  | stuck => exact h
theorem wpS_imp {α : Type} {m : Res α} {B : Hp} {P P' : α → Prop} (h : wpS X W m B P) (f : ∀ a, P a → P' a) : wpS X W m B P' := by
  cases m with
  | ok a => exact f a h
  | exc x => exact h
  | stuck => exact h
theorem wpS_R {α : Type} {m : Res α} {B H : Hp} {P P' : α → Prop} {σ : L2.St} (h : wpS X W m B P) (s : Same B H) (f : ∀ a, P a → P' a) : wpR X W m σ H P' := by
  cases m with
  | ok a => exact f a h
  | exc x => exact EXS.ex h s
  | stuck => exact h
/-- what a statement leaves is what the rest begins with -/
theorem seqX {α : Type} {m : Res α} {ss' : α → List Slot} {w : α → Ends → Hp → Hp → Prop} {w0 : Ends → Hp → Hp → Prop} (h1 : S1 X W ss st m ss') (h2 : ∀ a, PSs X rest (rdX X (ss' a) (w a)))
    (hw : ∀ D B F0, w0 D B F0 → wpS X W m B fun a => w a D B F0) : PSs X (st :: rest) (rdX X ss w0) := by
  have h2' : PSs X rest fun D σ H => ∃ a, rdX X (ss' a) (w a) D σ H := ⟨fun pins s σ H D I ⟨a, q⟩ => (h2 a).run pins s σ H D I q⟩
  refine PSs_imp (pss_cons h1 h2') fun D σ H ⟨B, F0, F, Gs, A, q⟩ => ⟨B, F0, F, Gs, A, ?_⟩
  exact wpS_imp (hw D B F0 q) fun a q σ' H' F' Gs' A' => ⟨a, B, F0, F', Gs', A', q⟩
theorem st_seq {α R : Type} {e : Bool} {m : Res α} {ss' : α → List Slot} {k : α → Res R} {kr : R → Slot} (h1 : S1 X W ss st m ss') (h2 : ∀ a, ST X W e (ss' a) rest (k a) kr) : ST X W e ss (st :: rest) (m.bind k) kr :=
  seqX h1 h2 fun D B F0 ⟨a, q⟩ => wpS_imp (wpS_bind q) fun _ z => ⟨a, z⟩
theorem sn_seq {α S : Type} {m : Res α} {ss' : α → List Slot} {k : α → Res S} {post : S → List Slot} (h1 : S1 X W ss st m ss') (h2 : ∀ a, SN X W (ss' a) rest (k a) post) : SN X W ss (st :: rest) (m.bind k) post :=
  seqX h1 h2 fun D B F0 q => wpS_bind q
theorem sb_seq {α S L R : Type} {m : Res α} {ss' : α → List Slot} {k : α → Res (Out S L R)} {post : S → List Slot} {pl : L → List Slot} {kr : R → Slot} (h1 : S1 X W ss st m ss') (h2 : ∀ a, SB X W (ss' a) rest (k a) post pl kr) :
    SB X W ss (st :: rest) (m.bind k) post pl kr := seqX h1 h2 fun D B F0 q => wpS_bind q
theorem ST.cast {R : Type} {e : Bool} {sts : List Stmt} {M M' : Res R} {kr : R → Slot} (h : ST X W e ss sts M kr) (q : M' = M) : ST X W e ss sts M' kr := q ▸ h
theorem SN.cast {S : Type} {sts : List Stmt} {M M' : Res S} {post : S → List Slot} (h : SN X W ss sts M post) (q : M' = M) : SN X W ss sts M' post := q ▸ h
/-- weaker slots -/
def Wk : List Slot → List Slot → Prop
  | [], [] => True
  | s :: ss, t :: ts => (s = t ∨ t = any) ∧ Wk ss ts
  | _, _ => False
theorem Wk.refl : ∀ ss : List Slot, Wk ss ss
  | [] => trivial
  | _ :: ss => ⟨.inl rfl, Wk.refl ss⟩
theorem All3.wk {K : Frag} {F : Hp} : ∀ {ss ts : List Slot} {Gs : List Hp} {σ : L2.St}, All3 K F ss Gs σ → Wk ss ts → All3 K F ts Gs σ
  | [], [], _, _, h, _ => h
  | s :: ss, t :: ts, G :: Gs, o :: σ, ⟨x, y⟩, ⟨a, b⟩ => ⟨by
      rcases a with rfl | rfl
      · exact x
      · exact trivial, All3.wk y b⟩
  | [], _ :: _, _, _, _, w => w.elim
  | _ :: _, [], _, _, _, w => w.elim
  | _ :: _, _ :: _, [], _, h, _ => h.elim
  | _ :: _, _ :: _, _ :: _, [], h, _ => h.elim
theorem Asn.wk {K : Frag} {B F0 H F : Hp} {ss ts : List Slot} {σ : L2.St} {Gs : List Hp} (A : Asn K B F0 ss σ H F Gs) (w : Wk ss ts) : Asn K B F0 ts σ H F Gs := ⟨A.ext, A.base, A.all.wk w, A.priv, A.dj⟩
theorem sn_nil {S : Type} {s : S} {post : S → List Slot} (w : Wk ss (post s) := by exact Wk.refl _) : SN X W ss [] (.ok s) post :=
  PSs_imp pss_nil fun D σ H ⟨B, F0, F, Gs, A, q⟩ => q σ H F Gs (A.wk w)
theorem sb_nil {S L R : Type} {s : S} {post : S → List Slot} {pl : L → List Slot} {kr : R → Slot} (w : Wk ss (post s) := by exact Wk.refl _) : SB X W ss [] (.ok (.nx s) : Res (Out S L R)) post pl kr :=
  PSs_imp pss_nil fun D σ H ⟨B, F0, F, Gs, A, q⟩ => q σ H F Gs (A.wk w)
theorem st_nil : ST X W true ss [] (.ok ()) (fr (α := Unit)) :=
  PSs_imp pss_nil fun D σ H ⟨B, F0, F, Gs, A, hD, q⟩ => hD rfl σ H (q .non H F noHp A.base A.ext priv_no ⟨_, rfl, rfl⟩)
/-- return e -/
theorem rt_core {R : Type} {m : Res R} {kr : R → Slot} {e : Expr} {pos : Pos} (h : XK X W ss e m kr) : PS X (.Return (some e) pos) (rdX X ss fun D B F0 => wpS X W m B fun r => RtOk X kr r D B F0) := by
  refine PS_imp (ps_ret h) fun D σ H ⟨B, F0, F, Gs, A, q⟩ => ⟨F, A.ext.sub, A.sl, wpS_R q A.base fun r q v H' F' G' s ex pr k => ?_⟩
  have A' := A.grow s ex
  exact q v H' F' G' A'.base A'.ext (fun a u z => ⟨(pr a u z).1, Same.free A.base (pr a u z).2.1, (pr a u z).2.2⟩) k
theorem rest_free {t : TS} (h1 : PS X st t) (hn : ∀ D D' σ H, D'.rt = D.rt → D'.bk = D.bk → D'.ct = D.ct → t D σ H → t D' σ H) : PSs X (st :: rest) t :=
  PSs_imp (pss_cons h1 (pss_never (sts := rest))) fun D σ H q => hn D { D with nx := tNever D } σ H rfl rfl rfl q
theorem st_ret {R : Type} {ee : Bool} {m : Res R} {kr : R → Slot} {e : Expr} {pos : Pos} (h : XK X W ss e m kr) : ST X W ee ss (.Return (some e) pos :: rest) m kr :=
  PSs_imp (rest_free (rt_core h) fun D D' σ H e1 _ _ ⟨B, F0, F, Gs, A, q⟩ => ⟨B, F0, F, Gs, A, wpS_imp q fun r q v H' F' G' a b c d => by rw [e1]; exact q v H' F' G' a b c d⟩)
    fun D σ H ⟨B, F0, F, Gs, A, _, q⟩ => ⟨B, F0, F, Gs, A, q⟩
theorem sb_ret {S L R : Type} {m : Res R} {post : S → List Slot} {pl : L → List Slot} {kr : R → Slot} {e : Expr} {pos : Pos} (h : XK X W ss e m kr) : SB X W ss (.Return (some e) pos :: rest) (m.bind fun r => .ok (.rt r) : Res (Out S L R)) post pl kr :=
  PSs_imp (rest_free (rt_core h) fun D D' σ H e1 _ _ ⟨B, F0, F, Gs, A, q⟩ => ⟨B, F0, F, Gs, A, wpS_imp q fun r q v H' F' G' a b c d => by rw [e1]; exact q v H' F' G' a b c d⟩)
    fun D σ H ⟨B, F0, F, Gs, A, q⟩ => ⟨B, F0, F, Gs, A, wpS_imp (wpS_bind q) fun _ z => z⟩
theorem sb_brk {S L R : Type} {l : L} {post : S → List Slot} {pl : L → List Slot} {kr : R → Slot} {pos : Pos} (w : Wk ss (pl l) := by exact Wk.refl _) : SB X W ss (.Break pos :: rest) (.ok (.bk l) : Res (Out S L R)) post pl kr :=
  PSs_imp (rest_free (t := fun D σ H => D.bk σ H) ps_break fun D D' σ H _ e _ q => by rw [e]; exact q) fun D σ H ⟨B, F0, F, Gs, A, q⟩ => q σ H F Gs (A.wk w)
theorem sb_cnt {S L R : Type} {l : L} {post : S → List Slot} {pl : L → List Slot} {kr : R → Slot} {pos : Pos} (w : Wk ss (pl l) := by exact Wk.refl _) : SB X W ss (.Continue pos :: rest) (.ok (.ct l) : Res (Out S L R)) post pl kr :=
  PSs_imp (rest_free (t := fun D σ H => D.ct σ H) ps_continue fun D D' σ H _ _ e q => by rw [e]; exact q) fun D σ H ⟨B, F0, F, Gs, A, q⟩ => q σ H F Gs (A.wk w)
/-! ### if -/
/-- a test in front of two ways -/
theorem ifX {c : Expr} {mc : Res Bool} {a b : List Stmt} {pos : Pos} {w : Bool → Ends → Hp → Hp → Prop} {w0 : Ends → Hp → Hp → Prop} (hc : XT X W ss c mc) (ha : PSs X a (rdX X ss (w true))) (hb : PSs X b (rdX X ss (w false)))
    (hw : ∀ D B F0, w0 D B F0 → wpS X W mc B fun t => w t D B F0) : PS X (.If c a b pos) (rdX X ss w0) := by
  refine PS_imp (ps_if hc ha hb) fun D σ H ⟨B, F0, F, Gs, A, q⟩ => ⟨A.sl.mono A.ext.sub (Same.refl H), wpS_R (hw D B F0 q) A.base fun t q H' s => ?_⟩
  have A' := A.grow s ⟨Same.refl F, A.ext.sub.trans s, fun _ _ h => .inl h⟩
  cases t with
  | true => exact ⟨B, F0, F, Gs, A', q⟩
  | false => exact ⟨B, F0, F, Gs, A', q⟩
theorem s1_if {S : Type} {c : Expr} {mc : Res Bool} {a b : List Stmt} {pos : Pos} {M1 M2 : Res S} {post : S → List Slot} (hc : XT X W ss c mc) (ha : SN X W ss a M1 post) (hb : SN X W ss b M2 post) :
    S1 X W ss (.If c a b pos) (mc.bind fun t => if t then M1 else M2) post :=
  ifX (w := fun t => wN X W (if t then M1 else M2) post) hc ha hb fun D B F0 q => wpS_bind q
theorem st_if {R : Type} {e : Bool} {c : Expr} {mc : Res Bool} {a b : List Stmt} {pos : Pos} {M1 M2 : Res R} {kr : R → Slot} (hc : XT X W ss c mc) (ha : ST X W e ss a M1 kr) (hb : ST X W e ss b M2 kr) :
    ST X W e ss [.If c a b pos] (mc.bind fun t => if t then M1 else M2) kr :=
  pss_one (ifX (w := fun t => wT X W e (if t then M1 else M2) kr) hc ha hb fun D B F0 ⟨z, q⟩ => wpS_imp (wpS_bind q) fun _ y => ⟨z, y⟩)
/-- one way leaves, the other goes on behind -/
theorem st_guard {R : Type} {e : Bool} {c : Expr} {mc : Res Bool} {a : List Stmt} {pos : Pos} {M1 M2 : Res R} {kr : R → Slot} (hc : XT X W ss c mc) (ha : ST X W false ss a M1 kr) (hr : ST X W e ss rest M2 kr) :
    ST X W e ss (.If c a [] pos :: rest) (mc.bind fun t => if t then M1 else M2) kr := by
  refine PSs_imp (pss_cons (ps_if hc ha pss_nil) hr) fun D σ H ⟨B, F0, F, Gs, A, z, q⟩ => ⟨A.sl.mono A.ext.sub (Same.refl H), wpS_R (wpS_bind q) A.base fun t q H' s => ?_⟩
  have A' := A.grow s ⟨Same.refl F, A.ext.sub.trans s, fun _ _ h => .inl h⟩
  cases t with
  | true => exact ⟨B, F0, F, Gs, A', (fun h => nomatch h), q⟩
  | false => exact ⟨B, F0, F, Gs, A', z, q⟩
theorem sb_if {S L R : Type} {c : Expr} {mc : Res Bool} {a b : List Stmt} {pos : Pos} {M1 M2 : Res (Out S L R)} {post : S → List Slot} {pl : L → List Slot} {kr : R → Slot} (hc : XT X W ss c mc) (ha : SB X W ss a M1 post pl kr) (hb : SB X W ss b M2 post pl kr) :
    SB X W ss [.If c a b pos] (mc.bind fun t => if t then M1 else M2) post pl kr :=
  pss_one (ifX (w := fun t => wB X W (if t then M1 else M2) post pl kr) hc ha hb fun D B F0 q => wpS_bind q)
/-- a block that may leave, then the rest -/
def Res.next {S S' L R : Type} (M : Res (Out S L R)) (k : S → Res (Out S' L R)) : Res (Out S' L R) := M.bind fun o =>
  match o with
  | .nx s => k s
  | .rt r => .ok (.rt r)
  | .bk l => .ok (.bk l)
  | .ct l => .ok (.ct l)
theorem sb_then {S S' L R : Type} {M1 : Res (Out S L R)} {k : S → Res (Out S' L R)} {mid : S → List Slot} {post : S' → List Slot} {pl : L → List Slot} {kr : R → Slot} (h1 : SB X W ss [st] M1 mid pl kr) (h2 : ∀ s, SB X W (mid s) rest (k s) post pl kr)
    (hp : PS X st (rdX X ss (wB X W M1 mid pl kr))) : SB X W ss (st :: rest) (M1.next k) post pl kr := by
  have h2' : PSs X rest fun D σ H => ∃ s, rdX X (mid s) (wB X W (k s) post pl kr) D σ H := ⟨fun pins s σ H D I ⟨a, q⟩ => (h2 a).run pins s σ H D I q⟩
  refine PSs_imp (pss_cons hp h2') fun D σ H ⟨B, F0, F, Gs, A, q⟩ => ⟨B, F0, F, Gs, A, wpS_imp (wpS_bind q) fun o q => ?_⟩
  cases o with
  | nx s => exact fun σ' H' F' Gs' A' => ⟨s, B, F0, F', Gs', A', q⟩
  | rt r => exact q
  | bk l => exact q
  | ct l => exact q
theorem sb_ifthen {S S' L R : Type} {c : Expr} {mc : Res Bool} {a b : List Stmt} {pos : Pos} {M1 M2 : Res (Out S L R)} {k : S → Res (Out S' L R)} {mid : S → List Slot} {post : S' → List Slot} {pl : L → List Slot} {kr : R → Slot} (hc : XT X W ss c mc)
    (ha : SB X W ss a M1 mid pl kr) (hb : SB X W ss b M2 mid pl kr) (hr : ∀ s, SB X W (mid s) rest (k s) post pl kr) : SB X W ss (.If c a b pos :: rest) ((mc.bind fun t => if t then M1 else M2).next k) post pl kr :=
  sb_then (sb_if hc ha hb) hr (ifX (w := fun t => wB X W (if t then M1 else M2) mid pl kr) hc ha hb fun D B F0 q => wpS_bind q)
/-! ### stores -/
theorem s1_set (i : Nat) {α : Type} {kd : α → Slot} {m : Res α} {x : Str} {e : Expr} {pos pos' : Pos} (h : XK X W ss e m kd) (hN : X.N.Nodup) (hi : X.N[i]? = some x := by rfl) (hx : Loc X.env.scope x := by first | exact Or.inl rfl | exact Or.inr rfl)
    (hs : swapsWith e (some (.Name x pos')) pos.line X.env = pure false := by rfl) (hf : X.fn x = true ∨ X.env.scope.names.lookup x = some .local := by first | exact .inl rfl | exact .inr rfl) : S1 X W ss (.Assign [.Name x pos'] e pos) m (fun a => ss.set i (kd a)) := by
  refine PS_imp (ps_set hN hi hx h hs hf) fun D σ H ⟨B, F0, F, Gs, A, q⟩ => ⟨F, A.ext.sub, A.sl, wpS_R q A.base fun a q v H' F' G' s ex pr k => ?_⟩
  exact q _ H' F' _ (A.set s ex pr k i)
end
end G

namespace G
open PySem PySem.Spec PyProof.Rows L2
/-! ### arguments -/
class EncA (A : Type) where
  rep : Frag → Hp → List V → A → Prop
  mono : ∀ {K : Frag} {H H' : Hp} {vs : List V} {a : A}, Same H H' → rep K H vs a → rep K H' vs a
/-- parameters, with their slots -/
class EncP (A : Type) extends EncA A where
  len : Nat
  slots : A → List Slot
  start : ∀ {K : Frag} {H : Hp} {vs : List V} {a : A}, rep K H vs a → vs.length = len ∧ All3 K H (slots a) (List.replicate len noHp) (vs.map some)
instance : EncP Unit where
  rep := fun _ _ vs _ => vs = []
  mono := fun _ h => h
  len := 0
  slots := fun _ => []
  start := fun {K H vs a} h => by
    have h : vs = [] := h
    subst h
    exact ⟨rfl, trivial⟩
instance {α A : Type} [Enc α] [EncP A] : EncP (α × A) where
  rep := fun K H vs x => ∃ v r, vs = v :: r ∧ Enc.rep K H v x.1 ∧ EncA.rep K H r x.2
  mono := fun s ⟨v, r, e, h1, h2⟩ => ⟨v, r, e, Enc.mono s h1, EncA.mono s h2⟩
  len := EncP.len A + 1
  slots := fun x => fr x.1 :: EncP.slots x.2
  start := fun {K H vs x} ⟨v, r, e, h1, h2⟩ => by
    subst e
    obtain ⟨l, q⟩ := EncP.start h2
    exact ⟨by rw [List.length_cons, l], ⟨v, rfl, h1⟩, q⟩
/-- items of one kind -/
structure Hom (n : Nat) (α : Type) where
  l : List α
instance {n : Nat} {α : Type} [Enc α] : EncA (Hom n α) := ⟨fun K H vs x => x.l.length = n ∧ All2 (fun v a => Enc.rep K H v a) vs x.l, fun s h => ⟨h.1, h.2.mono s⟩⟩
section
variable (X : Cx) (W : WX)
/-- arguments that are looked at -/
def rA {A : Type} [EncA A] (ss : List Slot) (m : Res A) : TA := fun σ H Q =>
  Sl X.K H H ss σ ∧ wpR X W m σ H fun a => ∀ vs H', Same H H' → EncA.rep X.K H' vs a → Q vs H'
def XA {A : Type} [EncA A] (ss : List Slot) (es : List Expr) (m : Res A) : Prop := PA X es (rA X W ss m)
/-- .. that are kept -/
def rAK {A : Type} [EncA A] (ss : List Slot) (m : Res A) : TA := fun σ H Q =>
  ∃ F, Same F H ∧ Sl X.K F H ss σ ∧ wpR X W m σ H fun a => ∀ vs H' F', Same H H' → Ext F H F' H' → EncA.rep X.K F' vs a → Q vs H'
def XAK {A : Type} [EncA A] (ss : List Slot) (es : List Expr) (m : Res A) : Prop := PA X es (rAK X W ss m)
end
section
variable {X : Cx} {W : WX} {ss : List Slot} {e : Expr} {es : List Expr}
theorem xa_nil : XA X W ss [] (.ok ()) := PA_imp pa_nil fun σ H Q ⟨sl, q⟩ => q [] H (Same.refl H) rfl
theorem xa_cons {α A : Type} [Enc α] [EncP A] {m : Res α} {r : Res A} (h : XI X W ss e m) (t : XA X W ss es r) (hs : starEach (e :: es) X.env = (false, eval e X.env) :: starEach es X.env := by rfl) : XA X W ss (e :: es) (m.bind fun a => r.bind fun as => .ok (a, as)) := by
  refine PA_imp (pa_cons h t hs) fun σ H Q ⟨sl, q⟩ => ⟨sl, wpR_imp (wpR_bind q) (Same.refl H) fun a q v H1 s1 r1 => ⟨sl.mono s1 s1, wpR_imp (wpR_bind q) s1 fun as q vs H2 s2 r2 => ?_⟩⟩
  exact q (v :: vs) H2 (s1.trans s2) ⟨v, vs, rfl, Enc.mono s2 r1, r2⟩
theorem xh_nil {α : Type} [Enc α] : XA X W ss [] (.ok (⟨[]⟩ : Hom 0 α)) := PA_imp pa_nil fun σ H Q ⟨sl, q⟩ => q [] H (Same.refl H) ⟨rfl, trivial⟩
theorem xh_cons {n : Nat} {α : Type} [Enc α] {m : Res α} {r : Res (Hom n α)} (h : XI X W ss e m) (t : XA X W ss es r) (hs : starEach (e :: es) X.env = (false, eval e X.env) :: starEach es X.env := by rfl) :
    XA X W ss (e :: es) (m.bind fun a => r.bind fun as => .ok (⟨a :: as.l⟩ : Hom (n + 1) α)) := by
  refine PA_imp (pa_cons h t hs) fun σ H Q ⟨sl, q⟩ => ⟨sl, wpR_imp (wpR_bind q) (Same.refl H) fun a q v H1 s1 r1 => ⟨sl.mono s1 s1, wpR_imp (wpR_bind q) s1 fun as q vs H2 s2 r2 => ?_⟩⟩
  exact q (v :: vs) H2 (s1.trans s2) ⟨by rw [List.length_cons, r2.1], Enc.mono s2 r1, r2.2⟩
theorem xak_nil : XAK X W ss [] (.ok ()) := PA_imp pa_nil fun σ H Q ⟨F, a, sl, q⟩ => q [] H F (Same.refl H) ⟨Same.refl F, a, fun _ _ h => .inl h⟩ rfl
theorem xak_cons {α A : Type} [Enc α] [EncP A] {m : Res α} {r : Res A} (h : XK X W ss e m fr) (t : XAK X W ss es r) (hs : starEach (e :: es) X.env = (false, eval e X.env) :: starEach es X.env := by rfl) : XAK X W ss (e :: es) (m.bind fun a => r.bind fun as => .ok (a, as)) := by
  refine PA_imp (pa_cons h t hs) fun σ H Q ⟨F, a, sl, q⟩ => ⟨F, a, sl, wpR_imp (wpR_bind q) (Same.refl H) fun x q v H1 F1 G1 s1 ex1 pr1 k1 => ⟨F1, ex1.sub, sl.mono ex1.le s1, wpR_imp (wpR_bind q) s1 fun as q vs H2 F2 s2 ex2 r2 => ?_⟩⟩
  obtain ⟨v', e1, r1⟩ := k1
  cases e1
  exact q (v :: vs) H2 F2 (s1.trans s2) (ex1.trans s1 ex2) ⟨v, vs, rfl, Enc.mono ex2.le r1, r2⟩
theorem xhk_nil {α : Type} [Enc α] : XAK X W ss [] (.ok (⟨[]⟩ : Hom 0 α)) := PA_imp pa_nil fun σ H Q ⟨F, a, sl, q⟩ => q [] H F (Same.refl H) ⟨Same.refl F, a, fun _ _ h => .inl h⟩ ⟨rfl, trivial⟩
theorem xhk_cons {n : Nat} {α : Type} [Enc α] {m : Res α} {r : Res (Hom n α)} (h : XK X W ss e m fr) (t : XAK X W ss es r) (hs : starEach (e :: es) X.env = (false, eval e X.env) :: starEach es X.env := by rfl) : XAK X W ss (e :: es) (m.bind fun a => r.bind fun as => .ok (⟨a :: as.l⟩ : Hom (n + 1) α)) := by
  refine PA_imp (pa_cons h t hs) fun σ H Q ⟨F, a, sl, q⟩ => ⟨F, a, sl, wpR_imp (wpR_bind q) (Same.refl H) fun x q v H1 F1 G1 s1 ex1 pr1 k1 => ⟨F1, ex1.sub, sl.mono ex1.le s1, wpR_imp (wpR_bind q) s1 fun as q vs H2 F2 s2 ex2 r2 => ?_⟩⟩
  obtain ⟨v', e1, r1⟩ := k1
  cases e1
  exact q (v :: vs) H2 F2 (s1.trans s2) (ex1.trans s1 ex2) ⟨by rw [List.length_cons, r2.1], Enc.mono ex2.le r1, r2.2⟩
theorem XA.cast {A : Type} [EncA A] {m m' : Res A} (h : XA X W ss es m) (q : m' = m) : XA X W ss es m' := q ▸ h
end
/-! ### displays -/
theorem all2_len {α : Type} [Enc α] {K : Frag} {H : Hp} {vs : List V} {as : List α} (h : All2 (fun v a => Enc.rep K H v a) vs as) : vs.length = as.length := h.length
section
variable {X : Cx} {W : WX} {ss : List Slot} {e : Expr} {es : List Expr} {pos : Pos} {k : Nat}
theorem same_upd {H : Hp} {p : Addr} {o : HO} (h : H p = none) : Same H (upd H p o) := fun b u z => by
  rw [upd_ne (ne_of_none z h)]; exact z
theorem smallLine {n : Nat} (h : n ≤ 1000) : n ≤ sizeLine := Nat.le_of_lt (small1000 h)
theorem xi_pair {α β : Type} [Enc α] [Enc β] {m : Res (α × β × Unit)} {a b : Expr} (h : XA X W ss [a, b] m) : XI X W ss (.Tuple [a, b] k pos) (m.bind fun x => .ok (x.1, x.2.1)) := by
  refine PE_imp (pe_tup h) fun σ H Q ⟨sl, q⟩ => ⟨sl, wpR_imp (wpR_bind q) (Same.refl H) fun x q vs H1 s1 r1 => ?_⟩
  obtain ⟨v1, r, rfl, h1, v2, r', rfl, h2, h3⟩ := r1
  have h3 : r' = [] := h3
  subst h3
  refine ⟨smallLine (by simp), fun p hp => q _ _ (s1.trans (same_upd hp)) ⟨p, v1, v2, rfl, upd_same, Enc.mono (same_upd hp) h1, Enc.mono (same_upd hp) h2⟩⟩
theorem xi_triple {α β γ : Type} [Enc α] [Enc β] [Enc γ] {m : Res (α × β × γ × Unit)} {a b c : Expr} (h : XA X W ss [a, b, c] m) : XI X W ss (.Tuple [a, b, c] k pos) (m.bind fun x => .ok (⟨x.1, x.2.1, x.2.2.1⟩ : T3 α β γ)) := by
  refine PE_imp (pe_tup h) fun σ H Q ⟨sl, q⟩ => ⟨sl, wpR_imp (wpR_bind q) (Same.refl H) fun x q vs H1 s1 r1 => ?_⟩
  obtain ⟨v1, r, rfl, h1, v2, r', rfl, h2, v3, r'', rfl, h3, h4⟩ := r1
  have h4 : r'' = [] := h4
  subst h4
  refine ⟨smallLine (by simp), fun p hp => q _ _ (s1.trans (same_upd hp)) ⟨p, v1, v2, v3, rfl, upd_same, Enc.mono (same_upd hp) h1, Enc.mono (same_upd hp) h2, Enc.mono (same_upd hp) h3⟩⟩
theorem xk_pair {α β : Type} [Enc α] [Enc β] {m : Res (α × β × Unit)} {a b : Expr} (h : XAK X W ss [a, b] m) : XK X W ss (.Tuple [a, b] k pos) (m.bind fun x => .ok (x.1, x.2.1)) fr := by
  refine PE_imp (pe_tup h) fun σ H Q ⟨F, sf, sl, q⟩ => ⟨F, sf, sl, wpR_imp (wpR_bind q) (Same.refl H) fun x q vs H1 F1 s1 ex1 r1 => ?_⟩
  obtain ⟨v1, r, rfl, h1, v2, r', rfl, h2, h3⟩ := r1
  have h3 : r' = [] := h3
  subst h3
  refine ⟨smallLine (by simp), fun p hp => ?_⟩
  have hF : F1 p = none := Same.free ex1.sub hp
  have sF := same_upd (o := HO.tup [v1, v2]) hF
  refine q _ _ (upd F1 p (.tup [v1, v2])) noHp (s1.trans (same_upd hp)) ⟨ex1.le.trans sF, fun b u z => ?_, fun b u z => ?_⟩ priv_no ⟨_, rfl, p, v1, v2, rfl, upd_same, Enc.mono sF h1, Enc.mono sF h2⟩
  · by_cases e : b = p
    · subst e; rw [upd_same] at z ⊢; exact z
    · rw [upd_ne e] at z ⊢; exact ex1.sub _ _ z
  · by_cases e : b = p
    · subst e; exact .inr (.inl (Same.free s1 hp))
    · rw [upd_ne e] at z; exact ex1.new _ _ z
theorem xk_triple {α β γ : Type} [Enc α] [Enc β] [Enc γ] {m : Res (α × β × γ × Unit)} {a b c : Expr} (h : XAK X W ss [a, b, c] m) : XK X W ss (.Tuple [a, b, c] k pos) (m.bind fun x => .ok (⟨x.1, x.2.1, x.2.2.1⟩ : T3 α β γ)) fr := by
  refine PE_imp (pe_tup h) fun σ H Q ⟨F, sf, sl, q⟩ => ⟨F, sf, sl, wpR_imp (wpR_bind q) (Same.refl H) fun x q vs H1 F1 s1 ex1 r1 => ?_⟩
  obtain ⟨v1, r, rfl, h1, v2, r', rfl, h2, v3, r'', rfl, h3, h4⟩ := r1
  have h4 : r'' = [] := h4
  subst h4
  refine ⟨smallLine (by simp), fun p hp => ?_⟩
  have hF : F1 p = none := Same.free ex1.sub hp
  have sF := same_upd (o := HO.tup [v1, v2, v3]) hF
  refine q _ _ (upd F1 p (.tup [v1, v2, v3])) noHp (s1.trans (same_upd hp)) ⟨ex1.le.trans sF, fun b u z => ?_, fun b u z => ?_⟩ priv_no ⟨_, rfl, p, v1, v2, v3, rfl, upd_same, Enc.mono sF h1, Enc.mono sF h2, Enc.mono sF h3⟩
  · by_cases e : b = p
    · subst e; rw [upd_same] at z ⊢; exact z
    · rw [upd_ne e] at z ⊢; exact ex1.sub _ _ z
  · by_cases e : b = p
    · subst e; exact .inr (.inl (Same.free s1 hp))
    · rw [upd_ne e] at z; exact ex1.new _ _ z
/-- a tuple of one kind, 1000 at most -/
theorem xi_tup {n : Nat} {α : Type} [Enc α] {m : Res (Hom n α)} (h : XA X W ss es m) (hn : n ≤ 1000 := by decide) : XI X W ss (.Tuple es k pos) (m.bind fun x => .ok (⟨x.l⟩ : Tup α)) := by
  refine PE_imp (pe_tup h) fun σ H Q ⟨sl, q⟩ => ⟨sl, wpR_imp (wpR_bind q) (Same.refl H) fun x q vs H1 s1 ⟨el, r1⟩ => ?_⟩
  have hv : vs.length = x.l.length := All2.length r1
  exact ⟨smallLine (by omega), fun p hp => q _ _ (s1.trans (same_upd hp)) ⟨p, vs, rfl, SqT.of upd_same, All2.mono (same_upd hp) r1⟩⟩
/-- a new list -/
theorem new_ow {α : Type} [Enc α] {F H H1 F1 : Hp} {p : Addr} {vs : List V} {as : List α} {K : Frag} {Q : VK} (s1 : Same H H1) (ex : Ext F H F1 H1) (hp : H1 p = none) (r : All2 (fun v a => Enc.rep K F1 v a) vs as)
    (q : ∀ v H' F' G', Same H H' → Ext F H F' H' → Priv G' H F' H' → (ow as).P K F' G' (some v) → Q v H') : Q (.ref p) (upd H1 p (.lst vs)) := by
  have hF : F1 p = none := Same.free ex.sub hp
  refine q _ _ F1 (upd noHp p (.lst vs)) (s1.trans (same_upd hp)) ⟨ex.le, ex.sub.trans (same_upd hp), ex.new⟩ (fun b u z => ?_) ⟨p, vs, rfl, upd_same, r⟩
  by_cases e : b = p
  · subst e; rw [upd_same] at z; cases z
    exact ⟨upd_same, Same.free s1 hp, hF, rfl⟩
  · rw [upd_ne e] at z; cases z
theorem xk_lst {n : Nat} {α : Type} [Enc α] {m : Res (Hom n α)} (h : XAK X W ss es m) (hn : n ≤ 1000 := by decide) : XK X W ss (.List es pos) (m.bind fun x => .ok x.l) ow := by
  refine PE_imp (pe_lst h) fun σ H Q ⟨F, sf, sl, q⟩ => ⟨F, sf, sl, wpR_imp (wpR_bind q) (Same.refl H) fun x q vs H1 F1 s1 ex ⟨el, r1⟩ => ?_⟩
  have hv : vs.length = x.l.length := All2.length r1
  exact ⟨smallLine (by omega), fun p hp => new_ow s1 ex hp r1 q⟩
/-- items that are looked at are kept where they are no lists -/
theorem xak_imm {n : Nat} {α : Type} [Enc α] [Imm α] {m : Res (Hom n α)} (h : XA X W ss es m) : XAK X W ss es m := by
  refine PA_imp h fun σ H Q ⟨F, a, sl, q⟩ => ⟨sl.mono a (Same.refl H), wpR_imp q (Same.refl H) fun x q v H' s r => ?_⟩
  exact q v H' _ s (ext_imm a s) ⟨r.1, All2.mono (join_r (a.trans s) (tups_le H')) (All2.imp (fun _ _ z => Imm.imm z) r.2)⟩
end

/-! ### a def -/
/-- what a def promises: the mirror's answer -/
def spOf (K : Frag) (mg : Str → Option Value) {A R : Type} [EncA A] (f : A → Res R) (kr : R → Slot) : Sp := fun vs H Q E => ∃ (a : A) (F : Hp), EncA.rep K F vs a ∧ Same F H ∧
  match f a with
  | .ok r => ∀ v H' F' G', Same H H' → Ext F H F' H' → Priv G' H F' H' → (kr r).P K F' G' (some v) → Q v H'
  | .exc x => ∀ cls d H', mg x.cls = some cls → Same H H' → payRep x.pay d H' → E cls d H'
  | .stuck => False
/-- what a body wishes of exceptions -/
abbrev wE (E : L2.XK) : WX := fun cls d _ H => E cls d H
section
variable {P : Program} {w : World} {K : Frag} {mg : Str → Option Value} {base : Heap}
theorem all3_any {K : Frag} {F : Hp} : ∀ n : Nat, All3 K F (List.replicate n any) (List.replicate n noHp) (List.replicate n (none : Option V))
  | 0 => trivial
  | n + 1 => by
    rw [List.replicate_succ, List.replicate_succ, List.replicate_succ]
    exact ⟨trivial, all3_any n⟩
theorem All3.append {K : Frag} {F : Hp} : ∀ {ss ts : List Slot} {Gs Gt : List Hp} {σ τ : L2.St}, All3 K F ss Gs σ → All3 K F ts Gt τ → All3 K F (ss ++ ts) (Gs ++ Gt) (σ ++ τ)
  | [], _, [], _, [], _, _, h => h
  | _ :: _, _, _ :: _, _, _ :: _, _, ⟨x, y⟩, h => ⟨x, All3.append y h⟩
  | [], _, _ :: _, _, _, _, h, _ => h.elim
  | [], _, [], _, _ :: _, _, h, _ => h.elim
  | _ :: _, _, [], _, _, _, h, _ => h.elim
  | _ :: _, _, _ :: _, _, [], _, h, _ => h.elim
theorem pw_no : ∀ n : Nat, (List.replicate n noHp).Pairwise Dj
  | 0 => List.Pairwise.nil
  | n + 1 => by
    rw [List.replicate_succ]
    exact List.pairwise_cons.mpr ⟨fun G m a => .inl rfl, pw_no n⟩
theorem fn_ok {x qual : Str} {st : Stmt} {f : Addr} {fd : FuncData} {N ps : List Str} {k : Nat} {A R : Type} [EncP A] {g : A → Res R} {kr : R → Slot} (F : Fun K x qual st f fd) (S : FnScope N ps (defScope st)) (hl : EncP.len A = ps.length)
    (hbody : ∀ (a : A) (cdv : Value) (A' : Around) (outer : List Env) (s : Shared) (H : Hp) (E : L2.XK), Room k (A'.deeper (envOfC qual (defScope st) s.heap.objs.size f cdv)) →
      ST (cxOf (L2.CX P w) P w K mg base N qual (defScope st) f cdv A' outer s H E) (wE E) true (EncP.slots a ++ List.replicate (N.length - EncP.len A) any) (defBody st) (g a) kr) :
    FnOk P w K mg base (L2.CX P w) (k + 1) f fd ps (spOf K mg g kr) := by
  refine F.okX S (fun vs H Q E ⟨a, F0, r, _⟩ => (EncP.start r).1.trans hl) fun cdv A' outer s H vs Q E hr ⟨a, F0, r, sF, q⟩ => ?_
  refine ⟨_, hbody a cdv A' outer s H E hr, H, F0, F0, List.replicate (EncP.len A) noHp ++ List.replicate (N.length - EncP.len A) noHp, ⟨⟨Same.refl _, sF, fun _ _ h => .inl h⟩, Same.refl _, ?_, ?_, ?_⟩, fun _ _ _ h => h, ?_⟩
  · obtain ⟨l, z⟩ := EncP.start r
    have e : L2.start N vs = vs.map some ++ List.replicate (N.length - EncP.len A) none := by unfold L2.start; rw [l]
    rw [e]
    exact z.append (all3_any _)
  · intro G m b u z
    rw [List.replicate_append_replicate] at m
    rw [(List.mem_replicate.mp m).2] at z
    cases z
  · rw [List.replicate_append_replicate]
    exact pw_no _
  · show wpS _ _ (g a) H _
    cases e : g a with
    | ok r' => rw [e] at q; exact fun v H' F' G' s1 ex pr k => q v H' F' G' s1 ex pr k
    | exc x => rw [e] at q; exact fun σ cls d H' h1 h2 h3 => q cls d H' h1 h2 h3
    | stuck => rw [e] at q; exact q
end
section
variable {X : Cx} {W : WX} {ss : List Slot} {k : Nat} {f : Addr} {fd : FuncData} {ps : List Str} {A R : Type} [EncA A] {g : A → Res R} {kr : R → Slot} {x : Str} {p pos : Pos} {e : Expr} {es : List Expr}
/-- how the defaults fill up -/
structure Fill (X : Cx) {A' A : Type} [EncA A'] [EncA A] (fd : FuncData) (ps : List Str) (c : A' → A) : Prop where
  ex : ∃ dvs ds, Binds X.K fd ps ds ∧ Vals dvs ds ∧ ∀ H vs a, EncA.rep X.K H vs a → EncA.rep X.K H (vs ++ dvs) (c a)
theorem Fill.all {X : Cx} {A : Type} [EncA A] {fd : FuncData} {ps : List Str} (b : Binds X.K fd ps []) : Fill X fd ps (fun a : A => a) := ⟨[], [], b, .nil, fun H vs a h => by rw [List.append_nil]; exact h⟩
variable {A' : Type} [EncA A'] {c : A' → A}
theorem xi_call [Enc R] [View kr] (F : FnOk X.prog X.w X.K X.mg X.base (L2.CX X.prog X.w) k f fd ps (spOf X.K X.mg g kr)) (hr : Room k X.A) (hm : X.mg x = some (.ref f)) (hk : PySem.W.keepIn X.K (.ref f) = true) (fl : Fill X fd ps c) (tk : Takes X W) {m : Res A'}
    (ha : XA X W ss (e :: es) m) (hg : Gl X x := by rfl) (hdb : (x == ("__debug__" : Str)) = false := by decide) (he : starEach (e :: es) X.env = (false, eval e X.env) :: starEach es X.env := by rfl) (hpl : (backTo pos (starEach es X.env)).any (·.1) = false := by rfl) :
    XI X W ss (.Call (.Name x p) (e :: es) [] pos) (m.bind fun a => g (c a)) := by
  obtain ⟨dvs, ds, hb, hd, hc⟩ := fl.ex
  refine PE_imp (pe_callSD (E := fun σ cls d H => W cls d σ H) F hr hg hm hk hb hd (fun σ => passAt tk σ) ha hdb he hpl) fun σ H Q ⟨sl, q⟩ => ⟨sl, wpR_imp (wpR_bind q) (Same.refl H) fun a q vs H1 s1 r1 => ?_⟩
  refine ⟨c a, H1, hc _ _ _ r1, Same.refl _, ?_⟩
  cases eg : g (c a) with
  | ok r => rw [eg] at q; exact fun v H' F' G' s2 ex pr k => q v H' (s1.trans s2) (View.view ((kr r).mono ex.sub (fun b u z => (pr b u z).1) k))
  | exc x => rw [eg] at q; exact fun cls d H' h1 h2 h3 => q cls d H' h1 (s1.trans h2) h3
  | stuck => rw [eg] at q; exact q
/-- a slot whose items are no lists -/
class KImm {R : Type} (kr : R → Slot) : Prop where
  imm : ∀ {K : Frag} {F G : Hp} {o : Option V} {r : R}, (kr r).P K F G o → (kr r).P K (tups F) G o
instance {α : Type} [Enc α] [Imm α] : KImm (fr (α := α)) := ⟨fun ⟨v, e, r⟩ => ⟨v, e, Imm.imm r⟩⟩
instance {α : Type} [Enc α] [Imm α] : KImm (ow (α := α)) := ⟨fun ⟨p, vs, e, g, r⟩ => ⟨p, vs, e, g, All2.imp (fun _ _ z => Imm.imm z) r⟩⟩
/-- the arguments are only looked at; what comes has no lists within -/
theorem xk_call [KImm kr] (F : FnOk X.prog X.w X.K X.mg X.base (L2.CX X.prog X.w) k f fd ps (spOf X.K X.mg g kr)) (hr : Room k X.A) (hm : X.mg x = some (.ref f)) (hk : PySem.W.keepIn X.K (.ref f) = true) (fl : Fill X fd ps c) (tk : Takes X W) {m : Res A'}
    (ha : XA X W ss (e :: es) m) (hg : Gl X x := by rfl) (hdb : (x == ("__debug__" : Str)) = false := by decide) (he : starEach (e :: es) X.env = (false, eval e X.env) :: starEach es X.env := by rfl) (hpl : (backTo pos (starEach es X.env)).any (·.1) = false := by rfl) :
    XK X W ss (.Call (.Name x p) (e :: es) [] pos) (m.bind fun a => g (c a)) kr := by
  obtain ⟨dvs, ds, hb, hd, hc⟩ := fl.ex
  refine PE_imp (pe_callSD (E := fun σ cls d H => W cls d σ H) F hr hg hm hk hb hd (fun σ => passAt tk σ) ha hdb he hpl) fun σ H Q ⟨F0, sf, sl, q⟩ => ⟨sl.mono sf (Same.refl H), wpR_imp (wpR_bind q) (Same.refl H) fun a q vs H1 s1 r1 => ?_⟩
  refine ⟨c a, H1, hc _ _ _ r1, Same.refl _, ?_⟩
  cases eg : g (c a) with
  | ok r =>
    rw [eg] at q
    intro v H' F' G' s2 ex pr k
    have sH := sf.trans (s1.trans s2)
    refine q v H' (join F0 (tups H')) G' (s1.trans s2) (ext_imm sf (s1.trans s2)) (fun b u z => ?_) ((kr r).mono ((tups_mono ex.sub).trans (join_r sH (tups_le H'))) (Same.refl G') (KImm.imm k))
    obtain ⟨h1, h2, h3, h4⟩ := pr b u z
    refine ⟨h1, Same.free s1 h2, ?_, h4⟩
    cases ej : join F0 (tups H') b with
    | none => rfl
    | some y =>
      rcases join_or ej with z' | z'
      · have := (sf.trans s1) _ _ z'
        rw [h2] at this; cases this
      · have t1 := tups_isT z'
        have t2 := tups_le H' _ _ z'
        rw [h1] at t2; cases t2
        rw [h4] at t1; cases t1
  | exc x => rw [eg] at q; exact fun cls d H' h1 h2 h3 => q cls d H' h1 (s1.trans h2) h3
  | stuck => rw [eg] at q; exact q
/-- the arguments are kept -/
theorem xk_callF (F : FnOk X.prog X.w X.K X.mg X.base (L2.CX X.prog X.w) k f fd ps (spOf X.K X.mg g kr)) (hr : Room k X.A) (hm : X.mg x = some (.ref f)) (hk : PySem.W.keepIn X.K (.ref f) = true) (fl : Fill X fd ps c) (tk : Takes X W) {m : Res A'}
    (ha : XAK X W ss (e :: es) m) (hg : Gl X x := by rfl) (hdb : (x == ("__debug__" : Str)) = false := by decide) (he : starEach (e :: es) X.env = (false, eval e X.env) :: starEach es X.env := by rfl) (hpl : (backTo pos (starEach es X.env)).any (·.1) = false := by rfl) :
    XK X W ss (.Call (.Name x p) (e :: es) [] pos) (m.bind fun a => g (c a)) kr := by
  obtain ⟨dvs, ds, hb, hd, hc⟩ := fl.ex
  refine PE_imp (pe_callSD (E := fun σ cls d H => W cls d σ H) F hr hg hm hk hb hd (fun σ => passAt tk σ) ha hdb he hpl) fun σ H Q ⟨F0, sf, sl, q⟩ => ⟨F0, sf, sl, wpR_imp (wpR_bind q) (Same.refl H) fun a q vs H1 F1 s1 ex1 r1 => ?_⟩
  refine ⟨c a, F1, hc _ _ _ r1, ex1.sub, ?_⟩
  cases eg : g (c a) with
  | ok r =>
    rw [eg] at q
    exact fun v H' F' G' s2 ex pr k => q v H' F' G' (s1.trans s2) (ex1.trans s1 ex) (fun b u z => ⟨(pr b u z).1, Same.free s1 (pr b u z).2.1, (pr b u z).2.2⟩) k
  | exc x => rw [eg] at q; exact fun cls d H' h1 h2 h3 => q cls d H' h1 (s1.trans h2) h3
  | stuck => rw [eg] at q; exact q
end
end G

namespace G
open PySem PySem.Spec PyProof.Rows L2
/-! ### what is walked -/
structure ItOk {α : Type} [Enc α] (K : Frag) (J : It) (xs : List α) (F0 : Hp) : Prop where
  go : ∀ i F H a, Same F0 F → Same F H → xs[i]? = some a → J.go i H ∧ ∀ v H', J.yld i H v H' → Same H H' ∧ ∃ F', Ext F H F' H' ∧ Enc.rep K F' v a
  stop : ∀ i F H, Same F0 F → Same F H → xs.length ≤ i → J.stop i H
section
variable (X : Cx) (W : WX)
def rdPI {α : Type} [Enc α] (ss : List Slot) (m : Res (List α)) : TI := fun σ H R =>
  ∃ F, Same F H ∧ Sl X.K F H ss σ ∧ wpR X W m σ H fun xs => ∀ J H' F', Same H H' → Ext F H F' H' → ItOk X.K J xs F' → R J H'
def XIt {α : Type} [Enc α] (ss : List Slot) (tg iter : Expr) (m : Res (List α)) : Prop := PI X tg iter (rdPI X W ss m)
/-- a target: what becomes of the slots -/
def Tg {α : Type} [Enc α] (tg : Expr) (u : α → List Slot → List Slot) : Prop :=
  ∃ g, PG X tg g ∧ ∀ (a : α) (v : V) (B F0 F H : Hp) (Gs : List Hp) (ss : List Slot) (σ : L2.St) (Q : L2.St → Hp → Prop), Asn X.K B F0 ss σ H F Gs → Enc.rep X.K F v a →
    (∀ σ' Gs', Asn X.K B F0 (u a ss) σ' H F Gs' → Q σ' H) → g v σ H Q
end
section
variable {X : Cx} {W : WX} {ss : List Slot} {tg : Expr}
theorem PI_imp {e : Expr} {t t' : TI} (h : PI X tg e t) (f : ∀ σ H R, t' σ H R → t σ H R) : PI X tg e t' := ⟨fun pins s σ H R I q => h.run pins s σ H R I (f _ _ _ q)⟩
theorem ext_refl {F H : Hp} (s : Same F H) : Ext F H F H := ⟨Same.refl _, s, fun _ _ h => .inl h⟩
theorem it_list {α : Type} [Enc α] {e : Expr} {m : Res (List α)} (h : XK X W ss e m fr) : XIt X W ss tg e m := by
  refine PI_imp (pi_list h) fun σ H R ⟨F, sf, sl, q⟩ => ⟨F, sf, sl, wpR_imp q (Same.refl H) fun xs q v H1 F1 G1 s1 ex1 _ k1 => ?_⟩
  obtain ⟨v', e1, p, vs, rfl, hp, r⟩ := k1
  cases e1
  refine ⟨p, rfl, ⟨vs, SqL.of (ex1.sub _ _ hp)⟩, q _ H1 F1 s1 ex1 ⟨fun i F2 H2 a sa sb hi => ?_, fun i F2 H2 sa sb hi => ⟨vs, SqL.of (sb _ _ (sa _ _ hp)), by rw [r.length]; exact hi⟩⟩⟩
  obtain ⟨v, hv, rv⟩ := r.get hi
  refine ⟨⟨vs, v, SqL.of (sb _ _ (sa _ _ hp)), hv⟩, fun v' H' ⟨e, y⟩ => ?_⟩
  subst e
  have ev : v' = v := Option.some.inj ((y vs (SqL.of (sb _ _ (sa _ _ hp)))).symm.trans hv)
  subst ev
  exact ⟨Same.refl _, F2, ext_refl sb, Enc.mono sa rv⟩
theorem it_tup {α : Type} [Enc α] {e : Expr} {m : Res (Tup α)} (h : XK X W ss e m fr) : XIt X W ss tg e (m.bind fun x => .ok x.l) := by
  refine PI_imp (pi_tup h) fun σ H R ⟨F, sf, sl, q⟩ => ⟨F, sf, sl, wpR_imp (wpR_bind q) (Same.refl H) fun xs q v H1 F1 G1 s1 ex1 _ k1 => ?_⟩
  obtain ⟨v', e1, p, vs, rfl, hp, r⟩ := k1
  cases e1
  refine ⟨p, rfl, ⟨vs, seqT ex1.sub hp⟩, q _ H1 F1 s1 ex1 ⟨fun i F2 H2 a sa sb hi => ?_, fun i F2 H2 sa sb hi => ⟨vs, seqT (sa.trans sb) hp, by rw [r.length]; exact hi⟩⟩⟩
  obtain ⟨v, hv, rv⟩ := r.get hi
  refine ⟨⟨vs, v, seqT (sa.trans sb) hp, hv⟩, fun v' H' ⟨e, y⟩ => ?_⟩
  subst e
  have ev : v' = v := Option.some.inj ((y vs (seqT (sa.trans sb) hp)).symm.trans hv)
  subst ev
  exact ⟨Same.refl _, F2, ext_refl sb, Enc.mono sa rv⟩
/-- lo, lo + 1, .. -/
def rangeL (lo : Int) (n : Nat) : List Int := (List.range n).map fun (i : Nat) => lo + (i : Int)
theorem rangeL_get {lo : Int} {n i : Nat} {a : Int} (h : (rangeL lo n)[i]? = some a) : i < n ∧ a = lo + (i : Int) := by
  unfold rangeL at h
  rw [List.getElem?_map] at h
  by_cases hi : i < n
  · rw [List.getElem?_range hi] at h
    exact ⟨hi, (Option.some.inj h).symm⟩
  · rw [List.getElem?_eq_none (by rw [List.length_range]; omega)] at h
    cases h
theorem rangeL_len (lo : Int) (n : Nat) : (rangeL lo n).length = n := by unfold rangeL; rw [List.length_map, List.length_range]
theorem itok_range {K : Frag} {lo : Int} {n : Nat} {F0 : Hp} : ItOk K (Itr lo n) (rangeL lo n) F0 :=
  ⟨fun i F H a sa sb hi => ⟨(rangeL_get hi).1, fun v H' ⟨e, y⟩ => by
    subst e
    exact ⟨Same.refl _, F, ext_refl sb, by rw [y, (rangeL_get hi).2]; rfl⟩⟩, fun i F H sa sb hi => by rw [rangeL_len] at hi; exact hi⟩
def small62 (i : Int) : Bool := decide (-(2 ^ 62) ≤ i) && decide (i < 2 ^ 62)
theorem small62_of {i : Int} (h : small62 i = true) : -(2 ^ 62) ≤ i ∧ i < 2 ^ 62 := by
  unfold small62 at h
  rw [Bool.and_eq_true] at h
  exact ⟨of_decide_eq_true h.1, of_decide_eq_true h.2⟩
theorem wpR_guard {α : Type} {c : Bool} {m : Res α} {σ : L2.St} {H : Hp} {P : α → Prop} (h : wpR X W (guardR c m) σ H P) : c = true ∧ wpR X W m σ H P := by
  cases c with
  | true => exact ⟨rfl, h⟩
  | false => exact h.elim
theorem it_range1 {e : Expr} {m : Res (Int × Unit)} {p pos : Pos} (ha : XA X W ss [e] m) (hm : X.mg "range" = none) (hg : Gl X "range" := by rfl) (hs : starEach [e] X.env = [(false, eval e X.env)] := by rfl) :
    XIt X W ss tg (.Call (.Name "range" p) [e] [] pos) (m.bind fun n => guardR (small62 n.1) (.ok (rangeL 0 n.1.toNat))) := by
  refine PI_imp (pi_range1 hg hm ha hs) fun σ H R ⟨F, sf, sl, q⟩ => ⟨sl.mono sf (Same.refl H), wpR_imp (wpR_bind q) (Same.refl H) fun n q' vs H1 s1 r1 => ?_⟩
  obtain ⟨v, r, e1, e2, e3⟩ := r1
  have e2 : v = .int n.1 := e2
  have e3 : r = [] := e3
  subst e1; subst e2; subst e3
  obtain ⟨g, q'⟩ := wpR_guard q'
  obtain ⟨h1, h2⟩ := small62_of g
  exact ⟨n.1, rfl, h1, h2, q' _ H1 F s1 ⟨Same.refl F, sf.trans s1, fun _ _ h => .inl h⟩ itok_range⟩
theorem it_range2 {e e' : Expr} {m : Res (Int × Int × Unit)} {p pos : Pos} (ha : XA X W ss [e, e'] m) (hm : X.mg "range" = none) (hg : Gl X "range" := by rfl)
    (hs : starEach [e, e'] X.env = [(false, eval e X.env), (false, eval e' X.env)] := by rfl) (hs2 : starEach [e'] X.env = [(false, eval e' X.env)] := by rfl) :
    XIt X W ss tg (.Call (.Name "range" p) [e, e'] [] pos) (m.bind fun x => guardR (small62 x.1 && small62 x.2.1) (.ok (rangeL x.1 (x.2.1 - x.1).toNat))) := by
  refine PI_imp (pi_range2 hg hm ha hs hs2) fun σ H R ⟨F, sf, sl, q⟩ => ⟨sl.mono sf (Same.refl H), wpR_imp (wpR_bind q) (Same.refl H) fun n q' vs H1 s1 r1 => ?_⟩
  obtain ⟨v, r, e1, e2, v', r', e4, e5, e6⟩ := r1
  have e2 : v = .int n.1 := e2
  have e5 : v' = .int n.2.1 := e5
  have e6 : r' = [] := e6
  subst e1; subst e2; subst e4; subst e5; subst e6
  obtain ⟨g, q'⟩ := wpR_guard q'
  rw [Bool.and_eq_true] at g
  obtain ⟨h1, h2⟩ := small62_of g.1
  obtain ⟨h3, h4⟩ := small62_of g.2
  exact ⟨n.1, n.2.1, rfl, ⟨h1, h2, h3, h4⟩, q' _ H1 F s1 ⟨Same.refl F, sf.trans s1, fun _ _ h => .inl h⟩ itok_range⟩
/-- the signs of a text -/
def signsOf (x : Str) : List Str := x.cps.toList.map fun c => ⟨#[c]⟩
theorem it_str {e : Expr} {m : Res Str} (h : XI X W ss e m) : XIt X W ss tg e (m.bind fun x => .ok (signsOf x)) := by
  refine PI_imp (pi_str h) fun σ H R ⟨F, sf, sl, q⟩ => ⟨sl.mono sf (Same.refl H), wpR_imp (wpR_bind q) (Same.refl H) fun x q v H1 s1 r1 => ⟨x, r1, ?_⟩⟩
  refine q _ H1 F s1 ⟨Same.refl F, sf.trans s1, fun _ _ h => .inl h⟩ ⟨fun i F2 H2 a sa sb hi => ?_, fun i F2 H2 sa sb hi => ?_⟩
  · unfold signsOf at hi
    rw [List.getElem?_map] at hi
    have hl : i < x.cps.size := by
      cases e : x.cps.toList[i]? with
      | none => rw [e] at hi; cases hi
      | some c =>
        have z := (List.getElem?_eq_some_iff.mp e).1
        rw [Array.length_toList] at z; exact z
    refine ⟨hl, fun v' H' ⟨e, c, hc, y⟩ => ?_⟩
    subst e
    rw [Array.getElem?_toList, hc] at hi
    have ea : (⟨#[c]⟩ : Str) = a := Option.some.inj hi
    subst ea
    exact ⟨Same.refl _, F2, ext_refl sb, y⟩
  · have z : x.cps.size ≤ i := by
      unfold signsOf at hi
      rw [List.length_map, Array.length_toList] at hi
      exact hi
    exact z
/-- enumerate of a list -/
def enumL {α : Type} (xs : List α) : List (Int × α) := xs.mapIdx fun i a => ((i : Int), a)
theorem it_enum {α : Type} [Enc α] {e : Expr} {m : Res (List α)} {p pos tpos : Pos} {elts : List Expr} {kk : Nat} (h : XAK X W ss [e] (m.bind fun a => .ok ((a, ()) : List α × Unit))) (hm : X.mg "enumerate" = none) (hg : Gl X "enumerate" := by rfl) (hs : starEach [e] X.env = [(false, eval e X.env)] := by rfl) :
    XIt X W ss (.Tuple elts kk tpos) (.Call (.Name "enumerate" p) [e] [] pos) (m.bind fun xs => .ok (enumL xs)) := by
  refine PI_imp (pi_enum hg hm h hs) fun σ H R ⟨F, sf, sl, q⟩ => ⟨F, sf, sl, ?_⟩
  have q' := wpR_bind q
  cases m with
  | exc x => exact q'
  | stuck => exact q'
  | ok xs =>
    intro ws H1 F1 s1 ex1 ⟨v, r, e1, ⟨p, vs, e2, hp, rv⟩, e3⟩
    have e3 : r = [] := e3
    subst e1; subst e2; subst e3
    refine ⟨p, vs, rfl, SqL.of (ex1.sub _ _ hp), q' _ H1 F1 s1 ex1 ⟨fun i F2 H2 a sa sb hi => ?_, fun i F2 H2 sa sb hi => ⟨vs, SqL.of (sb _ _ (sa _ _ hp)), ?_⟩⟩⟩
    · unfold enumL at hi
      rw [List.getElem?_mapIdx] at hi
      cases ex : xs[i]? with
      | none => rw [ex] at hi; cases hi
      | some b =>
        rw [ex] at hi
        have ea : ((i : Int), b) = a := Option.some.inj hi
        subst ea
        obtain ⟨v, hv, rb⟩ := rv.get ex
        have hS : SqL X.K H2 p vs := SqL.of (sb _ _ (sa _ _ hp))
        refine ⟨⟨vs, v, hS, hv⟩, fun v' H' ⟨T, x, e1, nT, e2, y⟩ => ?_⟩
        subst e1; subst e2
        have ev : x = v := Option.some.inj ((y vs hS).symm.trans hv)
        subst ev
        have nF : F2 T = none := Same.free sb nT
        have sF := same_upd (o := HO.tup [.int (i : Nat), x]) nF
        refine ⟨same_upd nT, upd F2 T (.tup [.int (i : Nat), x]), ⟨sF, fun b u z => ?_, fun b u z => ?_⟩, T, _, _, rfl, upd_same, rfl, Enc.mono (sa.trans sF) rb⟩
        · by_cases e : b = T
          · subst e; rw [upd_same] at z ⊢; exact z
          · rw [upd_ne e] at z ⊢; exact sb _ _ z
        · by_cases e : b = T
          · subst e; exact .inr (.inl nT)
          · rw [upd_ne e] at z; exact .inl z
    · unfold enumL at hi
      rw [List.length_mapIdx] at hi
      rw [rv.length]; exact hi
/-! ### targets -/
theorem tg_name (i : Nat) {α : Type} [Enc α] {x : Str} {pos : Pos} (hN : X.N.Nodup) (hi : X.N[i]? = some x := by rfl) (hx : Loc X.env.scope x := by first | exact Or.inl rfl | exact Or.inr rfl)
    (hf : X.fn x = true ∨ X.env.scope.names.lookup x = some .local := by first | exact .inl rfl | exact .inr rfl) : Tg X (α := α) (.Name x pos) (fun a ss => ss.set i (fr a)) :=
  ⟨_, pg_name hN hi hx hf, fun a v B F0 F H Gs ss σ Q A r q => q _ _ (A.set (s := fr a) (Same.refl H) (ext_refl A.ext.sub) priv_no ⟨v, rfl, r⟩ i)⟩
theorem tg_any {α : Type} [Enc α] {u u' : α → List Slot → List Slot} (h : Tg X tg u) (e : u' = u) : Tg X tg u' := e ▸ h
theorem tg_two {α β : Type} [Enc α] [Enc β] {t1 t2 : Expr} {k : Nat} {pos : Pos} {u1 : α → List Slot → List Slot} {u2 : β → List Slot → List Slot} (h1 : Tg X t1 u1) (h2 : Tg X t2 u2) (hc : X.calm = true := by rfl)
    (hs1 : (assignEach [t1, t2] X.env).map (·.2) = assign t1 X.env :: (assignEach [t2] X.env).map (·.2) := by rfl) (hs2 : (assignEach [t2] X.env).map (·.2) = assign t2 X.env :: (assignEach [] X.env).map (·.2) := by rfl)
    (hn : (assignEach [t1, t2] X.env).length = 2 := by rfl) (hst : (assignEach [t1, t2] X.env).findIdx? (·.1) = none := by rfl) :
    Tg X (.Tuple [t1, t2] k pos) (fun (x : α × β) ss => u2 x.2 (u1 x.1 ss)) := by
  obtain ⟨g1, p1, q1⟩ := h1
  obtain ⟨g2, p2, q2⟩ := h2
  refine ⟨_, pg_tup hc (pgs_cons p1 (pgs_cons p2 pgs_nil hs2) hs1) hn hst, fun a v B F0 F H Gs ss σ Q A r q => ?_⟩
  obtain ⟨p, v1, v2, rfl, hp, r1, r2⟩ := r
  refine ⟨p, [v1, v2], rfl, SqT.of (A.ext.sub _ _ hp), rfl, v1, [v2], rfl, q1 _ _ _ _ _ _ _ _ _ _ A r1 fun σ1 Gs1 A1 => ⟨v2, [], rfl, q2 _ _ _ _ _ _ _ _ _ _ A1 r2 fun σ2 Gs2 A2 => ⟨rfl, q σ2 Gs2 A2⟩⟩⟩
theorem tg_three {α β γ : Type} [Enc α] [Enc β] [Enc γ] {t1 t2 t3 : Expr} {k : Nat} {pos : Pos} {u1 : α → List Slot → List Slot} {u2 : β → List Slot → List Slot} {u3 : γ → List Slot → List Slot} (h1 : Tg X t1 u1) (h2 : Tg X t2 u2) (h3 : Tg X t3 u3) (hc : X.calm = true := by rfl)
    (hs1 : (assignEach [t1, t2, t3] X.env).map (·.2) = assign t1 X.env :: (assignEach [t2, t3] X.env).map (·.2) := by rfl) (hs2 : (assignEach [t2, t3] X.env).map (·.2) = assign t2 X.env :: (assignEach [t3] X.env).map (·.2) := by rfl)
    (hs3 : (assignEach [t3] X.env).map (·.2) = assign t3 X.env :: (assignEach [] X.env).map (·.2) := by rfl)
    (hn : (assignEach [t1, t2, t3] X.env).length = 3 := by rfl) (hst : (assignEach [t1, t2, t3] X.env).findIdx? (·.1) = none := by rfl) :
    Tg X (.Tuple [t1, t2, t3] k pos) (fun (x : T3 α β γ) ss => u3 x.c (u2 x.b (u1 x.a ss))) := by
  obtain ⟨g1, p1, q1⟩ := h1
  obtain ⟨g2, p2, q2⟩ := h2
  obtain ⟨g3, p3, q3⟩ := h3
  refine ⟨_, pg_tup hc (pgs_cons p1 (pgs_cons p2 (pgs_cons p3 pgs_nil hs3) hs2) hs1) hn hst, fun a v B F0 F H Gs ss σ Q A r q => ?_⟩
  obtain ⟨p, v1, v2, v3, rfl, hp, r1, r2, r3⟩ := r
  refine ⟨p, [v1, v2, v3], rfl, SqT.of (A.ext.sub _ _ hp), rfl, v1, [v2, v3], rfl, q1 _ _ _ _ _ _ _ _ _ _ A r1 fun σ1 Gs1 A1 => ⟨v2, [v3], rfl, q2 _ _ _ _ _ _ _ _ _ _ A1 r2 fun σ2 Gs2 A2 => ⟨v3, [], rfl, q3 _ _ _ _ _ _ _ _ _ _ A2 r3 fun σ3 Gs3 A3 => ⟨rfl, q σ3 Gs3 A3⟩⟩⟩⟩
/-- targets = e -/
theorem s1_asg {α : Type} [Enc α] {u : α → List Slot → List Slot} {m : Res α} {e : Expr} {pos : Pos} (h : XK X W ss e m fr) (hg : Tg X tg u) (hs : swapsWithSole [tg] e pos.line X.env = pure false := by rfl) (hw : swappedStores [tg] e X.env = pure none := by rfl)
    (h1 : (assignEach [tg] X.env).map (·.2) = [assign tg X.env] := by rfl) : S1 X W ss (.Assign [tg] e pos) m (fun a => u a ss) := by
  obtain ⟨g, pg, qg⟩ := hg
  refine PS_imp (ps_asg h pg hs hw h1) fun D σ H ⟨B, F0, F, Gs, A, q⟩ => ⟨F, A.ext.sub, A.sl, wpS_R q A.base fun a q v H' F' G' s ex _ ⟨v', e1, r⟩ => ?_⟩
  cases e1
  exact qg a v B F0 F' H' Gs ss σ _ (A.grow s ex) r fun σ' Gs' A' => q σ' H' F' Gs' A'
/-! ### for -/
def foldR {S α : Type} (f : S → α → Res S) : S → List α → Res S
  | s, [] => .ok s
  | s, a :: as => (f s a).bind fun s' => foldR f s' as
def loopO {S L R α : Type} (f : S → α → Res (Out S S R)) : S → List α → Res (Out S L R)
  | s, [] => .ok (.nx s)
  | s, a :: as => (f s a).bind fun o => match o with
    | .nx s' => loopO f s' as
    | .ct s' => loopO f s' as
    | .bk s' => .ok (.nx s')
    | .rt r => .ok (.rt r)
/-- a statement that may leave -/
def B1 (X : Cx) (W : WX) {S L R : Type} (ss : List Slot) (st : Stmt) (M : Res (Out S L R)) (post : S → List Slot) (pl : L → List Slot) (kr : R → Slot) : Prop := PS X st (rdX X ss (wB X W M post pl kr))
theorem for_core {S L R α : Type} [Enc α] {iter : Expr} {body : List Stmt} {pos : Pos} {u : α → List Slot → List Slot} {m : Res (List α)} {f : S → α → Res (Out S S R)} {inv : S → List Slot} {s0 : S} {pl : L → List Slot} {kr : R → Slot}
    (hp : PassesOwn (model X.prog X.w) X.A X.env X.xe) (hc : X.calm = true) (hi : XIt X W ss tg iter m) (hg : Tg X tg u) (h0 : Wk ss (inv s0)) (hb : ∀ s a, SB X W (u a (inv s)) body (f s a) inv inv kr) (hs : ∀ x, foldedSetIterable iter X.env x = pure x) :
    B1 X W ss (.For tg iter body [] pos) (m.bind fun xs => loopO f s0 xs) inv pl kr := by
  obtain ⟨g, pg, qg⟩ := hg
  have hb' : PSs X body fun D σ H => ∃ s a, rdX X (u a (inv s)) (wB X W (f s a) inv inv kr) D σ H := ⟨fun pins s σ H D I ⟨s', a, q⟩ => (hb s' a).run pins s σ H D I q⟩
  refine PS_imp (ps_for hp hc hi pg hb' hs) fun D σ H ⟨B, F0, F, Gs, A, q⟩ => ⟨F, A.ext.sub, A.sl, wpS_R (wpS_bind q) A.base fun xs q J H1 F1 s1 ex1 it => ?_⟩
  have A1 := (A.grow s1 ex1).wk h0
  -- the walk's own frame: F1
  have up : ∀ {F2 H2 : Hp}, Ext F1 B F2 H2 → Ext F0 B F2 H2 := fun {F2 H2} ex => ⟨A1.ext.le.trans ex.le, ex.sub, fun b u z => (ex.new b u z).elim (A1.ext.new b u) .inr⟩
  have upA : ∀ {ss : List Slot} {σ : L2.St} {H2 F2 : Hp} {Gs : List Hp}, Asn X.K B F1 ss σ H2 F2 Gs → Asn X.K B F0 ss σ H2 F2 Gs := fun a => ⟨up a.ext, a.base, a.all, a.priv, a.dj⟩
  refine ⟨fun i n σ H => i + n = xs.length ∧ ∃ s F2 Gs2, Asn X.K B F1 (inv s) σ H F2 Gs2 ∧ wpS X W (loopO f s (xs.drop i)) B fun o => match o with
      | .nx s => NxOk X (inv s) D B F0
      | .rt r => RtOk X kr r D B F0
      | .bk l => BkOk X (pl l) D B F0
      | .ct l => CtOk X (pl l) D B F0, ⟨xs.length, by omega, s0, F1, Gs, ⟨ext_refl A1.ext.sub |> fun e => ⟨e.le, e.sub, fun _ _ h => .inl h⟩, A1.base, A1.all, A1.priv, A1.dj⟩, q⟩, fun i n σ H ⟨hn, s, F2, Gs2, A2, q2⟩ => ?_⟩
  by_cases hlt : i < xs.length
  · refine .inr ?_
    have hx : xs[i]? = some xs[i] := List.getElem?_eq_getElem hlt
    obtain ⟨hgo, hy⟩ := it.go i F2 H xs[i] A2.ext.le A2.ext.sub hx
    rw [List.drop_eq_getElem_cons hlt] at q2
    have q2 := wpS_bind (show wpS X W ((f s xs[i]).bind _) B _ from q2)
    refine ⟨hgo, fun σ' H' => ∃ s' F3 Gs3, Asn X.K B F1 (inv s') σ' H' F3 Gs3 ∧ wpS X W (loopO f s' (xs.drop (i + 1))) B fun o => match o with
      | .nx s => NxOk X (inv s) D B F0
      | .rt r => RtOk X kr r D B F0
      | .bk l => BkOk X (pl l) D B F0
      | .ct l => CtOk X (pl l) D B F0, fun σ' H' ⟨s', F3, Gs3, A3, q3⟩ => ⟨n - 1, by omega, by omega, s', F3, Gs3, A3, q3⟩, fun v H' y => ?_⟩
    obtain ⟨s3, F3, ex3, r3⟩ := hy v H' y
    refine qg xs[i] v B F1 F3 H' Gs2 (inv s) σ _ (A2.grow s3 ex3) r3 fun σ4 Gs4 A4 => ⟨s, xs[i], B, F1, F3, Gs4, A4, wpS_imp q2 fun o q5 => ?_⟩
    cases o with
    | nx s' => exact fun σ' H' F' Gs' A' => ⟨s', F', Gs', A', q5⟩
    | ct s' => exact fun σ' H' F' Gs' A' => ⟨s', F', Gs', A', q5⟩
    | bk s' => exact fun σ' H' F' Gs' A' => q5 σ' H' F' Gs' (upA A')
    | rt r => exact fun v H' F' G' a b c d => q5 v H' F' G' a (up b) c d
  · have e : xs.drop i = [] := List.drop_eq_nil_iff.mpr (by omega)
    rw [e] at q2
    exact .inl ⟨it.stop i F2 H A2.ext.le A2.ext.sub (by omega), q2 σ H F2 Gs2 (upA A2)⟩
theorem loopO_fold {S L R α : Type} (f : S → α → Res S) : ∀ (xs : List α) (s : S), loopO (L := L) (R := R) (fun s a => (f s a).bind fun s' => .ok (.nx s')) s xs = (foldR f s xs).bind fun s => .ok (.nx s)
  | [], s => rfl
  | a :: as, s => by
    show ((f s a).bind _).bind _ = ((f s a).bind _).bind _
    cases f s a with
    | ok s' => exact loopO_fold f as s'
    | exc x => rfl
    | stuck => rfl
theorem sb_of_sn {S L R : Type} {sts : List Stmt} {M : Res S} {post : S → List Slot} {pl : L → List Slot} {kr : R → Slot} (h : SN X W ss sts M post) : SB X W ss sts (M.bind fun s => .ok (.nx s)) post pl kr :=
  PSs_imp h fun D σ H ⟨B, F0, F, Gs, A, q⟩ => ⟨B, F0, F, Gs, A, wpS_imp (wpS_bind q) fun _ z => z⟩
theorem b1_for {S L R α : Type} [Enc α] {iter : Expr} {body : List Stmt} {pos : Pos} {u : α → List Slot → List Slot} {m : Res (List α)} {f : S → α → Res (Out S S R)} (inv : S → List Slot) (s0 : S) {pl : L → List Slot} {kr : R → Slot}
    (hi : XIt X W ss tg iter m) (hg : Tg X tg u) (hb : ∀ s a, SB X W (u a (inv s)) body (f s a) inv inv kr) (h0 : Wk ss (inv s0) := by exact Wk.refl _)
    (hp : PassesOwn (model X.prog X.w) X.A X.env X.xe := by exact passes_of rfl) (hc : X.calm = true := by rfl) (hs : ∀ x, foldedSetIterable iter X.env x = pure x := by intro _; rfl) :
    B1 X W ss (.For tg iter body [] pos) (m.bind fun xs => loopO f s0 xs) inv pl kr := for_core hp hc hi hg h0 hb hs
theorem s1_for {S α : Type} [Enc α] {iter : Expr} {body : List Stmt} {pos : Pos} {u : α → List Slot → List Slot} {m : Res (List α)} {f : S → α → Res S} (inv : S → List Slot) (s0 : S)
    (hi : XIt X W ss tg iter m) (hg : Tg X tg u) (hb : ∀ s a, SN X W (u a (inv s)) body (f s a) inv) (h0 : Wk ss (inv s0) := by exact Wk.refl _)
    (hp : PassesOwn (model X.prog X.w) X.A X.env X.xe := by exact passes_of rfl) (hc : X.calm = true := by rfl) (hs : ∀ x, foldedSetIterable iter X.env x = pure x := by intro _; rfl) :
    S1 X W ss (.For tg iter body [] pos) (m.bind fun xs => foldR f s0 xs) inv := by
  refine PS_imp (for_core (L := Empty) (R := Unit) (f := fun s a => (f s a).bind fun s' => .ok (.nx s')) (pl := fun x => nomatch x) (kr := fun _ => any) hp hc hi hg h0 (fun s a => sb_of_sn (hb s a)) hs) fun D σ H ⟨B, F0, F, Gs, A, q⟩ => ⟨B, F0, F, Gs, A, ?_⟩
  cases m with
  | ok xs =>
    show wpS X W (loopO _ s0 xs) B _
    rw [loopO_fold]
    have q : wpS X W (foldR f s0 xs) B _ := q
    cases e : foldR f s0 xs with
    | ok s => rw [e] at q; exact q
    | exc x => rw [e] at q; exact q
    | stuck => rw [e] at q; exact q
  | exc x => exact q
  | stuck => exact q
/-! ### what may leave, then the rest -/
theorem sb_b1 {S S' L R : Type} {st : Stmt} {rest : List Stmt} {M1 : Res (Out S L R)} {k : S → Res (Out S' L R)} {mid : S → List Slot} {post : S' → List Slot} {pl : L → List Slot} {kr : R → Slot} (h1 : B1 X W ss st M1 mid pl kr) (h2 : ∀ s, SB X W (mid s) rest (k s) post pl kr) :
    SB X W ss (st :: rest) (M1.next k) post pl kr := by
  have h2' : PSs X rest fun D σ H => ∃ s, rdX X (mid s) (wB X W (k s) post pl kr) D σ H := ⟨fun pins s σ H D I ⟨a, q⟩ => (h2 a).run pins s σ H D I q⟩
  refine PSs_imp (pss_cons h1 h2') fun D σ H ⟨B, F0, F, Gs, A, q⟩ => ⟨B, F0, F, Gs, A, wpS_imp (wpS_bind q) fun o q => ?_⟩
  cases o with
  | nx s => exact fun σ' H' F' Gs' A' => ⟨s, B, F0, F', Gs', A', q⟩
  | rt r => exact q
  | bk l => exact q
  | ct l => exact q
/-- .. at the end of a def -/
def Res.tail {S R : Type} (M : Res (Out S Empty R)) (k : S → Res R) : Res R := M.bind fun o =>
  match o with
  | .nx s => k s
  | .rt r => .ok r
theorem st_b1 {S R : Type} {e : Bool} {st : Stmt} {rest : List Stmt} {M1 : Res (Out S Empty R)} {k : S → Res R} {mid : S → List Slot} {pl : Empty → List Slot} {kr : R → Slot} (h1 : B1 X W ss st M1 mid pl kr) (h2 : ∀ s, ST X W e (mid s) rest (k s) kr) :
    ST X W e ss (st :: rest) (M1.tail k) kr := by
  have h2' : PSs X rest fun D σ H => ∃ s, rdX X (mid s) (wT X W e (k s) kr) D σ H := ⟨fun pins s σ H D I ⟨a, q⟩ => (h2 a).run pins s σ H D I q⟩
  refine PSs_imp (pss_cons h1 h2') fun D σ H ⟨B, F0, F, Gs, A, z, q⟩ => ⟨B, F0, F, Gs, A, wpS_imp (wpS_bind q) fun o q => ?_⟩
  cases o with
  | nx s => exact fun σ' H' F' Gs' A' => ⟨s, B, F0, F', Gs', A', z, q⟩
  | rt r => exact q
  | bk l => exact nomatch l
  | ct l => exact nomatch l
theorem b1_if {S L R : Type} {c : Expr} {mc : Res Bool} {a b : List Stmt} {pos : Pos} {M1 M2 : Res (Out S L R)} {post : S → List Slot} {pl : L → List Slot} {kr : R → Slot} (hc : XT X W ss c mc) (ha : SB X W ss a M1 post pl kr) (hb : SB X W ss b M2 post pl kr) :
    B1 X W ss (.If c a b pos) (mc.bind fun t => if t then M1 else M2) post pl kr :=
  ifX (w := fun t => wB X W (if t then M1 else M2) post pl kr) hc ha hb fun D B F0 q => wpS_bind q
/-! ### while -/
def whileO {S L R : Type} (c : S → Res Bool) (f : S → Res (Out S S R)) : Nat → S → Res (Out S L R)
  | 0, _ => .stuck
  | n + 1, s => (c s).bind fun b => if b then (f s).bind fun o => (match o with
    | .nx s' => whileO c f n s'
    | .ct s' => whileO c f n s'
    | .bk s' => .ok (.nx s')
    | .rt r => .ok (.rt r)) else .ok (.nx s)
theorem b1_while {S L R : Type} {c : Expr} {body : List Stmt} {pos : Pos} {mc : S → Res Bool} {f : S → Res (Out S S R)} (n : Nat) (inv : S → List Slot) (s0 : S) {pl : L → List Slot} {kr : R → Slot}
    (hc : ∀ s, XT X W (inv s) c (mc s)) (hb : ∀ s, SB X W (inv s) body (f s) inv inv kr) (h0 : Wk ss (inv s0) := by exact Wk.refl _) (hp : PassesOwn (model X.prog X.w) X.A X.env X.xe := by exact passes_of rfl) :
    B1 X W ss (.While c body [] pos) (whileO mc f n s0) inv pl kr := by
  have hb' : PSs X body fun D σ H => ∃ s, rdX X (inv s) (wB X W (f s) inv inv kr) D σ H := ⟨fun pins s σ H D I ⟨s', q⟩ => (hb s').run pins s σ H D I q⟩
  have hc' : PT X c fun σ H Q => ∃ s, rT X W (inv s) (mc s) σ H Q := ⟨fun pins s σ H Q I ⟨s', q⟩ => (hc s').run pins s σ H Q I q⟩
  refine PS_imp (ps_while hp hc' hb') fun D σ H ⟨B, F0, F, Gs, A, q⟩ => ?_
  refine ⟨fun n σ H => ∃ s F2 Gs2, Asn X.K B F0 (inv s) σ H F2 Gs2 ∧ wpS X W (whileO mc f n s) B fun o => match o with
      | .nx s => NxOk X (inv s) D B F0
      | .rt r => RtOk X kr r D B F0
      | .bk l => BkOk X (pl l) D B F0
      | .ct l => CtOk X (pl l) D B F0, ⟨n, s0, F, Gs, A.wk h0, q⟩, fun n σ H ⟨s, F2, Gs2, A2, q2⟩ => ?_⟩
  cases n with
  | zero => exact q2.elim
  | succ n =>
    refine ⟨s, A2.sl.mono A2.ext.sub (Same.refl H), wpS_R (wpS_bind (show wpS X W ((mc s).bind _) B _ from q2)) A2.base fun t q H' s1 => ?_⟩
    have A3 := A2.grow s1 ⟨Same.refl F2, A2.ext.sub.trans s1, fun _ _ h => .inl h⟩
    cases t with
    | false => exact q σ H' F2 Gs2 A3
    | true =>
      refine ⟨fun σ' H' => ∃ s F2 Gs2, Asn X.K B F0 (inv s) σ' H' F2 Gs2 ∧ wpS X W (whileO mc f n s) B fun o => match o with
        | .nx s => NxOk X (inv s) D B F0
        | .rt r => RtOk X kr r D B F0
        | .bk l => BkOk X (pl l) D B F0
        | .ct l => CtOk X (pl l) D B F0, fun σ' H' x => ⟨n, Nat.lt_succ_self n, x⟩, s, B, F0, F2, Gs2, A3, wpS_imp (wpS_bind (show wpS X W ((f s).bind _) B _ from q)) fun o q => ?_⟩
      cases o with
      | nx s' => exact fun σ' H' F' Gs' A' => ⟨s', F', Gs', A', q⟩
      | ct s' => exact fun σ' H' F' Gs' A' => ⟨s', F', Gs', A', q⟩
      | bk s' => exact q
      | rt r => exact q
def whileR {S : Type} (c : S → Res Bool) (f : S → Res S) : Nat → S → Res S
  | 0, _ => .stuck
  | n + 1, s => (c s).bind fun b => if b then (f s).bind (whileR c f n) else .ok s
theorem whileO_R {S L R : Type} (c : S → Res Bool) (f : S → Res S) : ∀ (n : Nat) (s : S), whileO (L := L) (R := R) c (fun s => (f s).bind fun s' => .ok (.nx s')) n s = (whileR c f n s).bind fun s => .ok (.nx s)
  | 0, s => rfl
  | n + 1, s => by
    show ((c s).bind _) = ((c s).bind _).bind _
    cases c s with
    | ok b =>
      cases b with
      | true =>
        show ((f s).bind _).bind _ = ((f s).bind _).bind _
        cases f s with
        | ok s' => exact whileO_R c f n s'
        | exc x => rfl
        | stuck => rfl
      | false => rfl
    | exc x => rfl
    | stuck => rfl
theorem s1_while {S : Type} {c : Expr} {body : List Stmt} {pos : Pos} {mc : S → Res Bool} {f : S → Res S} (n : Nat) (inv : S → List Slot) (s0 : S)
    (hc : ∀ s, XT X W (inv s) c (mc s)) (hb : ∀ s, SN X W (inv s) body (f s) inv) (h0 : Wk ss (inv s0) := by exact Wk.refl _) (hp : PassesOwn (model X.prog X.w) X.A X.env X.xe := by exact passes_of rfl) :
    S1 X W ss (.While c body [] pos) (whileR mc f n s0) inv := by
  refine PS_imp (b1_while (L := Empty) (R := Unit) (pl := fun x => nomatch x) (kr := fun _ => any) n inv s0 hc (fun s => sb_of_sn (hb s)) h0 hp) fun D σ H ⟨B, F0, F, Gs, A, q⟩ => ⟨B, F0, F, Gs, A, ?_⟩
  show wpS X W (whileO mc _ n s0) B _
  rw [whileO_R]
  have q : wpS X W (whileR mc f n s0) B _ := q
  cases e : whileR mc f n s0 with
  | ok s => rw [e] at q; exact q
  | exc x => rw [e] at q; exact q
  | stuck => rw [e] at q; exact q
end
end G

namespace G
open PySem PySem.Spec PyProof.Rows L2
/-! ### comprehensions -/
theorem wipe_setc (i : Nat) (o : Option V) : ∀ (vs : List Nat) (σ : L2.St), wipe (σ.set i o) vs = if i ∈ vs then wipe σ vs else (wipe σ vs).set i o
  | [], σ => by simp [wipe]
  | v :: vs, σ => by
    show (wipe (σ.set i o) vs).set v none = if i ∈ v :: vs then (wipe σ vs).set v none else ((wipe σ vs).set v none).set i o
    rw [wipe_setc i o vs σ]
    by_cases h : i ∈ vs
    · rw [if_pos h, if_pos (List.mem_cons_of_mem _ h)]
    · rw [if_neg h]
      by_cases e : i = v
      · subst e
        rw [if_pos List.mem_cons_self, List.set_set]
      · rw [if_neg (by simp only [List.mem_cons, not_or]; exact ⟨e, h⟩), List.set_comm _ _ e]
theorem wipe_set {i : Nat} {o : Option V} {vs : List Nat} {σ : L2.St} (h : i ∈ vs) : wipe (σ.set i o) vs = wipe σ vs := by rw [wipe_setc, if_pos h]
theorem wipe_self : ∀ (vs ws : List Nat) (σ : L2.St), (∀ v ∈ ws, v ∈ vs) → wipe (wipe σ ws) vs = wipe σ vs
  | vs, [], σ, _ => rfl
  | vs, w :: ws, σ, h => by
    show wipe ((wipe σ ws).set w none) vs = wipe σ vs
    rw [wipe_set (h w List.mem_cons_self), wipe_self vs ws σ fun v m => h v (List.mem_cons_of_mem _ m)]
def wipeS (ss : List Slot) : List Nat → List Slot
  | [] => ss
  | v :: vs => (wipeS ss vs).set v any
theorem Sl.set {K : Frag} {F H : Hp} {s : Slot} {o : Option V} (x : s.P K F H o) : ∀ (i : Nat) {ss : List Slot} {σ : L2.St}, Sl K F H ss σ → Sl K F H (ss.set i s) (σ.set i o)
  | _, [], [], h => h
  | 0, _ :: _, _ :: _, ⟨_, y⟩ => ⟨x, y⟩
  | i + 1, _ :: _, _ :: _, ⟨z, y⟩ => ⟨z, Sl.set x i y⟩
  | _, [], _ :: _, h => h.elim
  | _, _ :: _, [], h => h.elim
theorem Sl.wipe {K : Frag} {F H : Hp} : ∀ (vs : List Nat) {ss : List Slot} {σ : L2.St}, Sl K F H ss σ → Sl K F H (wipeS ss vs) (L2.wipe σ vs)
  | [], _, _, h => h
  | v :: vs, _, _, h => Sl.set (s := any) (o := none) trivial v (Sl.wipe vs h)
abbrev WF : WX := fun _ _ _ _ => False
/-- a target in a comprehension -/
def TgC (X : Cx) (scope : Scope) (vs : List Nat) {α : Type} [Enc α] (tg : Expr) (u : α → List Slot → List Slot) : Prop :=
  ∃ g, (∀ (s : Shared) (H : Hp) (C : Addr) (cl : List (Str × Addr)) (fp : List Addr), PG (X.blk s H scope (compEnvC scope cl C X.env) fp) tg g) ∧
    ∀ (a : α) (v : V) (F H : Hp) (ss : List Slot) (σ : L2.St) (Q : L2.St → Hp → Prop), Sl X.K F H ss σ → Same F H → Enc.rep X.K F v a →
      (∀ σ', Sl X.K F H (u a ss) σ' → L2.wipe σ' vs = L2.wipe σ vs → Q σ' H) → g v σ H Q
section
variable {X : Cx} {W : WX} {ss : List Slot} {tg : Expr} {scope : Scope} {vs : List Nat}
theorem tc_name (i : Nat) {α : Type} [Enc α] {x : Str} {pos : Pos} (hN : X.N.Nodup) (hi : X.N[i]? = some x := by rfl) (hv : i ∈ vs := by decide)
    (hx : ∀ (s : Shared) (H : Hp) (C : Addr) (cl : List (Str × Addr)) (fp : List Addr), Loc (X.blk s H scope (compEnvC scope cl C X.env) fp).env.scope x := by intro _ _ _ _ _; first | exact Or.inl rfl | exact Or.inr rfl)
    (hf : ∀ (s : Shared) (H : Hp) (C : Addr) (cl : List (Str × Addr)) (fp : List Addr), (X.blk s H scope (compEnvC scope cl C X.env) fp).fn x = true ∨ (X.blk s H scope (compEnvC scope cl C X.env) fp).env.scope.names.lookup x = some .local := by intro _ _ _ _ _; first | exact .inl rfl | exact .inr rfl) :
    TgC X scope vs (α := α) (.Name x pos) (fun a ss => ss.set i (fr a)) :=
  ⟨gName i, fun s H C cl fp => pg_name (X := X.blk s H scope (compEnvC scope cl C X.env) fp) hN hi (hx s H C cl fp) (hf s H C cl fp), fun a v F H ss σ Q sl sf r q => q _ (sl.set (s := fr a) ⟨v, rfl, r⟩ i) (wipe_set hv)⟩
theorem tc_two {α β : Type} [Enc α] [Enc β] {t1 t2 : Expr} {k : Nat} {pos : Pos} {u1 : α → List Slot → List Slot} {u2 : β → List Slot → List Slot} (h1 : TgC X scope vs t1 u1) (h2 : TgC X scope vs t2 u2) (hc : X.calm = true := by rfl)
    (hs1 : ∀ env, (assignEach [t1, t2] env).map (·.2) = assign t1 env :: (assignEach [t2] env).map (·.2) := by intro _; rfl) (hs2 : ∀ env, (assignEach [t2] env).map (·.2) = assign t2 env :: (assignEach [] env).map (·.2) := by intro _; rfl)
    (hn : ∀ env, (assignEach [t1, t2] env).length = 2 := by intro _; rfl) (hst : ∀ env, (assignEach [t1, t2] env).findIdx? (·.1) = none := by intro _; rfl) :
    TgC X scope vs (.Tuple [t1, t2] k pos) (fun (x : α × β) ss => u2 x.2 (u1 x.1 ss)) := by
  obtain ⟨g1, p1, q1⟩ := h1
  obtain ⟨g2, p2, q2⟩ := h2
  refine ⟨gTup X.K 2 (gCons g1 (gCons g2 gNil)), fun s H C cl fp => pg_tup (X := X.blk s H scope (compEnvC scope cl C X.env) fp) hc (pgs_cons (p1 s H C cl fp) (pgs_cons (p2 s H C cl fp) pgs_nil (hs2 _)) (hs1 _)) (hn _) (hst _), fun a v F H ss σ Q A sf r q => ?_⟩
  obtain ⟨p, v1, v2, rfl, hp, r1, r2⟩ := r
  refine ⟨p, [v1, v2], rfl, SqT.of (sf _ _ hp), rfl, v1, [v2], rfl, q1 _ _ _ _ _ _ _ A sf r1 fun σ1 A1 e1 => ⟨v2, [], rfl, q2 _ _ _ _ _ _ _ A1 sf r2 fun σ2 A2 e2 => ⟨rfl, q σ2 A2 (e2.trans e1)⟩⟩⟩
theorem tc_three {α β γ : Type} [Enc α] [Enc β] [Enc γ] {t1 t2 t3 : Expr} {k : Nat} {pos : Pos} {u1 : α → List Slot → List Slot} {u2 : β → List Slot → List Slot} {u3 : γ → List Slot → List Slot} (h1 : TgC X scope vs t1 u1) (h2 : TgC X scope vs t2 u2) (h3 : TgC X scope vs t3 u3) (hc : X.calm = true := by rfl)
    (hs1 : ∀ env, (assignEach [t1, t2, t3] env).map (·.2) = assign t1 env :: (assignEach [t2, t3] env).map (·.2) := by intro _; rfl) (hs2 : ∀ env, (assignEach [t2, t3] env).map (·.2) = assign t2 env :: (assignEach [t3] env).map (·.2) := by intro _; rfl)
    (hs3 : ∀ env, (assignEach [t3] env).map (·.2) = assign t3 env :: (assignEach [] env).map (·.2) := by intro _; rfl)
    (hn : ∀ env, (assignEach [t1, t2, t3] env).length = 3 := by intro _; rfl) (hst : ∀ env, (assignEach [t1, t2, t3] env).findIdx? (·.1) = none := by intro _; rfl) :
    TgC X scope vs (.Tuple [t1, t2, t3] k pos) (fun (x : T3 α β γ) ss => u3 x.c (u2 x.b (u1 x.a ss))) := by
  obtain ⟨g1, p1, q1⟩ := h1
  obtain ⟨g2, p2, q2⟩ := h2
  obtain ⟨g3, p3, q3⟩ := h3
  refine ⟨gTup X.K 3 (gCons g1 (gCons g2 (gCons g3 gNil))), fun s H C cl fp => pg_tup (X := X.blk s H scope (compEnvC scope cl C X.env) fp) hc (pgs_cons (p1 s H C cl fp) (pgs_cons (p2 s H C cl fp) (pgs_cons (p3 s H C cl fp) pgs_nil (hs3 _)) (hs2 _)) (hs1 _)) (hn _) (hst _), fun a v F H ss σ Q A sf r q => ?_⟩
  obtain ⟨p, v1, v2, v3, rfl, hp, r1, r2, r3⟩ := r
  refine ⟨p, [v1, v2, v3], rfl, SqT.of (sf _ _ hp), rfl, v1, [v2, v3], rfl, q1 _ _ _ _ _ _ _ A sf r1 fun σ1 A1 e1 => ⟨v2, [v3], rfl, q2 _ _ _ _ _ _ _ A1 sf r2 fun σ2 A2 e2 => ⟨v3, [], rfl, q3 _ _ _ _ _ _ _ A2 sf r3 fun σ3 A3 e3 => ⟨rfl, q σ3 A3 (e3.trans (e2.trans e1))⟩⟩⟩⟩
end
/-- the items that a comprehension makes; what raises within is stuck -/
def lcR {α β : Type} (p : α → Res Bool) (g : α → Res β) : List α → Res (List β)
  | [] => .ok []
  | a :: as => match p a with
    | .ok true => (match g a with
      | .ok b => (lcR p g as).bind fun bs => .ok (b :: bs)
      | _ => .stuck)
    | .ok false => lcR p g as
    | _ => .stuck
def lcT {α β : Type} (p : α → Res Bool) (g : α → Res β) (xs : List α) : Res (List β) := guardR (decide (xs.length ≤ 1000000)) (lcR p g xs)
theorem lcR_pure {α β : Type} (p : α → Bool) (g : α → β) : ∀ xs : List α, lcR (fun a => .ok (p a)) (fun a => .ok (g a)) xs = .ok ((xs.filter p).map g)
  | [] => rfl
  | a :: as => by
    show (match (Res.ok (p a) : Res Bool) with
      | .ok true => (match (Res.ok (g a) : Res β) with
        | .ok b => (lcR _ _ as).bind fun bs => .ok (b :: bs)
        | _ => .stuck)
      | .ok false => lcR _ _ as
      | _ => .stuck) = _
    rw [lcR_pure p g as]
    cases e : p a with
    | true => simp [List.filter_cons, e]
    | false => simp [List.filter_cons, e]
theorem lcR_ok {α β : Type} {p : α → Res Bool} {g : α → Res β} {g' : α → β} : ∀ {xs : List α}, (∀ a ∈ xs, p a = .ok true) → (∀ a ∈ xs, g a = .ok (g' a)) → lcR p g xs = .ok (xs.map g')
  | [], _, _ => rfl
  | a :: as, hp, hg => by
    unfold lcR
    rw [hp a List.mem_cons_self, hg a List.mem_cons_self, lcR_ok (fun b m => hp b (List.mem_cons_of_mem _ m)) (fun b m => hg b (List.mem_cons_of_mem _ m))]
    rfl
theorem lcR_filter {α β : Type} {p : α → Res Bool} {g : α → Res β} {p' : α → Bool} {g' : α → β} : ∀ {xs : List α}, (∀ a ∈ xs, p a = .ok (p' a)) → (∀ a ∈ xs, p' a = true → g a = .ok (g' a)) → lcR p g xs = .ok ((xs.filter p').map g')
  | [], _, _ => rfl
  | a :: as, hp, hg => by
    unfold lcR
    have ih := lcR_filter (p := p) (g := g) (p' := p') (g' := g') (xs := as) (fun b m => hp b (List.mem_cons_of_mem _ m)) (fun b m => hg b (List.mem_cons_of_mem _ m))
    rw [hp a List.mem_cons_self, ih]
    cases e : p' a with
    | true => rw [hg a List.mem_cons_self e]; simp [List.filter_cons, e]
    | false => simp [List.filter_cons, e]
section
variable {X : Cx} {W : WX} {ss : List Slot} {tg elt iter : Expr} {scope : Scope} {own : List (Str × Nat)} {pos : Pos}
/-- what a comprehension's block reads -/
theorem lc_read {α β : Type} [Enc α] [Enc β] {vs : List Nat} {u : α → List Slot → List Slot} {m : Res (List α)} {p : α → Res Bool} {gg : α → Res β} {g : TG}
    (qg : ∀ (a : α) (v : V) (F H : Hp) (ss : List Slot) (σ : L2.St) (Q : L2.St → Hp → Prop), Sl X.K F H ss σ → Same F H → Enc.rep X.K F v a → (∀ σ', Sl X.K F H (u a ss) σ' → L2.wipe σ' vs = L2.wipe σ vs → Q σ' H) → g v σ H Q)
    {σ : L2.St} {H : Hp} {Q : VK} {F : Hp} (sf : Same F H) (sl : Sl X.K F H ss σ)
    (q : wpR X W (m.bind fun xs => lcT p gg xs) σ H fun a => ∀ v H' F' G', Same H H' → Ext F H F' H' → Priv G' H F' H' → (ow a).P X.K F' G' (some v) → Q v H') :
    tLc (rdPI X W ss m) g (fun σ H Q => ∃ a, rT X WF (u a (wipeS ss vs)) (p a) σ H Q) (fun σ H Q => ∃ a, rK X WF (u a (wipeS ss vs)) (gg a) fr σ H Q) vs σ H Q := by
  refine ⟨F, sf, sl, wpR_imp (wpR_bind q) (Same.refl H) fun xs q J H1 F1 s1 ex1 it D nD => ?_⟩
  obtain ⟨hlen, q⟩ := wpR_guard q
  have hlen : xs.length ≤ 1000000 := of_decide_eq_true hlen
  have nF1 : F1 D = none := Same.free ex1.sub nD
  -- the whole comes out well
  obtain ⟨bs, ebs⟩ : ∃ bs, lcR p gg xs = .ok bs := by
    cases e : lcR p gg xs with
    | ok bs => exact ⟨bs, rfl⟩
    | stuck => rw [e] at q; exact q.elim
    | exc x =>
      exfalso
      have nx : ∀ (l : List α) (x : Exn), lcR p gg l ≠ .exc x := by
        intro l
        induction l with
        | nil => intro x h; cases h
        | cons a as ih =>
          intro x h
          unfold lcR at h
          split at h
          · split at h
            · cases e2 : lcR p gg as with
              | ok bs => rw [e2] at h; cases h
              | exc y => exact ih y e2
              | stuck => rw [e2] at h; cases h
            · cases h
          · exact ih x h
          · cases h
      exact nx xs x e
  rw [ebs] at q
  refine ⟨fun i n H => i + n = xs.length ∧ ∃ acc F2 done left, H D = some (.lst acc) ∧ acc.length ≤ i ∧ Same H1 H ∧ Ext F1 H1 F2 H ∧ F2 D = none ∧ All2 (fun v a => Enc.rep X.K F2 v a) acc done ∧ lcR p gg (xs.drop i) = .ok left ∧ bs = done ++ left,
    ⟨xs.length, by omega, [], F1, [], bs, upd_same, Nat.le_refl _, same_upd nD, ⟨Same.refl _, ex1.sub.trans (same_upd nD), fun _ _ h => .inl h⟩, nF1, trivial, ebs, rfl⟩, fun i n H2 ⟨hn, acc, F2, done, left, hD, hacc, s2, ex2, nF2, ra, el, eb⟩ => ?_⟩
  by_cases hlt : i < xs.length
  · refine .inr ?_
    have hx : xs[i]? = some xs[i] := List.getElem?_eq_getElem hlt
    obtain ⟨hgo, hy⟩ := it.go i F2 H2 xs[i] ex2.le ex2.sub hx
    rw [List.drop_eq_getElem_cons hlt] at el
    unfold lcR at el
    refine ⟨hgo, fun H' => ∃ acc F2 done left, H' D = some (.lst acc) ∧ acc.length ≤ i + 1 ∧ Same H1 H' ∧ Ext F1 H1 F2 H' ∧ F2 D = none ∧ All2 (fun v a => Enc.rep X.K F2 v a) acc done ∧ lcR p gg (xs.drop (i + 1)) = .ok left ∧ bs = done ++ left,
      fun H' x => ⟨n - 1, by omega, by omega, x⟩, fun v H' y => ?_⟩
    obtain ⟨s3, F3, ex3, r3⟩ := hy v H' y
    have keepD : ∀ {Fa Fb Ha Hb : Hp}, Fa D = none → Ext Fa Ha Fb Hb → Ha D = some (.lst acc) → Same Ha Hb → Fb D = none := fun {Fa Fb Ha Hb} n0 ex hh ss => by
      cases e : Fb D with
      | none => rfl
      | some w =>
        rcases ex.new D w e with z | z | z
        · rw [n0] at z; cases z
        · rw [hh] at z; cases z
        · have t := ex.sub _ _ e
          rw [ss _ _ hh] at t; cases t; cases z
    have nF3 := keepD nF2 ex3 hD s3
    have hD3 := s3 _ _ hD
    have slW : Sl X.K F3 H' (wipeS ss vs) (L2.wipe σ vs) := (sl.wipe vs).mono (ex1.le.trans (ex2.le.trans ex3.le)) (s1.trans (s2.trans s3))
    refine qg xs[i] v F3 H' (wipeS ss vs) (L2.wipe σ vs) _ slW ex3.sub r3 fun σ4 sl4 e4 => ⟨e4.trans (wipe_self vs vs σ fun _ m => m), xs[i], sl4.mono ex3.sub (Same.refl H'), ?_⟩
    cases ep : p xs[i] with
    | stuck => rw [ep] at el; cases el
    | exc x => rw [ep] at el; cases el
    | ok b =>
      rw [ep] at el
      intro H5 s5
      have ex5 : Ext F3 H' F3 H5 := ⟨Same.refl _, ex3.sub.trans s5, fun _ _ h => .inl h⟩
      have exF : Ext F1 H1 F3 H5 := ex2.trans s2 (ex3.trans s3 ex5)
      cases b with
      | false =>
        rw [if_neg Bool.false_ne_true]
        exact ⟨acc, F3, done, left, s5 _ _ hD3, Nat.le_succ_of_le hacc, s2.trans (s3.trans s5), exF, nF3, ra.mono ex3.le, el, eb⟩
      | true =>
        rw [if_pos rfl]
        refine ⟨xs[i], F3, ex5.sub, sl4.mono (Same.refl F3) s5, ?_⟩
        cases eg : gg xs[i] with
        | stuck => rw [eg] at el; cases el
        | exc x => rw [eg] at el; cases el
        | ok b =>
          rw [eg] at el
          intro y H6 F6 G6 s6 ex6 _ ⟨y', e6, r6⟩
          cases e6
          have hD5 := s5 _ _ hD3
          have nF6 := keepD nF3 ex6 hD5 s6
          have hD6 := s6 _ _ hD5
          obtain ⟨left', el'⟩ : ∃ l, lcR p gg (xs.drop (i + 1)) = .ok l := by
            cases e7 : lcR p gg (xs.drop (i + 1)) with
            | ok l => exact ⟨l, rfl⟩
            | exc x => rw [e7] at el; cases el
            | stuck => rw [e7] at el; cases el
          rw [el'] at el
          have el2 : b :: left' = left := by injection el
          have nD1 : H1 D = none := nD
          have sU : Same H1 (upd H6 D (.lst (acc ++ [y]))) := fun c w z => by
            rw [upd_ne (fun e => by rw [e, nD1] at z; cases z)]
            exact s6 _ _ (s5 _ _ (s3 _ _ (s2 _ _ z)))
          refine ⟨acc, hD6, Nat.lt_of_le_of_lt (by omega : acc.length ≤ 1000000) (by decide), acc ++ [y], F6, done ++ [b], left', upd_same, by rw [List.length_append, List.length_singleton]; omega, sU, ⟨exF.le.trans ex6.le, fun c w z => ?_, fun c w z => ?_⟩, nF6, All2.append (ra.mono (ex3.le.trans ex6.le)) ⟨r6, trivial⟩, el', by rw [eb, ← el2]; simp⟩
          · rw [upd_ne (fun e => by rw [e, nF6] at z; cases z)]
            exact ex6.sub _ _ z
          · rcases ex6.new c w z with z | z | z
            · exact exF.new c w z
            · exact .inr (.inl (Same.free (s2.trans (s3.trans s5)) z))
            · exact .inr (.inr z)
  · refine .inl ⟨it.stop i F2 H2 ex2.le ex2.sub (by omega), ?_⟩
    rw [List.drop_eq_nil_iff.mpr (by omega)] at el
    have e0 : ([] : List β) = left := by injection el
    subst e0
    rw [List.append_nil] at eb
    subst eb
    have nH : H D = none := Same.free s1 nD
    refine q (.ref D) H2 F2 (upd noHp D (.lst acc)) (s1.trans s2) (ex1.trans s1 ex2) (fun c w z => ?_) ⟨D, acc, rfl, upd_same, ra⟩
    by_cases e : c = D
    · subst e
      rw [upd_same] at z; cases z
      exact ⟨hD, nH, nF2, rfl⟩
    · rw [upd_ne e] at z; cases z
theorem xk_lc {α β : Type} [Enc α] [Enc β] {u : α → List Slot → List Slot} {m : Res (List α)} {gg : α → Res β} (hi : XIt X W ss tg iter m) (hg : TgC X scope (own.map (·.2)) tg u)
    (he : ∀ a s H C cl fp, XK (X.blk s H scope (compEnvC scope cl C X.env) fp) WF (u a (wipeS ss (own.map (·.2)))) elt (gg a) fr) (hN : X.N.Nodup) (ok : BlkOk X.N X.env.scope scope own) (hc : X.calm = true := by rfl) (hs : ∀ x, foldedSetIterable iter X.env x = pure x := by intro _; rfl) :
    XK X W ss (.ListComp elt [⟨tg, iter, [], 0⟩] scope pos) (m.bind fun xs => lcT (fun _ => .ok true) gg xs) ow := by
  obtain ⟨g, pg, qg⟩ := hg
  have he' : ∀ (s : Shared) (H : Hp) (C : Addr) (cl : List (Str × Addr)) (fp : List Addr), PE (X.blk s H scope (compEnvC scope cl C X.env) fp) elt (fun σ H Q => ∃ a, rK X WF (u a (wipeS ss (own.map (·.2)))) (gg a) fr σ H Q) := fun s H C cl fp =>
    ⟨fun pins s' σ H' Q I ⟨a, q⟩ => (he a s H C cl fp).run pins s' σ H' Q I q⟩
  have ht' : ∀ (s : Shared) (H : Hp) (C : Addr) (cl : List (Str × Addr)) (fp : List Addr), PTs (X.blk s H scope (compEnvC scope cl C X.env) fp) [] (fun σ H Q => ∃ a, rT X WF (u a (wipeS ss (own.map (·.2)))) ((fun _ => .ok true : α → Res Bool) a) σ H Q) := fun s H C cl fp =>
    ⟨fun pins s' σ H' Q I ⟨a, sl, q⟩ => pts_nil.run pins s' σ H' Q I (q H' (Same.refl H'))⟩
  exact PE_imp (pe_lc hc hN hi ok pg ht' he' hs) fun σ H Q ⟨F, sf, sl, q⟩ => lc_read qg sf sl q
theorem xk_lcIf {α β : Type} [Enc α] [Enc β] {cond : Expr} {u : α → List Slot → List Slot} {m : Res (List α)} {p : α → Res Bool} {gg : α → Res β} (hi : XIt X W ss tg iter m) (hg : TgC X scope (own.map (·.2)) tg u)
    (ht : ∀ a s H C cl fp, XT (X.blk s H scope (compEnvC scope cl C X.env) fp) WF (u a (wipeS ss (own.map (·.2)))) cond (p a))
    (he : ∀ a s H C cl fp, XK (X.blk s H scope (compEnvC scope cl C X.env) fp) WF (u a (wipeS ss (own.map (·.2)))) elt (gg a) fr) (hN : X.N.Nodup) (ok : BlkOk X.N X.env.scope scope own) (hc : X.calm = true := by rfl) (hs : ∀ x, foldedSetIterable iter X.env x = pure x := by intro _; rfl) :
    XK X W ss (.ListComp elt [⟨tg, iter, [cond], 0⟩] scope pos) (m.bind fun xs => lcT p gg xs) ow := by
  obtain ⟨g, pg, qg⟩ := hg
  have he' : ∀ (s : Shared) (H : Hp) (C : Addr) (cl : List (Str × Addr)) (fp : List Addr), PE (X.blk s H scope (compEnvC scope cl C X.env) fp) elt (fun σ H Q => ∃ a, rK X WF (u a (wipeS ss (own.map (·.2)))) (gg a) fr σ H Q) := fun s H C cl fp =>
    ⟨fun pins s' σ H' Q I ⟨a, q⟩ => (he a s H C cl fp).run pins s' σ H' Q I q⟩
  have ht0 : ∀ (s : Shared) (H : Hp) (C : Addr) (cl : List (Str × Addr)) (fp : List Addr), PT (X.blk s H scope (compEnvC scope cl C X.env) fp) cond (fun σ H Q => ∃ a, rT X WF (u a (wipeS ss (own.map (·.2)))) (p a) σ H Q) := fun s H C cl fp =>
    ⟨fun pins s' σ H' Q I ⟨a, q⟩ => (ht a s H C cl fp).run pins s' σ H' Q I q⟩
  exact PE_imp (pe_lc hc hN hi ok pg (fun s H C cl fp => pts_one (ht0 s H C cl fp)) he' hs) fun σ H Q ⟨F, sf, sl, q⟩ => lc_read qg sf sl q
/-- name = [..] on one line -/
theorem s1_lc (i : Nat) {α β : Type} [Enc α] [Enc β] {y : Str} {py spos : Pos} {u : α → List Slot → List Slot} {m : Res (List α)} {gg : α → Res β} (hi : XIt X W ss tg iter m) (hg : TgC X scope (own.map (·.2)) tg u)
    (he : ∀ a s H C cl fp, XK (X.blk s H scope (compEnvC scope cl C X.env) fp) WF (u a (wipeS ss (own.map (·.2)))) elt (gg a) fr) (hN : X.N.Nodup) (ok : BlkOk X.N X.env.scope scope own) (hsw : swapsWith (.ListComp elt [⟨tg, iter, [], 0⟩] scope pos) (some (.Name y py)) spos.line X.env = pure true)
    (hy : X.N[i]? = some y := by rfl) (hyl : X.env.scope.names.lookup y = some .local := by rfl) (hc : X.calm = true := by rfl) (hs : ∀ x, foldedSetIterable iter X.env x = pure x := by intro _; rfl) :
    S1 X W ss (.Assign [.Name y py] (.ListComp elt [⟨tg, iter, [], 0⟩] scope pos) spos) (m.bind fun xs => lcT (fun _ => .ok true) gg xs) (fun bs => ss.set i (ow bs)) := by
  obtain ⟨g, pg, qg⟩ := hg
  have he' : ∀ (s : Shared) (H : Hp) (C : Addr) (cl : List (Str × Addr)) (fp : List Addr), PE (X.blk s H scope (compEnvC scope cl C X.env) fp) elt (fun σ H Q => ∃ a, rK X WF (u a (wipeS ss (own.map (·.2)))) (gg a) fr σ H Q) := fun s H C cl fp =>
    ⟨fun pins s' σ H' Q I ⟨a, q⟩ => (he a s H C cl fp).run pins s' σ H' Q I q⟩
  have ht' : ∀ (s : Shared) (H : Hp) (C : Addr) (cl : List (Str × Addr)) (fp : List Addr), PTs (X.blk s H scope (compEnvC scope cl C X.env) fp) [] (fun σ H Q => ∃ a, rT X WF (u a (wipeS ss (own.map (·.2)))) ((fun _ => .ok true : α → Res Bool) a) σ H Q) := fun s H C cl fp =>
    ⟨fun pins s' σ H' Q I ⟨a, sl, q⟩ => pts_nil.run pins s' σ H' Q I (q H' (Same.refl H'))⟩
  refine PS_imp (ps_setLc hc hN hy hyl hsw hi ok pg ht' he' hs) fun D σ H ⟨B, F0, F, Gs, A, q⟩ => lc_read qg A.ext.sub A.sl (wpS_R q A.base fun a q v H' F' G' s ex pr k => ?_)
  exact q _ H' F' _ (A.set (s := ow a) s ex pr k i)
theorem s1_lcIf (i : Nat) {α β : Type} [Enc α] [Enc β] {y : Str} {py spos : Pos} {cond : Expr} {u : α → List Slot → List Slot} {m : Res (List α)} {p : α → Res Bool} {gg : α → Res β} (hi : XIt X W ss tg iter m) (hg : TgC X scope (own.map (·.2)) tg u)
    (ht : ∀ a s H C cl fp, XT (X.blk s H scope (compEnvC scope cl C X.env) fp) WF (u a (wipeS ss (own.map (·.2)))) cond (p a))
    (he : ∀ a s H C cl fp, XK (X.blk s H scope (compEnvC scope cl C X.env) fp) WF (u a (wipeS ss (own.map (·.2)))) elt (gg a) fr) (hN : X.N.Nodup) (ok : BlkOk X.N X.env.scope scope own) (hsw : swapsWith (.ListComp elt [⟨tg, iter, [cond], 0⟩] scope pos) (some (.Name y py)) spos.line X.env = pure true)
    (hy : X.N[i]? = some y := by rfl) (hyl : X.env.scope.names.lookup y = some .local := by rfl) (hc : X.calm = true := by rfl) (hs : ∀ x, foldedSetIterable iter X.env x = pure x := by intro _; rfl) :
    S1 X W ss (.Assign [.Name y py] (.ListComp elt [⟨tg, iter, [cond], 0⟩] scope pos) spos) (m.bind fun xs => lcT p gg xs) (fun bs => ss.set i (ow bs)) := by
  obtain ⟨g, pg, qg⟩ := hg
  have he' : ∀ (s : Shared) (H : Hp) (C : Addr) (cl : List (Str × Addr)) (fp : List Addr), PE (X.blk s H scope (compEnvC scope cl C X.env) fp) elt (fun σ H Q => ∃ a, rK X WF (u a (wipeS ss (own.map (·.2)))) (gg a) fr σ H Q) := fun s H C cl fp =>
    ⟨fun pins s' σ H' Q I ⟨a, q⟩ => (he a s H C cl fp).run pins s' σ H' Q I q⟩
  have ht0 : ∀ (s : Shared) (H : Hp) (C : Addr) (cl : List (Str × Addr)) (fp : List Addr), PT (X.blk s H scope (compEnvC scope cl C X.env) fp) cond (fun σ H Q => ∃ a, rT X WF (u a (wipeS ss (own.map (·.2)))) (p a) σ H Q) := fun s H C cl fp =>
    ⟨fun pins s' σ H' Q I ⟨a, q⟩ => (ht a s H C cl fp).run pins s' σ H' Q I q⟩
  refine PS_imp (ps_setLc hc hN hy hyl hsw hi ok pg (fun s H C cl fp => pts_one (ht0 s H C cl fp)) he' hs) fun D σ H ⟨B, F0, F, Gs, A, q⟩ => lc_read qg A.ext.sub A.sl (wpS_R q A.base fun a q v H' F' G' s ex pr k => ?_)
  exact q _ H' F' _ (A.set (s := ow a) s ex pr k i)
end
end G

namespace G
open PySem PySem.Spec PyProof.Rows L2
/-- an operation on two held values -/
structure Bi (X : Cx) (r : R2) {α β γ : Type} [Enc α] [Enc β] [Enc γ] (g : α → β → Res γ) : Prop where
  op : Op2 X r g
  nx : ∀ a b, NoX (g a b)
section
variable {X : Cx} {W : WX} {ss : List Slot} {pos : Pos} {a b : Expr}
theorem x_bin {α β γ : Type} [Enc α] [Enc β] [Enc γ] {op : Operator} {r : R2} {g : α → β → Res γ} {m1 : Res α} {m2 : Res β} (hr : OpR X (binaryOp op) r) (bi : Bi X r g) (h1 : XI X W ss a m1) (h2 : XI X W ss b m2) :
    XI X W ss (.BinOp a op b pos) (m1.bind fun a => m2.bind fun b => g a b) := xi_bin hr bi.op bi.nx h1 h2
theorem x_cmp {α β γ : Type} [Enc α] [Enc β] [Enc γ] {op : CmpOp} {r : R2} {g : α → β → Res γ} {m1 : Res α} {m2 : Res β} (hr : OpR X (compareOp op) r) (bi : Bi X r g) (hm : behindInMarks op b = false) (h1 : XI X W ss a m1) (h2 : XI X W ss b m2) :
    XI X W ss (.Compare a [op] [b] pos) (m1.bind fun a => m2.bind fun b => g a b) := xi_cmp hr bi.op bi.nx hm h1 h2
theorem t_cmp {α β : Type} [Enc α] [Enc β] {op : CmpOp} {r : R2} {g : α → β → Res Bool} {m1 : Res α} {m2 : Res β} (hr : OpR X (compareOp op) r) (bi : Bi X r g) (hm : behindInMarks op b = false) (h1 : XI X W ss a m1) (h2 : XI X W ss b m2) :
    XT X W ss (.Compare a [op] [b] pos) (m1.bind fun a => m2.bind fun b => g a b) := xt_cmp hr bi.op bi.nx hm h1 h2
/-! ### ints -/
theorem b_add : Bi X (rI0 fun i j => .int (i + j)) (fun i j : Int => Res.ok (i + j)) := ⟨op2_I0 fun _ _ _ _ => rfl, fun _ _ => noX_ok⟩
theorem b_sub : Bi X (rI0 fun i j => .int (i - j)) (fun i j : Int => Res.ok (i - j)) := ⟨op2_I0 fun _ _ _ _ => rfl, fun _ _ => noX_ok⟩
def in64 (i : Int) : Bool := decide (-(2 ^ 64) < i) && decide (i < 2 ^ 64)
def mulR (i j : Int) : Res Int := guardR (in64 i || in64 j) (.ok (i * j))
theorem b_mul : Bi X (L2.rI CMul fun i j => .int (i * j)) mulR := ⟨op2_I (fun i j h => by
  unfold in64 at h
  simp only [Bool.or_eq_true, Bool.and_eq_true, decide_eq_true_eq] at h
  exact h) fun _ _ _ _ => rfl, fun _ _ => noX_guard⟩
theorem mulR_l {i j : Int} (h1 : -(2 ^ 64) < i) (h2 : i < 2 ^ 64) : mulR i j = .ok (i * j) := guardR_of (by unfold in64; rw [decide_eq_true h1, decide_eq_true h2]; rfl)
theorem mulR_r {i j : Int} (h1 : -(2 ^ 64) < j) (h2 : j < 2 ^ 64) : mulR i j = .ok (i * j) := guardR_of (by unfold in64; rw [decide_eq_true h1, decide_eq_true h2]; exact Bool.or_true _)
def divR (i j : Int) : Res Int := guardR (decide (0 < j) && decide (j < 10 ^ 70)) (.ok (i / j))
theorem b_div : Bi X (L2.rI CDivW fun i j => .int (i / j)) divR := ⟨op2_I (fun i j h => by
  simp only [Bool.and_eq_true, decide_eq_true_eq] at h
  refine wide_div (b := 250) h.1 ?_ (by decide) (by decide)
  have h2 := h.2
  have h1 := h.1
  omega) fun _ _ _ _ => rfl, fun _ _ => noX_guard⟩
theorem divR_of {i j : Int} (h1 : 0 < j) (h2 : j < 10 ^ 70) : divR i j = .ok (i / j) := guardR_of (by rw [decide_eq_true h1, decide_eq_true h2]; rfl)
def modR (i j : Int) : Res Int := guardR (decide (0 < j)) (.ok (i % j))
theorem b_mod : Bi X (L2.rI (fun _ j => 0 < j) fun i j => .int (i % j)) modR := ⟨op2_I (fun i j h => of_decide_eq_true h) fun _ _ _ _ => rfl, fun _ _ => noX_guard⟩
theorem modR_of {i j : Int} (h1 : 0 < j) : modR i j = .ok (i % j) := guardR_of (by simp [h1])
/-- a written power -/
theorem xi_pow {i j : Int} {k1 k2 : Nat} {p1 p2 : Pos} (h : CPow i j) : XI X W ss (.BinOp (.Constant (.int i) k1 p1) .Pow (.Constant (.int j) k2 p2) pos) (.ok (i ^ j.toNat)) :=
  PE_imp (pe_op op_pow pe_int pe_int) fun σ H Q ⟨_, q⟩ => ⟨i, j, rfl, rfl, h, q _ H (Same.refl H) rfl⟩
theorem xi_neg {m : Res Int} (h : XI X W ss a m) : XI X W ss (.UnaryOp .USub a pos) (m.bind fun i => .ok (-i)) :=
  PE_imp (pe_un un_neg h) fun σ H Q ⟨sl, q⟩ => ⟨sl, wpR_imp (wpR_bind q) (Same.refl H) fun i q v H1 s1 r1 => ⟨i, r1, q _ H1 s1 rfl⟩⟩
theorem b_lt : Bi X (rI0 fun i j => .bl (decide (i < j))) (fun i j : Int => Res.ok (decide (i < j))) := ⟨op2_I0 fun _ _ _ _ => rfl, fun _ _ => noX_ok⟩
theorem b_le : Bi X (rI0 fun i j => .bl (decide (i ≤ j))) (fun i j : Int => Res.ok (decide (i ≤ j))) := ⟨op2_I0 fun _ _ _ _ => rfl, fun _ _ => noX_ok⟩
theorem b_gt : Bi X (rI0 fun i j => .bl (decide (i > j))) (fun i j : Int => Res.ok (decide (i > j))) := ⟨op2_I0 fun _ _ _ _ => rfl, fun _ _ => noX_ok⟩
theorem b_ge : Bi X (rI0 fun i j => .bl (decide (i ≥ j))) (fun i j : Int => Res.ok (decide (i ≥ j))) := ⟨op2_I0 fun _ _ _ _ => rfl, fun _ _ => noX_ok⟩
/-! ### == of what is no object -/
class Sca (α : Type) [Enc α] where
  v : α → V
  flat : ∀ {K : Frag} {H : Hp} {u : V} {a : α}, Enc.rep K H u a → u = v a
/-- alike kinds -/
class ScaEq (α β : Type) [Enc α] [Enc β] [Sca α] [Sca β] where
  ok : ∀ (a : α) (b : β), scal (Sca.v a) (Sca.v b) = true
  eq : α → β → Bool
  iff : ∀ (a : α) (b : β), decide (Sca.v a = Sca.v b) = eq a b
instance : Sca Int := ⟨.int, fun h => h⟩
instance : Sca Bool := ⟨.bl, fun h => h⟩
instance : Sca Str := ⟨.str, fun h => h⟩
instance : Sca (Option Int) := ⟨fun o => match o with | none => .non | some i => .int i, fun {K H u o} h => by cases o with | none => exact h | some i => exact h.2⟩
instance : Sca (Option Str) := ⟨fun o => match o with | none => .non | some i => .str i, fun {K H u o} h => by cases o with | none => exact h | some i => exact h.2⟩
instance : ScaEq Int Int := ⟨fun _ _ => rfl, fun a b => decide (a = b), fun a b => by show decide (V.int a = V.int b) = _; by_cases e : a = b <;> simp [e]⟩
instance : ScaEq Bool Bool := ⟨fun _ _ => rfl, fun a b => decide (a = b), fun a b => by show decide (V.bl a = V.bl b) = _; by_cases e : a = b <;> simp [e]⟩
instance : ScaEq Str Str := ⟨fun _ _ => rfl, fun a b => decide (a = b), fun a b => by show decide (V.str a = V.str b) = _; by_cases e : a = b <;> simp [e]⟩
instance : ScaEq (Option Int) (Option Int) := ⟨fun a b => by cases a <;> cases b <;> rfl, fun a b => decide (a = b), fun a b => by
  cases a <;> cases b <;> first
    | rfl
    | (rename_i x y; show decide (V.int x = V.int y) = _; by_cases e : x = y <;> simp [e])⟩
instance : ScaEq Int (Option Int) := ⟨fun a b => by cases b <;> rfl, fun a b => decide (some a = b), fun a b => by
  cases b with
  | none => rfl
  | some y => show decide (V.int a = V.int y) = _; by_cases e : a = y <;> simp [e]⟩
instance : ScaEq (Option Int) Int := ⟨fun a b => by cases a <;> rfl, fun a b => decide (a = some b), fun a b => by
  cases a with
  | none => rfl
  | some y => show decide (V.int y = V.int b) = _; by_cases e : y = b <;> simp [e]⟩
instance : ScaEq (Option Str) (Option Str) := ⟨fun a b => by cases a <;> cases b <;> rfl, fun a b => decide (a = b), fun a b => by
  cases a <;> cases b <;> first
    | rfl
    | (rename_i x y; show decide (V.str x = V.str y) = _; by_cases e : x = y <;> simp [e])⟩
instance : ScaEq Str (Option Str) := ⟨fun a b => by cases b <;> rfl, fun a b => decide (some a = b), fun a b => by
  cases b with
  | none => rfl
  | some y => show decide (V.str a = V.str y) = _; by_cases e : a = y <;> simp [e]⟩
instance : ScaEq (Option Str) Str := ⟨fun a b => by cases a <;> rfl, fun a b => decide (a = some b), fun a b => by
  cases a with
  | none => rfl
  | some y => show decide (V.str y = V.str b) = _; by_cases e : y = b <;> simp [e]⟩
theorem b_eqS {α β : Type} [Enc α] [Enc β] [Sca α] [Sca β] [ScaEq α β] : Bi X rEq (fun (a : α) (b : β) => Res.ok (ScaEq.eq a b)) := ⟨fun a b v w H Q r1 r2 q => by
  rw [Sca.flat r1, Sca.flat r2]
  exact ⟨ScaEq.ok a b, by rw [ScaEq.iff]; exact q _ H (Same.refl H) rfl⟩, fun _ _ => noX_ok⟩
theorem b_neS {α β : Type} [Enc α] [Enc β] [Sca α] [Sca β] [ScaEq α β] : Bi X rNe (fun (a : α) (b : β) => Res.ok (!ScaEq.eq a b)) := ⟨fun a b v w H Q r1 r2 q => by
  rw [Sca.flat r1, Sca.flat r2]
  exact ⟨ScaEq.ok a b, by rw [ScaEq.iff]; exact q _ H (Same.refl H) rfl⟩, fun _ _ => noX_ok⟩
@[simp] theorem eqII (a b : Int) : ScaEq.eq a b = decide (a = b) := rfl
@[simp] theorem eqBB (a b : Bool) : ScaEq.eq a b = decide (a = b) := rfl
@[simp] theorem eqSS (a b : Str) : ScaEq.eq a b = decide (a = b) := rfl
@[simp] theorem eqOO (a b : Option Int) : ScaEq.eq a b = decide (a = b) := rfl
@[simp] theorem eqIO (a : Int) (b : Option Int) : ScaEq.eq a b = decide (some a = b) := rfl
@[simp] theorem eqOI (a : Option Int) (b : Int) : ScaEq.eq a b = decide (a = some b) := rfl
@[simp] theorem eqTT (a b : Option Str) : ScaEq.eq a b = decide (a = b) := rfl
@[simp] theorem eqST (a : Str) (b : Option Str) : ScaEq.eq a b = decide (some a = b) := rfl
@[simp] theorem eqTS (a : Option Str) (b : Str) : ScaEq.eq a b = decide (a = some b) := rfl
/-! is None -/
theorem xi_isN {α : Type} [Enc α] {m : Res (Option α)} {j : Nat} {p : Pos} (h : XI X W ss a m) : XI X W ss (.Compare a [.Is] [.Constant .none j p] pos) (m.bind fun o => .ok o.isNone) :=
  PE_imp (pe_cmp (pc_isN h)) fun σ H Q ⟨sl, q⟩ => ⟨sl, wpR_imp (wpR_bind q) (Same.refl H) fun o q v H1 s1 r1 => q _ H1 s1 (by
    cases o with
    | none => rw [show v = .non from r1]; rfl
    | some x => show V.bl (decide (v = .non)) = V.bl false; rw [decide_eq_false r1.1])⟩
theorem xi_notN {α : Type} [Enc α] {m : Res (Option α)} {j : Nat} {p : Pos} (h : XI X W ss a m) : XI X W ss (.Compare a [.IsNot] [.Constant .none j p] pos) (m.bind fun o => .ok o.isSome) :=
  PE_imp (pe_cmp (pc_notN h)) fun σ H Q ⟨sl, q⟩ => ⟨sl, wpR_imp (wpR_bind q) (Same.refl H) fun o q v H1 s1 r1 => q _ H1 s1 (by
    cases o with
    | none => rw [show v = .non from r1]; rfl
    | some x => show V.bl (!decide (v = .non)) = V.bl true; rw [decide_eq_false r1.1]; rfl)⟩
theorem xt_isN {α : Type} [Enc α] {m : Res (Option α)} {j : Nat} {p : Pos} (h : XI X W ss a m) : XT X W ss (.Compare a [.Is] [.Constant .none j p] pos) (m.bind fun o => .ok o.isNone) :=
  PT_imp (pt_cmp (pc_isN h)) fun σ H Q ⟨sl, q⟩ => ⟨sl, wpR_imp (wpR_bind q) (Same.refl H) fun o q v H1 s1 r1 => ⟨_, rfl, by
    cases o with
    | none => rw [show v = .non from r1]; exact q H1 s1
    | some x => rw [decide_eq_false r1.1]; exact q H1 s1⟩⟩
theorem xt_notN {α : Type} [Enc α] {m : Res (Option α)} {j : Nat} {p : Pos} (h : XI X W ss a m) : XT X W ss (.Compare a [.IsNot] [.Constant .none j p] pos) (m.bind fun o => .ok o.isSome) :=
  PT_imp (pt_cmp (pc_notN h)) fun σ H Q ⟨sl, q⟩ => ⟨sl, wpR_imp (wpR_bind q) (Same.refl H) fun o q v H1 s1 r1 => ⟨_, rfl, by
    cases o with
    | none => rw [show v = .non from r1]; exact q H1 s1
    | some x => rw [decide_eq_false r1.1]; exact q H1 s1⟩⟩
/-! is True, is not False -/
theorem b_isB : Bi X (fun x y H Q => ∃ a b, x = .bl a ∧ y = .bl b ∧ Q (.bl (decide (a = b))) H) (fun a b : Bool => Res.ok (decide (a = b))) := ⟨fun a b v w H Q r1 r2 q => ⟨a, b, r1, r2, q _ H (Same.refl H) rfl⟩, fun _ _ => noX_ok⟩
theorem b_isnB : Bi X (fun x y H Q => ∃ a b, x = .bl a ∧ y = .bl b ∧ Q (.bl (!decide (a = b))) H) (fun a b : Bool => Res.ok (!decide (a = b))) := ⟨fun a b v w H Q r1 r2 q => ⟨a, b, r1, r2, q _ H (Same.refl H) rfl⟩, fun _ _ => noX_ok⟩
/-! ### truth -/
theorem xt_val {m : Res Bool} (h : XI X W ss a m) (he : ∀ whole, isTrue a X.env whole = (do let v ← whole; standAt a.pos; holding [v] (truthy v)) := by intro _; rfl) : XT X W ss a m :=
  PT_imp (pt_val h he) fun σ H Q ⟨sl, q⟩ => ⟨sl, wpR_imp q (Same.refl H) fun b q v H1 s1 r1 => ⟨b, r1, q H1 s1⟩⟩
theorem xt_not {m : Res Bool} (h : XT X W ss a m) : XT X W ss (.UnaryOp .Not a pos) (m.bind fun b => .ok (!b)) :=
  PT_imp (pt_not h) fun σ H Q ⟨sl, q⟩ => ⟨sl, wpR_imp (wpR_bind q) (Same.refl H) fun b q H1 s1 => q H1 s1⟩
def XW (X : Cx) (W : WX) (ss : List Slot) (e : Expr) (m : Res Bool) : Prop := PW X e (rT X W ss m)
theorem PW_imp {e : Expr} {t t' : TT} (h : PW X e t) (f : ∀ σ H Q, t' σ H Q → t σ H Q) : PW X e t' := ⟨fun wh pins s σ H Q I q => h.run wh pins s σ H Q I (f _ _ _ q)⟩
theorem xw_and1 {m : Res Bool} (h : XT X W ss a m) : XW X W ss (.BoolOp .And [a] pos) m := pw_and1 h
theorem xw_or1 {m : Res Bool} (h : XT X W ss a m) : XW X W ss (.BoolOp .Or [a] pos) m := pw_or1 h
theorem xw_and {rest : List Expr} {m m' : Res Bool} (h : XT X W ss a m) (h' : XW X W ss (.BoolOp .And (b :: rest) pos) m') : XW X W ss (.BoolOp .And (a :: b :: rest) pos) (m.bind fun t => if t then m' else .ok false) :=
  PW_imp (pw_and h h') fun σ H Q ⟨sl, q⟩ => ⟨sl, wpR_imp (wpR_bind q) (Same.refl H) fun t q H1 s1 => by
    cases t with
    | true => exact ⟨sl.mono s1 s1, wpR_imp q s1 fun b z H2 s2 => z H2 (s1.trans s2)⟩
    | false => exact q H1 s1⟩
theorem xw_or {rest : List Expr} {m m' : Res Bool} (h : XT X W ss a m) (h' : XW X W ss (.BoolOp .Or (b :: rest) pos) m') : XW X W ss (.BoolOp .Or (a :: b :: rest) pos) (m.bind fun t => if t then .ok true else m') :=
  PW_imp (pw_or h h') fun σ H Q ⟨sl, q⟩ => ⟨sl, wpR_imp (wpR_bind q) (Same.refl H) fun t q H1 s1 => by
    cases t with
    | false => exact ⟨sl.mono s1 s1, wpR_imp q s1 fun b z H2 s2 => z H2 (s1.trans s2)⟩
    | true => exact q H1 s1⟩
theorem xt_w {m : Res Bool} (h : XW X W ss a m) : XT X W ss a m := h.pt
/-- as values -/
theorem xi_one {op : BoolOp} {m : Res Bool} (h : XI X W ss a m) : XI X W ss (.BoolOp op [a] pos) m := pe_one h
theorem xi_and {rest : List Expr} {m m' : Res Bool} (h : XI X W ss a m) (h' : XI X W ss (.BoolOp .And (b :: rest) pos) m') : XI X W ss (.BoolOp .And (a :: b :: rest) pos) (m.bind fun t => if t then m' else .ok false) :=
  PE_imp (pe_and h h') fun σ H Q ⟨sl, q⟩ => ⟨sl, wpR_imp (wpR_bind q) (Same.refl H) fun t q v H1 s1 r1 => ⟨t, r1, by
    cases t with
    | true => exact ⟨sl.mono s1 s1, wpR_imp q s1 fun b z v' H2 s2 => z v' H2 (s1.trans s2)⟩
    | false => exact q _ H1 s1 rfl⟩⟩
theorem xi_or {rest : List Expr} {m m' : Res Bool} (h : XI X W ss a m) (h' : XI X W ss (.BoolOp .Or (b :: rest) pos) m') : XI X W ss (.BoolOp .Or (a :: b :: rest) pos) (m.bind fun t => if t then .ok true else m') :=
  PE_imp (pe_or h h') fun σ H Q ⟨sl, q⟩ => ⟨sl, wpR_imp (wpR_bind q) (Same.refl H) fun t q v H1 s1 r1 => ⟨t, r1, by
    cases t with
    | false => exact ⟨sl.mono s1 s1, wpR_imp q s1 fun b z v' H2 s2 => z v' H2 (s1.trans s2)⟩
    | true => exact q _ H1 s1 rfl⟩⟩
theorem xi_not {m : Res Bool} (h : XI X W ss a m) : XI X W ss (.UnaryOp .Not a pos) (m.bind fun b => .ok (!b)) :=
  PE_imp (pe_not h) fun σ H Q ⟨sl, q⟩ => ⟨sl, wpR_imp (wpR_bind q) (Same.refl H) fun b q v H1 s1 r1 => ⟨b, r1, q _ H1 s1 rfl⟩⟩
/-- an option that is there -/
def unw {α : Type} (o : Option α) : Res α := match o with
  | some a => .ok a
  | none => .stuck
@[simp] theorem unw_some {α : Type} (a : α) : unw (some a) = .ok a := rfl
theorem xi_unw {α : Type} [Enc α] {m : Res (Option α)} (h : XI X W ss a m) : XI X W ss a (m.bind unw) :=
  PE_imp h fun σ H Q ⟨sl, q⟩ => ⟨sl, wpR_imp (wpR_bind q) (Same.refl H) fun o q v H1 s1 r1 => by
    cases o with
    | none => exact q.elim
    | some x => exact q v H1 s1 r1.2⟩
class NN (α : Type) [Enc α] : Prop where
  nn : ∀ {K : Frag} {H : Hp} {v : V} {a : α}, Enc.rep K H v a → v ≠ .non
instance : NN Int := ⟨fun h e => by rw [e] at h; cases h⟩
instance : NN Bool := ⟨fun h e => by rw [e] at h; cases h⟩
instance : NN Str := ⟨fun h e => by rw [e] at h; cases h⟩
instance {α : Type} [Enc α] : NN (List α) := ⟨fun ⟨_, _, e1, _⟩ e => by rw [e] at e1; cases e1⟩
instance {α : Type} [Enc α] : NN (Tup α) := ⟨fun ⟨_, _, e1, _⟩ e => by rw [e] at e1; cases e1⟩
instance {α β : Type} [Enc α] [Enc β] : NN (α × β) := ⟨fun ⟨_, _, _, e1, _⟩ e => by rw [e] at e1; cases e1⟩
instance {α β γ : Type} [Enc α] [Enc β] [Enc γ] : NN (T3 α β γ) := ⟨fun ⟨_, _, _, _, e1, _⟩ e => by rw [e] at e1; cases e1⟩
theorem xi_some {α : Type} [Enc α] [NN α] {m : Res α} (h : XI X W ss a m) : XI X W ss a (m.bind fun x => .ok (some x)) :=
  PE_imp h fun σ H Q ⟨sl, q⟩ => ⟨sl, wpR_imp (wpR_bind q) (Same.refl H) fun o q v H1 s1 r1 => q v H1 s1 ⟨NN.nn r1, r1⟩⟩
/-- x if c else y -/
theorem xi_ifx {α : Type} [Enc α] {c : Expr} {mc : Res Bool} {m m' : Res α} (hc : XT X W ss c mc) (h : XI X W ss a m) (h' : XI X W ss b m') : XI X W ss (.IfExp c a b pos) (mc.bind fun t => if t then m else m') :=
  PE_imp (pe_ifExp hc h h') fun σ H Q ⟨sl, q⟩ => ⟨sl, wpR_imp (wpR_bind q) (Same.refl H) fun t q H1 s1 => by
    cases t with
    | true => exact ⟨sl.mono s1 s1, wpR_imp q s1 fun b z v' H2 s2 => z v' H2 (s1.trans s2)⟩
    | false => exact ⟨sl.mono s1 s1, wpR_imp q s1 fun b z v' H2 s2 => z v' H2 (s1.trans s2)⟩⟩
/-! ### items -/
def idx {α : Type} (xs : List α) (i : Int) : Res α := match atI xs i with
  | some a => .ok a
  | none => .stuck
theorem idx_nat {α : Type} {xs : List α} {i : Nat} {a : α} (h : xs[i]? = some a) : idx xs (i : Int) = .ok a := by unfold idx; rw [atI_nat h]
theorem atI_all2 {α β : Type} {P : α → β → Prop} {xs : List α} {ys : List β} {i : Int} {b : β} (h : All2 P xs ys) (e : atI ys i = some b) : ∃ a, atI xs i = some a ∧ P a b := by
  unfold atI at e ⊢
  rw [h.length]
  cases q : ixN ys.length i with
  | none => rw [q] at e; cases e
  | some j =>
    rw [q] at e
    exact h.get e
theorem noX_idx {α : Type} {xs : List α} {i : Int} : NoX (idx xs i) := fun _ h => by
  unfold idx at h
  cases e : atI xs i with
  | none => rw [e] at h; cases h
  | some a => rw [e] at h; cases h
theorem okR_idx {α : Type} {xs : List α} {i : Int} {P : α → Prop} (h : okR (idx xs i) P) : ∃ a, atI xs i = some a ∧ P a := by
  unfold idx at h
  cases e : atI xs i with
  | none => rw [e] at h; exact h.elim
  | some a => rw [e] at h; exact ⟨a, rfl, h⟩
theorem o2_ixL {α : Type} [Enc α] : Op2 X (rIxL X.K) (fun (xs : List α) (i : Int) => idx xs i) := fun xs i v w H Q ⟨p, vs, e1, hp, r⟩ e2 q => by
  obtain ⟨a, ea, q⟩ := okR_idx q
  obtain ⟨u, hu, ru⟩ := atI_all2 r ea
  exact ⟨p, vs, i, u, e1, e2, SqL.of hp, hu, q u H (Same.refl H) ru⟩
theorem o2_ixT {α : Type} [Enc α] : Op2 X (rIxT X.K) (fun (xs : Tup α) (i : Int) => idx xs.l i) := fun xs i v w H Q ⟨p, vs, e1, hp, r⟩ e2 q => by
  obtain ⟨a, ea, q⟩ := okR_idx q
  obtain ⟨u, hu, ru⟩ := atI_all2 r ea
  exact ⟨p, vs, i, u, e1, e2, hp, hu, q u H (Same.refl H) ru⟩
theorem o2_ixS : Op2 X (rIxL X.K) (fun (xs : Scr) (i : Int) => idx xs.ns i) := fun xs i v w H Q ⟨p, e1, hp⟩ e2 q => by
  obtain ⟨a, ea, q⟩ := okR_idx q
  have r : All2 (fun v a => v = V.int a) (xs.ns.map V.int) xs.ns := All2.of_map
  obtain ⟨u, hu, ru⟩ := atI_all2 r ea
  exact ⟨p, _, i, u, e1, e2, hp, hu, q u H (Same.refl H) ru⟩
def strIx (x : Str) (i : Int) : Res Str := guardR (decide (x.length ≤ 1000000)) (match atI x.cps.toList i with
  | some c => .ok ⟨#[c]⟩
  | none => .stuck)
theorem o2_ixStr : Op2 X rIxS strIx := fun x i v w H Q e1 e2 q => by
  unfold strIx at q
  by_cases hl : x.length ≤ 1000000
  · rw [decide_eq_true hl, guardR_true] at q
    cases e : atI x.cps.toList i with
    | none => rw [e] at q; exact q.elim
    | some c => rw [e] at q; exact ⟨x, i, c, e1, e2, Nat.le_trans hl (by decide), e, q _ H (Same.refl H) rfl⟩
  · rw [decide_eq_false hl] at q; exact q.elim
theorem noX_strIx {x : Str} {i : Int} : NoX (strIx x i) := fun _ h => by
  unfold strIx guardR at h
  split at h
  · split at h <;> cases h
  · cases h
theorem x_ix {α β γ : Type} [Enc α] [Enc β] [Enc γ] {r : R2} {g : α → β → Res γ} {m1 : Res α} {m2 : Res β} (hr : IxR X r) (ho : Op2 X r g) (hg : ∀ a b, NoX (g a b)) (h1 : XI X W ss a m1) (h2 : XI X W ss b m2) (hs : PlainIx b := by exact fun _ _ => rfl) :
    XI X W ss (.Subscript a b pos) (m1.bind fun a => m2.bind fun b => g a b) := PE_imp (pe_ix hr h1 h2 hs) fun _ _ _ h => r_op2 ho hg h
theorem xi_ixL {α : Type} [Enc α] {m1 : Res (List α)} {m2 : Res Int} (h1 : XI X W ss a m1) (h2 : XI X W ss b m2) (hs : PlainIx b := by exact fun _ _ => rfl) : XI X W ss (.Subscript a b pos) (m1.bind fun xs => m2.bind fun i => idx xs i) := x_ix ix_list o2_ixL (fun _ _ => noX_idx) h1 h2 hs
theorem xi_ixT {α : Type} [Enc α] {m1 : Res (Tup α)} {m2 : Res Int} (h1 : XI X W ss a m1) (h2 : XI X W ss b m2) (hs : PlainIx b := by exact fun _ _ => rfl) : XI X W ss (.Subscript a b pos) (m1.bind fun xs => m2.bind fun i => idx xs.l i) := x_ix ix_tup o2_ixT (fun _ _ => noX_idx) h1 h2 hs
theorem xi_ixS {m1 : Res Scr} {m2 : Res Int} (h1 : XI X W ss a m1) (h2 : XI X W ss b m2) (hs : PlainIx b := by exact fun _ _ => rfl) : XI X W ss (.Subscript a b pos) (m1.bind fun xs => m2.bind fun i => idx xs.ns i) := x_ix ix_list o2_ixS (fun _ _ => noX_idx) h1 h2 hs
theorem xi_ixStr {m1 : Res Str} {m2 : Res Int} (h1 : XI X W ss a m1) (h2 : XI X W ss b m2) (hs : PlainIx b := by exact fun _ _ => rfl) : XI X W ss (.Subscript a b pos) (m1.bind fun xs => m2.bind fun i => strIx xs i) := x_ix ix_str o2_ixStr (fun _ _ => noX_strIx) h1 h2 hs
/-! .. of tuples, at a written place -/
theorem xi_c {α β : Type} [Enc α] [Enc β] {m : Res α} {i : Int} {k : Nat} {p : Pos} {f : α → β} (h : XI X W ss a m) (hf : ∀ (x : α) (v : V) (H : Hp), Enc.rep X.K H v x → ∃ p vs u, v = .ref p ∧ SqT X.K H p vs ∧ atI vs i = some u ∧ Enc.rep X.K H u (f x))
    (hs : PlainIx (.Constant (.int i) k p) := by exact fun _ _ => rfl) : XI X W ss (.Subscript a (.Constant (.int i) k p) pos) (m.bind fun x => .ok (f x)) :=
  PE_imp (pe_ix ix_tup h pe_int hs) fun σ H Q ⟨sl, q⟩ => ⟨sl, wpR_imp (wpR_bind q) (Same.refl H) fun x q v H1 s1 r1 => by
    obtain ⟨p, vs, u, e, hp, hu, ru⟩ := hf x v H1 r1
    exact ⟨p, vs, i, u, e, rfl, hp, hu, q u H1 s1 ru⟩⟩
theorem xi_p1 {α β : Type} [Enc α] [Enc β] {m : Res (α × β)} {k : Nat} {p : Pos} (h : XI X W ss a m) : XI X W ss (.Subscript a (.Constant (.int 0) k p) pos) (m.bind fun x => .ok x.1) :=
  xi_c h fun x v H ⟨p, v1, v2, e, hp, r1, r2⟩ => ⟨p, _, v1, e, SqT.of hp, rfl, r1⟩
theorem xi_p2 {α β : Type} [Enc α] [Enc β] {m : Res (α × β)} {k : Nat} {p : Pos} (h : XI X W ss a m) : XI X W ss (.Subscript a (.Constant (.int 1) k p) pos) (m.bind fun x => .ok x.2) :=
  xi_c h fun x v H ⟨p, v1, v2, e, hp, r1, r2⟩ => ⟨p, _, v2, e, SqT.of hp, rfl, r2⟩
theorem xi_t1 {α β γ : Type} [Enc α] [Enc β] [Enc γ] {m : Res (T3 α β γ)} {k : Nat} {p : Pos} (h : XI X W ss a m) : XI X W ss (.Subscript a (.Constant (.int 0) k p) pos) (m.bind fun x => .ok x.a) :=
  xi_c h fun x v H ⟨p, v1, v2, v3, e, hp, r1, r2, r3⟩ => ⟨p, _, v1, e, SqT.of hp, rfl, r1⟩
theorem xi_t2 {α β γ : Type} [Enc α] [Enc β] [Enc γ] {m : Res (T3 α β γ)} {k : Nat} {p : Pos} (h : XI X W ss a m) : XI X W ss (.Subscript a (.Constant (.int 1) k p) pos) (m.bind fun x => .ok x.b) :=
  xi_c h fun x v H ⟨p, v1, v2, v3, e, hp, r1, r2, r3⟩ => ⟨p, _, v2, e, SqT.of hp, rfl, r2⟩
theorem xi_t3 {α β γ : Type} [Enc α] [Enc β] [Enc γ] {m : Res (T3 α β γ)} {k : Nat} {p : Pos} (h : XI X W ss a m) : XI X W ss (.Subscript a (.Constant (.int 2) k p) pos) (m.bind fun x => .ok x.c) :=
  xi_c h fun x v H ⟨p, v1, v2, v3, e, hp, r1, r2, r3⟩ => ⟨p, _, v3, e, SqT.of hp, rfl, r3⟩
end
end G

namespace G
open PySem PySem.Spec PyProof.Rows L2
/-! ### sorting -/
section
variable {α : Type} (le : α → α → Bool)
def ins (a : α) : List α → List α
  | [] => [a]
  | b :: bs => if le a b then a :: b :: bs else b :: ins a bs
def srt : List α → List α
  | [] => []
  | a :: as => ins le a (srt as)
theorem ins_perm (a : α) : ∀ l : List α, (ins le a l).Perm (a :: l)
  | [] => .refl _
  | b :: bs => by
    unfold ins
    split
    · exact .refl _
    · exact ((ins_perm a bs).cons b).trans (.swap a b bs)
theorem srt_perm : ∀ l : List α, (srt le l).Perm l
  | [] => .refl _
  | a :: as => (ins_perm le a _).trans ((srt_perm as).cons a)
variable {le}
theorem ins_pw (tot : ∀ a b, le a b = true ∨ le b a = true) (tr : ∀ a b c, le a b = true → le b c = true → le a c = true) (a : α) : ∀ l : List α, l.Pairwise (fun x y => le x y = true) → (ins le a l).Pairwise (fun x y => le x y = true)
  | [], _ => List.pairwise_singleton _ _
  | b :: bs, h => by
    obtain ⟨h1, h2⟩ := List.pairwise_cons.mp h
    unfold ins
    split
    · rename_i e
      refine List.pairwise_cons.mpr ⟨fun x m => ?_, h⟩
      rcases List.mem_cons.mp m with q | q
      · rw [q]; exact e
      · exact tr _ _ _ e (h1 x q)
    · rename_i e
      refine List.pairwise_cons.mpr ⟨fun x m => ?_, ins_pw tot tr a bs h2⟩
      rcases List.mem_cons.mp ((ins_perm le a bs).mem_iff.mp m) with q | q
      · rw [q]
        rcases tot a b with z | z
        · exact absurd z e
        · exact z
      · exact h1 x q
theorem srt_pw (tot : ∀ a b, le a b = true ∨ le b a = true) (tr : ∀ a b c, le a b = true → le b c = true → le a c = true) : ∀ l : List α, (srt le l).Pairwise (fun x y => le x y = true)
  | [] => List.Pairwise.nil
  | a :: as => ins_pw tot tr a _ (srt_pw tot tr as)
theorem perm_sorted (anti : ∀ a b, le a b = true → le b a = true → a = b) : ∀ {l m : List α}, l.Perm m → l.Pairwise (fun x y => le x y = true) → m.Pairwise (fun x y => le x y = true) → l = m
  | [], m, p, _, _ => by rw [List.nil_perm.mp p]
  | a :: l, [], p, _, _ => absurd p (by simp)
  | a :: l, b :: m, p, h1, h2 => by
    obtain ⟨a1, a2⟩ := List.pairwise_cons.mp h1
    obtain ⟨b1, b2⟩ := List.pairwise_cons.mp h2
    have e : a = b := by
      have m1 : a ∈ b :: m := p.mem_iff.mp List.mem_cons_self
      have m2 : b ∈ a :: l := p.mem_iff.mpr List.mem_cons_self
      rcases List.mem_cons.mp m1 with z | z
      · exact z
      · rcases List.mem_cons.mp m2 with y | y
        · exact y.symm
        · exact anti a b (a1 b y) (b1 a z)
    subst e
    rw [perm_sorted anti (List.perm_cons a |>.mp p) a2 b2]
end
def leI (a b : Int) : Bool := decide (a ≤ b)
def leP (a b : Int × Int) : Bool := decide (a.1 < b.1) || (decide (a.1 = b.1) && decide (a.2 ≤ b.2))
theorem leI_iff {a b : Int} : leI a b = true ↔ a ≤ b := by unfold leI; exact decide_eq_true_iff
theorem leP_iff {a b : Int × Int} : leP a b = true ↔ a.1 < b.1 ∨ a.1 = b.1 ∧ a.2 ≤ b.2 := by unfold leP; simp
abbrev sortI : List Int → List Int := srt leI
abbrev sortP : List (Int × Int) → List (Int × Int) := srt leP
theorem sortI_perm (l : List Int) : (sortI l).Perm l := srt_perm _ l
theorem sortI_pw (l : List Int) : (sortI l).Pairwise (· ≤ ·) := (srt_pw (le := leI) (fun a b => by simp only [leI_iff]; omega) (fun a b c => by simp only [leI_iff]; omega) l).imp fun h => leI_iff.mp h
theorem sortI_uniq {l m : List Int} (p : l.Perm m) (h : l.Pairwise (· ≤ ·)) : l = sortI m :=
  perm_sorted (le := leI) (fun a b => by simp only [leI_iff]; omega) (p.trans (sortI_perm m).symm) (h.imp fun h => leI_iff.mpr h) ((sortI_pw m).imp fun h => leI_iff.mpr h)
theorem leP_anti (a b : Int × Int) (h1 : leP a b = true) (h2 : leP b a = true) : a = b := by
  obtain ⟨a1, a2⟩ := a
  obtain ⟨b1, b2⟩ := b
  simp only [leP_iff] at h1 h2
  have e1 : a1 = b1 := by omega
  have e2 : a2 = b2 := by omega
  rw [e1, e2]
theorem sortP_perm (l : List (Int × Int)) : (sortP l).Perm l := srt_perm _ l
theorem sortP_pw (l : List (Int × Int)) : (sortP l).Pairwise (fun a b => leP a b = true) := srt_pw (le := leP) (fun a b => by simp only [leP_iff]; omega) (fun a b c => by simp only [leP_iff]; omega) l
theorem sortP_uniq {l m : List (Int × Int)} (p : l.Perm m) (h : l.Pairwise (fun a b => leP a b = true)) : l = sortP m := perm_sorted (le := leP) leP_anti (p.trans (sortP_perm m).symm) h (sortP_pw m)
/-! ### new lists -/
section
variable {X : Cx} {W : WX} {ss : List Slot} {pos : Pos} {a b e : Expr} {es : List Expr}
theorem new_owI {α : Type} [Enc α] [Imm α] {F H H1 : Hp} {p : Addr} {vs : List V} {as : List α} {K : Frag} {Q : VK} (sf : Same F H) (s1 : Same H H1) (hp : H1 p = none) (r : All2 (fun v a => Enc.rep K H1 v a) vs as)
    (q : ∀ v H' F' G', Same H H' → Ext F H F' H' → Priv G' H F' H' → (ow as).P K F' G' (some v) → Q v H') : Q (.ref p) (upd H1 p (.lst vs)) :=
  new_ow s1 (ext_imm sf s1) hp (All2.imp (fun _ _ z => Enc.mono (join_r (sf.trans s1) (tups_le H1)) (Imm.imm z)) r) q
def big (n : Nat) : Bool := decide (n ≤ 1000000)
theorem big_line {n : Nat} (h : big n = true) : n ≤ sizeLine := Nat.le_trans (of_decide_eq_true h) (by decide)
def catR {α : Type} (xs ys : List α) : Res (List α) := guardR (big (xs.length + ys.length)) (.ok (xs ++ ys))
theorem xk_cat {α : Type} [Enc α] [Imm α] {m m' : Res (List α)} (h : XI X W ss a m) (h' : XI X W ss b m') : XK X W ss (.BinOp a .Add b pos) (m.bind fun xs => m'.bind fun ys => catR xs ys) ow :=
  PE_imp (pe_op op_cat h h') fun σ H Q ⟨F, sf, sl, q⟩ => ⟨sl.mono sf (Same.refl H), wpR_imp (wpR_bind q) (Same.refl H) fun xs q v H1 s1 r1 => ⟨(sl.mono sf (Same.refl H)).mono s1 s1, wpR_imp (wpR_bind q) s1 fun ys q w H2 s2 r2 => by
    obtain ⟨g, q⟩ := wpR_guard q
    obtain ⟨p, vs, rfl, hp, rv⟩ := r1
    obtain ⟨p', ws, rfl, hp', rw'⟩ := r2
    exact ⟨p, p', vs, ws, rfl, rfl, s2 _ _ hp, hp', by rw [rv.length, rw'.length]; exact big_line g, fun o ho => new_owI sf (s1.trans s2) ho (All2.append (rv.mono s2) rw') q⟩⟩⟩
def repR {α : Type} (xs : List α) (k : Int) : Res (List α) := guardR (small62 k && big (xs.length * k.toNat)) (.ok (List.replicate k.toNat xs).flatten)
theorem all2_rep {α β : Type} {P : α → β → Prop} {xs : List α} {ys : List β} (h : All2 P xs ys) : ∀ n : Nat, All2 P (List.replicate n xs).flatten (List.replicate n ys).flatten
  | 0 => trivial
  | n + 1 => by
    rw [List.replicate_succ, List.replicate_succ, List.flatten_cons, List.flatten_cons]
    exact All2.append h (all2_rep h n)
theorem xk_rep {α : Type} [Enc α] [Imm α] {m : Res (List α)} {m' : Res Int} (h : XI X W ss a m) (h' : XI X W ss b m') : XK X W ss (.BinOp a .Mult b pos) (m.bind fun xs => m'.bind fun k => repR xs k) ow :=
  PE_imp (pe_op op_rep h h') fun σ H Q ⟨F, sf, sl, q⟩ => ⟨sl.mono sf (Same.refl H), wpR_imp (wpR_bind q) (Same.refl H) fun xs q v H1 s1 r1 => ⟨(sl.mono sf (Same.refl H)).mono s1 s1, wpR_imp (wpR_bind q) s1 fun k q w H2 s2 r2 => by
    obtain ⟨g, q⟩ := wpR_guard q
    rw [Bool.and_eq_true] at g
    obtain ⟨g1, g2⟩ := small62_of g.1
    obtain ⟨p, vs, rfl, hp, rv⟩ := r1
    exact ⟨p, k, vs, rfl, r2, s2 _ _ hp, by omega, by omega, by rw [rv.length]; exact big_line g.2, fun o ho => new_owI sf (s1.trans s2) ho (all2_rep (rv.mono s2) _) q⟩⟩⟩
/-! slices -/
def XO (X : Cx) (W : WX) (ss : List Slot) (e : Option Expr) (m : Res (Option Int)) : Prop := PO X e fun σ H Q => Sl X.K H H ss σ ∧ wpR X W m σ H fun o => ∀ H', Same H H' → Q o H'
theorem xo_none : XO X W ss none (.ok none) := ⟨fun pins s σ H Q I ⟨_, q⟩ => po_none.run pins s σ H Q I (q H (Same.refl H))⟩
theorem xo_some {m : Res Int} (h : XI X W ss e m) : XO X W ss (some e) (m.bind fun i => .ok (some i)) :=
  ⟨fun pins s σ H Q I ⟨sl, q⟩ => (po_some h).run pins s σ H Q I ⟨sl, wpR_imp (wpR_bind q) (Same.refl H) fun i q v H1 s1 r1 => ⟨i, r1, q H1 s1⟩⟩⟩
def cut {α : Type} (xs : List α) (lo hi : Option Int) : List α := (xs.drop (HT.sIx xs.length 0 lo)).take (HT.sIx xs.length xs.length hi - HT.sIx xs.length 0 lo)
theorem cut_all2 {α : Type} {P : V → α → Prop} {vs : List V} {xs : List α} (h : All2 P vs xs) (lo hi : Option Int) : All2 P (cutV vs lo hi) (cut xs lo hi) := by
  unfold cutV cut
  rw [h.length]
  exact (h.drop _).take _
theorem xk_slice {α : Type} [Enc α] [Imm α] {lo hi : Option Expr} {p2 : Pos} {m : Res (List α)} {ml mh : Res (Option Int)} (h : XI X W ss a m) (hl : XO X W ss lo ml) (hh : XO X W ss hi mh) :
    XK X W ss (.Subscript a (.Slice lo hi none p2) pos) (m.bind fun xs => ml.bind fun l => mh.bind fun u => .ok (cut xs l u)) ow :=
  PE_imp (pe_slice sl_list h hl hh) fun σ H Q ⟨F, sf, sl, q⟩ => ⟨sl.mono sf (Same.refl H), wpR_imp (wpR_bind q) (Same.refl H) fun xs q v H1 s1 r1 => ⟨(sl.mono sf (Same.refl H)).mono s1 s1, wpR_imp (wpR_bind q) s1 fun l q H2 s2 =>
    ⟨(sl.mono sf (Same.refl H)).mono (s1.trans s2) (s1.trans s2), wpR_imp (wpR_bind q) (s1.trans s2) fun u q H3 s3 => by
    obtain ⟨p, vs, rfl, hp, rv⟩ := r1
    exact ⟨p, vs, rfl, SqL.of (s3 _ _ (s2 _ _ hp)), fun o ho => new_owI sf (s1.trans (s2.trans s3)) ho (cut_all2 (rv.mono (s2.trans s3)) l u) q⟩⟩⟩⟩
theorem xk_sliceS {lo hi : Option Expr} {p2 : Pos} {m : Res Scr} {ml mh : Res (Option Int)} (h : XI X W ss a m) (hl : XO X W ss lo ml) (hh : XO X W ss hi mh) :
    XK X W ss (.Subscript a (.Slice lo hi none p2) pos) (m.bind fun xs => ml.bind fun l => mh.bind fun u => .ok (cut xs.ns l u)) ow :=
  PE_imp (pe_slice sl_list h hl hh) fun σ H Q ⟨F, sf, sl, q⟩ => ⟨sl.mono sf (Same.refl H), wpR_imp (wpR_bind q) (Same.refl H) fun xs q v H1 s1 r1 => ⟨(sl.mono sf (Same.refl H)).mono s1 s1, wpR_imp (wpR_bind q) s1 fun l q H2 s2 =>
    ⟨(sl.mono sf (Same.refl H)).mono (s1.trans s2) (s1.trans s2), wpR_imp (wpR_bind q) (s1.trans s2) fun u q H3 s3 => by
    obtain ⟨p, rfl, hp⟩ := r1
    exact ⟨p, _, rfl, (s2.trans s3).seq hp, fun o ho => new_owI sf (s1.trans (s2.trans s3)) ho (cut_all2 All2.of_map l u) q⟩⟩⟩⟩
/-- a text's slice -/
def cutStr (z : Str) (lo hi : Option Int) : Res Str := guardR (big z.length) (.ok (cutS z lo hi))
theorem xi_sliceStr {lo hi : Option Expr} {p2 : Pos} {m : Res Str} {ml mh : Res (Option Int)} (h : XI X W ss a m) (hl : XO X W ss lo ml) (hh : XO X W ss hi mh) :
    XI X W ss (.Subscript a (.Slice lo hi none p2) pos) (m.bind fun x => ml.bind fun l => mh.bind fun u => cutStr x l u) :=
  PE_imp (pe_slice sl_str h hl hh) fun σ H Q ⟨sl, q⟩ => ⟨sl, wpR_imp (wpR_bind q) (Same.refl H) fun xs q v H1 s1 r1 => ⟨sl.mono s1 s1, wpR_imp (wpR_bind q) s1 fun l q H2 s2 =>
    ⟨sl.mono (s1.trans s2) (s1.trans s2), wpR_imp (wpR_bind q) (s1.trans s2) fun u q H3 s3 => by
    obtain ⟨g, q⟩ := wpR_guard q
    exact ⟨xs, r1, big_line g, q _ H3 (s1.trans (s2.trans s3)) rfl⟩⟩⟩⟩
/-! ### built-in functions -/
/-- what a built-in asks of held arguments -/
structure Bc (X : Cx) (r : List V → Hp → VK → Prop) {A R : Type} [EncA A] [Enc R] (g : A → Res R) : Prop where
  op : ∀ (x : A) (vs : List V) (H : Hp) (Q : VK), EncA.rep X.K H vs x → okR (g x) (fun c => ∀ v' H', Same H H' → Enc.rep X.K H' v' c → Q v' H') → r vs H Q
  nx : ∀ x, NoX (g x)
theorem r_bc {A R : Type} [EncA A] [Enc R] {r : List V → Hp → VK → Prop} {g : A → Res R} {m : Res A} (bc : Bc X r g) {σ : L2.St} {H : Hp} {Q : VK} (h : rI X W ss (m.bind g) σ H Q) : tCB r (rA X W ss m) σ H Q := by
  obtain ⟨sl, q⟩ := h
  refine ⟨sl, wpR_imp (wpR_bind q) (Same.refl H) fun x q vs H1 s1 r1 => bc.op x vs H1 Q r1 ?_⟩
  unfold okR
  cases e : g x with
  | ok c => rw [e] at q; exact fun v' H' s3 r3 => q v' H' (s1.trans s3) r3
  | exc y => exact bc.nx x y e
  | stuck => rw [e] at q; exact q
theorem xi_bf {A R : Type} [EncA A] [Enc R] {x : Str} {id : String} {p : Pos} {r : List V → Hp → VK → Prop} {g : A → Res R} {m : Res A} (hc : CallR X (.builtin id) r) (bc : Bc X r g) (hm : X.mg x = none) (hv : bootBuiltins x = some (.builtin id)) (ha : XA X W ss (e :: es) m)
    (hg : Gl X x := by rfl) (hn : x ≠ "__name__" := by decide) (hdb : (x == ("__debug__" : Str)) = false := by decide)
    (he : starEach (e :: es) X.env = (false, eval e X.env) :: starEach es X.env := by rfl) (hpl : (backTo pos (starEach es X.env)).any (·.1) = false := by rfl) : XI X W ss (.Call (.Name x p) (e :: es) [] pos) (m.bind g) :=
  PE_imp (pe_callB hc hg hm hv ha hn hdb he hpl) fun _ _ _ h => r_bc bc h
theorem xi_bt {A R : Type} [EncA A] [Enc R] {x : Str} {T : String} {p : Pos} {r : List V → Hp → VK → Prop} {g : A → Res R} {m : Res A} (hc : CallR X (.type T) r) (bc : Bc X r g) (hm : X.mg x = none) (hv : bootBuiltins x = some (.type T)) (ha : XA X W ss (e :: es) m)
    (hg : Gl X x := by rfl) (hn : x ≠ "__name__" := by decide) (hdb : (x == ("__debug__" : Str)) = false := by decide)
    (he : starEach (e :: es) X.env = (false, eval e X.env) :: starEach es X.env := by rfl) (hpl : (backTo pos (starEach es X.env)).any (·.1) = false := by rfl) : XI X W ss (.Call (.Name x p) (e :: es) [] pos) (m.bind g) :=
  PE_imp (pe_callTy hc hg hm hv ha hn hdb he hpl) fun _ _ _ h => r_bc bc h
theorem c_lenL {α : Type} [Enc α] : Bc X (fun xs H Q => ∃ x n, xs = [x] ∧ LenV X.K x H n ∧ Q (.int n) H) (fun x : List α × Unit => Res.ok (x.1.length : Int)) :=
  ⟨fun x vs H Q ⟨v, r, e1, ⟨p, ws, e2, hp, rv⟩, e3⟩ q => by
    have e3 : r = [] := e3
    subst e1; subst e2; subst e3
    exact ⟨_, ws.length, rfl, .inl ⟨ws, SqL.of hp, rfl⟩, q _ H (Same.refl H) (by rw [rv.length]; rfl)⟩, fun _ => noX_ok⟩
theorem c_lenT {α : Type} [Enc α] : Bc X (fun xs H Q => ∃ x n, xs = [x] ∧ LenV X.K x H n ∧ Q (.int n) H) (fun x : Tup α × Unit => Res.ok (x.1.l.length : Int)) :=
  ⟨fun x vs H Q ⟨v, r, e1, ⟨p, ws, e2, hp, rv⟩, e3⟩ q => by
    have e3 : r = [] := e3
    subst e1; subst e2; subst e3
    exact ⟨_, ws.length, rfl, .inr ⟨ws, hp, rfl⟩, q _ H (Same.refl H) (by rw [rv.length]; rfl)⟩, fun _ => noX_ok⟩
theorem c_lenScr : Bc X (fun xs H Q => ∃ x n, xs = [x] ∧ LenV X.K x H n ∧ Q (.int n) H) (fun x : Scr × Unit => Res.ok (x.1.ns.length : Int)) :=
  ⟨fun x vs H Q ⟨v, r, e1, ⟨p, e2, hp⟩, e3⟩ q => by
    have e3 : r = [] := e3
    subst e1; subst e2; subst e3
    exact ⟨_, _, rfl, .inl ⟨_, hp, rfl⟩, q _ H (Same.refl H) (by rw [List.length_map]; rfl)⟩, fun _ => noX_ok⟩
def strLen (x : Str) : Res Int := guardR (big x.length) (.ok (x.length : Int))
theorem c_lenStr : Bc X (fun xs H Q => ∃ x n, xs = [x] ∧ LenV X.K x H n ∧ Q (.int n) H) (fun x : Str × Unit => strLen x.1) :=
  ⟨fun x vs H Q ⟨v, r, e1, e2, e3⟩ q => by
    have e2 : v = .str x.1 := e2
    have e3 : r = [] := e3
    subst e1; subst e2; subst e3
    unfold strLen at q
    cases g : big x.1.length with
    | false => rw [g] at q; exact q.elim
    | true => rw [g] at q; exact ⟨_, x.1.length, rfl, ⟨big_line g, rfl⟩, q _ H (Same.refl H) rfl⟩, fun _ => noX_guard⟩
theorem c_max : Bc X (fun xs H Q => ∃ i j, xs = [.int i, .int j] ∧ Q (.int (if j > i then j else i)) H) (fun x : Int × Int × Unit => Res.ok (max x.1 x.2.1)) :=
  ⟨fun x vs H Q ⟨v, r, e1, e2, v', r', e3, e4, e5⟩ q => by
    have e2 : v = .int x.1 := e2
    have e4 : v' = .int x.2.1 := e4
    have e5 : r' = [] := e5
    subst e1; subst e2; subst e3; subst e4; subst e5
    refine ⟨_, _, rfl, q _ H (Same.refl H) ?_⟩
    show V.int _ = V.int _
    rw [Int.max_def]
    congr 1
    split <;> split <;> omega, fun _ => noX_ok⟩
theorem c_min : Bc X (fun xs H Q => ∃ i j, xs = [.int i, .int j] ∧ Q (.int (if j < i then j else i)) H) (fun x : Int × Int × Unit => Res.ok (min x.1 x.2.1)) :=
  ⟨fun x vs H Q ⟨v, r, e1, e2, v', r', e3, e4, e5⟩ q => by
    have e2 : v = .int x.1 := e2
    have e4 : v' = .int x.2.1 := e4
    have e5 : r' = [] := e5
    subst e1; subst e2; subst e3; subst e4; subst e5
    refine ⟨_, _, rfl, q _ H (Same.refl H) ?_⟩
    show V.int _ = V.int _
    rw [Int.min_def]
    congr 1
    split <;> split <;> omega, fun _ => noX_ok⟩
/-- str of an int -/
def strI (i : Int) : Res Str := guardR (decide (i.natAbs < 10 ^ 70)) (.ok (toString i))
theorem c_str : Bc X (fun xs H Q => ∃ i, xs = [.int i] ∧ i.natAbs.log2 < 1920 ∧ Q (.str (toString i)) H) (fun x : Int × Unit => strI x.1) :=
  ⟨fun x vs H Q ⟨v, r, e1, e2, e3⟩ q => by
    have e2 : v = .int x.1 := e2
    have e3 : r = [] := e3
    subst e1; subst e2; subst e3
    unfold strI at q
    cases g : decide (x.1.natAbs < 10 ^ 70) with
    | false => rw [g] at q; exact q.elim
    | true =>
      rw [g] at q
      have g := of_decide_eq_true g
      exact ⟨_, rfl, Nat.lt_of_lt_of_le (PySem.Flt.log2_lt_of (n := x.1.natAbs) (k := 250) (by decide) (Nat.lt_of_lt_of_le g (by decide))) (by decide), q _ H (Same.refl H) rfl⟩, fun _ => noX_guard⟩
theorem c_intB : Bc X (fun xs H Q => (∃ i, xs = [.int i] ∧ Q (.int i) H) ∨ ∃ k, xs = [.bl k] ∧ Q (.int (if k then 1 else 0)) H) (fun x : Bool × Unit => Res.ok (if x.1 then (1 : Int) else 0)) :=
  ⟨fun x vs H Q ⟨v, r, e1, e2, e3⟩ q => by
    have e2 : v = .bl x.1 := e2
    have e3 : r = [] := e3
    subst e1; subst e2; subst e3
    exact .inr ⟨x.1, rfl, q _ H (Same.refl H) rfl⟩, fun _ => noX_ok⟩
/-! sorted, list, tuple -/
theorem xk_sortedI {m : Res (List Int × Unit)} {p : Pos} (ha : XA X W ss [a] m) (hm : X.mg "sorted" = none) (hg : Gl X "sorted" := by rfl) (he : starEach [a] X.env = (false, eval a X.env) :: starEach [] X.env := by rfl) :
    XK X W ss (.Call (.Name "sorted" p) [a] [] pos) (m.bind fun x => .ok (sortI x.1)) ow :=
  PE_imp (pe_callB cr_sortedI hg hm (by decide +kernel) ha (by decide) (by decide) he rfl) fun σ H Q ⟨F, sf, sl, q⟩ => ⟨sl.mono sf (Same.refl H), wpR_imp (wpR_bind q) (Same.refl H) fun x q vs H1 s1 ⟨v, r, e1, ⟨p, ws, e2, hp, rv⟩, e3⟩ => by
    have e3 : r = [] := e3
    subst e1; subst e2; subst e3
    have ew : ws = x.1.map V.int := All2.map_eq rv
    refine ⟨p, x.1, rfl, by rw [← ew]; exact SqL.of hp, fun ns' o h1 h2 ho => ?_⟩
    rw [sortI_uniq h1 h2]
    exact new_owI sf s1 ho All2.of_map q⟩
def pairAt (H : Hp) (v : V) : Int × Int := match v with
  | .ref t => (match H t with
    | some (.tup [.int i, .int j]) => (i, j)
    | _ => (0, 0))
  | _ => (0, 0)
theorem pairAt_ref {H : Hp} {t : Addr} {i j : Int} (h : H t = some (.tup [.int i, .int j])) : pairAt H (.ref t) = (i, j) := by simp [pairAt, h]
theorem pairs_of {K : Frag} {H : Hp} : ∀ {vs : List V} {xs : List (Int × Int)}, All2 (fun v a => Enc.rep K H v a) vs xs → (∀ v ∈ vs, ∃ t, v = V.ref t ∧ H t = some (.tup [.int (pairAt H v).1, .int (pairAt H v).2])) ∧ vs.map (pairAt H) = xs
  | [], [], _ => ⟨fun v m => (by cases m), rfl⟩
  | v :: vs, x :: xs, ⟨⟨t, v1, v2, e1, ht, r1, r2⟩, h2⟩ => by
    have r1 : v1 = .int x.1 := r1
    have r2 : v2 = .int x.2 := r2
    subst e1; subst r1; subst r2
    obtain ⟨i1, i2⟩ := pairs_of h2
    have e := pairAt_ref ht
    refine ⟨fun u m => ?_, by rw [List.map_cons, i2, e]⟩
    rcases List.mem_cons.mp m with q | q
    · rw [q, e]; exact ⟨t, rfl, ht⟩
    · exact i1 u q
  | [], _ :: _, h => h.elim
  | _ :: _, [], h => h.elim
theorem all2_of_map {K : Frag} {H : Hp} {k : V → Int × Int} : ∀ {vs : List V}, (∀ v ∈ vs, ∃ t, v = V.ref t ∧ H t = some (.tup [.int (k v).1, .int (k v).2])) → All2 (fun v a => Enc.rep K H v a) vs (vs.map k)
  | [], _ => trivial
  | v :: vs, h => by
    obtain ⟨t, e, ht⟩ := h v List.mem_cons_self
    exact ⟨⟨t, _, _, e, ht, rfl, rfl⟩, all2_of_map fun u m => h u (List.mem_cons_of_mem _ m)⟩
theorem xk_sortedP {m : Res (List (Int × Int) × Unit)} {p : Pos} (ha : XA X W ss [a] m) (hm : X.mg "sorted" = none) (hg : Gl X "sorted" := by rfl) (he : starEach [a] X.env = (false, eval a X.env) :: starEach [] X.env := by rfl) :
    XK X W ss (.Call (.Name "sorted" p) [a] [] pos) (m.bind fun x => .ok (sortP x.1)) ow :=
  PE_imp (pe_callB cr_sortedPO hg hm (by decide +kernel) ha (by decide) (by decide) he rfl) fun σ H Q ⟨F, sf, sl, q⟩ => ⟨sl.mono sf (Same.refl H), wpR_imp (wpR_bind q) (Same.refl H) fun x q vs H1 s1 ⟨v, r, e1, ⟨p, ws, e2, hp, rv⟩, e3⟩ => by
    have e3 : r = [] := e3
    subst e1; subst e2; subst e3
    obtain ⟨hk, ek⟩ := pairs_of rv
    refine ⟨p, ws, pairAt H1, rfl, SqL.of hp, hk, fun ys o h1 h2 ho => ?_⟩
    have hy : ∀ y ∈ ys, ∃ t, y = V.ref t ∧ H1 t = some (.tup [.int (pairAt H1 y).1, .int (pairAt H1 y).2]) := fun y m => hk y (h2.perm.mem_iff.mp m)
    have e : ys.map (pairAt H1) = sortP x.1 := by
      refine sortP_uniq (by rw [← ek]; exact h2.perm.map _) (List.pairwise_map.mpr (h1.imp fun {u v} z => ?_))
      have z := SrtO.lexB_no.mp z
      rw [leP_iff]
      omega
    rw [← e] at q
    exact new_owI sf s1 ho (all2_of_map hy) q⟩
theorem xk_list {α : Type} [Enc α] [Imm α] {m : Res (List α × Unit)} {p : Pos} (ha : XA X W ss [a] m) (hm : X.mg "list" = none) (hg : Gl X "list" := by rfl) (he : starEach [a] X.env = (false, eval a X.env) :: starEach [] X.env := by rfl) :
    XK X W ss (.Call (.Name "list" p) [a] [] pos) (m.bind fun x => .ok x.1) ow :=
  PE_imp (pe_callTy call_list_of hg hm (by decide +kernel) ha (by decide) (by decide) he rfl) fun σ H Q ⟨F, sf, sl, q⟩ => ⟨sl.mono sf (Same.refl H), wpR_imp (wpR_bind q) (Same.refl H) fun x q vs H1 s1 ⟨v, r, e1, ⟨p, ws, e2, hp, rv⟩, e3⟩ => by
    have e3 : r = [] := e3
    subst e1; subst e2; subst e3
    exact ⟨p, ws, rfl, .inl (SqL.of hp), fun o ho => new_owI sf s1 ho rv q⟩⟩
theorem xk_listT {α : Type} [Enc α] [Imm α] {m : Res (Tup α × Unit)} {p : Pos} (ha : XA X W ss [a] m) (hm : X.mg "list" = none) (hg : Gl X "list" := by rfl) (he : starEach [a] X.env = (false, eval a X.env) :: starEach [] X.env := by rfl) :
    XK X W ss (.Call (.Name "list" p) [a] [] pos) (m.bind fun x => .ok x.1.l) ow :=
  PE_imp (pe_callTy call_list_of hg hm (by decide +kernel) ha (by decide) (by decide) he rfl) fun σ H Q ⟨F, sf, sl, q⟩ => ⟨sl.mono sf (Same.refl H), wpR_imp (wpR_bind q) (Same.refl H) fun x q vs H1 s1 ⟨v, r, e1, ⟨p, ws, e2, hp, rv⟩, e3⟩ => by
    have e3 : r = [] := e3
    subst e1; subst e2; subst e3
    exact ⟨p, ws, rfl, .inr hp, fun o ho => new_owI sf s1 ho rv q⟩⟩
theorem c_tuple {α : Type} [Enc α] : Bc X (fun xs H Q => ∃ p ys, xs = [.ref p] ∧ ((SqL X.K H p ys ∧ ∀ l, H l = none → Q (.ref l) (upd H l (.tup ys))) ∨ (SqT X.K H p ys ∧ Q (.ref p) H))) (fun x : List α × Unit => Res.ok (⟨x.1⟩ : Tup α)) :=
  ⟨fun x vs H Q ⟨v, r, e1, ⟨p, ws, e2, hp, rv⟩, e3⟩ q => by
    have e3 : r = [] := e3
    subst e1; subst e2; subst e3
    exact ⟨p, ws, rfl, .inl ⟨SqL.of hp, fun o ho => q _ _ (same_upd ho) ⟨o, ws, rfl, SqT.of upd_same, rv.mono (same_upd ho)⟩⟩⟩, fun _ => noX_ok⟩
/-! ### texts -/
def catS (x y : Str) : Res Str := guardR (big (x.length + y.length)) (.ok (x ++ y))
theorem b_catS : Bi X (fun x y H Q => ∃ i j, x = .str i ∧ y = .str j ∧ i.length + j.length ≤ sizeLine ∧ Q (.str (i ++ j)) H) catS := ⟨fun a b v w H Q r1 r2 q => by
  unfold catS at q
  cases g : big (a.length + b.length) with
  | false => rw [g] at q; exact q.elim
  | true => rw [g] at q; exact ⟨a, b, r1, r2, big_line g, q _ H (Same.refl H) rfl⟩, fun _ _ => noX_guard⟩
def joinR (x : Str) (ys : List Str) : Res Str := guardR (big ((ys.map (·.length)).sum + ys.length * x.length)) (.ok (Txt.join x ys))
theorem xi_join {m : Res Str} {m' : Res (List Str)} {apos : Pos} (h : XI X W ss a m) (h' : XI X W ss b m') (hs : starEach [b] X.env = [(false, eval b X.env)] := by rfl) (hbase : attributeBase a "join" X.env (eval a X.env) = eval a X.env := by rfl) (hline : (apos.endLine == pos.line) = true := by rfl) :
    XI X W ss (.Call (.Attribute a "join" apos) [b] [] pos) (m.bind fun x => m'.bind fun ys => joinR x ys) :=
  PE_imp (pe_join h h' hs hbase hline) fun σ H Q ⟨sl, q⟩ => ⟨sl, wpR_imp (wpR_bind q) (Same.refl H) fun x q v H1 s1 r1 => ⟨⟨x, r1⟩, sl.mono s1 s1, wpR_imp (wpR_bind q) s1 fun ys q w H2 s2 ⟨p, ws, e2, hp, rv⟩ => by
    obtain ⟨g, q⟩ := wpR_guard q
    have ew : ws = ys.map V.str := All2.map_eq rv
    exact ⟨x, p, ys, r1, by rw [e2], .inl (by rw [← ew]; exact SqL.of hp), Nat.le_trans (of_decide_eq_true g) (by decide), q _ H2 (s1.trans s2) rfl⟩⟩⟩
/-! ### statements on lists of one's own -/
theorem all3_ow {K : Frag} {F : Hp} {α : Type} [Enc α] {as : List α} {ss : List Slot} {Gs : List Hp} {σ : L2.St} {i : Nat} (h : All3 K F ss Gs σ) (hs : ss[i]? = some (ow as)) :
    ∃ G p vs, Gs[i]? = some G ∧ σ[i]? = some (some (.ref p)) ∧ G p = some (.lst vs) ∧ All2 (fun v a => Enc.rep K F v a) vs as := by
  obtain ⟨G, o, h1, h2, p, vs, e, g, r⟩ := h.get hs
  subst e
  exact ⟨G, p, vs, h1, h2, g, r⟩
theorem set_self {α : Type} : ∀ {l : List α} {i : Nat} {a : α}, l[i]? = some a → l.set i a = l
  | [], _, _, h => by simp at h
  | b :: l, 0, a, h => by have e : b = a := Option.some.inj h; rw [e]; rfl
  | b :: l, i + 1, a, h => by rw [List.set_cons_succ, set_self (l := l) (i := i) h]
/-- the list at i becomes another -/
theorem Asn.put {α : Type} [Enc α] {K : Frag} {B F0 H F : Hp} {ss : List Slot} {σ : L2.St} {Gs : List Hp} (A : Asn K B F0 ss σ H F Gs) {i : Nat} {G : Hp} {p : Addr} {vs vs' : List V} {as' : List α} (hG : Gs[i]? = some G) (hσ : σ[i]? = some (some (.ref p))) (hp : G p = some (.lst vs))
    (r : All2 (fun v a => Enc.rep K F v a) vs' as') : Asn K B F0 (ss.set i (ow as')) σ (upd H p (.lst vs')) F (Gs.set i (upd noHp p (.lst vs'))) := by
  have hm : G ∈ Gs := List.mem_of_getElem? hG
  obtain ⟨h1, h2, h3, h4⟩ := A.priv G hm _ _ hp
  have sF : Same F (upd H p (.lst vs')) := fun c u z => by
    rw [upd_ne (fun e => by rw [e, h3] at z; cases z)]
    exact A.ext.sub _ _ z
  refine ⟨⟨A.ext.le, sF, A.ext.new⟩, fun c u z => ?_, ?_, fun G' m c u z => ?_, ?_⟩
  · rw [upd_ne (fun e => by rw [e, h2] at z; cases z)]
    exact A.base _ _ z
  · have e := set_self hσ
    rw [← e]
    exact A.all.set (s := ow as') ⟨p, vs', rfl, upd_same, r⟩ i
  · -- where another own heap stands
    by_cases hi : G' = upd noHp p (.lst vs')
    · subst hi
      by_cases e : c = p
      · subst e
        rw [upd_same] at z; cases z
        exact ⟨upd_same, h2, h3, rfl⟩
      · rw [upd_ne e] at z; cases z
    · obtain ⟨j, hj⟩ := List.getElem?_of_mem m
      have hji : j ≠ i := fun e => by
        subst e
        have hlt : j < Gs.length := (List.getElem?_eq_some_iff.mp hG).1
        rw [List.getElem?_set_self hlt] at hj
        exact hi (Option.some.inj hj).symm
      rw [List.getElem?_set_ne (Ne.symm hji)] at hj
      have hd : Dj G' G := by
        have pw := A.dj
        have hj' := List.getElem?_eq_some_iff.mp hj
        have hG' := List.getElem?_eq_some_iff.mp hG
        rcases Nat.lt_or_gt_of_ne hji with z | z
        · have := List.pairwise_iff_getElem.mp pw j i hj'.1 hG'.1 z
          rw [hj'.2, hG'.2] at this
          exact this
        · have := List.pairwise_iff_getElem.mp pw i j hG'.1 hj'.1 z
          rw [hj'.2, hG'.2] at this
          exact fun a => (this a).symm
      have hcp : c ≠ p := fun e => by
        subst e
        rcases hd c with y | y
        · rw [y] at z; cases z
        · rw [y] at hp; cases hp
      obtain ⟨k1, k2, k3, k4⟩ := A.priv G' (List.mem_of_getElem? hj) c u z
      exact ⟨by rw [upd_ne hcp]; exact k1, k2, k3, k4⟩
  · refine pw_ix hG A.dj fun G' d c => ?_
    by_cases e : c = p
    · subst e
      rcases d c with y | y
      · rw [y] at hp; cases hp
      · exact .inr y
    · exact .inl (by rw [upd_ne e]; rfl)
where
  pw_ix {G G2 : Hp} {i : Nat} : ∀ {Gs : List Hp}, Gs[i]? = some G → Gs.Pairwise Dj → (∀ G', Dj G G' → Dj G2 G') → (Gs.set i G2).Pairwise Dj := by
    intro Gs hG pw hd
    refine List.pairwise_iff_getElem.mpr fun j k hj hk hjk => ?_
    rw [List.length_set] at hj hk
    have hi := List.getElem?_eq_some_iff.mp hG
    have base := List.pairwise_iff_getElem.mp pw
    rw [List.getElem_set, List.getElem_set]
    split
    · rename_i e1
      split
      · rename_i e2; omega
      · subst e1
        have := base i k hi.1 hk hjk
        rw [hi.2] at this
        exact hd _ this
    · split
      · rename_i e1 e2
        subst e2
        have := base j i hj hi.1 hjk
        rw [hi.2] at this
        exact fun a => (hd _ (fun c => (this c).symm) a).symm
      · exact base j k hj hk hjk
def appR {α : Type} (xs : List α) (a : α) : Res (List α) := guardR (big xs.length) (.ok (xs ++ [a]))
theorem s1_append (i : Nat) {α : Type} [Enc α] {as : List α} {m : Res α} {x : Str} {p apos cpos : Pos} (h : XK X W ss e m fr) (hs : ss[i]? = some (ow as) := by rfl) (hp : PE X (.Name x p) (tVar i) := by exact pv _)
    (hbase : attributeBase (.Name x p) "append" X.env (eval (.Name x p) X.env) = eval (.Name x p) X.env := by rfl)
    (hfew : ((backTo cpos (starEach [e] X.env)).all (fun x => !x.1) && (backToKw cpos (keywordEach [] X.env)).all (fun x => x.1.isSome)
      && decide (([e] : List Expr).length + ([] : List Keyword).length + (if ([] : List Keyword).isEmpty then 0 else 1) < 30)) = true := by rfl)
    (hline : (apos.endLine == cpos.line) = true := by rfl) (hst : starEach [e] X.env = (false, eval e X.env) :: starEach [] X.env := by rfl) (hplain : (backTo cpos (starEach [] X.env)).any (·.1) = false := by rfl)
    (hsw : swapsWith (.Call (.Attribute (.Name x p) "append" apos) [e] [] cpos) none pos.line X.env = pure false := by rfl) :
    S1 X W ss (.Expr (.Call (.Attribute (.Name x p) "append" apos) [e] [] cpos) pos) (m.bind fun a => appR as a) (fun as' => ss.set i (ow as')) := by
  have hx := pe_bm PySem.F.plainAttrs_list PySem.F.slot_list_append PySem.F.type_list_append mt_append hp (pa_cons h pa_nil hst) hbase hfew hline hst hplain
  refine PS_imp (ps_expr hx hsw) fun D σ H ⟨B, F0, F, Gs, A, q⟩ => ?_
  obtain ⟨G, p, vs, hG, hσ, hp, r⟩ := all3_ow A.all hs
  have hH := A.sub G (List.mem_of_getElem? hG) _ _ hp
  refine ⟨.ref p, hσ, .inl ⟨rfl, vs, SqL.of hH⟩, F, A.ext.sub, A.sl, wpS_R (wpS_bind q) A.base fun a q v H' F' G' s ex pr k => ?_⟩
  obtain ⟨v', e1, rv⟩ := k
  cases e1
  have A' := A.grow s ex
  unfold appR at q
  cases g : big as.length with
  | false => rw [g] at q; exact q.elim
  | true =>
    rw [g] at q
    refine ⟨p, vs, v, rfl, rfl, s _ _ hH, by rw [r.length]; exact Nat.lt_of_le_of_lt (of_decide_eq_true g) (by decide), ?_⟩
    exact q _ _ _ _ (A'.put hG hσ hp (All2.append (r.mono ex.le) ⟨rv, trivial⟩))
def extR {α : Type} (xs ys : List α) : Res (List α) := guardR (big (xs.length + ys.length)) (.ok (xs ++ ys))
theorem s1_extend (i : Nat) {α : Type} [Enc α] {as : List α} {m : Res (List α)} {x : Str} {p apos cpos : Pos} (h : XK X W ss e m fr) (hs : ss[i]? = some (ow as) := by rfl) (hp : PE X (.Name x p) (tVar i) := by exact pv _)
    (hbase : attributeBase (.Name x p) "extend" X.env (eval (.Name x p) X.env) = eval (.Name x p) X.env := by rfl)
    (hfew : ((backTo cpos (starEach [e] X.env)).all (fun x => !x.1) && (backToKw cpos (keywordEach [] X.env)).all (fun x => x.1.isSome)
      && decide (([e] : List Expr).length + ([] : List Keyword).length + (if ([] : List Keyword).isEmpty then 0 else 1) < 30)) = true := by rfl)
    (hline : (apos.endLine == cpos.line) = true := by rfl) (hst : starEach [e] X.env = (false, eval e X.env) :: starEach [] X.env := by rfl) (hplain : (backTo cpos (starEach [] X.env)).any (·.1) = false := by rfl)
    (hsw : swapsWith (.Call (.Attribute (.Name x p) "extend" apos) [e] [] cpos) none pos.line X.env = pure false := by rfl) :
    S1 X W ss (.Expr (.Call (.Attribute (.Name x p) "extend" apos) [e] [] cpos) pos) (m.bind fun ys => extR as ys) (fun as' => ss.set i (ow as')) := by
  have hx := pe_bm PySem.F.plainAttrs_list PySem.F.slot_list_extend PySem.F.type_list_extend mt_extend hp (pa_cons h pa_nil hst) hbase hfew hline hst hplain
  refine PS_imp (ps_expr hx hsw) fun D σ H ⟨B, F0, F, Gs, A, q⟩ => ?_
  obtain ⟨G, p, vs, hG, hσ, hp, r⟩ := all3_ow A.all hs
  have hH := A.sub G (List.mem_of_getElem? hG) _ _ hp
  refine ⟨.ref p, hσ, .inl ⟨rfl, vs, SqL.of hH⟩, F, A.ext.sub, A.sl, wpS_R (wpS_bind q) A.base fun ys q v H' F' G' s ex pr k => ?_⟩
  obtain ⟨v', e1, p2, ws, e2, hp2, rv⟩ := k
  cases e1
  have A' := A.grow s ex
  unfold extR at q
  cases g : big (as.length + ys.length) with
  | false => rw [g] at q; exact q.elim
  | true =>
    rw [g] at q
    refine ⟨p, p2, vs, ws, rfl, by rw [e2], s _ _ hH, ex.sub _ _ hp2, by rw [r.length, rv.length]; exact big_line g, ?_⟩
    exact q _ _ _ _ (A'.put hG hσ hp (All2.append (r.mono ex.le) rv))
/-- x.clear() -/
theorem s1_clear (i : Nat) {α : Type} [Enc α] {as : List α} {x : Str} {p apos cpos : Pos} (hs : ss[i]? = some (ow as) := by rfl) (hx : PE X (.Call (.Attribute (.Name x p) "clear" apos) [] [] cpos) (tBM0 X.K "list" rClear (tVar i)) := by exact pe_bm0 PySem.F.plainAttrs_list PySem.F.slot_list_clear PySem.F.type_list_clear mt_clear (pv _))
    (hsw : swapsWith (.Call (.Attribute (.Name x p) "clear" apos) [] [] cpos) none pos.line X.env = pure false := by rfl) :
    S1 X W ss (.Expr (.Call (.Attribute (.Name x p) "clear" apos) [] [] cpos) pos) (.ok ([] : List α)) (fun as' => ss.set i (ow as')) := by
  refine PS_imp (ps_expr hx hsw) fun D σ H ⟨B, F0, F, Gs, A, q⟩ => ?_
  obtain ⟨G, p, vs, hG, hσ, hp, r⟩ := all3_ow A.all hs
  have hH := A.sub G (List.mem_of_getElem? hG) _ _ hp
  refine ⟨.ref p, hσ, .inl ⟨rfl, vs, SqL.of hH⟩, p, vs, rfl, rfl, hH, ?_⟩
  exact q _ _ _ _ (A.put (as' := ([] : List α)) hG hσ hp trivial)
/-- a call whose answer is dropped -/
theorem s1_drop {R : Type} {kd : R → Slot} {m : Res R} (h : XK X W ss e m kd) (hsw : swapsWith e none pos.line X.env = pure false := by rfl) : S1 X W ss (.Expr e pos) m (fun _ => ss) :=
  PS_imp (ps_expr h hsw) fun D σ H ⟨B, F0, F, Gs, A, q⟩ => ⟨F, A.ext.sub, A.sl, wpS_R q A.base fun a q v H' F' G' s ex pr k => q _ H' F' Gs (A.grow s ex)⟩
/-- from now on nobody changes it -/
theorem froz {w : Ends → Hp → Hp → Prop} (i : Nat) {α : Type} [Enc α] {as : List α} {sts : List Stmt} (h : PSs X sts (rdX X (ss.set i (fr as)) w)) (hs : ss[i]? = some (ow as)) : PSs X sts (rdX X ss w) := by
  refine PSs_imp h fun D σ H ⟨B, F0, F, Gs, A, q⟩ => ?_
  obtain ⟨G, p, vs, hG, hσ, hp, r⟩ := all3_ow A.all hs
  have hm := List.mem_of_getElem? hG
  have sG := A.sub G hm
  refine ⟨B, F0, join F G, Gs.set i noHp, ⟨⟨A.ext.le.trans join_l, join_le A.ext.sub sG, fun c u z => (join_or z).elim (A.ext.new c u) fun z => .inr (.inl (A.priv G hm c u z).2.1)⟩, A.base, ?_, fun G' m c u z => ?_, ?_⟩, q⟩
  · have e := set_self hσ
    rw [← e]
    exact (A.all.mono join_l).set (s := fr as) ⟨.ref p, rfl, p, vs, rfl, join_r A.ext.sub sG _ _ hp, r.mono join_l⟩ i
  · obtain ⟨j, hj⟩ := List.getElem?_of_mem m
    by_cases hji : j = i
    · subst hji
      have hlt : j < Gs.length := (List.getElem?_eq_some_iff.mp hG).1
      rw [List.getElem?_set_self hlt] at hj
      have e := Option.some.inj hj
      rw [← e] at z; cases z
    · rw [List.getElem?_set_ne (Ne.symm hji)] at hj
      obtain ⟨k1, k2, k3, k4⟩ := A.priv G' (List.mem_of_getElem? hj) c u z
      refine ⟨k1, k2, ?_, k4⟩
      have hj' := List.getElem?_eq_some_iff.mp hj
      have hG' := List.getElem?_eq_some_iff.mp hG
      have d : Dj G' G := by
        rcases Nat.lt_or_gt_of_ne hji with y | y
        · have := List.pairwise_iff_getElem.mp A.dj j i hj'.1 hG'.1 y
          rw [hj'.2, hG'.2] at this
          exact this
        · have := List.pairwise_iff_getElem.mp A.dj i j hG'.1 hj'.1 y
          rw [hj'.2, hG'.2] at this
          exact fun a => (this a).symm
      have gc : G c = none := (d c).elim (fun y => by rw [y] at z; cases z) id
      unfold join
      rw [k3]
      exact gc
  · exact pw_set i A.dj fun G' _ c => .inl rfl
theorem st_froz (i : Nat) {α R : Type} [Enc α] {as : List α} {e : Bool} {sts : List Stmt} {M : Res R} {kr : R → Slot} (h : ST X W e (ss.set i (fr as)) sts M kr) (hs : ss[i]? = some (ow as) := by rfl) : ST X W e ss sts M kr := froz i h hs
theorem sn_froz (i : Nat) {α S : Type} [Enc α] {as : List α} {sts : List Stmt} {M : Res S} {post : S → List Slot} (h : SN X W (ss.set i (fr as)) sts M post) (hs : ss[i]? = some (ow as) := by rfl) : SN X W ss sts M post := froz i h hs
theorem sb_froz (i : Nat) {α S L R : Type} [Enc α] {as : List α} {sts : List Stmt} {M : Res (Out S L R)} {post : S → List Slot} {pl : L → List Slot} {kr : R → Slot} (h : SB X W (ss.set i (fr as)) sts M post pl kr) (hs : ss[i]? = some (ow as) := by rfl) : SB X W ss sts M post pl kr := froz i h hs
/-! unpacking a list -/
def TgL (X : Cx) {α : Type} [Enc α] (ts : List Expr) (n : Nat) (u : List α → List Slot → List Slot) : Prop :=
  ∃ g, PGs X ts g ∧ ∀ (as : List α) (vs : List V) (B F0 F H : Hp) (Gs : List Hp) (ss : List Slot) (σ : L2.St) (Q : L2.St → Hp → Prop), as.length = n → Asn X.K B F0 ss σ H F Gs → All2 (fun v a => Enc.rep X.K F v a) vs as →
    (∀ σ' Gs', Asn X.K B F0 (u as ss) σ' H F Gs' → Q σ' H) → g vs σ H Q
theorem tl_nil {α : Type} [Enc α] : TgL X (α := α) [] 0 (fun _ ss => ss) := ⟨_, pgs_nil, fun as vs B F0 F H Gs ss σ Q hl A r q => by
  cases as with
  | nil => cases vs with
    | nil => exact ⟨rfl, q σ Gs A⟩
    | cons v vs => exact r.elim
  | cons a as => cases hl⟩
theorem tl_cons {α : Type} [Enc α] [Inhabited α] {t : Expr} {ts : List Expr} {n : Nat} {u1 : α → List Slot → List Slot} {u2 : List α → List Slot → List Slot} (h1 : Tg X t u1) (h2 : TgL X ts n u2)
    (hs : (assignEach (t :: ts) X.env).map (·.2) = assign t X.env :: (assignEach ts X.env).map (·.2) := by rfl) : TgL X (t :: ts) (n + 1) (fun as ss => u2 as.tail (u1 (as.headD default) ss)) := by
  obtain ⟨g1, p1, q1⟩ := h1
  obtain ⟨g2, p2, q2⟩ := h2
  refine ⟨_, pgs_cons p1 p2 hs, fun as vs B F0 F H Gs ss σ Q hl A r q => ?_⟩
  cases as with
  | nil => cases hl
  | cons a as =>
    cases vs with
    | nil => exact r.elim
    | cons v vs => exact ⟨v, vs, rfl, q1 _ _ _ _ _ _ _ _ _ _ A r.1 fun σ1 Gs1 A1 => q2 as vs _ _ _ _ _ _ _ _ (Nat.succ.inj hl) A1 r.2 q⟩
theorem s1_unl {α : Type} [Enc α] {ts : List Expr} {n k : Nat} {tp : Pos} {u : List α → List Slot → List Slot} {m : Res (List α)} (h : XK X W ss e m fr) (hg : TgL X ts n u) (hc : X.calm = true := by rfl) (hn : (assignEach ts X.env).length = n := by rfl) (hst : (assignEach ts X.env).findIdx? (·.1) = none := by rfl)
    (hs : swapsWithSole [.Tuple ts k tp] e pos.line X.env = pure false := by rfl) (hw : swappedStores [.Tuple ts k tp] e X.env = pure none := by rfl) (h1 : (assignEach [.Tuple ts k tp] X.env).map (·.2) = [assign (.Tuple ts k tp) X.env] := by rfl) :
    S1 X W ss (.Assign [.Tuple ts k tp] e pos) (m.bind fun as => guardR (decide (as.length = n)) (.ok as)) (fun as => u as ss) := by
  obtain ⟨g, pg, qg⟩ := hg
  refine PS_imp (ps_asg h (pg_unl hc pg hn hst) hs hw h1) fun D σ H ⟨B, F0, F, Gs, A, q⟩ => ⟨F, A.ext.sub, A.sl, wpS_R (wpS_bind q) A.base fun as q v H' F' G' s ex _ ⟨v', e1, p, vs, e2, hp, r⟩ => ?_⟩
  cases e1
  cases hd : decide (as.length = n) with
  | false => rw [hd] at q; exact q.elim
  | true =>
    rw [hd] at q
    have hl := of_decide_eq_true hd
    exact ⟨p, vs, e2, SqL.of (ex.sub _ _ hp), by rw [r.length, hl], qg as vs B F0 F' H' Gs ss σ _ hl (A.grow s ex) r fun σ' Gs' A' => q σ' H' F' Gs' A'⟩
/-- x op= e -/
theorem s1_augI (i : Nat) {x : Str} {a : Int} {m : Res Int} {p : Pos} (h : XI X W ss e m) (hN : X.N.Nodup) (hs : ss[i]? = some (fr a) := by rfl) (hi : X.N[i]? = some x := by rfl) (hx : Loc X.env.scope x := by first | exact Or.inl rfl | exact Or.inr rfl) (hf : X.fn x = true ∨ X.env.scope.names.lookup x = some .local := by first | exact .inl rfl | exact .inr rfl) :
    S1 X W ss (.AugAssign (.Name x p) .Add e pos) (m.bind fun b => .ok (a + b)) (fun c => ss.set i (fr c)) := by
  refine PS_imp (ps_aug hN hi hx h ip_add hf) fun D σ H ⟨B, F0, F, Gs, A, q⟩ => ?_
  obtain ⟨G, o, hG, hσ, v, e1, r⟩ := A.all.get hs
  subst e1
  refine ⟨v, hσ, A.sl.mono A.ext.sub (Same.refl H), wpS_R (wpS_bind q) A.base fun b q w H' s rw' => ⟨a, b, r, rw', ?_⟩⟩
  exact q _ H' F _ (A.set (s := fr (a + b)) s ⟨Same.refl F, A.ext.sub.trans s, fun _ _ h => .inl h⟩ priv_no ⟨_, rfl, rfl⟩ i)
end
end G

namespace G
open PySem PySem.Spec PyProof.Rows L2
/-! ### data -/
class Dat (α : Type) [Enc α] where
  py : α → PyData
  dp : ∀ {K : Frag} {H : Hp} {v : V} {a : α}, Enc.rep K H v a → Dp K H v (py a)
  lay : α → Bool
  dep : Nat
  layOk : ∀ {a : α}, lay a = true → (py a).canLay0 = true
  depOk : ∀ a : α, (py a).depth ≤ dep
instance : Dat Int := ⟨.int, fun h => by rw [show _ = V.int _ from h]; exact .int _, fun _ => true, 0, fun _ => by simp [PyData.canLay0], fun _ => by simp [PyData.depth]⟩
instance : Dat Bool := ⟨.bool, fun h => by rw [show _ = V.bl _ from h]; exact .bl _, fun _ => true, 0, fun _ => by simp [PyData.canLay0], fun _ => by simp [PyData.depth]⟩
instance : Dat Str := ⟨.str, fun h => by rw [show _ = V.str _ from h]; exact .str _, PyData.strOk, 0, fun h => by simpa [PyData.canLay0] using h, fun _ => by simp [PyData.depth]⟩
instance : Dat Unit := ⟨fun _ => .none, fun h => by rw [show _ = V.non from h]; exact .non, fun _ => true, 0, fun _ => by simp [PyData.canLay0], fun _ => by simp [PyData.depth]⟩
instance {α : Type} [Enc α] [Dat α] : Dat (Option α) where
  py := fun o => match o with | none => .none | some a => Dat.py a
  dp := fun {K H v o} h => by
    cases o with
    | none => rw [show v = V.non from h]; exact .non
    | some a => exact Dat.dp h.2
  lay := fun o => match o with | none => true | some a => Dat.lay a
  dep := Dat.dep α
  layOk := fun {o} h => by
    cases o with
    | none => simp [PyData.canLay0]
    | some a => exact Dat.layOk h
  depOk := fun o => by
    cases o with
    | none => simp [PyData.depth]
    | some a => exact Dat.depOk a
theorem dpAll {α : Type} [Enc α] [Dat α] {K : Frag} {H : Hp} : ∀ {vs : List V} {as : List α}, All2 (fun v a => Enc.rep K H v a) vs as → DpAll K H vs (as.map Dat.py)
  | [], [], _ => .nil
  | _ :: _, _ :: _, ⟨h, t⟩ => .cons (Dat.dp h) (dpAll t)
  | [], _ :: _, h => h.elim
  | _ :: _, [], h => h.elim
theorem layAll {α : Type} [Enc α] [Dat α] : ∀ {as : List α}, as.all Dat.lay = true → PyData.canLayAll0 (as.map Dat.py) = true
  | [], _ => by simp [PyData.canLayAll0]
  | a :: as, h => by
    rw [List.all_cons, Bool.and_eq_true] at h
    simp only [List.map_cons, PyData.canLayAll0, Bool.and_eq_true]
    exact ⟨Dat.layOk h.1, layAll h.2⟩
theorem depAll {α : Type} [Enc α] [Dat α] : ∀ as : List α, PyData.depthAll (as.map Dat.py) ≤ Dat.dep α
  | [] => by simp [PyData.depthAll]
  | a :: as => by
    simp only [List.map_cons, PyData.depthAll]
    exact Nat.max_le.mpr ⟨Dat.depOk a, depAll as⟩
instance {α : Type} [Enc α] [Dat α] : Dat (List α) where
  py := fun as => .list (as.map Dat.py)
  dp := fun ⟨p, vs, e, h, r⟩ => by rw [e]; exact .lst (SqL.of h) (dpAll r)
  lay := fun as => as.all Dat.lay
  dep := Dat.dep α + 1
  layOk := fun h => by simp only [PyData.canLay0]; exact layAll h
  depOk := fun as => by simp only [PyData.depth]; exact Nat.succ_le_succ (depAll as)
instance {α : Type} [Enc α] [Dat α] : Dat (Tup α) where
  py := fun as => .tuple (as.l.map Dat.py)
  dp := fun ⟨p, vs, e, h, r⟩ => by rw [e]; exact .tup h (dpAll r)
  lay := fun as => as.l.all Dat.lay
  dep := Dat.dep α + 1
  layOk := fun h => by simp only [PyData.canLay0]; exact layAll h
  depOk := fun as => by simp only [PyData.depth]; exact Nat.succ_le_succ (depAll as.l)
instance {α β : Type} [Enc α] [Enc β] [Dat α] [Dat β] : Dat (α × β) where
  py := fun x => .tuple [Dat.py x.1, Dat.py x.2]
  dp := fun ⟨p, v1, v2, e, h, r1, r2⟩ => by rw [e]; exact .tup (SqT.of h) (.cons (Dat.dp r1) (.cons (Dat.dp r2) .nil))
  lay := fun x => Dat.lay x.1 && Dat.lay x.2
  dep := max (Dat.dep α) (Dat.dep β) + 1
  layOk := fun h => by
    rw [Bool.and_eq_true] at h
    simp only [PyData.canLay0, PyData.canLayAll0, Bool.and_eq_true, and_true]
    exact ⟨Dat.layOk h.1, Dat.layOk h.2⟩
  depOk := fun x => by
    have h1 := Dat.depOk x.1
    have h2 := Dat.depOk x.2
    simp only [PyData.depth, PyData.depthAll]
    omega
instance {α β γ : Type} [Enc α] [Enc β] [Enc γ] [Dat α] [Dat β] [Dat γ] : Dat (T3 α β γ) where
  py := fun x => .tuple [Dat.py x.a, Dat.py x.b, Dat.py x.c]
  dp := fun ⟨p, v1, v2, v3, e, h, r1, r2, r3⟩ => by rw [e]; exact .tup (SqT.of h) (.cons (Dat.dp r1) (.cons (Dat.dp r2) (.cons (Dat.dp r3) .nil)))
  lay := fun x => Dat.lay x.a && (Dat.lay x.b && Dat.lay x.c)
  dep := max (Dat.dep α) (max (Dat.dep β) (Dat.dep γ)) + 1
  layOk := fun h => by
    rw [Bool.and_eq_true, Bool.and_eq_true] at h
    simp only [PyData.canLay0, PyData.canLayAll0, Bool.and_eq_true, and_true]
    exact ⟨Dat.layOk h.1, Dat.layOk h.2.1, Dat.layOk h.2.2⟩
  depOk := fun x => by
    have h1 := Dat.depOk x.a
    have h2 := Dat.depOk x.b
    have h3 := Dat.depOk x.c
    simp only [PyData.depth, PyData.depthAll]
    omega
instance : Dat Scr where
  py := fun x => .list (x.ns.map PyData.int)
  dp := fun {K H v x} ⟨p, e, h⟩ => by
    rw [e]
    refine .lst h ?_
    have go : ∀ ns : List Int, DpAll K H (ns.map V.int) (ns.map PyData.int) := fun ns => by
      induction ns with
      | nil => exact .nil
      | cons n ns ih => exact .cons (.int n) ih
    exact go x.ns
  lay := fun _ => true
  dep := 1
  layOk := fun {x} _ => by
    simp only [PyData.canLay0]
    have go : ∀ ns : List Int, PyData.canLayAll0 (ns.map PyData.int) = true := fun ns => by
      induction ns with
      | nil => simp [PyData.canLayAll0]
      | cons n ns ih => simp [PyData.canLayAll0, PyData.canLay0, ih]
    exact go x.ns
  depOk := fun x => by
    simp only [PyData.depth]
    have go : ∀ ns : List Int, PyData.depthAll (ns.map PyData.int) = 0 := fun ns => by
      induction ns with
      | nil => simp [PyData.depthAll]
      | cons n ns ih => simp [PyData.depthAll, PyData.depth, ih]
    rw [go x.ns]; exact Nat.le_refl _
theorem shaped_of {α : Type} [Enc α] [Dat α] {a : α} (h : Dat.lay a = true) (hd : Dat.dep α ≤ 64) : SeqAt.shaped (Dat.py a) = true := by
  unfold SeqAt.shaped
  rw [Dat.layOk h, decide_eq_true (Nat.le_trans (Dat.depOk a) hd)]
  rfl
/-- == of data -/
def eqD {α β : Type} [Enc α] [Enc β] [Dat α] [Dat β] (a : α) (b : β) : Res Bool := guardR (Dat.lay a && Dat.lay b) (.ok (PyData.eqv (Dat.py a) (Dat.py b)))
def neD {α β : Type} [Enc α] [Enc β] [Dat α] [Dat β] (a : α) (b : β) : Res Bool := guardR (Dat.lay a && Dat.lay b) (.ok (!PyData.eqv (Dat.py a) (Dat.py b)))
section
variable {X : Cx} {W : WX} {ss : List Slot} {pos : Pos} {a b e : Expr} {es : List Expr}
theorem b_eqD {α β : Type} [Enc α] [Enc β] [Dat α] [Dat β] (ha : Dat.dep α ≤ 64 := by decide) (hb : Dat.dep β ≤ 64 := by decide) : Bi X (rEqD X.K) (fun (a : α) (b : β) => eqD a b) := ⟨fun a b v w H Q r1 r2 q => by
  cases g : (Dat.lay a && Dat.lay b) with
  | false =>
    have q : okR (eqD a b) _ := q
    unfold eqD at q; rw [g] at q; exact q.elim
  | true =>
    have q : okR (eqD a b) _ := q
    unfold eqD at q; rw [g] at q
    rw [Bool.and_eq_true] at g
    exact ⟨_, _, Dat.dp r1, Dat.dp r2, shaped_of g.1 ha, shaped_of g.2 hb, q _ H (Same.refl H) rfl⟩, fun _ _ => noX_guard⟩
theorem b_neD {α β : Type} [Enc α] [Enc β] [Dat α] [Dat β] (ha : Dat.dep α ≤ 64 := by decide) (hb : Dat.dep β ≤ 64 := by decide) : Bi X (rNeD X.K) (fun (a : α) (b : β) => neD a b) := ⟨fun a b v w H Q r1 r2 q => by
  cases g : (Dat.lay a && Dat.lay b) with
  | false =>
    have q : okR (neD a b) _ := q
    unfold neD at q; rw [g] at q; exact q.elim
  | true =>
    have q : okR (neD a b) _ := q
    unfold neD at q; rw [g] at q
    rw [Bool.and_eq_true] at g
    exact ⟨_, _, Dat.dp r1, Dat.dp r2, shaped_of g.1 ha, shaped_of g.2 hb, q _ H (Same.refl H) rfl⟩, fun _ _ => noX_guard⟩
def inD {α : Type} [Enc α] [Dat α] (a : α) (xs : List α) : Res Bool := guardR (Dat.lay a && Dat.lay xs) (.ok (xs.any fun z => PyData.eqv (Dat.py z) (Dat.py a)))
def ninD {α : Type} [Enc α] [Dat α] (a : α) (xs : List α) : Res Bool := guardR (Dat.lay a && Dat.lay xs) (.ok (!xs.any fun z => PyData.eqv (Dat.py z) (Dat.py a)))
theorem b_inD {α : Type} [Enc α] [Dat α] (ha : Dat.dep α + 1 ≤ 64 := by decide) : Bi X (rInD X.K) (fun (a : α) (xs : List α) => inD a xs) := ⟨fun a xs v w H Q r1 r2 q => by
  cases g : (Dat.lay a && Dat.lay xs) with
  | false =>
    have q : okR (inD a xs) _ := q
    unfold inD at q; rw [g] at q; exact q.elim
  | true =>
    have q : okR (inD a xs) _ := q
    unfold inD at q; rw [g] at q
    rw [Bool.and_eq_true] at g
    refine ⟨_, xs.map Dat.py, Dat.dp r1, Dat.dp r2, shaped_of g.1 (Nat.le_of_succ_le ha), shaped_of (a := xs) g.2 ha, ?_⟩
    rw [List.any_map]
    exact q _ H (Same.refl H) rfl, fun _ _ => noX_guard⟩
theorem b_ninD {α : Type} [Enc α] [Dat α] (ha : Dat.dep α + 1 ≤ 64 := by decide) : Bi X (rNotInD X.K) (fun (a : α) (xs : List α) => ninD a xs) := ⟨fun a xs v w H Q r1 r2 q => by
  cases g : (Dat.lay a && Dat.lay xs) with
  | false =>
    have q : okR (ninD a xs) _ := q
    unfold ninD at q; rw [g] at q; exact q.elim
  | true =>
    have q : okR (ninD a xs) _ := q
    unfold ninD at q; rw [g] at q
    rw [Bool.and_eq_true] at g
    refine ⟨_, xs.map Dat.py, Dat.dp r1, Dat.dp r2, shaped_of g.1 (Nat.le_of_succ_le ha), shaped_of (a := xs) g.2 ha, ?_⟩
    rw [List.any_map]
    exact q _ H (Same.refl H) rfl, fun _ _ => noX_guard⟩
end
/-- == tells as Lean's = -/
class DatEq (α : Type) [Enc α] [Dat α] : Prop where
  iff : ∀ a b : α, PyData.eqv (Dat.py a) (Dat.py b) = true ↔ a = b
instance : DatEq Int := ⟨fun a b => by show (a == b) = true ↔ _; simp⟩
instance : DatEq Bool := ⟨fun a b => by show (a == b) = true ↔ _; simp⟩
instance : DatEq Str := ⟨fun a b => by show (a == b) = true ↔ _; simp⟩
instance : DatEq Unit := ⟨fun a b => by show true = true ↔ _; simp⟩
theorem eqvAll_iff {α : Type} [Enc α] [Dat α] [DatEq α] : ∀ as bs : List α, PyData.eqvAll (as.map Dat.py) (bs.map Dat.py) = true ↔ as = bs
  | [], [] => by simp [PyData.eqvAll]
  | a :: as, b :: bs => by
    simp only [List.map_cons, PyData.eqvAll, Bool.and_eq_true, DatEq.iff, eqvAll_iff as bs, List.cons.injEq]
  | [], _ :: _ => by simp [PyData.eqvAll]
  | _ :: _, [] => by simp [PyData.eqvAll]
instance {α : Type} [Enc α] [Dat α] [DatEq α] : DatEq (List α) := ⟨fun a b => by show PyData.eqvAll _ _ = true ↔ _; exact eqvAll_iff a b⟩
instance {α : Type} [Enc α] [Dat α] [DatEq α] : DatEq (Tup α) := ⟨fun a b => by
  show PyData.eqvAll _ _ = true ↔ _
  rw [eqvAll_iff]
  cases a; cases b; simp⟩
instance {α β : Type} [Enc α] [Enc β] [Dat α] [Dat β] [DatEq α] [DatEq β] : DatEq (α × β) := ⟨fun a b => by
  show PyData.eqvAll [_, _] [_, _] = true ↔ _
  cases a; cases b
  simp [PyData.eqvAll, DatEq.iff]⟩
instance {α β γ : Type} [Enc α] [Enc β] [Enc γ] [Dat α] [Dat β] [Dat γ] [DatEq α] [DatEq β] [DatEq γ] : DatEq (T3 α β γ) := ⟨fun a b => by
  show PyData.eqvAll [_, _, _] [_, _, _] = true ↔ _
  cases a; cases b
  simp [PyData.eqvAll, DatEq.iff]⟩
/-- data without texts -/
class NoStr (α : Type) [Enc α] [Dat α] : Prop where
  lay : ∀ a : α, Dat.lay a = true
instance : NoStr Int := ⟨fun _ => rfl⟩
instance : NoStr Bool := ⟨fun _ => rfl⟩
instance : NoStr Unit := ⟨fun _ => rfl⟩
instance {α : Type} [Enc α] [Dat α] [NoStr α] : NoStr (List α) := ⟨fun as => List.all_eq_true.mpr fun a _ => NoStr.lay a⟩
instance {α : Type} [Enc α] [Dat α] [NoStr α] : NoStr (Tup α) := ⟨fun as => List.all_eq_true.mpr fun a _ => NoStr.lay a⟩
instance {α : Type} [Enc α] [Dat α] [NoStr α] : NoStr (Option α) := ⟨fun o => by cases o with | none => rfl | some a => exact NoStr.lay a⟩
instance {α β : Type} [Enc α] [Enc β] [Dat α] [Dat β] [NoStr α] [NoStr β] : NoStr (α × β) := ⟨fun x => by show (Dat.lay _ && Dat.lay _) = true; rw [NoStr.lay, NoStr.lay]; rfl⟩
instance {α β γ : Type} [Enc α] [Enc β] [Enc γ] [Dat α] [Dat β] [Dat γ] [NoStr α] [NoStr β] [NoStr γ] : NoStr (T3 α β γ) := ⟨fun x => by show (Dat.lay _ && (Dat.lay _ && Dat.lay _)) = true; rw [NoStr.lay, NoStr.lay, NoStr.lay]; rfl⟩
theorem eqD_eq {α : Type} [Enc α] [Dat α] [NoStr α] [DatEq α] [DecidableEq α] (a b : α) : eqD a b = .ok (decide (a = b)) := by
  unfold eqD
  rw [NoStr.lay, NoStr.lay]
  show Res.ok _ = _
  congr 1
  by_cases e : a = b
  · rw [decide_eq_true e]; exact (DatEq.iff a b).mpr e
  · rw [decide_eq_false e]
    cases q : PyData.eqv (Dat.py a) (Dat.py b) with
    | false => rfl
    | true => exact absurd ((DatEq.iff a b).mp q) e
theorem neD_eq {α : Type} [Enc α] [Dat α] [NoStr α] [DatEq α] [DecidableEq α] (a b : α) : neD a b = .ok (!decide (a = b)) := by
  have h := eqD_eq a b
  unfold eqD at h
  unfold neD
  rw [NoStr.lay, NoStr.lay] at h ⊢
  have h : Res.ok _ = Res.ok _ := h
  injection h with h
  show Res.ok _ = _
  rw [h]
theorem inD_eq {α : Type} [Enc α] [Dat α] [NoStr α] [DatEq α] [DecidableEq α] (a : α) (xs : List α) : inD a xs = .ok (decide (a ∈ xs)) := by
  unfold inD
  rw [NoStr.lay, NoStr.lay]
  show Res.ok _ = _
  congr 1
  rw [Bool.eq_iff_iff, List.any_eq_true, decide_eq_true_iff]
  constructor
  · rintro ⟨z, m, h⟩; rw [← (DatEq.iff z a).mp h]; exact m
  · intro m; exact ⟨a, m, (DatEq.iff a a).mpr rfl⟩
theorem ninD_eq {α : Type} [Enc α] [Dat α] [NoStr α] [DatEq α] [DecidableEq α] (a : α) (xs : List α) : ninD a xs = .ok (!decide (a ∈ xs)) := by
  have h := inD_eq a xs
  unfold inD at h
  unfold ninD
  rw [NoStr.lay, NoStr.lay] at h ⊢
  have h : Res.ok _ = Res.ok _ := h
  injection h with h
  show Res.ok _ = _
  rw [h]
section
variable {X : Cx} {W : WX} {ss : List Slot} {pos : Pos} {a b e : Expr} {es : List Expr}
/-! ### in, of what is no object -/
class FlatS (α : Type) [Enc α] [Sca α] : Prop where
  flat : ∀ a : α, flatV (Sca.v a) = true
  iff : ∀ a b : α, eqV (Sca.v a) (Sca.v b) = true ↔ a = b
instance : FlatS Int := ⟨fun _ => rfl, fun a b => by show (a == b) = true ↔ _; simp⟩
instance : FlatS Str := ⟨fun _ => rfl, fun a b => by show (a == b) = true ↔ _; simp⟩
instance : FlatS Bool := ⟨fun _ => rfl, fun a b => by show (a == b) = true ↔ _; simp⟩
instance : FlatS (Option Int) := ⟨fun o => by cases o <;> rfl, fun a b => by
  cases a <;> cases b <;> first
    | (show true = true ↔ _; simp)
    | (show false = true ↔ _; simp)
    | (rename_i x y; show (x == y) = true ↔ _; simp)⟩
theorem all2_sca {α : Type} [Enc α] [Sca α] {K : Frag} {H : Hp} : ∀ {vs : List V} {as : List α}, All2 (fun v a => Enc.rep K H v a) vs as → vs = as.map Sca.v
  | [], [], _ => rfl
  | _ :: _, _ :: _, ⟨h, t⟩ => by rw [Sca.flat h, all2_sca t]; rfl
  | [], _ :: _, h => h.elim
  | _ :: _, [], h => h.elim
theorem inV_iff {α : Type} [Enc α] [Sca α] [FlatS α] [DecidableEq α] (a : α) (as : List α) : inV (Sca.v a) (as.map Sca.v) = decide (a ∈ as) := by
  unfold inV
  rw [List.any_map, Bool.eq_iff_iff, List.any_eq_true, decide_eq_true_iff]
  constructor
  · rintro ⟨z, m, h⟩; rw [← (FlatS.iff z a).mp h]; exact m
  · intro m; exact ⟨a, m, (FlatS.iff a a).mpr rfl⟩
theorem flat_all {α : Type} [Enc α] [Sca α] [FlatS α] (as : List α) : (as.map Sca.v).all flatV = true := by
  rw [List.all_map]; exact List.all_eq_true.mpr fun a _ => FlatS.flat a
theorem b_inL {α : Type} [Enc α] [Sca α] [FlatS α] [DecidableEq α] : Bi X (rIn X.K false) (fun (a : α) (xs : List α) => Res.ok (decide (a ∈ xs))) := ⟨fun a xs v w H Q r1 ⟨p, vs, e, hp, r⟩ q => by
  rw [Sca.flat r1]
  have ev := all2_sca r
  subst ev
  exact ⟨p, _, e, .inl (SqL.of hp), FlatS.flat a, flat_all xs, q _ H (Same.refl H) (by show V.bl (inV _ _) = V.bl _; rw [inV_iff])⟩, fun _ _ => noX_ok⟩
theorem b_ninL {α : Type} [Enc α] [Sca α] [FlatS α] [DecidableEq α] : Bi X (rIn X.K true) (fun (a : α) (xs : List α) => Res.ok (!decide (a ∈ xs))) := ⟨fun a xs v w H Q r1 ⟨p, vs, e, hp, r⟩ q => by
  rw [Sca.flat r1]
  have ev := all2_sca r
  subst ev
  exact ⟨p, _, e, .inl (SqL.of hp), FlatS.flat a, flat_all xs, q _ H (Same.refl H) (by show V.bl (!inV _ _) = V.bl _; rw [inV_iff])⟩, fun _ _ => noX_ok⟩
theorem b_inT {α : Type} [Enc α] [Sca α] [FlatS α] [DecidableEq α] : Bi X (rIn X.K false) (fun (a : α) (xs : Tup α) => Res.ok (decide (a ∈ xs.l))) := ⟨fun a xs v w H Q r1 ⟨p, vs, e, hp, r⟩ q => by
  rw [Sca.flat r1]
  have ev := all2_sca r
  subst ev
  exact ⟨p, _, e, .inr hp, FlatS.flat a, flat_all xs.l, q _ H (Same.refl H) (by show V.bl (inV _ _) = V.bl _; rw [inV_iff])⟩, fun _ _ => noX_ok⟩
theorem b_ninT {α : Type} [Enc α] [Sca α] [FlatS α] [DecidableEq α] : Bi X (rIn X.K true) (fun (a : α) (xs : Tup α) => Res.ok (!decide (a ∈ xs.l))) := ⟨fun a xs v w H Q r1 ⟨p, vs, e, hp, r⟩ q => by
  rw [Sca.flat r1]
  have ev := all2_sca r
  subst ev
  exact ⟨p, _, e, .inr hp, FlatS.flat a, flat_all xs.l, q _ H (Same.refl H) (by show V.bl (!inV _ _) = V.bl _; rw [inV_iff])⟩, fun _ _ => noX_ok⟩
/-! ### isinstance, where the kind is known -/
class HasTy (α : Type) [Enc α] where
  ty : String
  ok : ∀ {K : Frag} {H : Hp} {v : V} {a : α}, Enc.rep K H v a → TyX K H v (.type ty)
instance : HasTy Int := ⟨"int", fun h => by rw [show _ = V.int _ from h]; exact .base (.int _)⟩
instance : HasTy Bool := ⟨"bool", fun h => by rw [show _ = V.bl _ from h]; exact .base (.bl _)⟩
instance : HasTy Str := ⟨"str", fun h => by rw [show _ = V.str _ from h]; exact .base (.str _)⟩
instance : HasTy Unit := ⟨"NoneType", fun h => by rw [show _ = V.non from h]; exact .base .non⟩
instance {α : Type} [Enc α] : HasTy (List α) := ⟨"list", fun ⟨p, vs, e, h, _⟩ => by rw [e]; exact .base (.lst h)⟩
instance {α β : Type} [Enc α] [Enc β] : HasTy (α × β) := ⟨"tuple", fun ⟨p, v1, v2, e, h, _⟩ => by rw [e]; exact .base (.tup h)⟩
instance {α β γ : Type} [Enc α] [Enc β] [Enc γ] : HasTy (T3 α β γ) := ⟨"tuple", fun ⟨p, v1, v2, v3, e, h, _⟩ => by rw [e]; exact .base (.tup h)⟩
theorem tyT {K : Frag} {H : Hp} {p : Addr} {vs : List V} (h : SqT K H p vs) : TyX K H (.ref p) (.type "tuple") := by
  rcases h with (h | ⟨o, h⟩) | ⟨o, its, n, hk, hc, _⟩
  · exact .base (.tup h)
  · exact .fTuple h
  · exact .kTuple hk hc
instance {α : Type} [Enc α] : HasTy (Tup α) := ⟨"tuple", fun ⟨p, vs, e, h, _⟩ => by rw [e]; exact tyT h⟩
theorem xi_isi {α : Type} [Enc α] [HasTy α] {m : Res α} {T : Str} {TT : String} {r : Bool} {p q : Pos} (h : XI X W ss a m) (hb : PE X (.Name T q) (tC (.ty TT))) (hk : kitB (HasTy.ty α) TT = some r) (hm : X.mg "isinstance" = none) (hg : Gl X "isinstance" := by rfl)
    (he : starEach [a, .Name T q] X.env = (false, eval a X.env) :: starEach [.Name T q] X.env := by rfl) (he2 : starEach [.Name T q] X.env = (false, eval (.Name T q) X.env) :: starEach [] X.env := by rfl) (hpl : (backTo pos (starEach [.Name T q] X.env)).any (·.1) = false := by rfl) :
    XI X W ss (.Call (.Name "isinstance" p) [a, .Name T q] [] pos) (m.bind fun _ => .ok r) :=
  PE_imp (pe_callB call_isi hg hm (by decide +kernel) (pa_cons h (pa_cons hb pa_nil he2) he) (by decide) (by decide) he hpl) fun σ H Q ⟨sl, q⟩ => ⟨sl, wpR_imp (wpR_bind q) (Same.refl H) fun x q v H1 s1 r1 =>
    ⟨v, .ty TT, _, _, r, rfl, .ty TT, HasTy.ok r1, kit_ty hk, q _ H1 s1 rfl⟩⟩
theorem pe_ty {T : Str} {TT : String} {p : Pos} (hm : X.mg T = none) (hv : bootBuiltins T = some (.type TT)) (hg : Gl X T := by rfl) (hn : T ≠ "__name__" := by decide) (hd : (T == ("__debug__" : Str)) = false := by decide) : PE X (.Name T p) (tC (.ty TT)) := pe_bltn hg hm hv rfl hn hd
end
end G

namespace G
open PySem PySem.Spec PyProof.Rows L2
/-! ### defs of the text, as callers meet them -/
/-- a def of the text stands behind the top -/
structure IsDef (K : Frag) (mg : Str → Option Value) (x : Str) (st : Stmt) : Prop where
  ex : ∃ f fd, Fun K x x st f fd ∧ mg x = some (.ref f)
structure Cal (P : Program) (w : World) (K : Frag) (mg : Str → Option Value) (base : Heap) (k : Nat) (x : Str) {A' A R : Type} [EncA A'] [EncA A] (c : A' → A) (g : A → Res R) (kr : R → Slot) : Prop where
  ex : ∃ f fd ps dvs ds, FnOk P w K mg base (L2.CX P w) k f fd ps (spOf K mg g kr) ∧ mg x = some (.ref f) ∧ PySem.W.keepIn K (.ref f) = true ∧ Binds K fd ps ds ∧ Vals dvs ds ∧ ∀ H vs a, EncA.rep K H vs a → EncA.rep K H (vs ++ dvs) (c a)
section
variable {P : Program} {w : World} {K : Frag} {mg : Str → Option Value} {base : Heap}
theorem cal_mk {x : Str} {st : Stmt} {N ps : List Str} {k : Nat} {A R : Type} [EncP A] {g : A → Res R} {kr : R → Slot} (D : IsDef K mg x st) (S : FnScope N ps (defScope st)) (hl : EncP.len A = ps.length)
    (hb : ∀ (kV doc pm : Value) (an : Option Addr) (cdv ct : Value) (us : List Value), us.length = ps.length → bindArgs (PySem.W.fnOf x x (defArgs st) (defBody st) (defScope st) .none kV doc pm an cdv ct) ⟨us, []⟩ = pure (ps.zip us))
    (hbody : ∀ (a : A) (f : Addr) (cdv : Value) (A' : Around) (outer : List Env) (s : Shared) (H : Hp) (E : L2.XK), Room k (A'.deeper (envOfC x (defScope st) s.heap.objs.size f cdv)) →
      ST (cxOf (L2.CX P w) P w K mg base N x (defScope st) f cdv A' outer s H E) (wE E) true (EncP.slots a ++ List.replicate (N.length - EncP.len A) any) (defBody st) (g a) kr) :
    Cal P w K mg base (k + 1) x (fun a : A => a) g kr := by
  obtain ⟨f, fd, F, hm⟩ := D.ex
  exact ⟨f, fd, ps, [], [], fn_ok F S hl fun a cdv A' outer s H E hr => hbody a f cdv A' outer s H E hr, hm, F.kp, F.binds hb, .nil, fun H vs a h => by rw [List.append_nil]; exact h⟩
theorem ST.slots {X : Cx} {W : WX} {R : Type} {e : Bool} {ss ss' : List Slot} {sts : List Stmt} {M : Res R} {kr : R → Slot} (h : ST X W e ss' sts M kr) (q : ss = ss') : ST X W e ss sts M kr := q ▸ h
end
section
variable {X : Cx} {W : WX} {ss : List Slot} {k j : Nat} {x : Str} {A' A R : Type} [EncA A'] [EncA A] {c : A' → A} {g : A → Res R} {kr : R → Slot} {p pos : Pos} {e : Expr} {es : List Expr}
theorem xi_cal [Enc R] [View kr] (C : Cal X.prog X.w X.K X.mg X.base j x c g kr) (hr : Room k X.A) (tk : Takes X W) {m : Res A'} (ha : XA X W ss (e :: es) m) (hj : j ≤ k := by decide) (hg : Gl X x := by rfl) (hdb : (x == ("__debug__" : Str)) = false := by decide)
    (he : starEach (e :: es) X.env = (false, eval e X.env) :: starEach es X.env := by rfl) (hpl : (backTo pos (starEach es X.env)).any (·.1) = false := by rfl) : XI X W ss (.Call (.Name x p) (e :: es) [] pos) (m.bind fun a => g (c a)) := by
  obtain ⟨f, fd, ps, dvs, ds, F, hm, hk, hb, hd, hf⟩ := C.ex
  exact xi_call F (hr.mono hj) hm hk ⟨dvs, ds, hb, hd, hf⟩ tk ha hg hdb he hpl
theorem xk_cal [KImm kr] (C : Cal X.prog X.w X.K X.mg X.base j x c g kr) (hr : Room k X.A) (tk : Takes X W) {m : Res A'} (ha : XA X W ss (e :: es) m) (hj : j ≤ k := by decide) (hg : Gl X x := by rfl) (hdb : (x == ("__debug__" : Str)) = false := by decide)
    (he : starEach (e :: es) X.env = (false, eval e X.env) :: starEach es X.env := by rfl) (hpl : (backTo pos (starEach es X.env)).any (·.1) = false := by rfl) : XK X W ss (.Call (.Name x p) (e :: es) [] pos) (m.bind fun a => g (c a)) kr := by
  obtain ⟨f, fd, ps, dvs, ds, F, hm, hk, hb, hd, hf⟩ := C.ex
  exact xk_call F (hr.mono hj) hm hk ⟨dvs, ds, hb, hd, hf⟩ tk ha hg hdb he hpl
theorem xk_calF (C : Cal X.prog X.w X.K X.mg X.base j x c g kr) (hr : Room k X.A) (tk : Takes X W) {m : Res A'} (ha : XAK X W ss (e :: es) m) (hj : j ≤ k := by decide) (hg : Gl X x := by rfl) (hdb : (x == ("__debug__" : Str)) = false := by decide)
    (he : starEach (e :: es) X.env = (false, eval e X.env) :: starEach es X.env := by rfl) (hpl : (backTo pos (starEach es X.env)).any (·.1) = false := by rfl) : XK X W ss (.Call (.Name x p) (e :: es) [] pos) (m.bind fun a => g (c a)) kr := by
  obtain ⟨f, fd, ps, dvs, ds, F, hm, hk, hb, hd, hf⟩ := C.ex
  exact xk_callF F (hr.mono hj) hm hk ⟨dvs, ds, hb, hd, hf⟩ tk ha hg hdb he hpl
theorem hu64 {A : Around} {k : Nat} (hr : Room k A) : A.units + 64 < cLine := hr.units
theorem hu65 {A : Around} {k : Nat} (hr : Room k A) : A.units + 65 < cLine := by have := hr.un; omega
/-- a list of one's own is handed back -/
theorem st_retOw (i : Nat) {α : Type} [Enc α] {as : List α} {ee : Bool} {rest : List Stmt} {x : Str} {rp pos : Pos} (hs : ss[i]? = some (ow as) := by rfl) (hp : PE X (.Name x rp) (tVar i) := by exact pv _) : ST X W ee ss (.Return (some (.Name x rp)) pos :: rest) (.ok as) ow := by
  have h : PS X (.Return (some (.Name x rp)) pos) (rdX X ss fun D B F0 => wpS X W (.ok as) B fun r => RtOk X ow r D B F0) := by
    refine PS_imp (ps_ret hp) fun D σ H ⟨B, F0, F, Gs, A, q⟩ => ?_
    obtain ⟨G, p, vs, hG, hσ, hp, r⟩ := all3_ow A.all hs
    exact ⟨.ref p, hσ, q _ H F G A.base A.ext (A.priv G (List.mem_of_getElem? hG)) ⟨p, vs, rfl, hp, r⟩⟩
  exact PSs_imp (rest_free h fun D D' σ H e1 _ _ ⟨B, F0, F, Gs, A, q⟩ => ⟨B, F0, F, Gs, A, wpS_imp q fun r q v H' F' G' a b c d => by rw [e1]; exact q v H' F' G' a b c d⟩)
    fun D σ H ⟨B, F0, F, Gs, A, _, q⟩ => ⟨B, F0, F, Gs, A, q⟩
theorem sb_retOw (i : Nat) {α S L : Type} [Enc α] {as : List α} {rest : List Stmt} {x : Str} {rp pos : Pos} {post : S → List Slot} {pl : L → List Slot} (hs : ss[i]? = some (ow as) := by rfl) (hp : PE X (.Name x rp) (tVar i) := by exact pv _) :
    SB X W ss (.Return (some (.Name x rp)) pos :: rest) (.ok (.rt as) : Res (Out S L (List α))) post pl ow := by
  have h : PS X (.Return (some (.Name x rp)) pos) (rdX X ss fun D B F0 => wpS X W (.ok as) B fun r => RtOk X ow r D B F0) := by
    refine PS_imp (ps_ret hp) fun D σ H ⟨B, F0, F, Gs, A, q⟩ => ?_
    obtain ⟨G, p, vs, hG, hσ, hp, r⟩ := all3_ow A.all hs
    exact ⟨.ref p, hσ, q _ H F G A.base A.ext (A.priv G (List.mem_of_getElem? hG)) ⟨p, vs, rfl, hp, r⟩⟩
  exact PSs_imp (rest_free h fun D D' σ H e1 _ _ ⟨B, F0, F, Gs, A, q⟩ => ⟨B, F0, F, Gs, A, wpS_imp q fun r q v H' F' G' a b c d => by rw [e1]; exact q v H' F' G' a b c d⟩)
    fun D σ H ⟨B, F0, F, Gs, A, q⟩ => ⟨B, F0, F, Gs, A, q⟩
end
theorem wk_nil : Wk [] [] := trivial
theorem wk_eq {s : Slot} {ss ts : List Slot} (h : Wk ss ts) : Wk (s :: ss) (s :: ts) := ⟨.inl rfl, h⟩
theorem wk_any {s : Slot} {ss ts : List Slot} (h : Wk ss ts) : Wk (s :: ss) (any :: ts) := ⟨.inr rfl, h⟩
/-- a law of the text holds where its mirror says so -/
def spLaw (K : Frag) : Sp := fun vs H Q _ => ∃ (a : Addr) (ns : List Int), vs = [.ref a] ∧ SqL K H a (ns.map V.int) ∧ ns.length ≤ 63 ∧ ∀ v H', v = .bl true → Q v H'
theorem law_ok {P : Program} {w : World} {K : Frag} {mg : Str → Option Value} {base : Heap} {k : Nat} {f : Addr} {fd : FuncData} {x : Str} {g : Scr × Unit → Res Bool} (F : FnOk P w K mg base (L2.CX P w) k f fd [x] (spOf K mg g fr)) (hg : ∀ ns : List Int, ns.length ≤ 63 → g (⟨ns⟩, ()) = .ok true) :
    FnOk P w K mg base (L2.CX P w) k f fd [x] (spLaw K) := F.imp fun vs H Q E ⟨a, ns, e, hS, hl, q⟩ => by
  subst e
  refine ⟨(⟨ns⟩, ()), H, ⟨.ref a, [], rfl, ⟨a, rfl, hS⟩, rfl⟩, Same.refl H, ?_⟩
  rw [hg ns hl]
  exact fun v H' F' G' _ _ _ ⟨v', e, r⟩ => q v H' (by cases e; exact r)
end G

namespace G
open PySem PySem.Spec PyProof.Rows L2
/-! ### dicts -/
structure Dic (κ β : Type) where
  l : List (κ × β)
section
variable {κ β : Type} [DecidableEq κ]
def dget (d : Dic κ β) (k : κ) : Option β := (d.l.find? fun kv => decide (kv.1 = k)).map (·.2)
def dhas (d : Dic κ β) (k : κ) : Bool := d.l.any fun kv => decide (kv.1 = k)
def dput (d : Dic κ β) (k : κ) (v : β) : Dic κ β := ⟨if dhas d k then d.l.map (fun kv => if kv.1 = k then (kv.1, v) else kv) else d.l ++ [(k, v)]⟩
def dkeys (d : Dic κ β) : List κ := d.l.map (·.1)
theorem dget_isSome (d : Dic κ β) (k : κ) : (dget d k).isSome = dhas d k := by
  unfold dget dhas
  rw [Option.isSome_map, Bool.eq_iff_iff, List.find?_isSome, List.any_eq_true]
theorem dhas_keys (d : Dic κ β) (k : κ) : dhas d k = decide (k ∈ dkeys d) := by
  unfold dhas dkeys
  rw [Bool.eq_iff_iff, List.any_eq_true, decide_eq_true_iff, List.mem_map]
  constructor
  · rintro ⟨x, m, h⟩; exact ⟨x, m, of_decide_eq_true h⟩
  · rintro ⟨x, m, h⟩; exact ⟨x, m, decide_eq_true h⟩
theorem dkeys_put (d : Dic κ β) (k : κ) (v : β) : dkeys (dput d k v) = if k ∈ dkeys d then dkeys d else dkeys d ++ [k] := by
  unfold dput
  rw [dhas_keys]
  by_cases h : k ∈ dkeys d
  · rw [decide_eq_true h, if_pos rfl, if_pos h]
    unfold dkeys
    rw [List.map_map]
    refine List.map_congr_left fun x _ => ?_
    show (if x.1 = k then (x.1, v) else x).1 = x.1
    split <;> rfl
  · rw [decide_eq_false h, if_neg Bool.false_ne_true, if_neg h]
    unfold dkeys
    rw [List.map_append]; rfl
end
/-- what may be a key -/
class DK (κ : Type) [Enc κ] [DecidableEq κ] where
  ho : List (κ × V) → HO
  notT : ∀ kvs, isT (ho kvs) = false
  mutH : ∀ kvs, Mut (some (ho kvs))
  get : ∀ {K : Frag} {H : Hp} {a : Addr} {kvs : List (κ × V)} {y : V} {k : κ}, Rd H a (ho kvs) → Enc.rep K H y k → DGet H a y (valV kvs k)
  put : ∀ {K : Frag} {H : Hp} {a : Addr} {kvs : List (κ × V)} {y v : V} {k : κ}, H a = some (ho kvs) → Enc.rep K H y k → kvs.length < sizeLine → DPut H a y v (upd H a (ho (putK kvs k v)))
  new : ∀ (X : Cx) (pos : Pos), PE X (.Dict [] [] pos) (fun _ H Q => ∀ p, H p = none → Q (.ref p) (upd H p (ho [])))
  list : ∀ (X : Cx), X.calm = true → CallR X (.type "list") (fun xs H Q => ∃ a kvs, xs = [.ref a] ∧ Rd H a (ho kvs) ∧ ∀ p vs, H p = none → All2 (fun v (kv : κ × V) => Enc.rep X.K H v kv.1) vs kvs → Q (.ref p) (upd H p (.lst vs)))
section
variable {κ κ' : Type} [DecidableEq κ] [DecidableEq κ'] {f : κ → κ'} (inj : ∀ a b, f a = f b → a = b)
include inj
theorem valV_map_key (kvs : List (κ × V)) (k : κ) : valV (kvs.map fun kv => (f kv.1, kv.2)) (f k) = valV kvs k := by
  induction kvs with
  | nil => rfl
  | cons p r ih =>
    rw [List.map_cons]
    by_cases e : p.1 = k
    · rw [valV_pos e, valV_pos (by show f p.1 = f k; rw [e])]
    · rw [valV_neg e, valV_neg (by show ¬ f p.1 = f k; exact fun z => e (inj _ _ z)), ih]
theorem putK_map_key (kvs : List (κ × V)) (k : κ) (v : V) : putK (kvs.map fun kv => (f kv.1, kv.2)) (f k) v = (putK kvs k v).map fun kv => (f kv.1, kv.2) := by
  unfold putK
  have e : ((kvs.map fun kv => (f kv.1, kv.2)).any fun kv => decide (kv.1 = f k)) = kvs.any fun kv => decide (kv.1 = k) := by
    rw [List.any_map]
    congr 1
    funext kv
    show decide (f kv.1 = f k) = decide (kv.1 = k)
    by_cases z : kv.1 = k
    · rw [decide_eq_true z, decide_eq_true (by rw [z])]
    · rw [decide_eq_false z, decide_eq_false fun y => z (inj _ _ y)]
  rw [e]
  split
  · rw [List.map_map, List.map_map]
    refine List.map_congr_left fun x _ => ?_
    show (if f x.1 = f k then (f x.1, v) else (f x.1, x.2)) = (f (if x.1 = k then (x.1, v) else x).1, (if x.1 = k then (x.1, v) else x).2)
    by_cases z : x.1 = k
    · rw [if_pos z, if_pos (by rw [z])]
    · rw [if_neg z, if_neg fun y => z (inj _ _ y)]
  · rw [List.map_append]; rfl
end
def hoK {κ : Type} (f : κ → Key) (kvs : List (κ × V)) : HO := .dK (kvs.map fun kv => (f kv.1, kv.2))
def hoT {κ : Type} (f : κ → List Key) (kvs : List (κ × V)) : HO := .dT (kvs.map fun kv => (f kv.1, kv.2))
theorem all2_keys {κ : Type} {P : V → κ → Prop} : ∀ {kvs : List (κ × V)} {g : κ → V}, (∀ k, P (g k) k) → All2 (fun v (kv : κ × V) => P v kv.1) (kvs.map fun kv => g kv.1) kvs
  | [], _, _ => trivial
  | _ :: _, _, h => ⟨h _, all2_keys h⟩
instance : DK Int where
  ho := hoK .inl
  notT := fun _ => rfl
  mutH := fun _ => trivial
  get := fun {K H a kvs y k} h r => by
    rw [show y = V.int k from r, ← valV_map_key (f := fun i : Int => (Sum.inl i : Key)) (fun a b e => Sum.inl.inj e) kvs k]
    exact .inl ⟨_, Sum.inl k, h, rfl, rfl⟩
  put := fun {K H a kvs y v k} h r hl => by
    have e := DPut.k (k := Sum.inl k) (v := v) h (by rw [List.length_map]; exact hl)
    rw [show y = V.int k from r]
    unfold hoK
    rw [← putK_map_key (f := fun i : Int => (Sum.inl i : Key)) (fun a b e => Sum.inl.inj e) kvs k v]
    exact e
  new := fun X pos => pe_dnewK
  list := fun X hc => by
    intro pins s σ H xs us Q I r ⟨a, kvs, e, h, q⟩
    refine call_listD hc pins s σ H xs us Q I r ⟨a, _, e, h, fun p hp => ?_⟩
    rw [List.map_map]
    exact q p _ hp (all2_keys (g := fun i => V.int i) fun _ => rfl)
instance : DK Str where
  ho := hoK .inr
  notT := fun _ => rfl
  mutH := fun _ => trivial
  get := fun {K H a kvs y k} h r => by
    rw [show y = V.str k from r, ← valV_map_key (f := fun i : Str => (Sum.inr i : Key)) (fun a b e => Sum.inr.inj e) kvs k]
    exact .inl ⟨_, Sum.inr k, h, rfl, rfl⟩
  put := fun {K H a kvs y v k} h r hl => by
    have e := DPut.k (k := Sum.inr k) (v := v) h (by rw [List.length_map]; exact hl)
    rw [show y = V.str k from r]
    unfold hoK
    rw [← putK_map_key (f := fun i : Str => (Sum.inr i : Key)) (fun a b e => Sum.inr.inj e) kvs k v]
    exact e
  new := fun X pos => pe_dnewK
  list := fun X hc => by
    intro pins s σ H xs us Q I r ⟨a, kvs, e, h, q⟩
    refine call_listD hc pins s σ H xs us Q I r ⟨a, _, e, h, fun p hp => ?_⟩
    rw [List.map_map]
    exact q p _ hp (all2_keys (g := fun i => V.str i) fun _ => rfl)
def key2 (x : Int × Int) : List Key := [.inl x.1, .inl x.2]
theorem key2_inj (a b : Int × Int) (e : key2 a = key2 b) : a = b := by
  unfold key2 at e
  injection e with e1 e2
  injection e2 with e2 _
  exact Prod.ext (Sum.inl.inj e1) (Sum.inl.inj e2)
theorem keys_all2 {K : Frag} {H : Hp} : ∀ {kvs : List ((Int × Int) × V)} {bs : List Addr}, IsKeys H (kvs.map fun kv => (key2 kv.1, kv.2)) bs → All2 (fun v (kv : (Int × Int) × V) => Enc.rep K H v kv.1) (bs.map V.ref) kvs
  | [], [], _ => trivial
  | kv :: kvs, b :: bs, h => by
    cases h with
    | cons h t => exact ⟨⟨b, _, _, rfl, h, rfl, rfl⟩, keys_all2 t⟩
  | [], _ :: _, h => by cases h
  | _ :: _, [], h => by cases h
instance : DK (Int × Int) where
  ho := hoT key2
  notT := fun _ => rfl
  mutH := fun _ => trivial
  get := fun {K H a kvs y k} h ⟨p, v1, v2, e, hp, r1, r2⟩ => by
    rw [e, ← valV_map_key key2_inj kvs k]
    have r1 : v1 = V.int k.1 := r1
    have r2 : v2 = V.int k.2 := r2
    exact .inr ⟨_, key2 k, p, h, rfl, by rw [hp, r1, r2]; rfl, rfl⟩
  put := fun {K H a kvs y v k} h ⟨p, v1, v2, e, hp, r1, r2⟩ hl => by
    have r1 : v1 = V.int k.1 := r1
    have r2 : v2 = V.int k.2 := r2
    have e2 := DPut.t (k := key2 k) (v := v) (b := p) h (by rw [hp, r1, r2]; rfl) (by rw [List.length_map]; exact hl)
    rw [e]
    unfold hoT
    rw [← putK_map_key key2_inj kvs k v]
    exact e2
  new := fun X pos => pe_dnewT
  list := fun X hc => by
    intro pins s σ H xs us Q I r ⟨a, kvs, e, h, q⟩
    exact call_list_dT hc pins s σ H xs us Q I r ⟨a, _, e, h, fun p bs hp hk => q p _ hp (keys_all2 hk)⟩
theorem rd_mono {H H' : Hp} {a : Addr} {u : HO} (s : Same H H') (h : Rd H a u) : Rd H' a u := h.elim (fun e => .inl (s _ _ e)) fun ⟨o, e⟩ => .inr ⟨o, s _ _ e⟩
/-- how a dict's content is held -/
abbrev RepD (K : Frag) (F : Hp) {κ β : Type} [Enc β] (kvs : List (κ × V)) (l : List (κ × β)) : Prop := All2 (fun (kv : κ × V) (x : κ × β) => kv.1 = x.1 ∧ Enc.rep K F kv.2 x.2) kvs l
theorem RepD.mono {K : Frag} {F F' : Hp} {κ β : Type} [Enc β] {kvs : List (κ × V)} {l : List (κ × β)} (s : Same F F') (h : RepD K F kvs l) : RepD K F' kvs l := All2.imp (fun _ _ x => ⟨x.1, Enc.mono s x.2⟩) h
instance {κ β : Type} [Enc κ] [DecidableEq κ] [DK κ] [Enc β] : Enc (Dic κ β) :=
  ⟨fun K H v d => ∃ p kvs, v = .ref p ∧ Rd H p (DK.ho kvs) ∧ RepD K H kvs d.l, fun s ⟨p, kvs, e, h, r⟩ => ⟨p, kvs, e, rd_mono s h, r.mono s⟩⟩
instance {κ β : Type} [Enc κ] [DecidableEq κ] [DK κ] [Enc β] : NN (Dic κ β) := ⟨fun ⟨_, _, e1, _⟩ e => by rw [e] at e1; cases e1⟩
/-- a dict of one's own -/
def owd {κ β : Type} [Enc κ] [DecidableEq κ] [DK κ] [Enc β] (d : Dic κ β) : Slot :=
  ⟨fun K F G o => ∃ p kvs, o = some (.ref p) ∧ G p = some (DK.ho kvs) ∧ RepD K F kvs d.l, fun s t ⟨p, kvs, e, h, r⟩ => ⟨p, kvs, e, t _ _ h, r.mono s⟩⟩
section
variable {κ β : Type} [Enc κ] [DecidableEq κ] [DK κ] [Enc β]
instance : View (owd (κ := κ) (β := β)) := ⟨fun ⟨p, kvs, e, g, r⟩ => by cases e; exact ⟨p, kvs, rfl, .inl g, r⟩⟩
theorem repD_get {K : Frag} {F : Hp} {k : κ} : ∀ {kvs : List (κ × V)} {l : List (κ × β)}, RepD K F kvs l → match dget ⟨l⟩ k with
    | some b => ∃ v, valV kvs k = some v ∧ Enc.rep K F v b
    | none => valV kvs k = none
  | [], [], _ => rfl
  | kv :: kvs, x :: l, ⟨⟨h1, h2⟩, t⟩ => by
    unfold dget
    rw [List.find?_cons]
    by_cases e : x.1 = k
    · rw [decide_eq_true e]
      exact ⟨kv.2, valV_pos (h1.trans e), h2⟩
    · rw [decide_eq_false e, valV_neg (by rw [h1]; exact e)]
      exact repD_get t
  | [], _ :: _, h => h.elim
  | _ :: _, [], h => h.elim
theorem repD_has {K : Frag} {F : Hp} {k : κ} {kvs : List (κ × V)} {d : Dic κ β} (h : RepD K F kvs d.l) : (valV kvs k).isSome = dhas d k := by
  have q := repD_get (k := k) h
  rw [← dget_isSome]
  cases e : dget ⟨d.l⟩ k with
  | some b =>
    rw [e] at q
    obtain ⟨v, z, _⟩ := q
    rw [z]
    rfl
  | none =>
    rw [e] at q
    have q : valV kvs k = Option.none := q
    rw [q]
    rfl
theorem repD_put {K : Frag} {F : Hp} {k : κ} {v : V} {b : β} {kvs : List (κ × V)} {d : Dic κ β} (h : RepD K F kvs d.l) (r : Enc.rep K F v b) : RepD K F (putK kvs k v) (dput d k b).l := by
  have e : (kvs.any fun kv => decide (kv.1 = k)) = dhas d k := by rw [valV_any, repD_has h]
  unfold putK dput
  rw [e]
  split
  · have go : ∀ {kvs : List (κ × V)} {l : List (κ × β)}, RepD K F kvs l → RepD K F (kvs.map fun kv => if kv.1 = k then (kv.1, v) else kv) (l.map fun kv => if kv.1 = k then (kv.1, b) else kv) := by
      intro kvs
      induction kvs with
      | nil =>
        intro l h
        cases l with
        | nil => trivial
        | cons x l => exact h.elim
      | cons kv kvs ih =>
        intro l h
        cases l with
        | nil => exact h.elim
        | cons x l =>
          obtain ⟨⟨h1, h2⟩, t⟩ := h
          refine ⟨?_, ih t⟩
          by_cases e : x.1 = k
          · show (if kv.1 = k then (kv.1, v) else kv).1 = (if x.1 = k then (x.1, b) else x).1 ∧ Enc.rep K F (if kv.1 = k then (kv.1, v) else kv).2 (if x.1 = k then (x.1, b) else x).2
            rw [if_pos e, if_pos (h1.trans e)]; exact ⟨h1, r⟩
          · show (if kv.1 = k then (kv.1, v) else kv).1 = (if x.1 = k then (x.1, b) else x).1 ∧ Enc.rep K F (if kv.1 = k then (kv.1, v) else kv).2 (if x.1 = k then (x.1, b) else x).2
            rw [if_neg e, if_neg (by rw [h1]; exact e)]; exact ⟨h1, h2⟩
    exact go h
  · exact All2.append h ⟨⟨rfl, r⟩, trivial⟩
variable {X : Cx} {W : WX} {ss : List Slot} {pos : Pos} {a b e : Expr}
theorem xk_dnew : XK X W ss (.Dict [] [] pos) (.ok (⟨[]⟩ : Dic κ β)) owd :=
  PE_imp (DK.new (κ := κ) X pos) fun σ H Q ⟨F, sf, sl, q⟩ p hp => by
    have hF : F p = none := Same.free sf hp
    refine q _ _ F (upd noHp p (DK.ho (κ := κ) [])) (same_upd hp) ⟨Same.refl F, sf.trans (same_upd hp), fun _ _ h => .inl h⟩ (fun c u z => ?_) ⟨p, [], rfl, upd_same, trivial⟩
    by_cases e : c = p
    · subst e; rw [upd_same] at z; cases z
      exact ⟨upd_same, hp, hF, DK.notT _⟩
    · rw [upd_ne e] at z; cases z
theorem xi_owd (i : Nat) {d : Dic κ β} {x : Str} {pos : Pos} (hs : ss[i]? = some (owd d) := by rfl) (hp : PE X (.Name x pos) (tVar i) := by exact pv _) : XI X W ss (.Name x pos) (.ok d) := by
  refine PE_imp hp fun σ H Q ⟨sl, q⟩ => ?_
  obtain ⟨o, ho, p, vs, e, g, r⟩ := sl.get hs
  subst e
  exact ⟨.ref p, ho, q _ H (Same.refl H) ⟨p, vs, rfl, .inl g, r⟩⟩
/-- k in d -/
theorem x_din {m : Res κ} {m' : Res (Dic κ β)} (hu : X.A.units + 1 < cLine) (h : XI X W ss a m) (h' : XI X W ss b m') (hm : behindInMarks .In b = false := by with_unfolding_all rfl) : XI X W ss (.Compare a [.In] [b] pos) (m.bind fun k => m'.bind fun d => .ok (dhas d k)) :=
  PE_imp (pe_cmp (pc_din hu h h') hm) fun σ H Q ⟨sl, q⟩ => ⟨sl, wpR_imp (wpR_bind q) (Same.refl H) fun k q v H1 s1 r1 => ⟨sl.mono s1 s1, wpR_imp (wpR_bind q) s1 fun d q w H2 s2 ⟨p, kvs, e, hp, r2⟩ =>
    ⟨p, _, e, DK.get hp (Enc.mono s2 r1), by rw [repD_has (d := d) r2]; exact q _ H2 (s1.trans s2) rfl⟩⟩⟩
theorem t_din {m : Res κ} {m' : Res (Dic κ β)} (hu : X.A.units + 1 < cLine) (h : XI X W ss a m) (h' : XI X W ss b m') (hm : behindInMarks .In b = false := by with_unfolding_all rfl) : XT X W ss (.Compare a [.In] [b] pos) (m.bind fun k => m'.bind fun d => .ok (dhas d k)) :=
  PT_imp (pt_cmp (pc_din hu h h') hm) fun σ H Q ⟨sl, q⟩ => ⟨sl, wpR_imp (wpR_bind q) (Same.refl H) fun k q v H1 s1 r1 => ⟨sl.mono s1 s1, wpR_imp (wpR_bind q) s1 fun d q w H2 s2 ⟨p, kvs, e, hp, r2⟩ =>
    ⟨p, _, e, DK.get hp (Enc.mono s2 r1), by rw [repD_has (d := d) r2]; exact ⟨_, rfl, q H2 (s1.trans s2)⟩⟩⟩⟩
theorem x_dnin {m : Res κ} {m' : Res (Dic κ β)} (hu : X.A.units + 1 < cLine) (h : XI X W ss a m) (h' : XI X W ss b m') (hm : behindInMarks .NotIn b = false := by with_unfolding_all rfl) : XI X W ss (.Compare a [.NotIn] [b] pos) (m.bind fun k => m'.bind fun d => .ok (!dhas d k)) :=
  PE_imp (pe_cmp (pc_dnotin hu h h') hm) fun σ H Q ⟨sl, q⟩ => ⟨sl, wpR_imp (wpR_bind q) (Same.refl H) fun k q v H1 s1 r1 => ⟨sl.mono s1 s1, wpR_imp (wpR_bind q) s1 fun d q w H2 s2 ⟨p, kvs, e, hp, r2⟩ =>
    ⟨p, _, e, DK.get hp (Enc.mono s2 r1), by rw [repD_has (d := d) r2]; exact q _ H2 (s1.trans s2) rfl⟩⟩⟩
theorem t_dnin {m : Res κ} {m' : Res (Dic κ β)} (hu : X.A.units + 1 < cLine) (h : XI X W ss a m) (h' : XI X W ss b m') (hm : behindInMarks .NotIn b = false := by with_unfolding_all rfl) : XT X W ss (.Compare a [.NotIn] [b] pos) (m.bind fun k => m'.bind fun d => .ok (!dhas d k)) :=
  PT_imp (pt_cmp (pc_dnotin hu h h') hm) fun σ H Q ⟨sl, q⟩ => ⟨sl, wpR_imp (wpR_bind q) (Same.refl H) fun k q v H1 s1 r1 => ⟨sl.mono s1 s1, wpR_imp (wpR_bind q) s1 fun d q w H2 s2 ⟨p, kvs, e, hp, r2⟩ =>
    ⟨p, _, e, DK.get hp (Enc.mono s2 r1), by rw [repD_has (d := d) r2]; exact ⟨_, rfl, q H2 (s1.trans s2)⟩⟩⟩⟩
/-- d[k] -/
theorem x_dget {m : Res κ} {m' : Res (Dic κ β)} (hu : X.A.units + 1 < cLine) (h' : XI X W ss b m') (h : XI X W ss a m) (hs : NoSl a := by exact fun _ _ => rfl) : XI X W ss (.Subscript b a pos) (m'.bind fun d => m.bind fun k => unw (dget d k)) :=
  PE_imp (pe_dget hu h' h hs) fun σ H Q ⟨sl, q⟩ => ⟨sl, wpR_imp (wpR_bind q) (Same.refl H) fun d q v H1 s1 ⟨p, kvs, e, hp, r1⟩ => ⟨sl.mono s1 s1, wpR_imp (wpR_bind q) s1 fun k q w H2 s2 r2 => by
    have z := repD_get (k := k) (r1.mono s2)
    cases ed : dget ⟨d.l⟩ k with
    | none => rw [show dget d k = none from ed] at q; exact q.elim
    | some x =>
      rw [show dget d k = some x from ed] at q
      rw [ed] at z
      obtain ⟨u, hu', ru⟩ := z
      exact ⟨p, u, e, by rw [← hu']; exact DK.get (rd_mono s2 hp) r2, q u H2 (s1.trans s2) ru⟩⟩⟩
/-- list(d) -/
theorem xk_listD [Imm κ] {m : Res (Dic κ β × Unit)} {p : Pos} (ha : XA X W ss [a] m) (hm : X.mg "list" = none) (hc : X.calm = true := by rfl) (hg : Gl X "list" := by rfl) (he : starEach [a] X.env = (false, eval a X.env) :: starEach [] X.env := by rfl) :
    XK X W ss (.Call (.Name "list" p) [a] [] pos) (m.bind fun x => .ok (dkeys x.1)) ow :=
  PE_imp (pe_callTy (DK.list X hc) hg hm (by decide +kernel) ha (by decide) (by decide) he rfl) fun σ H Q ⟨F, sf, sl, q⟩ => ⟨sl.mono sf (Same.refl H), wpR_imp (wpR_bind q) (Same.refl H) fun x q vs H1 s1 ⟨v, r, e1, ⟨p, kvs, e2, hp, rv⟩, e3⟩ => by
    have e3 : r = [] := e3
    subst e1; subst e2; subst e3
    refine ⟨p, kvs, rfl, hp, fun o vs ho hk => new_owI (as := dkeys x.1) sf s1 ho ?_ q⟩
    unfold dkeys
    have go : ∀ {kvs : List (κ × V)} {l : List (κ × β)} {vs : List V}, RepD X.K H1 kvs l → All2 (fun v (kv : κ × V) => Enc.rep X.K H1 v kv.1) vs kvs → All2 (fun v k => Enc.rep X.K H1 v k) vs (l.map (·.1)) := by
      intro kvs
      induction kvs with
      | nil =>
        intro l vs h k
        cases l with
        | nil => cases vs with
          | nil => trivial
          | cons _ _ => exact k.elim
        | cons _ _ => exact h.elim
      | cons kv kvs ih =>
        intro l vs h k
        cases l with
        | nil => exact h.elim
        | cons x l =>
          cases vs with
          | nil => exact k.elim
          | cons v vs =>
            have k1 : Enc.rep X.K H1 v kv.1 := k.1
            rw [h.1.1] at k1
            exact ⟨k1, ih h.2 k.2⟩
    exact go rv hk⟩
/-- an object of one's own becomes another -/
theorem Asn.putG {K : Frag} {B F0 H F : Hp} {ss : List Slot} {σ : L2.St} {Gs : List Hp} (A : Asn K B F0 ss σ H F Gs) {i : Nat} {G : Hp} {p : Addr} {o o' : HO} {s' : Slot} (hG : Gs[i]? = some G) (hσ : σ[i]? = some (some (.ref p))) (hp : G p = some o) (hT : isT o' = false)
    (r : s'.P K F (upd noHp p o') (some (.ref p))) : Asn K B F0 (ss.set i s') σ (upd H p o') F (Gs.set i (upd noHp p o')) := by
  have hm : G ∈ Gs := List.mem_of_getElem? hG
  obtain ⟨h1, h2, h3, h4⟩ := A.priv G hm _ _ hp
  have sF : Same F (upd H p o') := fun c u z => by
    rw [upd_ne (fun e => by rw [e, h3] at z; cases z)]
    exact A.ext.sub _ _ z
  refine ⟨⟨A.ext.le, sF, A.ext.new⟩, fun c u z => ?_, ?_, fun G' m c u z => ?_, ?_⟩
  · rw [upd_ne (fun e => by rw [e, h2] at z; cases z)]
    exact A.base _ _ z
  · have e := set_self hσ
    rw [← e]
    exact A.all.set (s := s') r i
  · by_cases hi : G' = upd noHp p o'
    · subst hi
      by_cases e : c = p
      · subst e
        rw [upd_same] at z; cases z
        exact ⟨upd_same, h2, h3, hT⟩
      · rw [upd_ne e] at z; cases z
    · obtain ⟨j, hj⟩ := List.getElem?_of_mem m
      have hji : j ≠ i := fun e => by
        subst e
        have hlt : j < Gs.length := (List.getElem?_eq_some_iff.mp hG).1
        rw [List.getElem?_set_self hlt] at hj
        exact hi (Option.some.inj hj).symm
      rw [List.getElem?_set_ne (Ne.symm hji)] at hj
      have hd : Dj G' G := by
        have pw := A.dj
        have hj' := List.getElem?_eq_some_iff.mp hj
        have hG' := List.getElem?_eq_some_iff.mp hG
        rcases Nat.lt_or_gt_of_ne hji with z | z
        · have := List.pairwise_iff_getElem.mp pw j i hj'.1 hG'.1 z
          rw [hj'.2, hG'.2] at this
          exact this
        · have := List.pairwise_iff_getElem.mp pw i j hG'.1 hj'.1 z
          rw [hj'.2, hG'.2] at this
          exact fun a => (this a).symm
      have hcp : c ≠ p := fun e => by
        subst e
        rcases hd c with y | y
        · rw [y] at z; cases z
        · rw [y] at hp; cases hp
      obtain ⟨k1, k2, k3, k4⟩ := A.priv G' (List.mem_of_getElem? hj) c u z
      exact ⟨by rw [upd_ne hcp]; exact k1, k2, k3, k4⟩
  · refine Asn.put.pw_ix hG A.dj fun G' d c => ?_
    by_cases e : c = p
    · subst e
      rcases d c with y | y
      · rw [y] at hp; cases hp
      · exact .inr y
    · exact .inl (by rw [upd_ne e]; rfl)
def dputR (d : Dic κ β) (k : κ) (v : β) : Res (Dic κ β) := guardR (big d.l.length) (.ok (dput d k v))
/-- d[k] = v -/
theorem s1_dput (i : Nat) {d : Dic κ β} {m : Res β} {mk : Res κ} {x : Str} {p tpos : Pos} (hu : X.A.units + 1 < cLine) (hv : XK X W ss e m fr) (hk : XI X W ss a mk) (hs : ss[i]? = some (owd d) := by rfl) (hp : PE X (.Name x p) (tVar i) := by exact pv _)
    (hsw : swapsWith e (some (.Subscript (.Name x p) a tpos)) pos.line X.env = pure false := by rfl) :
    S1 X W ss (.Assign [.Subscript (.Name x p) a tpos] e pos) (m.bind fun v => mk.bind fun k => dputR d k v) (fun d' => ss.set i (owd d')) := by
  refine PS_imp (ps_dput hu hp hk hv hsw) fun D σ H ⟨B, F0, F, Gs, A, q⟩ => ⟨F, A.ext.sub, A.sl, wpS_R (wpS_bind q) A.base fun b q v H1 F1 G1 s1 ex1 _ ⟨v', e1, rb⟩ => ?_⟩
  cases e1
  have A1 := A.grow s1 ex1
  obtain ⟨G, o, hG, hσ, p, kvs, e2, g, r⟩ := A1.all.get hs
  subst e2
  refine ⟨.ref p, hσ, A1.sl.mono A1.ext.sub (Same.refl H1), wpS_R (wpS_bind q) A1.base fun k q y H2 s2 rk => ?_⟩
  have A2 := A1.grow s2 ⟨Same.refl F1, A1.ext.sub.trans s2, fun _ _ h => .inl h⟩
  have hH := A2.sub G (List.mem_of_getElem? hG) _ _ g
  unfold dputR at q
  cases gd : big d.l.length with
  | false => rw [gd] at q; exact q.elim
  | true =>
    rw [gd] at q
    refine ⟨p, _, rfl, DK.put hH rk (by rw [r.length]; exact Nat.lt_of_le_of_lt (of_decide_eq_true gd) (by decide)), ?_⟩
    exact q _ _ _ _ (A2.putG (s' := owd (dput d k b)) hG hσ g (DK.notT _) ⟨p, _, rfl, upd_same, repD_put r rb⟩)
end
/-! dicts let go -/
section
variable {κ β : Type} [Enc κ] [DecidableEq κ] [DK κ] [Enc β] {X : Cx} {W : WX} {ss : List Slot}
theorem frozG {w : Ends → Hp → Hp → Prop} (i : Nat) {s' : Slot} {sts : List Stmt} (h : PSs X sts (rdX X (ss.set i s') w)) {s : Slot} (hs : ss[i]? = some s)
    (hc : ∀ (F F' G : Hp) (o : Option V), Same F F' → Same G F' → s.P X.K F G o → s'.P X.K F' noHp o) : PSs X sts (rdX X ss w) := by
  refine PSs_imp h fun D σ H ⟨B, F0, F, Gs, A, q⟩ => ?_
  obtain ⟨G, o, hG, hσ, hP⟩ := A.all.get hs
  have hm := List.mem_of_getElem? hG
  have sG := A.sub G hm
  refine ⟨B, F0, join F G, Gs.set i noHp, ⟨⟨A.ext.le.trans join_l, join_le A.ext.sub sG, fun c u z => (join_or z).elim (A.ext.new c u) fun z => .inr (.inl (A.priv G hm c u z).2.1)⟩, A.base, ?_, fun G' m c u z => ?_, ?_⟩, q⟩
  · have e := set_self hσ
    rw [← e]
    exact (A.all.mono join_l).set (s := s') (hc F (join F G) G o join_l (join_r A.ext.sub sG) hP) i
  · obtain ⟨j, hj⟩ := List.getElem?_of_mem m
    by_cases hji : j = i
    · subst hji
      have hlt : j < Gs.length := (List.getElem?_eq_some_iff.mp hG).1
      rw [List.getElem?_set_self hlt] at hj
      have e := Option.some.inj hj
      rw [← e] at z; cases z
    · rw [List.getElem?_set_ne (Ne.symm hji)] at hj
      obtain ⟨k1, k2, k3, k4⟩ := A.priv G' (List.mem_of_getElem? hj) c u z
      refine ⟨k1, k2, ?_, k4⟩
      have hj' := List.getElem?_eq_some_iff.mp hj
      have hG' := List.getElem?_eq_some_iff.mp hG
      have d : Dj G' G := by
        rcases Nat.lt_or_gt_of_ne hji with y | y
        · have := List.pairwise_iff_getElem.mp A.dj j i hj'.1 hG'.1 y
          rw [hj'.2, hG'.2] at this
          exact this
        · have := List.pairwise_iff_getElem.mp A.dj i j hG'.1 hj'.1 y
          rw [hj'.2, hG'.2] at this
          exact fun a => (this a).symm
      have gc : G c = none := (d c).elim (fun y => by rw [y] at z; cases z) id
      unfold join
      rw [k3]
      exact gc
  · exact pw_set i A.dj fun G' _ c => .inl rfl
theorem owd_fr (d : Dic κ β) (F F' G : Hp) (o : Option V) (a : Same F F') (b : Same G F') (h : (owd d).P X.K F G o) : (fr d).P X.K F' noHp o := by
  obtain ⟨p, kvs, e, g, r⟩ := h
  exact ⟨.ref p, e, p, kvs, rfl, .inl (b _ _ g), r.mono a⟩
theorem st_frozd (i : Nat) {d : Dic κ β} {R : Type} {e : Bool} {sts : List Stmt} {M : Res R} {kr : R → Slot} (h : ST X W e (ss.set i (fr d)) sts M kr) (hs : ss[i]? = some (owd d) := by rfl) : ST X W e ss sts M kr := frozG i h hs (owd_fr d)
theorem sn_frozd (i : Nat) {d : Dic κ β} {S : Type} {sts : List Stmt} {M : Res S} {post : S → List Slot} (h : SN X W (ss.set i (fr d)) sts M post) (hs : ss[i]? = some (owd d) := by rfl) : SN X W ss sts M post := frozG i h hs (owd_fr d)
theorem sb_frozd (i : Nat) {d : Dic κ β} {S L R : Type} {sts : List Stmt} {M : Res (Out S L R)} {post : S → List Slot} {pl : L → List Slot} {kr : R → Slot} (h : SB X W (ss.set i (fr d)) sts M post pl kr) (hs : ss[i]? = some (owd d) := by rfl) : SB X W ss sts M post pl kr := frozG i h hs (owd_fr d)
end
theorem hu1 {A : Around} {k : Nat} (hr : Room k A) : A.units + 1 < cLine := by have := hr.un; omega
end G

namespace G
open PySem PySem.Spec PyProof.Rows L2
/-! ### defs with defaults -/
structure IsDefD (K : Frag) (mg : Str → Option Value) (x : Str) (st : Stmt) (dvs : List V) : Prop where
  ex : ∃ f fd, FunD K x x (defArgs st) (defBody st) (defScope st) dvs [] f fd ∧ mg x = some (.ref f)
section
variable {P : Program} {w : World} {K : Frag} {mg : Str → Option Value} {base : Heap}
theorem fnD_ok {x : Str} {st : Stmt} {f : Addr} {fd : FuncData} {dvs : List V} {N ps : List Str} {k : Nat} {A R : Type} [EncP A] {g : A → Res R} {kr : R → Slot} (F : FunD K x x (defArgs st) (defBody st) (defScope st) dvs [] f fd) (S : FnScope N ps (defScope st)) (hl : EncP.len A = ps.length)
    (hbody : ∀ (a : A) (cdv : Value) (A' : Around) (outer : List Env) (s : Shared) (H : Hp) (E : L2.XK), Room k (A'.deeper (envOfC x (defScope st) s.heap.objs.size f cdv)) →
      ST (cxOf (L2.CX P w) P w K mg base N x (defScope st) f cdv A' outer s H E) (wE E) true (EncP.slots a ++ List.replicate (N.length - EncP.len A) any) (defBody st) (g a) kr) :
    FnOk P w K mg base (L2.CX P w) (k + 1) f fd ps (spOf K mg g kr) := by
  refine F.ok S (fun vs H Q E ⟨a, F0, r, _⟩ => (EncP.start r).1.trans hl) fun cdv A' outer s H vs Q E hr ⟨a, F0, r, sF, q⟩ => ?_
  refine ⟨_, hbody a cdv A' outer s H E hr, H, F0, F0, List.replicate (EncP.len A) noHp ++ List.replicate (N.length - EncP.len A) noHp, ⟨⟨Same.refl _, sF, fun _ _ h => .inl h⟩, Same.refl _, ?_, ?_, ?_⟩, fun _ _ _ h => h, ?_⟩
  · obtain ⟨l, z⟩ := EncP.start r
    have e : L2.start N vs = vs.map some ++ List.replicate (N.length - EncP.len A) none := by unfold L2.start; rw [l]
    rw [e]
    exact z.append (all3_any _)
  · intro G m b u z
    rw [List.replicate_append_replicate] at m
    rw [(List.mem_replicate.mp m).2] at z
    cases z
  · rw [List.replicate_append_replicate]
    exact pw_no _
  · show wpS _ _ (g a) H _
    cases e : g a with
    | ok r' => rw [e] at q; exact fun v H' F' G' s1 ex pr k => q v H' F' G' s1 ex pr k
    | exc x => rw [e] at q; exact fun σ cls d H' h1 h2 h3 => q cls d H' h1 h2 h3
    | stuck => rw [e] at q; exact q
/-- how n written arguments and the defaults behind the first j bind -/
def Bnd (x : Str) (st : Stmt) (ps : List Str) (m n j : Nat) : Prop := ∀ (T : Addr) (kV doc pm : Value) (an : Option Addr) (cdv ct : Value) (us its : List Value), us.length = n → its.length = m →
  ∃ k, bindArgs (PySem.W.fnOf x x (defArgs st) (defBody st) (defScope st) (.ref T) kV doc pm an cdv ct) ⟨us, []⟩ = seqItems? (.ref T) >>= k ∧ k (some its.toArray) = pure (ps.zip (us ++ its.drop j))
theorem cal_mkD {x : Str} {st : Stmt} {dvs : List V} {N ps : List Str} {k : Nat} {A R : Type} [EncP A] {g : A → Res R} {kr : R → Slot} (D : IsDefD K mg x st dvs) (S : FnScope N ps (defScope st)) (hl : EncP.len A = ps.length) (hd : dvs ≠ [])
    (hbody : ∀ (a : A) (f : Addr) (cdv : Value) (A' : Around) (outer : List Env) (s : Shared) (H : Hp) (E : L2.XK), Room k (A'.deeper (envOfC x (defScope st) s.heap.objs.size f cdv)) →
      ST (cxOf (L2.CX P w) P w K mg base N x (defScope st) f cdv A' outer s H E) (wE E) true (EncP.slots a ++ List.replicate (N.length - EncP.len A) any) (defBody st) (g a) kr) :
    ∀ {A' : Type} [EncA A'] (c : A' → A) (n j : Nat), n + (dvs.length - j) = ps.length → Bnd x st ps dvs.length n j → (∀ H vs a, EncA.rep K H vs a → EncA.rep K H (vs ++ dvs.drop j) (c a)) → Cal P w K mg base (k + 1) x c g kr := by
  obtain ⟨f, fd, F, hm⟩ := D.ex
  have FO := fnD_ok (P := P) (w := w) (mg := mg) (base := base) F S hl fun a cdv A' outer s H E hr => hbody a f cdv A' outer s H E hr
  intro A' _ c n j hn hb hc
  obtain ⟨ds, hv, hB⟩ := F.binds1 (ps := ps) n j hd hn hb
  exact ⟨f, fd, ps, dvs.drop j, ds, FO, hm, F.kp, hB, hv, hc⟩
end
theorem isDef_mk {K : Frag} {mg : PySem.Str → Option Value} {h : Heap} {x : PySem.Str} {st : Stmt} {f : Addr} {oc : Value} {od an : Option Addr} {osl : Array (Option Value)} {kV doc pm cdv ct : Value} (X : K.In h) (G : h.Ns mainGlobals mg) (a : PySem.W.nsIn K mainGlobals x = some (some (.ref f)))
    (l : K.lookup f = some ⟨oc, od, .func (PySem.W.fnOf x x (defArgs st) (defBody st) (defScope st) .none kV doc pm an cdv ct), osl⟩) (c : PySem.W.codeIn K cdv x = true) (k : PySem.W.keepIn K (.ref f) = true) : IsDef K mg x st := ⟨f, _, fun_mk l c k, PySem.W.mg_of X G a⟩
theorem isDefD_mk {K : Frag} {mg : PySem.Str → Option Value} {h : Heap} {x : PySem.Str} {st : Stmt} {f T : Addr} {oc oT : Value} {od odT an : Option Addr} {osl oslT : Array (Option Value)} {kV doc pm cdv ct : Value} {its : List Value} {n : Nat} {dvs : List V} (X : K.In h) (G : h.Ns mainGlobals mg) (a : PySem.W.nsIn K mainGlobals x = some (some (.ref f)))
    (l : K.lookup f = some ⟨oc, od, .func (PySem.W.fnOf x x (defArgs st) (defBody st) (defScope st) (.ref T) kV doc pm an cdv ct), osl⟩) (c : PySem.W.codeIn K cdv x = true) (k : PySem.W.keepIn K (.ref f) = true)
    (lT : K.lookup T = some ⟨oT, odT, .seq its.toArray n, oslT⟩) (hv : Vals dvs its) (hd : dvs ≠ []) : IsDefD K mg x st dvs :=
  ⟨f, _, ⟨⟨oc, od, _, kV, doc, pm, an, cdv, ct, osl, rfl, l, c, .inr ⟨hd, T, _, its, n, rfl, lT, rfl, hv⟩, .inl rfl⟩, k⟩, PySem.W.mg_of X G a⟩
end G

namespace G
open PySem PySem.Spec PyProof.Rows L2
/-! ### trees of one's own -/
/-- how a value is held by its owner: G what is the owner's -/
structure Ow (α : Type) [Enc α] where
  own : Frag → Hp → Hp → V → α → Prop
  mF : ∀ {K : Frag} {F F' G : Hp} {v : V} {a : α}, Same F F' → own K F G v a → own K F' G v a
  mG : ∀ {K : Frag} {F G G' : Hp} {v : V} {a : α}, Same G G' → own K F G v a → own K F G' v a
  view : ∀ {K : Frag} {F G H : Hp} {v : V} {a : α}, own K F G v a → Same F H → Same G H → Enc.rep K H v a
def AllO {α : Type} (P : Hp → V → α → Prop) : List V → List Hp → List α → Prop
  | [], [], [] => True
  | v :: vs, G :: Gs, a :: as => P G v a ∧ AllO P vs Gs as
  | _, _, _ => False
section
variable {α : Type} {P R : Hp → V → α → Prop}
theorem AllO.imp (h : ∀ G v a, P G v a → R G v a) : ∀ {vs : List V} {Gs : List Hp} {as : List α}, AllO P vs Gs as → AllO R vs Gs as
  | [], [], [], _ => trivial
  | _ :: _, _ :: _, _ :: _, ⟨x, y⟩ => ⟨h _ _ _ x, AllO.imp h y⟩
  | [], _ :: _, _, x => x.elim
  | [], [], _ :: _, x => x.elim
  | _ :: _, [], _, x => x.elim
  | _ :: _, _ :: _, [], x => x.elim
theorem AllO.all2 {T : V → α → Prop} : ∀ {vs : List V} {Gs : List Hp} {as : List α}, AllO P vs Gs as → (∀ G ∈ Gs, ∀ v a, P G v a → T v a) → All2 T vs as
  | [], [], [], _, _ => trivial
  | _ :: _, _ :: _, _ :: _, ⟨x, y⟩, h => ⟨h _ List.mem_cons_self _ _ x, AllO.all2 y fun G m => h G (List.mem_cons_of_mem _ m)⟩
  | [], _ :: _, _, x, _ => x.elim
  | [], [], _ :: _, x, _ => x.elim
  | _ :: _, [], _, x, _ => x.elim
  | _ :: _, _ :: _, [], x, _ => x.elim
theorem AllO.length : ∀ {vs : List V} {Gs : List Hp} {as : List α}, AllO P vs Gs as → vs.length = as.length
  | [], [], [], _ => rfl
  | _ :: _, _ :: _, _ :: _, ⟨_, y⟩ => congrArg (· + 1) (AllO.length y)
  | [], _ :: _, _, x => x.elim
  | [], [], _ :: _, x => x.elim
  | _ :: _, [], _, x => x.elim
  | _ :: _, _ :: _, [], x => x.elim
theorem AllO.append : ∀ {vs vs' : List V} {Gs Gs' : List Hp} {as as' : List α}, AllO P vs Gs as → AllO P vs' Gs' as' → AllO P (vs ++ vs') (Gs ++ Gs') (as ++ as')
  | [], _, [], _, [], _, _, h => h
  | _ :: _, _, _ :: _, _, _ :: _, _, ⟨x, y⟩, h => ⟨x, AllO.append y h⟩
  | [], _, _ :: _, _, _, _, x, _ => x.elim
  | [], _, [], _, _ :: _, _, x, _ => x.elim
  | _ :: _, _, [], _, _, _, x, _ => x.elim
  | _ :: _, _, _ :: _, _, [], _, x, _ => x.elim
theorem AllO.get : ∀ {vs : List V} {Gs : List Hp} {as : List α} {i : Nat} {a : α}, AllO P vs Gs as → as[i]? = some a → ∃ v G, vs[i]? = some v ∧ Gs[i]? = some G ∧ P G v a
  | _ :: _, _ :: _, _ :: _, 0, b, ⟨x, _⟩, h => by
    have e : _ = b := Option.some.inj h
    subst e
    exact ⟨_, _, rfl, rfl, x⟩
  | _ :: vs, _ :: Gs, _ :: as, i + 1, b, ⟨_, y⟩, h => AllO.get (vs := vs) (Gs := Gs) (as := as) (i := i) y h
  | [], [], [], i, b, _, h => by simp at h
  | [], _ :: _, _, _, _, x, _ => x.elim
  | [], [], _ :: _, _, _, x, _ => x.elim
  | _ :: _, [], _, _, _, x, _ => x.elim
  | _ :: _, _ :: _, [], _, _, x, _ => x.elim
theorem AllO.set : ∀ (i : Nat) {vs : List V} {Gs : List Hp} {as : List α} {v : V} {G : Hp} {a : α}, AllO P vs Gs as → P G v a → AllO P (vs.set i v) (Gs.set i G) (as.set i a)
  | _, [], [], [], _, _, _, h, _ => h
  | 0, _ :: _, _ :: _, _ :: _, _, _, _, ⟨_, y⟩, h => ⟨h, y⟩
  | i + 1, _ :: _, _ :: _, _ :: _, _, _, _, ⟨x, y⟩, h => ⟨x, AllO.set i y h⟩
  | _, [], _ :: _, _, _, _, _, x, _ => x.elim
  | _, [], [], _ :: _, _, _, _, x, _ => x.elim
  | _, _ :: _, [], _, _, _, _, x, _ => x.elim
  | _, _ :: _, _ :: _, [], _, _, _, x, _ => x.elim
end
def fzO {α : Type} [Enc α] : Ow α := ⟨fun K F _ v a => Enc.rep K F v a, fun s h => Enc.mono s h, fun _ h => h, fun h s _ => Enc.mono s h⟩
/-- a list of one's own, its items changed by nobody -/
def l1 {α : Type} [Enc α] : Ow (List α) := ⟨fun K F G v as => ∃ p vs, v = .ref p ∧ G p = some (.lst vs) ∧ All2 (fun v a => Enc.rep K F v a) vs as,
  fun s ⟨p, vs, e, g, r⟩ => ⟨p, vs, e, g, r.mono s⟩, fun s ⟨p, vs, e, g, r⟩ => ⟨p, vs, e, s _ _ g, r⟩, fun ⟨p, vs, e, g, r⟩ s t => ⟨p, vs, e, t _ _ g, r.mono s⟩⟩
/-- .. its items one's own, too -/
def lsO {α : Type} [Enc α] (d : Ow α) : Ow (List α) := ⟨fun K F G v as => ∃ p vs Gs, v = .ref p ∧ G p = some (.lst vs) ∧ (∀ g ∈ Gs, Same g G ∧ g p = none) ∧ Gs.Pairwise Dj ∧ AllO (d.own K F) vs Gs as,
  fun s ⟨p, vs, Gs, e, g, h, w, r⟩ => ⟨p, vs, Gs, e, g, h, w, r.imp fun _ _ _ x => d.mF s x⟩,
  fun s ⟨p, vs, Gs, e, g, h, w, r⟩ => ⟨p, vs, Gs, e, s _ _ g, fun k m => ⟨(h k m).1.trans s, (h k m).2⟩, w, r⟩,
  fun ⟨p, vs, Gs, e, g, h, w, r⟩ s t => ⟨p, vs, e, t _ _ g, r.all2 fun k m v a x => d.view x s ((h k m).1.trans t)⟩⟩
/-- a pair with things of one's own -/
def prO {α β : Type} [Enc α] [Enc β] (d : Ow α) (d' : Ow β) : Ow (α × β) := ⟨fun K F G v x => ∃ p v1 v2 G1 G2, v = .ref p ∧ F p = some (.tup [v1, v2]) ∧ Same G1 G ∧ Same G2 G ∧ Dj G1 G2 ∧ d.own K F G1 v1 x.1 ∧ d'.own K F G2 v2 x.2,
  fun s ⟨p, v1, v2, G1, G2, e, g, a, b, c, x, y⟩ => ⟨p, v1, v2, G1, G2, e, s _ _ g, a, b, c, d.mF s x, d'.mF s y⟩,
  fun s ⟨p, v1, v2, G1, G2, e, g, a, b, c, x, y⟩ => ⟨p, v1, v2, G1, G2, e, g, a.trans s, b.trans s, c, x, y⟩,
  fun ⟨p, v1, v2, G1, G2, e, g, a, b, c, x, y⟩ s t => ⟨p, v1, v2, e, s _ _ g, d.view x s (a.trans t), d'.view y s (b.trans t)⟩⟩
def os {α : Type} [Enc α] (d : Ow α) (a : α) : Slot := ⟨fun K F G o => ∃ v, o = some v ∧ d.own K F G v a, fun s t ⟨v, e, r⟩ => ⟨v, e, d.mG t (d.mF s r)⟩⟩
class ImmO {α : Type} [Enc α] (d : Ow α) : Prop where
  imm : ∀ {K : Frag} {F G : Hp} {v : V} {a : α}, d.own K F G v a → d.own K (tups F) G v a
instance {α : Type} [Enc α] [Imm α] : ImmO (fzO (α := α)) := ⟨fun h => Imm.imm h⟩
instance {α : Type} [Enc α] [Imm α] : ImmO (l1 (α := α)) := ⟨fun ⟨p, vs, e, g, r⟩ => ⟨p, vs, e, g, All2.imp (fun _ _ z => Imm.imm z) r⟩⟩
instance {α : Type} [Enc α] {d : Ow α} [ImmO d] : ImmO (lsO d) := ⟨fun ⟨p, vs, Gs, e, g, h, w, r⟩ => ⟨p, vs, Gs, e, g, h, w, r.imp fun _ _ _ x => ImmO.imm x⟩⟩
instance {α β : Type} [Enc α] [Enc β] {d : Ow α} {d' : Ow β} [ImmO d] [ImmO d'] : ImmO (prO d d') := ⟨fun ⟨p, v1, v2, G1, G2, e, g, a, b, c, x, y⟩ => ⟨p, v1, v2, G1, G2, e, tups_some g rfl, a, b, c, ImmO.imm x, ImmO.imm y⟩⟩
instance {α : Type} [Enc α] {d : Ow α} : View (os d) := ⟨fun ⟨v, e, r⟩ => by cases e; exact d.view r (Same.refl _) (Same.refl _)⟩
instance {α : Type} [Enc α] {d : Ow α} [ImmO d] : KImm (os d) := ⟨fun ⟨v, e, r⟩ => ⟨v, e, ImmO.imm r⟩⟩
/-- a list of which nothing more is known -/
def jl (n : Nat) : Slot := ⟨fun _ _ G o => ∃ p vs, o = some (.ref p) ∧ G p = some (.lst vs) ∧ vs.length = n, fun _ t ⟨p, vs, e, g, l⟩ => ⟨p, vs, e, t _ _ g, l⟩⟩
/-- .. whose items from k on are one's own -/
def jk {α : Type} [Enc α] (d : Ow α) (p : Addr) (vs : List V) (as : List α) (k : Nat) : Slot :=
  ⟨fun K F G o => o = some (.ref p) ∧ ∃ Gs, G p = some (.lst vs) ∧ (∀ g ∈ Gs, Same g G ∧ g p = none) ∧ Gs.Pairwise Dj ∧ AllO (d.own K F) (vs.drop k) Gs (as.drop k),
   fun s t ⟨e, Gs, g, h, w, r⟩ => ⟨e, Gs, t _ _ g, fun k m => ⟨(h k m).1.trans t, (h k m).2⟩, w, r.imp fun _ _ _ x => d.mF s x⟩⟩
/-- .. that stands where it stood -/
def pin {α : Type} [Enc α] (G0 : Hp) (v0 : V) (d : Ow α) (a : α) : Slot :=
  ⟨fun K F G o => o = some v0 ∧ Same G0 G ∧ d.own K F G0 v0 a, fun s t ⟨e, g, r⟩ => ⟨e, g.trans t, d.mF s r⟩⟩
section
variable {X : Cx} {W : WX} {ss : List Slot} {st : Stmt} {rest : List Stmt} {e : Expr} {pos : Pos}
theorem xi_os (i : Nat) {α : Type} [Enc α] {d : Ow α} {a : α} {x : Str} {pos : Pos} (hs : ss[i]? = some (os d a) := by rfl) (hp : PE X (.Name x pos) (tVar i) := by exact pv _) : XI X W ss (.Name x pos) (.ok a) := by
  refine PE_imp hp fun σ H Q ⟨sl, q⟩ => ?_
  obtain ⟨o, ho, v, e, r⟩ := sl.get hs
  subst e
  exact ⟨v, ho, q _ H (Same.refl H) (d.view r (Same.refl H) (Same.refl H))⟩
theorem xi_pin (i : Nat) {α : Type} [Enc α] {G0 : Hp} {v0 : V} {d : Ow α} {a : α} {x : Str} {pos : Pos} (hs : ss[i]? = some (pin G0 v0 d a) := by rfl) (hp : PE X (.Name x pos) (tVar i) := by exact pv _) : XI X W ss (.Name x pos) (.ok a) := by
  refine PE_imp hp fun σ H Q ⟨sl, q⟩ => ?_
  obtain ⟨o, ho, e, g, r⟩ := sl.get hs
  subst e
  exact ⟨v0, ho, q _ H (Same.refl H) (d.view r (Same.refl H) g)⟩
theorem XK.kd {α : Type} {m : Res α} {kd kd' : α → Slot} (h : XK X W ss e m kd) (f : ∀ a K F G o, (kd a).P K F G o → (kd' a).P K F G o) : XK X W ss e m kd' :=
  PE_imp h fun σ H Q ⟨F, a, sl, q⟩ => ⟨F, a, sl, wpR_imp q (Same.refl H) fun x q v H' F' G' s ex pr k => q v H' F' G' s ex pr (f _ _ _ _ _ k)⟩
theorem xk_os {α : Type} [Enc α] {m : Res (List α)} (h : XK X W ss e m ow) : XK X W ss e m (os l1) := h.kd fun a K F G o ⟨p, vs, e, g, r⟩ => ⟨.ref p, e, p, vs, rfl, g, r⟩
theorem xk_ow {α : Type} [Enc α] {m : Res (List α)} (h : XK X W ss e m (os l1)) : XK X W ss e m ow := h.kd fun a K F G o ⟨v, e, p, vs, e2, g, r⟩ => ⟨p, vs, by rw [e, e2], g, r⟩
theorem xk_nilO {α : Type} [Enc α] {d : Ow α} (h : XK X W ss e (.ok ([] : List α)) ow) : XK X W ss e (.ok ([] : List α)) (os (lsO d)) :=
  PE_imp h fun σ H Q ⟨F, a, sl, q⟩ => ⟨F, a, sl, fun v H' F' G' s ex pr ⟨p, vs, e, g, r⟩ => q v H' F' G' s ex pr ⟨.ref p, e, p, vs, [], rfl, g, (fun _ m => by cases m), .nil, by
    cases vs with
    | nil => trivial
    | cons v vs => exact r.elim⟩⟩
/-- a kept thing is let go -/
theorem xk_freeO {α : Type} [Enc α] {d : Ow α} {m : Res α} (h : XK X W ss e m (os d)) : XK X W ss e m fr := by
  refine PE_imp h fun σ H Q ⟨F, a, sl, q⟩ => ⟨F, a, sl, wpR_imp q (Same.refl H) fun x q v H' F' G' s ex pr k => ?_⟩
  obtain ⟨v', e, r⟩ := k
  cases e
  have gH : Same G' H' := fun a u z => (pr a u z).1
  exact q _ H' (join F' G') noHp s ⟨ex.le.trans join_l, join_le ex.sub gH, fun a u z => (join_or z).elim (ex.new a u) fun z => .inr (.inl (pr a u z).2.1)⟩ priv_no ⟨_, rfl, d.view r join_l (join_r ex.sub gH)⟩
/-! what is one's own, looked at as if nobody changed it -/
def Vw : List Slot → List Slot → Prop
  | [], [] => True
  | s :: ss, t :: ts => (∀ K H o, s.P K H H o → t.P K H H o) ∧ Vw ss ts
  | _, _ => False
theorem vw_nil : Vw [] [] := trivial
theorem vw_eq {s : Slot} {ss ts : List Slot} (h : Vw ss ts) : Vw (s :: ss) (s :: ts) := ⟨fun _ _ _ x => x, h⟩
theorem vw_os {α : Type} [Enc α] {d : Ow α} {a : α} {ss ts : List Slot} (h : Vw ss ts) : Vw (os d a :: ss) (fr a :: ts) := ⟨fun _ H _ ⟨v, e, r⟩ => ⟨v, e, d.view r (Same.refl H) (Same.refl H)⟩, h⟩
theorem vw_ow {α : Type} [Enc α] {a : List α} {ss ts : List Slot} (h : Vw ss ts) : Vw (ow a :: ss) (fr a :: ts) := ⟨fun _ H _ ⟨p, vs, e, g, r⟩ => ⟨.ref p, e, p, vs, rfl, g, r⟩, h⟩
theorem vw_pin {α : Type} [Enc α] {G0 : Hp} {v0 : V} {d : Ow α} {a : α} {ss ts : List Slot} (h : Vw ss ts) : Vw (pin G0 v0 d a :: ss) (fr a :: ts) := ⟨fun _ H _ ⟨e, g, r⟩ => ⟨v0, e, d.view r (Same.refl H) g⟩, h⟩
theorem Sl.vw {K : Frag} {H : Hp} : ∀ {ss ts : List Slot} {σ : L2.St}, Sl K H H ss σ → Vw ss ts → Sl K H H ts σ
  | [], [], _, h, _ => h
  | s :: ss, t :: ts, o :: σ, ⟨x, y⟩, ⟨a, b⟩ => ⟨a _ _ _ x, Sl.vw y b⟩
  | [], _ :: _, _, _, w => w.elim
  | _ :: _, [], _, _, w => w.elim
  | _ :: _, _ :: _, [], h, _ => h.elim
theorem imm_back {α : Type} {kd : α → Slot} [KImm kd] {K : Frag} {F0 H H' F' G' : Hp} {a : α} {v : V} (sf : Same F0 H) (s : Same H H') (ex : Ext H H F' H') (pr : Priv G' H F' H') (k : (kd a).P K F' G' (some v)) :
    Ext F0 H (join F0 (tups H')) H' ∧ Priv G' H (join F0 (tups H')) H' ∧ (kd a).P K (join F0 (tups H')) G' (some v) := by
  refine ⟨ext_imm sf s, fun b u z => ?_, (kd a).mono ((tups_mono ex.sub).trans (join_r (sf.trans s) (tups_le H'))) (Same.refl G') (KImm.imm k)⟩
  obtain ⟨h1, h2, h3, h4⟩ := pr b u z
  refine ⟨h1, h2, ?_, h4⟩
  cases ej : join F0 (tups H') b with
  | none => rfl
  | some y =>
    rcases join_or ej with z' | z'
    · rw [sf _ _ z'] at h2; cases h2
    · have t1 := tups_isT z'
      have t2 := tups_le H' _ _ z'
      rw [h1] at t2; cases t2
      rw [h4] at t1; cases t1
theorem xk_vw {ts : List Slot} {α : Type} {kd : α → Slot} [KImm kd] {m : Res α} (h : XK X W ts e m kd) (w : Vw ss ts) : XK X W ss e m kd := by
  refine PE_imp h fun σ H Q ⟨F0, sf, sl, q⟩ => ⟨H, Same.refl H, (sl.mono sf (Same.refl H)).vw w, wpR_imp q (Same.refl H) fun x q v H' F' G' s ex pr k => ?_⟩
  obtain ⟨a, b, c⟩ := imm_back sf s ex pr k
  exact q v H' _ G' s a b c
theorem xi_vw {ts : List Slot} {α : Type} [Enc α] {m : Res α} (h : XI X W ts e m) (w : Vw ss ts) : XI X W ss e m := PE_imp h fun σ H Q ⟨sl, q⟩ => ⟨sl.vw w, q⟩
theorem xt_vw {ts : List Slot} {m : Res Bool} (h : XT X W ts e m) (w : Vw ss ts) : XT X W ss e m := PT_imp h fun σ H Q ⟨sl, q⟩ => ⟨sl.vw w, q⟩
/-! ### the state -/
theorem pw_ix2 {G G2 : Hp} {i : Nat} {Gs : List Hp} (hG : Gs[i]? = some G) (pw : Gs.Pairwise Dj) (hd : ∀ G' ∈ Gs, Dj G G' → Dj G2 G') : (Gs.set i G2).Pairwise Dj := by
  refine List.pairwise_iff_getElem.mpr fun j k hj hk hjk => ?_
  rw [List.length_set] at hj hk
  have hi := List.getElem?_eq_some_iff.mp hG
  have base := List.pairwise_iff_getElem.mp pw
  rw [List.getElem_set, List.getElem_set]
  split
  · rename_i e1
    split
    · rename_i e2; omega
    · subst e1
      have := base i k hi.1 hk hjk
      rw [hi.2] at this
      exact hd _ (List.getElem_mem _) this
  · split
    · rename_i e1 e2
      subst e2
      have := base j i hj hi.1 hjk
      rw [hi.2] at this
      exact fun a => (hd _ (List.getElem_mem _) (fun c => (this c).symm) a).symm
    · exact base j k hj hk hjk
theorem dj_of {Gs : List Hp} {i j : Nat} {G G' : Hp} (pw : Gs.Pairwise Dj) (hi : Gs[i]? = some G) (hj : Gs[j]? = some G') (h : i ≠ j) : Dj G G' := by
  have hi := List.getElem?_eq_some_iff.mp hi
  have hj := List.getElem?_eq_some_iff.mp hj
  rcases Nat.lt_or_gt_of_ne h with z | z
  · have := List.pairwise_iff_getElem.mp pw i j hi.1 hj.1 z
    rw [hi.2, hj.2] at this
    exact this
  · have := List.pairwise_iff_getElem.mp pw j i hj.1 hi.1 z
    rw [hi.2, hj.2] at this
    exact fun a => (this a).symm
theorem mem_set_ix {Gs : List Hp} {i : Nat} {G2 G' : Hp} (hl : i < Gs.length) (m : G' ∈ Gs.set i G2) : G' = G2 ∨ ∃ j, j ≠ i ∧ Gs[j]? = some G' := by
  obtain ⟨j, hj⟩ := List.getElem?_of_mem m
  by_cases e : j = i
  · subst e
    rw [List.getElem?_set_self hl] at hj
    exact .inl (Option.some.inj hj).symm
  · rw [List.getElem?_set_ne (Ne.symm e)] at hj
    exact .inr ⟨j, e, hj⟩
/-- what is nobody's yet -/
def Fresh (B F H : Hp) (Gs : List Hp) (G' : Hp) : Prop := ∀ c u, G' c = some u → H c = some u ∧ isT u = false ∧ B c = none ∧ F c = none ∧ ∀ g ∈ Gs, g c = none
/-- the owner at i changes what is the owner's, or takes what is nobody's -/
theorem Asn.chg {K : Frag} {B F0 H F H' G G2 : Hp} {ss : List Slot} {σ : L2.St} {Gs : List Hp} {i : Nat} {s : Slot} {o : Option V} (A : Asn K B F0 ss σ H F Gs) (hG : Gs[i]? = some G)
    (hk : ∀ c u, G c = none → H c = some u → H' c = some u) (h2 : ∀ c u, G2 c = some u → H' c = some u ∧ isT u = false ∧ (G c ≠ none ∨ (B c = none ∧ F c = none ∧ ∀ g ∈ Gs, g c = none)))
    (x : s.P K F G2 o) : Asn K B F0 (ss.set i s) (σ.set i o) H' F (Gs.set i G2) := by
  have hm : G ∈ Gs := List.mem_of_getElem? hG
  have hl := (List.getElem?_eq_some_iff.mp hG).1
  have nG : ∀ c w, G c = some w → B c = none ∧ F c = none := fun c w z => ⟨(A.priv G hm c w z).2.1, (A.priv G hm c w z).2.2.1⟩
  have out : ∀ {c u}, F c = some u → G c = none := fun {c u} z => by
    cases e : G c with
    | none => rfl
    | some w => rw [(nG c w e).2] at z; cases z
  have outB : ∀ {c u}, B c = some u → G c = none := fun {c u} z => by
    cases e : G c with
    | none => rfl
    | some w => rw [(nG c w e).1] at z; cases z
  refine ⟨⟨A.ext.le, fun c u z => hk c u (out z) (A.ext.sub _ _ z), A.ext.new⟩, fun c u z => hk c u (outB z) (A.base _ _ z), A.all.set x i, fun G' m c u z => ?_, ?_⟩
  · rcases mem_set_ix hl m with e | ⟨j, hji, hj⟩
    · subst e
      obtain ⟨a, b, d⟩ := h2 c u z
      rcases d with d | d
      · cases e : G c with
        | none => exact (d e).elim
        | some w => exact ⟨a, (nG c w e).1, (nG c w e).2, b⟩
      · exact ⟨a, d.1, d.2.1, b⟩
    · obtain ⟨k1, k2, k3, k4⟩ := A.priv G' (List.mem_of_getElem? hj) c u z
      have : G c = none := (dj_of A.dj hj hG hji c).elim (fun y => by rw [y] at z; cases z) id
      exact ⟨hk c u this k1, k2, k3, k4⟩
  · refine pw_ix2 hG A.dj fun G' m' d c => ?_
    cases e : G2 c with
    | none => exact .inl rfl
    | some u =>
      refine .inr ?_
      rcases (h2 c u e).2.2 with z | z
      · exact (d c).elim (fun y => (z y).elim) id
      · exact z.2.2 G' m'
/-- what j owned is nobody's -/
theorem Asn.take {K : Frag} {B F0 H F G : Hp} {ss : List Slot} {σ : L2.St} {Gs : List Hp} {j : Nat} (A : Asn K B F0 ss σ H F Gs) (hG : Gs[j]? = some G) : Asn K B F0 (ss.set j any) σ H F (Gs.set j noHp) ∧ Fresh B F H (Gs.set j noHp) G := by
  have hm : G ∈ Gs := List.mem_of_getElem? hG
  have hl := (List.getElem?_eq_some_iff.mp hG).1
  refine ⟨⟨A.ext, A.base, ?_, fun G' m c u z => ?_, pw_set j A.dj fun _ _ _ => .inl rfl⟩, fun c u z => ?_⟩
  · have := A.all.any j
    refine all_set_any this
  · rcases mem_set_ix hl m with e | ⟨k, hk, hj⟩
    · subst e; cases z
    · exact A.priv G' (List.mem_of_getElem? hj) c u z
  · obtain ⟨k1, k2, k3, k4⟩ := A.priv G hm c u z
    refine ⟨k1, k4, k2, k3, fun g m => ?_⟩
    rcases mem_set_ix hl m with e | ⟨k, hk, hj⟩
    · subst e; rfl
    · exact (dj_of A.dj hG hj (Ne.symm hk) c).elim (fun y => by rw [y] at z; cases z) id
where
  all_set_any {K : Frag} {F : Hp} : ∀ {j : Nat} {ss : List Slot} {Gs : List Hp} {σ : L2.St}, All3 K F (ss.set j any) Gs σ → All3 K F (ss.set j any) (Gs.set j noHp) σ
    | _, [], [], [], h => h
    | 0, _ :: _, _ :: _, _ :: _, ⟨x, y⟩ => ⟨trivial, y⟩
    | j + 1, _ :: _, _ :: _, _ :: _, ⟨x, y⟩ => ⟨x, all_set_any (j := j) y⟩
    | _, [], _ :: _, _, h => by cases j <;> exact h.elim
    | _, [], [], _ :: _, h => by cases j <;> exact h.elim
    | 0, _ :: _, [], _, h => h.elim
    | _ + 1, _ :: _, [], _, h => h.elim
    | 0, _ :: _, _ :: _, [], h => h.elim
    | _ + 1, _ :: _, _ :: _, [], h => h.elim
theorem fresh_of {K : Frag} {B F0 H F H' F' G' : Hp} {ss : List Slot} {σ : L2.St} {Gs : List Hp} (A : Asn K B F0 ss σ H F Gs) (pr : Priv G' H F' H') : Fresh B F' H' Gs G' := fun c u z => by
  obtain ⟨k1, k2, k3, k4⟩ := pr c u z
  exact ⟨k1, k4, Same.free A.base k2, k3, fun g m => Same.free (A.sub g m) k2⟩
/-- one more at the end -/
theorem Asn.app {α : Type} [Enc α] {d : Ow α} {K : Frag} {B F0 H F G G' : Hp} {ss : List Slot} {σ : L2.St} {Gs : List Hp} {i : Nat} {p : Addr} {vs : List V} {gs : List Hp} {as : List α} {v : V} {a : α} (A : Asn K B F0 ss σ H F Gs) (hG : Gs[i]? = some G) (hσ : σ[i]? = some (some (.ref p)))
    (hp : G p = some (.lst vs)) (hg : ∀ g ∈ gs, Same g G ∧ g p = none) (pw : gs.Pairwise Dj) (r : AllO (d.own K F) vs gs as) (fr' : Fresh B F H Gs G') (ra : d.own K F G' v a) :
    ∃ Gs', Asn K B F0 (ss.set i (os (lsO d) (as ++ [a]))) σ (upd H p (.lst (vs ++ [v]))) F Gs' := by
  have hm : G ∈ Gs := List.mem_of_getElem? hG
  have sG := A.sub G hm
  have dG : ∀ {c u}, G' c = some u → G c = none := fun {c u} z => (fr' c u z).2.2.2.2 G hm
  have hG'p : G' p = none := by
    cases e : G' p with
    | none => rfl
    | some w => have := dG e; rw [hp] at this; cases this
  refine ⟨_, set_self hσ ▸ A.chg (s := os (lsO d) (as ++ [a])) (o := some (.ref p)) (G2 := upd (join G G') p (.lst (vs ++ [v]))) hG (fun c u z h => by rw [upd_ne (fun e => by rw [e, hp] at z; cases z)]; exact h) (fun c u z => ?_)
    ⟨.ref p, rfl, p, vs ++ [v], gs ++ [G'], rfl, upd_same, fun g m => ?_, ?_, r.append ⟨ra, trivial⟩⟩⟩
  · by_cases e : c = p
    · subst e
      rw [upd_same] at z ⊢; cases z
      exact ⟨rfl, rfl, .inl (by rw [hp]; exact fun h => nomatch h)⟩
    · rw [upd_ne e] at z ⊢
      rcases join_or z with y | y
      · exact ⟨sG _ _ y, (A.priv G hm c u y).2.2.2, .inl (by rw [y]; exact fun h => nomatch h)⟩
      · obtain ⟨a, b, k⟩ := fr' c u y
        exact ⟨a, b, .inr ⟨k.1, k.2.1, k.2.2⟩⟩
  · rcases List.mem_append.mp m with m | m
    · refine ⟨fun c u z => ?_, (hg g m).2⟩
      rw [upd_ne (fun e => by rw [e, (hg g m).2] at z; cases z)]
      exact join_l _ _ ((hg g m).1 _ _ z)
    · cases List.mem_singleton.mp m
      refine ⟨fun c u z => ?_, hG'p⟩
      rw [upd_ne (fun e => by rw [e, hG'p] at z; cases z)]
      unfold join
      rw [dG z]; exact z
  · refine List.pairwise_append.mpr ⟨pw, List.pairwise_singleton _ _, fun g m g' m' c => ?_⟩
    cases List.mem_singleton.mp m'
    cases e : g c with
    | none => exact .inl rfl
    | some u =>
      refine .inr ?_
      cases e2 : G' c with
      | none => rfl
      | some w =>
        have := dG e2
        rw [(hg g m).1 _ _ e] at this; cases this
theorem all3_os {K : Frag} {F : Hp} {α : Type} [Enc α] {d : Ow α} {a : α} {ss : List Slot} {Gs : List Hp} {σ : L2.St} {i : Nat} (h : All3 K F ss Gs σ) (hs : ss[i]? = some (os d a)) :
    ∃ G v, Gs[i]? = some G ∧ σ[i]? = some (some v) ∧ d.own K F G v a := by
  obtain ⟨G, o, h1, h2, v, e, r⟩ := h.get hs
  subst e
  exact ⟨G, v, h1, h2, r⟩
/-- x.append(e), e one's own -/
theorem s1_appO (i : Nat) {α : Type} [Enc α] {d : Ow α} {as : List α} {m : Res α} {x : Str} {p apos cpos : Pos} (h : XK X W ss e m (os d)) (hs : ss[i]? = some (os (lsO d) as) := by rfl) (hp : PE X (.Name x p) (tVar i) := by exact pv _)
    (hbase : attributeBase (.Name x p) "append" X.env (eval (.Name x p) X.env) = eval (.Name x p) X.env := by rfl)
    (hfew : ((backTo cpos (starEach [e] X.env)).all (fun x => !x.1) && (backToKw cpos (keywordEach [] X.env)).all (fun x => x.1.isSome)
      && decide (([e] : List Expr).length + ([] : List Keyword).length + (if ([] : List Keyword).isEmpty then 0 else 1) < 30)) = true := by rfl)
    (hline : (apos.endLine == cpos.line) = true := by rfl) (hst : starEach [e] X.env = (false, eval e X.env) :: starEach [] X.env := by rfl) (hplain : (backTo cpos (starEach [] X.env)).any (·.1) = false := by rfl)
    (hsw : swapsWith (.Call (.Attribute (.Name x p) "append" apos) [e] [] cpos) none pos.line X.env = pure false := by rfl) :
    S1 X W ss (.Expr (.Call (.Attribute (.Name x p) "append" apos) [e] [] cpos) pos) (m.bind fun a => appR as a) (fun as' => ss.set i (os (lsO d) as')) := by
  have hx := pe_bm PySem.F.plainAttrs_list PySem.F.slot_list_append PySem.F.type_list_append mt_append hp (pa_cons h pa_nil hst) hbase hfew hline hst hplain
  refine PS_imp (ps_expr hx hsw) fun D σ H ⟨B, F0, F, Gs, A, q⟩ => ?_
  obtain ⟨G, v0, hG, hσ, p, vs, gs, e0, hp, hg, pw, r⟩ := all3_os A.all hs
  subst e0
  have hH := A.sub G (List.mem_of_getElem? hG) _ _ hp
  refine ⟨.ref p, hσ, .inl ⟨rfl, vs, SqL.of hH⟩, F, A.ext.sub, A.sl, wpS_R (wpS_bind q) A.base fun a q v H' F' G' s ex pr k => ?_⟩
  obtain ⟨v', e1, rv⟩ := k
  cases e1
  have A' := A.grow s ex
  unfold appR at q
  cases g : big as.length with
  | false => rw [g] at q; exact q.elim
  | true =>
    rw [g] at q
    refine ⟨p, vs, v, rfl, rfl, s _ _ hH, by rw [r.length]; exact Nat.lt_of_le_of_lt (of_decide_eq_true g) (by decide), ?_⟩
    obtain ⟨Gs', A2⟩ := A'.app hG hσ hp hg pw (r.imp fun _ _ _ z => d.mF ex.le z) (fresh_of A pr) rv
    exact q _ _ _ _ A2
/-- x.append(y), y's own given away -/
theorem s1_appMv (i j : Nat) {α : Type} [Enc α] {d : Ow α} {as : List α} {a : α} {x y : Str} {p py apos cpos : Pos} (hij : i ≠ j := by decide) (hj : ss[j]? = some (os d a) := by rfl) (hs : ss[i]? = some (os (lsO d) as) := by rfl) (hp : PE X (.Name x p) (tVar i) := by exact pv _) (hy : PE X (.Name y py) (tVar j) := by exact pv _)
    (hbase : attributeBase (.Name x p) "append" X.env (eval (.Name x p) X.env) = eval (.Name x p) X.env := by rfl)
    (hfew : ((backTo cpos (starEach [.Name y py] X.env)).all (fun x => !x.1) && (backToKw cpos (keywordEach [] X.env)).all (fun x => x.1.isSome)
      && decide (([.Name y py] : List Expr).length + ([] : List Keyword).length + (if ([] : List Keyword).isEmpty then 0 else 1) < 30)) = true := by rfl)
    (hline : (apos.endLine == cpos.line) = true := by rfl) (hst : starEach [.Name y py] X.env = (false, eval (.Name y py) X.env) :: starEach [] X.env := by rfl) (hplain : (backTo cpos (starEach [] X.env)).any (·.1) = false := by rfl)
    (hsw : swapsWith (.Call (.Attribute (.Name x p) "append" apos) [.Name y py] [] cpos) none pos.line X.env = pure false := by rfl) :
    S1 X W ss (.Expr (.Call (.Attribute (.Name x p) "append" apos) [.Name y py] [] cpos) pos) (appR as a) (fun as' => (ss.set j any).set i (os (lsO d) as')) := by
  have hx := pe_bm PySem.F.plainAttrs_list PySem.F.slot_list_append PySem.F.type_list_append mt_append hp (pa_cons hy pa_nil hst) hbase hfew hline hst hplain
  refine PS_imp (ps_expr hx hsw) fun D σ H ⟨B, F0, F, Gs, A, q⟩ => ?_
  obtain ⟨G, v0, hG, hσ, p, vs, gs, e0, hp, hg, pw, r⟩ := all3_os A.all hs
  subst e0
  obtain ⟨G', v, hG', hσ', rv⟩ := all3_os A.all hj
  have hH := A.sub G (List.mem_of_getElem? hG) _ _ hp
  refine ⟨.ref p, hσ, .inl ⟨rfl, vs, SqL.of hH⟩, v, hσ', ?_⟩
  unfold appR at q
  cases g : big as.length with
  | false => rw [g] at q; exact q.elim
  | true =>
    rw [g] at q
    refine ⟨p, vs, v, rfl, rfl, hH, by rw [r.length]; exact Nat.lt_of_le_of_lt (of_decide_eq_true g) (by decide), ?_⟩
    obtain ⟨A1, f1⟩ := A.take hG'
    obtain ⟨Gs', A2⟩ := A1.app (i := i) (by rw [List.getElem?_set_ne (Ne.symm hij)]; exact hG) hσ hp hg pw r f1 rv
    exact q _ _ _ _ A2
end
end G

namespace G
open PySem PySem.Spec PyProof.Rows L2
section
variable {X : Cx} {W : WX} {ss : List Slot} {st : Stmt} {rest : List Stmt} {e b tg : Expr} {pos : Pos}
/-- the item at k becomes another -/
def setI {α : Type} (xs : List α) (k : Int) (a : α) : List α := match ixN xs.length k with
  | some n => xs.set n a
  | none => xs
theorem atI_ix {α : Type} {xs : List α} {k : Int} {a : α} (h : atI xs k = some a) : ∃ n, ixN xs.length k = some n ∧ xs[n]? = some a := by
  unfold atI at h
  cases e : ixN xs.length k with
  | none => rw [e] at h; cases h
  | some n => rw [e] at h; exact ⟨n, rfl, h⟩
theorem wpS_guard {α : Type} {c : Bool} {m : Res α} {B : Hp} {P : α → Prop} (h : wpS X W (guardR c m) B P) : c = true ∧ wpS X W m B P := by
  cases c with
  | true => exact ⟨rfl, h⟩
  | false => exact h.elim
theorem wpS_idx {α : Type} {xs : List α} {k : Int} {B : Hp} {P : α → Prop} (h : wpS X W (idx xs k) B P) : ∃ a n, ixN xs.length k = some n ∧ xs[n]? = some a ∧ P a := by
  unfold idx at h
  cases e : atI xs k with
  | none => rw [e] at h; exact h.elim
  | some a =>
    rw [e] at h
    obtain ⟨n, h1, h2⟩ := atI_ix e
    exact ⟨a, n, h1, h2, h⟩
/-- an inner list becomes another -/
theorem Asn.inner {α : Type} [Enc α] {K : Frag} {B F0 H F G : Hp} {ss : List Slot} {σ : L2.St} {Gs : List Hp} {i n : Nat} {p q : Addr} {vs ws ws' : List V} {gs : List Hp} {g : Hp} {ass : List (List α)} {as' : List α} (A : Asn K B F0 ss σ H F Gs) (hG : Gs[i]? = some G) (hσ : σ[i]? = some (some (.ref p)))
    (hp : G p = some (.lst vs)) (hg : ∀ g ∈ gs, Same g G ∧ g p = none) (pw : gs.Pairwise Dj) (r : AllO (l1.own K F) vs gs ass) (hv : vs[n]? = some (.ref q)) (hgn : gs[n]? = some g) (hq : g q = some (.lst ws)) (r' : All2 (fun v a => Enc.rep K F v a) ws' as') :
    ∃ Gs', Asn K B F0 (ss.set i (os (lsO l1) (ass.set n as'))) σ (upd H q (.lst ws')) F Gs' := by
  have hm : G ∈ Gs := List.mem_of_getElem? hG
  have mg := List.mem_of_getElem? hgn
  have hqG := (hg g mg).1 _ _ hq
  have hqp : p ≠ q := fun e => by have := (hg g mg).2; rw [e, hq] at this; cases this
  refine ⟨_, set_self hσ ▸ A.chg (s := os (lsO l1) (ass.set n as')) (o := some (.ref p)) (G2 := upd G q (.lst ws')) hG (fun c u z h => by rw [upd_ne (fun e => by rw [e, hqG] at z; cases z)]; exact h) (fun c u z => ?_)
    ⟨.ref p, rfl, p, vs, gs.set n (upd g q (.lst ws')), rfl, by rw [upd_ne hqp]; exact hp, fun g' m => ?_, ?_, ?_⟩⟩
  · by_cases e : c = q
    · subst e
      rw [upd_same] at z ⊢; cases z
      exact ⟨rfl, rfl, .inl (by rw [hqG]; exact fun h => nomatch h)⟩
    · rw [upd_ne e] at z ⊢
      exact ⟨A.sub G hm _ _ z, (A.priv G hm c u z).2.2.2, .inl (by rw [z]; exact fun h => nomatch h)⟩
  · rcases mem_set_ix (List.getElem?_eq_some_iff.mp hgn).1 m with e | ⟨k, hk, hj⟩
    · subst e
      refine ⟨fun c u z => ?_, by rw [upd_ne hqp]; exact (hg g mg).2⟩
      by_cases e : c = q
      · subst e; rw [upd_same] at z ⊢; exact z
      · rw [upd_ne e] at z ⊢; exact (hg g mg).1 _ _ z
    · have mk := List.mem_of_getElem? hj
      refine ⟨fun c u z => ?_, (hg g' mk).2⟩
      rw [upd_ne (fun e => by
        subst e
        exact (dj_of pw hj hgn hk c).elim (fun y => by rw [y] at z; cases z) (fun y => by rw [hq] at y; cases y))]
      exact (hg g' mk).1 _ _ z
  · refine pw_ix2 hgn pw fun g' _ d c => ?_
    by_cases e : c = q
    · subst e
      exact .inr ((d c).elim (fun y => by rw [hq] at y; cases y) id)
    · rw [upd_ne e]; exact d c
  · have := r.set n (v := .ref q) (G := upd g q (.lst ws')) (a := as') ⟨q, ws', rfl, upd_same, r'⟩
    rw [set_self hv] at this
    exact this
/-- x[k].append(e) -/
theorem s1_app2 (i : Nat) {α : Type} [Enc α] {ass : List (List α)} {mk : Res Int} {m : Res α} {x : Str} {p ip apos cpos : Pos} (hb : XI X W ss b mk) (h : XK X W ss e m fr) (hs : ss[i]? = some (os (lsO l1) ass) := by rfl) (hp : PE X (.Name x p) (tVar i) := by exact pv _)
    (hpl : PlainIx b := by exact fun _ _ => rfl)
    (hbase : attributeBase (.Subscript (.Name x p) b ip) "append" X.env (eval (.Subscript (.Name x p) b ip) X.env) = eval (.Subscript (.Name x p) b ip) X.env := by rfl)
    (hfew : ((backTo cpos (starEach [e] X.env)).all (fun x => !x.1) && (backToKw cpos (keywordEach [] X.env)).all (fun x => x.1.isSome)
      && decide (([e] : List Expr).length + ([] : List Keyword).length + (if ([] : List Keyword).isEmpty then 0 else 1) < 30)) = true := by rfl)
    (hline : (apos.endLine == cpos.line) = true := by rfl) (hst : starEach [e] X.env = (false, eval e X.env) :: starEach [] X.env := by rfl) (hplain : (backTo cpos (starEach [] X.env)).any (·.1) = false := by rfl)
    (hsw : swapsWith (.Call (.Attribute (.Subscript (.Name x p) b ip) "append" apos) [e] [] cpos) none pos.line X.env = pure false := by rfl) :
    S1 X W ss (.Expr (.Call (.Attribute (.Subscript (.Name x p) b ip) "append" apos) [e] [] cpos) pos) (mk.bind fun k => (idx ass k).bind fun as => m.bind fun a => (appR as a).bind fun as' => .ok (setI ass k as')) (fun ass' => ss.set i (os (lsO l1) ass')) := by
  have hx := pe_bm PySem.F.plainAttrs_list PySem.F.slot_list_append PySem.F.type_list_append mt_append (pe_ix ix_list hp hb hpl) (pa_cons h pa_nil hst) hbase hfew hline hst hplain
  refine PS_imp (ps_expr hx hsw) fun D σ H ⟨B, F0, F, Gs, A, q⟩ => ?_
  obtain ⟨G, v0, hG, hσ, p, vs, gs, e0, hp, hg, pw, r⟩ := all3_os A.all hs
  subst e0
  have hH := A.sub G (List.mem_of_getElem? hG) _ _ hp
  refine ⟨.ref p, hσ, A.sl.mono A.ext.sub (Same.refl H), wpS_R (wpS_bind q) A.base fun k q w H1 s1 rk => ?_⟩
  have A1 := A.grow s1 (F' := F) ⟨Same.refl F, A.ext.sub.trans s1, fun _ _ h => .inl h⟩
  have q := wpS_bind q
  obtain ⟨as, n, hn, has, q⟩ := wpS_idx q
  obtain ⟨vq, g, hvq, hgq, ⟨qa, ws, e1, hqa, rq⟩⟩ := r.get has
  subst e1
  have hH1 := s1 _ _ hH
  have hq1 : H1 qa = some (.lst ws) := A1.sub G (List.mem_of_getElem? hG) _ _ ((hg g (List.mem_of_getElem? hgq)).1 _ _ hqa)
  have hat : atI vs k = some (.ref qa) := by
    unfold atI
    rw [r.length, hn]; exact hvq
  refine ⟨p, vs, k, .ref qa, rfl, rk, SqL.of hH1, hat, .inl ⟨rfl, ws, SqL.of hq1⟩, F, A1.ext.sub, A1.sl, wpS_R (wpS_bind q) A1.base fun a q v H' F' G' s ex pr kk => ?_⟩
  obtain ⟨v', e1, rv⟩ := kk
  cases e1
  have A' := A1.grow s ex
  obtain ⟨g1, q⟩ := wpS_guard (wpS_bind q)
  refine ⟨qa, ws, v, rfl, rfl, s _ _ hq1, by rw [rq.length]; exact Nat.lt_of_le_of_lt (of_decide_eq_true g1) (by decide), ?_⟩
  obtain ⟨Gs', A2⟩ := A'.inner hG hσ hp hg pw (r.imp fun _ _ _ z => (l1 (α := α)).mF ex.le z) hvq hgq hqa (as' := as ++ [a]) (ws' := ws ++ [v]) (All2.append (bs' := [a]) (rq.mono ex.le) ⟨rv, trivial⟩)
  have q : NxOk X (ss.set i (os (lsO l1) (setI ass k (as ++ [a])))) D B F0 := q
  unfold setI at q
  rw [hn] at q
  exact q _ _ _ _ A2
/-! ### for, over what is one's own -/
theorem pw_set_ix {G2 : Hp} : ∀ (j : Nat) {Gs : List Hp}, Gs.Pairwise Dj → (∀ k G', k ≠ j → Gs[k]? = some G' → Dj G2 G') → (Gs.set j G2).Pairwise Dj
  | _, [], _, _ => List.Pairwise.nil
  | 0, A :: Gs, h, d => List.pairwise_cons.mpr ⟨fun G' m => by
      obtain ⟨k, hk⟩ := List.getElem?_of_mem m
      exact d (k + 1) G' (by omega) hk, (List.pairwise_cons.mp h).2⟩
  | j + 1, A :: Gs, h, d => by
    obtain ⟨h1, h2⟩ := List.pairwise_cons.mp h
    refine List.pairwise_cons.mpr ⟨fun G' m => ?_, pw_set_ix j h2 fun k G' hk hG => d (k + 1) G' (by omega) hG⟩
    rcases List.mem_or_eq_of_mem_set m with z | z
    · exact h1 G' z
    · subst z
      exact fun a => (d 0 A (by omega) rfl a).symm
theorem Asn.two {K : Frag} {B F0 H F G G1 G2 : Hp} {ss : List Slot} {σ : L2.St} {Gs : List Hp} {i j : Nat} {s1 s2 : Slot} {o1 o2 : Option V} (A : Asn K B F0 ss σ H F Gs) (hij : i ≠ j) (hG : Gs[i]? = some G) (hσ : σ[i]? = some o1) (l1' : Same G1 G) (l2 : Same G2 G) (dj : Dj G1 G2)
    (x1 : s1.P K F G1 o1) (x2 : s2.P K F G2 o2) : Asn K B F0 ((ss.set i s1).set j s2) (σ.set j o2) H F ((Gs.set i G1).set j G2) := by
  have hm : G ∈ Gs := List.mem_of_getElem? hG
  have hl := (List.getElem?_eq_some_iff.mp hG).1
  have pr : ∀ {g c u}, Same g G → g c = some u → H c = some u ∧ B c = none ∧ F c = none ∧ isT u = false := fun {g c u} s z => A.priv G hm c u (s _ _ z)
  have dg : ∀ {g}, Same g G → ∀ G' ∈ Gs, Dj G G' → Dj g G' := fun {g} s G' _ d c => by
    cases e : g c with
    | none => exact .inl rfl
    | some u => exact .inr ((d c).elim (fun y => by rw [s _ _ e] at y; cases y) id)
  have A1 : All3 K F (ss.set i s1) (Gs.set i G1) (σ.set i o1) := A.all.set x1 i
  rw [set_self hσ] at A1
  refine ⟨A.ext, A.base, A1.set x2 j, fun G' m c u z => ?_, ?_⟩
  · rcases List.mem_or_eq_of_mem_set m with m | e
    · rcases List.mem_or_eq_of_mem_set m with m | e
      · exact A.priv G' m c u z
      · subst e; exact pr l1' z
    · subst e; exact pr l2 z
  · refine pw_set_ix j (pw_ix2 hG A.dj (dg l1')) fun k G' hk hG' => ?_
    by_cases e : k = i
    · subst e
      rw [List.getElem?_set_self hl] at hG'
      cases hG'
      exact fun x => (dj x).symm
    · rw [List.getElem?_set_ne (Ne.symm e)] at hG'
      exact dg l2 _ (List.mem_of_getElem? hG') (dj_of A.dj hG hG' (Ne.symm e))
/-- at one place weaker -/
theorem Asn.at {K : Frag} {B F0 H F : Hp} {ss : List Slot} {σ : L2.St} {Gs : List Hp} {i : Nat} {s t : Slot} (A : Asn K B F0 ss σ H F Gs) (hs : ss[i]? = some s) (h : ∀ G o, s.P K F G o → t.P K F G o) : Asn K B F0 (ss.set i t) σ H F Gs := by
  obtain ⟨G, o, hG, hσ, x⟩ := A.all.get hs
  have := A.all.set (h _ _ x) i
  rw [set_self hG, set_self hσ] at this
  exact ⟨A.ext, A.base, this, A.priv, A.dj⟩
theorem set_ij {α : Type} {l : List α} {i j : Nat} {a b c : α} (h : i ≠ j) : ((l.set i a).set j b).set i c = (l.set i c).set j b := by rw [List.set_comm _ _ (Ne.symm h), List.set_set]
theorem get_ij {α : Type} {l : List α} {i j : Nat} {a b : α} (h : i ≠ j) (hl : Nat.blt i l.length = true) : ((l.set i a).set j b)[i]? = some a := by
  have hl : i < l.length := Nat.le_of_ble_eq_true hl
  rw [List.getElem?_set_ne (Ne.symm h), List.getElem?_set_self hl]
/-- the walk over one's own list x: the items are given away, one by one -/
theorem b1_forO (i j : Nat) {S L R α : Type} [Enc α] {d : Ow α} {as : List α} {x y : Str} {p py : Pos} {body : List Stmt} {f : S → α → Res (Out S S R)} (inv : S → List Slot) (s0 : S) {pl : L → List Slot} {kr : R → Slot} (hij : i ≠ j := by decide)
    (hl : ∀ s, Nat.blt i (inv s).length = true := by intro _; rfl)
    (hb : ∀ p vs k s a, SB X W (((inv s).set i (jk d p vs as k)).set j (os d a)) body (f s a) (fun s' => ((inv s').set i (jk d p vs as k)).set j any) (fun s' => ((inv s').set i (jk d p vs as k)).set j any) kr)
    (hN : X.N.Nodup) (h0 : Wk ((ss.set i any).set j any) (((inv s0).set i any).set j any) := by exact Wk.refl _) (hs : ss[i]? = some (os (lsO d) as) := by rfl) (hpx : PE X (.Name x p) (tVar i) := by exact pv _)
    (hi : X.N[j]? = some y := by rfl) (hx : Loc X.env.scope y := by first | exact Or.inl rfl | exact Or.inr rfl) (hf : X.fn y = true ∨ X.env.scope.names.lookup y = some .local := by first | exact .inl rfl | exact .inr rfl)
    (hp : PassesOwn (model X.prog X.w) X.A X.env X.xe := by exact passes_of rfl) (hc : X.calm = true := by rfl) (hse : ∀ z, foldedSetIterable (.Name x p) X.env z = pure z := by intro _; rfl) :
    B1 X W ss (.For (.Name y py) (.Name x p) body [] pos) (loopO f s0 as) (fun s => ((inv s).set i (jl as.length)).set j any) pl kr := by
  have hb' : PSs X body fun D σ H => ∃ p vs k s a, rdX X (((inv s).set i (jk d p vs as k)).set j (os d a)) (wB X W (f s a) (fun s' => ((inv s').set i (jk d p vs as k)).set j any) (fun s' => ((inv s').set i (jk d p vs as k)).set j any) kr) D σ H :=
    ⟨fun pins s σ H D I ⟨p, vs, k, s', a, q⟩ => (hb p vs k s' a).run pins s σ H D I q⟩
  refine PS_imp (ps_for hp hc (pi_list hpx) (pg_name hN hi hx hf) hb' hse) fun D σ H ⟨B, F0, F, Gs, A, q⟩ => ?_
  obtain ⟨G, v0, hG, hσ, pa, vs, gs, e0, hpa, hg, pw, r⟩ := all3_os A.all hs
  subst e0
  have hH := A.sub G (List.mem_of_getElem? hG) _ _ hpa
  have hlen := r.length
  refine ⟨.ref pa, hσ, pa, rfl, ⟨vs, SqL.of hH⟩, fun k n σ H => k + n = as.length ∧ ∃ s F2 Gs2, Asn X.K B F0 (((inv s).set i (jk d pa vs as k)).set j any) σ H F2 Gs2 ∧ wpS X W (loopO f s (as.drop k)) B fun o => match o with
      | .nx s => NxOk X (((inv s).set i (jl as.length)).set j any) D B F0
      | .rt r => RtOk X kr r D B F0
      | .bk l => BkOk X (pl l) D B F0
      | .ct l => CtOk X (pl l) D B F0, ⟨as.length, by omega, s0, F, Gs, ?_, q⟩, fun k n σ H ⟨hn, s, F2, Gs2, A2, q2⟩ => ?_⟩
  · have a1 := ((A.all.any i).any j).wk h0
    have a2 := a1.set (s := jk d pa vs as 0) (G := G) (o := some (.ref pa)) ⟨rfl, gs, hpa, hg, pw, r⟩ i
    rw [set_self hG, set_self hσ, set_ij hij] at a2
    exact ⟨A.ext, A.base, a2, A.priv, A.dj⟩
  · obtain ⟨G2, o, hG2, hσ2, e, gs2, hp2, hg2, pw2, r2⟩ := A2.all.get (get_ij hij (hl s))
    subst e
    have hH2 := A2.sub G2 (List.mem_of_getElem? hG2) _ _ hp2
    by_cases hlt : k < as.length
    · refine .inr ?_
      have hv : k < vs.length := by omega
      rw [List.drop_eq_getElem_cons hlt, List.drop_eq_getElem_cons hv] at r2
      rw [List.drop_eq_getElem_cons hlt] at q2
      have q2 := wpS_bind (show wpS X W ((f s as[k]).bind _) B _ from q2)
      cases gs2 with
      | nil => exact r2.elim
      | cons g gs2 =>
        refine ⟨⟨vs, vs[k], SqL.of hH2, List.getElem?_eq_getElem hv⟩, fun σ' H' => ∃ s' F3 Gs3, Asn X.K B F0 (((inv s').set i (jk d pa vs as (k + 1))).set j any) σ' H' F3 Gs3 ∧ wpS X W (loopO f s' (as.drop (k + 1))) B fun o => match o with
          | .nx s => NxOk X (((inv s).set i (jl as.length)).set j any) D B F0
          | .rt r => RtOk X kr r D B F0
          | .bk l => BkOk X (pl l) D B F0
          | .ct l => CtOk X (pl l) D B F0, fun σ' H' ⟨s', F3, Gs3, A3, q3⟩ => ⟨n - 1, by omega, by omega, s', F3, Gs3, A3, q3⟩, fun v H' ⟨e, y⟩ => ?_⟩
        subst e
        have ev : v = vs[k] := Option.some.inj ((y vs (SqL.of hH2)).symm.trans (List.getElem?_eq_getElem hv))
        subst ev
        obtain ⟨sg, gp⟩ := hg2 g List.mem_cons_self
        obtain ⟨pg1, pg2⟩ := List.pairwise_cons.mp pw2
        have A4 := A2.two (j := j) (s1 := jk d pa vs as (k + 1)) (s2 := os d as[k]) (G1 := fun c => if g c = none then G2 c else none) (G2 := g) (o2 := some vs[k]) hij hG2 hσ2 (fun c u z => by
            by_cases h : g c = none
            · have z : (if g c = none then G2 c else none) = some u := z
              rw [if_pos h] at z; exact z
            · have z : (if g c = none then G2 c else none) = some u := z
              rw [if_neg h] at z; cases z) sg (fun c => by
            by_cases h : g c = none
            · exact .inr h
            · exact .inl (if_neg h)) ⟨rfl, gs2, (if_pos gp).trans hp2, fun g' m => ⟨fun c u z => by
              obtain ⟨s2, _⟩ := hg2 g' (List.mem_cons_of_mem _ m)
              have : g c = none := (pg1 g' m c).elim id fun y => by rw [y] at z; cases z
              exact (if_pos this).trans (s2 _ _ z), (hg2 g' (List.mem_cons_of_mem _ m)).2⟩, pg2, r2.2⟩ ⟨_, rfl, r2.1⟩
        rw [set_ij hij, List.set_set] at A4
        refine ⟨pa, vs, k + 1, s, as[k], B, F0, F2, _, A4, wpS_imp q2 fun o q5 => ?_⟩
        cases o with
        | nx s' => exact fun σ' H' F' Gs' A' => ⟨s', F', Gs', A', q5⟩
        | ct s' => exact fun σ' H' F' Gs' A' => ⟨s', F', Gs', A', q5⟩
        | bk s' =>
          intro σ' H' F' Gs' A'
          have := A'.at (t := jl as.length) (get_ij hij (hl s')) fun G o ⟨e, Gs, g, _⟩ => ⟨pa, vs, e, g, hlen⟩
          rw [set_ij hij] at this
          exact q5 σ' H' F' Gs' this
        | rt r => exact q5
    · have e : as.drop k = [] := List.drop_eq_nil_iff.mpr (by omega)
      rw [e] at q2
      have := A2.at (t := jl as.length) (get_ij hij (hl s)) fun G o ⟨e, Gs, g, _⟩ => ⟨pa, vs, e, g, hlen⟩
      rw [set_ij hij] at this
      exact .inl ⟨⟨vs, SqL.of hH2, by omega⟩, q2 σ H F2 Gs2 this⟩
end
end G

namespace G
open PySem PySem.Spec PyProof.Rows L2
section
variable {X : Cx} {W : WX} {ss : List Slot} {st : Stmt} {rest : List Stmt} {e b tg : Expr} {pos : Pos}
theorem s1_of_b1 {S : Type} {M : Res S} {post : S → List Slot} (h : B1 (L := Empty) (R := Unit) X W ss st (M.bind fun s => .ok (.nx s)) post (fun x => nomatch x) (fun _ => any)) : S1 X W ss st M post := by
  refine PS_imp h fun D σ H ⟨B, F0, F, Gs, A, q⟩ => ⟨B, F0, F, Gs, A, ?_⟩
  cases M with
  | ok s => exact q
  | exc x => exact q
  | stuck => exact q
theorem s1_forO (i j : Nat) {S α : Type} [Enc α] {d : Ow α} {as : List α} {x y : Str} {p py : Pos} {body : List Stmt} {f : S → α → Res S} (inv : S → List Slot) (s0 : S) (hij : i ≠ j := by decide)
    (hl : ∀ s, Nat.blt i (inv s).length = true := by intro _; rfl)
    (hb : ∀ p vs k s a, SN X W (((inv s).set i (jk d p vs as k)).set j (os d a)) body (f s a) (fun s' => ((inv s').set i (jk d p vs as k)).set j any))
    (hN : X.N.Nodup) (h0 : Wk ((ss.set i any).set j any) (((inv s0).set i any).set j any) := by exact Wk.refl _) (hs : ss[i]? = some (os (lsO d) as) := by rfl) (hpx : PE X (.Name x p) (tVar i) := by exact pv _)
    (hi : X.N[j]? = some y := by rfl) (hx : Loc X.env.scope y := by first | exact Or.inl rfl | exact Or.inr rfl) (hf : X.fn y = true ∨ X.env.scope.names.lookup y = some .local := by first | exact .inl rfl | exact .inr rfl)
    (hp : PassesOwn (model X.prog X.w) X.A X.env X.xe := by exact passes_of rfl) (hc : X.calm = true := by rfl) (hse : ∀ z, foldedSetIterable (.Name x p) X.env z = pure z := by intro _; rfl) :
    S1 X W ss (.For (.Name y py) (.Name x p) body [] pos) (foldR f s0 as) (fun s => ((inv s).set i (jl as.length)).set j any) := by
  refine s1_of_b1 ?_
  rw [← loopO_fold]
  exact b1_forO i j inv s0 hij hl (fun p vs k s a => sb_of_sn (hb p vs k s a)) hN h0 hs hpx hi hx hf hp hc hse
/-- x.clear(), whatever stood there -/
theorem Asn.clr {K : Frag} {B F0 H F G : Hp} {ss : List Slot} {σ : L2.St} {Gs : List Hp} {i : Nat} {p : Addr} {vs : List V} {s : Slot} (A : Asn K B F0 ss σ H F Gs) (hG : Gs[i]? = some G) (hσ : σ[i]? = some (some (.ref p))) (hp : G p = some (.lst vs)) (hx : s.P K F (upd noHp p (.lst [])) (some (.ref p))) :
    Asn K B F0 (ss.set i s) σ (upd H p (.lst [])) F (Gs.set i (upd noHp p (.lst []))) := by
  have := A.chg (s := s) (o := some (.ref p)) (G2 := upd noHp p (.lst [])) (H' := upd H p (.lst [])) hG (fun c u z h => by rw [upd_ne (fun e => by rw [e, hp] at z; cases z)]; exact h) (fun c u z => by
    by_cases e : c = p
    · subst e
      rw [upd_same] at z ⊢; cases z
      exact ⟨rfl, rfl, .inl (by rw [hp]; exact fun h => nomatch h)⟩
    · rw [upd_ne e] at z; cases z) hx
  rw [set_self hσ] at this
  exact this
theorem s1_clearJ (i : Nat) {n : Nat} {α : Type} [Enc α] {x : Str} {p apos cpos : Pos} (hs : ss[i]? = some (jl n) := by rfl) (hx : PE X (.Call (.Attribute (.Name x p) "clear" apos) [] [] cpos) (tBM0 X.K "list" rClear (tVar i)) := by exact pe_bm0 PySem.F.plainAttrs_list PySem.F.slot_list_clear PySem.F.type_list_clear mt_clear (pv _))
    (hsw : swapsWith (.Call (.Attribute (.Name x p) "clear" apos) [] [] cpos) none pos.line X.env = pure false := by rfl) :
    S1 X W ss (.Expr (.Call (.Attribute (.Name x p) "clear" apos) [] [] cpos) pos) (.ok ([] : List α)) (fun as' => ss.set i (ow as')) := by
  refine PS_imp (ps_expr hx hsw) fun D σ H ⟨B, F0, F, Gs, A, q⟩ => ?_
  obtain ⟨G, o, hG, hσ, p, vs, e, hp, _⟩ := A.all.get hs
  subst e
  have hH := A.sub G (List.mem_of_getElem? hG) _ _ hp
  refine ⟨.ref p, hσ, .inl ⟨rfl, vs, SqL.of hH⟩, p, vs, rfl, rfl, hH, ?_⟩
  exact q _ _ _ _ (A.clr (s := ow ([] : List α)) hG hσ hp ⟨p, [], rfl, upd_same, trivial⟩)
theorem s1_clearO (i : Nat) {α : Type} [Enc α] {d : Ow α} {as : List α} {x : Str} {p apos cpos : Pos} (hs : ss[i]? = some (os (lsO d) as) := by rfl) (hx : PE X (.Call (.Attribute (.Name x p) "clear" apos) [] [] cpos) (tBM0 X.K "list" rClear (tVar i)) := by exact pe_bm0 PySem.F.plainAttrs_list PySem.F.slot_list_clear PySem.F.type_list_clear mt_clear (pv _))
    (hsw : swapsWith (.Call (.Attribute (.Name x p) "clear" apos) [] [] cpos) none pos.line X.env = pure false := by rfl) :
    S1 X W ss (.Expr (.Call (.Attribute (.Name x p) "clear" apos) [] [] cpos) pos) (.ok ([] : List α)) (fun as' => ss.set i (os (lsO d) as')) := by
  refine PS_imp (ps_expr hx hsw) fun D σ H ⟨B, F0, F, Gs, A, q⟩ => ?_
  obtain ⟨G, v0, hG, hσ, p, vs, gs, e0, hp, hg, pw, r⟩ := all3_os A.all hs
  subst e0
  have hH := A.sub G (List.mem_of_getElem? hG) _ _ hp
  refine ⟨.ref p, hσ, .inl ⟨rfl, vs, SqL.of hH⟩, p, vs, rfl, rfl, hH, ?_⟩
  exact q _ _ _ _ (A.clr (s := os (lsO d) ([] : List α)) hG hσ hp ⟨.ref p, rfl, p, [], [], rfl, upd_same, (fun _ m => by cases m), .nil, trivial⟩)
/-- a slot told otherwise -/
theorem slotX {w : Ends → Hp → Hp → Prop} (i : Nat) {s t : Slot} {sts : List Stmt} (h : PSs X sts (rdX X (ss.set i t) w)) (hs : ss[i]? = some s) (f : ∀ K F G o, s.P K F G o → t.P K F G o) : PSs X sts (rdX X ss w) :=
  PSs_imp h fun D σ H ⟨B, F0, F, Gs, A, q⟩ => ⟨B, F0, F, Gs, A.at hs (f _ _), q⟩
theorem ow_os {α : Type} [Enc α] {as : List α} : ∀ K F G o, (ow as).P K F G o → (os l1 as).P K F G o := fun K F G o ⟨p, vs, e, g, r⟩ => ⟨.ref p, e, p, vs, rfl, g, r⟩
theorem os_ow {α : Type} [Enc α] {as : List α} : ∀ K F G o, (os l1 as).P K F G o → (ow as).P K F G o := fun K F G o ⟨v, e, p, vs, e2, g, r⟩ => ⟨p, vs, by rw [e, e2], g, r⟩
theorem st_slot (i : Nat) {s t : Slot} (f : ∀ K F G o, s.P K F G o → t.P K F G o) {R : Type} {ee : Bool} {sts : List Stmt} {M : Res R} {kr : R → Slot} (h : ST X W ee (ss.set i t) sts M kr) (hs : ss[i]? = some s := by rfl) : ST X W ee ss sts M kr := slotX i h hs f
theorem sn_slot (i : Nat) {s t : Slot} (f : ∀ K F G o, s.P K F G o → t.P K F G o) {S : Type} {sts : List Stmt} {M : Res S} {post : S → List Slot} (h : SN X W (ss.set i t) sts M post) (hs : ss[i]? = some s := by rfl) : SN X W ss sts M post := slotX i h hs f
theorem sb_slot (i : Nat) {s t : Slot} (f : ∀ K F G o, s.P K F G o → t.P K F G o) {S L R : Type} {sts : List Stmt} {M : Res (Out S L R)} {post : S → List Slot} {pl : L → List Slot} {kr : R → Slot} (h : SB X W (ss.set i t) sts M post pl kr) (hs : ss[i]? = some s := by rfl) : SB X W ss sts M post pl kr := slotX i h hs f
/-- from now on nobody changes it -/
theorem frozO {w : Ends → Hp → Hp → Prop} (i : Nat) {α : Type} [Enc α] {d : Ow α} {a : α} {sts : List Stmt} (h : PSs X sts (rdX X (ss.set i (fr a)) w)) (hs : ss[i]? = some (os d a)) : PSs X sts (rdX X ss w) := by
  refine PSs_imp h fun D σ H ⟨B, F0, F, Gs, A, q⟩ => ?_
  obtain ⟨G, v, hG, hσ, r⟩ := all3_os A.all hs
  have hm := List.mem_of_getElem? hG
  have sG := A.sub G hm
  have hl := (List.getElem?_eq_some_iff.mp hG).1
  refine ⟨B, F0, join F G, Gs.set i noHp, ⟨⟨A.ext.le.trans join_l, join_le A.ext.sub sG, fun c u z => (join_or z).elim (A.ext.new c u) fun z => .inr (.inl (A.priv G hm c u z).2.1)⟩, A.base, ?_, fun G' m c u z => ?_, ?_⟩, q⟩
  · have e := set_self hσ
    rw [← e]
    exact (A.all.mono join_l).set (s := fr a) ⟨v, rfl, d.view r join_l (join_r A.ext.sub sG)⟩ i
  · rcases mem_set_ix hl m with e | ⟨j, hji, hj⟩
    · subst e; cases z
    · obtain ⟨k1, k2, k3, k4⟩ := A.priv G' (List.mem_of_getElem? hj) c u z
      refine ⟨k1, k2, ?_, k4⟩
      have gc : G c = none := (dj_of A.dj hj hG hji c).elim (fun y => by rw [y] at z; cases z) id
      unfold join
      rw [k3]
      exact gc
  · exact pw_set i A.dj fun G' _ c => .inl rfl
theorem st_frozO (i : Nat) {α R : Type} [Enc α] {d : Ow α} {a : α} {ee : Bool} {sts : List Stmt} {M : Res R} {kr : R → Slot} (h : ST X W ee (ss.set i (fr a)) sts M kr) (hs : ss[i]? = some (os d a) := by rfl) : ST X W ee ss sts M kr := frozO i h hs
theorem sn_frozO (i : Nat) {α S : Type} [Enc α] {d : Ow α} {a : α} {sts : List Stmt} {M : Res S} {post : S → List Slot} (h : SN X W (ss.set i (fr a)) sts M post) (hs : ss[i]? = some (os d a) := by rfl) : SN X W ss sts M post := frozO i h hs
theorem sb_frozO (i : Nat) {α S L R : Type} [Enc α] {d : Ow α} {a : α} {sts : List Stmt} {M : Res (Out S L R)} {post : S → List Slot} {pl : L → List Slot} {kr : R → Slot} (h : SB X W (ss.set i (fr a)) sts M post pl kr) (hs : ss[i]? = some (os d a) := by rfl) : SB X W ss sts M post pl kr := frozO i h hs
/-- what a slot holds is handed back -/
theorem rt_slot (i : Nat) {R : Type} {kr : R → Slot} {r : R} {x : Str} {rp pos : Pos} (hs : ss[i]? = some (kr r)) (hk : ∀ K F G o, (kr r).P K F G o → ∃ v, o = some v) (hp : PE X (.Name x rp) (tVar i)) : PS X (.Return (some (.Name x rp)) pos) (rdX X ss fun D B F0 => wpS X W (.ok r) B fun r => RtOk X kr r D B F0) := by
  refine PS_imp (ps_ret hp) fun D σ H ⟨B, F0, F, Gs, A, q⟩ => ?_
  obtain ⟨G, o, hG, hσ, r⟩ := A.all.get hs
  obtain ⟨v, e⟩ := hk _ _ _ _ r
  subst e
  exact ⟨v, hσ, q _ H F G A.base A.ext (A.priv G (List.mem_of_getElem? hG)) r⟩
theorem os_some {α : Type} [Enc α] {d : Ow α} {a : α} : ∀ K F G o, (os d a).P K F G o → ∃ v, o = some v := fun _ _ _ _ ⟨v, e, _⟩ => ⟨v, e⟩
theorem st_retO (i : Nat) {α : Type} [Enc α] {d : Ow α} {a : α} {ee : Bool} {x : Str} {rp pos : Pos} (hs : ss[i]? = some (os d a) := by rfl) (hp : PE X (.Name x rp) (tVar i) := by exact pv _) : ST X W ee ss (.Return (some (.Name x rp)) pos :: rest) (.ok a) (os d) :=
  PSs_imp (rest_free (rt_slot (W := W) i hs os_some hp) fun D D' σ H e1 _ _ ⟨B, F0, F, Gs, A, q⟩ => ⟨B, F0, F, Gs, A, wpS_imp q fun r q v H' F' G' a b c d => by rw [e1]; exact q v H' F' G' a b c d⟩)
    fun D σ H ⟨B, F0, F, Gs, A, _, q⟩ => ⟨B, F0, F, Gs, A, q⟩
theorem sb_retO (i : Nat) {α S L : Type} [Enc α] {d : Ow α} {a : α} {x : Str} {rp pos : Pos} {post : S → List Slot} {pl : L → List Slot} (hs : ss[i]? = some (os d a) := by rfl) (hp : PE X (.Name x rp) (tVar i) := by exact pv _) :
    SB X W ss (.Return (some (.Name x rp)) pos :: rest) (.ok (.rt a) : Res (Out S L α)) post pl (os d) :=
  PSs_imp (rest_free (rt_slot (W := W) i hs os_some hp) fun D D' σ H e1 _ _ ⟨B, F0, F, Gs, A, q⟩ => ⟨B, F0, F, Gs, A, wpS_imp q fun r q v H' F' G' a b c d => by rw [e1]; exact q v H' F' G' a b c d⟩)
    fun D σ H ⟨B, F0, F, Gs, A, q⟩ => ⟨B, F0, F, Gs, A, q⟩
/-! ### for, over what one's own tells, which stays -/
theorem b1_forP (i : Nat) {S L R α β : Type} [Enc α] [Enc β] [Imm β] {d : Ow α} {a : α} {iter : Expr} {body : List Stmt} {u : β → List Slot → List Slot} {m : Res (List β)} {f : S → β → Res (Out S S R)} (inv : S → List Slot) (s0 : S) {pl : L → List Slot} {kr : R → Slot}
    (hi : XIt X W (ss.set i (fr a)) tg iter m) (hg : Tg X tg u) (hl : ∀ s, Nat.blt i (inv s).length = true := by intro _; rfl)
    (hb : ∀ G0 v0 s b, SB X W (u b ((inv s).set i (pin G0 v0 d a))) body (f s b) (fun s' => (inv s').set i (pin G0 v0 d a)) (fun s' => (inv s').set i (pin G0 v0 d a)) kr)
    (hs : ss[i]? = some (os d a) := by rfl) (h0 : Wk (ss.set i any) ((inv s0).set i any) := by exact Wk.refl _)
    (hp : PassesOwn (model X.prog X.w) X.A X.env X.xe := by exact passes_of rfl) (hc : X.calm = true := by rfl) (hse : ∀ x, foldedSetIterable iter X.env x = pure x := by intro _; rfl) :
    B1 X W ss (.For tg iter body [] pos) (m.bind fun xs => loopO f s0 xs) (fun s => (inv s).set i (os d a)) pl kr := by
  obtain ⟨g, pg, qg⟩ := hg
  have hb' : PSs X body fun D σ H => ∃ G0 v0 s b, rdX X (u b ((inv s).set i (pin G0 v0 d a))) (wB X W (f s b) (fun s' => (inv s').set i (pin G0 v0 d a)) (fun s' => (inv s').set i (pin G0 v0 d a)) kr) D σ H :=
    ⟨fun pins s σ H D I ⟨G0, v0, s', b, q⟩ => (hb G0 v0 s' b).run pins s σ H D I q⟩
  refine PS_imp (ps_for hp hc hi pg hb' hse) fun D σ H ⟨B, F0, F, Gs, A, q⟩ => ?_
  obtain ⟨G, v, hG, hσ, r⟩ := all3_os A.all hs
  have hm := List.mem_of_getElem? hG
  have sG := A.sub G hm
  have slF : Sl X.K (join F G) H (ss.set i (fr a)) σ := by
    have := (A.sl.mono (F' := join F G) join_l (Same.refl H)).set (s := fr a) (o := some v) ⟨v, rfl, d.view r join_l (join_r A.ext.sub sG)⟩ i
    rw [set_self hσ] at this
    exact this
  refine ⟨join F G, join_le A.ext.sub sG, slF, wpS_R (wpS_bind q) A.base fun xs q J H1 F1 s1 ex1 it => ?_⟩
  -- what it owns apart
  have exM : Ext F H (fun c => if G c = none then F1 c else none) H1 := by
    refine ⟨fun c u z => ?_, fun c u z => ?_, fun c u z => ?_⟩
    · have : G c = none := by
        cases e : G c with
        | none => rfl
        | some w => rw [(A.priv G hm c w e).2.2.1] at z; cases z
      exact (if_pos this).trans (ex1.le _ _ (join_l _ _ z))
    · by_cases h : G c = none
      · have z : (if G c = none then F1 c else none) = some u := z
        rw [if_pos h] at z; exact ex1.sub _ _ z
      · have z : (if G c = none then F1 c else none) = some u := z
        rw [if_neg h] at z; cases z
    · by_cases h : G c = none
      · have z : (if G c = none then F1 c else none) = some u := z
        rw [if_pos h] at z
        rcases ex1.new c u z with y | y
        · rcases join_or y with y | y
          · exact .inl y
          · rw [h] at y; cases y
        · exact .inr y
      · have z : (if G c = none then F1 c else none) = some u := z
        rw [if_neg h] at z; cases z
  have A1 := A.grow s1 exM
  have A1' : Asn X.K B F0 ((inv s0).set i (pin G v d a)) σ H1 (fun c => if G c = none then F1 c else none) Gs := by
    have a2 := ((A1.all.any i).wk h0).set (s := pin G v d a) (G := G) (o := some v) ⟨rfl, Same.refl G, d.mF exM.le r⟩ i
    rw [set_self hG, set_self hσ, List.set_set] at a2
    exact ⟨A1.ext, A1.base, a2, A1.priv, A1.dj⟩
  have up : ∀ {F2 H2 : Hp} {G2 : Hp}, Same (fun c => if G c = none then F1 c else none) F2 → Same F2 H2 → Same G G2 → Same G2 H2 → Same F1 H2 := fun {F2 H2 G2} a b c' e c u z => by
    by_cases h : G c = none
    · exact b _ _ (a _ _ ((if_pos h).trans z))
    · cases eg : G c with
      | none => exact (h eg).elim
      | some w =>
        have h1 := ex1.sub _ _ z
        have h2 := s1 _ _ (sG _ _ eg)
        rw [h1] at h2
        rw [h2]
        exact e _ _ (c' _ _ eg)
  refine ⟨fun k n σ H2 => k + n = xs.length ∧ ∃ s F2 Gs2, Same (fun c => if G c = none then F1 c else none) F2 ∧ Asn X.K B F0 ((inv s).set i (pin G v d a)) σ H2 F2 Gs2 ∧ wpS X W (loopO f s (xs.drop k)) B fun o => match o with
      | .nx s => NxOk X ((inv s).set i (os d a)) D B F0
      | .rt r => RtOk X kr r D B F0
      | .bk l => BkOk X (pl l) D B F0
      | .ct l => CtOk X (pl l) D B F0, ⟨xs.length, by omega, s0, _, Gs, Same.refl _, A1', q⟩, fun k n σ2 H2 ⟨hn, s, F2, Gs2, sF2, A2, q2⟩ => ?_⟩
  have get_i : ∀ s, ((inv s).set i (pin G v d a))[i]? = some (pin G v d a) := fun s => List.getElem?_set_self (Nat.le_of_ble_eq_true (hl s))
  have unpin : ∀ {s σ H F Gs}, Asn X.K B F0 ((inv s).set i (pin G v d a)) σ H F Gs → Asn X.K B F0 ((inv s).set i (os d a)) σ H F Gs := fun {s σ H F Gs} A => by
    have := A.at (t := os d a) (get_i s) fun G o ⟨e, g, r⟩ => ⟨v, e, d.mG g r⟩
    rw [List.set_set] at this
    exact this
  obtain ⟨G2, o2, hG2, hσ2, e2, g2, r2⟩ := A2.all.get (get_i s)
  have sF1 : Same F1 H2 := up sF2 A2.ext.sub g2 (A2.sub G2 (List.mem_of_getElem? hG2))
  by_cases hlt : k < xs.length
  · refine .inr ?_
    have hx : xs[k]? = some xs[k] := List.getElem?_eq_getElem hlt
    obtain ⟨hgo, hy⟩ := it.go k H2 H2 xs[k] sF1 (Same.refl H2) hx
    rw [List.drop_eq_getElem_cons hlt] at q2
    have q2 := wpS_bind (show wpS X W ((f s xs[k]).bind _) B _ from q2)
    refine ⟨hgo, fun σ' H' => ∃ s' F3 Gs3, Same (fun c => if G c = none then F1 c else none) F3 ∧ Asn X.K B F0 ((inv s').set i (pin G v d a)) σ' H' F3 Gs3 ∧ wpS X W (loopO f s' (xs.drop (k + 1))) B fun o => match o with
      | .nx s => NxOk X ((inv s).set i (os d a)) D B F0
      | .rt r => RtOk X kr r D B F0
      | .bk l => BkOk X (pl l) D B F0
      | .ct l => CtOk X (pl l) D B F0, fun σ' H' ⟨s', F3, Gs3, sF3, A3, q3⟩ => ⟨n - 1, by omega, by omega, s', F3, Gs3, sF3, A3, q3⟩, fun v' H' y => ?_⟩
    obtain ⟨s3, F3, ex3, r3⟩ := hy v' H' y
    have A3 := A2.grow (F' := join F2 (tups H')) s3 (ext_imm A2.ext.sub s3)
    have r3' : Enc.rep X.K (join F2 (tups H')) v' xs[k] := Enc.mono ((tups_mono ex3.sub).trans (join_r (A2.ext.sub.trans s3) (tups_le H'))) (Imm.imm r3)
    -- what stays of the frame through the body
    have A4 : Asn X.K B (join F2 (tups H')) ((inv s).set i (pin G v d a)) σ2 H' (join F2 (tups H')) Gs2 := ⟨⟨Same.refl _, A3.ext.sub, fun _ _ h => .inl h⟩, A3.base, A3.all, A3.priv, A3.dj⟩
    have back : ∀ {F5 H5 : Hp}, Ext (join F2 (tups H')) B F5 H5 → Ext F0 B F5 H5 := fun {F5 H5} ex => ⟨A3.ext.le.trans ex.le, ex.sub, fun c u z => (ex.new c u z).elim (A3.ext.new c u) .inr⟩
    have backA : ∀ {ss σ H5 F5 Gs5}, Asn X.K B (join F2 (tups H')) ss σ H5 F5 Gs5 → Asn X.K B F0 ss σ H5 F5 Gs5 := fun {ss σ H5 F5 Gs5} a => ⟨back a.ext, a.base, a.all, a.priv, a.dj⟩
    have keep : ∀ {ss σ H5 F5 Gs5}, Asn X.K B (join F2 (tups H')) ss σ H5 F5 Gs5 → Same (fun c => if G c = none then F1 c else none) F5 := fun {ss σ H5 F5 Gs5} a => sF2.trans (join_l.trans a.ext.le)
    refine qg xs[k] v' B (join F2 (tups H')) (join F2 (tups H')) H' Gs2 _ σ2 _ A4 r3' fun σ4 Gs4 A5 => ⟨G, v, s, xs[k], B, join F2 (tups H'), _, Gs4, A5, wpS_imp q2 fun o q5 => ?_⟩
    cases o with
    | nx s' => exact fun σ' H' F' Gs' A' => ⟨s', F', Gs', keep A', backA A', q5⟩
    | ct s' => exact fun σ' H' F' Gs' A' => ⟨s', F', Gs', keep A', backA A', q5⟩
    | bk s' => exact fun σ' H' F' Gs' A' => q5 σ' H' F' Gs' (unpin (backA A'))
    | rt r => exact fun v H' F' G' a b c d => q5 v H' F' G' a (back b) c d
  · have e : xs.drop k = [] := List.drop_eq_nil_iff.mpr (by omega)
    rw [e] at q2
    exact .inl ⟨it.stop k H2 H2 sF1 (Same.refl H2) (by omega), q2 σ2 H2 F2 Gs2 (unpin A2)⟩
theorem s1_forP (i : Nat) {S α β : Type} [Enc α] [Enc β] [Imm β] {d : Ow α} {a : α} {iter : Expr} {body : List Stmt} {u : β → List Slot → List Slot} {m : Res (List β)} {f : S → β → Res S} (inv : S → List Slot) (s0 : S)
    (hi : XIt X W (ss.set i (fr a)) tg iter m) (hg : Tg X tg u) (hl : ∀ s, Nat.blt i (inv s).length = true := by intro _; rfl)
    (hb : ∀ G0 v0 s b, SN X W (u b ((inv s).set i (pin G0 v0 d a))) body (f s b) (fun s' => (inv s').set i (pin G0 v0 d a)))
    (hs : ss[i]? = some (os d a) := by rfl) (h0 : Wk (ss.set i any) ((inv s0).set i any) := by exact Wk.refl _)
    (hp : PassesOwn (model X.prog X.w) X.A X.env X.xe := by exact passes_of rfl) (hc : X.calm = true := by rfl) (hse : ∀ x, foldedSetIterable iter X.env x = pure x := by intro _; rfl) :
    S1 X W ss (.For tg iter body [] pos) (m.bind fun xs => foldR f s0 xs) (fun s => (inv s).set i (os d a)) := by
  refine s1_of_b1 ?_
  have := b1_forP (L := Empty) (R := Unit) (pl := fun x => nomatch x) (kr := fun _ => any) (f := fun s a => (f s a).bind fun s' => .ok (.nx s')) (pos := pos) i inv s0 hi hg hl (fun G0 v0 s b => sb_of_sn (hb G0 v0 s b)) hs h0 hp hc hse
  rw [Res.bind_assoc]
  have e : (fun xs => loopO (L := Empty) (R := Unit) (fun s a => (f s a).bind fun s' => .ok (.nx s')) s0 xs) = fun xs => (foldR f s0 xs).bind fun s => .ok (.nx s) := funext fun xs => loopO_fold f xs s0
  rw [← e]
  exact this
end
end G

namespace G
open PySem PySem.Spec PyProof.Rows L2
section
variable {X : Cx} {W : WX} {ss : List Slot} {tg elt iter : Expr} {scope : Scope} {own : List (Str × Nat)} {pos : Pos}
theorem lcR_noX {α β : Type} {p : α → Res Bool} {gg : α → Res β} : ∀ (l : List α) (x : Exn), lcR p gg l ≠ .exc x := by
  intro l
  induction l with
  | nil => intro x h; cases h
  | cons a as ih =>
    intro x h
    unfold lcR at h
    split at h
    · split at h
      · cases e2 : lcR p gg as with
        | ok bs => rw [e2] at h; cases h
        | exc y => exact ih y e2
        | stuck => rw [e2] at h; cases h
      · cases h
    · exact ih x h
    · cases h
/-- a comprehension whose items are one's own -/
theorem lc_readO {α β : Type} [Enc α] [Enc β] {d : Ow β} {vs : List Nat} {u : α → List Slot → List Slot} {m : Res (List α)} {p : α → Res Bool} {gg : α → Res β} {g : TG}
    (qg : ∀ (a : α) (v : V) (F H : Hp) (ss : List Slot) (σ : L2.St) (Q : L2.St → Hp → Prop), Sl X.K F H ss σ → Same F H → Enc.rep X.K F v a → (∀ σ', Sl X.K F H (u a ss) σ' → L2.wipe σ' vs = L2.wipe σ vs → Q σ' H) → g v σ H Q)
    {σ : L2.St} {H : Hp} {Q : VK} {F : Hp} (sf : Same F H) (sl : Sl X.K F H ss σ)
    (q : wpR X W (m.bind fun xs => lcT p gg xs) σ H fun a => ∀ v H' F' G', Same H H' → Ext F H F' H' → Priv G' H F' H' → (os (lsO d) a).P X.K F' G' (some v) → Q v H') :
    tLc (rdPI X W ss m) g (fun σ H Q => ∃ a, rT X WF (u a (wipeS ss vs)) (p a) σ H Q) (fun σ H Q => ∃ a, rK X WF (u a (wipeS ss vs)) (gg a) (os d) σ H Q) vs σ H Q := by
  refine ⟨F, sf, sl, wpR_imp (wpR_bind q) (Same.refl H) fun xs q J H1 F1 s1 ex1 it D nD => ?_⟩
  obtain ⟨hlen, q⟩ := wpR_guard q
  have hlen : xs.length ≤ 1000000 := of_decide_eq_true hlen
  have nF1 : F1 D = none := Same.free ex1.sub nD
  obtain ⟨bs, ebs⟩ : ∃ bs, lcR p gg xs = .ok bs := by
    cases e : lcR p gg xs with
    | ok bs => exact ⟨bs, rfl⟩
    | stuck => rw [e] at q; exact q.elim
    | exc x => exact (lcR_noX xs x e).elim
  rw [ebs] at q
  refine ⟨fun i n H => i + n = xs.length ∧ ∃ acc F2 done left gs, H D = some (.lst acc) ∧ acc.length ≤ i ∧ Same H1 H ∧ Ext F1 H1 F2 H ∧ F2 D = none ∧ AllO (d.own X.K F2) acc gs done ∧ (∀ g ∈ gs, Priv g H1 F2 H ∧ g D = none) ∧ gs.Pairwise Dj ∧ lcR p gg (xs.drop i) = .ok left ∧ bs = done ++ left,
    ⟨xs.length, by omega, [], F1, [], bs, [], upd_same, Nat.le_refl _, same_upd nD, ⟨Same.refl _, ex1.sub.trans (same_upd nD), fun _ _ h => .inl h⟩, nF1, trivial, (fun _ m => by cases m), .nil, ebs, rfl⟩, fun i n H2 ⟨hn, acc, F2, done, left, gs, hD, hacc, s2, ex2, nF2, ra, hg, pw, el, eb⟩ => ?_⟩
  by_cases hlt : i < xs.length
  · refine .inr ?_
    have hx : xs[i]? = some xs[i] := List.getElem?_eq_getElem hlt
    obtain ⟨hgo, hy⟩ := it.go i F2 H2 xs[i] ex2.le ex2.sub hx
    rw [List.drop_eq_getElem_cons hlt] at el
    unfold lcR at el
    refine ⟨hgo, fun H' => ∃ acc F2 done left gs, H' D = some (.lst acc) ∧ acc.length ≤ i + 1 ∧ Same H1 H' ∧ Ext F1 H1 F2 H' ∧ F2 D = none ∧ AllO (d.own X.K F2) acc gs done ∧ (∀ g ∈ gs, Priv g H1 F2 H' ∧ g D = none) ∧ gs.Pairwise Dj ∧ lcR p gg (xs.drop (i + 1)) = .ok left ∧ bs = done ++ left,
      fun H' x => ⟨n - 1, by omega, by omega, x⟩, fun v H' y => ?_⟩
    obtain ⟨s3, F3, ex3, r3⟩ := hy v H' y
    have keepD : ∀ {Fa Fb Ha Hb : Hp}, Fa D = none → Ext Fa Ha Fb Hb → Ha D = some (.lst acc) → Same Ha Hb → Fb D = none := fun {Fa Fb Ha Hb} n0 ex hh ss => by
      cases e : Fb D with
      | none => rfl
      | some w =>
        rcases ex.new D w e with z | z | z
        · rw [n0] at z; cases z
        · rw [hh] at z; cases z
        · have t := ex.sub _ _ e
          rw [ss _ _ hh] at t; cases t; cases z
    -- what is owned stays so
    have keepG : ∀ {g Fa Fb Ha Hb : Hp}, Priv g H1 Fa Ha → Ext Fa Ha Fb Hb → Same Ha Hb → Priv g H1 Fb Hb := fun {g Fa Fb Ha Hb} pr ex ss c w z => by
      obtain ⟨k1, k2, k3, k4⟩ := pr c w z
      refine ⟨ss _ _ k1, k2, ?_, k4⟩
      cases e : Fb c with
      | none => rfl
      | some y =>
        rcases ex.new c y e with z | z | z
        · rw [k3] at z; cases z
        · rw [k1] at z; cases z
        · have t := ex.sub _ _ e
          rw [ss _ _ k1] at t; cases t
          rw [k4] at z; cases z
    have nF3 := keepD nF2 ex3 hD s3
    have hD3 := s3 _ _ hD
    have slW : Sl X.K F3 H' (wipeS ss vs) (L2.wipe σ vs) := (sl.wipe vs).mono (ex1.le.trans (ex2.le.trans ex3.le)) (s1.trans (s2.trans s3))
    refine qg xs[i] v F3 H' (wipeS ss vs) (L2.wipe σ vs) _ slW ex3.sub r3 fun σ4 sl4 e4 => ⟨e4.trans (wipe_self vs vs σ fun _ m => m), xs[i], sl4.mono ex3.sub (Same.refl H'), ?_⟩
    cases ep : p xs[i] with
    | stuck => rw [ep] at el; cases el
    | exc x => rw [ep] at el; cases el
    | ok b =>
      rw [ep] at el
      intro H5 s5
      have ex5 : Ext F3 H' F3 H5 := ⟨Same.refl _, ex3.sub.trans s5, fun _ _ h => .inl h⟩
      have exF : Ext F1 H1 F3 H5 := ex2.trans s2 (ex3.trans s3 ex5)
      have hg5 : ∀ g ∈ gs, Priv g H1 F3 H5 ∧ g D = none := fun g m => ⟨keepG (keepG (hg g m).1 ex3 s3) ex5 s5, (hg g m).2⟩
      cases b with
      | false =>
        rw [if_neg Bool.false_ne_true]
        exact ⟨acc, F3, done, left, gs, s5 _ _ hD3, Nat.le_succ_of_le hacc, s2.trans (s3.trans s5), exF, nF3, ra.imp fun _ _ _ z => d.mF ex3.le z, hg5, pw, el, eb⟩
      | true =>
        rw [if_pos rfl]
        refine ⟨xs[i], F3, ex5.sub, sl4.mono (Same.refl F3) s5, ?_⟩
        cases eg : gg xs[i] with
        | stuck => rw [eg] at el; cases el
        | exc x => rw [eg] at el; cases el
        | ok b =>
          rw [eg] at el
          intro y H6 F6 G6 s6 ex6 pr6 ⟨y', e6, r6⟩
          cases e6
          have hD5 := s5 _ _ hD3
          have nF6 := keepD nF3 ex6 hD5 s6
          have hD6 := s6 _ _ hD5
          obtain ⟨left', el'⟩ : ∃ l, lcR p gg (xs.drop (i + 1)) = .ok l := by
            cases e7 : lcR p gg (xs.drop (i + 1)) with
            | ok l => exact ⟨l, rfl⟩
            | exc x => rw [e7] at el; cases el
            | stuck => rw [e7] at el; cases el
          rw [el'] at el
          have el2 : b :: left' = left := by injection el
          have nD1 : H1 D = none := nD
          have nG6 : G6 D = none := by
            cases e : G6 D with
            | none => rfl
            | some w => rw [(pr6 D w e).2.1] at hD5; cases hD5
          have sU : Same H1 (upd H6 D (.lst (acc ++ [y]))) := fun c w z => by
            rw [upd_ne (fun e => by rw [e, nD1] at z; cases z)]
            exact s6 _ _ (s5 _ _ (s3 _ _ (s2 _ _ z)))
          refine ⟨acc, hD6, Nat.lt_of_le_of_lt (by omega : acc.length ≤ 1000000) (by decide), acc ++ [y], F6, done ++ [b], left', gs ++ [G6], upd_same, by rw [List.length_append, List.length_singleton]; omega, sU, ⟨exF.le.trans ex6.le, fun c w z => ?_, fun c w z => ?_⟩, nF6, (ra.imp fun _ _ _ z => d.mF (ex3.le.trans ex6.le) z).append (as' := [b]) ⟨r6, trivial⟩, fun g mg => ?_, ?_, el', by rw [eb, ← el2]; simp⟩
          · rw [upd_ne (fun e => by rw [e, nF6] at z; cases z)]
            exact ex6.sub _ _ z
          · rcases ex6.new c w z with z | z | z
            · exact exF.new c w z
            · exact .inr (.inl (Same.free (s2.trans (s3.trans s5)) z))
            · exact .inr (.inr z)
          · have up : ∀ {g : Hp}, Priv g H1 F6 H6 → g D = none → Priv g H1 F6 (upd H6 D (.lst (acc ++ [y]))) ∧ g D = none := fun {g} pr gd => ⟨fun c w z => by
              obtain ⟨k1, k2, k3, k4⟩ := pr c w z
              exact ⟨by rw [upd_ne (fun e => by rw [e, gd] at z; cases z)]; exact k1, k2, k3, k4⟩, gd⟩
            rcases List.mem_append.mp mg with mg | mg
            · exact up (keepG (hg5 g mg).1 ex6 s6) (hg5 g mg).2
            · cases List.mem_singleton.mp mg
              exact up (fun c w z => by
                obtain ⟨k1, k2, k3, k4⟩ := pr6 c w z
                exact ⟨k1, Same.free (s2.trans (s3.trans s5)) k2, k3, k4⟩) nG6
          · refine List.pairwise_append.mpr ⟨pw, List.pairwise_singleton _ _, fun g mg g' m' c => ?_⟩
            cases List.mem_singleton.mp m'
            cases e : g c with
            | none => exact .inl rfl
            | some w =>
              refine .inr ?_
              have := ((hg5 g mg).1 c w e).1
              cases e2 : G6 c with
              | none => rfl
              | some y => rw [(pr6 c y e2).2.1] at this; cases this
  · refine .inl ⟨it.stop i F2 H2 ex2.le ex2.sub (by omega), ?_⟩
    rw [List.drop_eq_nil_iff.mpr (by omega)] at el
    have e0 : ([] : List β) = left := by injection el
    subst e0
    rw [List.append_nil] at eb
    subst eb
    have nH : H D = none := Same.free s1 nD
    -- all that is owned
    refine q (.ref D) H2 F2 (fun c => if c = D then some (.lst acc) else if ∃ g ∈ gs, g c ≠ none then H2 c else none) (s1.trans s2) (ex1.trans s1 ex2) (fun c w z => ?_) ⟨.ref D, rfl, D, acc, gs, rfl, if_pos rfl, fun g mg => ⟨fun c w z => ?_, (hg g mg).2⟩, pw, ra⟩
    · by_cases e : c = D
      · subst e
        have z : some (HO.lst acc) = some w := (if_pos rfl).symm.trans z
        cases z
        exact ⟨hD, nH, nF2, rfl⟩
      · have z : (if ∃ g ∈ gs, g c ≠ none then H2 c else none) = some w := (if_neg e).symm.trans z
        by_cases h : ∃ g ∈ gs, g c ≠ none
        · rw [if_pos h] at z
          obtain ⟨g, mg, hgc⟩ := h
          cases eg : g c with
          | none => exact (hgc eg).elim
          | some y =>
            obtain ⟨k1, k2, k3, k4⟩ := (hg g mg).1 c y eg
            rw [z] at k1; cases k1
            exact ⟨z, Same.free s1 k2, k3, k4⟩
        · rw [if_neg h] at z; cases z
    · have hc : c ≠ D := fun e => by rw [e, (hg g mg).2] at z; cases z
      have := ((hg g mg).1 c w z).1
      exact (if_neg hc).trans ((if_pos ⟨g, mg, by rw [z]; exact fun h => nomatch h⟩).trans this)
theorem xk_lcO {α β : Type} [Enc α] [Enc β] {d : Ow β} {u : α → List Slot → List Slot} {m : Res (List α)} {gg : α → Res β} (hi : XIt X W ss tg iter m) (hg : TgC X scope (own.map (·.2)) tg u)
    (he : ∀ a s H C cl fp, XK (X.blk s H scope (compEnvC scope cl C X.env) fp) WF (u a (wipeS ss (own.map (·.2)))) elt (gg a) (os d)) (hN : X.N.Nodup) (ok : BlkOk X.N X.env.scope scope own) (hc : X.calm = true := by rfl) (hs : ∀ x, foldedSetIterable iter X.env x = pure x := by intro _; rfl) :
    XK X W ss (.ListComp elt [⟨tg, iter, [], 0⟩] scope pos) (m.bind fun xs => lcT (fun _ => .ok true) gg xs) (os (lsO d)) := by
  obtain ⟨g, pg, qg⟩ := hg
  have he' : ∀ (s : Shared) (H : Hp) (C : Addr) (cl : List (Str × Addr)) (fp : List Addr), PE (X.blk s H scope (compEnvC scope cl C X.env) fp) elt (fun σ H Q => ∃ a, rK X WF (u a (wipeS ss (own.map (·.2)))) (gg a) (os d) σ H Q) := fun s H C cl fp =>
    ⟨fun pins s' σ H' Q I ⟨a, q⟩ => (he a s H C cl fp).run pins s' σ H' Q I q⟩
  have ht' : ∀ (s : Shared) (H : Hp) (C : Addr) (cl : List (Str × Addr)) (fp : List Addr), PTs (X.blk s H scope (compEnvC scope cl C X.env) fp) [] (fun σ H Q => ∃ a, rT X WF (u a (wipeS ss (own.map (·.2)))) ((fun _ => .ok true : α → Res Bool) a) σ H Q) := fun s H C cl fp =>
    ⟨fun pins s' σ H' Q I ⟨a, sl, q⟩ => pts_nil.run pins s' σ H' Q I (q H' (Same.refl H'))⟩
  exact PE_imp (pe_lc hc hN hi ok pg ht' he' hs) fun σ H Q ⟨F, sf, sl, q⟩ => lc_readO qg sf sl q
theorem xk_lcOIf {α β : Type} [Enc α] [Enc β] {d : Ow β} {cond : Expr} {u : α → List Slot → List Slot} {m : Res (List α)} {p : α → Res Bool} {gg : α → Res β} (hi : XIt X W ss tg iter m) (hg : TgC X scope (own.map (·.2)) tg u)
    (ht : ∀ a s H C cl fp, XT (X.blk s H scope (compEnvC scope cl C X.env) fp) WF (u a (wipeS ss (own.map (·.2)))) cond (p a))
    (he : ∀ a s H C cl fp, XK (X.blk s H scope (compEnvC scope cl C X.env) fp) WF (u a (wipeS ss (own.map (·.2)))) elt (gg a) (os d)) (hN : X.N.Nodup) (ok : BlkOk X.N X.env.scope scope own) (hc : X.calm = true := by rfl) (hs : ∀ x, foldedSetIterable iter X.env x = pure x := by intro _; rfl) :
    XK X W ss (.ListComp elt [⟨tg, iter, [cond], 0⟩] scope pos) (m.bind fun xs => lcT p gg xs) (os (lsO d)) := by
  obtain ⟨g, pg, qg⟩ := hg
  have he' : ∀ (s : Shared) (H : Hp) (C : Addr) (cl : List (Str × Addr)) (fp : List Addr), PE (X.blk s H scope (compEnvC scope cl C X.env) fp) elt (fun σ H Q => ∃ a, rK X WF (u a (wipeS ss (own.map (·.2)))) (gg a) (os d) σ H Q) := fun s H C cl fp =>
    ⟨fun pins s' σ H' Q I ⟨a, q⟩ => (he a s H C cl fp).run pins s' σ H' Q I q⟩
  have ht0 : ∀ (s : Shared) (H : Hp) (C : Addr) (cl : List (Str × Addr)) (fp : List Addr), PT (X.blk s H scope (compEnvC scope cl C X.env) fp) cond (fun σ H Q => ∃ a, rT X WF (u a (wipeS ss (own.map (·.2)))) (p a) σ H Q) := fun s H C cl fp =>
    ⟨fun pins s' σ H' Q I ⟨a, q⟩ => (ht a s H C cl fp).run pins s' σ H' Q I q⟩
  exact PE_imp (pe_lc hc hN hi ok pg (fun s H C cl fp => pts_one (ht0 s H C cl fp)) he' hs) fun σ H Q ⟨F, sf, sl, q⟩ => lc_readO qg sf sl q
/-- name = [..] on one line, its items one's own -/
theorem s1_lcO (i : Nat) {α β : Type} [Enc α] [Enc β] {d : Ow β} {y : Str} {py spos : Pos} {u : α → List Slot → List Slot} {m : Res (List α)} {gg : α → Res β} (hi : XIt X W ss tg iter m) (hg : TgC X scope (own.map (·.2)) tg u)
    (he : ∀ a s H C cl fp, XK (X.blk s H scope (compEnvC scope cl C X.env) fp) WF (u a (wipeS ss (own.map (·.2)))) elt (gg a) (os d)) (hN : X.N.Nodup) (ok : BlkOk X.N X.env.scope scope own) (hsw : swapsWith (.ListComp elt [⟨tg, iter, [], 0⟩] scope pos) (some (.Name y py)) spos.line X.env = pure true)
    (hy : X.N[i]? = some y := by rfl) (hyl : X.env.scope.names.lookup y = some .local := by rfl) (hc : X.calm = true := by rfl) (hs : ∀ x, foldedSetIterable iter X.env x = pure x := by intro _; rfl) :
    S1 X W ss (.Assign [.Name y py] (.ListComp elt [⟨tg, iter, [], 0⟩] scope pos) spos) (m.bind fun xs => lcT (fun _ => .ok true) gg xs) (fun bs => ss.set i (os (lsO d) bs)) := by
  obtain ⟨g, pg, qg⟩ := hg
  have he' : ∀ (s : Shared) (H : Hp) (C : Addr) (cl : List (Str × Addr)) (fp : List Addr), PE (X.blk s H scope (compEnvC scope cl C X.env) fp) elt (fun σ H Q => ∃ a, rK X WF (u a (wipeS ss (own.map (·.2)))) (gg a) (os d) σ H Q) := fun s H C cl fp =>
    ⟨fun pins s' σ H' Q I ⟨a, q⟩ => (he a s H C cl fp).run pins s' σ H' Q I q⟩
  have ht' : ∀ (s : Shared) (H : Hp) (C : Addr) (cl : List (Str × Addr)) (fp : List Addr), PTs (X.blk s H scope (compEnvC scope cl C X.env) fp) [] (fun σ H Q => ∃ a, rT X WF (u a (wipeS ss (own.map (·.2)))) ((fun _ => .ok true : α → Res Bool) a) σ H Q) := fun s H C cl fp =>
    ⟨fun pins s' σ H' Q I ⟨a, sl, q⟩ => pts_nil.run pins s' σ H' Q I (q H' (Same.refl H'))⟩
  refine PS_imp (ps_setLc hc hN hy hyl hsw hi ok pg ht' he' hs) fun D σ H ⟨B, F0, F, Gs, A, q⟩ => lc_readO qg A.ext.sub A.sl (wpS_R q A.base fun a q v H' F' G' s ex pr k => ?_)
  exact q _ H' F' _ (A.set (s := os (lsO d) a) s ex pr k i)
/-! .. over what is one's own and stays -/
theorem s1_lcV (i : Nat) {ts : List Slot} {α β : Type} [Enc α] [Enc β] [Imm β] {y : Str} {py spos : Pos} {u : α → List Slot → List Slot} {m : Res (List α)} {gg : α → Res β} (w : Vw ss ts) (hi : XIt X W ts tg iter m) (hg : TgC X scope (own.map (·.2)) tg u)
    (he : ∀ a s H C cl fp, XK (X.blk s H scope (compEnvC scope cl C X.env) fp) WF (u a (wipeS ts (own.map (·.2)))) elt (gg a) fr) (hN : X.N.Nodup) (ok : BlkOk X.N X.env.scope scope own) (hsw : swapsWith (.ListComp elt [⟨tg, iter, [], 0⟩] scope pos) (some (.Name y py)) spos.line X.env = pure true)
    (hy : X.N[i]? = some y := by rfl) (hyl : X.env.scope.names.lookup y = some .local := by rfl) (hc : X.calm = true := by rfl) (hs : ∀ x, foldedSetIterable iter X.env x = pure x := by intro _; rfl) :
    S1 X W ss (.Assign [.Name y py] (.ListComp elt [⟨tg, iter, [], 0⟩] scope pos) spos) (m.bind fun xs => lcT (fun _ => .ok true) gg xs) (fun bs => ss.set i (ow bs)) := by
  obtain ⟨g, pg, qg⟩ := hg
  have he' : ∀ (s : Shared) (H : Hp) (C : Addr) (cl : List (Str × Addr)) (fp : List Addr), PE (X.blk s H scope (compEnvC scope cl C X.env) fp) elt (fun σ H Q => ∃ a, rK X WF (u a (wipeS ts (own.map (·.2)))) (gg a) fr σ H Q) := fun s H C cl fp =>
    ⟨fun pins s' σ H' Q I ⟨a, q⟩ => (he a s H C cl fp).run pins s' σ H' Q I q⟩
  have ht' : ∀ (s : Shared) (H : Hp) (C : Addr) (cl : List (Str × Addr)) (fp : List Addr), PTs (X.blk s H scope (compEnvC scope cl C X.env) fp) [] (fun σ H Q => ∃ a, rT X WF (u a (wipeS ts (own.map (·.2)))) ((fun _ => .ok true : α → Res Bool) a) σ H Q) := fun s H C cl fp =>
    ⟨fun pins s' σ H' Q I ⟨a, sl, q⟩ => pts_nil.run pins s' σ H' Q I (q H' (Same.refl H'))⟩
  refine PS_imp (ps_setLc hc hN hy hyl hsw hi ok pg ht' he' hs) fun D σ H ⟨B, F0, F, Gs, A, q⟩ => lc_read qg (Same.refl H) ((A.sl.mono A.ext.sub (Same.refl H)).vw w) (wpS_R q A.base fun a q v H' F' G' s ex pr k => ?_)
  obtain ⟨x1, x2, x3⟩ := imm_back (kd := ow) A.ext.sub s ex pr k
  exact q _ H' _ _ (A.set (s := ow a) s x1 x2 x3 i)
theorem s1_lcVO (i : Nat) {ts : List Slot} {α β : Type} [Enc α] [Enc β] {d : Ow β} [ImmO d] {y : Str} {py spos : Pos} {u : α → List Slot → List Slot} {m : Res (List α)} {gg : α → Res β} (w : Vw ss ts) (hi : XIt X W ts tg iter m) (hg : TgC X scope (own.map (·.2)) tg u)
    (he : ∀ a s H C cl fp, XK (X.blk s H scope (compEnvC scope cl C X.env) fp) WF (u a (wipeS ts (own.map (·.2)))) elt (gg a) (os d)) (hN : X.N.Nodup) (ok : BlkOk X.N X.env.scope scope own) (hsw : swapsWith (.ListComp elt [⟨tg, iter, [], 0⟩] scope pos) (some (.Name y py)) spos.line X.env = pure true)
    (hy : X.N[i]? = some y := by rfl) (hyl : X.env.scope.names.lookup y = some .local := by rfl) (hc : X.calm = true := by rfl) (hs : ∀ x, foldedSetIterable iter X.env x = pure x := by intro _; rfl) :
    S1 X W ss (.Assign [.Name y py] (.ListComp elt [⟨tg, iter, [], 0⟩] scope pos) spos) (m.bind fun xs => lcT (fun _ => .ok true) gg xs) (fun bs => ss.set i (os (lsO d) bs)) := by
  obtain ⟨g, pg, qg⟩ := hg
  have he' : ∀ (s : Shared) (H : Hp) (C : Addr) (cl : List (Str × Addr)) (fp : List Addr), PE (X.blk s H scope (compEnvC scope cl C X.env) fp) elt (fun σ H Q => ∃ a, rK X WF (u a (wipeS ts (own.map (·.2)))) (gg a) (os d) σ H Q) := fun s H C cl fp =>
    ⟨fun pins s' σ H' Q I ⟨a, q⟩ => (he a s H C cl fp).run pins s' σ H' Q I q⟩
  have ht' : ∀ (s : Shared) (H : Hp) (C : Addr) (cl : List (Str × Addr)) (fp : List Addr), PTs (X.blk s H scope (compEnvC scope cl C X.env) fp) [] (fun σ H Q => ∃ a, rT X WF (u a (wipeS ts (own.map (·.2)))) ((fun _ => .ok true : α → Res Bool) a) σ H Q) := fun s H C cl fp =>
    ⟨fun pins s' σ H' Q I ⟨a, sl, q⟩ => pts_nil.run pins s' σ H' Q I (q H' (Same.refl H'))⟩
  refine PS_imp (ps_setLc hc hN hy hyl hsw hi ok pg ht' he' hs) fun D σ H ⟨B, F0, F, Gs, A, q⟩ => lc_readO qg (Same.refl H) ((A.sl.mono A.ext.sub (Same.refl H)).vw w) (wpS_R q A.base fun a q v H' F' G' s ex pr k => ?_)
  obtain ⟨x1, x2, x3⟩ := imm_back (kd := os (lsO d)) A.ext.sub s ex pr k
  exact q _ H' _ _ (A.set (s := os (lsO d) a) s x1 x2 x3 i)
end
end G

namespace G
open PySem PySem.Spec PyProof.Rows L2
section
variable {X : Cx} {W : WX} {ss : List Slot} {pos : Pos} {a b : Expr}
/-! ### items of what nobody changes, kept -/
theorem xk_ixL {α : Type} [Enc α] {m1 : Res (List α)} {m2 : Res Int} (h1 : XK X W ss a m1 fr) (h2 : XI X W ss b m2) (hs : PlainIx b := by exact fun _ _ => rfl) : XK X W ss (.Subscript a b pos) (m1.bind fun xs => m2.bind fun i => idx xs i) fr := by
  refine PE_imp (pe_ix ix_list h1 h2 hs) fun σ H Q ⟨F, sf, sl, q⟩ => ⟨F, sf, sl, wpR_imp (wpR_bind q) (Same.refl H) fun xs q v H1 F1 G1 s1 ex1 _ k1 => ?_⟩
  obtain ⟨v', e1, p, vs, rfl, hp, r⟩ := k1
  cases e1
  refine ⟨(sl.mono sf (Same.refl H)).mono s1 s1, wpR_imp (wpR_bind q) s1 fun i q w H2 s2 e2 => ?_⟩
  unfold idx at q
  cases e : atI xs i with
  | none => rw [e] at q; exact q.elim
  | some x =>
    rw [e] at q
    obtain ⟨u, hu, ru⟩ := atI_all2 r e
    refine ⟨p, vs, i, u, rfl, e2, SqL.of (s2 _ _ (ex1.sub _ _ hp)), hu, ?_⟩
    exact q u H2 F1 noHp (s1.trans s2) ⟨ex1.le, ex1.sub.trans s2, ex1.new⟩ priv_no ⟨u, rfl, ru⟩
theorem xk_ixT {α : Type} [Enc α] {m1 : Res (Tup α)} {m2 : Res Int} (h1 : XK X W ss a m1 fr) (h2 : XI X W ss b m2) (hs : PlainIx b := by exact fun _ _ => rfl) : XK X W ss (.Subscript a b pos) (m1.bind fun xs => m2.bind fun i => idx xs.l i) fr := by
  refine PE_imp (pe_ix ix_tup h1 h2 hs) fun σ H Q ⟨F, sf, sl, q⟩ => ⟨F, sf, sl, wpR_imp (wpR_bind q) (Same.refl H) fun xs q v H1 F1 G1 s1 ex1 _ k1 => ?_⟩
  obtain ⟨v', e1, p, vs, rfl, hp, r⟩ := k1
  cases e1
  refine ⟨(sl.mono sf (Same.refl H)).mono s1 s1, wpR_imp (wpR_bind q) s1 fun i q w H2 s2 e2 => ?_⟩
  unfold idx at q
  cases e : atI xs.l i with
  | none => rw [e] at q; exact q.elim
  | some x =>
    rw [e] at q
    obtain ⟨u, hu, ru⟩ := atI_all2 r e
    refine ⟨p, vs, i, u, rfl, e2, seqT (ex1.sub.trans s2) hp, hu, ?_⟩
    exact q u H2 F1 noHp (s1.trans s2) ⟨ex1.le, ex1.sub.trans s2, ex1.new⟩ priv_no ⟨u, rfl, ru⟩
theorem xk_c {α β : Type} [Enc α] [Enc β] {m : Res α} {i : Int} {k : Nat} {p : Pos} {f : α → β} (h : XK X W ss a m fr) (hf : ∀ (x : α) (v : V) (H : Hp), Enc.rep X.K H v x → ∃ p vs u, v = .ref p ∧ SqT X.K H p vs ∧ atI vs i = some u ∧ Enc.rep X.K H u (f x)) :
    XK X W ss (.Subscript a (.Constant (.int i) k p) pos) (m.bind fun x => .ok (f x)) fr := by
  refine PE_imp (pe_ix ix_tup h (pe_int (i := i)) (fun _ _ => rfl)) fun σ H Q ⟨F, sf, sl, q⟩ => ⟨F, sf, sl, wpR_imp (wpR_bind q) (Same.refl H) fun x q v H1 F1 G1 s1 ex1 _ k1 => ?_⟩
  obtain ⟨v', e1, r⟩ := k1
  cases e1
  obtain ⟨p, vs, u, e, hT, hu, ru⟩ := hf x v F1 r
  exact ⟨p, vs, i, u, e, rfl, seqT ex1.sub hT, hu, q u H1 F1 noHp s1 ex1 priv_no ⟨u, rfl, ru⟩⟩
theorem xk_p1 {α β : Type} [Enc α] [Enc β] {m : Res (α × β)} {k : Nat} {p : Pos} (h : XK X W ss a m fr) : XK X W ss (.Subscript a (.Constant (.int 0) k p) pos) (m.bind fun x => .ok x.1) fr :=
  xk_c h fun _ _ _ ⟨p, v1, v2, e, hp, r1, _⟩ => ⟨p, [v1, v2], v1, e, SqT.of hp, rfl, r1⟩
theorem xk_p2 {α β : Type} [Enc α] [Enc β] {m : Res (α × β)} {k : Nat} {p : Pos} (h : XK X W ss a m fr) : XK X W ss (.Subscript a (.Constant (.int 1) k p) pos) (m.bind fun x => .ok x.2) fr :=
  xk_c h fun _ _ _ ⟨p, v1, v2, e, hp, _, r2⟩ => ⟨p, [v1, v2], v2, e, SqT.of hp, rfl, r2⟩
theorem xk_t1 {α β γ : Type} [Enc α] [Enc β] [Enc γ] {m : Res (T3 α β γ)} {k : Nat} {p : Pos} (h : XK X W ss a m fr) : XK X W ss (.Subscript a (.Constant (.int 0) k p) pos) (m.bind fun x => .ok x.a) fr :=
  xk_c h fun _ _ _ ⟨p, v1, v2, v3, e, hp, r1, _, _⟩ => ⟨p, [v1, v2, v3], v1, e, SqT.of hp, rfl, r1⟩
theorem xk_t2 {α β γ : Type} [Enc α] [Enc β] [Enc γ] {m : Res (T3 α β γ)} {k : Nat} {p : Pos} (h : XK X W ss a m fr) : XK X W ss (.Subscript a (.Constant (.int 1) k p) pos) (m.bind fun x => .ok x.b) fr :=
  xk_c h fun _ _ _ ⟨p, v1, v2, v3, e, hp, _, r2, _⟩ => ⟨p, [v1, v2, v3], v2, e, SqT.of hp, rfl, r2⟩
theorem xk_t3 {α β γ : Type} [Enc α] [Enc β] [Enc γ] {m : Res (T3 α β γ)} {k : Nat} {p : Pos} (h : XK X W ss a m fr) : XK X W ss (.Subscript a (.Constant (.int 2) k p) pos) (m.bind fun x => .ok x.c) fr :=
  xk_c h fun _ _ _ ⟨p, v1, v2, v3, e, hp, _, _, r3⟩ => ⟨p, [v1, v2, v3], v3, e, SqT.of hp, rfl, r3⟩
/-- x.extend(e), e only looked at -/
theorem s1_extI (i : Nat) {α : Type} [Enc α] [Imm α] {as : List α} {e : Expr} {m : Res (List α)} {x : Str} {p apos cpos : Pos} (h : XI X W ss e m) (hs : ss[i]? = some (ow as) := by rfl) (hp : PE X (.Name x p) (tVar i) := by exact pv _)
    (hbase : attributeBase (.Name x p) "extend" X.env (eval (.Name x p) X.env) = eval (.Name x p) X.env := by rfl)
    (hfew : ((backTo cpos (starEach [e] X.env)).all (fun x => !x.1) && (backToKw cpos (keywordEach [] X.env)).all (fun x => x.1.isSome)
      && decide (([e] : List Expr).length + ([] : List Keyword).length + (if ([] : List Keyword).isEmpty then 0 else 1) < 30)) = true := by rfl)
    (hline : (apos.endLine == cpos.line) = true := by rfl) (hst : starEach [e] X.env = (false, eval e X.env) :: starEach [] X.env := by rfl) (hplain : (backTo cpos (starEach [] X.env)).any (·.1) = false := by rfl)
    (hsw : swapsWith (.Call (.Attribute (.Name x p) "extend" apos) [e] [] cpos) none pos.line X.env = pure false := by rfl) :
    S1 X W ss (.Expr (.Call (.Attribute (.Name x p) "extend" apos) [e] [] cpos) pos) (m.bind fun ys => extR as ys) (fun as' => ss.set i (ow as')) := by
  have hx := pe_bm PySem.F.plainAttrs_list PySem.F.slot_list_extend PySem.F.type_list_extend mt_extend hp (pa_cons h pa_nil hst) hbase hfew hline hst hplain
  refine PS_imp (ps_expr hx hsw) fun D σ H ⟨B, F0, F, Gs, A, q⟩ => ?_
  obtain ⟨G, p, vs, hG, hσ, hp, r⟩ := all3_ow A.all hs
  have hH := A.sub G (List.mem_of_getElem? hG) _ _ hp
  refine ⟨.ref p, hσ, .inl ⟨rfl, vs, SqL.of hH⟩, A.sl.mono A.ext.sub (Same.refl H), wpS_R (wpS_bind q) A.base fun ys q v H' s ⟨p2, ws, e2, hp2, rv⟩ => ?_⟩
  have A' := A.grow (F' := join F (tups H')) s (ext_imm A.ext.sub s)
  unfold extR at q
  cases g : big (as.length + ys.length) with
  | false => rw [g] at q; exact q.elim
  | true =>
    rw [g] at q
    refine ⟨p, p2, vs, ws, rfl, by rw [e2], s _ _ hH, hp2, by rw [r.length, rv.length]; exact big_line g, ?_⟩
    exact q _ _ _ _ (A'.put hG hσ hp (All2.append (r.mono join_l) (All2.imp (fun _ _ z => Enc.mono (join_r (A.ext.sub.trans s) (tups_le H')) (Imm.imm z)) rv)))
end
end G

namespace G
open PySem PySem.Spec PyProof.Rows L2
section
variable {X : Cx} {W : WX} {ss : List Slot} {pos : Pos} {a b e : Expr} {es : List Expr}
/-! ### methods of texts -/
structure Sm (X : Cx) (r : V → List V → Hp → VK → Prop) {A R : Type} [EncA A] [Enc R] (g : Str → A → Res R) : Prop where
  op : ∀ (z : Str) (x : A) (vs : List V) (H : Hp) (Q : VK), EncA.rep X.K H vs x → okR (g z x) (fun c => ∀ v' H', Same H H' → Enc.rep X.K H' v' c → Q v' H') → r (.str z) vs H Q
  nx : ∀ z x, NoX (g z x)
theorem okR_of {α : Type} {m : Res α} {σ : L2.St} {H : Hp} {P : α → Prop} (h : wpR X W m σ H P) (n : NoX m) : okR m P := by
  unfold okR
  cases e : m with
  | ok c => rw [e] at h; exact h
  | exc x => exact n x e
  | stuck => rw [e] at h; exact h
theorem xi_sm {A R : Type} [EncA A] [Enc R] {name : Str} {id : String} {r : V → List V → Hp → VK → Prop} {g : Str → A → Res R} {m : Res Str} {ma : Res A} {apos cpos : Pos} (slot : PySem.Slot "str" name id) (hty : typeOf (.builtin id) = pure (.type "method_descriptor")) (hm : MtR X id r) (sm : Sm X r g)
    (h : XI X W ss a m) (ha : XA X W ss (e :: es) ma)
    (hbase : attributeBase a name X.env (eval a X.env) = eval a X.env := by rfl)
    (hfew : ((backTo cpos (starEach (e :: es) X.env)).all (fun x => !x.1) && (backToKw cpos (keywordEach [] X.env)).all (fun x => x.1.isSome)
      && decide ((e :: es).length + ([] : List Keyword).length + (if ([] : List Keyword).isEmpty then 0 else 1) < 30)) = true := by rfl)
    (hline : (apos.endLine == cpos.line) = true := by rfl) (hs : starEach (e :: es) X.env = (false, eval e X.env) :: starEach es X.env := by rfl) (hplain : (backTo cpos (starEach es X.env)).any (·.1) = false := by rfl) :
    XI X W ss (.Call (.Attribute a name apos) (e :: es) [] cpos) (m.bind fun z => ma.bind fun x => g z x) := by
  refine PE_imp (pe_bm PySem.F.plainAttrs_str slot hty hm h ha hbase hfew hline hs hplain) fun σ H Q ⟨sl, q⟩ => ⟨sl, wpR_imp (wpR_bind q) (Same.refl H) fun z q v H1 s1 r1 => ?_⟩
  have r1 : v = .str z := r1
  subst r1
  refine ⟨rfl, sl.mono s1 s1, wpR_imp (wpR_bind q) s1 fun x q vs H2 s2 r2 => sm.op z x vs H2 Q r2 ?_⟩
  have := okR_of q (sm.nx z x)
  unfold okR at this ⊢
  cases e : g z x with
  | ok c => rw [e] at this; exact fun v' H' s3 r3 => this v' H' (s1.trans (s2.trans s3)) r3
  | exc x => rw [e] at this; exact this
  | stuck => rw [e] at this; exact this
theorem xi_sm0 {R : Type} [Enc R] {name : Str} {id : String} {r : V → List V → Hp → VK → Prop} {g : Str → Unit → Res R} {m : Res Str} {apos cpos : Pos} (slot : PySem.Slot "str" name id) (hty : typeOf (.builtin id) = pure (.type "method_descriptor")) (hm : MtR X id r) (sm : Sm X r g)
    (h : XI X W ss a m) (hbase : attributeBase a name X.env (eval a X.env) = eval a X.env := by rfl) (hline : (apos.endLine == cpos.line) = true := by rfl) :
    XI X W ss (.Call (.Attribute a name apos) [] [] cpos) (m.bind fun z => g z ()) := by
  refine PE_imp (pe_bm0 PySem.F.plainAttrs_str slot hty hm h hbase hline) fun σ H Q ⟨sl, q⟩ => ⟨sl, wpR_imp (wpR_bind q) (Same.refl H) fun z q v H1 s1 r1 => ?_⟩
  have r1 : v = .str z := r1
  subst r1
  refine ⟨rfl, sm.op z () [] H1 Q rfl ?_⟩
  have := okR_of q (sm.nx z ())
  unfold okR at this ⊢
  cases e : g z () with
  | ok c => rw [e] at this; exact fun v' H' s3 r3 => this v' H' (s1.trans s3) r3
  | exc x => rw [e] at this; exact this
  | stuck => rw [e] at this; exact this
theorem m_count : Sm X (fun x xs H Q => ∃ a b, x = .str a ∧ xs = [.str b] ∧ Q (.int (Txt.count a b)) H) (fun (z : Str) (x : Str × Unit) => Res.ok (Txt.count z x.1)) := ⟨fun z x vs H Q h q => by
  obtain ⟨y, u⟩ := x
  obtain ⟨v, r, e1, e2, e3⟩ := h
  have e2 : v = .str y := e2
  have e3 : r = [] := e3
  subst e1; subst e2; subst e3
  exact ⟨z, y, rfl, rfl, q _ H (Same.refl H) rfl⟩, fun _ _ => noX_ok⟩
theorem m_upper : Sm X (fun x xs H Q => ∃ a, x = .str a ∧ xs = [] ∧ a.length ≤ 5592405 ∧ Q (.str (Txt.upper a)) H) (fun (z : Str) (_ : Unit) => guardR (big z.length) (Res.ok (Txt.upper z))) := ⟨fun z x vs H Q h q => by
  have h : vs = [] := h
  subst h
  cases g : big z.length with
  | false => rw [g] at q; exact q.elim
  | true => rw [g] at q; exact ⟨z, rfl, rfl, Nat.le_trans (of_decide_eq_true g) (by decide), q _ H (Same.refl H) rfl⟩, fun _ _ => noX_guard⟩
/-! ### sum, max, min of lists -/
theorem c_sum : Bc X (rSum X.K) (fun x : List Int × Unit => Res.ok x.1.sum) := ⟨fun x vs H Q h q => by
  obtain ⟨xs, u⟩ := x
  obtain ⟨v, r, e1, ⟨p, ws, e2, hp, rv⟩, e3⟩ := h
  have e3 : r = [] := e3
  subst e1; subst e2; subst e3
  have ew : ws = xs.map V.int := All2.map_eq rv
  subst ew
  exact ⟨p, xs, rfl, SqL.of hp, q _ H (Same.refl H) rfl⟩, fun _ => noX_ok⟩
def maxL : List Int → Int
  | [] => 0
  | a :: as => as.foldl max a
def minL : List Int → Int
  | [] => 0
  | a :: as => as.foldl min a
theorem foldl_max {as : List Int} : ∀ {a : Int}, (as.foldl max a = a ∨ as.foldl max a ∈ as) ∧ a ≤ as.foldl max a ∧ ∀ y ∈ as, y ≤ as.foldl max a := by
  induction as with
  | nil => intro a; exact ⟨.inl rfl, Int.le_refl _, fun y m => by cases m⟩
  | cons b as ih =>
    intro a
    obtain ⟨h1, h2, h3⟩ := ih (a := max a b)
    refine ⟨?_, ?_, fun y m => ?_⟩
    · rw [List.foldl_cons]
      rcases h1 with h1 | h1
      · rw [h1]
        rcases Int.le_total a b with z | z
        · right; rw [Int.max_eq_right z]; exact List.mem_cons_self
        · left; exact Int.max_eq_left z
      · exact .inr (List.mem_cons_of_mem _ h1)
    · rw [List.foldl_cons]; omega
    · rw [List.foldl_cons]
      rcases List.mem_cons.mp m with rfl | m
      · omega
      · exact h3 y m
theorem foldl_min {as : List Int} : ∀ {a : Int}, (as.foldl min a = a ∨ as.foldl min a ∈ as) ∧ as.foldl min a ≤ a ∧ ∀ y ∈ as, as.foldl min a ≤ y := by
  induction as with
  | nil => intro a; exact ⟨.inl rfl, Int.le_refl _, fun y m => by cases m⟩
  | cons b as ih =>
    intro a
    obtain ⟨h1, h2, h3⟩ := ih (a := min a b)
    refine ⟨?_, ?_, fun y m => ?_⟩
    · rw [List.foldl_cons]
      rcases h1 with h1 | h1
      · rw [h1]
        rcases Int.le_total a b with z | z
        · left; exact Int.min_eq_left z
        · right; rw [Int.min_eq_right z]; exact List.mem_cons_self
      · exact .inr (List.mem_cons_of_mem _ h1)
    · rw [List.foldl_cons]; omega
    · rw [List.foldl_cons]
      rcases List.mem_cons.mp m with rfl | m
      · omega
      · exact h3 y m
theorem maxL_le {xs : List Int} {y : Int} (h : y ∈ xs) : y ≤ maxL xs := by
  cases xs with
  | nil => cases h
  | cons a as =>
    rcases List.mem_cons.mp h with rfl | m
    · exact foldl_max.2.1
    · exact foldl_max.2.2 y m
theorem maxL_mem {xs : List Int} (h : xs ≠ []) : maxL xs ∈ xs := by
  cases xs with
  | nil => exact (h rfl).elim
  | cons a as =>
    rcases (foldl_max (as := as) (a := a)).1 with e | e
    · show as.foldl max a ∈ _; rw [e]; exact List.mem_cons_self
    · exact List.mem_cons_of_mem _ e
theorem minL_le {xs : List Int} {y : Int} (h : y ∈ xs) : minL xs ≤ y := by
  cases xs with
  | nil => cases h
  | cons a as =>
    rcases List.mem_cons.mp h with rfl | m
    · exact foldl_min.2.1
    · exact foldl_min.2.2 y m
theorem minL_mem {xs : List Int} (h : xs ≠ []) : minL xs ∈ xs := by
  cases xs with
  | nil => exact (h rfl).elim
  | cons a as =>
    rcases (foldl_min (as := as) (a := a)).1 with e | e
    · show as.foldl min a ∈ _; rw [e]; exact List.mem_cons_self
    · exact List.mem_cons_of_mem _ e
theorem c_maxL : Bc X (rMax X.K) (fun x : List Int × Unit => guardR (!x.1.isEmpty) (Res.ok (maxL x.1))) := ⟨fun x vs H Q h q => by
  obtain ⟨xs, u⟩ := x
  obtain ⟨v, r, e1, ⟨p, ws, e2, hp, rv⟩, e3⟩ := h
  have e3 : r = [] := e3
  subst e1; subst e2; subst e3
  have ew : ws = xs.map V.int := All2.map_eq rv
  subst ew
  cases xs with
  | nil => exact q.elim
  | cons a as => exact ⟨p, a :: as, rfl, SqL.of hp, by rw [List.length_cons]; omega, fun m hm hmax => by
      have e : m = maxL (a :: as) := Int.le_antisymm (maxL_le hm) (hmax _ (maxL_mem (by simp)))
      rw [e]
      exact q _ H (Same.refl H) rfl⟩, fun _ => noX_guard⟩
theorem c_minL : Bc X (rMin X.K) (fun x : List Int × Unit => guardR (!x.1.isEmpty) (Res.ok (minL x.1))) := ⟨fun x vs H Q h q => by
  obtain ⟨xs, u⟩ := x
  obtain ⟨v, r, e1, ⟨p, ws, e2, hp, rv⟩, e3⟩ := h
  have e3 : r = [] := e3
  subst e1; subst e2; subst e3
  have ew : ws = xs.map V.int := All2.map_eq rv
  subst ew
  cases xs with
  | nil => exact q.elim
  | cons a as => exact ⟨p, a :: as, rfl, SqL.of hp, by rw [List.length_cons]; omega, fun m hm hmin => by
      have e : m = minL (a :: as) := Int.le_antisymm (hmin _ (minL_mem (by simp))) (minL_le hm)
      rw [e]
      exact q _ H (Same.refl H) rfl⟩, fun _ => noX_guard⟩
/-! ### x.reverse(), xs[::-1] -/
theorem All2.rev {α β : Type} {P : α → β → Prop} : ∀ {as : List α} {bs : List β}, All2 P as bs → All2 P as.reverse bs.reverse
  | [], [], _ => trivial
  | a :: as, b :: bs, ⟨x, y⟩ => by
    rw [List.reverse_cons, List.reverse_cons]
    exact All2.append y.rev ⟨x, trivial⟩
  | [], _ :: _, x => x.elim
  | _ :: _, [], x => x.elim
theorem s1_reverse (i : Nat) {α : Type} [Enc α] {as : List α} {x : Str} {p apos cpos : Pos} (hs : ss[i]? = some (ow as) := by rfl) (hx : PE X (.Call (.Attribute (.Name x p) "reverse" apos) [] [] cpos) (tBM0 X.K "list" rReverse (tVar i)) := by exact pe_bm0 PySem.F.plainAttrs_list PySem.F.slot_list_reverse PySem.F.type_list_reverse mt_reverse (pv _))
    (hsw : swapsWith (.Call (.Attribute (.Name x p) "reverse" apos) [] [] cpos) none pos.line X.env = pure false := by rfl) :
    S1 X W ss (.Expr (.Call (.Attribute (.Name x p) "reverse" apos) [] [] cpos) pos) (.ok as.reverse) (fun as' => ss.set i (ow as')) := by
  refine PS_imp (ps_expr hx hsw) fun D σ H ⟨B, F0, F, Gs, A, q⟩ => ?_
  obtain ⟨G, p, vs, hG, hσ, hp, r⟩ := all3_ow A.all hs
  have hH := A.sub G (List.mem_of_getElem? hG) _ _ hp
  refine ⟨.ref p, hσ, .inl ⟨rfl, vs, SqL.of hH⟩, p, vs, rfl, rfl, hH, ?_⟩
  exact q _ _ _ _ (A.put (as' := as.reverse) hG hσ hp r.rev)
theorem xk_rev {α : Type} [Enc α] [Imm α] {m : Res (List α)} {k : Nat} {p1 p2 p3 : Pos} (h : XI X W ss a m) :
    XK X W ss (.Subscript a (.Slice none none (some (.UnaryOp .USub (.Constant (.int 1) k p1) p2)) p3) pos) (m.bind fun xs => .ok xs.reverse) ow :=
  PE_imp (pe_revL h) fun σ H Q ⟨F, sf, sl, q⟩ => ⟨sl.mono sf (Same.refl H), wpR_imp (wpR_bind q) (Same.refl H) fun xs q v H1 s1 ⟨p, vs, e, hp, rv⟩ =>
    ⟨p, vs, e, SqL.of hp, fun o ho => new_owI sf s1 ho rv.rev q⟩⟩
/-! ### chains of two comparisons -/
theorem x_chain {op op' : CmpOp} {r r' : R2} {α β γ : Type} [Enc α] [Enc β] [Enc γ] {g : α → β → Res Bool} {g' : β → γ → Res Bool} {c : Expr} {ma : Res α} {mb : Res β} {mc : Res γ} (ho : OpR X (compareOp op) r) (bi : Bi X r g) (ho' : OpR X (compareOp op') r') (bi' : Bi X r' g')
    (ha : XI X W ss a ma) (hb : XI X W ss b mb) (hc : XI X W ss c mc) (hm : lastMarks [op, op'] [b, c] = false := by with_unfolding_all rfl) :
    XI X W ss (.Compare a [op, op'] [b, c] pos) (ma.bind fun x => mb.bind fun y => (g x y).bind fun t => if t then mc.bind fun z => g' y z else .ok false) := by
  refine PE_imp (pe_chain ho ho' ha hb hc hm) fun σ H Q ⟨sl, q⟩ => ⟨sl, wpR_imp (wpR_bind q) (Same.refl H) fun x q v H1 s1 r1 => ⟨sl.mono s1 s1, wpR_imp (wpR_bind q) s1 fun y q w H2 s2 r2 => ?_⟩⟩
  refine bi.op x y v w H2 _ (Enc.mono s2 r1) r2 ?_
  have q := okR_of (wpR_bind q) (bi.nx x y)
  unfold okR at q ⊢
  cases e : g x y with
  | exc x => rw [e] at q; exact q
  | stuck => rw [e] at q; exact q
  | ok t =>
    rw [e] at q
    intro v' H3 s3 r3
    have r3 : v' = .bl t := r3
    refine ⟨t, r3, ?_⟩
    cases t with
    | false => exact q _ H3 (s1.trans (s2.trans s3)) rfl
    | true =>
      refine ⟨sl.mono (s1.trans (s2.trans s3)) (s1.trans (s2.trans s3)), wpR_imp (wpR_bind q) (s1.trans (s2.trans s3)) fun z q u H4 s4 r4 => ?_⟩
      refine bi'.op y z w u H4 Q (Enc.mono (s3.trans s4) r2) r4 ?_
      have q := okR_of q (bi'.nx y z)
      unfold okR at q ⊢
      cases e : g' y z with
      | exc x => rw [e] at q; exact q
      | stuck => rw [e] at q; exact q
      | ok t => rw [e] at q; exact fun v' H' s5 r5 => q v' H' (s1.trans (s2.trans (s3.trans (s4.trans s5)))) r5
theorem t_chain {op op' : CmpOp} {r r' : R2} {α β γ : Type} [Enc α] [Enc β] [Enc γ] {g : α → β → Res Bool} {g' : β → γ → Res Bool} {c : Expr} {ma : Res α} {mb : Res β} {mc : Res γ} (ho : OpR X (compareOp op) r) (bi : Bi X r g) (ho' : OpR X (compareOp op') r') (bi' : Bi X r' g')
    (ha : XI X W ss a ma) (hb : XI X W ss b mb) (hc : XI X W ss c mc) (hm : lastMarks [op, op'] [b, c] = false := by with_unfolding_all rfl) :
    XT X W ss (.Compare a [op, op'] [b, c] pos) (ma.bind fun x => mb.bind fun y => (g x y).bind fun t => if t then mc.bind fun z => g' y z else .ok false) := by
  refine PT_imp (pt_chain ho ho' ha hb hc hm) fun σ H Q ⟨sl, q⟩ => ⟨sl, wpR_imp (wpR_bind q) (Same.refl H) fun x q v H1 s1 r1 => ⟨sl.mono s1 s1, wpR_imp (wpR_bind q) s1 fun y q w H2 s2 r2 => ?_⟩⟩
  refine bi.op x y v w H2 _ (Enc.mono s2 r1) r2 ?_
  have q := okR_of (wpR_bind q) (bi.nx x y)
  unfold okR at q ⊢
  cases e : g x y with
  | exc x => rw [e] at q; exact q
  | stuck => rw [e] at q; exact q
  | ok t =>
    rw [e] at q
    intro v' H3 s3 r3
    have r3 : v' = .bl t := r3
    refine ⟨t, r3, ?_⟩
    cases t with
    | false => exact ⟨false, rfl, q H3 (s1.trans (s2.trans s3))⟩
    | true =>
      refine ⟨sl.mono (s1.trans (s2.trans s3)) (s1.trans (s2.trans s3)), wpR_imp (wpR_bind q) (s1.trans (s2.trans s3)) fun z q u H4 s4 r4 => ?_⟩
      refine bi'.op y z w u H4 _ (Enc.mono (s3.trans s4) r2) r4 ?_
      have q := okR_of q (bi'.nx y z)
      unfold okR at q ⊢
      cases e : g' y z with
      | exc x => rw [e] at q; exact q
      | stuck => rw [e] at q; exact q
      | ok t => rw [e] at q; exact fun v' H' s5 r5 => ⟨t, r5, q H' (s1.trans (s2.trans (s3.trans (s4.trans s5))))⟩
end
end G

namespace G
open PySem PySem.Spec PyProof.Rows L2
/-! ### {k: v, ..} -/
class DKK (κ : Type) [Enc κ] [DecidableEq κ] [DK κ] where
  f : κ → Key
  inj : ∀ a b, f a = f b → a = b
  ho : ∀ kvs : List (κ × V), DK.ho kvs = hoK f kvs
  rep : ∀ {K : Frag} {H : Hp} {v : V} {k : κ}, Enc.rep K H v k → v = kV (f k)
instance : DKK Int := ⟨.inl, fun _ _ e => Sum.inl.inj e, fun _ => rfl, fun h => h⟩
instance : DKK Str := ⟨.inr, fun _ _ e => Sum.inr.inj e, fun _ => rfl, fun h => h⟩
def dofL {κ β : Type} [DecidableEq κ] (kvs : List (κ × β)) : Dic κ β := kvs.foldl (fun d kv => dput d kv.1 kv.2) ⟨[]⟩
section
variable {X : Cx} {W : WX} {ss : List Slot} {pos : Pos} {κ β : Type} [Enc κ] [DecidableEq κ] [DK κ] [DKK κ] [Enc β]
def XPP (X : Cx) (W : WX) (ss : List Slot) (pos : Pos) (keys : List (Option Expr)) (values : List Expr) (m : Res (List (κ × β))) : Prop :=
  ∃ trs, PPs X pos keys values trs ∧ ∀ σ H F Q, Same F H → Sl X.K F H ss σ → wpR X W m σ H (fun kvs => ∀ ps H' F', kvs.length = keys.length → Same H H' → Ext F H F' H' → All2 (fun (p : V × V) (kv : κ × β) => p.1 = kV (DKK.f kv.1) ∧ Enc.rep X.K F' p.2 kv.2) ps kvs → Q ps H') → tPairs trs σ H Q
theorem xpp_nil : XPP X W ss pos [] [] (.ok ([] : List (κ × β))) := ⟨[], pps_nil, fun σ H F Q sf sl q => q [] H F rfl (Same.refl H) (ext_refl sf) trivial⟩
theorem xpp_cons {k v : Expr} {ks : List (Option Expr)} {vs : List Expr} {mk : Res κ} {mv : Res β} {m : Res (List (κ × β))} (hk : XI X W ss k mk) (hv : XK X W ss v mv fr) (hr : XPP X W ss pos ks vs m) :
    XPP X W ss pos (some k :: ks) (v :: vs) (mk.bind fun x => mv.bind fun y => m.bind fun r => .ok ((x, y) :: r)) := by
  obtain ⟨trs, pp, hq⟩ := hr
  refine ⟨_, pps_cons hk hv pp, fun σ H F Q sf sl q => ⟨sl.mono sf (Same.refl H), wpR_imp (wpR_bind q) (Same.refl H) fun x q u H1 s1 r1 => ?_⟩⟩
  refine ⟨F, sf.trans s1, sl.mono (Same.refl F) s1, wpR_imp (wpR_bind q) s1 fun y q w H2 F2 G2 s2 ex2 _ ⟨w', e2, r2⟩ => ?_⟩
  cases e2
  refine hq σ H2 F2 _ ex2.sub (sl.mono ex2.le (s1.trans s2)) (wpR_imp (wpR_bind q) (s1.trans s2) fun r q ps H3 F3 hl s3 ex3 r3 => ?_)
  refine q ((u, w) :: ps) H3 F3 (by rw [List.length_cons, List.length_cons, hl]) (s1.trans (s2.trans s3)) ⟨ex2.le.trans ex3.le, ex3.sub, fun c z h => ?_⟩ ⟨⟨DKK.rep r1, Enc.mono ex3.le r2⟩, r3⟩
  rcases ex3.new c z h with y | y | y
  · rcases ex2.new c z y with y | y | y
    · exact .inl y
    · exact .inr (.inl (Same.free s1 y))
    · exact .inr (.inr y)
  · exact .inr (.inl (Same.free (s1.trans s2) y))
  · exact .inr (.inr y)
theorem xk_disp {keys : List (Option Expr)} {values : List Expr} {m : Res (List (κ × β))} (h : XPP X W ss pos keys values m) (hall : keys.all (·.isSome) = true := by rfl) (hl : keys.length = values.length := by rfl) (h0 : keys ≠ [] := by exact fun h => nomatch h)
    (h15 : keys.length ≤ 15 := by decide) : XK X W ss (.Dict keys values pos) (m.bind fun kvs => .ok (dofL kvs)) owd := by
  obtain ⟨trs, pp, hq⟩ := h
  refine PE_imp (pe_disp pp hall hl h0 h15) fun σ H Q ⟨F, sf, sl, q⟩ p hp => ?_
  have hF : F p = none := Same.free sf hp
  have sp := same_upd (o := HO.dK []) hp
  refine hq σ _ F _ (sf.trans sp) (sl.mono (Same.refl F) sp) (wpR_imp (wpR_bind q) sp fun kvs q ps H2 F2 hlen s2 ex2 r => ?_)
  have hp2 : H2 p = some (.dK []) := s2 _ _ upd_same
  -- the keys as they are held
  have go : ∀ {ps : List (V × V)} {kvs : List (κ × β)} {acc : List (κ × V)} {d : Dic κ β}, All2 (fun (p : V × V) (kv : κ × β) => p.1 = kV (DKK.f kv.1) ∧ Enc.rep X.K F2 p.2 kv.2) ps kvs → RepD X.K F2 acc d.l →
      ∃ l : List (Key × V), ps = l.map (fun kv => (kV kv.1, kv.2)) ∧ l.length = kvs.length ∧ ∃ acc' : List (κ × V), mergeK (acc.map fun kv => (DKK.f kv.1, kv.2)) l = acc'.map (fun kv => (DKK.f kv.1, kv.2)) ∧ RepD X.K F2 acc' (kvs.foldl (fun d kv => dput d kv.1 kv.2) d).l := by
    intro ps
    induction ps with
    | nil =>
      intro kvs acc d h1 h2
      cases kvs with
      | nil => exact ⟨[], rfl, rfl, acc, rfl, h2⟩
      | cons a as => exact h1.elim
    | cons p0 ps ih =>
      intro kvs acc d h1 h2
      cases kvs with
      | nil => exact h1.elim
      | cons kv kvs =>
        obtain ⟨⟨e1, r1⟩, h1⟩ := h1
        obtain ⟨l, el, ll, acc', ea, ra⟩ := ih (acc := putK acc kv.1 p0.2) (d := dput d kv.1 kv.2) h1 (repD_put h2 r1)
        refine ⟨(DKK.f kv.1, p0.2) :: l, ?_, by rw [List.length_cons, List.length_cons, ll], acc', ?_, ra⟩
        · rw [List.map_cons, ← el]
          show p0 :: ps = (kV (DKK.f kv.1), p0.2) :: ps
          rw [← e1]
        · rw [← ea, ← putK_map_key (f := DKK.f) DKK.inj acc kv.1 p0.2]
          rfl
  obtain ⟨l, el, ll, acc', ea, ra⟩ := go (acc := []) (d := ⟨[]⟩) r trivial
  refine ⟨hp2, l, el, by rw [ll, hlen]; exact h15, ?_⟩
  · rw [show mergeK [] l = acc'.map (fun kv => (DKK.f kv.1, kv.2)) from ea]
    have nF2 : F2 p = none := by
      cases e : F2 p with
      | none => rfl
      | some w =>
        rcases ex2.new p w e with z | z | z
        · rw [hF] at z; cases z
        · rw [upd_same] at z; cases z
        · have t := ex2.sub _ _ e
          rw [hp2] at t; cases t; cases z
    have sU : Same H (upd H2 p (hoK DKK.f acc')) := fun c u z => by
      rw [upd_ne (fun e => by rw [e, hp] at z; cases z)]
      exact s2 _ _ (sp _ _ z)
    refine q _ (upd H2 p (hoK DKK.f acc')) F2 (upd noHp p (hoK DKK.f acc')) sU ⟨ex2.le, fun c u z => ?_, fun c u z => ?_⟩ (fun c u z => ?_) ⟨p, acc', rfl, by rw [DKK.ho]; exact upd_same, ra⟩
    · rw [upd_ne (fun e => by rw [e, nF2] at z; cases z)]
      exact ex2.sub _ _ z
    · rcases ex2.new c u z with y | y | y
      · exact .inl y
      · exact .inr (.inl (Same.free sp y))
      · exact .inr (.inr y)
    · by_cases e : c = p
      · subst e; rw [upd_same] at z; cases z
        exact ⟨upd_same, hp, nF2, by rw [← DKK.ho]; exact DK.notT _⟩
      · rw [upd_ne e] at z; cases z
end
end G

namespace G
open PySem PySem.Spec PyProof.Rows L2
section
variable {X : Cx} {W : WX} {ss : List Slot} {pos : Pos} {a b e : Expr} {es : List Expr}
/-! ### list(range(..)) -/
theorem vals_range (a : Int) : ∀ (n : Nat) (acc : Array Value), ItemsOf (fun i v => ∃ t, v = Value.int (a + i * 1) t) acc n → Vals ((rangeL a n).map V.int) acc.toList := by
  intro n acc h
  obtain ⟨hl, hi⟩ := h
  have go : ∀ (vs : List Value) (k : Nat), (∀ j v, vs[j]? = some v → ∃ t, v = Value.int (a + ((k + j : Nat) : Int)) t) → Vals (((List.range' k vs.length).map fun (i : Nat) => a + (i : Int)).map V.int) vs := by
    intro vs
    induction vs with
    | nil => intro k _; exact .nil
    | cons v vs ih =>
      intro k h
      rw [List.length_cons, List.range'_succ, List.map_cons, List.map_cons]
      obtain ⟨t, ht⟩ := h 0 v rfl
      exact .cons ⟨t, ht⟩ (ih (k + 1) fun j u hj => by
        obtain ⟨t', ht'⟩ := h (j + 1) u hj
        refine ⟨t', ht'.trans ?_⟩
        congr 2; omega)
  have := go acc.toList 0 fun j v hj => by
    obtain ⟨t, ht⟩ := hi j v (by rw [← hj, Array.getElem?_toList])
    refine ⟨t, ht.trans ?_⟩
    congr 1
  have e : acc.toList.length = n := by rw [Array.length_toList]; exact hl
  rw [e, ← List.range_eq_range'] at this
  exact this
def tListR (tr : L2.St → Hp → (Int → Int → Hp → Prop) → Prop) : TE := fun σ H Q => tr σ H fun a b H1 => -(2 ^ 62) ≤ a ∧ a < 2 ^ 62 ∧ -(2 ^ 62) ≤ b ∧ b < 2 ^ 62 ∧ (b - a).toNat ≤ 1000000 ∧ ∀ p, H1 p = none → Q (.ref p) (upd H1 p (.lst ((rangeL a (b - a).toNat).map V.int)))
theorem pe_listR {tr : L2.St → Hp → (Int → Int → Hp → Prop) → Prop} {p : Pos} (hc : X.calm = true) (hg : Gl X "list") (hm : X.mg "list" = none) (he : PRg X e tr) (hs : starEach [e] X.env = (false, eval e X.env) :: starEach [] X.env) :
    PE X (.Call (.Name "list" p) [e] [] pos) (tListR tr) := by
  refine ⟨fun pins s σ H Q I h => ?_⟩
  refine Call_ (ld_blt I hg hm (by decide +kernel : bootBuiltins "list" = some (.type "list")) (PyProof.Rows.callWith_type1 (args_cons (thn (he pins s σ H _ I h) fun u s1 hx => args_nil ?_) hs) hs rfl))
  obtain ⟨r, a, b, t, w1, v, H1, eu, hr, I1, b1, b2, b3, b4, b5, q⟩ := hx
  subst eu
  have hn : Builtin.Range.rangeSize a b 1 = (((b - a).toNat : Nat) : Int) := rangeSize_nat a b
  refine call_list_range (I1.ok.hd hc) hr (small_one b1 b2 b3 b4) hn (Nat.le_trans b5 (by decide)) fun h' tk acc c kp hD hI => ?_
  have hv := vals_range a _ acc hI
  have hl := hv.length
  have hz : ((rangeL a (b - a).toNat).map V.int).length ≤ sizeLine := by
    rw [List.length_map, rangeL_len]; exact Nat.le_trans b5 (by decide)
  have hg : h'.get? s1.heap.objs.size = some { cls := .type "list", dict := none, data := .seq acc.toList.toArray c, slots := #[] } := by rw [Array.toArray_toList]; exact hD
  exact ⟨.ref s1.heap.objs.size, _, I1.laid (t' := tk) kp (Nat.le_refl _) (show ObjOk X.prog X.w _ h' _ (.lst _) from ⟨hz, acc.toList, c, hv, hg⟩), rfl, q _ (I1.hok.fresh (Nat.le_refl _))⟩
theorem xk_listR1 {m : Res Int} {p p2 pos2 : Pos} (h : XI X W ss a m) (hm : X.mg "list" = none) (hm2 : X.mg "range" = none) (hc : X.calm = true := by rfl) (hg : Gl X "list" := by rfl) (hg2 : Gl X "range" := by rfl) (na : starEach [a] X.env = (false, eval a X.env) :: starEach [] X.env := by rfl)
    (hs : starEach [.Call (.Name "range" p2) [a] [] pos2] X.env = (false, eval (.Call (.Name "range" p2) [a] [] pos2) X.env) :: starEach [] X.env := by rfl) :
    XK X W ss (.Call (.Name "list" p) [.Call (.Name "range" p2) [a] [] pos2] [] pos) (m.bind fun n => guardR (small62 n && big n.toNat) (.ok (rangeL 0 n.toNat))) ow := by
  refine PE_imp (pe_listR hc hg hm (prg_1 hg2 hm2 h na) hs) fun σ H Q ⟨F, sf, sl, q⟩ => ⟨sl.mono sf (Same.refl H), wpR_imp (wpR_bind q) (Same.refl H) fun n q v H1 s1 r1 => ?_⟩
  obtain ⟨g, q⟩ := wpR_guard q
  rw [Bool.and_eq_true] at g
  obtain ⟨h1, h2⟩ := small62_of g.1
  have hb := of_decide_eq_true g.2
  have e0 : (n - 0).toNat = n.toNat := by rw [Int.sub_zero]
  refine ⟨n, r1, by decide, by decide, h1, h2, by rw [e0]; exact hb, fun o ho => ?_⟩
  rw [e0]
  have q := q
  exact new_owI sf s1 ho (All2.of_map (f := V.int)) q
/-! ### a text within a text -/
def inS (x y : Str) : Bool := !(Builtin.Str.occurrences y x 0 y.length 1).isEmpty
theorem b_inS : Bi X (fun x y H Q => ∃ i j, x = .str i ∧ y = .str j ∧ Q (.bl (!(Builtin.Str.occurrences j i 0 j.length 1).isEmpty)) H) (fun a b : Str => Res.ok (inS a b)) := ⟨fun a b v w H Q r1 r2 q => ⟨a, b, r1, r2, q _ H (Same.refl H) rfl⟩, fun _ _ => noX_ok⟩
theorem b_ninS : Bi X (fun x y H Q => ∃ i j, x = .str i ∧ y = .str j ∧ Q (.bl (!(!(Builtin.Str.occurrences j i 0 j.length 1).isEmpty))) H) (fun a b : Str => Res.ok (!inS a b)) := ⟨fun a b v w H Q r1 r2 q => ⟨a, b, r1, r2, q _ H (Same.refl H) rfl⟩, fun _ _ => noX_ok⟩
theorem inS_one (c : Nat) (y : Str) : inS ⟨#[c]⟩ y = decide (c ∈ y.cps.toList) := by unfold inS; rw [empty_one, Bool.not_not]
/-! ### x[k] = e -/
def setR {α : Type} (xs : List α) (k : Int) (a : α) : Res (List α) := match ixN xs.length k with
  | some n => .ok (xs.set n a)
  | none => .stuck
theorem s1_setI (i : Nat) {α : Type} [Enc α] {as : List α} {m : Res α} {mk : Res Int} {x : Str} {p tpos : Pos} (h : XK X W ss e m fr) (hk : XI X W ss a mk) (hs : ss[i]? = some (ow as) := by rfl) (hp : PE X (.Name x p) (tVar i) := by exact pv _)
    (hg : PG X (.Subscript (.Name x p) a tpos) (gSub (tVar i) (rI X W ss mk) rSetL)) (hsw : swapsWithSole [.Subscript (.Name x p) a tpos] e pos.line X.env = pure false := by rfl) (hw : swappedStores [.Subscript (.Name x p) a tpos] e X.env = pure none := by rfl)
    (h1 : (assignEach [.Subscript (.Name x p) a tpos] X.env).map (·.2) = [assign (.Subscript (.Name x p) a tpos) X.env] := by rfl) :
    S1 X W ss (.Assign [.Subscript (.Name x p) a tpos] e pos) (m.bind fun v => mk.bind fun k => setR as k v) (fun as' => ss.set i (ow as')) := by
  refine PS_imp (ps_asg h hg hsw hw h1) fun D σ H ⟨B, F0, F, Gs, A, q⟩ => ⟨F, A.ext.sub, A.sl, wpS_R (wpS_bind q) A.base fun v q v' H1 F1 G1 s1 ex1 _ ⟨v2, e1, rv⟩ => ?_⟩
  cases e1
  have A1 := A.grow s1 ex1
  obtain ⟨G, p, vs, hG, hσ, hp, r⟩ := all3_ow A1.all hs
  refine ⟨.ref p, hσ, A1.sl.mono A1.ext.sub (Same.refl H1), wpS_R (wpS_bind q) A1.base fun k q y H2 s2 rk => ?_⟩
  have A2 := A1.grow s2 (F' := F1) ⟨Same.refl F1, A1.ext.sub.trans s2, fun _ _ h => .inl h⟩
  have hH := A2.sub G (List.mem_of_getElem? hG) _ _ hp
  unfold setR at q
  cases en : ixN as.length k with
  | none => rw [en] at q; exact q.elim
  | some n =>
    rw [en] at q
    refine ⟨p, vs, k, n, rfl, rk, hH, by rw [r.length]; exact en, ?_⟩
    exact q _ _ _ _ (A2.put hG hσ hp (r.set n rv))
/-- x.append(e), whatever x holds -/
theorem s1_appJ (i : Nat) {n : Nat} {α : Type} [Enc α] {m : Res α} {x : Str} {p apos cpos : Pos} (h : XK X W ss e m fr) (hs : ss[i]? = some (jl n) := by rfl) (hp : PE X (.Name x p) (tVar i) := by exact pv _)
    (hbase : attributeBase (.Name x p) "append" X.env (eval (.Name x p) X.env) = eval (.Name x p) X.env := by rfl)
    (hfew : ((backTo cpos (starEach [e] X.env)).all (fun x => !x.1) && (backToKw cpos (keywordEach [] X.env)).all (fun x => x.1.isSome)
      && decide (([e] : List Expr).length + ([] : List Keyword).length + (if ([] : List Keyword).isEmpty then 0 else 1) < 30)) = true := by rfl)
    (hline : (apos.endLine == cpos.line) = true := by rfl) (hst : starEach [e] X.env = (false, eval e X.env) :: starEach [] X.env := by rfl) (hplain : (backTo cpos (starEach [] X.env)).any (·.1) = false := by rfl)
    (hsw : swapsWith (.Call (.Attribute (.Name x p) "append" apos) [e] [] cpos) none pos.line X.env = pure false := by rfl) :
    S1 X W ss (.Expr (.Call (.Attribute (.Name x p) "append" apos) [e] [] cpos) pos) (m.bind fun _ => guardR (big n) (.ok ())) (fun _ => ss.set i (jl (n + 1))) := by
  have hx := pe_bm PySem.F.plainAttrs_list PySem.F.slot_list_append PySem.F.type_list_append mt_append hp (pa_cons h pa_nil hst) hbase hfew hline hst hplain
  refine PS_imp (ps_expr hx hsw) fun D σ H ⟨B, F0, F, Gs, A, q⟩ => ?_
  obtain ⟨G, o, hG, hσ, p, vs, e, hp, hl⟩ := A.all.get hs
  subst e
  have hm := List.mem_of_getElem? hG
  have hH := A.sub G hm _ _ hp
  refine ⟨.ref p, hσ, .inl ⟨rfl, vs, SqL.of hH⟩, F, A.ext.sub, A.sl, wpS_R (wpS_bind q) A.base fun a q v H' F' G' s ex pr k => ?_⟩
  obtain ⟨v', e1, rv⟩ := k
  cases e1
  obtain ⟨g, q⟩ := wpS_guard q
  have A' := A.grow s ex
  refine ⟨p, vs, v, rfl, rfl, s _ _ hH, by rw [hl]; exact Nat.lt_of_le_of_lt (of_decide_eq_true g) (by decide), ?_⟩
  have A2 := A'.chg (s := jl (n + 1)) (o := some (.ref p)) (G2 := upd noHp p (.lst (vs ++ [v]))) (H' := upd H' p (.lst (vs ++ [v]))) hG (fun c u z h => by rw [upd_ne (fun e => by rw [e, hp] at z; cases z)]; exact h) (fun c u z => by
    by_cases e : c = p
    · subst e
      rw [upd_same] at z ⊢; cases z
      exact ⟨rfl, rfl, .inl (by rw [hp]; exact fun h => nomatch h)⟩
    · rw [upd_ne e] at z; cases z) ⟨p, _, rfl, upd_same, by rw [List.length_append, hl]; rfl⟩
  rw [set_self hσ] at A2
  exact q _ _ _ _ A2
theorem c_lenP {α β : Type} [Enc α] [Enc β] : Bc X (fun xs H Q => ∃ x n, xs = [x] ∧ LenV X.K x H n ∧ Q (.int n) H) (fun _ : (α × β) × Unit => Res.ok (2 : Int)) := ⟨fun x vs H Q h q => by
  obtain ⟨xs, u⟩ := x
  obtain ⟨v, r, e1, ⟨p, v1, v2, e2, hp, _⟩, e3⟩ := h
  have e3 : r = [] := e3
  subst e1; subst e2; subst e3
  exact ⟨.ref p, 2, rfl, .inr ⟨[v1, v2], SqT.of hp, rfl⟩, q _ H (Same.refl H) rfl⟩, fun _ => noX_ok⟩
end
end G

namespace G
open PySem PySem.Spec PyProof.Rows L2
/-! ### values of any kind -/
inductive Dy where
  | non | bl (b : Bool) | int (i : Int) | str (s : Str) | lst (xs : List Dy) | tup (xs : List Dy) | dic
instance : Inhabited Dy := ⟨.non⟩
mutual
def dyEq : Dy → Dy → Bool
  | .non, .non => true
  | .bl a, .bl b => decide (a = b)
  | .int a, .int b => decide (a = b)
  | .str a, .str b => decide (a = b)
  | .lst a, .lst b => dyEqs a b
  | .tup a, .tup b => dyEqs a b
  | .dic, .dic => true
  | _, _ => false
def dyEqs : List Dy → List Dy → Bool
  | [], [] => true
  | a :: as, b :: bs => dyEq a b && dyEqs as bs
  | _, _ => false
end
mutual
theorem dyEq_iff : ∀ a b : Dy, dyEq a b = true ↔ a = b
  | .non, b => by cases b <;> simp [dyEq]
  | .bl a, b => by cases b <;> simp [dyEq]
  | .int a, b => by cases b <;> simp [dyEq]
  | .str a, b => by cases b <;> simp [dyEq]
  | .dic, b => by cases b <;> simp [dyEq]
  | .lst a, .lst b => by simp only [dyEq, dyEqs_iff a b, Dy.lst.injEq]
  | .tup a, .tup b => by simp only [dyEq, dyEqs_iff a b, Dy.tup.injEq]
  | .lst a, .non => by simp [dyEq]
  | .lst a, .bl _ => by simp [dyEq]
  | .lst a, .int _ => by simp [dyEq]
  | .lst a, .str _ => by simp [dyEq]
  | .lst a, .tup _ => by simp [dyEq]
  | .lst a, .dic => by simp [dyEq]
  | .tup a, .non => by simp [dyEq]
  | .tup a, .bl _ => by simp [dyEq]
  | .tup a, .int _ => by simp [dyEq]
  | .tup a, .str _ => by simp [dyEq]
  | .tup a, .lst _ => by simp [dyEq]
  | .tup a, .dic => by simp [dyEq]
theorem dyEqs_iff : ∀ a b : List Dy, dyEqs a b = true ↔ a = b
  | [], [] => by simp [dyEqs]
  | [], _ :: _ => by simp [dyEqs]
  | _ :: _, [] => by simp [dyEqs]
  | a :: as, b :: bs => by simp only [dyEqs, Bool.and_eq_true, dyEq_iff a b, dyEqs_iff as bs, List.cons.injEq]
end
instance : DecidableEq Dy := fun a b => if h : dyEq a b = true then .isTrue ((dyEq_iff a b).mp h) else .isFalse fun e => h ((dyEq_iff a b).mpr e)
mutual
inductive DyR (K : Frag) (H : Hp) : V → Dy → Prop
  | non : DyR K H .non .non
  | bl (b : Bool) : DyR K H (.bl b) (.bl b)
  | int (i : Int) : DyR K H (.int i) (.int i)
  | str (x : Str) : DyR K H (.str x) (.str x)
  | lst {p : Addr} {vs : List V} {xs : List Dy} : H p = some (.lst vs) → DyA K H vs xs → DyR K H (.ref p) (.lst xs)
  | tup {p : Addr} {vs : List V} {xs : List Dy} : SqT K H p vs → DyA K H vs xs → DyR K H (.ref p) (.tup xs)
  | dic {p : Addr} : H p = some (.dK []) → DyR K H (.ref p) .dic
inductive DyA (K : Frag) (H : Hp) : List V → List Dy → Prop
  | nil : DyA K H [] []
  | cons {v : V} {vs : List V} {d : Dy} {ds : List Dy} : DyR K H v d → DyA K H vs ds → DyA K H (v :: vs) (d :: ds)
end
mutual
theorem DyR.mono {K : Frag} {H H' : Hp} (s : Same H H') : ∀ {v : V} {d : Dy}, DyR K H v d → DyR K H' v d
  | _, _, .non => .non
  | _, _, .bl b => .bl b
  | _, _, .int i => .int i
  | _, _, .str x => .str x
  | _, _, .lst h r => .lst (s _ _ h) (DyA.mono s r)
  | _, _, .tup h r => .tup (seqT s h) (DyA.mono s r)
  | _, _, .dic h => .dic (s _ _ h)
theorem DyA.mono {K : Frag} {H H' : Hp} (s : Same H H') : ∀ {vs : List V} {ds : List Dy}, DyA K H vs ds → DyA K H' vs ds
  | _, _, .nil => .nil
  | _, _, .cons h t => .cons (DyR.mono s h) (DyA.mono s t)
end
instance : Enc Dy := ⟨fun K H v d => DyR K H v d, fun s h => h.mono s⟩
theorem dya_all2 {K : Frag} {H : Hp} : ∀ {vs : List V} {ds : List Dy}, DyA K H vs ds → All2 (fun v (d : Dy) => Enc.rep K H v d) vs ds
  | _, _, .nil => trivial
  | _, _, .cons h t => ⟨h, dya_all2 t⟩
theorem all2_dya {α : Type} [Enc α] {f : α → Dy} {K : Frag} {H : Hp} (hf : ∀ v a, Enc.rep K H v a → DyR K H v (f a)) : ∀ {vs : List V} {as : List α}, All2 (fun v a => Enc.rep K H v a) vs as → DyA K H vs (as.map f)
  | [], [], _ => .nil
  | _ :: _, _ :: _, ⟨h, t⟩ => .cons (hf _ _ h) (all2_dya hf t)
  | [], _ :: _, h => h.elim
  | _ :: _, [], h => h.elim
/-- what is of any kind, too -/
class ToDy (α : Type) [Enc α] where
  dy : α → Dy
  rep : ∀ {K : Frag} {H : Hp} {v : V} {a : α}, Enc.rep K H v a → DyR K H v (dy a)
instance : ToDy Dy := ⟨id, fun h => h⟩
instance : ToDy Int := ⟨.int, fun h => by rw [show _ = V.int _ from h]; exact .int _⟩
instance : ToDy Bool := ⟨.bl, fun h => by rw [show _ = V.bl _ from h]; exact .bl _⟩
instance : ToDy Str := ⟨.str, fun h => by rw [show _ = V.str _ from h]; exact .str _⟩
instance : ToDy Unit := ⟨fun _ => .non, fun h => by rw [show _ = V.non from h]; exact .non⟩
instance {α : Type} [Enc α] [ToDy α] : ToDy (Option α) := ⟨fun o => match o with | none => .non | some a => ToDy.dy a, fun {K H v o} h => by
  cases o with
  | none => rw [show v = V.non from h]; exact .non
  | some a => exact ToDy.rep h.2⟩
instance {α : Type} [Enc α] [ToDy α] : ToDy (List α) := ⟨fun as => .lst (as.map ToDy.dy), fun ⟨p, vs, e, h, r⟩ => by rw [e]; exact .lst h (all2_dya (fun _ _ h => ToDy.rep h) r)⟩
instance {α : Type} [Enc α] [ToDy α] : ToDy (Tup α) := ⟨fun as => .tup (as.l.map ToDy.dy), fun ⟨p, vs, e, h, r⟩ => by rw [e]; exact .tup h (all2_dya (fun _ _ h => ToDy.rep h) r)⟩
instance {α β : Type} [Enc α] [Enc β] [ToDy α] [ToDy β] : ToDy (α × β) := ⟨fun x => .tup [ToDy.dy x.1, ToDy.dy x.2], fun ⟨p, v1, v2, e, h, r1, r2⟩ => by rw [e]; exact .tup (SqT.of h) (.cons (ToDy.rep r1) (.cons (ToDy.rep r2) .nil))⟩
instance {α β γ : Type} [Enc α] [Enc β] [Enc γ] [ToDy α] [ToDy β] [ToDy γ] : ToDy (T3 α β γ) := ⟨fun x => .tup [ToDy.dy x.a, ToDy.dy x.b, ToDy.dy x.c], fun ⟨p, v1, v2, v3, e, h, r1, r2, r3⟩ => by
  rw [e]; exact .tup (SqT.of h) (.cons (ToDy.rep r1) (.cons (ToDy.rep r2) (.cons (ToDy.rep r3) .nil)))⟩
/-! what a value of any kind is -/
def dyI : Dy → Res Int | .int i => .ok i | _ => .stuck
def dyB : Dy → Res Bool | .bl i => .ok i | _ => .stuck
def dyS : Dy → Res Str | .str i => .ok i | _ => .stuck
def dyL : Dy → Res (List Dy) | .lst xs => .ok xs | _ => .stuck
def dyT : Dy → Res (Tup Dy) | .tup xs => .ok ⟨xs⟩ | _ => .stuck
section
variable {X : Cx} {W : WX} {ss : List Slot} {pos : Pos} {a b e : Expr} {es : List Expr}
theorem xi_dy {α : Type} [Enc α] [ToDy α] {m : Res α} (h : XI X W ss e m) : XI X W ss e (m.bind fun x => .ok (ToDy.dy x)) :=
  PE_imp h fun σ H Q ⟨sl, q⟩ => ⟨sl, wpR_imp (wpR_bind q) (Same.refl H) fun x q v H' s r => q v H' s (ToDy.rep r)⟩
theorem xk_dy {α : Type} [Enc α] [ToDy α] {m : Res α} (h : XK X W ss e m fr) : XK X W ss e (m.bind fun x => .ok (ToDy.dy x)) fr :=
  PE_imp h fun σ H Q ⟨F, sf, sl, q⟩ => ⟨F, sf, sl, wpR_imp (wpR_bind q) (Same.refl H) fun x q v H' F' G' s ex pr ⟨v', e1, r⟩ => q v H' F' G' s ex pr ⟨v', e1, ToDy.rep r⟩⟩
/-- a cast -/
structure Cast {β : Type} [Enc β] (c : Dy → Res β) : Prop where
  rep : ∀ {K : Frag} {H : Hp} {v : V} {d : Dy} {b : β}, c d = .ok b → DyR K H v d → Enc.rep K H v b
  nox : ∀ d, NoX (c d)
theorem cI : Cast dyI := ⟨fun {K H v d b} h r => by cases r <;> simp only [dyI, Res.ok.injEq, reduceCtorEq] at h; subst h; rfl, fun d x h => by cases d <;> cases h⟩
theorem cB : Cast dyB := ⟨fun {K H v d b} h r => by cases r <;> simp only [dyB, Res.ok.injEq, reduceCtorEq] at h; subst h; rfl, fun d x h => by cases d <;> cases h⟩
theorem cS : Cast dyS := ⟨fun {K H v d b} h r => by cases r <;> simp only [dyS, Res.ok.injEq, reduceCtorEq] at h; subst h; rfl, fun d x h => by cases d <;> cases h⟩
theorem cL : Cast dyL := ⟨fun {K H v d b} h r => by
  cases r <;> simp only [dyL, Res.ok.injEq, reduceCtorEq] at h
  rename_i p vs xs hp ha
  subst h; exact ⟨p, vs, rfl, hp, dya_all2 ha⟩, fun d x h => by cases d <;> cases h⟩
theorem cT : Cast dyT := ⟨fun {K H v d b} h r => by
  cases r <;> simp only [dyT, Res.ok.injEq, reduceCtorEq] at h
  rename_i p vs xs hp ha
  subst h; exact ⟨p, vs, rfl, hp, dya_all2 ha⟩, fun d x h => by cases d <;> cases h⟩
theorem xi_cast {β : Type} [Enc β] {c : Dy → Res β} (C : Cast c) {m : Res Dy} (h : XI X W ss e m) : XI X W ss e (m.bind c) :=
  PE_imp h fun σ H Q ⟨sl, q⟩ => ⟨sl, wpR_imp (wpR_bind q) (Same.refl H) fun x q v H' s r => by
    cases ec : c x with
    | ok b => rw [ec] at q; exact q v H' s (C.rep ec r)
    | exc y => exact (C.nox x y ec).elim
    | stuck => rw [ec] at q; exact q.elim⟩
theorem xk_cast {β : Type} [Enc β] {c : Dy → Res β} (C : Cast c) {m : Res Dy} (h : XK X W ss e m fr) : XK X W ss e (m.bind c) fr :=
  PE_imp h fun σ H Q ⟨F, sf, sl, q⟩ => ⟨F, sf, sl, wpR_imp (wpR_bind q) (Same.refl H) fun x q v H' F' G' s ex pr ⟨v', e1, r⟩ => by
    cases ec : c x with
    | ok b => rw [ec] at q; exact q v H' F' G' s ex pr ⟨v', e1, C.rep ec r⟩
    | exc y => exact (C.nox x y ec).elim
    | stuck => rw [ec] at q; exact q.elim⟩
/-! isinstance -/
def dyTy : Dy → String
  | .non => "NoneType"
  | .bl _ => "bool"
  | .int _ => "int"
  | .str _ => "str"
  | .lst _ => "list"
  | .tup _ => "tuple"
  | .dic => "dict"
theorem dy_ty {K : Frag} {H : Hp} {v : V} {d : Dy} (r : DyR K H v d) : TyX K H v (.type (dyTy d)) := by
  cases r with
  | non => exact .base .non
  | bl b => exact .base (.bl b)
  | int i => exact .base (.int i)
  | str x => exact .base (.str x)
  | lst h _ => exact .base (.lst h)
  | tup h _ => exact tyT h
  | dic h => exact .base (.dK h)
/-- isinstance of a built-in class -/
def dyIs (T : String) (d : Dy) : Bool := dyTy d == T || (dyTy d == "bool" && T == "int")
structure IsT (T : String) : Prop where
  ok : ∀ d, kitB (dyTy d) T = some (dyIs T d)
def tyNames : List String := ["NoneType", "bool", "int", "str", "list", "tuple", "dict"]
theorem dyTy_mem (d : Dy) : dyTy d ∈ tyNames := by unfold tyNames; cases d <;> simp [dyTy]
theorem isT_mk {T : String} (h : ∀ t ∈ tyNames, kitB t T = some (t == T || (t == "bool" && T == "int"))) : IsT T := ⟨fun d => h _ (dyTy_mem d)⟩
theorem isT_int : IsT "int" := isT_mk (by decide +kernel)
theorem isT_bool : IsT "bool" := isT_mk (by decide +kernel)
theorem isT_str : IsT "str" := isT_mk (by decide +kernel)
theorem isT_list : IsT "list" := isT_mk (by decide +kernel)
theorem isT_tuple : IsT "tuple" := isT_mk (by decide +kernel)
theorem xi_isD {m : Res Dy} {T : Str} {TT : String} {p q : Pos} (I : IsT TT) (h : XI X W ss a m) (hb : PE X (.Name T q) (tC (.ty TT))) (hm : X.mg "isinstance" = none) (hg : Gl X "isinstance" := by rfl)
    (he : starEach [a, .Name T q] X.env = (false, eval a X.env) :: starEach [.Name T q] X.env := by rfl) (he2 : starEach [.Name T q] X.env = (false, eval (.Name T q) X.env) :: starEach [] X.env := by rfl) (hpl : (backTo pos (starEach [.Name T q] X.env)).any (·.1) = false := by rfl) :
    XI X W ss (.Call (.Name "isinstance" p) [a, .Name T q] [] pos) (m.bind fun d => .ok (dyIs TT d)) :=
  PE_imp (pe_callB call_isi hg hm (by decide +kernel) (pa_cons h (pa_cons hb pa_nil he2) he) (by decide) (by decide) he hpl) fun σ H Q ⟨sl, q⟩ => ⟨sl, wpR_imp (wpR_bind q) (Same.refl H) fun x q v H1 s1 r1 =>
    ⟨v, .ty TT, _, _, dyIs TT x, rfl, .ty TT, dy_ty r1, kit_ty (I.ok x), q _ H1 s1 rfl⟩⟩
/-! is None -/
def dyNon : Dy → Bool | .non => true | _ => false
theorem dyNon_v {K : Frag} {H : Hp} {v : V} {d : Dy} (r : DyR K H v d) : decide (v = .non) = dyNon d := by
  cases r <;> rfl
theorem xi_isND {m : Res Dy} {j : Nat} {p : Pos} (h : XI X W ss a m) : XI X W ss (.Compare a [.Is] [.Constant .none j p] pos) (m.bind fun o => .ok (dyNon o)) :=
  PE_imp (pe_cmp (pc_isN h)) fun σ H Q ⟨sl, q⟩ => ⟨sl, wpR_imp (wpR_bind q) (Same.refl H) fun o q v H1 s1 r1 => q _ H1 s1 (by show V.bl _ = V.bl _; rw [dyNon_v r1])⟩
theorem xi_notND {m : Res Dy} {j : Nat} {p : Pos} (h : XI X W ss a m) : XI X W ss (.Compare a [.IsNot] [.Constant .none j p] pos) (m.bind fun o => .ok (!dyNon o)) :=
  PE_imp (pe_cmp (pc_notN h)) fun σ H Q ⟨sl, q⟩ => ⟨sl, wpR_imp (wpR_bind q) (Same.refl H) fun o q v H1 s1 r1 => q _ H1 s1 (by show V.bl _ = V.bl _; rw [dyNon_v r1])⟩
/-! len, items -/
def dyLen : Dy → Res Int
  | .lst xs => .ok (xs.length : Int)
  | .tup xs => .ok (xs.length : Int)
  | .str x => strLen x
  | _ => .stuck
theorem c_lenDy : Bc X (fun xs H Q => ∃ x n, xs = [x] ∧ LenV X.K x H n ∧ Q (.int n) H) (fun x : Dy × Unit => dyLen x.1) := by
  have hS := c_lenStr (X := X)
  refine ⟨fun x vs H Q hr q => ?_, fun x y h => ?_⟩
  · obtain ⟨v, r, rfl, r1, hz⟩ := hr
    have hz : r = [] := hz
    subst hz
    obtain ⟨d, u⟩ := x
    have r1 : DyR X.K H v d := r1
    cases r1 with
    | non => exact q.elim
    | bl b => exact q.elim
    | int i => exact q.elim
    | dic h => exact q.elim
    | str x => exact hS.op (x, ()) _ H Q ⟨_, _, rfl, rfl, rfl⟩ q
    | lst h ha => exact ⟨_, _, rfl, .inl ⟨_, SqL.of h, rfl⟩, q _ H (Same.refl H) (by rw [(dya_all2 ha).length]; rfl)⟩
    | tup h ha => exact ⟨_, _, rfl, .inr ⟨_, h, rfl⟩, q _ H (Same.refl H) (by rw [(dya_all2 ha).length]; rfl)⟩
  · obtain ⟨d, u⟩ := x
    cases d with
    | str x => exact hS.nx (x, ()) y h
    | _ => cases h
end
end G

namespace G
open PySem PySem.Spec PyProof.Rows L2
section
variable {X : Cx} {W : WX} {ss : List Slot} {pos : Pos} {a b c e : Expr} {es : List Expr}
/-! ### items of what is of any kind -/
def dyIx (d : Dy) (i : Int) : Res Dy := match d with
  | .lst xs => idx xs i
  | .tup xs => idx xs i
  | .str x => (strIx x i).bind fun s => .ok (.str s)
  | _ => .stuck
theorem noX_dyIx {d : Dy} {i : Int} : NoX (dyIx d i) := fun y h => by
  cases d with
  | lst xs => exact noX_idx y h
  | tup xs => exact noX_idx y h
  | str x =>
    have h : (strIx x i).bind _ = .exc y := h
    cases e : strIx x i with
    | ok s => rw [e] at h; cases h
    | exc z => exact noX_strIx z e
    | stuck => rw [e] at h; cases h
  | _ => cases h
theorem o2_ixDy : Op2 X (rIx X.K) (fun (d : Dy) (i : Int) => dyIx d i) := fun d i v w H Q r1 e2 q => by
  have r1 : DyR X.K H v d := r1
  have e2 : w = .int i := e2
  cases r1 with
  | non => exact q.elim
  | bl b => exact q.elim
  | int i => exact q.elim
  | dic h => exact q.elim
  | str x =>
    refine .inr (.inr (o2_ixStr (X := X) x i _ w H Q rfl e2 ?_))
    have q : okR ((strIx x i).bind fun s => .ok (Dy.str s)) _ := q
    cases e : strIx x i with
    | ok s =>
      rw [e] at q
      exact fun v' H' s r => q v' H' s (by rw [show v' = V.str _ from r]; exact .str _)
    | exc z => rw [e] at q; exact q.elim
    | stuck => rw [e] at q; exact q.elim
  | lst h ha => exact .inl (o2_ixL _ i _ w H Q ⟨_, _, rfl, h, dya_all2 ha⟩ e2 q)
  | tup h ha => exact .inr (.inl (o2_ixT ⟨_⟩ i _ w H Q ⟨_, _, rfl, h, dya_all2 ha⟩ e2 q))
theorem xi_ixD {m1 : Res Dy} {m2 : Res Int} (h1 : XI X W ss a m1) (h2 : XI X W ss b m2) (hs : PlainIx b := by exact fun _ _ => rfl) : XI X W ss (.Subscript a b pos) (m1.bind fun xs => m2.bind fun i => dyIx xs i) := x_ix ix_seq o2_ixDy (fun _ _ => noX_dyIx) h1 h2 hs
theorem xk_ixD {m1 : Res Dy} {m2 : Res Int} (h1 : XK X W ss a m1 fr) (h2 : XI X W ss b m2) (hs : PlainIx b := by exact fun _ _ => rfl) : XK X W ss (.Subscript a b pos) (m1.bind fun xs => m2.bind fun i => dyIx xs i) fr := by
  refine PE_imp (pe_ix ix_seq h1 h2 hs) fun σ H Q ⟨F, sf, sl, q⟩ => ⟨F, sf, sl, wpR_imp (wpR_bind q) (Same.refl H) fun d q v H1 F1 G1 s1 ex1 _ k1 => ?_⟩
  obtain ⟨v', e1, r⟩ := k1
  cases e1
  have r : DyR X.K F1 v d := r
  refine ⟨(sl.mono sf (Same.refl H)).mono s1 s1, wpR_imp (wpR_bind q) s1 fun i q w H2 s2 e2 => ?_⟩
  have fin : ∀ u x, Enc.rep X.K F1 u x → dyIx d i = .ok x → Q u H2 := fun u x ru ex => by
    rw [ex] at q
    exact q u H2 F1 noHp (s1.trans s2) ⟨ex1.le, ex1.sub.trans s2, ex1.new⟩ priv_no ⟨u, rfl, ru⟩
  cases r with
  | non => exact q.elim
  | bl b => exact q.elim
  | int i => exact q.elim
  | dic h => exact q.elim
  | str x =>
    refine .inr (.inr (o2_ixStr (X := X) x i _ w H2 Q rfl e2 ?_))
    have q : wpR X W ((strIx x i).bind fun s => .ok (Dy.str s)) σ H _ := q
    cases e : strIx x i with
    | ok s =>
      exact fun v' H' s3 r3 => by
        rw [e] at q
        exact q v' H' F1 noHp (s1.trans (s2.trans s3)) ⟨ex1.le, ex1.sub.trans (s2.trans s3), ex1.new⟩ priv_no ⟨v', rfl, by rw [show v' = V.str _ from r3]; exact .str _⟩
    | exc z => exact (noX_strIx z e).elim
    | stuck => rw [e] at q; exact q.elim
  | @lst p vs xs h ha =>
    have q : wpR X W (idx xs i) σ H _ := q
    unfold idx at q
    cases e : atI xs i with
    | none => rw [e] at q; exact q.elim
    | some x =>
      obtain ⟨u, hu, ru⟩ := atI_all2 (dya_all2 ha) e
      exact .inl ⟨p, vs, i, u, rfl, e2, SqL.of (s2 _ _ (ex1.sub _ _ h)), hu, fin u x ru (by show idx xs i = _; unfold idx; rw [e])⟩
  | @tup p vs xs h ha =>
    have q : wpR X W (idx xs i) σ H _ := q
    unfold idx at q
    cases e : atI xs i with
    | none => rw [e] at q; exact q.elim
    | some x =>
      obtain ⟨u, hu, ru⟩ := atI_all2 (dya_all2 ha) e
      exact .inr (.inl ⟨p, vs, i, u, rfl, e2, seqT (ex1.sub.trans s2) h, hu, fin u x ru (by show idx xs i = _; unfold idx; rw [e])⟩)
/-- a dict without anything -/
theorem xk_dic0 : XK X W ss (.Dict [] [] pos) (.ok Dy.dic) fr := by
  refine PE_imp (pe_dnewK) fun σ H Q ⟨F, sf, sl, q⟩ p hp => ?_
  have hF : F p = none := Same.free sf hp
  have sF := same_upd (o := HO.dK []) hF
  refine q _ _ (upd F p (.dK [])) noHp (same_upd hp) ⟨sF, fun b u z => ?_, fun b u z => ?_⟩ priv_no ⟨_, rfl, .dic upd_same⟩
  · by_cases e : b = p
    · subst e; rw [upd_same] at z ⊢; exact z
    · rw [upd_ne e] at z ⊢; exact sf _ _ z
  · by_cases e : b = p
    · subst e; exact .inr (.inl hp)
    · rw [upd_ne e] at z; exact .inl z
/-! ### lists whose items nobody changes -/
def rL (X : Cx) (W : WX) {α : Type} [Enc α] (ss : List Slot) (m : Res (List α)) : TE := fun σ H Q =>
  ∃ F, Same F H ∧ Sl X.K F H ss σ ∧ wpR X W m σ H fun as => ∀ p vs H' F', Same H H' → Ext F H F' H' → H' p = some (.lst vs) → All2 (fun v a => Enc.rep X.K F' v a) vs as → Q (.ref p) H'
def XL (X : Cx) (W : WX) {α : Type} [Enc α] (ss : List Slot) (e : Expr) (m : Res (List α)) : Prop := PE X e (rL X W ss m)
theorem xl_fr {α : Type} [Enc α] {m : Res (List α)} (h : XK X W ss e m fr) : XL X W ss e m :=
  PE_imp h fun σ H Q ⟨F, sf, sl, q⟩ => ⟨F, sf, sl, wpR_imp q (Same.refl H) fun as q v H' F' G' s ex _ ⟨v', e1, p, vs, e2, hp, r⟩ => by
    cases e1; subst e2
    exact q p vs H' F' s ex (ex.sub _ _ hp) r⟩
theorem xl_own {α : Type} [Enc α] {m : Res (List α)} (h : XK X W ss e m ow) : XL X W ss e m :=
  PE_imp h fun σ H Q ⟨F, sf, sl, q⟩ => ⟨F, sf, sl, wpR_imp q (Same.refl H) fun as q v H' F' G' s ex pr ⟨p, vs, e1, hp, r⟩ => by
    cases e1
    exact q p vs H' F' s ex (pr _ _ hp).1 r⟩
theorem xl_ow (i : Nat) {α : Type} [Enc α] {as : List α} {x : Str} {pos : Pos} (hs : ss[i]? = some (ow as) := by rfl) (hp : PE X (.Name x pos) (tVar i) := by exact pv _) : XL X W ss (.Name x pos) (.ok as) := by
  refine PE_imp hp fun σ H Q ⟨F, sf, sl, q⟩ => ?_
  obtain ⟨o, ho, p, vs, e, g, r⟩ := sl.get hs
  subst e
  exact ⟨_, ho, q p vs H F (Same.refl H) (ext_refl sf) g r⟩
theorem xk_catL {α : Type} [Enc α] {m m' : Res (List α)} (h : XL X W ss a m) (h' : XL X W ss b m') : XK X W ss (.BinOp a .Add b pos) (m.bind fun xs => m'.bind fun ys => catR xs ys) ow :=
  PE_imp (pe_op op_cat h h') fun σ H Q ⟨F, sf, sl, q⟩ => ⟨F, sf, sl, wpR_imp (wpR_bind q) (Same.refl H) fun xs q p vs H1 F1 s1 ex1 hp rv => ⟨F1, ex1.sub, sl.mono ex1.le s1, wpR_imp (wpR_bind q) s1 fun ys q p' ws H2 F2 s2 ex2 hp' rw' => by
    obtain ⟨g, q⟩ := wpR_guard q
    exact ⟨p, p', vs, ws, rfl, rfl, s2 _ _ hp, hp', by rw [rv.length, rw'.length]; exact big_line g, fun o ho => new_ow (s1.trans s2) (ex1.trans s1 ex2) ho (All2.append (rv.mono ex2.le) rw') q⟩⟩⟩
theorem xk_sliceL {α : Type} [Enc α] {lo hi : Option Expr} {p2 : Pos} {m : Res (List α)} {ml mh : Res (Option Int)} (h : XL X W ss a m) (hl : XO X W ss lo ml) (hh : XO X W ss hi mh) :
    XK X W ss (.Subscript a (.Slice lo hi none p2) pos) (m.bind fun xs => ml.bind fun l => mh.bind fun u => .ok (cut xs l u)) ow :=
  PE_imp (pe_slice sl_list h hl hh) fun σ H Q ⟨F, sf, sl, q⟩ => ⟨F, sf, sl, wpR_imp (wpR_bind q) (Same.refl H) fun xs q p vs H1 F1 s1 ex1 hp rv => ⟨(sl.mono sf (Same.refl H)).mono s1 s1, wpR_imp (wpR_bind q) s1 fun l q H2 s2 =>
    ⟨(sl.mono sf (Same.refl H)).mono (s1.trans s2) (s1.trans s2), wpR_imp (wpR_bind q) (s1.trans s2) fun u q H3 s3 => by
    have s13 := s1.trans (s2.trans s3)
    exact ⟨p, vs, rfl, SqL.of (s3 _ _ (s2 _ _ hp)), fun o ho => new_ow s13 ⟨ex1.le, ex1.sub.trans (s2.trans s3), ex1.new⟩ ho (cut_all2 rv l u) q⟩⟩⟩⟩
/-- one looked-at argument that is such a list -/
theorem pa_xl {α : Type} [Enc α] {m : Res (List α)} (h : XL X W ss a m) (he : starEach [a] X.env = (false, eval a X.env) :: starEach [] X.env := by rfl) : PA X [a] (fun σ H Q => ∃ F, Same F H ∧ Sl X.K F H ss σ ∧ wpR X W m σ H fun as => ∀ p vs H' F', Same H H' → Ext F H F' H' → H' p = some (.lst vs) → All2 (fun v a => Enc.rep X.K F' v a) vs as → Q [.ref p] H') :=
  PA_imp (pa_cons h pa_nil he) fun σ H Q ⟨F, sf, sl, q⟩ => ⟨F, sf, sl, wpR_imp q (Same.refl H) fun as q p vs H' F' s ex hp r => q p vs H' F' s ex hp r⟩
theorem xk_tupleL {α : Type} [Enc α] {m : Res (List α)} {p : Pos} (h : XL X W ss a m) (hm : X.mg "tuple" = none) (hg : Gl X "tuple" := by rfl) (he : starEach [a] X.env = (false, eval a X.env) :: starEach [] X.env := by rfl) :
    XK X W ss (.Call (.Name "tuple" p) [a] [] pos) (m.bind fun x => .ok (⟨x⟩ : Tup α)) fr :=
  PE_imp (pe_callTy call_tuple_of hg hm (by decide +kernel) (pa_xl h he) (by decide) (by decide) he rfl) fun σ H Q ⟨F, sf, sl, q⟩ => ⟨F, sf, sl, wpR_imp (wpR_bind q) (Same.refl H) fun x q p vs H1 F1 s1 ex1 hp rv => by
    refine ⟨p, vs, rfl, .inl ⟨SqL.of hp, fun o ho => ?_⟩⟩
    have hF : F1 o = none := Same.free ex1.sub ho
    have sF := same_upd (o := HO.tup vs) hF
    refine q _ _ (upd F1 o (.tup vs)) noHp (s1.trans (same_upd ho)) ⟨ex1.le.trans sF, fun b u z => ?_, fun b u z => ?_⟩ priv_no ⟨_, rfl, o, vs, rfl, SqT.of upd_same, rv.mono sF⟩
    · by_cases e : b = o
      · subst e; rw [upd_same] at z ⊢; exact z
      · rw [upd_ne e] at z ⊢; exact ex1.sub _ _ z
    · by_cases e : b = o
      · subst e; exact .inr (.inl (Same.free s1 ho))
      · rw [upd_ne e] at z; exact ex1.new _ _ z⟩
theorem xk_listL {α : Type} [Enc α] {m : Res (List α)} {p : Pos} (h : XL X W ss a m) (hm : X.mg "list" = none) (hg : Gl X "list" := by rfl) (he : starEach [a] X.env = (false, eval a X.env) :: starEach [] X.env := by rfl) :
    XK X W ss (.Call (.Name "list" p) [a] [] pos) m ow :=
  PE_imp (pe_callTy call_list_of hg hm (by decide +kernel) (pa_xl h he) (by decide) (by decide) he rfl) fun σ H Q ⟨F, sf, sl, q⟩ => ⟨F, sf, sl, wpR_imp q (Same.refl H) fun x q p vs H1 F1 s1 ex1 hp rv =>
    ⟨p, vs, rfl, .inl (SqL.of hp), fun o ho => new_ow s1 ex1 ho rv q⟩⟩
theorem xk_ixLL {α : Type} [Enc α] {m1 : Res (List α)} {m2 : Res Int} (h1 : XL X W ss a m1) (h2 : XI X W ss b m2) (hs : PlainIx b := by exact fun _ _ => rfl) : XK X W ss (.Subscript a b pos) (m1.bind fun xs => m2.bind fun i => idx xs i) fr := by
  refine PE_imp (pe_ix ix_list h1 h2 hs) fun σ H Q ⟨F, sf, sl, q⟩ => ⟨F, sf, sl, wpR_imp (wpR_bind q) (Same.refl H) fun xs q p vs H1 F1 s1 ex1 hp r => ?_⟩
  refine ⟨(sl.mono sf (Same.refl H)).mono s1 s1, wpR_imp (wpR_bind q) s1 fun i q w H2 s2 e2 => ?_⟩
  unfold idx at q
  cases e : atI xs i with
  | none => rw [e] at q; exact q.elim
  | some x =>
    rw [e] at q
    obtain ⟨u, hu, ru⟩ := atI_all2 r e
    refine ⟨p, vs, i, u, rfl, e2, SqL.of (s2 _ _ hp), hu, ?_⟩
    exact q u H2 F1 noHp (s1.trans s2) ⟨ex1.le, ex1.sub.trans s2, ex1.new⟩ priv_no ⟨u, rfl, ru⟩
/-- an unpacked tuple -/
theorem s1_unT {α : Type} [Enc α] {ts : List Expr} {n k : Nat} {tp : Pos} {u : List α → List Slot → List Slot} {m : Res (Tup α)} (h : XK X W ss e m fr) (hg : TgL X ts n u) (hc : X.calm = true := by rfl) (hn : (assignEach ts X.env).length = n := by rfl) (hst : (assignEach ts X.env).findIdx? (·.1) = none := by rfl)
    (hs : swapsWithSole [.Tuple ts k tp] e pos.line X.env = pure false := by rfl) (hw : swappedStores [.Tuple ts k tp] e X.env = pure none := by rfl) (h1 : (assignEach [.Tuple ts k tp] X.env).map (·.2) = [assign (.Tuple ts k tp) X.env] := by rfl) :
    S1 X W ss (.Assign [.Tuple ts k tp] e pos) (m.bind fun as => guardR (decide (as.l.length = n)) (.ok as.l)) (fun as => u as ss) := by
  obtain ⟨g, pg, qg⟩ := hg
  refine PS_imp (ps_asg h (pg_tup hc pg hn hst) hs hw h1) fun D σ H ⟨B, F0, F, Gs, A, q⟩ => ⟨F, A.ext.sub, A.sl, wpS_R (wpS_bind q) A.base fun as q v H' F' G' s ex _ ⟨v', e1, p, vs, e2, hp, r⟩ => ?_⟩
  cases e1
  cases hd : decide (as.l.length = n) with
  | false => rw [hd] at q; exact q.elim
  | true =>
    rw [hd] at q
    have hl := of_decide_eq_true hd
    exact ⟨p, vs, e2, seqT ex.sub hp, by rw [r.length, hl], qg as.l vs B F0 F' H' Gs ss σ _ hl (A.grow s ex) r fun σ' Gs' A' => q σ' H' F' Gs' A'⟩
/-! ### chains of three comparisons -/
def tChain3 (r r' r'' : R2) (ta tb tc td : TE) : TE := fun σ H Q => ta σ H fun x H1 => tb σ H1 fun y H2 => r x y H2 fun z H3 => ∃ k, z = .bl k ∧ (if k = true then tc σ H3 fun w H4 => r' y w H4 fun z' H5 => ∃ k', z' = .bl k' ∧ (if k' = true then td σ H5 fun u H6 => r'' w u H6 Q else Q (.bl false) H5) else Q (.bl false) H3)
theorem pe_chain3 {op op' op'' : CmpOp} {r r' r'' : R2} {d : Expr} {ta tb tc td : TE} (ho : OpR X (compareOp op) r) (ho' : OpR X (compareOp op') r') (ho'' : OpR X (compareOp op'') r'') (ha : PE X a ta) (hb : PE X b tb) (hc : PE X c tc) (hd : PE X d td)
    (hm : lastMarks [op, op', op''] [b, c, d] = false := by with_unfolding_all rfl) : PE X (.Compare a [op, op', op''] [b, c, d] pos) (tChain3 r r' r'' ta tb tc td) := by
  refine ⟨fun pins s σ H Q I h => ?_⟩
  refine Compare_chain (thn (ha.run pins s σ H _ I h) fun v s1 ⟨x, H1, I1, r1, q1⟩ => chain_link (thn (hb.run pins s1 σ H1 _ I1 q1) fun u s2 ⟨y, H2, I2, r2, q2⟩ =>
    thn (ho pins s2 σ H2 x y v u _ I2 r1 r2 q2) fun d0 s3 ⟨z, H3, I3, r3, k, e, q3⟩ => ?_)) hm
  subst e
  cases r3
  refine wpAny_truthy_bool ?_
  cases k with
  | false => exact ite_ff ⟨.bl false, H3, I3, rfl, q3⟩
  | true =>
    refine ite_tt (chain_link (thn (hc.run pins s3 σ H3 _ I3 q3) fun w' s4 ⟨z', H4, I4, r4, q4⟩ => thn (ho' pins s4 σ H4 y z' u w' _ I4 r2 r4 q4) fun d1 s5 ⟨z2, H5, I5, r5, k2, e2, q5⟩ => ?_))
    subst e2
    cases r5
    refine wpAny_truthy_bool ?_
    cases k2 with
    | false => exact ite_ff ⟨.bl false, H5, I5, rfl, q5⟩
    | true => exact ite_tt (chain_last (thn (hd.run pins s5 σ H5 _ I5 q5) fun w2 s6 ⟨z3, H6, I6, r6, q6⟩ => ho'' pins s6 σ H6 z' z3 w' w2 Q I6 r4 r6 q6))
theorem xi_chain3 {α β γ δ : Type} [Enc α] [Enc β] [Enc γ] [Enc δ] {op op' op'' : CmpOp} {r r' r'' : R2} {d : Expr} {g : α → β → Res Bool} {g' : β → γ → Res Bool} {g'' : γ → δ → Res Bool} {m1 : Res α} {m2 : Res β} {m3 : Res γ} {m4 : Res δ}
    (hr : OpR X (compareOp op) r) (bi : Bi X r g) (hr' : OpR X (compareOp op') r') (bi' : Bi X r' g') (hr'' : OpR X (compareOp op'') r'') (bi'' : Bi X r'' g'') (h1 : XI X W ss a m1) (h2 : XI X W ss b m2) (h3 : XI X W ss c m3) (h4 : XI X W ss d m4)
    (hm : lastMarks [op, op', op''] [b, c, d] = false := by with_unfolding_all rfl) :
    XI X W ss (.Compare a [op, op', op''] [b, c, d] pos) (m1.bind fun x => m2.bind fun y => (g x y).bind fun t => if t then m3.bind fun z => (g' y z).bind fun t' => if t' then m4.bind fun u => g'' z u else .ok false else .ok false) := by
  refine PE_imp (pe_chain3 hr hr' hr'' h1 h2 h3 h4 hm) fun σ H Q ⟨sl, q⟩ => ⟨sl, wpR_imp (wpR_bind q) (Same.refl H) fun x q v H1 s1 r1 => ⟨sl.mono s1 s1, wpR_imp (wpR_bind q) s1 fun y q w H2 s2 r2 => ?_⟩⟩
  have q := wpR_bind q
  refine bi.op x y v w H2 _ (Enc.mono s2 r1) r2 ?_
  unfold okR
  cases e : g x y with
  | exc z => exact bi.nx x y z e
  | stuck => rw [e] at q; exact q
  | ok t =>
    rw [e] at q
    intro v' H3 s3 r3
    have r3 : v' = .bl t := r3
    refine ⟨t, r3, ?_⟩
    cases t with
    | false =>
      rw [if_neg Bool.false_ne_true]
      exact q _ H3 (s1.trans (s2.trans s3)) rfl
    | true =>
      rw [if_pos rfl]
      have s13 := s1.trans (s2.trans s3)
      refine ⟨sl.mono s13 s13, wpR_imp (wpR_bind q) s13 fun z q w' H4 s4 r4 => ?_⟩
      have q := wpR_bind q
      refine bi'.op y z w w' H4 _ (Enc.mono (s3.trans s4) r2) r4 ?_
      unfold okR
      cases e' : g' y z with
      | exc z' => exact bi'.nx y z z' e'
      | stuck => rw [e'] at q; exact q
      | ok t' =>
        rw [e'] at q
        intro v'' H5 s5 r5
        have r5 : v'' = .bl t' := r5
        refine ⟨t', r5, ?_⟩
        have s15 := s13.trans (s4.trans s5)
        cases t' with
        | false =>
          rw [if_neg Bool.false_ne_true]
          exact q _ H5 s15 rfl
        | true =>
          rw [if_pos rfl]
          refine ⟨sl.mono s15 s15, wpR_imp (wpR_bind q) s15 fun u q w'' H6 s6 r6 => ?_⟩
          refine bi''.op z u w' w'' H6 _ (Enc.mono (s5.trans s6) r4) r6 ?_
          unfold okR
          cases e'' : g'' z u with
          | exc z' => exact bi''.nx z u z' e''
          | stuck => rw [e''] at q; exact q
          | ok t'' => rw [e''] at q; exact fun v3 H7 s7 r7 => q v3 H7 (s15.trans (s6.trans s7)) r7
/-! ### globals -/
structure GInt (mg : Str → Option Value) (x : Str) (i : Int) : Prop where
  ex : ∃ t, mg x = some (.int i t)
structure GTup (K : Frag) (mg : Str → Option Value) (x : Str) {α : Type} [Enc α] (as : Tup α) : Prop where
  ex : ∃ p vs, mg x = some (.ref p) ∧ (∀ H, SqT K H p vs) ∧ ∀ H, All2 (fun v a => Enc.rep K H v a) vs as.l
theorem xi_gint {x : Str} {i : Int} (h : GInt X.mg x i) (hg : Gl X x := by rfl) (hd : (x == ("__debug__" : Str)) = false := by decide) : XI X W ss (.Name x pos) (.ok i) := by
  obtain ⟨t, hm⟩ := h.ex
  exact xi_const (pe_glob hg hm (v := .int i) ⟨t, rfl⟩ hd) fun _ _ => rfl
theorem xi_gtup {x : Str} {α : Type} [Enc α] {as : Tup α} (h : GTup X.K X.mg x as) (hg : Gl X x := by rfl) (hd : (x == ("__debug__" : Str)) = false := by decide) : XI X W ss (.Name x pos) (.ok as) := by
  obtain ⟨p, vs, hm, hs, r⟩ := h.ex
  exact PE_imp (pe_glob hg hm (v := .ref p) rfl hd) fun σ H Q ⟨_, q⟩ => q _ H (Same.refl H) ⟨p, vs, rfl, hs H, r H⟩
end
end G

namespace G
open PySem PySem.Spec PyProof.Rows L2
/-! ### == of what is of any kind -/
mutual
def dyPy : Dy → PyData
  | .non => .none
  | .bl b => .bool b
  | .int i => .int i
  | .str x => .str x
  | .lst xs => .list (dyPys xs)
  | .tup xs => .tuple (dyPys xs)
  | .dic => .dict []
def dyPys : List Dy → List PyData
  | [] => []
  | a :: as => dyPy a :: dyPys as
end
mutual
def noDic : Dy → Bool
  | .lst xs => noDics xs
  | .tup xs => noDics xs
  | .dic => false
  | _ => true
def noDics : List Dy → Bool
  | [] => true
  | a :: as => noDic a && noDics as
end
mutual
def dyDep : Dy → Nat
  | .lst xs => dyDeps xs + 1
  | .tup xs => dyDeps xs + 1
  | .dic => 1
  | _ => 0
def dyDeps : List Dy → Nat
  | [] => 0
  | a :: as => max (dyDep a) (dyDeps as)
end
mutual
theorem dy_dp {K : Frag} {H : Hp} : ∀ {d : Dy} {v : V}, noDic d = true → DyR K H v d → Dp K H v (dyPy d)
  | .non, _, _, h => by cases h; simp only [dyPy]; exact .non
  | .bl b, _, _, h => by cases h; simp only [dyPy]; exact .bl b
  | .int i, _, _, h => by cases h; simp only [dyPy]; exact .int i
  | .str x, _, _, h => by cases h; simp only [dyPy]; exact .str x
  | .lst xs, _, n, h => by
    cases h with
    | lst h r => simp only [dyPy]; simp only [noDic] at n; exact .lst (SqL.of h) (dy_dps n r)
  | .tup xs, _, n, h => by
    cases h with
    | tup h r => simp only [dyPy]; simp only [noDic] at n; exact .tup h (dy_dps n r)
  | .dic, _, n, _ => by simp [noDic] at n
theorem dy_dps {K : Frag} {H : Hp} : ∀ {ds : List Dy} {vs : List V}, noDics ds = true → DyA K H vs ds → DpAll K H vs (dyPys ds)
  | [], _, _, h => by cases h; simp only [dyPys]; exact .nil
  | d :: ds, _, n, h => by
    cases h with
    | cons h r =>
      simp only [noDics, Bool.and_eq_true] at n
      simp only [dyPys]
      exact .cons (dy_dp n.1 h) (dy_dps n.2 r)
end
section
variable {X : Cx} {pins : List (Addr × Obj)} {σ : L2.St} {H : Hp} {s : Shared}
open PySem.SeqAt (EqAt RcAt RcNeAt)
theorem vals_get {vs : List V} {us : List Value} (r : Vals vs us) {j : Nat} (h : j < us.length) : ∃ v, vs[j]? = some v ∧ RelV v us[j] := by
  have hl : j < vs.length := by rw [r.length]; exact h
  obtain ⟨u, hu, ru⟩ := r.get (List.getElem?_eq_getElem hl)
  rw [List.getElem?_eq_getElem h] at hu
  cases hu
  exact ⟨_, List.getElem?_eq_getElem hl, ru⟩
theorem dict0_any {P P' : Program} {w w' : World} {h : Heap} {a : Addr} (d : h.DictOf (mixKind P w) a []) : h.DictOf (mixKind P' w') a [] := by
  obtain ⟨o, es, ep, ho, ex, hd, hk, hp, nd⟩ := d
  have e : es.toList = [] := by cases h : es.toList with
    | nil => rfl
    | cons a l => rw [h] at hp; cases hp
  have e : es = #[] := by cases es; simpa using e
  subst e
  exact ⟨o, #[], ep, ho, ex, hd, by intro i h; simp at h, .nil, .nil⟩
/-- two that are told alike are == at the depth n -/
def Alike (s : Shared) (n : Nat) (u u' : Value) : Prop := ∀ A : Around, A.units + n < cLine → EqAt A s u u' true
theorem alike_lists {n : Nat} {l l' : Addr} {vs vs' : List Value} (hl : s.heap.IsList l vs.toArray) (hl' : s.heap.IsList l' vs'.toArray) (hsz : vs.length = vs'.length) (h : ∀ j (h1 : j < vs.length) (h2 : j < vs'.length), Alike s n vs[j] vs'[j]) {A : Around} (hu : A.units + (n + 1) < cLine) :
    RcAt A s (.ref l) (.ref l') true ∧ RcNeAt A s (.ref l) (.ref l') false := by
  have he : ∀ j (h1 : j < vs.toArray.size) (h2 : j < vs'.toArray.size), EqAt A.in1 s vs.toArray[j] vs'.toArray[j] ((fun _ => true) j) := fun j h1 h2 => by
    have := h j (by simpa using h1) (by simpa using h2) A.in1 (by show A.units + 1 + n < cLine; omega)
    simpa using this
  have z : ((List.range vs.toArray.size).all fun _ => true) = true := List.all_eq_true.mpr fun _ _ => rfl
  refine ⟨?_, ?_⟩
  · have := RcAt.lists hl hl' (by simpa using hsz) (by omega) he
    rwa [z] at this
  · have := RcNeAt.lists hl hl' (by simpa using hsz) (by omega) he
    rwa [z] at this
theorem alike_tuples {n : Nat} {l l' : Addr} {vs vs' : List Value} (hl : s.heap.IsTuple l vs.toArray) (hl' : s.heap.IsTuple l' vs'.toArray) (hsz : vs.length = vs'.length) (h : ∀ j (h1 : j < vs.length) (h2 : j < vs'.length), Alike s n vs[j] vs'[j]) {A : Around} (hu : A.units + (n + 1) < cLine) :
    RcAt A s (.ref l) (.ref l') true ∧ RcNeAt A s (.ref l) (.ref l') false := by
  have he : ∀ j (h1 : j < vs.toArray.size) (h2 : j < vs'.toArray.size), EqAt A.in1 s vs.toArray[j] vs'.toArray[j] ((fun _ => true) j) := fun j h1 h2 => by
    have := h j (by simpa using h1) (by simpa using h2) A.in1 (by show A.units + 1 + n < cLine; omega)
    simpa using this
  have z : (((List.range (min vs.toArray.size vs'.toArray.size)).all fun _ => true) && vs.toArray.size == vs'.toArray.size) = true := by
    rw [List.all_eq_true.mpr fun _ _ => rfl]; simpa using hsz
  refine ⟨?_, ?_⟩
  · have := RcAt.tuples hl hl' (by omega) he
    rwa [z] at this
  · have := RcNeAt.tuples hl hl' (by omega) he
    rwa [z] at this
mutual
theorem dy_same (I : Inv X pins σ H s) : ∀ (d : Dy) (v v' : V) (u u' : Value) (n : Nat), DyR X.K H v d → DyR X.K H v' d → RelV v u → RelV v' u' → dyDep d ≤ n → Alike s n u u'
  | .non, _, _, u, u', n, h, h', r, r', _ => by
    cases h; cases h'
    have r : u = .none := r
    have r' : u' = .none := r'
    subst r; subst r'; exact fun A _ => EqAt.same _
  | .bl b, _, _, u, u', n, h, h', r, r', _ => by
    cases h; cases h'
    have r : u = .bool b := r
    have r' : u' = .bool b := r'
    subst r; subst r'; exact fun A _ => EqAt.same _
  | .int i, _, _, u, u', n, h, h', r, r', _ => by
    cases h; cases h'
    obtain ⟨t, rfl⟩ := (show ∃ t, u = Value.int i t from r)
    obtain ⟨t', rfl⟩ := (show ∃ t, u' = Value.int i t from r')
    intro A _
    have := EqAt.int_int (A := A) (s := s) i t i t'
    rwa [show (i == i) = true from beq_self_eq_true i] at this
  | .str x, _, _, u, u', n, h, h', r, r', _ => by
    cases h; cases h'
    obtain ⟨t, rfl⟩ := (show ∃ t, u = Value.str x t from r)
    obtain ⟨t', rfl⟩ := (show ∃ t, u' = Value.str x t from r')
    intro A _
    have := EqAt.str_str (A := A) (s := s) x t x t'
    rwa [show (x == x) = true from beq_self_eq_true x] at this
  | .lst xs, _, _, u, u', n, h, h', r, r', hn => by
    intro A hu
    cases h with
    | @lst p vs _ h ha =>
    cases h' with
    | @lst p' vs' _ h' ha' =>
    cases r; cases r'
    by_cases e : p = p'
    · subst e; exact EqAt.same _
    · simp only [dyDep] at hn
      obtain ⟨m, rfl⟩ : ∃ m, n = m + 1 := ⟨n - 1, by omega⟩
      obtain ⟨its, r1, p1, _⟩ := I.list (SqL.of h)
      obtain ⟨its', r2, p2, _⟩ := I.list (SqL.of h')
      have l1 := (dya_all2 ha).length
      have l2 := (dya_all2 ha').length
      have l3 := r1.length
      have l4 := r2.length
      exact EqAt.of_refs e (alike_lists (n := m) p1.isList p2.isList (by omega) (fun j h1 h2 => by
        obtain ⟨v, hv, rv⟩ := vals_get r1 h1
        obtain ⟨v', hv', rv'⟩ := vals_get r2 h2
        exact dy_sames I xs vs vs' j v v' _ _ m ha ha' hv hv' rv rv' (by omega)) hu).1
  | .tup xs, _, _, u, u', n, h, h', r, r', hn => by
    intro A hu
    cases h with
    | @tup p vs _ h ha =>
    cases h' with
    | @tup p' vs' _ h' ha' =>
    cases r; cases r'
    by_cases e : p = p'
    · subst e; exact EqAt.same _
    · simp only [dyDep] at hn
      obtain ⟨m, rfl⟩ : ∃ m, n = m + 1 := ⟨n - 1, by omega⟩
      obtain ⟨its, r1, p1, _⟩ := I.tuple h
      obtain ⟨its', r2, p2, _⟩ := I.tuple h'
      have l1 := (dya_all2 ha).length
      have l2 := (dya_all2 ha').length
      have l3 := r1.length
      have l4 := r2.length
      exact EqAt.of_refs e (alike_tuples (n := m) p1 p2 (by omega) (fun j h1 h2 => by
        obtain ⟨v, hv, rv⟩ := vals_get r1 h1
        obtain ⟨v', hv', rv'⟩ := vals_get r2 h2
        exact dy_sames I xs vs vs' j v v' _ _ m ha ha' hv hv' rv rv' (by omega)) hu).1
  | .dic, _, _, u, u', n, h, h', r, r', hn => by
    intro A hu
    cases h with
    | @dic p h =>
    cases h' with
    | @dic p' h' =>
    cases r; cases r'
    by_cases e : p = p'
    · subst e; exact EqAt.same _
    · simp only [dyDep] at hn
      obtain ⟨_, y1, vs1, k1, d1⟩ := dk_of I.hok h
      obtain ⟨_, y2, vs2, k2, d2⟩ := dk_of I.hok h'
      have e1 : vs1 = [] := List.eq_nil_of_length_eq_zero (by rw [← k1.length]; rfl)
      have e2 : vs2 = [] := List.eq_nil_of_length_eq_zero (by rw [← k2.length]; rfl)
      subst e1; subst e2
      refine EqAt.of_refs e fun P w E Q q => ?_
      exact PySem.W.keq_eqIn (knd := mixKind P w) (r := true) y1 y2 (dict0_any d1) (dict0_any d2) (by omega) (fun _ => .nil) q
theorem dy_sames (I : Inv X pins σ H s) : ∀ (ds : List Dy) (vs vs' : List V) (j : Nat) (v v' : V) (u u' : Value) (n : Nat), DyA X.K H vs ds → DyA X.K H vs' ds → vs[j]? = some v → vs'[j]? = some v' → RelV v u → RelV v' u' → dyDeps ds ≤ n → Alike s n u u'
  | [], _, _, j, v, v', u, u', n, h, h', e, e', r, r', hn => by cases h; simp at e
  | d :: ds, _, _, 0, v, v', u, u', n, h, h', e, e', r, r', hn => by
    cases h with
    | cons h _ =>
    cases h' with
    | cons h' _ =>
    simp only [dyDeps] at hn
    cases e; cases e'
    exact dy_same I d _ _ u u' n h h' r r' (by omega)
  | d :: ds, _, _, j + 1, v, v', u, u', n, h, h', e, e', r, r', hn => by
    cases h with
    | cons _ h =>
    cases h' with
    | cons _ h' =>
    simp only [dyDeps] at hn
    exact dy_sames I ds _ _ j v v' u u' n h h' e e' r r' (by omega)
end
end
section
variable {X : Cx}
def rSame (K : Frag) (eq : Bool) : R2 := fun x y H Q => ∃ d, DyR K H x d ∧ DyR K H y d ∧ dyDep d ≤ 60 ∧ Q (.bl eq) H
theorem op_sameD (hu : X.A.units + 64 < cLine) : OpR X (compareOp .Eq) (rSame X.K true) := by
  intro pins s σ H x y v u Q I rx ry h
  obtain ⟨d, hd, he, dd, q⟩ := h
  have sc : scal x y = true → x = y → wpAny (model X.prog X.w) X.A (compareOp .Eq v u) (EP X pins σ Q) X.xe s := fun hs e => op_eq pins s σ H x y v u Q I rx ry ⟨hs, by rw [decide_eq_true e]; exact q⟩
  cases d with
  | non => cases hd; cases he; exact sc rfl rfl
  | bl b => cases hd; cases he; exact sc rfl rfl
  | int i => cases hd; cases he; exact sc rfl rfl
  | str z => cases hd; cases he; exact sc rfl rfl
  | dic =>
    cases hd with
    | dic h =>
    cases he with
    | dic h' =>
    exact op_eq_dictA (by omega) pins s σ H _ _ v u Q I rx ry ⟨_, _, [], [], rfl, rfl, h, h', rfl, (fun p m => by cases m), q⟩
  | lst xs =>
    simp only [dyDep] at dd
    cases hd with
    | @lst p vs _ h ha =>
    cases he with
    | @lst p' vs' _ h' ha' =>
    cases rx; cases ry
    obtain ⟨its, r1, p1, _⟩ := I.list (SqL.of h)
    obtain ⟨its', r2, p2, _⟩ := I.list (SqL.of h')
    have l1 := (dya_all2 ha).length
    have l2 := (dya_all2 ha').length
    have l3 := r1.length
    have l4 := r2.length
    exact (alike_lists (n := 60) p1.isList p2.isList (by omega) (fun j h1 h2 => by
        obtain ⟨v, hv, rv⟩ := vals_get r1 h1
        obtain ⟨v', hv', rv'⟩ := vals_get r2 h2
        exact dy_sames I xs vs vs' j v v' _ _ 60 ha ha' hv hv' rv rv' (by omega)) (by omega)).1 X.prog X.w _ _ ⟨.bl true, H, I, rfl, q⟩
  | tup xs =>
    simp only [dyDep] at dd
    cases hd with
    | @tup p vs _ h ha =>
    cases he with
    | @tup p' vs' _ h' ha' =>
    cases rx; cases ry
    obtain ⟨its, r1, p1, _⟩ := I.tuple h
    obtain ⟨its', r2, p2, _⟩ := I.tuple h'
    have l1 := (dya_all2 ha).length
    have l2 := (dya_all2 ha').length
    have l3 := r1.length
    have l4 := r2.length
    exact (alike_tuples (n := 60) p1 p2 (by omega) (fun j h1 h2 => by
        obtain ⟨v, hv, rv⟩ := vals_get r1 h1
        obtain ⟨v', hv', rv'⟩ := vals_get r2 h2
        exact dy_sames I xs vs vs' j v v' _ _ 60 ha ha' hv hv' rv rv' (by omega)) (by omega)).1 X.prog X.w _ _ ⟨.bl true, H, I, rfl, q⟩
theorem op_nsameD (hu : X.A.units + 64 < cLine) : OpR X (compareOp .NotEq) (rSame X.K false) := by
  intro pins s σ H x y v u Q I rx ry h
  obtain ⟨d, hd, he, dd, q⟩ := h
  have sc : scal x y = true → x = y → wpAny (model X.prog X.w) X.A (compareOp .NotEq v u) (EP X pins σ Q) X.xe s := fun hs e => op_ne pins s σ H x y v u Q I rx ry ⟨hs, by rw [decide_eq_true e]; exact q⟩
  cases d with
  | non => cases hd; cases he; exact sc rfl rfl
  | bl b => cases hd; cases he; exact sc rfl rfl
  | int i => cases hd; cases he; exact sc rfl rfl
  | str z => cases hd; cases he; exact sc rfl rfl
  | dic =>
    cases hd with
    | dic h =>
    cases he with
    | dic h' =>
    exact op_ne_dictA (by omega) pins s σ H _ _ v u Q I rx ry ⟨_, _, [], [], rfl, rfl, h, h', rfl, (fun p m => by cases m), q⟩
  | lst xs =>
    simp only [dyDep] at dd
    cases hd with
    | @lst p vs _ h ha =>
    cases he with
    | @lst p' vs' _ h' ha' =>
    cases rx; cases ry
    obtain ⟨its, r1, p1, _⟩ := I.list (SqL.of h)
    obtain ⟨its', r2, p2, _⟩ := I.list (SqL.of h')
    have l1 := (dya_all2 ha).length
    have l2 := (dya_all2 ha').length
    have l3 := r1.length
    have l4 := r2.length
    exact (alike_lists (n := 60) p1.isList p2.isList (by omega) (fun j h1 h2 => by
        obtain ⟨v, hv, rv⟩ := vals_get r1 h1
        obtain ⟨v', hv', rv'⟩ := vals_get r2 h2
        exact dy_sames I xs vs vs' j v v' _ _ 60 ha ha' hv hv' rv rv' (by omega)) (by omega)).2 X.prog X.w _ _ ⟨.bl false, H, I, rfl, q⟩
  | tup xs =>
    simp only [dyDep] at dd
    cases hd with
    | @tup p vs _ h ha =>
    cases he with
    | @tup p' vs' _ h' ha' =>
    cases rx; cases ry
    obtain ⟨its, r1, p1, _⟩ := I.tuple h
    obtain ⟨its', r2, p2, _⟩ := I.tuple h'
    have l1 := (dya_all2 ha).length
    have l2 := (dya_all2 ha').length
    have l3 := r1.length
    have l4 := r2.length
    exact (alike_tuples (n := 60) p1 p2 (by omega) (fun j h1 h2 => by
        obtain ⟨v, hv, rv⟩ := vals_get r1 h1
        obtain ⟨v', hv', rv'⟩ := vals_get r2 h2
        exact dy_sames I xs vs vs' j v v' _ _ 60 ha ha' hv hv' rv rv' (by omega)) (by omega)).2 X.prog X.w _ _ ⟨.bl false, H, I, rfl, q⟩
/-- == -/
def eqDy (d e : Dy) : Res Bool := if d = e ∧ dyDep d ≤ 60 then .ok true else guardR (noDic d && noDic e && SeqAt.shaped (dyPy d) && SeqAt.shaped (dyPy e)) (.ok (PyData.eqv (dyPy d) (dyPy e)))
def neDy (d e : Dy) : Res Bool := if d = e ∧ dyDep d ≤ 60 then .ok false else guardR (noDic d && noDic e && SeqAt.shaped (dyPy d) && SeqAt.shaped (dyPy e)) (.ok (!PyData.eqv (dyPy d) (dyPy e)))
theorem b_eqDy : Bi X (fun x y H Q => rSame X.K true x y H Q ∨ rEqD X.K x y H Q) (fun (d e : Dy) => eqDy d e) := ⟨fun d e v w H Q r1 r2 q => by
  have r1 : DyR X.K H v d := r1
  have r2 : DyR X.K H w e := r2
  have q : okR (eqDy d e) _ := q
  unfold eqDy at q
  by_cases h : d = e ∧ dyDep d ≤ 60
  · rw [if_pos h] at q
    exact .inl ⟨d, r1, by rw [h.1]; exact r2, h.2, q _ H (Same.refl H) rfl⟩
  · rw [if_neg h] at q
    cases g : (noDic d && noDic e && SeqAt.shaped (dyPy d) && SeqAt.shaped (dyPy e)) with
    | false => rw [g] at q; exact q.elim
    | true =>
      rw [g] at q
      simp only [Bool.and_eq_true] at g
      exact .inr ⟨_, _, dy_dp g.1.1.1 r1, dy_dp g.1.1.2 r2, g.1.2, g.2, q _ H (Same.refl H) rfl⟩, fun d e => by
  show NoX (eqDy d e)
  unfold eqDy
  split
  · exact noX_ok
  · exact noX_guard⟩
theorem b_neDy : Bi X (fun x y H Q => rSame X.K false x y H Q ∨ rNeD X.K x y H Q) (fun (d e : Dy) => neDy d e) := ⟨fun d e v w H Q r1 r2 q => by
  have r1 : DyR X.K H v d := r1
  have r2 : DyR X.K H w e := r2
  have q : okR (neDy d e) _ := q
  unfold neDy at q
  by_cases h : d = e ∧ dyDep d ≤ 60
  · rw [if_pos h] at q
    exact .inl ⟨d, r1, by rw [h.1]; exact r2, h.2, q _ H (Same.refl H) rfl⟩
  · rw [if_neg h] at q
    cases g : (noDic d && noDic e && SeqAt.shaped (dyPy d) && SeqAt.shaped (dyPy e)) with
    | false => rw [g] at q; exact q.elim
    | true =>
      rw [g] at q
      simp only [Bool.and_eq_true] at g
      exact .inr ⟨_, _, dy_dp g.1.1.1 r1, dy_dp g.1.1.2 r2, g.1.2, g.2, q _ H (Same.refl H) rfl⟩, fun d e => by
  show NoX (neDy d e)
  unfold neDy
  split
  · exact noX_ok
  · exact noX_guard⟩
theorem op_eqDy (hu : X.A.units + 64 < cLine) : OpR X (compareOp .Eq) (fun x y H Q => rSame X.K true x y H Q ∨ rEqD X.K x y H Q) := (op_sameD hu).or (op_eqD hu)
theorem op_neDy (hu : X.A.units + 64 < cLine) : OpR X (compareOp .NotEq) (fun x y H Q => rSame X.K false x y H Q ∨ rNeD X.K x y H Q) := (op_nsameD hu).or (op_neD hu)
end
end G

namespace G
open PySem PySem.Spec PyProof.Rows L2
/-! ### a text some times -/
def repS (x : Str) (k : Int) : Str := ⟨((List.replicate k.toNat x.cps.toList).flatten).toArray⟩
theorem foldl_cps (l : List (Array Nat)) : ∀ a : Array Nat, (l.foldl (· ++ ·) a).toList = a.toList ++ (l.map Array.toList).flatten := by
  induction l with
  | nil => intro a; simp
  | cons b l ih => intro a; rw [List.foldl_cons, ih]; simp
theorem txt_mul (x : Str) (k : Int) : Txt.mul x k = repS x k := by
  unfold Txt.mul repS
  by_cases h : k < 1
  · rw [if_pos h]
    have : k.toNat = 0 := by omega
    rw [this]; rfl
  · rw [if_neg h]
    by_cases h2 : (k == 1 || x.length == 0) = true
    · rw [if_pos h2]
      rw [Bool.or_eq_true] at h2
      rcases h2 with h2 | h2
      · have : k.toNat = 1 := by have := eq_of_beq h2; omega
        rw [this]
        cases x with
        | mk c => simp
      · have hz : x.cps.toList = [] := by
          have := eq_of_beq h2
          have : x.cps.size = 0 := this
          rw [← Array.length_toList] at this
          exact List.eq_nil_of_length_eq_zero this
        rw [hz]
        cases x with
        | mk c =>
          have hz : c.toList = [] := hz
          have : c = #[] := by cases c; simpa using hz
          subst this
          congr 1
          have : (List.replicate k.toNat ([] : List Nat)).flatten = [] := by
            induction k.toNat with
            | zero => rfl
            | succ n ih => rw [List.replicate_succ, List.flatten_cons, ih]; rfl
          rw [this]
    · rw [if_neg h2]
      congr 1
      apply Array.ext'
      rw [foldl_cps]
      simp
def mulS (x : Str) (k : Int) : Res Str := guardR (decide (0 ≤ k) && decide (k ≤ 1000000) && big (x.length * k.toNat)) (.ok (repS x k))
theorem op_mulStr {X : Cx} : OpR X (binaryOp .Mult) (fun x y H Q => ∃ z k, x = .str z ∧ y = .int k ∧ MulOk z k ∧ Q (.str (Txt.mul z k)) H) := by
  intro pins s σ H x y v u Q I rx ry h
  obtain ⟨z, k, rfl, rfl, hk, q⟩ := h
  obtain ⟨t, rfl⟩ := (show ∃ t, v = Value.str z t from rx)
  obtain ⟨t', rfl⟩ := (show ∃ t, u = Value.int k t from ry)
  exact SB.mul hk fun t' k' => ⟨.str _, H, I.tok _, ⟨_, rfl⟩, q⟩
theorem b_mulS {X : Cx} : Bi X (fun x y H Q => ∃ z k, x = .str z ∧ y = .int k ∧ MulOk z k ∧ Q (.str (Txt.mul z k)) H) mulS := ⟨fun a k v w H Q r1 r2 q => by
  have q : okR (mulS a k) _ := q
  unfold mulS at q
  cases g : (decide (0 ≤ k) && decide (k ≤ 1000000) && big (a.length * k.toNat)) with
  | false => rw [g] at q; exact q.elim
  | true =>
    rw [g] at q
    simp only [Bool.and_eq_true, decide_eq_true_eq] at g
    obtain ⟨⟨g1, g2⟩, g3⟩ := g
    have g3' : a.length * k.toNat ≤ 1000000 := of_decide_eq_true g3
    refine ⟨a, k, r1, r2, ⟨by rw [decide_eq_false (by omega), decide_eq_false (by omega)]; rfl, fun h1 _ => ?_, fun _ _ => ?_⟩, q _ H (Same.refl H) (by show V.str _ = V.str _; rw [txt_mul])⟩
    · have hm : (a.length : Int) * k ≤ 1000000 := by
        have : (k.toNat : Int) = k := by omega
        rw [← this, ← Int.natCast_mul]; omega
      have : (2 ^ 63 - 1 : Int) / k ≥ a.length := by
        refine (Int.le_ediv_iff_mul_le (by omega)).mpr ?_
        omega
      omega
    · have := big_line g3
      unfold PySem.Builtin.Str.tooLong
      exact decide_eq_false (by omega)
    , fun _ _ => noX_guard⟩
theorem hu0 {A : Around} {k : Nat} (hr : Room k A) : A.units < cLine := by have := hr.un; omega
/-! ### tuples of two ints in order -/
structure I2 where
  a : Int
  b : Int
instance : Enc I2 := ⟨fun K H v x => ∃ p, v = .ref p ∧ SqT K H p [.int x.a, .int x.b], fun s ⟨p, e, h⟩ => ⟨p, e, seqT s h⟩⟩
def dyI2 : Dy → Res I2 | .tup [.int a, .int b] => .ok ⟨a, b⟩ | _ => .stuck
theorem cI2_rep {K : Frag} {H : Hp} {v : V} {d : Dy} {b : I2} (h : dyI2 d = .ok b) (r : DyR K H v d) : Enc.rep K H v b := by
  unfold dyI2 at h
  split at h
  · rename_i i j
    cases h
    cases r with
    | tup hp ha =>
      cases ha with
      | cons h1 ha =>
        cases ha with
        | cons h2 ha =>
          cases ha
          cases h1
          cases h2
          exact ⟨_, rfl, hp⟩
  · cases h
theorem cI2 : Cast dyI2 := ⟨cI2_rep, fun d x h => by
  unfold dyI2 at h
  split at h <;> cases h⟩
def rGeT (K : Frag) : R2 := fun x y H Q => ∃ (a b : Addr) (i j k l : Int), x = .ref a ∧ y = .ref b ∧ SqT K H a [.int i, .int j] ∧ SqT K H b [.int k, .int l] ∧ Q (.bl (leP (k, l) (i, j))) H
theorem op_geT {X : Cx} (hu : X.A.units < cLine) : OpR X (compareOp .GtE) (rGeT X.K) := by
  intro pins s σ H x y v u Q I rx ry h
  obtain ⟨a, b, i, j, k, l, rfl, rfl, ha, hb, q⟩ := h
  cases rx
  cases ry
  obtain ⟨its, r1, p1, _⟩ := I.tuple ha
  obtain ⟨its2, r2, p2, _⟩ := I.tuple hb
  have i1 : IntsAre its [i, j] := Vals.ints (ns := [i, j]) r1
  have i2 : IntsAre its2 [k, l] := Vals.ints (ns := [k, l]) r2
  have e1 : its.toArray.size = 2 := by rw [List.size_toArray]; exact i1.length
  have e2 : its2.toArray.size = 2 := by rw [List.size_toArray]; exact i2.length
  have at1 : ∀ n (h1 : n < its.toArray.size), ∃ t, its.toArray[n] = .int ([i, j].getD n 0) t := fun n h1 => PyProof.Rows.IntsAre.int_at i1 _ _ (by simp at h1; simp [h1])
  have at2 : ∀ n (h1 : n < its2.toArray.size), ∃ t, its2.toArray[n] = .int ([k, l].getD n 0) t := fun n h1 => PyProof.Rows.IntsAre.int_at i2 _ _ (by simp at h1; simp [h1])
  have R := Ob.RcOp.tuples_ge (A := X.A) (s := s) (e := fun n => decide ([i, j].getD n 0 = [k, l].getD n 0)) (r := fun n => decide ([k, l].getD n 0 ≤ [i, j].getD n 0)) p1 p2 hu (fun n h1 h2 => by
    obtain ⟨t, et⟩ := at1 n h1
    obtain ⟨t', et'⟩ := at2 n h2
    rw [et, et']
    have z : ([i, j].getD n 0 == [k, l].getD n 0) = decide ([i, j].getD n 0 = [k, l].getD n 0) := by
      by_cases q : [i, j].getD n 0 = [k, l].getD n 0
      · rw [decide_eq_true q]; exact beq_iff_eq.mpr q
      · rw [decide_eq_false q]; exact beq_eq_false_iff_ne.mpr q
    rw [← z]
    exact SeqAt.EqAt.int_int _ _ _ _) (fun n h1 h2 _ => by
    obtain ⟨t, et⟩ := at1 n h1
    obtain ⟨t', et'⟩ := at2 n h2
    rw [et, et']
    exact Ob.RcOp.ge_int _ _ _ _)
  rw [e1, e2] at R
  have hz : Ob.lexAt (fun n => decide ([i, j].getD n 0 = [k, l].getD n 0)) (fun n => decide ([k, l].getD n 0 ≤ [i, j].getD n 0)) (decide (2 ≥ 2)) 0 (min 2 2) = leP (k, l) (i, j) := by
    show (if decide (i = k) = true then (if decide (j = l) = true then true else decide (l ≤ j)) else decide (k ≤ i)) = (decide (k < i) || (decide (k = i) && decide (l ≤ j)))
    by_cases h1 : i = k
    · subst h1
      by_cases h2 : j = l
      · subst h2; simp
      · simp [h2]
    · simp only [decide_eq_true_eq]
      rw [if_neg h1, decide_eq_false (fun e : k = i => h1 e.symm), Bool.false_and, Bool.or_false, Bool.eq_iff_iff, decide_eq_true_iff, decide_eq_true_iff]
      omega
  rw [hz] at R
  have z : wpAny (model X.prog X.w) X.A (compareOp .GtE (.ref a) (.ref b)) (EP X pins σ Q) X.xe s := R X.prog X.w X.xe (EP X pins σ Q) ⟨.bl _, H, I, rfl, q⟩
  exact z
theorem b_geI2 {X : Cx} : Bi X (rGeT X.K) (fun x y : I2 => Res.ok (leP (y.a, y.b) (x.a, x.b))) := ⟨fun x y v w H Q ⟨p, e1, h1⟩ ⟨p', e2, h2⟩ q => ⟨p, p', x.a, x.b, y.a, y.b, e1, e2, h1, h2, q _ H (Same.refl H) rfl⟩, fun _ _ => noX_ok⟩
section
variable {X : Cx} {W : WX} {ss : List Slot} {pos : Pos} {a b c e : Expr} {es : List Expr}
theorem xt_isND {m : Res Dy} {j : Nat} {p : Pos} (h : XI X W ss a m) : XT X W ss (.Compare a [.Is] [.Constant .none j p] pos) (m.bind fun o => .ok (dyNon o)) :=
  PT_imp (pt_cmp (pc_isN h)) fun σ H Q ⟨sl, q⟩ => ⟨sl, wpR_imp (wpR_bind q) (Same.refl H) fun o q v H1 s1 r1 => ⟨_, rfl, by rw [dyNon_v r1]; exact q H1 s1⟩⟩
theorem xt_notND {m : Res Dy} {j : Nat} {p : Pos} (h : XI X W ss a m) : XT X W ss (.Compare a [.IsNot] [.Constant .none j p] pos) (m.bind fun o => .ok (!dyNon o)) :=
  PT_imp (pt_cmp (pc_notN h)) fun σ H Q ⟨sl, q⟩ => ⟨sl, wpR_imp (wpR_bind q) (Same.refl H) fun o q v H1 s1 r1 => ⟨_, rfl, by rw [dyNon_v r1]; exact q H1 s1⟩⟩
/-- a tuple of one kind that is kept -/
theorem xk_tupK {n k : Nat} {α : Type} [Enc α] {m : Res (Hom n α)} (h : XAK X W ss es m) (hn : n ≤ 1000 := by decide) : XK X W ss (.Tuple es k pos) (m.bind fun x => .ok (⟨x.l⟩ : Tup α)) fr := by
  refine PE_imp (pe_tup h) fun σ H Q ⟨F, sf, sl, q⟩ => ⟨F, sf, sl, wpR_imp (wpR_bind q) (Same.refl H) fun x q vs H1 F1 s1 ex1 ⟨el, r1⟩ => ?_⟩
  have hv : vs.length = x.l.length := All2.length r1
  refine ⟨smallLine (by omega), fun p hp => ?_⟩
  have hF : F1 p = none := Same.free ex1.sub hp
  have sF := same_upd (o := HO.tup vs) hF
  refine q _ _ (upd F1 p (.tup vs)) noHp (s1.trans (same_upd hp)) ⟨ex1.le.trans sF, fun b u z => ?_, fun b u z => ?_⟩ priv_no ⟨_, rfl, p, vs, rfl, SqT.of upd_same, All2.mono sF r1⟩
  · by_cases e : b = p
    · subst e; rw [upd_same] at z ⊢; exact z
    · rw [upd_ne e] at z ⊢; exact ex1.sub _ _ z
  · by_cases e : b = p
    · subst e; exact .inr (.inl (Same.free s1 hp))
    · rw [upd_ne e] at z; exact ex1.new _ _ z
end
/-! ### globals of the text -/
theorem gint_mk {K : Frag} {mg : PySem.Str → Option Value} {h : Heap} {x : PySem.Str} {i : Int} {t : Tok} (X : K.In h) (G : h.Ns mainGlobals mg) (a : PySem.W.nsIn K mainGlobals x = some (some (.int i t))) : GInt mg x i := ⟨t, PySem.W.mg_of X G a⟩
theorem gtup_mk {K : Frag} {mg : PySem.Str → Option Value} {h : Heap} {x : PySem.Str} {p : Addr} {od : Option Addr} {its : List Value} {n : Nat} {osl : Array (Option Value)} {as : List Str} (X : K.In h) (G : h.Ns mainGlobals mg) (a : PySem.W.nsIn K mainGlobals x = some (some (.ref p)))
    (l : K.lookup p = some ⟨.type "tuple", od, .seq its.toArray n, osl⟩) (v : Vals (as.map V.str) its) (hl : as.length ≤ 1000) : GTup K mg x (⟨as⟩ : Tup Str) :=
  ⟨p, as.map V.str, PySem.W.mg_of X G a, fun H => .inr ⟨_, its.toArray, n, l, rfl, rfl, by
    have := v.length
    rw [List.length_map] at this
    rw [List.size_toArray, ← this]
    exact smallLine hl, by simpa using v⟩, fun H => All2.of_map⟩
end G

namespace G
open PySem PySem.Spec PyProof.Rows L2
/-! ### the signs of a text as a list or a tuple -/
theorem vals_of_get : ∀ {vs : List V} {us : List Value}, vs.length = us.length → (∀ (j : Nat) (v : V) (u : Value), vs[j]? = some v → us[j]? = some u → RelV v u) → Vals vs us
  | [], [], _, _ => .nil
  | v :: vs, u :: us, l, h => .cons (h 0 v u rfl rfl) (vals_of_get (Nat.succ.inj l) fun j a b x y => h (j + 1) a b x y)
  | [], _ :: _, l, _ => by cases l
  | _ :: _, [], l, _ => by cases l
theorem vals_signs {x : Str} {acc : Array Value} (h : ItemsOf (SignAt x) acc x.cps.size) : Vals ((signsOf x).map V.str) acc.toList := by
  refine vals_of_get ?_ fun j v u hv hu => ?_
  · rw [List.length_map]; unfold signsOf
    rw [List.length_map, Array.length_toList, Array.length_toList, h.1]
  · obtain ⟨c, t, hc, rfl⟩ := h.2 j u (by rw [← Array.getElem?_toList]; exact hu)
    unfold signsOf at hv
    rw [List.getElem?_map, List.getElem?_map, Array.getElem?_toList, hc] at hv
    cases hv
    exact ⟨t, rfl⟩
theorem signsOf_len (x : Str) : (signsOf x).length = x.length := by unfold signsOf; rw [List.length_map, Array.length_toList]; rfl
section
variable {X : Cx}
theorem call_listStr (hc : X.calm = true) : CallR X (.type "list") (fun xs H Q => ∃ x, xs = [.str x] ∧ x.length ≤ sizeLine ∧ ∀ p, H p = none → Q (.ref p) (upd H p (.lst ((signsOf x).map V.str)))) := by
  intro pins s σ H xs us Q I r h
  obtain ⟨x, rfl, hx, q⟩ := h
  obtain ⟨u, rfl, rx⟩ := vals1 r
  obtain ⟨t, rfl⟩ := (show ∃ t, u = Value.str x t from rx)
  refine call_list_str (I.ok.hd hc) x t (hn := hx) fun h' tk acc c kp hD hI => ?_
  have hv := vals_signs hI
  have hz : ((signsOf x).map V.str).length ≤ sizeLine := by rw [List.length_map, signsOf_len]; exact hx
  have hg : h'.get? s.heap.objs.size = some { cls := .type "list", dict := none, data := .seq acc.toList.toArray c, slots := #[] } := by rw [Array.toArray_toList]; exact hD
  exact ⟨.ref s.heap.objs.size, _, I.laid (t' := tk) kp (Nat.le_refl _) (show ObjOk X.prog X.w _ h' _ (.lst _) from ⟨hz, acc.toList, c, hv, hg⟩), rfl, q _ (I.hok.fresh (Nat.le_refl _))⟩
theorem call_tupleStr (hc : X.calm = true) : CallR X (.type "tuple") (fun xs H Q => ∃ x, xs = [.str x] ∧ x.length ≤ sizeLine ∧ ∀ p, H p = none → Q (.ref p) (upd H p (.tup ((signsOf x).map V.str)))) := by
  intro pins s σ H xs us Q I r h
  obtain ⟨x, rfl, hx, q⟩ := h
  obtain ⟨u, rfl, rx⟩ := vals1 r
  obtain ⟨t, rfl⟩ := (show ∃ t, u = Value.str x t from rx)
  refine call_tuple_str (I.ok.hd hc) x t (hsz := hx) fun h' tk acc kp hI => ?_
  have hv := vals_signs hI
  have hz : ((signsOf x).map V.str).length ≤ sizeLine := by rw [List.length_map, signsOf_len]; exact hx
  have I1 : Inv X pins σ H { s with heap := h' } := I.kept (t' := s.toks) kp
  have I2 : Inv X pins σ (upd H h'.objs.size (.tup ((signsOf x).map V.str))) { s with heap := h'.push { cls := .type "tuple", data := .seq acc.toList.toArray }, toks := tk } :=
    I1.laid (t' := tk) (fun b o e => Heap.get?_push_of_some _ e) (Nat.le_refl _) (show ObjOk X.prog X.w _ _ _ (.tup _) from ⟨hz, acc.toList, hv, IsTup.new _ _⟩)
  rw [Array.toArray_toList] at I2
  exact ⟨.ref h'.objs.size, _, I2, rfl, q _ (I1.hok.fresh (Nat.le_refl _))⟩
variable {W : WX} {ss : List Slot} {pos : Pos} {a : Expr}
def listS (x : Str) : Res (List Str) := guardR (big x.length) (.ok (signsOf x))
theorem xk_listS {m : Res Str} {p : Pos} (h : XI X W ss a m) (hm : X.mg "list" = none) (hc : X.calm = true := by rfl) (hg : Gl X "list" := by rfl) (he : starEach [a] X.env = (false, eval a X.env) :: starEach [] X.env := by rfl) :
    XK X W ss (.Call (.Name "list" p) [a] [] pos) (m.bind listS) ow :=
  PE_imp (pe_callTy (call_listStr hc) hg hm (by decide +kernel) (pa_cons h pa_nil he) (by decide) (by decide) he rfl) fun σ H Q ⟨F, sf, sl, q⟩ => ⟨sl.mono sf (Same.refl H), wpR_imp (wpR_bind q) (Same.refl H) fun x q v H1 s1 r1 => by
    obtain ⟨g, q⟩ := wpR_guard q
    exact ⟨x, by rw [show v = V.str x from r1], big_line g, fun o ho => new_owI sf s1 ho (All2.of_map (f := V.str)) q⟩⟩
theorem xi_tupS {m : Res Str} {p : Pos} (h : XI X W ss a m) (hm : X.mg "tuple" = none) (hc : X.calm = true := by rfl) (hg : Gl X "tuple" := by rfl) (he : starEach [a] X.env = (false, eval a X.env) :: starEach [] X.env := by rfl) :
    XI X W ss (.Call (.Name "tuple" p) [a] [] pos) ((m.bind listS).bind fun x => .ok (⟨x⟩ : Tup Str)) :=
  PE_imp (pe_callTy (call_tupleStr hc) hg hm (by decide +kernel) (pa_cons h pa_nil he) (by decide) (by decide) he rfl) fun σ H Q ⟨sl, q⟩ => ⟨sl, wpR_imp (wpR_bind (wpR_bind q)) (Same.refl H) fun x q v H1 s1 r1 => by
    cases g : big x.length with
    | false =>
      have q : wpR X W (listS x) σ H _ := q
      unfold listS at q
      rw [g] at q; exact q.elim
    | true =>
      have q : wpR X W (listS x) σ H _ := q
      unfold listS at q
      rw [g] at q
      exact ⟨x, by rw [show v = V.str x from r1], big_line g, fun o ho => q _ _ (s1.trans (same_upd ho)) ⟨o, _, rfl, SqT.of upd_same, All2.of_map⟩⟩⟩
theorem all2_dy {α : Type} [Enc α] [ToDy α] {K : Frag} {H : Hp} : ∀ {vs : List V} {as : List α}, All2 (fun v a => Enc.rep K H v a) vs as → All2 (fun v (d : Dy) => Enc.rep K H v d) vs (as.map ToDy.dy)
  | [], [], _ => trivial
  | _ :: _, _ :: _, ⟨h, t⟩ => ⟨ToDy.rep h, all2_dy t⟩
  | [], _ :: _, h => h.elim
  | _ :: _, [], h => h.elim
theorem xl_dy {α : Type} [Enc α] [ToDy α] {m : Res (List α)} (h : XL X W ss a m) : XL X W ss a (m.bind fun xs => .ok (xs.map (ToDy.dy : α → Dy))) :=
  PE_imp h fun σ H Q ⟨F, sf, sl, q⟩ => ⟨F, sf, sl, wpR_imp (wpR_bind q) (Same.refl H) fun as q p vs H' F' s ex hp r => q p vs H' F' s ex hp (all2_dy r)⟩
end
end G

namespace G
open PySem PySem.Spec PyProof.Rows L2
/-! ### a range by steps -/
def rangeC (lo c : Int) (n : Nat) : List Int := (List.range n).map fun (i : Nat) => lo + (i : Int) * c
theorem rangeC_len (lo c : Int) (n : Nat) : (rangeC lo c n).length = n := by unfold rangeC; rw [List.length_map, List.length_range]
theorem rangeC_get {lo c : Int} {n i : Nat} {a : Int} (h : (rangeC lo c n)[i]? = some a) : i < n ∧ a = lo + (i : Int) * c := by
  unfold rangeC at h
  rw [List.getElem?_map] at h
  by_cases hi : i < n
  · rw [List.getElem?_range hi] at h
    exact ⟨hi, (Option.some.inj h).symm⟩
  · rw [List.getElem?_eq_none (by rw [List.length_range]; omega)] at h
    cases h
theorem itok_rangeC {K : Frag} {lo c : Int} {n : Nat} {F0 : Hp} : ItOk K (Itc lo c n) (rangeC lo c n) F0 :=
  ⟨fun i F H a sa sb hi => ⟨(rangeC_get hi).1, fun v H' ⟨e, y⟩ => by
    subst e
    exact ⟨Same.refl _, F, ext_refl sb, by rw [y, (rangeC_get hi).2]; rfl⟩⟩, fun i F H sa sb hi => by rw [rangeC_len] at hi; exact hi⟩
def range3 (i j c : Int) : Res (List Int) := guardR (decide (c ≠ 0) && decide (c.natAbs < 1073741824) && Builtin.Range.small i j c && decide (0 ≤ Builtin.Range.rangeSize i j c)) (.ok (rangeC i c (Builtin.Range.rangeSize i j c).toNat))
section
variable {X : Cx} {W : WX} {ss : List Slot} {tg : Expr}
theorem it_range3 {a b c : Expr} {m : Res (Int × Int × Int × Unit)} {p pos : Pos} (ha : XA X W ss [a, b, c] m) (hm : X.mg "range" = none) (hg : Gl X "range" := by rfl)
    (hs : starEach [a, b, c] X.env = (false, eval a X.env) :: starEach [b, c] X.env := by rfl) (hpl : (backTo pos (starEach [b, c] X.env)).any (·.1) = false := by rfl) :
    XIt X W ss tg (.Call (.Name "range" p) [a, b, c] [] pos) (m.bind fun x => range3 x.1 x.2.1 x.2.2.1) := by
  refine PI_imp (pi_range3 hg hm ha hs hpl) fun σ H R ⟨F, sf, sl, q⟩ => ⟨sl.mono sf (Same.refl H), wpR_imp (wpR_bind q) (Same.refl H) fun n q' vs H1 s1 r1 => ?_⟩
  obtain ⟨v, r, e1, e2, v', r', e4, e5, v'', r'', e6, e7, e8⟩ := r1
  have e2 : v = .int n.1 := e2
  have e5 : v' = .int n.2.1 := e5
  have e7 : v'' = .int n.2.2.1 := e7
  have e8 : r'' = [] := e8
  subst e1; subst e2; subst e4; subst e5; subst e6; subst e7; subst e8
  have q' : wpR X W (range3 _ _ _) σ H _ := q'
  unfold range3 at q'
  obtain ⟨g, q'⟩ := wpR_guard q'
  simp only [Bool.and_eq_true, decide_eq_true_eq] at g
  exact ⟨n.1, n.2.1, n.2.2.1, _, rfl, ⟨g.1.1.1, g.1.1.2, g.1.2, (Int.toNat_of_nonneg g.2).symm⟩, q' _ H1 F s1 ⟨Same.refl F, sf.trans s1, fun _ _ h => .inl h⟩ itok_rangeC⟩
end
end G
namespace G
open PySem PySem.Spec PyProof.Rows L2
/-! ### slices by steps -/
def cutC {α : Type} (xs : List α) (lo hi : Option Int) (c : Int) : List α :=
  (sliceRange (sliceBounds lo hi (some c) xs.length).1 (sliceBounds lo hi (some c) xs.length).2.1 (sliceBounds lo hi (some c) xs.length).2.2).filterMap (xs[·]?)
theorem vals_pick {xs : List V} {us : List Value} (r : Vals xs us) : ∀ is : List Nat, Vals (is.filterMap (xs[·]?)) (is.filterMap (us[·]?))
  | [] => .nil
  | i :: is => by
    have ih := vals_pick r is
    rw [List.filterMap_cons, List.filterMap_cons]
    by_cases h : i < xs.length
    · obtain ⟨u, hu, ru⟩ := r.get (List.getElem?_eq_getElem h)
      rw [List.getElem?_eq_getElem h, hu]
      exact .cons ru ih
    · rw [List.getElem?_eq_none (by omega), List.getElem?_eq_none (by rw [← r.length]; omega)]
      exact ih
theorem pick_vals {xs : List V} {us : List Value} (r : Vals xs us) (lo hi : Option Int) (c : Int) : Vals (cutC xs lo hi c) (slicePick us.toArray lo hi (some c)).toList := by
  unfold slicePick cutC
  rw [List.size_toArray, r.length]
  simp only [List.getElem?_toArray]
  exact vals_pick r _
theorem cutC_le {α : Type} (xs : List α) (lo hi : Option Int) (c : Int) : (cutC xs lo hi c).length ≤ (sliceRange (sliceBounds lo hi (some c) xs.length).1 (sliceBounds lo hi (some c) xs.length).2.1 (sliceBounds lo hi (some c) xs.length).2.2).length := List.length_filterMap_le _ _
section
variable {X : Cx}
def tSlC (K : Frag) (c : Int) (te : TE) (tl th : TO) : TE := fun σ H Q => te σ H fun x H1 => tl σ H1 fun l H2 => th σ H2 fun u H3 => ∃ a xs, x = .ref a ∧ SqL K H3 a xs ∧ (cutC xs l u c).length ≤ sizeLine ∧ ∀ p, H3 p = none → Q (.ref p) (upd H3 p (.lst (cutC xs l u c)))
theorem pe_sliceC {e : Expr} {lo hi : Option Expr} {te : TE} {tl th : TO} {k : Nat} {c : Int} {p1 p3 pos : Pos} (hc : c ≠ 0) (he : PE X e te) (hl : PO X lo tl) (hh : PO X hi th) : PE X (.Subscript e (.Slice lo hi (some (.Constant (.int c) k p1)) p3) pos) (tSlC X.K c te tl th) := by
  refine ⟨fun pins s σ H Q I h => ?_⟩
  refine Subscript_ (thn (he.run pins s σ H _ I h) fun v s1 ⟨x, H1, I1, r1, q1⟩ => ?_)
  have hst : PO X (some (.Constant (.int c) k p1)) (tPart (tC (.int c))) := po_some pe_int
  refine wpAny_Slice (thn (hl.run pins s1 σ H1 _ I1 q1) fun vl s2 ⟨l, H2, I2, pl, q2⟩ => ?_)
  refine thn (hh.run pins s2 σ H2 _ I2 q2) fun vu s3 ⟨u, H3, I3, pu, q3⟩ => ?_
  refine thn (hst.run pins s3 σ H3 (fun o H4 => o = some c ∧ H4 = H3) I3 ⟨c, rfl, rfl, rfl⟩) fun vs s4 ⟨o, H4, I4, ps, eo, e4⟩ => ?_
  subst eo e4
  obtain ⟨a, xs, ex, hx, hz2, q⟩ := q3
  subst ex
  cases r1
  have I5 : Inv X pins σ H4 { s4 with heap := s4.heap.push { cls := .type "slice", data := .fields #[vl, vu, vs] } } := I4.kept (t' := s4.toks) fun b ob q => Heap.get?_push_of_some _ q
  obtain ⟨its, r, ht, hz⟩ := I5.list hx
  have hlen := r.length
  show wpAny (model X.prog X.w) X.A (subscriptTail e (.Slice lo hi (some (.Constant (.int c) k p1)) p3) (.ref a) (.ref s4.heap.objs.size)) (EP X pins σ Q) X.xe { s4 with heap := s4.heap.push { cls := .type "slice", data := .fields #[vl, vu, vs] } }
  refine tail_any (ops := [.ref a, .ref s4.heap.objs.size]) ht.isList.typeIs (PySem.slot_list_getitem.lookup) ?_ (by with_unfolding_all rfl)
  refine wpAny_getItem_list_slice ht.isList (Heap.IsSliceOf.new _ vl vu vs) pl pu ps (by intro z; exact hc (Option.some.inj z)) ?_ (by rw [List.size_toArray]; omega)
  have pv := pick_vals r l u c
  refine ⟨.ref _, _, I5.laid (t' := s4.toks) (o := .lst (cutC xs l u c)) (fun b ob q => Heap.get?_push_of_some _ q) (Nat.le_refl _) ?_, rfl, q _ (I5.hok.fresh (Nat.le_refl _))⟩
  refine ⟨hz2, _, 0, pv, ?_⟩
  rw [Array.toArray_toList]
  exact Heap.get?_push_size _ rfl
variable {W : WX} {ss : List Slot} {pos : Pos} {a : Expr}
theorem xk_sliceCS {lo hi : Option Expr} {k : Nat} {c : Int} {p1 p2 : Pos} {m : Res Scr} {ml mh : Res (Option Int)} (hc : c ≠ 0) (h : XI X W ss a m) (hl : XO X W ss lo ml) (hh : XO X W ss hi mh) :
    XK X W ss (.Subscript a (.Slice lo hi (some (.Constant (.int c) k p1)) p2) pos) (m.bind fun xs => ml.bind fun l => mh.bind fun u => guardR (big (cutC xs.ns l u c).length) (.ok (cutC xs.ns l u c))) ow :=
  PE_imp (pe_sliceC hc h hl hh) fun σ H Q ⟨F, sf, sl, q⟩ => ⟨sl.mono sf (Same.refl H), wpR_imp (wpR_bind q) (Same.refl H) fun xs q v H1 s1 r1 => ⟨(sl.mono sf (Same.refl H)).mono s1 s1, wpR_imp (wpR_bind q) s1 fun l q H2 s2 =>
    ⟨(sl.mono sf (Same.refl H)).mono (s1.trans s2) (s1.trans s2), wpR_imp (wpR_bind q) (s1.trans s2) fun u q H3 s3 => by
    obtain ⟨p, rfl, hp⟩ := r1
    obtain ⟨g, q⟩ := wpR_guard q
    have e : cutC (xs.ns.map V.int) l u c = (cutC xs.ns l u c).map V.int := by
      unfold cutC
      rw [List.length_map, List.map_filterMap]
      congr 1
      funext i
      rw [List.getElem?_map]
    refine ⟨p, _, rfl, (s2.trans s3).seq hp, by rw [e, List.length_map]; exact big_line g, fun o ho => ?_⟩
    rw [e]
    exact new_owI sf (s1.trans (s2.trans s3)) ho (All2.of_map (f := V.int)) q⟩⟩⟩
end
end G
namespace G
open PySem PySem.Spec PyProof.Rows L2
section
variable {X : Cx} {W : WX} {ss : List Slot} {sts : List Stmt}
/-! ### what is never come to -/
theorem st_stuck {R : Type} {e : Bool} {kr : R → Slot} : ST X W e ss sts (Res.stuck : Res R) kr := ⟨fun pins s σ H D I ⟨_, _, _, _, _, q⟩ => q.2.elim⟩
theorem sn_stuck {S : Type} {post : S → List Slot} : SN X W ss sts (Res.stuck : Res S) post := ⟨fun pins s σ H D I ⟨_, _, _, _, _, q⟩ => q.elim⟩
theorem sb_stuck {S L R : Type} {post : S → List Slot} {pl : L → List Slot} {kr : R → Slot} : SB X W ss sts (Res.stuck : Res (Out S L R)) post pl kr := ⟨fun pins s σ H D I ⟨_, _, _, _, _, q⟩ => q.elim⟩
end
end G

namespace G
open PySem PySem.Spec PyProof.Rows L2
/-! ### two or three of one kind, at a place that is reckoned -/
section
variable {X : Cx} {W : WX} {ss : List Slot}
theorem rep_pT {α : Type} [Enc α] {K : Frag} {H : Hp} {v : V} {x : α × α} (h : Enc.rep K H v x) : Enc.rep K H v (⟨[x.1, x.2]⟩ : Tup α) := by
  obtain ⟨p, v1, v2, e, hp, r1, r2⟩ := h
  exact ⟨p, [v1, v2], e, SqT.of hp, r1, r2, trivial⟩
theorem rep_tT {α : Type} [Enc α] {K : Frag} {H : Hp} {v : V} {x : T3 α α α} (h : Enc.rep K H v x) : Enc.rep K H v (⟨[x.a, x.b, x.c]⟩ : Tup α) := by
  obtain ⟨p, v1, v2, v3, e, hp, r1, r2, r3⟩ := h
  exact ⟨p, [v1, v2, v3], e, SqT.of hp, r1, r2, r3, trivial⟩
theorem xi_as {α β : Type} [Enc α] [Enc β] {e : Expr} {m : Res α} {f : α → β} (hf : ∀ (x : α) (v : V) (H : Hp), Enc.rep X.K H v x → Enc.rep X.K H v (f x)) (h : XI X W ss e m) : XI X W ss e (m.bind fun x => .ok (f x)) :=
  PE_imp h fun σ H Q ⟨sl, q⟩ => ⟨sl, wpR_imp (wpR_bind q) (Same.refl H) fun x q v H1 s1 r1 => q v H1 s1 (hf x v H1 r1)⟩
theorem xk_as {α β : Type} [Enc α] [Enc β] {e : Expr} {m : Res α} {f : α → β} (hf : ∀ (x : α) (v : V) (H : Hp), Enc.rep X.K H v x → Enc.rep X.K H v (f x)) (h : XK X W ss e m fr) : XK X W ss e (m.bind fun x => .ok (f x)) fr :=
  PE_imp h fun σ H Q ⟨F, sf, sl, q⟩ => ⟨F, sf, sl, wpR_imp (wpR_bind q) (Same.refl H) fun x q v H1 F1 G1 s1 ex1 pr k1 => by
    obtain ⟨v', e1, r⟩ := k1
    exact q v H1 F1 G1 s1 ex1 pr ⟨v', e1, hf x v' F1 r⟩⟩
theorem xi_pT {α : Type} [Enc α] {e : Expr} {m : Res (α × α)} (h : XI X W ss e m) : XI X W ss e (m.bind fun x => .ok (⟨[x.1, x.2]⟩ : Tup α)) := xi_as (fun _ _ _ => rep_pT) h
theorem xk_pT {α : Type} [Enc α] {e : Expr} {m : Res (α × α)} (h : XK X W ss e m fr) : XK X W ss e (m.bind fun x => .ok (⟨[x.1, x.2]⟩ : Tup α)) fr := xk_as (fun _ _ _ => rep_pT) h
theorem xi_tT {α : Type} [Enc α] {e : Expr} {m : Res (T3 α α α)} (h : XI X W ss e m) : XI X W ss e (m.bind fun x => .ok (⟨[x.a, x.b, x.c]⟩ : Tup α)) := xi_as (fun _ _ _ => rep_tT) h
theorem xk_tT {α : Type} [Enc α] {e : Expr} {m : Res (T3 α α α)} (h : XK X W ss e m fr) : XK X W ss e (m.bind fun x => .ok (⟨[x.a, x.b, x.c]⟩ : Tup α)) fr := xk_as (fun _ _ _ => rep_tT) h
end
end G

namespace G
open PySem PySem.Spec PyProof.Rows L2
/-! ### refusals -/
abbrev ETab := List (Str × Bool)
def lookB : ETab → Str → Option Bool
  | [], _ => none
  | (k, b) :: r, n => if n = k then some b else lookB r n
/-- what a suite may do: nothing leaves it -/
def noX {α : Type} : Res α → Res α
  | .ok a => .ok a
  | .exc _ => .stuck
  | .stuck => .stuck
abbrev Hds (β : Type) := List (ETab × (Exn → Res β))
def pickR {β : Type} (x : Exn) : Hds β → Res β
  | [] => .exc x
  | (t, M) :: r => match lookB t x.cls with
    | none => .stuck
    | some true => noX (M x)
    | some false => pickR x r
def catchR {β : Type} (m : Res β) (hs : Hds β) : Res β := match m with
  | .ok b => .ok b
  | .exc x => pickR x hs
  | .stuck => .stuck
/-- isinstance of a refusal -/
def Pay.isNo : Pay → Bool
  | .no => true
  | _ => false
theorem Pay.no_of {p : Pay} (h : p.isNo = true) : p = .no := by
  cases p
  case no => rfl
  all_goals cases h
def isE (t : ETab) (x : Exn) : Res Bool := if x.pay.isNo = true then (match lookB t x.cls with
  | some b => .ok b
  | none => .stuck) else .stuck
def vB : List Value := [.type "ValueError", .type "Exception", .type "BaseException", .type "object"]
/-- a class of refusals of the text -/
structure Cl (K : Frag) (mg : PySem.Str → Option Value) (n : Str) (C : Addr) : Prop where
  g : mg n = some (.ref C)
  k : PySem.W.keepIn K (.ref C) = true
  b : PySem.W.subIn K (.ref C) (.type "BaseException") = some true
  t : PySem.W.typeIn K (.ref C) = some (.type "type")
  i : PySem.W.isClsIn K C = true
  e : ExcC K C
  s : PySem.W.subIn K (.ref C) (.ref C) = some true
/-- .. that can be made from a text -/
def HasCl (K : Frag) (mg : PySem.Str → Option Value) (n : Str) : Prop := ∃ C, Cl K mg n C ∧ PySem.W.excIn K C vB "ValueError.__new__" = true
/-- a class that a clause asks for, among the classes that come -/
def CTab (K : Frag) (mg : PySem.Str → Option Value) (y : Str) (tab : ETab) : Prop := ∃ Y, mg y = some (.ref Y) ∧ ∀ n b, lookB tab n = some b → ∃ C, mg n = some (.ref C) ∧ PySem.W.exmOne K (.ref C) (.ref Y) = some b
/-- .. that isinstance asks for -/
def ITab (K : Frag) (mg : PySem.Str → Option Value) (y : Str) (tab : ETab) : Prop := ∃ (v : V) (cv : Value), (mg y = some cv ∨ mg y = none ∧ bootBuiltins y = some cv ∧ y ≠ "__name__") ∧ RelV v cv ∧ (∀ u, RelV v u → u = cv) ∧ ∀ n b, lookB tab n = some b → ∃ C, mg n = some (.ref C) ∧ ExcC K C ∧ PySem.W.kitOne K (.ref C) cv = some b
theorem exm_cl {K : Frag} {mg : PySem.Str → Option Value} {n y : Str} {C Y : Addr} {b : Bool} (c : Cl K mg n C) (d : Cl K mg y Y) (s : PySem.W.subIn K (.ref C) (.ref Y) = some b) : PySem.W.exmOne K (.ref C) (.ref Y) = some b := PySem.W.exm_ref d.b d.e.hd d.t s
theorem ctab_mk {K : Frag} {mg : PySem.Str → Option Value} {y : Str} {Y : Addr} {tab : ETab} (d : Cl K mg y Y) (h : ∀ n b, lookB tab n = some b → ∃ C, Cl K mg n C ∧ PySem.W.subIn K (.ref C) (.ref Y) = some b) : CTab K mg y tab := by
  refine ⟨Y, d.g, fun n b e => ?_⟩
  obtain ⟨C, c, s⟩ := h n b e
  exact ⟨C, c.g, exm_cl c d s⟩
theorem kit_cl {K : Frag} {mg : PySem.Str → Option Value} {n y : Str} {C Y : Addr} {b : Bool} (c : Cl K mg n C) (d : Cl K mg y Y) (s : PySem.W.subIn K (.ref C) (.ref Y) = some b) (hb : C = Y → b = true) : PySem.W.kitOne K (.ref C) (.ref Y) = some b := by
  unfold PySem.W.kitOne
  by_cases e : C = Y
  · rw [if_pos (by rw [e]; exact beq_self_eq_true _), hb e]
  · rw [if_neg (by simpa using e)]
    have h2 : (PySem.W.clsIn K Y).isSome = true := d.i
    unfold PySem.W.kitCls
    show (if ((PySem.W.clsIn K Y).isSome && PySem.W.typeIn K (.ref Y) == some (.type "type")) = true then PySem.W.subIn K (.ref C) (.ref Y) else none) = some b
    rw [h2, d.t, if_pos (by rfl)]
    exact s
theorem itab_mk {K : Frag} {mg : PySem.Str → Option Value} {y : Str} {Y : Addr} {tab : ETab} (d : Cl K mg y Y) (h : ∀ n b, lookB tab n = some b → ∃ C, Cl K mg n C ∧ PySem.W.subIn K (.ref C) (.ref Y) = some b) : ITab K mg y tab := by
  refine ⟨.ref Y, .ref Y, .inl d.g, rfl, fun u r => r, fun n b e => ?_⟩
  obtain ⟨C, c, s⟩ := h n b e
  exact ⟨C, c.g, c.e, kit_cl c d s fun q => by subst q; exact Option.some.inj (s.symm.trans d.s)⟩
theorem tabs_nil {K : Frag} {mg : PySem.Str → Option Value} {v : Value} : ∀ n b, lookB [] n = some b → ∃ C, Cl K mg n C ∧ PySem.W.subIn K (.ref C) v = some b := fun _ _ h => nomatch h
theorem tabs_cons {K : Frag} {mg : PySem.Str → Option Value} {v : Value} {tab : ETab} {m : Str} {c : Bool} {D : Addr} (d : Cl K mg m D) (s : PySem.W.subIn K (.ref D) v = some c) (r : ∀ n b, lookB tab n = some b → ∃ C, Cl K mg n C ∧ PySem.W.subIn K (.ref C) v = some b) :
    ∀ n b, lookB ((m, c) :: tab) n = some b → ∃ C, Cl K mg n C ∧ PySem.W.subIn K (.ref C) v = some b := fun n b h => by
  unfold lookB at h
  by_cases e : n = m
  · rw [if_pos e] at h
    cases h
    subst e
    exact ⟨D, d, s⟩
  · rw [if_neg e] at h
    exact r n b h
theorem itab_ty {K : Frag} {mg : PySem.Str → Option Value} {y : Str} {T : String} {tab : ETab} (hm : mg y = none) (hv : bootBuiltins y = some (.type T)) (hn : y ≠ "__name__") (hk : PySem.W.kitMeta T = true) (h : ∀ n b, lookB tab n = some b → ∃ C, Cl K mg n C ∧ PySem.W.subIn K (.ref C) (.type T) = some b) : ITab K mg y tab := by
  refine ⟨.ty T, .type T, .inr ⟨hm, hv, hn⟩, rfl, fun u r => r, fun n b e => ?_⟩
  obtain ⟨C, c, s⟩ := h n b e
  refine ⟨C, c.g, c.e, ?_⟩
  unfold PySem.W.kitOne
  rw [if_neg (by simp)]
  unfold PySem.W.kitCls
  show (if PySem.W.kitMeta T = true then PySem.W.subIn K (.ref C) (.type T) else none) = some b
  rw [if_pos hk]; exact s
section
variable {X : Cx} {W : WX} {ss : List Slot} {rest : List Stmt}
/-! raise -/
def tRs (X : Cx) (W : WX) (n : Str) : TS := fun _ σ H => ∀ cls, X.mg n = some cls → W cls none σ H
theorem ps_rs {n m : Str} {j : Nat} {p p2 pos pos' : Pos} (c : HasCl X.K X.mg n) (tk : Takes X W) (hc : X.calm = true := by rfl) (hg : Gl X n := by rfl) (hdb : (n == ("__debug__" : Str)) = false := by decide) :
    PS X (.Raise (some (.Call (.Name n p) [.Constant (.str m) j p2] [] pos)) none pos') (tRs X W n) := by
  obtain ⟨C, c, cx⟩ := c
  exact PS_imp (ps_raise hc tk (pmk_own PySem.F.excBase_ValueError cx c.g c.k (raises_own c.b c.t) hg hdb)) fun D σ H q => q _ c.g
theorem rs_core {n m : Str} {j : Nat} {p p2 pos pos' : Pos} (c : HasCl X.K X.mg n) (tk : Takes X W) (hc : X.calm = true := by rfl) (hg : Gl X n := by rfl) (hdb : (n == ("__debug__" : Str)) = false := by decide) :
    PSs X (.Raise (some (.Call (.Name n p) [.Constant (.str m) j p2] [] pos)) none pos' :: rest) (tRs X W n) :=
  rest_free (ps_rs c tk hc hg hdb) fun _ _ _ _ _ _ _ q => q
theorem rs_wish {n : Str} {B σ H} (q : EXS X W B ⟨n, .no⟩) (s : Same B H) : tRs X W n D σ H := fun cls e => q σ cls none H e s rfl
theorem st_raise {R : Type} {ee : Bool} {kr : R → Slot} {n m : Str} {j : Nat} {p p2 pos pos' : Pos} (c : HasCl X.K X.mg n) (tk : Takes X W) (hc : X.calm = true := by rfl) (hg : Gl X n := by rfl) (hdb : (n == ("__debug__" : Str)) = false := by decide) :
    ST X W ee ss (.Raise (some (.Call (.Name n p) [.Constant (.str m) j p2] [] pos)) none pos' :: rest) (.exc ⟨n, .no⟩ : Res R) kr :=
  PSs_imp (rs_core c tk hc hg hdb) fun D σ H ⟨B, F0, F, Gs, A, q⟩ => rs_wish q.2 A.base
theorem sn_raise {S : Type} {post : S → List Slot} {n m : Str} {j : Nat} {p p2 pos pos' : Pos} (c : HasCl X.K X.mg n) (tk : Takes X W) (hc : X.calm = true := by rfl) (hg : Gl X n := by rfl) (hdb : (n == ("__debug__" : Str)) = false := by decide) :
    SN X W ss (.Raise (some (.Call (.Name n p) [.Constant (.str m) j p2] [] pos)) none pos' :: rest) (.exc ⟨n, .no⟩ : Res S) post :=
  PSs_imp (rs_core c tk hc hg hdb) fun D σ H ⟨B, F0, F, Gs, A, q⟩ => rs_wish q A.base
theorem sb_raise {S L R : Type} {post : S → List Slot} {pl : L → List Slot} {kr : R → Slot} {n m : Str} {j : Nat} {p p2 pos pos' : Pos} (c : HasCl X.K X.mg n) (tk : Takes X W) (hc : X.calm = true := by rfl) (hg : Gl X n := by rfl) (hdb : (n == ("__debug__" : Str)) = false := by decide) :
    SB X W ss (.Raise (some (.Call (.Name n p) [.Constant (.str m) j p2] [] pos)) none pos' :: rest) (.exc ⟨n, .no⟩ : Res (Out S L R)) post pl kr :=
  PSs_imp (rs_core c tk hc hg hdb) fun D σ H ⟨B, F0, F, Gs, A, q⟩ => rs_wish q A.base
/-! what stands in a try: one statement -/
def outOk (X : Cx) {S L R : Type} (post : S → List Slot) (pl : L → List Slot) (kr : R → Slot) (D : Ends) (B F0 : Hp) : Out S L R → Prop
  | .nx s => NxOk X (post s) D B F0
  | .rt r => RtOk X kr r D B F0
  | .bk l => BkOk X (pl l) D B F0
  | .ct l => CtOk X (pl l) D B F0
def rdE (X : Cx) (W : WX) (ss : List Slot) {S L R : Type} (M : Res (Out S L R)) (post : S → List Slot) (pl : L → List Slot) (kr : R → Slot) : TS := fun D σ H =>
  ∃ B F0 F Gs, Asn X.K B F0 ss σ H F Gs ∧ wpR X W M σ H (outOk X post pl kr D B F0)
theorem eb_set (i : Nat) {α S L R : Type} {kd : α → Slot} {m : Res α} {f : α → S} {post : S → List Slot} {pl : L → List Slot} {kr : R → Slot} {x : Str} {e : Expr} {pos pos' : Pos} (h : XK X W ss e m kd) (hw : ∀ a, Wk (ss.set i (kd a)) (post (f a))) (hN : X.N.Nodup) (hi : X.N[i]? = some x := by rfl) (hx : Loc X.env.scope x := by first | exact Or.inl rfl | exact Or.inr rfl)
    (hs : swapsWith e (some (.Name x pos')) pos.line X.env = pure false := by rfl) (hf : X.fn x = true ∨ X.env.scope.names.lookup x = some .local := by first | exact .inl rfl | exact .inr rfl) :
    PS X (.Assign [.Name x pos'] e pos) (rdE X W ss (m.bind fun a => .ok (.nx (f a)) : Res (Out S L R)) post pl kr) := by
  refine PS_imp (ps_set hN hi hx h hs hf) fun D σ H ⟨B, F0, F, Gs, A, q⟩ => ⟨F, A.ext.sub, A.sl, wpR_imp (wpR_bind q) (Same.refl H) fun a q v H' F' G' s ex pr k => ?_⟩
  exact q _ H' F' _ ((A.set s ex pr k i).wk (hw a))
theorem eb_do {α S L R : Type} {kd : α → Slot} {m : Res α} {s0 : S} {post : S → List Slot} {pl : L → List Slot} {kr : R → Slot} {e : Expr} {pos : Pos} (h : XK X W ss e m kd) (hw : Wk ss (post s0)) (hs : swapsWith e none pos.line X.env = pure false := by rfl) :
    PS X (.Expr e pos) (rdE X W ss (m.bind fun _ => .ok (.nx s0) : Res (Out S L R)) post pl kr) := by
  refine PS_imp (ps_expr h hs) fun D σ H ⟨B, F0, F, Gs, A, q⟩ => ⟨F, A.ext.sub, A.sl, wpR_imp (wpR_bind q) (Same.refl H) fun a q v H' F' G' s ex pr k => ?_⟩
  exact q _ H' F' _ ((A.grow s ex).wk hw)
theorem eb_ret {α S L : Type} {kr : α → Slot} {m : Res α} {post : S → List Slot} {pl : L → List Slot} {e : Expr} {pos : Pos} (h : XK X W ss e m kr) :
    PS X (.Return (some e) pos) (rdE X W ss (m.bind fun r => .ok (.rt r) : Res (Out S L α)) post pl kr) := by
  refine PS_imp (ps_ret h) fun D σ H ⟨B, F0, F, Gs, A, q⟩ => ⟨F, A.ext.sub, A.sl, wpR_imp (wpR_bind q) (Same.refl H) fun a q v H' F' G' s ex pr k => ?_⟩
  have A' := A.grow s ex
  exact q v H' F' G' A'.base A'.ext (fun a u z => ⟨(pr a u z).1, Same.free A.base (pr a u z).2.1, (pr a u z).2.2⟩) k
abbrev wNo : WX := fun _ _ _ _ => False
theorem takes_no {X : Cx} : Takes X wNo := fun u s' ⟨a, B, sI, pins, σ, H, cls, d, e, I, nb, up, sky, na, os, ag, w⟩ => w.elim
/-- the clauses, none of them naming what it holds -/
inductive HX (X : Cx) (ss : List Slot) {S L R : Type} (post : S → List Slot) (pl : L → List Slot) (kr : R → Slot) : List ExceptHandler → Hds (Out S L R) → Prop
  | nil : HX X ss post pl kr [] []
  | cons {y : Str} {tab : ETab} {M : Exn → Res (Out S L R)} {b₀ : Stmt} {suite : List Stmt} {np pos' : Pos} {hds : List ExceptHandler} {hs : Hds (Out S L R)} (c : CTab X.K X.mg y tab) (hg : Gl X y) (hdb : (y == ("__debug__" : Str)) = false)
      (h : ∀ (x : Exn) (a : Addr) (oe : Obj) (pn : List (Addr × Obj)), SB (X.suite a ((a, oe) :: pn)) wNo ss (b₀ :: suite) (M x) post pl kr) (r : HX X ss post pl kr hds hs) :
      HX X ss post pl kr (.ExceptHandler (some (.Name y np)) none (b₀ :: suite) pos' :: hds) ((tab, M) :: hs)
theorem wpS_noX {α : Type} {m : Res α} {B : Hp} {P : α → Prop} {X' : Cx} (q : wpS X W (noX m) B P) : wpS X' wNo m B P := by
  cases m with
  | ok a => exact q
  | exc x => exact q.elim
  | stuck => exact q.elim
/-- a suite's wish, in front of it -/
def tsX (X : Cx) (ss : List Slot) {S L R : Type} (M : Exn → Res (Out S L R)) (post : S → List Slot) (pl : L → List Slot) (kr : R → Slot) : Addr → Value → Option Addr → TS := fun _ cls d D σ H =>
  ∃ x : Exn, X.mg x.cls = some cls ∧ ∃ B F0 F Gs, Asn X.K B F0 ss σ H F Gs ∧ wpS X wNo (M x) B (outOk X post pl kr D B F0)
theorem hx_hds {S L R : Type} {post : S → List Slot} {pl : L → List Slot} {kr : R → Slot} {hds : List ExceptHandler} {hs : Hds (Out S L R)} (h : HX X ss post pl kr hds hs) :
    ∃ l : List (Value × (Addr → Value → Option Addr → TS)), HdsOk X hds l ∧ ∀ (D : Ends) (σ : L2.St) (H H' B F0 F : Hp) (Gs : List Hp) (x : Exn) (cls : Value) (d : Option Addr), Asn X.K B F0 ss σ H F Gs → X.mg x.cls = some cls → Same H H' → payRep x.pay d H' → wpR X W (pickR x hs) σ H (outOk X post pl kr D B F0) → wMany X.K W D l cls d σ H' := by
  induction h with
  | nil => exact ⟨[], .nil, fun D σ H H' B F0 F Gs x cls d A hm s hp q => q cls d H' hm s hp⟩
  | cons c hg hdb hsu hr0 ih =>
    rename_i y tab M b₀ suite np pos' hds hs
    obtain ⟨l, hl, hw⟩ := ih
    obtain ⟨Y, gY, hY⟩ := c
    refine ⟨(.ref Y, tsX X ss M post pl kr) :: l, .cons ⟨hg, hdb, .inl gY⟩ (fun a oe cls d pn hz hf => ?_) hl, fun D σ H H' B F0 F Gs x cls d A hm s hp q => ?_⟩
    · exact ⟨fun pins s σ H D I ⟨x, hm, B, F0, F, Gs, A, q⟩ => (hsu x a oe pn).run pins s σ H D I ⟨B, F0, F, Gs, A, by cases e : M x with
        | ok o =>
          rw [e] at q
          cases o <;> exact q
        | exc z =>
          rw [e] at q
          exact fun σ cls d H' a b c => q σ cls d H' a b c
        | stuck => rw [e] at q; exact q⟩⟩
    · unfold pickR at q
      cases e : lookB tab x.cls with
      | none => rw [e] at q; exact q.elim
      | some b =>
        rw [e] at q
        obtain ⟨C, gC, hC⟩ := hY _ _ e
        have : cls = .ref C := Option.some.inj (hm.symm.trans gC)
        subst this
        refine ⟨b, hC, fun hb a na => ?_, fun hb => ?_⟩
        · subst hb
          have A' := A.grow s ⟨Same.refl F, A.ext.sub.trans s, fun _ _ h => .inl h⟩
          refine ⟨x, hm, B, F0, F, Gs, A', ?_⟩
          have q : wpR X W (noX (M x)) σ H (outOk X post pl kr D B F0) := q
          revert q
          cases M x with
          | ok o => exact fun q => q
          | exc z => exact fun q => q.elim
          | stuck => exact fun q => q.elim
        · subst hb
          exact hw D σ H H' B F0 F Gs x _ d A hm s hp q
theorem b1_try {S L R : Type} {st : Stmt} {h₀ : ExceptHandler} {hds : List ExceptHandler} {M : Res (Out S L R)} {hs : Hds (Out S L R)} {post : S → List Slot} {pl : L → List Slot} {kr : R → Slot} {pos : Pos} (tk : Takes X W)
    (hb : ∀ (W' : WX) (pn : List (Addr × Obj)) (xe : Value → Shared → Prop), Takes (X.tr pn xe) W' → PS (X.tr pn xe) st (rdE (X.tr pn xe) W' ss M post pl kr)) (hh : HX X ss post pl kr (h₀ :: hds) hs)
    (hst : X.stack = X.env :: X.outer := by rfl) (hf : X.env.frame = some X.env.locals := by rfl) : B1 X W ss (.Try [st] (h₀ :: hds) [] [] pos) (catchR M hs) post pl kr := by
  obtain ⟨l, hl, hw⟩ := hx_hds (W := W) hh
  refine PS_imp (ps_try_many (tb := fun W' => rdE X W' ss M post pl kr) hst hf tk (fun W' pn xe tk' _ => pss_one (hb W' pn xe tk')) hl) fun D σ H ⟨B, F0, F, Gs, A, q⟩ => ⟨B, F0, F, Gs, A, ?_⟩
  cases M with
  | ok o => cases o <;> exact q
  | stuck => exact q.elim
  | exc x =>
    intro cls d H' hm s hp
    have q : wpS X W (pickR x hs) B _ := q
    refine hw D σ H H' B F0 F Gs x cls d A hm s hp ?_
    refine wpS_R q A.base fun o => ?_
    cases o <;> exact fun z => z
/-! a clause that names what it holds -/
/-- the thing that a suite holds -/
def exS (a : Addr) : Slot := ⟨fun _ _ _ o => o = some (.ref a), fun _ _ h => h⟩
theorem all3_at {K : Frag} {F : Hp} : ∀ {ss : List Slot} {Gs : List Hp} {σ : L2.St} {i : Nat} {s : Slot}, All3 K F ss Gs σ → ss[i]? = some s → ∃ G o, σ[i]? = some o ∧ s.P K F G o
  | s :: ss, G :: Gs, o :: σ, 0, t, ⟨x, y⟩, h => by
    have e : s = t := Option.some.inj h
    subst e
    exact ⟨G, o, rfl, x⟩
  | s :: ss, G :: Gs, o :: σ, i + 1, t, ⟨x, y⟩, h => all3_at (i := i) y h
  | [], _, _, _, _, _, h => by simp at h
  | _ :: _, [], _, _, _, h, _ => h.elim
  | _ :: _, _ :: _, [], _, _, h, _ => h.elim
theorem xi_isE {a : Addr} {oe : Obj} {pn : List (Addr × Obj)} {cls : Value} {d : Option Addr} {x : Exn} {tab : ETab} {y n : Str} {p p1 p2 pos : Pos} (i : Nat) (hz : Zc cls d oe) (hfd : ∃ vs, oe.data = .fields vs) (hx : X.mg x.cls = some cls) (hd : x.pay = .no → d = none) (T : ITab X.K X.mg y tab)
    (hs : ss[i]? = some (exS a)) (hp : PE (X.suite a ((a, oe) :: pn)) (.Name n p1) (tVar i)) (hm : X.mg "isinstance" = none) (hg : Gl X "isinstance" := by rfl) (hgy : Gl X y := by rfl) (hdb : (y == ("__debug__" : Str)) = false := by decide)
    (he : starEach [.Name n p1, .Name y p2] (X.suite a ((a, oe) :: pn)).env = (false, eval (.Name n p1) (X.suite a ((a, oe) :: pn)).env) :: starEach [.Name y p2] (X.suite a ((a, oe) :: pn)).env := by rfl) (he2 : starEach [.Name y p2] (X.suite a ((a, oe) :: pn)).env = (false, eval (.Name y p2) (X.suite a ((a, oe) :: pn)).env) :: starEach [] (X.suite a ((a, oe) :: pn)).env := by rfl) (hpl : (backTo pos (starEach [.Name y p2] (X.suite a ((a, oe) :: pn)).env)).any (·.1) = false := by rfl) :
    XI (X.suite a ((a, oe) :: pn)) W ss (.Call (.Name "isinstance" p) [.Name n p1, .Name y p2] [] pos) (isE tab x) := by
  refine ⟨fun pins s σ H Q I ⟨sl, q⟩ => ?_⟩
  unfold isE at q
  cases e0 : x.pay.isNo with
  | false => rw [e0, if_neg Bool.false_ne_true] at q; exact q.elim
  | true =>
    have e1 := Pay.no_of e0
    rw [e0, if_pos rfl] at q
    cases e2 : lookB tab x.cls with
    | none => rw [e2] at q; exact q.elim
    | some b =>
      rw [e2] at q
      obtain ⟨v, cv, hn, hr, hu, ht⟩ := T
      obtain ⟨C, gC, cC, kC⟩ := ht _ _ e2
      have : cls = .ref C := Option.some.inj (hx.symm.trans gC)
      subst this
      have := hd e1
      subst this
      obtain ⟨o, ho, hso⟩ := sl.get hs
      have hso : o = some (.ref a) := hso
      subst hso
      have hy : PE (X.suite a ((a, oe) :: pn)) (.Name y p2) (tC v) := by
        rcases hn with h1 | ⟨h1, h2, h3⟩
        · exact pe_glob hgy h1 hr hdb
        · exact pe_bltn hgy h1 h2 hr h3 hdb
      have hc : PE (X.suite a ((a, oe) :: pn)) (.Call (.Name "isinstance" p) [.Name n p1, .Name y p2] [] pos) _ := pe_callB (call_isE (X := X) cC hz hfd) hg hm (by decide +kernel) (pa_cons hp (pa_cons hy pa_nil he2) he) (by decide) (by decide) he hpl
      exact hc.run pins s σ H Q I ⟨.ref a, ho, v, cv, b, rfl, hu, kC, q _ H (Same.refl H) rfl⟩
theorem b1_tryAs {S L R : Type} {st b₀ : Stmt} {suite : List Stmt} {y n : Str} {np pos' : Pos} {tab : ETab} {M : Res (Out S L R)} {N : Exn → Res (Out S L R)} {post : S → List Slot} {pl : L → List Slot} {kr : R → Slot} {pos : Pos} (i : Nat) (tk : Takes X W)
    (hb : ∀ (W' : WX) (pn : List (Addr × Obj)) (xe : Value → Shared → Prop), Takes (X.tr pn xe) W' → PS (X.tr pn xe) st (rdE (X.tr pn xe) W' ss M post pl kr))
    (c : CTab X.K X.mg y tab)
    (hsu : ∀ (x : Exn) (a : Addr) (oe : Obj) (cls : Value) (d : Option Addr) (pn : List (Addr × Obj)), Zc cls d oe → (∃ vs, oe.data = .fields vs) → X.mg x.cls = some cls → (x.pay = .no → d = none) → SB (X.suite a ((a, oe) :: pn)) wNo (ss.set i (exS a)) (b₀ :: suite) (N x) post pl kr)
    (hps : ∀ s, (post s)[i]? = some any) (hpl : ∀ s, (pl s)[i]? = some any)
    (hg : Gl X y := by rfl) (hdb : (y == ("__debug__" : Str)) = false := by decide)
    (hN : X.N.Nodup) (hi : X.N[i]? = some n := by rfl) (hln : X.env.kindOf n = some .local := by rfl)
    (hst : X.stack = X.env :: X.outer := by rfl) (hf : X.env.frame = some X.env.locals := by rfl) : B1 X W ss (.Try [st] [.ExceptHandler (some (.Name y np)) (some n) (b₀ :: suite) pos'] [] [] pos) (catchR M [(tab, N)]) post pl kr := by
  obtain ⟨Y, gY, hY⟩ := c
  let ts : Addr → Value → Option Addr → TS := fun a cls d D σ H => ∃ x : Exn, X.mg x.cls = some cls ∧ (x.pay = .no → d = none) ∧ ∃ B F0 F Gs, Asn X.K B F0 (ss.set i (exS a)) σ H F Gs ∧ wpS X wNo (N x) B (outOk X post pl kr D B F0)
  have clr : ∀ {K : Frag} {B F0 H F : Hp} {ts : List Slot} {σ : L2.St} {Gs : List Hp}, ts[i]? = some any → Asn K B F0 ts σ H F Gs → Asn K B F0 ts (σ.set i none) H F (Gs.set i noHp) := fun {K B F0 H F ts σ Gs} e A => by
    have A' := A.set (s := any) (o := none) (G := noHp) (Same.refl H) ⟨Same.refl F, A.ext.sub, fun _ _ h => .inl h⟩ priv_no trivial i
    have : ts.set i any = ts := by
      obtain ⟨hl, he⟩ := List.getElem?_eq_some_iff.mp e
      rw [← he]; exact List.set_getElem_self hl
    rw [this] at A'
    exact A'
  refine PS_imp (ps_try_as (tb := fun W' => rdE X W' ss M post pl kr) (ts := ts) hst hf hN hi hln ⟨hg, hdb, .inl gY⟩ tk (fun W' pn xe tk' _ => pss_one (hb W' pn xe tk')) (fun a oe cls d pn hz hfd => ?_)) fun D σ H ⟨B, F0, F, Gs, A, q⟩ => ⟨B, F0, F, Gs, A, ?_⟩
  · exact ⟨fun pins s σ H D I ⟨x, hm, hd, B, F0, F, Gs, A, q⟩ => (hsu x a oe cls d pn hz hfd hm hd).run pins s σ H D I ⟨B, F0, F, Gs, A, by cases e : N x with
      | ok o =>
        rw [e] at q
        cases o <;> exact q
      | exc z =>
        rw [e] at q
        exact fun σ cls d H' a b c => q σ cls d H' a b c
      | stuck => rw [e] at q; exact q⟩⟩
  · cases M with
    | ok o => cases o <;> exact q
    | stuck => exact q.elim
    | exc x =>
      intro cls d H' hm s hp
      have q : wpS X W (pickR x [(tab, N)]) B _ := q
      unfold pickR at q
      cases e : lookB tab x.cls with
      | none => rw [e] at q; exact q.elim
      | some b =>
        rw [e] at q
        obtain ⟨C, gC, hC⟩ := hY _ _ e
        have : cls = .ref C := Option.some.inj (hm.symm.trans gC)
        subst this
        refine ⟨b, hC, fun hb a na => ?_, fun hb => ?_⟩
        · subst hb
          have A' := A.set (s := exS a) (o := some (.ref a)) (G := noHp) s ⟨Same.refl F, A.ext.sub.trans s, fun _ _ h => .inl h⟩ priv_no rfl i
          refine ⟨x, hm, fun e => by rw [e] at hp; exact hp, B, F0, F, _, A', ?_⟩
          have q : wpS X W (noX (N x)) B _ := q
          revert q
          cases N x with
          | exc z => exact fun q => q.elim
          | stuck => exact fun q => q.elim
          | ok o =>
            cases o with
            | nx s => exact fun q σ' H' F' Gs' A'' => q _ _ _ _ (clr (hps s) A'')
            | rt r => exact fun q => q
            | bk l => exact fun q σ' H' F' Gs' A'' => q _ _ _ _ (clr (hpl l) A'')
            | ct l => exact fun q σ' H' F' Gs' A'' => q _ _ _ _ (clr (hpl l) A'')
        · subst hb
          exact q σ _ d H' hm (A.base.trans s) hp
end
end G

namespace G
open PySem PySem.Spec PyProof.Rows L2
/-! ### slices of tuples -/
theorem all2_dyA {K : Frag} {H : Hp} : ∀ {vs : List V} {ds : List Dy}, All2 (fun v (d : Dy) => Enc.rep K H v d) vs ds → DyA K H vs ds
  | [], [], _ => .nil
  | _ :: _, _ :: _, ⟨h, t⟩ => .cons h (all2_dyA t)
  | [], _ :: _, h => h.elim
  | _ :: _, [], h => h.elim
def dyCut (d : Dy) (l u : Option Int) : Res Dy := match d with
  | .tup xs => .ok (.tup (cut xs l u))
  | _ => .stuck
theorem whole_cut {α : Type} {xs : List α} {l u : Option Int} (h : HT.sIx xs.length 0 l = 0 ∧ HT.sIx xs.length xs.length u = xs.length) : cut xs l u = xs := by
  unfold cut
  rw [h.1, h.2, List.drop_zero, Nat.sub_zero, List.take_length]
section
variable {X : Cx} {W : WX} {ss : List Slot} {a : Expr} {pos : Pos}
theorem xi_slD {lo hi : Option Expr} {p2 : Pos} {m : Res Dy} {ml mh : Res (Option Int)} (h : XI X W ss a m) (hl : XO X W ss lo ml) (hh : XO X W ss hi mh) :
    XI X W ss (.Subscript a (.Slice lo hi none p2) pos) (m.bind fun d => ml.bind fun l => mh.bind fun u => dyCut d l u) :=
  PE_imp (pe_slice sl_tupA h hl hh) fun σ H Q ⟨sl, q⟩ => ⟨sl, wpR_imp (wpR_bind q) (Same.refl H) fun d q v H1 s1 r1 => ⟨sl.mono s1 s1, wpR_imp (wpR_bind q) s1 fun l q H2 s2 => ⟨sl.mono (s1.trans s2) (s1.trans s2), wpR_imp (wpR_bind q) (s1.trans s2) fun u q H3 s3 => by
    have r1 : DyR X.K H1 v d := r1
    cases r1 with
    | non => exact q.elim
    | bl _ => exact q.elim
    | int _ => exact q.elim
    | str _ => exact q.elim
    | lst _ _ => exact q.elim
    | dic _ => exact q.elim
    | @tup p vs xs hp rv =>
      have r3 := dya_all2 (DyA.mono (s2.trans s3) rv)
      have s13 := s1.trans (s2.trans s3)
      refine ⟨p, vs, rfl, seqT (s2.trans s3) hp, fun hw => ?_, fun _ o ho => ?_⟩
      · refine q _ _ s13 ?_
        rw [whole_cut (by rw [← r3.length]; exact hw)]
        exact DyR.tup (seqT (s2.trans s3) hp) (all2_dyA r3)
      · refine q _ _ (s13.trans (same_upd ho)) ?_
        exact DyR.tup (SqT.of upd_same) (DyA.mono (same_upd ho) (all2_dyA (cut_all2 r3 l u)))⟩⟩⟩
theorem c_lenT3 {α β γ : Type} [Enc α] [Enc β] [Enc γ] : Bc X (fun xs H Q => ∃ x n, xs = [x] ∧ LenV X.K x H n ∧ Q (.int n) H) (fun _ : (T3 α β γ) × Unit => Res.ok (3 : Int)) := ⟨fun x vs H Q h q => by
  obtain ⟨xs, u⟩ := x
  obtain ⟨v, r, e1, ⟨p, v1, v2, v3, e2, hp, _⟩, e3⟩ := h
  have e3 : r = [] := e3
  subst e1; subst e2; subst e3
  exact ⟨.ref p, 3, rfl, .inr ⟨[v1, v2, v3], SqT.of hp, rfl⟩, q _ H (Same.refl H) rfl⟩, fun _ => noX_ok⟩
end
end G
namespace G
open PySem PySem.Spec PyProof.Rows L2
/-! ### lists that the script may be one of, joined -/
def rCatQ (K : PySem.W.Frag) : R2 := fun x y H Q => ∃ l b xs zs, x = .ref l ∧ y = .ref b ∧ SqL K H l xs ∧ SqL K H b zs ∧ xs.length + zs.length ≤ sizeLine ∧ ∀ p, H p = none → Q (.ref p) (upd H p (.lst (xs ++ zs)))
theorem op_catQ {X : Cx} : OpR X (binaryOp .Add) (rCatQ X.K) := by
  intro pins s σ H x y v u Q I rx ry h
  obtain ⟨l, b, xs, zs, rfl, rfl, hH, hB, hz, q⟩ := h
  cases rx
  cases ry
  obtain ⟨its, r, hl, _⟩ := I.list hH
  obtain ⟨its2, r2, hl2, _⟩ := I.list hB
  have e1 := r.length
  have e2 := r2.length
  obtain ⟨⟨cls, dd, data, sl⟩, n, ho, hc, hd0, hd⟩ := hl
  obtain ⟨⟨cls2, dd2, data2, sl2⟩, n2, ho2, hc2, hd02, hd2⟩ := hl2
  simp only at hc hd hc2 hd2 hd0 hd02
  subst hc hd hc2 hd2 hd0 hd02
  have ea : its.toArray ++ its2.toArray = (its ++ its2).toArray := by simp
  refine concat_meets ⟨_, ho, rfl⟩ ⟨_, ho2, rfl⟩ noFill_list_add seq_list_add PySem.F.slot_list_add PySem.F.entry_list_add (PySem.F.args_list_add_2 _ _) (list_addW l b its.toArray its2.toArray n n2 none none sl sl2 (by rw [List.size_toArray, List.size_toArray]; omega)) ⟨ho, ho2, ?_⟩
  rw [ea]
  exact ⟨.ref _, _, I.lnew (t' := s.toks) (r.append r2) (by rw [List.length_append]; omega), rfl, q _ I.fresh⟩
section
variable {X : Cx} {W : WX} {ss : List Slot} {a b : Expr} {pos : Pos}
theorem all2_ints {K : Frag} {F : Hp} : ∀ ns : List Int, All2 (fun v (a : Int) => Enc.rep K F v a) (ns.map V.int) ns
  | [] => trivial
  | _ :: ns => ⟨rfl, all2_ints ns⟩
/-- the script and more -/
theorem xk_catScr {m : Res Scr} {m' : Res (List Int)} (h : XI X W ss a m) (h' : XL X W ss b m') : XK X W ss (.BinOp a .Add b pos) (m.bind fun x => m'.bind fun ys => catR x.ns ys) ow :=
  PE_imp (pe_op op_catQ h h') fun σ H Q ⟨F, sf, sl, q⟩ => ⟨sl.mono sf (Same.refl H), wpR_imp (wpR_bind q) (Same.refl H) fun x q v H1 s1 r1 => ⟨F, sf.trans s1, sl.mono (Same.refl F) s1, wpR_imp (wpR_bind q) s1 fun ys q p' ws H2 F2 s2 ex2 hp' rw' => by
    obtain ⟨g, q⟩ := wpR_guard q
    obtain ⟨p, rfl, hp⟩ := r1
    have hl := rw'.length
    refine ⟨p, p', x.ns.map V.int, ws, rfl, rfl, s2.seq hp, SqL.of hp', by rw [List.length_map, hl]; exact big_line g, fun o ho => ?_⟩
    exact new_ow (s1.trans s2) ⟨ex2.le, ex2.sub, fun a u z => (ex2.new a u z).imp id (fun z => z.imp (Same.free s1) id)⟩ ho (All2.append (all2_ints x.ns) rw') q⟩⟩
end
end G
namespace G
open PySem PySem.Spec PyProof.Rows L2
/-! ### calls without arguments -/
section
variable {X : Cx} {CX : CXT} {k : Nat} {f : Addr} {fd : FuncData} {ps : List Str} {sp : Sp} {E : L2.St → L2.XK} {dvs : List V} {ds : List Value} {x : Str} {p pos : Pos}
theorem pe_call0SD (F : FnOk X.prog X.w X.K X.mg X.base CX k f fd ps sp) (hr : Room k X.A) (hg : Gl X x) (hm : X.mg x = some (.ref f)) (hk : PySem.W.keepIn X.K (.ref f) = true) (hb : Binds X.K fd ps ds) (hd : Vals dvs ds) (hx : ∀ σ, PassesAt CX X σ (E σ))
    (hdb : (x == ("__debug__" : Str)) = false := by decide) : PE X (.Call (.Name x p) [] [] pos) (tCallSD sp dvs E tNil) := by
  refine ⟨fun pins s σ H Q I h => ?_⟩
  refine wpAny_Call_Name_kw (ld_glob I hg hm ?_ hdb)
  exact PySem.W.callWith_K0 I.kIn hk (run_fnSD (us := []) F hr hb hd (hx σ) I .nil h)
end
section
variable {X : Cx} {W : WX} {ss : List Slot} {k j : Nat} {x : Str} {A R : Type} [EncA A] {c : Unit → A} {g : A → Res R} {kr : R → Slot} {p pos : Pos}
theorem xi_cal0 [Enc R] [View kr] (C : Cal X.prog X.w X.K X.mg X.base j x c g kr) (hr : Room k X.A) (tk : Takes X W) (hj : j ≤ k := by decide) (hg : Gl X x := by rfl) (hdb : (x == ("__debug__" : Str)) = false := by decide) :
    XI X W ss (.Call (.Name x p) [] [] pos) (g (c ())) := by
  obtain ⟨f, fd, ps, dvs, ds, F, hm, hk, hb, hd, hf⟩ := C.ex
  refine PE_imp (pe_call0SD (E := fun σ cls d H => W cls d σ H) F (hr.mono hj) hg hm hk hb hd (fun σ => passAt tk σ) hdb) fun σ H Q ⟨sl, q⟩ => ?_
  refine ⟨c (), H, hf _ _ _ rfl, Same.refl _, ?_⟩
  cases eg : g (c ()) with
  | ok r => rw [eg] at q; exact fun v H' F' G' s2 ex pr k => q v H' s2 (View.view ((kr r).mono ex.sub (fun b u z => (pr b u z).1) k))
  | exc x => rw [eg] at q; exact fun cls d H' h1 h2 h3 => q cls d H' h1 h2 h3
  | stuck => rw [eg] at q; exact q
theorem xk_calF0 (C : Cal X.prog X.w X.K X.mg X.base j x c g kr) (hr : Room k X.A) (tk : Takes X W) (hj : j ≤ k := by decide) (hg : Gl X x := by rfl) (hdb : (x == ("__debug__" : Str)) = false := by decide) :
    XK X W ss (.Call (.Name x p) [] [] pos) (g (c ())) kr := by
  obtain ⟨f, fd, ps, dvs, ds, F, hm, hk, hb, hd, hf⟩ := C.ex
  refine PE_imp (pe_call0SD (E := fun σ cls d H => W cls d σ H) F (hr.mono hj) hg hm hk hb hd (fun σ => passAt tk σ) hdb) fun σ H Q ⟨F0, sf, sl, q⟩ => ?_
  refine ⟨c (), F0, hf _ _ _ rfl, sf, ?_⟩
  cases eg : g (c ()) with
  | ok r => rw [eg] at q; exact fun v H' F' G' s2 ex pr k => q v H' F' G' s2 ex pr k
  | exc x => rw [eg] at q; exact fun cls d H' h1 h2 h3 => q cls d H' h1 h2 h3
  | stuck => rw [eg] at q; exact q
end
end G

namespace G
open PySem PySem.Spec PyProof.Rows L2
/-! ### a clause of three classes, one of which each refusal of the body has -/
def wT3 (K : PySem.W.Frag) (c1 c2 c3 : Value) (ts : Addr → Value → Option Addr → TS) (D : Ends) : L2.WX := fun cls d σ H => PySem.W.exmAny K cls [c1, c2, c3] = some true ∧ ∀ a, H a = none → ts a cls d D σ H
theorem flying_push {B : Heap} {l : List Env} {a : Addr} {Z : Obj → Prop} {h : Heap} (o : Obj) (f : HandSPX.FlyingZ B l a Z h) : HandSPX.FlyingZ B l a Z (h.push o) := by
  obtain ⟨hkb, hen, hl, oe, vs, T, oT, ts, he, hz, hd, h1, hnT, hTe, hT, hdT, h3⟩ := f
  have k : ∀ b ob, h.get? b = some ob → (h.push o).get? b = some ob := fun b ob q => Heap.get?_push_of_some _ q
  exact ⟨fun b ob q => k b ob (hkb b ob q), hen, hl.of_keeps fun b ob q _ => ⟨ob, k b ob q, rfl⟩, oe, vs, T, oT, ts, k _ _ he, hz, hd, h1, hnT, hTe, k _ _ hT, hdT, h3⟩
/-- a refusal that has come down in the frame that catches it: sI the state without it -/
structure Lies (X : Cx) (pins : List (Addr × Obj)) (σ : L2.St) (H : Hp) (B : Heap) (a : Addr) (cls : Value) (d : Option Addr) (sI s : Shared) : Prop where
  before : Inv X pins σ H sI
  low : ∀ b o, sI.heap.get? b = some o → b ∉ frs X.stack → B.get? b = some o
  grew : sI.heap.UpToSlots s.heap
  air : HandSPX.FlyingZ B (X.env :: X.outer) a (Zc cls d) s.heap
  fresh : H a = none
  sys : s.os = sI.os
  gen : AllBare s.gens
section
variable {X : Cx} {pins : List (Addr × Obj)} {σ : L2.St} {H : Hp} {B : Heap} {a : Addr} {cls : Value} {d : Option Addr} {sI s : Shared}
theorem Lies.inv (l : Lies X pins σ H B a cls d sI s) : Inv X pins σ H s := l.before.landed l.low l.air.1 l.grew l.sys l.gen
theorem Lies.obj (l : Lies X pins σ H B a cls d sI s) : ∃ oe, s.heap.get? a = some oe ∧ Zc cls d oe ∧ ∃ vs, oe.data = .fields vs := by
  obtain ⟨oe, vs, q1, q2, q3⟩ := l.air.there
  exact ⟨oe, q1, q2, vs, q3⟩
theorem Lies.out (l : Lies X pins σ H B a cls d sI s) : a ∉ frs (X.env :: X.outer) := by
  intro inside
  obtain ⟨oe, q1, _, vs, q3⟩ := l.obj
  obtain ⟨_, o2, w1, w2⟩ := l.air.2.2.1.mem inside
  cases q1.symm.trans w1
  exact w2 _ q3
theorem Lies.notL (l : Lies X pins σ H B a cls d sI s) (hf : X.env.frame = some X.env.locals) : a ≠ X.env.locals := by
  intro z
  refine l.out (List.mem_filterMap.mpr ⟨X.env, List.mem_cons_self, ?_⟩)
  rw [hf, z]
theorem Lies.notF (l : Lies X pins σ H B a cls d sI s) : a ∉ X.fs := by
  intro inside
  obtain ⟨env, m, q⟩ := List.mem_filterMap.mp inside
  exact l.out (List.mem_filterMap.mpr ⟨env, .tail _ m, q⟩)
theorem Lies.ground (l : Lies X pins σ H B a cls d sI s) {o : Obj} (e : sI.heap.get? a = some o) (hs : X.stack = X.env :: X.outer) : False := by
  have := l.low a o e (by rw [hs]; exact l.out)
  rw [l.air.2.1] at this
  cases this
theorem Lies.young (l : Lies X pins σ H B a cls d sI s) (hs : X.stack = X.env :: X.outer) (hex : X.ex = []) : X.s_0.heap.get? a = none := by
  cases e : X.s_0.heap.get? a
  · rfl
  · rename_i o
    obtain ⟨o', q⟩ := l.before.base.there a o e (hex ▸ List.not_mem_nil)
    exact (l.ground q hs).elim
theorem Lies.away (l : Lies X pins σ H B a cls d sI s) (hs : X.stack = X.env :: X.outer) : ∀ p ∈ X.pn ++ pins, p.1 ≠ a := by
  intro p m z
  have q := (l.before.pin p m).1
  rw [z] at q
  exact l.ground q hs
theorem Lies.up (l : Lies X pins σ H B a cls d sI s) {h : Heap} (fl : HandSPX.FlyingZ B (X.env :: X.outer) a (Zc cls d) h) (g : s.heap.UpToSlots h) : Lies X pins σ H B a cls d sI { s with heap := h } :=
  ⟨l.before, l.low, l.grew.trans g, fl, l.fresh, l.sys, l.gen⟩
/-- the state of the suite that holds it -/
theorem Lies.held (l : Lies X pins σ H B a cls d sI s) (hf : X.env.frame = some X.env.locals) {oe : Obj} (e : s.heap.get? a = some oe) {vs : Array Value} (q : oe.data = .fields vs) : Inv (X.suite a ((a, oe) :: (X.pn ++ pins))) [] σ H s :=
  l.inv.suite e q l.fresh (l.notL hf) l.notF
end
/-- what the body of a try leaves, seen from outside -/
theorem sp_ofTry {X : Cx} {pins : List (Addr × Obj)} {xe : Value → Shared → Prop} {D : Ends} {s : Shared} (ok : X.Ok) : ∀ {f : Flow}, SP (X.tr (X.pn ++ pins) xe) [] D f s → SP X pins D f s
  | .next, ⟨σ, H, J, q⟩ => ⟨σ, H, J.ofTry ok, q⟩
  | .brk, ⟨σ, H, J, q⟩ => ⟨σ, H, J.ofTry ok, q⟩
  | .cont, ⟨σ, H, J, q⟩ => ⟨σ, H, J.ofTry ok, q⟩
  | .ret _, ⟨v, σ, H, J, q⟩ => ⟨v, σ, H, J.ofTry ok, q⟩
theorem ps_try_tup3 {X : Cx} {body suite : List Stmt} {b₀ : Stmt} {x1 x2 x3 : Str} {c1 c2 c3 : Value} {p1 p2 p3 tpos pos' pos : Pos} {kk : Nat} {tb : L2.WX → TS} {ts : Addr → Value → Option Addr → TS} (hs : X.stack = X.env :: X.outer) (hf : X.env.frame = some X.env.locals)
    (hn1 : L2.Names X x1 c1) (hn2 : L2.Names X x2 c2) (hn3 : L2.Names X x3 c3)
    (hb : ∀ (Wb : L2.WX) (pn : List (Addr × Obj)) (out : Value → Shared → Prop), L2.Takes (X.tr pn out) Wb → PassesOwn (model X.prog X.w) X.A X.env out → PSs (X.tr pn out) body (tb Wb))
    (hsu : ∀ (a : Addr) (oe : Obj) (cls : Value) (d : Option Addr) (pn : List (Addr × Obj)), L2.Zc cls d oe → (∃ vs, oe.data = .fields vs) → PSs (X.suite a ((a, oe) :: pn)) (b₀ :: suite) (ts a cls d))
    (he1 : starEach [.Name x1 p1, .Name x2 p2, .Name x3 p3] X.env = (false, eval (.Name x1 p1) X.env) :: starEach [.Name x2 p2, .Name x3 p3] X.env := by rfl)
    (he2 : starEach [.Name x2 p2, .Name x3 p3] X.env = (false, eval (.Name x2 p2) X.env) :: starEach [.Name x3 p3] X.env := by rfl) (he3 : starEach [.Name x3 p3] X.env = (false, eval (.Name x3 p3) X.env) :: starEach [] X.env := by rfl) :
    PS X (.Try body [.ExceptHandler (some (.Tuple [.Name x1 p1, .Name x2 p2, .Name x3 p3] kk tpos)) none (b₀ :: suite) pos'] [] [] pos) (fun D σ H => tb (wT3 X.K c1 c2 c3 ts D) D σ H) := by
  refine ⟨fun pins s σ H D I want => wpAny_Try_except ?_⟩
  let clause : ExceptHandler := .ExceptHandler (some (.Tuple [.Name x1 p1, .Name x2 p2, .Name x3 p3] kk tpos)) none (b₀ :: suite) pos'
  let out : Value → Shared → Prop := fun e t => wpAny (model X.prog X.w) X.A (noteFrame e X.env) (fun _ t => wpAny (model X.prog X.w) X.A (setFlight e none) (fun _ t => wpAny (model X.prog X.w) X.A (handleBy e X.env [clause]) (SP X pins D) X.xe t) X.xe t) X.xe t
  have takes : L2.Takes (X.tr (X.pn ++ pins) out) (wT3 X.K c1 c2 c3 ts D) := by
    rintro u t ⟨a, B, sI, pins', σ', H', cls, d, rfl, J', low, grew, sky, fresh, sys, gen, isOne, runs⟩
    rw [show (X.tr (X.pn ++ pins) out).stack = X.env :: X.outer from hs] at sky
    refine Sky.land Zc.steady (by rw [I.ok.frames, hs]) hf sky fun h1 fl1 g1 => ?_
    have l1 : Lies X pins σ' H' B a cls d sI { t with heap := h1 } := ⟨J'.ofTry I.ok, low, grew.trans g1, fl1, fresh, sys, gen⟩
    obtain ⟨o1, at1, z1, vs1, v1⟩ := l1.obj
    have S1 := l1.held hf at1 v1
    have named : ∀ {x : Str} {c : Value} {np : Pos} {Q : Value → Shared → Prop} {E : Value → Shared → Prop}, L2.Names X x c → Q c { t with heap := h1 } → wpAny (model X.prog X.w) (X.A.mark (some (.ref a))) (eval (.Name x np) X.env) Q E { t with heap := h1 } := by
      intro x c np Q E hc q
      rcases hc with ⟨g, nd, m | ⟨m, bt, nn⟩⟩
      · exact ld_glob S1 g m q nd
      · exact ld_blt S1 g m bt q nn nd
    refine wpAny_handleBy_cons (codeAny_handlers_test ?_) (fun q => nomatch q)
    refine wpAny_Tuple_spliced (args_cons (named hn1 (args_cons (named hn2 (args_cons (named hn3 (args_nil ⟨by rw [sizeLine_eq]; show 3 ≤ _; omega, ?_⟩)) he3)) he2)) he1)
    let tup : Obj := { cls := .type "tuple", data := .seq [c1, c2, c3].toArray }
    have keeps : ∀ b ob, h1.get? b = some ob → (h1.push tup).get? b = some ob := fun b ob q => Heap.get?_push_of_some _ q
    have cl : PySem.W.Looks (model X.prog X.w) (h1.push tup) (typeOf (.ref a)) cls := fun _ _ _ _ k q => wpAny_typeOf_ref (k _ _ (keeps _ _ at1)) (by rw [z1.1]; exact q)
    refine (PySem.W.exm_tup3 (M := model X.prog X.w) (l1.inv.kIn.keeps keeps) cl (Heap.get?_push_size _ rfl) isOne).here ?_
    have l2 := l1.up (flying_push tup l1.air) (Heap.UpToSlots.of_keeps keeps)
    refine codeAny_handlers_suite (HandSPX.lands_againZ l2.air fun h2 fl2 g2 => ?_)
    have l3 := l2.up fl2 g2
    obtain ⟨o3, at3, z3, vs3, v3⟩ := l3.obj
    refine wpAny_mono ((hsu a o3 cls d (X.pn ++ pins) z3 ⟨_, v3⟩).run [] _ _ H' _ (l3.held hf at3 v3) (runs a fresh)) (fun f s6 left => ?_) (fun _ _ z => z.elim)
    cases f with
    | ret u => obtain ⟨v, σ6, H6, S6, r6, q⟩ := left; exact ⟨v, σ6, H6, S6.unsuite I.ok, r6, q⟩
    | next => obtain ⟨σ6, H6, S6, q⟩ := left; exact ⟨σ6, H6, S6.unsuite I.ok, q⟩
    | brk => obtain ⟨σ6, H6, S6, q⟩ := left; exact ⟨σ6, H6, S6.unsuite I.ok, q⟩
    | cont => obtain ⟨σ6, H6, S6, q⟩ := left; exact ⟨σ6, H6, S6.unsuite I.ok, q⟩
  refine wpAny_mono ((hb _ (X.pn ++ pins) out takes PassesOwn.looking).run [] s σ H D (I.toTry _) want) (fun f t left => ?_) (fun _ _ z => z)
  have left := sp_ofTry I.ok left
  cases f with
  | next => exact wpAny_execs_nil left
  | brk => exact left
  | cont => exact left
  | ret u => exact left
/-- the three tables as one: each class that comes is one of them -/
def T3Tab (K : Frag) (mg : PySem.Str → Option Value) (y1 y2 y3 : Str) (tab : ETab) : Prop := ∃ Y1 Y2 Y3, mg y1 = some (.ref Y1) ∧ mg y2 = some (.ref Y2) ∧ mg y3 = some (.ref Y3) ∧ ∀ n, lookB tab n = some true → ∃ C, mg n = some (.ref C) ∧ PySem.W.exmAny K (.ref C) [.ref Y1, .ref Y2, .ref Y3] = some true
def catch1 {β : Type} (m : Res β) (tab : ETab) (M : Res β) : Res β := match m with
  | .ok b => .ok b
  | .exc x => if lookB tab x.cls = some true then noX M else .stuck
  | .stuck => .stuck
theorem t3_mk {K : Frag} {mg : PySem.Str → Option Value} {y1 y2 y3 : Str} {tab t1 t2 t3 : ETab} (h1 : CTab K mg y1 t1) (h2 : CTab K mg y2 t2) (h3 : CTab K mg y3 t3) (h : ∀ n, lookB tab n = some true → ∃ b1 b2 b3, lookB t1 n = some b1 ∧ lookB t2 n = some b2 ∧ lookB t3 n = some b3 ∧ (b1 || (b2 || b3)) = true) : T3Tab K mg y1 y2 y3 tab := by
  obtain ⟨Y1, g1, q1⟩ := h1
  obtain ⟨Y2, g2, q2⟩ := h2
  obtain ⟨Y3, g3, q3⟩ := h3
  refine ⟨Y1, Y2, Y3, g1, g2, g3, fun n e => ?_⟩
  obtain ⟨b1, b2, b3, e1, e2, e3, hb⟩ := h n e
  obtain ⟨C, gC, x1⟩ := q1 _ _ e1
  obtain ⟨C2, gC2, x2⟩ := q2 _ _ e2
  obtain ⟨C3, gC3, x3⟩ := q3 _ _ e3
  have : C2 = C := Value.ref.inj (Option.some.inj (gC2.symm.trans gC))
  subst this
  have : C3 = C2 := Value.ref.inj (Option.some.inj (gC3.symm.trans gC))
  subst this
  refine ⟨_, gC, ?_⟩
  unfold PySem.W.exmAny PySem.W.exmAny PySem.W.exmAny PySem.W.exmAny
  rw [x1, x2, x3]
  show some (b1 || (b2 || (b3 || false))) = some true
  rw [Bool.or_false, hb]
theorem lookB_mem : ∀ {t : ETab} {n : Str} {b : Bool}, lookB t n = some b → (n, b) ∈ t
  | (k, c) :: r, n, b, h => by
    unfold lookB at h
    by_cases e : n = k
    · rw [if_pos e] at h
      cases h
      subst e
      exact List.mem_cons_self
    · rw [if_neg e] at h
      exact List.mem_cons_of_mem _ (lookB_mem h)
def t3B (t1 t2 t3 : ETab) (p : Str × Bool) : Bool := !p.2 || (match lookB t1 p.1, lookB t2 p.1, lookB t3 p.1 with
  | some a, some b, some c => a || (b || c)
  | _, _, _ => false)
theorem t3_mk' {K : Frag} {mg : PySem.Str → Option Value} {y1 y2 y3 : Str} {tab t1 t2 t3 : ETab} (h1 : CTab K mg y1 t1) (h2 : CTab K mg y2 t2) (h3 : CTab K mg y3 t3) (h : tab.all (t3B t1 t2 t3) = true) : T3Tab K mg y1 y2 y3 tab := t3_mk h1 h2 h3 fun n e => by
  have := List.all_eq_true.mp h _ (lookB_mem e)
  unfold t3B at this
  rw [Bool.not_true, Bool.false_or] at this
  dsimp only at this
  split at this
  · rename_i a b c e1 e2 e3
    exact ⟨a, b, c, e1, e2, e3, this⟩
  · cases this
section
variable {X : Cx} {W : L2.WX} {ss : List Slot}
theorem b1_tryT3 {S L R : Type} {st b₀ : Stmt} {suite : List Stmt} {y1 y2 y3 : Str} {p1 p2 p3 tpos pos' pos : Pos} {kk : Nat} {tab : ETab} {M N : Res (Out S L R)} {post : S → List Slot} {pl : L → List Slot} {kr : R → Slot} (T : T3Tab X.K X.mg y1 y2 y3 tab)
    (hb : ∀ (W' : L2.WX) (pn : List (Addr × Obj)) (xe : Value → Shared → Prop), L2.Takes (X.tr pn xe) W' → PS (X.tr pn xe) st (rdE (X.tr pn xe) W' ss M post pl kr))
    (hsu : ∀ (a : Addr) (oe : Obj) (pn : List (Addr × Obj)), SB (X.suite a ((a, oe) :: pn)) wNo ss (b₀ :: suite) N post pl kr)
    (hg1 : Gl X y1 := by rfl) (hg2 : Gl X y2 := by rfl) (hg3 : Gl X y3 := by rfl) (hd1 : (y1 == ("__debug__" : Str)) = false := by decide) (hd2 : (y2 == ("__debug__" : Str)) = false := by decide) (hd3 : (y3 == ("__debug__" : Str)) = false := by decide)
    (hst : X.stack = X.env :: X.outer := by rfl) (hf : X.env.frame = some X.env.locals := by rfl)
    (he1 : starEach [.Name y1 p1, .Name y2 p2, .Name y3 p3] X.env = (false, eval (.Name y1 p1) X.env) :: starEach [.Name y2 p2, .Name y3 p3] X.env := by rfl)
    (he2 : starEach [.Name y2 p2, .Name y3 p3] X.env = (false, eval (.Name y2 p2) X.env) :: starEach [.Name y3 p3] X.env := by rfl) (he3 : starEach [.Name y3 p3] X.env = (false, eval (.Name y3 p3) X.env) :: starEach [] X.env := by rfl) :
    B1 X W ss (.Try [st] [.ExceptHandler (some (.Tuple [.Name y1 p1, .Name y2 p2, .Name y3 p3] kk tpos)) none (b₀ :: suite) pos'] [] [] pos) (catch1 M tab N) post pl kr := by
  obtain ⟨Y1, Y2, Y3, g1, g2, g3, hT⟩ := T
  let ts : Addr → Value → Option Addr → TS := fun _ _ _ D σ H => ∃ B F0 F Gs, Asn X.K B F0 ss σ H F Gs ∧ wpS X wNo N B (outOk X post pl kr D B F0)
  refine PS_imp (ps_try_tup3 (tb := fun W' => rdE X W' ss M post pl kr) (ts := ts) hst hf ⟨hg1, hd1, .inl g1⟩ ⟨hg2, hd2, .inl g2⟩ ⟨hg3, hd3, .inl g3⟩ (fun W' pn xe tk' _ => pss_one (hb W' pn xe tk')) (fun a oe cls d pn hz hfd => ?_) he1 he2 he3) fun D σ H ⟨B, F0, F, Gs, A, q⟩ => ⟨B, F0, F, Gs, A, ?_⟩
  · exact ⟨fun pins s σ H D I ⟨B, F0, F, Gs, A, q⟩ => (hsu a oe pn).run pins s σ H D I ⟨B, F0, F, Gs, A, by cases e : N with
      | ok o =>
        rw [e] at q
        cases o <;> exact q
      | exc z =>
        rw [e] at q
        exact fun σ cls d H' a b c => q σ cls d H' a b c
      | stuck => rw [e] at q; exact q⟩⟩
  · cases M with
    | ok o => cases o <;> exact q
    | stuck => exact q.elim
    | exc x =>
      intro cls d H' hm s hp
      have q : wpS X W (if lookB tab x.cls = some true then noX N else .stuck) B _ := q
      by_cases e : lookB tab x.cls = some true
      · rw [if_pos e] at q
        obtain ⟨C, gC, hC⟩ := hT _ e
        have : cls = .ref C := Option.some.inj (hm.symm.trans gC)
        subst this
        refine ⟨hC, fun a na => ?_⟩
        have A' := A.grow s ⟨Same.refl F, A.ext.sub.trans s, fun _ _ h => .inl h⟩
        refine ⟨B, F0, F, _, A', ?_⟩
        revert q
        cases N with
        | exc z => exact fun q => q.elim
        | stuck => exact fun q => q.elim
        | ok o => cases o <;> exact fun q => q
      · rw [if_neg e] at q
        exact q.elim
end
theorem fr_dy {α : Type} [Enc α] [ToDy α] {a : α} : ∀ K F G o, (fr a).P K F G o → (fr (ToDy.dy a)).P K F G o := fun _ _ _ _ ⟨v, e, r⟩ => ⟨v, e, ToDy.rep r⟩
end G

namespace G
open PySem PySem.Spec PyProof.Rows L2
section
variable {X : Cx} {W : WX} {ss : List Slot} {pos : Pos} {a b e : Expr} {es : List Expr}
/-! ### list(range(a, b)) -/
theorem xk_listR2 {m m' : Res Int} {p p2 pos2 : Pos} (h : XI X W ss a m) (h' : XI X W ss b m') (hm : X.mg "list" = none) (hm2 : X.mg "range" = none) (hc : X.calm = true := by rfl) (hg : Gl X "list" := by rfl) (hg2 : Gl X "range" := by rfl) (na : starEach [a, b] X.env = (false, eval a X.env) :: starEach [b] X.env := by rfl)
    (nb : starEach [b] X.env = (false, eval b X.env) :: starEach [] X.env := by rfl) (hp : (backTo pos2 (starEach [b] X.env)).any (·.1) = false := by rfl)
    (hs : starEach [.Call (.Name "range" p2) [a, b] [] pos2] X.env = (false, eval (.Call (.Name "range" p2) [a, b] [] pos2) X.env) :: starEach [] X.env := by rfl) :
    XK X W ss (.Call (.Name "list" p) [.Call (.Name "range" p2) [a, b] [] pos2] [] pos) (m.bind fun i => m'.bind fun j => guardR (small62 i && (small62 j && big (j - i).toNat)) (.ok (rangeL i (j - i).toNat))) ow := by
  refine PE_imp (pe_listR hc hg hm (prg_2 hg2 hm2 h h' na nb hp) hs) fun σ H Q ⟨F, sf, sl, q⟩ => ⟨sl.mono sf (Same.refl H), wpR_imp (wpR_bind q) (Same.refl H) fun i q v H1 s1 r1 => ?_⟩
  refine ⟨sl.mono (sf.trans s1) s1, wpR_imp (wpR_bind q) s1 fun j q v' H2 s2 r2 => ?_⟩
  obtain ⟨g, q⟩ := wpR_guard q
  rw [Bool.and_eq_true, Bool.and_eq_true] at g
  obtain ⟨h1, h2⟩ := small62_of g.1
  obtain ⟨h3, h4⟩ := small62_of g.2.1
  have hb := of_decide_eq_true g.2.2
  refine ⟨i, j, r1, r2, h1, h2, h3, h4, hb, fun o ho => ?_⟩
  exact new_owI sf (s1.trans s2) ho (All2.of_map (f := V.int)) q
/-! ### text.index(sign) -/
def indexS (x y : Str) : Res Int := match Builtin.Str.occurrences x y 0 x.length 1 with
  | i :: _ => .ok (i : Int)
  | [] => .stuck
theorem m_index : Sm X (fun x xs H Q => ∃ a b i rest, x = .str a ∧ xs = [.str b] ∧ Builtin.Str.occurrences a b 0 a.length 1 = i :: rest ∧ Q (.int (i : Nat)) H) (fun (z : Str) (x : Str × Unit) => indexS z x.1) := ⟨fun z x vs H Q h q => by
  obtain ⟨y, u⟩ := x
  obtain ⟨v, r, e1, e2, e3⟩ := h
  have e2 : v = .str y := e2
  have e3 : r = [] := e3
  subst e1; subst e2; subst e3
  have q : okR (indexS z y) _ := q
  unfold indexS at q
  cases eo : Builtin.Str.occurrences z y 0 z.length 1 with
  | nil => rw [eo] at q; exact q.elim
  | cons i rest => rw [eo] at q; exact ⟨z, y, i, rest, rfl, rfl, eo, q _ H (Same.refl H) rfl⟩, fun z x => by
  show NoX (indexS z x.1)
  unfold indexS
  split
  · exact noX_ok
  · exact fun y h => nomatch h⟩
/-! ### len(dict) -/
theorem len_dK {X : Cx} : CallR X (.builtin "len") (fun xs H Q => ∃ (a : Addr) (kvs : List (Key × V)), xs = [V.ref a] ∧ Rd H a (.dK kvs) ∧ Q (.int kvs.length) H) := by
  rintro pins s σ H _ us Q I r ⟨a, kvs, rfl, rd, q⟩
  obtain ⟨u, rfl, ru⟩ := r.one
  cases ru
  exact d_len I rd fun t s' J => ⟨.int (kvs.length : Nat), H, J, ⟨t, rfl⟩, q⟩
theorem len_dT {X : Cx} : CallR X (.builtin "len") (fun xs H Q => ∃ (a : Addr) (kvs : List (List Key × V)), xs = [V.ref a] ∧ Rd H a (.dT kvs) ∧ Q (.int kvs.length) H) := by
  rintro pins s σ H _ us Q I r ⟨a, kvs, rfl, rd, q⟩
  obtain ⟨u, rfl, ru⟩ := r.one
  cases ru
  obtain ⟨small, mods, keys, rel, isD⟩ := dt_rd I.hok rd
  have same : kvs.length = keys.length := rel.length
  refine PySem.call_len_dictH mods isD (by rw [← same]; rw [sizeLine_eq] at small; omega) ?_
  rw [← same]
  exact ⟨.int (kvs.length : Nat), H, I.tok _, ⟨_, rfl⟩, q⟩
class DKL (κ : Type) [Enc κ] [DecidableEq κ] [DK κ] : Prop where
  len : ∀ (X : Cx), CallR X (.builtin "len") (fun xs H Q => ∃ (a : Addr) (kvs : List (κ × V)), xs = [V.ref a] ∧ Rd H a (DK.ho kvs) ∧ Q (.int kvs.length) H)
instance : DKL Int := ⟨fun X pins s σ H xs us Q I r ⟨a, kvs, e, h, q⟩ => len_dK pins s σ H xs us Q I r ⟨a, _, e, h, by rw [List.length_map]; exact q⟩⟩
instance : DKL Str := ⟨fun X pins s σ H xs us Q I r ⟨a, kvs, e, h, q⟩ => len_dK pins s σ H xs us Q I r ⟨a, _, e, h, by rw [List.length_map]; exact q⟩⟩
instance : DKL (Int × Int) := ⟨fun X pins s σ H xs us Q I r ⟨a, kvs, e, h, q⟩ => len_dT pins s σ H xs us Q I r ⟨a, _, e, h, by rw [List.length_map]; exact q⟩⟩
theorem c_lenDk {κ β : Type} [Enc κ] [DecidableEq κ] [DK κ] [Enc β] : Bc X (fun xs H Q => ∃ (a : Addr) (kvs : List (κ × V)), xs = [V.ref a] ∧ Rd H a (DK.ho kvs) ∧ Q (.int kvs.length) H) (fun x : Dic κ β × Unit => Res.ok (x.1.l.length : Int)) := ⟨fun x vs H Q h q => by
  obtain ⟨d, u⟩ := x
  obtain ⟨v, r, e1, ⟨p, kvs, e2, hp, rv⟩, e3⟩ := h
  have e3 : r = [] := e3
  subst e1; subst e2; subst e3
  refine ⟨p, kvs, rfl, hp, ?_⟩
  rw [All2.length rv]
  exact q _ H (Same.refl H) rfl, fun _ => noX_ok⟩
/-! ### truth of a number, of a text -/
theorem xt_truI {m : Res Int} (h : XI X W ss a m) (he : ∀ whole, isTrue a X.env whole = (do let v ← whole; standAt a.pos; holding [v] (truthy v)) := by intro _; rfl) : XT X W ss a (m.bind fun i => .ok (i != 0)) :=
  PT_imp (pt_truthR h tru_ok he) fun σ H Q ⟨sl, q⟩ => ⟨sl, wpR_imp (wpR_bind q) (Same.refl H) fun i q v H1 s1 r1 => ⟨_, by rw [show v = V.int i from r1]; exact rfl, q H1 s1⟩⟩
/-! ### the order of pairs -/
theorem b_ltP : Bi X (rLtT X.K) (fun a b : Int × Int => Res.ok (!leP b a)) := ⟨fun x y v w H Q ⟨p, v1, v2, e1, h1, r1, r2⟩ ⟨p', v1', v2', e2, h2, r1', r2'⟩ q => by
  have r1 : v1 = V.int x.1 := r1
  have r2 : v2 = V.int x.2 := r2
  have r1' : v1' = V.int y.1 := r1'
  have r2' : v2' = V.int y.2 := r2'
  subst r1; subst r2; subst r1'; subst r2'
  refine ⟨p, p', [x.1, x.2], [y.1, y.2], e1, e2, SqT.of h1, SqT.of h2, ?_⟩
  have e : HT.lexLt [x.1, x.2] [y.1, y.2] = !leP y x := by
    rw [HT.lexLt_cons, HT.lexLt_cons, HT.lexLt_nil_nil]
    unfold leP
    by_cases q1 : x.1 = y.1
    · rw [if_pos q1]
      by_cases q2 : x.2 = y.2
      · rw [if_pos q2]; simp [q1, q2]
      · rw [if_neg q2, Bool.eq_iff_iff]; simp [q1]
    · rw [if_neg q1, Bool.eq_iff_iff]
      simp
      omega
  rw [e]
  exact q _ H (Same.refl H) rfl, fun _ _ => noX_ok⟩
theorem b_geP : Bi X (rGeT X.K) (fun a b : Int × Int => Res.ok (leP b a)) := ⟨fun x y v w H Q ⟨p, v1, v2, e1, h1, r1, r2⟩ ⟨p', v1', v2', e2, h2, r1', r2'⟩ q => by
  have r1 : v1 = V.int x.1 := r1
  have r2 : v2 = V.int x.2 := r2
  have r1' : v1' = V.int y.1 := r1'
  have r2' : v2' = V.int y.2 := r2'
  subst r1; subst r2; subst r1'; subst r2'
  exact ⟨p, p', x.1, x.2, y.1, y.2, e1, e2, SqT.of h1, SqT.of h2, q _ H (Same.refl H) rfl⟩, fun _ _ => noX_ok⟩
theorem b_leP : Bi X (rLeT X.K) (fun a b : Int × Int => Res.ok (leP a b)) := ⟨fun x y v w H Q ⟨p, v1, v2, e1, h1, r1, r2⟩ ⟨p', v1', v2', e2, h2, r1', r2'⟩ q => by
  have r1 : v1 = V.int x.1 := r1
  have r2 : v2 = V.int x.2 := r2
  have r1' : v1' = V.int y.1 := r1'
  have r2' : v2' = V.int y.2 := r2'
  subst r1; subst r2; subst r1'; subst r2'
  refine ⟨p, p', [x.1, x.2], [y.1, y.2], e1, e2, SqT.of h1, SqT.of h2, ?_⟩
  have e : Ob.lexAt (fun j => decide ([x.1, x.2].getD j 0 = [y.1, y.2].getD j 0)) (fun j => decide ([x.1, x.2].getD j 0 ≤ [y.1, y.2].getD j 0)) (decide ([x.1, x.2].length ≤ [y.1, y.2].length)) 0 (min [x.1, x.2].length [y.1, y.2].length) = leP x y := by
    show (if decide (x.1 = y.1) = true then (if decide (x.2 = y.2) = true then true else decide (x.2 ≤ y.2)) else decide (x.1 ≤ y.1)) = (decide (x.1 < y.1) || (decide (x.1 = y.1) && decide (x.2 ≤ y.2)))
    by_cases h1 : x.1 = y.1
    · by_cases h2 : x.2 = y.2
      · simp [h1, h2]
      · simp [h1, h2]
    · simp only [decide_eq_true_eq]
      rw [if_neg h1, decide_eq_false h1, Bool.false_and, Bool.or_false, Bool.eq_iff_iff, decide_eq_true_iff, decide_eq_true_iff]
      omega
  rw [e]
  exact q _ H (Same.refl H) rfl, fun _ _ => noX_ok⟩
end
end G

namespace G
open PySem PySem.Spec PyProof.Rows L2
/-! ### tuples with lists of one's own -/
def t3O {α β γ : Type} [Enc α] [Enc β] [Enc γ] (d : Ow α) (d' : Ow β) (d'' : Ow γ) : Ow (T3 α β γ) := ⟨fun K F G v x => ∃ p v1 v2 v3 G1 G2 G3, v = .ref p ∧ F p = some (.tup [v1, v2, v3]) ∧ Same G1 G ∧ Same G2 G ∧ Same G3 G ∧ Dj G1 G2 ∧ Dj G1 G3 ∧ Dj G2 G3 ∧ d.own K F G1 v1 x.a ∧ d'.own K F G2 v2 x.b ∧ d''.own K F G3 v3 x.c,
  fun s ⟨p, v1, v2, v3, G1, G2, G3, e, g, a1, a2, a3, c1, c2, c3, x, y, z⟩ => ⟨p, v1, v2, v3, G1, G2, G3, e, s _ _ g, a1, a2, a3, c1, c2, c3, d.mF s x, d'.mF s y, d''.mF s z⟩,
  fun s ⟨p, v1, v2, v3, G1, G2, G3, e, g, a1, a2, a3, c1, c2, c3, x, y, z⟩ => ⟨p, v1, v2, v3, G1, G2, G3, e, g, a1.trans s, a2.trans s, a3.trans s, c1, c2, c3, x, y, z⟩,
  fun ⟨p, v1, v2, v3, G1, G2, G3, e, g, a1, a2, a3, c1, c2, c3, x, y, z⟩ s t => ⟨p, v1, v2, v3, e, s _ _ g, d.view x s (a1.trans t), d'.view y s (a2.trans t), d''.view z s (a3.trans t)⟩⟩
instance {α β γ : Type} [Enc α] [Enc β] [Enc γ] {d : Ow α} {d' : Ow β} {d'' : Ow γ} [ImmO d] [ImmO d'] [ImmO d''] : ImmO (t3O d d' d'') := ⟨fun ⟨p, v1, v2, v3, G1, G2, G3, e, g, a1, a2, a3, c1, c2, c3, x, y, z⟩ => ⟨p, v1, v2, v3, G1, G2, G3, e, tups_some g rfl, a1, a2, a3, c1, c2, c3, ImmO.imm x, ImmO.imm y, ImmO.imm z⟩⟩
/-- perhaps none -/
def optO {α : Type} [Enc α] (d : Ow α) : Ow (Option α) := ⟨fun K F G v o => match o with
    | none => v = .non
    | some a => v ≠ .non ∧ d.own K F G v a,
  fun {K F F' G v o} s h => by
    cases o with
    | none => exact h
    | some a => exact ⟨h.1, d.mF s h.2⟩,
  fun {K F G G' v o} s h => by
    cases o with
    | none => exact h
    | some a => exact ⟨h.1, d.mG s h.2⟩,
  fun {K F G H v o} h s t => by
    cases o with
    | none => exact h
    | some a => exact ⟨h.1, d.view h.2 s t⟩⟩
instance {α : Type} [Enc α] {d : Ow α} [ImmO d] : ImmO (optO d) := ⟨fun {K F G v o} h => by
  cases o with
  | none => exact h
  | some a => exact ⟨h.1, ImmO.imm h.2⟩⟩
class NNO {α : Type} [Enc α] (d : Ow α) : Prop where
  nn : ∀ {K : Frag} {F G : Hp} {v : V} {a : α}, d.own K F G v a → v ≠ .non
instance {α β : Type} [Enc α] [Enc β] {d : Ow α} {d' : Ow β} : NNO (prO d d') := ⟨fun ⟨_, _, _, _, _, e, _⟩ z => by rw [e] at z; cases z⟩
instance {α β γ : Type} [Enc α] [Enc β] [Enc γ] {d : Ow α} {d' : Ow β} {d'' : Ow γ} : NNO (t3O d d' d'') := ⟨fun ⟨_, _, _, _, _, _, _, e, _⟩ z => by rw [e] at z; cases z⟩
/-- a list of one's own within a tuple of one's own -/
structure PartO {τ α : Type} [Enc τ] [Enc α] (D : Ow τ) (n : Int) (get : τ → List α) (put : τ → List α → τ) : Prop where
  part : ∀ {K : Frag} {F G : Hp} {v : V} {a : τ}, D.own K F G v a → ∃ p q us ws, v = .ref p ∧ F p = some (.tup us) ∧ atI us n = some (.ref q) ∧ G q = some (.lst ws) ∧ All2 (fun v a => Enc.rep K F v a) ws (get a) ∧
    ∀ {F' G' : Hp} {ws' : List V} {as' : List α}, Same F F' → (∀ c u, c ≠ q → G c = some u → G' c = some u) → G' q = some (.lst ws') → All2 (fun v a => Enc.rep K F' v a) ws' as' → D.own K F' G' v (put a as')
theorem part_pr {α β : Type} [Enc α] [Enc β] : PartO (prO (fzO (α := α)) (l1 (α := β))) 1 (fun x => x.2) (fun x l => (x.1, l)) := ⟨fun {K F G v a} ⟨p, v1, v2, G1, G2, e, g, a1, a2, c, x, ⟨q, ws, e2, hq, r⟩⟩ => by
  subst e2
  refine ⟨p, q, [v1, .ref q], ws, e, g, rfl, a2 _ _ hq, r, fun {F' G' ws' as'} s h h' r' => ⟨p, v1, .ref q, noHp, upd noHp q (.lst ws'), e, s _ _ g, (fun _ _ z => nomatch z), (fun c u z => ?_), (fun _ => .inl rfl), Enc.mono s x, ⟨q, ws', rfl, upd_same, r'⟩⟩⟩
  by_cases e : c = q
  · subst e; rw [upd_same] at z; cases z; exact h'
  · rw [upd_ne e] at z; cases z⟩
theorem part_t2 {α β γ : Type} [Enc α] [Enc β] [Enc γ] : PartO (t3O (fzO (α := α)) (l1 (α := β)) (l1 (α := γ))) 1 (fun x => x.b) (fun x l => (⟨x.a, l, x.c⟩ : T3 α (List β) (List γ))) := ⟨fun {K F G v a} ⟨p, v1, v2, v3, G1, G2, G3, e, g, a1, a2, a3, c1, c2, c3, x, ⟨q, ws, e2, hq, r⟩, ⟨q3, ws3, e3, hq3, r3⟩⟩ => by
  subst e2; subst e3
  have ne : q3 ≠ q := fun e => by subst e; exact (c3 q3).elim (fun z => by rw [z] at hq; cases hq) (fun z => by rw [z] at hq3; cases hq3)
  refine ⟨p, q, [v1, .ref q, .ref q3], ws, e, g, rfl, a2 _ _ hq, r, fun {F' G' ws' as'} s h h' r' => ⟨p, v1, .ref q, .ref q3, noHp, upd noHp q (.lst ws'), upd noHp q3 (.lst ws3), e, s _ _ g, (fun _ _ z => nomatch z), (fun c u z => ?_), (fun c u z => ?_), (fun _ => .inl rfl), (fun _ => .inl rfl), (fun c => ?_), Enc.mono s x, ⟨q, ws', rfl, upd_same, r'⟩, ⟨q3, ws3, rfl, upd_same, All2.mono s r3⟩⟩⟩
  · by_cases e : c = q
    · subst e; rw [upd_same] at z; cases z; exact h'
    · rw [upd_ne e] at z; cases z
  · by_cases e : c = q3
    · subst e; rw [upd_same] at z; cases z; exact h _ _ ne (a3 _ _ hq3)
    · rw [upd_ne e] at z; cases z
  · by_cases e : c = q
    · exact .inr (by rw [upd_ne (fun z => ne (z.symm.trans e))]; rfl)
    · exact .inl (by rw [upd_ne e]; rfl)⟩
theorem part_t3 {α β γ : Type} [Enc α] [Enc β] [Enc γ] : PartO (t3O (fzO (α := α)) (l1 (α := β)) (l1 (α := γ))) 2 (fun x => x.c) (fun x l => (⟨x.a, x.b, l⟩ : T3 α (List β) (List γ))) := ⟨fun {K F G v a} ⟨p, v1, v2, v3, G1, G2, G3, e, g, a1, a2, a3, c1, c2, c3, x, ⟨q2, ws2, e2, hq2, r2⟩, ⟨q, ws, e3, hq, r⟩⟩ => by
  subst e2; subst e3
  have ne : q2 ≠ q := fun e => by subst e; exact (c3 q2).elim (fun z => by rw [z] at hq2; cases hq2) (fun z => by rw [z] at hq; cases hq)
  refine ⟨p, q, [v1, .ref q2, .ref q], ws, e, g, rfl, a3 _ _ hq, r, fun {F' G' ws' as'} s h h' r' => ⟨p, v1, .ref q2, .ref q, noHp, upd noHp q2 (.lst ws2), upd noHp q (.lst ws'), e, s _ _ g, (fun _ _ z => nomatch z), (fun c u z => ?_), (fun c u z => ?_), (fun _ => .inl rfl), (fun _ => .inl rfl), (fun c => ?_), Enc.mono s x, ⟨q2, ws2, rfl, upd_same, All2.mono s r2⟩, ⟨q, ws', rfl, upd_same, r'⟩⟩⟩
  · by_cases e : c = q2
    · subst e; rw [upd_same] at z; cases z; exact h _ _ ne (a2 _ _ hq2)
    · rw [upd_ne e] at z; cases z
  · by_cases e : c = q
    · subst e; rw [upd_same] at z; cases z; exact h'
    · rw [upd_ne e] at z; cases z
  · by_cases e : c = q
    · exact .inl (by rw [upd_ne (fun z => ne (z.symm.trans e))]; rfl)
    · exact .inr (by rw [upd_ne e]; rfl)⟩
section
variable {X : Cx} {W : WX} {ss : List Slot} {pos : Pos} {a b e : Expr} {es : List Expr} {rest : List Stmt}
theorem Asn.partPut {τ α : Type} [Enc τ] [Enc α] {D : Ow τ} {n : Int} {get : τ → List α} {put : τ → List α → τ} (P : PartO D n get put) {K : Frag} {B F0 H F : Hp} {sl : List Slot} {σ : L2.St} {Gs : List Hp} (A : Asn K B F0 sl σ H F Gs) {i : Nat} {G : Hp} {v : V} {t : τ} {q : Addr} {ws : List V} (hG : Gs[i]? = some G) (hσ : σ[i]? = some (some v)) (hq : G q = some (.lst ws))
    {ws' : List V} {as' : List α} (ow' : ∀ {G' : Hp}, (∀ c u, c ≠ q → G c = some u → G' c = some u) → G' q = some (.lst ws') → D.own K F G' v (put t as')) : ∃ Gs', Asn K B F0 (sl.set i (os D (put t as'))) σ (upd H q (.lst ws')) F Gs' := by
  have hm := List.mem_of_getElem? hG
  refine ⟨Gs.set i (upd G q (.lst ws')), ?_⟩
  have A2 := A.chg (s := os D (put t as')) (o := some v) (G2 := upd G q (.lst ws')) (H' := upd H q (.lst ws')) hG (fun c u h z => by rw [upd_ne (fun e => by rw [e, hq] at h; cases h)]; exact z) (fun c u z => by
    by_cases e : c = q
    · subst e
      rw [upd_same] at z ⊢; cases z
      exact ⟨rfl, rfl, .inl (by rw [hq]; exact fun h => nomatch h)⟩
    · rw [upd_ne e] at z ⊢
      exact ⟨A.sub G hm _ _ z, (A.priv G hm _ _ z).2.2.2, .inl (by rw [z]; exact fun h => nomatch h)⟩) ⟨v, rfl, ow' (fun c u ne z => by rw [upd_ne ne]; exact z) upd_same⟩
  rw [set_self hσ] at A2
  exact A2
/-- x[n].append(e) -/
theorem s1_appP (i : Nat) {τ α : Type} [Enc τ] [Enc α] {D : Ow τ} {n : Int} {get : τ → List α} {put : τ → List α → τ} (P : PartO D n get put) {t : τ} {m : Res α} {x : Str} {nk : Nat} {p np ip apos cpos : Pos} (h : XK X W ss e m fr) (hs : ss[i]? = some (os D t) := by rfl) (hp : PE X (.Name x p) (tVar i) := by exact pv _)
    (hpl : PlainIx (.Constant (.int n) nk np) := by exact fun _ _ => rfl)
    (hbase : attributeBase (.Subscript (.Name x p) (.Constant (.int n) nk np) ip) "append" X.env (eval (.Subscript (.Name x p) (.Constant (.int n) nk np) ip) X.env) = eval (.Subscript (.Name x p) (.Constant (.int n) nk np) ip) X.env := by rfl)
    (hfew : ((backTo cpos (starEach [e] X.env)).all (fun x => !x.1) && (backToKw cpos (keywordEach [] X.env)).all (fun x => x.1.isSome)
      && decide (([e] : List Expr).length + ([] : List Keyword).length + (if ([] : List Keyword).isEmpty then 0 else 1) < 30)) = true := by rfl)
    (hline : (apos.endLine == cpos.line) = true := by rfl) (hst : starEach [e] X.env = (false, eval e X.env) :: starEach [] X.env := by rfl) (hplain : (backTo cpos (starEach [] X.env)).any (·.1) = false := by rfl)
    (hsw : swapsWith (.Call (.Attribute (.Subscript (.Name x p) (.Constant (.int n) nk np) ip) "append" apos) [e] [] cpos) none pos.line X.env = pure false := by rfl) :
    S1 X W ss (.Expr (.Call (.Attribute (.Subscript (.Name x p) (.Constant (.int n) nk np) ip) "append" apos) [e] [] cpos) pos) (m.bind fun a => (appR (get t) a).bind fun as' => .ok (put t as')) (fun t' => ss.set i (os D t')) := by
  have hx := pe_bm PySem.F.plainAttrs_list PySem.F.slot_list_append PySem.F.type_list_append mt_append (pe_ix ix_tup hp (pe_int (i := n)) hpl) (pa_cons h pa_nil hst) hbase hfew hline hst hplain
  refine PS_imp (ps_expr hx hsw) fun D' σ H ⟨B, F0, F, Gs, A, q⟩ => ?_
  obtain ⟨G, v0, hG, hσ, ho⟩ := all3_os A.all hs
  obtain ⟨pp, qa, us, ws, e0, hp, hat, hq, r, back⟩ := P.part ho
  subst e0
  have hm := List.mem_of_getElem? hG
  have hT := A.ext.sub _ _ hp
  have hq1 := A.sub G hm _ _ hq
  refine ⟨.ref pp, hσ, pp, us, n, .ref qa, rfl, rfl, SqT.of hT, hat, .inl ⟨rfl, ws, SqL.of hq1⟩, F, A.ext.sub, A.sl, wpS_R (wpS_bind q) A.base fun a q v H' F' G' s ex pr kk => ?_⟩
  obtain ⟨v', e1, rv⟩ := kk
  cases e1
  have A' := A.grow s ex
  obtain ⟨g1, q⟩ := wpS_guard (wpS_bind q)
  refine ⟨qa, ws, v, rfl, rfl, s _ _ hq1, by rw [r.length]; exact Nat.lt_of_le_of_lt (of_decide_eq_true g1) (by decide), ?_⟩
  obtain ⟨Gs', A2⟩ := A'.partPut P (t := t) (as' := get t ++ [a]) (ws' := ws ++ [v]) hG hσ hq (fun h1 h2 => back ex.le h1 h2 (All2.append (bs' := [a]) (r.mono ex.le) ⟨rv, trivial⟩))
  exact q _ _ _ _ A2
/-- x[n].clear() -/
theorem s1_clearP (i : Nat) {τ α : Type} [Enc τ] [Enc α] {D : Ow τ} {n : Int} {get : τ → List α} {put : τ → List α → τ} (P : PartO D n get put) {t : τ} {x : Str} {nk : Nat} {p np ip apos cpos : Pos} (hs : ss[i]? = some (os D t) := by rfl) (hp : PE X (.Name x p) (tVar i) := by exact pv _)
    (hpl : PlainIx (.Constant (.int n) nk np) := by exact fun _ _ => rfl)
    (hbase : attributeBase (.Subscript (.Name x p) (.Constant (.int n) nk np) ip) "clear" X.env (eval (.Subscript (.Name x p) (.Constant (.int n) nk np) ip) X.env) = eval (.Subscript (.Name x p) (.Constant (.int n) nk np) ip) X.env := by rfl)
    (hline : (apos.endLine == cpos.line) = true := by rfl)
    (hsw : swapsWith (.Call (.Attribute (.Subscript (.Name x p) (.Constant (.int n) nk np) ip) "clear" apos) [] [] cpos) none pos.line X.env = pure false := by rfl) :
    S1 X W ss (.Expr (.Call (.Attribute (.Subscript (.Name x p) (.Constant (.int n) nk np) ip) "clear" apos) [] [] cpos) pos) (.ok (put t [])) (fun t' => ss.set i (os D t')) := by
  have hx := pe_bm0 PySem.F.plainAttrs_list PySem.F.slot_list_clear PySem.F.type_list_clear mt_clear (pe_ix ix_tup hp (pe_int (i := n)) hpl) hbase hline
  refine PS_imp (ps_expr hx hsw) fun D' σ H ⟨B, F0, F, Gs, A, q⟩ => ?_
  obtain ⟨G, v0, hG, hσ, ho⟩ := all3_os A.all hs
  obtain ⟨pp, qa, us, ws, e0, hp, hat, hq, r, back⟩ := P.part ho
  subst e0
  have hm := List.mem_of_getElem? hG
  have hT := A.ext.sub _ _ hp
  have hq1 := A.sub G hm _ _ hq
  refine ⟨.ref pp, hσ, pp, us, n, .ref qa, rfl, rfl, SqT.of hT, hat, .inl ⟨rfl, ws, SqL.of hq1⟩, qa, ws, rfl, rfl, hq1, ?_⟩
  obtain ⟨Gs', A2⟩ := A.partPut P (t := t) (as' := []) (ws' := []) hG hσ hq (fun h1 h2 => back (Same.refl F) h1 h2 trivial)
  exact q _ _ _ _ A2
/-- what is perhaps none is looked into -/
theorem unwX {w : Ends → Hp → Hp → Prop} (i : Nat) {α : Type} [Enc α] {d : Ow α} {o : Option α} {sts : List Stmt} (hs : ss[i]? = some (os (optO d) o)) {wk : α → Ends → Hp → Hp → Prop} (h : ∀ a, PSs X sts (rdX X (ss.set i (os d a)) (wk a))) (hw : ∀ D B F0, w D B F0 → ∃ a, o = some a ∧ wk a D B F0) : PSs X sts (rdX X ss w) := by
  refine ⟨fun pins s σ H D I ⟨B, F0, F, Gs, A, q⟩ => ?_⟩
  obtain ⟨a, e, q⟩ := hw D B F0 q
  subst e
  refine (h a).run pins s σ H D I ⟨B, F0, F, Gs, ?_, q⟩
  obtain ⟨G, v, hG, hσ, ho⟩ := all3_os A.all hs
  have := A.all.set (s := os d a) (G := G) (o := some v) ⟨v, rfl, ho.2⟩ i
  rw [set_self hσ, set_self hG] at this
  exact ⟨A.ext, A.base, this, A.priv, A.dj⟩
theorem st_unwO (i : Nat) {α R : Type} [Enc α] {d : Ow α} {o : Option α} {ee : Bool} {sts : List Stmt} {k : α → Res R} {kr : R → Slot} (h : ∀ a, ST X W ee (ss.set i (os d a)) sts (k a) kr) (hs : ss[i]? = some (os (optO d) o) := by rfl) : ST X W ee ss sts ((unw o).bind k) kr :=
  unwX i hs (wk := fun a => wT X W ee (k a) kr) h fun D B F0 ⟨z, q⟩ => by
    cases o with
    | none => exact q.elim
    | some a => exact ⟨a, rfl, z, q⟩
/-- kept, as what is perhaps none -/
theorem xk_someO {α : Type} [Enc α] {d : Ow α} [NNO d] {m : Res α} (h : XK X W ss e m (os d)) : XK X W ss e (m.bind fun a => .ok (some a)) (os (optO d)) :=
  PE_imp h fun σ H Q ⟨F, sf, sl, q⟩ => ⟨F, sf, sl, wpR_imp (wpR_bind q) (Same.refl H) fun a q v H' F' G' s ex pr ⟨v', e, r⟩ => q v H' F' G' s ex pr ⟨v', e, NNO.nn r, r⟩⟩
theorem xk_noneO {α : Type} [Enc α] {d : Ow α} {j : Nat} {p : Pos} : XK X W ss (.Constant .none j p) (.ok (none : Option α)) (os (optO d)) :=
  PE_imp pe_non fun σ H Q ⟨F, sf, sl, q⟩ => q .non H F noHp (Same.refl H) ⟨Same.refl F, sf, fun _ _ h => .inl h⟩ priv_no ⟨.non, rfl, rfl⟩
/-! ### such tuples handed back -/
theorem st_retPrO (j : Nat) {α β : Type} [Enc α] [Imm α] [Enc β] {m : Res α} {bs : List β} {ee : Bool} {y : Str} {k : Nat} {py tp : Pos} (h : XI X W ss e m) (hs : ss[j]? = some (ow bs) := by rfl) (hp : PE X (.Name y py) (tVar j) := by exact pv _)
    (h1 : starEach [e, .Name y py] X.env = (false, eval e X.env) :: starEach [.Name y py] X.env := by rfl) (h2 : starEach [.Name y py] X.env = (false, eval (.Name y py) X.env) :: starEach [] X.env := by rfl) :
    ST X W ee ss (.Return (some (.Tuple [e, .Name y py] k tp)) pos :: rest) (m.bind fun a => .ok (a, bs)) (os (prO fzO l1)) := by
  have hh : PS X (.Return (some (.Tuple [e, .Name y py] k tp)) pos) (rdX X ss fun D B F0 => wpS X W (m.bind fun a => .ok (a, bs)) B fun r => RtOk X (os (prO fzO l1)) r D B F0) := by
    refine PS_imp (ps_ret (pe_tup (pa_cons h (pa_cons hp pa_nil h2) h1))) fun D σ H ⟨B, F0, F, Gs, A, q⟩ => ⟨A.sl.mono A.ext.sub (Same.refl H), wpS_R (wpS_bind q) A.base fun a q v H1 s1 r1 => ?_⟩
    have A1 := A.grow s1 (ext_imm A.ext.sub s1)
    obtain ⟨G, p, ws, hG, hσ, hq, r⟩ := all3_ow A1.all hs
    have hm := List.mem_of_getElem? hG
    refine ⟨.ref p, hσ, smallLine (by simp), fun t ht => ?_⟩
    have hF : join F (tups H1) t = none := Same.free A1.ext.sub ht
    have sF : Same (join F (tups H1)) (upd (join F (tups H1)) t (.tup [v, .ref p])) := same_upd hF
    have tq : p ≠ t := fun e => by
      have := A1.sub G hm _ _ hq
      rw [e, ht] at this; cases this
    refine q (.ref t) _ (upd (join F (tups H1)) t (.tup [v, .ref p])) G (A1.base.trans (same_upd ht)) ⟨A1.ext.le.trans sF, fun c u z => ?_, fun c u z => ?_⟩ (fun c u z => ?_) ⟨.ref t, rfl, t, v, .ref p, noHp, G, rfl, upd_same, (fun _ _ z => nomatch z), Same.refl G, (fun _ => .inl rfl), Enc.mono ((join_r (A.ext.sub.trans s1) (tups_le H1)).trans sF) (Imm.imm r1), ⟨p, ws, rfl, hq, r.mono sF⟩⟩
    · by_cases e : c = t
      · subst e; rw [upd_same] at z ⊢; exact z
      · rw [upd_ne e] at z ⊢; exact A1.ext.sub _ _ z
    · by_cases e : c = t
      · subst e; rw [upd_same] at z; cases z; exact .inr (.inr rfl)
      · rw [upd_ne e] at z; exact A1.ext.new _ _ z
    · obtain ⟨k1, k2, k3, k4⟩ := A1.priv G hm c u z
      have ne : c ≠ t := fun e => by rw [e, ht] at k1; cases k1
      exact ⟨by rw [upd_ne ne]; exact k1, k2, by rw [upd_ne ne]; exact k3, k4⟩
  exact PSs_imp (rest_free hh fun D D' σ H e1 _ _ ⟨B, F0, F, Gs, A, q⟩ => ⟨B, F0, F, Gs, A, wpS_imp q fun r q v H' F' G' a b c d => by rw [e1]; exact q v H' F' G' a b c d⟩)
    fun D σ H ⟨B, F0, F, Gs, A, _, q⟩ => ⟨B, F0, F, Gs, A, q⟩
theorem st_retT3O (j j' : Nat) {α β γ : Type} [Enc α] [Imm α] [Enc β] [Enc γ] {m : Res α} {bs : List β} {cs : List γ} {ee : Bool} {y z : Str} {k : Nat} {py pz tp : Pos} (h : XI X W ss e m) (hj : j ≠ j' := by decide) (hs : ss[j]? = some (ow bs) := by rfl) (hs' : ss[j']? = some (ow cs) := by rfl) (hp : PE X (.Name y py) (tVar j) := by exact pv _) (hp' : PE X (.Name z pz) (tVar j') := by exact pv _)
    (h1 : starEach [e, .Name y py, .Name z pz] X.env = (false, eval e X.env) :: starEach [.Name y py, .Name z pz] X.env := by rfl) (h2 : starEach [.Name y py, .Name z pz] X.env = (false, eval (.Name y py) X.env) :: starEach [.Name z pz] X.env := by rfl) (h3 : starEach [.Name z pz] X.env = (false, eval (.Name z pz) X.env) :: starEach [] X.env := by rfl) :
    ST X W ee ss (.Return (some (.Tuple [e, .Name y py, .Name z pz] k tp)) pos :: rest) (m.bind fun a => .ok (⟨a, bs, cs⟩ : T3 α (List β) (List γ))) (os (t3O fzO l1 l1)) := by
  have hh : PS X (.Return (some (.Tuple [e, .Name y py, .Name z pz] k tp)) pos) (rdX X ss fun D B F0 => wpS X W (m.bind fun a => .ok (⟨a, bs, cs⟩ : T3 α (List β) (List γ))) B fun r => RtOk X (os (t3O fzO l1 l1)) r D B F0) := by
    refine PS_imp (ps_ret (pe_tup (pa_cons h (pa_cons hp (pa_cons hp' pa_nil h3) h2) h1))) fun D σ H ⟨B, F0, F, Gs, A, q⟩ => ⟨A.sl.mono A.ext.sub (Same.refl H), wpS_R (wpS_bind q) A.base fun a q v H1 s1 r1 => ?_⟩
    have A1 := A.grow s1 (ext_imm A.ext.sub s1)
    obtain ⟨G, p, ws, hG, hσ, hq, r⟩ := all3_ow A1.all hs
    obtain ⟨G', p', ws', hG', hσ', hq', r'⟩ := all3_ow A1.all hs'
    have hm := List.mem_of_getElem? hG
    have hm' := List.mem_of_getElem? hG'
    have dj := dj_of A1.dj hG hG' hj
    refine ⟨.ref p, hσ, .ref p', hσ', smallLine (by simp), fun t ht => ?_⟩
    have hF : join F (tups H1) t = none := Same.free A1.ext.sub ht
    have sF : Same (join F (tups H1)) (upd (join F (tups H1)) t (.tup [v, .ref p, .ref p'])) := same_upd hF
    refine q (.ref t) _ (upd (join F (tups H1)) t (.tup [v, .ref p, .ref p'])) (join G G') (A1.base.trans (same_upd ht)) ⟨A1.ext.le.trans sF, fun c u z => ?_, fun c u z => ?_⟩ (fun c u z => ?_) ⟨.ref t, rfl, t, v, .ref p, .ref p', noHp, G, G', rfl, upd_same, (fun _ _ z => nomatch z), join_l, ?_, (fun _ => .inl rfl), (fun _ => .inl rfl), dj, Enc.mono ((join_r (A.ext.sub.trans s1) (tups_le H1)).trans sF) (Imm.imm r1), ⟨p, ws, rfl, hq, r.mono sF⟩, ⟨p', ws', rfl, hq', r'.mono sF⟩⟩
    · by_cases e : c = t
      · subst e; rw [upd_same] at z ⊢; exact z
      · rw [upd_ne e] at z ⊢; exact A1.ext.sub _ _ z
    · by_cases e : c = t
      · subst e; rw [upd_same] at z; cases z; exact .inr (.inr rfl)
      · rw [upd_ne e] at z; exact A1.ext.new _ _ z
    · have : ∃ g ∈ Gs, g c = some u := (join_or z).elim (fun z => ⟨G, hm, z⟩) (fun z => ⟨G', hm', z⟩)
      obtain ⟨g, mg, z⟩ := this
      obtain ⟨k1, k2, k3, k4⟩ := A1.priv g mg c u z
      have ne : c ≠ t := fun e => by rw [e, ht] at k1; cases k1
      exact ⟨by rw [upd_ne ne]; exact k1, k2, by rw [upd_ne ne]; exact k3, k4⟩
    · intro c u z
      unfold join
      rcases dj c with y | y
      · rw [y]; exact z
      · rw [y] at z; cases z
  exact PSs_imp (rest_free hh fun D D' σ H e1 _ _ ⟨B, F0, F, Gs, A, q⟩ => ⟨B, F0, F, Gs, A, wpS_imp q fun r q v H' F' G' a b c d => by rw [e1]; exact q v H' F' G' a b c d⟩)
    fun D σ H ⟨B, F0, F, Gs, A, _, q⟩ => ⟨B, F0, F, Gs, A, q⟩
/-- a display with two lists of one's own -/
theorem xk_triO {α β γ : Type} [Enc α] [Imm α] [Enc β] [Enc γ] {m : Res α} {m2 : Res (List β)} {m3 : Res (List γ)} {k : Nat} {e2 e3 : Expr} (h : XI X W ss e m) (h2 : XK X W ss e2 m2 ow) (h3 : XK X W ss e3 m3 ow)
    (k1 : starEach [e, e2, e3] X.env = (false, eval e X.env) :: starEach [e2, e3] X.env := by rfl) (k2 : starEach [e2, e3] X.env = (false, eval e2 X.env) :: starEach [e3] X.env := by rfl) (k3 : starEach [e3] X.env = (false, eval e3 X.env) :: starEach [] X.env := by rfl) :
    XK X W ss (.Tuple [e, e2, e3] k pos) (m.bind fun a => m2.bind fun bs => m3.bind fun cs => .ok (⟨a, bs, cs⟩ : T3 α (List β) (List γ))) (os (t3O fzO l1 l1)) := by
  refine PE_imp (pe_tup (pa_cons h (pa_cons h2 (pa_cons h3 pa_nil k3) k2) k1)) fun σ H Q ⟨F, sf, sl, q⟩ => ⟨sl.mono sf (Same.refl H), wpR_imp (wpR_bind q) (Same.refl H) fun a q v H1 s1 r1 => ?_⟩
  have sf1 : Same (join F (tups H1)) H1 := join_le (sf.trans s1) (tups_le H1)
  refine ⟨join F (tups H1), sf1, sl.mono join_l s1, wpR_imp (wpR_bind q) s1 fun bs q v2 H2 F2 G2 s2 ex2 pr2 kk2 => ?_⟩
  obtain ⟨p2, ws2, e2', g2, rr2⟩ := kk2
  cases e2'
  refine ⟨F2, ex2.sub, (sl.mono join_l s1).mono ex2.le s2, wpR_imp (wpR_bind q) (s1.trans s2) fun cs q v3 H3 F3 G3 s3 ex3 pr3 kk3 => ?_⟩
  obtain ⟨p3, ws3, e3', g3, rr3⟩ := kk3
  cases e3'
  refine ⟨smallLine (by simp), fun t ht => ?_⟩
  have ex0 : Ext F H (join F (tups H1)) H1 := ext_imm sf s1
  have ex23 := ex0.trans s1 (ex2.trans s2 ex3)
  have hF : F3 t = none := Same.free ex3.sub ht
  have sF : Same F3 (upd F3 t (.tup [v, .ref p2, .ref p3])) := same_upd hF
  have dj : Dj G2 G3 := fun c => by
    cases z : G2 c with
    | none => exact .inl rfl
    | some u =>
      refine .inr ?_
      cases z3 : G3 c with
      | none => rfl
      | some u3 =>
        have := (pr3 c u3 z3).2.1
        rw [(pr2 c u z).1] at this; cases this
  have g2F3 : ∀ c u, G2 c = some u → F3 c = none := fun c u z => by
    obtain ⟨q1, q2, q3, q4⟩ := pr2 c u z
    cases z3 : F3 c with
    | none => rfl
    | some y =>
      rcases ex3.new c y z3 with z' | z' | z'
      · rw [q3] at z'; cases z'
      · rw [q1] at z'; cases z'
      · have := ex3.sub _ _ z3
        rw [s3 _ _ q1] at this
        cases this
        rw [q4] at z'; cases z'
  refine q (.ref t) _ (upd F3 t (.tup [v, .ref p2, .ref p3])) (join G2 G3) (s1.trans (s2.trans (s3.trans (same_upd ht)))) ⟨ex23.le.trans sF, fun c u z => ?_, fun c u z => ?_⟩ (fun c u z => ?_) ⟨.ref t, rfl, t, v, .ref p2, .ref p3, noHp, G2, G3, rfl, upd_same, (fun _ _ z => nomatch z), join_l, ?_, (fun _ => .inl rfl), (fun _ => .inl rfl), dj, Enc.mono ((join_r (sf.trans s1) (tups_le H1)).trans (ex2.le.trans (ex3.le.trans sF))) (Imm.imm r1), ⟨p2, ws2, rfl, g2, rr2.mono (ex3.le.trans sF)⟩, ⟨p3, ws3, rfl, g3, rr3.mono sF⟩⟩
  · by_cases e : c = t
    · subst e; rw [upd_same] at z ⊢; exact z
    · rw [upd_ne e] at z ⊢; exact ex3.sub _ _ z
  · by_cases e : c = t
    · subst e; rw [upd_same] at z; cases z; exact .inr (.inr rfl)
    · rw [upd_ne e] at z; exact ex23.new _ _ z
  · rcases join_or z with z | z
    · obtain ⟨q1, q2, q3, q4⟩ := pr2 c u z
      have ne : c ≠ t := fun e => by rw [← e, s3 _ _ q1] at ht; cases ht
      exact ⟨by rw [upd_ne ne]; exact s3 _ _ q1, Same.free s1 q2, by rw [upd_ne ne]; exact g2F3 c u z, q4⟩
    · obtain ⟨q1, q2, q3, q4⟩ := pr3 c u z
      have ne : c ≠ t := fun e => by rw [e, ht] at q1; cases q1
      exact ⟨by rw [upd_ne ne]; exact q1, Same.free (s1.trans s2) q2, by rw [upd_ne ne]; exact q3, q4⟩
  · intro c u z
    unfold join
    rcases dj c with y | y
    · rw [y]; exact z
    · rw [y] at z; cases z
end
end G

namespace G
open PySem PySem.Spec PyProof.Rows L2
/-! ### comprehensions that keep what is walked -/
structure Raw (α : Type) where
  v : V
  a : α
instance {α : Type} [Enc α] : Enc (Raw α) := ⟨fun K H v r => v = r.v ∧ Enc.rep K H v r.a, fun s ⟨e, r⟩ => ⟨e, Enc.mono s r⟩⟩
def rawZ {α : Type} : List V → List α → List (Raw α)
  | v :: vs, a :: as => ⟨v, a⟩ :: rawZ vs as
  | _, _ => []
theorem lcR_raw {α β γ : Type} {p0 : α → Res Bool} {gg0 : α → Res β} {gg : Raw α → Res γ} {cv : γ → β} (h : ∀ r : Raw α, gg0 r.a = (gg r).bind fun b => .ok (cv b)) : ∀ {vs : List V} {as : List α} {bs : List β}, vs.length = as.length → lcR p0 gg0 as = .ok bs → ∃ cs, lcR (fun r : Raw α => p0 r.a) gg (rawZ vs as) = .ok cs ∧ bs = cs.map cv
  | [], [], bs, _, e => by
    have e : ([] : List β) = bs := by injection e
    exact ⟨[], rfl, e.symm⟩
  | [], _ :: _, _, l, _ => nomatch l
  | _ :: _, [], _, l, _ => nomatch l
  | v :: vs, a :: as, bs, l, e => by
    unfold lcR at e
    unfold rawZ lcR
    have l' : vs.length = as.length := Nat.succ.inj l
    dsimp only
    cases ep : p0 a with
    | stuck => rw [ep] at e; cases e
    | exc x => rw [ep] at e; cases e
    | ok b =>
      rw [ep] at e
      cases b with
      | false => exact lcR_raw h l' e
      | true =>
        have e : (match gg0 a with | .ok b => (lcR p0 gg0 as).bind fun bs => .ok (b :: bs) | _ => .stuck) = Res.ok bs := e
        rw [h ⟨v, a⟩] at e
        show ∃ cs, (match gg ⟨v, a⟩ with | .ok b => (lcR (fun r : Raw α => p0 r.a) gg (rawZ vs as)).bind fun bs => .ok (b :: bs) | _ => .stuck) = Res.ok cs ∧ _
        cases eg : gg ⟨v, a⟩ with
        | stuck => rw [eg] at e; cases e
        | exc x => rw [eg] at e; cases e
        | ok c =>
          rw [eg] at e
          have e : ((lcR p0 gg0 as).bind fun bs => .ok (cv c :: bs)) = Res.ok bs := e
          cases er : lcR p0 gg0 as with
          | stuck => rw [er] at e; cases e
          | exc x => rw [er] at e; cases e
          | ok bs' =>
            rw [er] at e
            have e : cv c :: bs' = bs := by injection e
            obtain ⟨cs, e1, e2⟩ := lcR_raw h l' er
            exact ⟨c :: cs, by rw [e1]; rfl, by rw [← e, e2]; rfl⟩
theorem lcR_sel {α γ : Type} {P : Hp → V → α → Prop} {p : Raw α → Res Bool} {gg : Raw α → Res γ} : ∀ {vs : List V} {gs : List Hp} {as : List α} {cs : List γ}, AllO P vs gs as → lcR p gg (rawZ vs as) = .ok cs → ∃ gs', gs'.Sublist gs ∧ All2 (fun g c => ∃ r, gg r = .ok c ∧ P g r.v r.a) gs' cs
  | [], [], [], cs, _, e => by
    have e : ([] : List γ) = cs := by injection e
    subst e
    exact ⟨[], .slnil, trivial⟩
  | v :: vs, g :: gs, a :: as, cs, ⟨x, y⟩, e => by
    unfold rawZ lcR at e
    cases ep : p ⟨v, a⟩ with
    | stuck => rw [ep] at e; cases e
    | exc x => rw [ep] at e; cases e
    | ok b =>
      rw [ep] at e
      cases b with
      | false =>
        obtain ⟨gs', s, q⟩ := lcR_sel y e
        exact ⟨gs', .cons _ s, q⟩
      | true =>
        have e : (match gg ⟨v, a⟩ with | .ok b => (lcR p gg (rawZ vs as)).bind fun bs => .ok (b :: bs) | _ => .stuck) = Res.ok cs := e
        cases eg : gg ⟨v, a⟩ with
        | stuck => rw [eg] at e; cases e
        | exc x => rw [eg] at e; cases e
        | ok c =>
          rw [eg] at e
          have e : ((lcR p gg (rawZ vs as)).bind fun bs => .ok (c :: bs)) = Res.ok cs := e
          cases er : lcR p gg (rawZ vs as) with
          | stuck => rw [er] at e; cases e
          | exc x => rw [er] at e; cases e
          | ok cs' =>
            rw [er] at e
            have e : c :: cs' = cs := by injection e
            subst e
            obtain ⟨gs', s, q⟩ := lcR_sel y er
            exact ⟨g :: gs', .cons₂ _ s, ⟨_, eg, x⟩, q⟩
  | [], [], _ :: _, _, h, _ => h.elim
  | [], _ :: _, _, _, h, _ => h.elim
  | _ :: _, [], _, _, h, _ => h.elim
  | _ :: _, _ :: _, [], _, h, _ => h.elim
theorem rawZ_len {α : Type} {P : Hp → V → α → Prop} : ∀ {vs : List V} {gs : List Hp} {as : List α}, AllO P vs gs as → (rawZ vs as).length = as.length
  | [], [], [], _ => rfl
  | v :: vs, g :: gs, a :: as, ⟨_, y⟩ => by unfold rawZ; rw [List.length_cons, List.length_cons, rawZ_len y]
  | [], [], _ :: _, h => h.elim
  | [], _ :: _, _, h => h.elim
  | _ :: _, [], _, h => h.elim
  | _ :: _, _ :: _, [], h => h.elim
theorem rawZ_get {α : Type} {P : Hp → V → α → Prop} : ∀ {vs : List V} {gs : List Hp} {as : List α} {i : Nat} {r : Raw α}, AllO P vs gs as → (rawZ vs as)[i]? = some r → vs[i]? = some r.v ∧ ∃ g ∈ gs, P g r.v r.a
  | v :: vs, g :: gs, a :: as, 0, r, ⟨x, _⟩, h => by
    have h : (⟨v, a⟩ : Raw α) = r := Option.some.inj h
    subst h
    exact ⟨rfl, g, List.mem_cons_self, x⟩
  | v :: vs, g :: gs, a :: as, i + 1, r, ⟨_, y⟩, h => by
    obtain ⟨a, g', m, x⟩ := rawZ_get (i := i) y h
    exact ⟨a, g', List.mem_cons_of_mem _ m, x⟩
  | [], [], [], _, _, _, h => by simp [rawZ] at h
  | [], [], _ :: _, _, _, h, _ => h.elim
  | [], _ :: _, _, _, _, h, _ => h.elim
  | _ :: _, [], _, _, _, h, _ => h.elim
  | _ :: _, _ :: _, [], _, _, h, _ => h.elim
theorem allO_len {α : Type} {P : Hp → V → α → Prop} : ∀ {vs : List V} {gs : List Hp} {as : List α}, AllO P vs gs as → vs.length = as.length
  | [], [], [], _ => rfl
  | v :: vs, g :: gs, a :: as, ⟨_, y⟩ => by rw [List.length_cons, List.length_cons, allO_len y]
  | [], [], _ :: _, h => h.elim
  | [], _ :: _, _, h => h.elim
  | _ :: _, [], _, h => h.elim
  | _ :: _, _ :: _, [], h => h.elim
theorem allO_of {α γ β : Type} {d : Hp → V → α → Prop} {d' : Hp → V → β → Prop} {gg : Raw α → Res γ} {R : V → γ → Prop} {cv : γ → β} (h : ∀ g r c y, gg r = .ok c → d g r.v r.a → R y c → d' g y (cv c)) : ∀ {acc : List V} {gs : List Hp} {cs : List γ}, All2 (fun g c => ∃ r, gg r = .ok c ∧ d g r.v r.a) gs cs → All2 R acc cs → AllO d' acc gs (cs.map cv)
  | [], [], [], _, _ => trivial
  | y :: acc, g :: gs, c :: cs, ⟨⟨r, e, x⟩, q⟩, ⟨x', q'⟩ => ⟨h g r c y e x x', allO_of h q q'⟩
  | [], _ :: _, [], h, _ => h.elim
  | _ :: _, [], [], _, h => h.elim
  | [], _, _ :: _, _, h => h.elim
  | _ :: _, [], _ :: _, h, _ => h.elim
  | _ :: _, _ :: _, [], h, _ => h.elim
section
variable {X : Cx} {W : WX} {ss : List Slot} {tg elt iter : Expr} {scope : Scope} {own : List (Str × Nat)} {pos : Pos}
theorem lc_core {α β : Type} [Enc α] [Enc β] {vs : List Nat} {u : α → List Slot → List Slot} {p : α → Res Bool} {gg : α → Res β} {g : TG}
    (qg : ∀ (a : α) (v : V) (F H : Hp) (ss : List Slot) (σ : L2.St) (Q : L2.St → Hp → Prop), Sl X.K F H ss σ → Same F H → Enc.rep X.K F v a → (∀ σ', Sl X.K F H (u a ss) σ' → L2.wipe σ' vs = L2.wipe σ vs → Q σ' H) → g v σ H Q)
    {σ : L2.St} {H : Hp} {Q : VK} {F : Hp} (sl : Sl X.K F H ss σ) {xs : List α} {J : It} {H1 F1 : Hp} (s1 : Same H H1) (ex1 : Same F F1 ∧ Same F1 H1) (it : ItOk X.K J xs F1) (hlen : xs.length ≤ 1000000) {bs : List β} (ebs : lcR p gg xs = .ok bs)
    (fin : ∀ (D : Addr), H1 D = none → ∀ (acc : List V) (H2 F2 : Hp), Same H1 H2 → Ext F1 H1 F2 H2 → H2 D = some (.lst acc) → F2 D = none → All2 (fun v a => Enc.rep X.K F2 v a) acc bs → Q (.ref D) H2) :
    tLc (fun _ _ R => R J H1) g (fun σ H Q => ∃ a, rT X WF (u a (wipeS ss vs)) (p a) σ H Q) (fun σ H Q => ∃ a, rK X WF (u a (wipeS ss vs)) (gg a) fr σ H Q) vs σ H Q := by
  refine fun D nD => ?_
  have nF1 : F1 D = none := Same.free ex1.2 nD
  refine ⟨fun i n H => i + n = xs.length ∧ ∃ acc F2 done left, H D = some (.lst acc) ∧ acc.length ≤ i ∧ Same H1 H ∧ Ext F1 H1 F2 H ∧ F2 D = none ∧ All2 (fun v a => Enc.rep X.K F2 v a) acc done ∧ lcR p gg (xs.drop i) = .ok left ∧ bs = done ++ left,
    ⟨xs.length, by omega, [], F1, [], bs, upd_same, Nat.le_refl _, same_upd nD, ⟨Same.refl _, ex1.2.trans (same_upd nD), fun _ _ h => .inl h⟩, nF1, trivial, ebs, rfl⟩, fun i n H2 ⟨hn, acc, F2, done, left, hD, hacc, s2, ex2, nF2, ra, el, eb⟩ => ?_⟩
  by_cases hlt : i < xs.length
  · refine .inr ?_
    have hx : xs[i]? = some xs[i] := List.getElem?_eq_getElem hlt
    obtain ⟨hgo, hy⟩ := it.go i F2 H2 xs[i] ex2.le ex2.sub hx
    rw [List.drop_eq_getElem_cons hlt] at el
    unfold lcR at el
    refine ⟨hgo, fun H' => ∃ acc F2 done left, H' D = some (.lst acc) ∧ acc.length ≤ i + 1 ∧ Same H1 H' ∧ Ext F1 H1 F2 H' ∧ F2 D = none ∧ All2 (fun v a => Enc.rep X.K F2 v a) acc done ∧ lcR p gg (xs.drop (i + 1)) = .ok left ∧ bs = done ++ left,
      fun H' x => ⟨n - 1, by omega, by omega, x⟩, fun v H' y => ?_⟩
    obtain ⟨s3, F3, ex3, r3⟩ := hy v H' y
    have keepD : ∀ {Fa Fb Ha Hb : Hp}, Fa D = none → Ext Fa Ha Fb Hb → Ha D = some (.lst acc) → Same Ha Hb → Fb D = none := fun {Fa Fb Ha Hb} n0 ex hh ss => by
      cases e : Fb D with
      | none => rfl
      | some w =>
        rcases ex.new D w e with z | z | z
        · rw [n0] at z; cases z
        · rw [hh] at z; cases z
        · have t := ex.sub _ _ e
          rw [ss _ _ hh] at t; cases t; cases z
    have nF3 := keepD nF2 ex3 hD s3
    have hD3 := s3 _ _ hD
    have slW : Sl X.K F3 H' (wipeS ss vs) (L2.wipe σ vs) := (sl.wipe vs).mono (ex1.1.trans (ex2.le.trans ex3.le)) (s1.trans (s2.trans s3))
    refine qg xs[i] v F3 H' (wipeS ss vs) (L2.wipe σ vs) _ slW ex3.sub r3 fun σ4 sl4 e4 => ⟨e4.trans (wipe_self vs vs σ fun _ m => m), xs[i], sl4.mono ex3.sub (Same.refl H'), ?_⟩
    cases ep : p xs[i] with
    | stuck => rw [ep] at el; cases el
    | exc x => rw [ep] at el; cases el
    | ok b =>
      rw [ep] at el
      intro H5 s5
      have ex5 : Ext F3 H' F3 H5 := ⟨Same.refl _, ex3.sub.trans s5, fun _ _ h => .inl h⟩
      have exF : Ext F1 H1 F3 H5 := ex2.trans s2 (ex3.trans s3 ex5)
      cases b with
      | false =>
        rw [if_neg Bool.false_ne_true]
        exact ⟨acc, F3, done, left, s5 _ _ hD3, Nat.le_succ_of_le hacc, s2.trans (s3.trans s5), exF, nF3, ra.mono ex3.le, el, eb⟩
      | true =>
        rw [if_pos rfl]
        refine ⟨xs[i], F3, ex5.sub, sl4.mono (Same.refl F3) s5, ?_⟩
        cases eg : gg xs[i] with
        | stuck => rw [eg] at el; cases el
        | exc x => rw [eg] at el; cases el
        | ok b =>
          rw [eg] at el
          intro y H6 F6 G6 s6 ex6 _ ⟨y', e6, r6⟩
          cases e6
          have hD5 := s5 _ _ hD3
          have nF6 := keepD nF3 ex6 hD5 s6
          have hD6 := s6 _ _ hD5
          obtain ⟨left', el'⟩ : ∃ l, lcR p gg (xs.drop (i + 1)) = .ok l := by
            cases e7 : lcR p gg (xs.drop (i + 1)) with
            | ok l => exact ⟨l, rfl⟩
            | exc x => rw [e7] at el; cases el
            | stuck => rw [e7] at el; cases el
          rw [el'] at el
          have el2 : b :: left' = left := by injection el
          have nD1 : H1 D = none := nD
          have sU : Same H1 (upd H6 D (.lst (acc ++ [y]))) := fun c w z => by
            rw [upd_ne (fun e => by rw [e, nD1] at z; cases z)]
            exact s6 _ _ (s5 _ _ (s3 _ _ (s2 _ _ z)))
          refine ⟨acc, hD6, Nat.lt_of_le_of_lt (by omega : acc.length ≤ 1000000) (by decide), acc ++ [y], F6, done ++ [b], left', upd_same, by rw [List.length_append, List.length_singleton]; omega, sU, ⟨exF.le.trans ex6.le, fun c w z => ?_, fun c w z => ?_⟩, nF6, All2.append (ra.mono (ex3.le.trans ex6.le)) ⟨r6, trivial⟩, el', by rw [eb, ← el2]; simp⟩
          · rw [upd_ne (fun e => by rw [e, nF6] at z; cases z)]
            exact ex6.sub _ _ z
          · rcases ex6.new c w z with z | z | z
            · exact exF.new c w z
            · exact .inr (.inl (Same.free (s2.trans (s3.trans s5)) z))
            · exact .inr (.inr z)
  · refine .inl ⟨it.stop i F2 H2 ex2.le ex2.sub (by omega), ?_⟩
    rw [List.drop_eq_nil_iff.mpr (by omega)] at el
    have e0 : ([] : List β) = left := by injection el
    subst e0
    rw [List.append_nil] at eb
    subst eb
    exact fin D nD acc H2 F2 s2 ex2 hD nF2 ra
def rdO (X : Cx) (W : WX) {α : Type} [Enc α] (d : Ow α) (ss : List Slot) (m : Res (List α)) : TI := fun σ H R =>
  ∃ F, Same F H ∧ Sl X.K F H ss σ ∧ wpR X W m σ H fun as => ∀ J H' F' G' p vs gs, Same H H' → Ext F H F' H' → Priv G' H F' H' → G' p = some (.lst vs) → (∀ g ∈ gs, Same g G' ∧ g p = none) → gs.Pairwise Dj → AllO (d.own X.K F') vs gs as → ItOk X.K J (rawZ vs as) (join F' G') → R J H'
theorem it_own {α : Type} [Enc α] {d : Ow α} {e : Expr} {m : Res (List α)} (h : XK X W ss e m (os (lsO d))) : PI X tg e (rdO X W d ss m) := by
  refine PI_imp (pi_list h) fun σ H R ⟨F, sf, sl, q⟩ => ⟨F, sf, sl, wpR_imp q (Same.refl H) fun xs q v H1 F1 G1 s1 ex1 pr k1 => ?_⟩
  obtain ⟨v', e1, p, vs, gs, rfl, hp, hg, pw, r⟩ := k1
  cases e1
  have sG : Same G1 H1 := fun a u z => (pr a u z).1
  have hpF : join F1 G1 p = some (.lst vs) := join_r ex1.sub sG _ _ hp
  refine ⟨p, rfl, ⟨vs, SqL.of (sG _ _ hp)⟩, q _ H1 F1 G1 p vs gs s1 ex1 pr hp hg pw r ⟨fun i F2 H2 a sa sb hi => ?_, fun i F2 H2 sa sb hi => ⟨vs, SqL.of (sb _ _ (sa _ _ hpF)), by rw [allO_len r, ← rawZ_len r]; exact hi⟩⟩⟩
  obtain ⟨hv, g, mg, rv⟩ := rawZ_get r hi
  refine ⟨⟨vs, a.v, SqL.of (sb _ _ (sa _ _ hpF)), hv⟩, fun v' H' ⟨e, y⟩ => ?_⟩
  subst e
  have ev : v' = a.v := Option.some.inj ((y vs (SqL.of (sb _ _ (sa _ _ hpF)))).symm.trans hv)
  subst ev
  exact ⟨Same.refl _, F2, ext_refl sb, rfl, Enc.mono sa (d.view rv join_l ((hg g mg).1.trans (join_r ex1.sub sG)))⟩
theorem lc_readK {α β γ : Type} [Enc α] [Enc β] [Enc γ] {d : Ow α} {d' : Ow β} {vs : List Nat} {u : Raw α → List Slot → List Slot} {m : Res (List α)} {p0 : α → Res Bool} {gg0 : α → Res β} {gg : Raw α → Res γ} {cv : γ → β} {g : TG}
    (h0 : ∀ r : Raw α, gg0 r.a = (gg r).bind fun b => .ok (cv b)) (hcv : ∀ (F2 F3 g : Hp) (r : Raw α) (c : γ) (y : V), Same (tups F2) F3 → gg r = .ok c → d.own X.K F3 g r.v r.a → Enc.rep X.K F2 y c → d'.own X.K F3 g y (cv c))
    (qg : ∀ (a : Raw α) (v : V) (F H : Hp) (ss : List Slot) (σ : L2.St) (Q : L2.St → Hp → Prop), Sl X.K F H ss σ → Same F H → Enc.rep X.K F v a → (∀ σ', Sl X.K F H (u a ss) σ' → L2.wipe σ' vs = L2.wipe σ vs → Q σ' H) → g v σ H Q)
    {σ : L2.St} {H : Hp} {Q : VK} {F : Hp} (sf : Same F H) (sl : Sl X.K F H ss σ)
    (q : wpR X W (m.bind fun xs => lcT p0 gg0 xs) σ H fun a => ∀ v H' F' G', Same H H' → Ext F H F' H' → Priv G' H F' H' → (os (lsO d') a).P X.K F' G' (some v) → Q v H') :
    tLc (rdO X W d ss m) g (fun σ H Q => ∃ a : Raw α, rT X WF (u a (wipeS ss vs)) (p0 a.a) σ H Q) (fun σ H Q => ∃ a : Raw α, rK X WF (u a (wipeS ss vs)) (gg a) fr σ H Q) vs σ H Q := by
  refine ⟨F, sf, sl, wpR_imp (wpR_bind q) (Same.refl H) fun as q J H1 F' G' pa us gs s1 exA prA hpa hga pwa ra0 it => ?_⟩
  obtain ⟨hlen, q⟩ := wpR_guard q
  have hlen : as.length ≤ 1000000 := of_decide_eq_true hlen
  have sG : Same G' H1 := fun a u z => (prA a u z).1
  have ex1 : Ext F H (join F' G') H1 := ⟨exA.le.trans join_l, join_le exA.sub sG, fun c u z => (join_or z).elim (exA.new c u) fun z => .inr (.inl (prA c u z).2.1)⟩
  generalize hF1 : join F' G' = F1 at it ex1
  obtain ⟨bs0, ebs0⟩ : ∃ bs, lcR p0 gg0 as = .ok bs := by
    cases e : lcR p0 gg0 as with
    | ok bs => exact ⟨bs, rfl⟩
    | stuck => rw [e] at q; exact q.elim
    | exc x => exact (lcR_noX as x e).elim
  rw [ebs0] at q
  obtain ⟨bs, ebs, hbs⟩ := lcR_raw h0 (allO_len ra0) ebs0
  have fin : ∀ (D : Addr), H1 D = none → ∀ (acc : List V) (H2 F2 : Hp), Same H1 H2 → Ext F1 H1 F2 H2 → H2 D = some (.lst acc) → F2 D = none → All2 (fun v a => Enc.rep X.K F2 v a) acc bs → Q (.ref D) H2 := fun D nD acc H2 F2 s2 ex2 hD nF2 ra => by
    obtain ⟨gs', sub, sel⟩ := lcR_sel ra0 ebs
    have nGD : G' D = none := by
      cases e : G' D with
      | none => rfl
      | some w => rw [sG _ _ e] at nD; cases nD
    have keep : ∀ c u, F2 c = some u → G' c = none → (fun c => if G' c = none then F2 c else none) c = some u := fun c u z h => (if_pos h).trans z
    have leF : Same F' (fun c => if G' c = none then F2 c else none) := fun c u z => by
      have : G' c = none := by
        cases e : G' c with
        | none => rfl
        | some w => rw [(prA c w e).2.2.1] at z; cases z
      refine keep c u (ex2.le _ _ ?_) this
      rw [← hF1]; exact join_l _ _ z
    have leT : Same (tups F2) (fun c => if G' c = none then F2 c else none) := fun c u z => by
      have z2 := tups_le F2 _ _ z
      have t := tups_isT z
      refine keep c u z2 ?_
      cases e : G' c with
      | none => rfl
      | some w =>
        have e1 : F1 c = some w := by rw [← hF1]; exact join_r exA.sub sG _ _ e
        have := ex2.le _ _ e1
        rw [z2] at this; cases this
        rw [(prA c u e).2.2.2] at t; cases t
    have own := allO_of (d := d.own X.K (fun c => if G' c = none then F2 c else none)) (d' := d'.own X.K (fun c => if G' c = none then F2 c else none)) (R := fun v a => Enc.rep X.K F2 v a) (cv := cv) (fun g r c y e x r' => hcv F2 _ g r c y leT e x r') (All2.imp (fun g c ⟨r, e, x⟩ => ⟨r, e, d.mF leF x⟩) sel) ra
    rw [← hbs] at own
    have nHD : H D = none := Same.free s1 nD
    refine q (.ref D) H2 (fun c => if G' c = none then F2 c else none) (fun c => if c = D then some (.lst acc) else G' c) (s1.trans s2) ⟨exA.le.trans leF, fun c u z => ?_, fun c u z => ?_⟩ (fun c u z => ?_) ⟨_, rfl, D, acc, gs', rfl, if_pos rfl, fun g mg => ?_, pwa.sublist sub, own⟩
    · by_cases h : G' c = none
      · have z : (if G' c = none then F2 c else none) = some u := z
        rw [if_pos h] at z; exact ex2.sub _ _ z
      · have z : (if G' c = none then F2 c else none) = some u := z
        rw [if_neg h] at z; cases z
    · by_cases h : G' c = none
      · have z : (if G' c = none then F2 c else none) = some u := z
        rw [if_pos h] at z
        rcases ex2.new c u z with z | z | z
        · rw [← hF1] at z
          rcases join_or z with z | z
          · exact exA.new c u z
          · rw [h] at z; cases z
        · exact .inr (.inl (Same.free s1 z))
        · exact .inr (.inr z)
      · have z : (if G' c = none then F2 c else none) = some u := z
        rw [if_neg h] at z; cases z
    · have z : (if c = D then some (.lst acc) else G' c) = some u := z
      by_cases e : c = D
      · subst e
        rw [if_pos rfl] at z; cases z
        exact ⟨hD, nHD, (if_pos nGD).trans nF2, rfl⟩
      · rw [if_neg e] at z
        obtain ⟨k1, k2, k3, k4⟩ := prA c u z
        exact ⟨s2 _ _ k1, k2, if_neg (by rw [z]; exact fun h => nomatch h), k4⟩
    · have m := sub.subset mg
      refine ⟨fun c u z => ?_, ?_⟩
      · have z2 := (hga g m).1 _ _ z
        have : c ≠ D := fun e => by rw [e, nGD] at z2; cases z2
        exact (if_neg this).trans z2
      · cases e : g D with
        | none => rfl
        | some w => rw [(hga g m).1 _ _ e] at nGD; cases nGD
  have hxs : (rawZ us as).length ≤ 1000000 := by rw [rawZ_len ra0]; exact hlen
  exact lc_core (u := u) (p := fun r : Raw α => p0 r.a) qg sl s1 ⟨ex1.le, ex1.sub⟩ it (by rw [rawZ_len ra0]; exact hlen) ebs fin
theorem sl_at {K : Frag} {F H : Hp} {s t : Slot} (f : ∀ o, s.P K F H o → t.P K F H o) : ∀ {k : Nat} {ss : List Slot} {σ : L2.St}, Sl K F H (ss.set k s) σ → Sl K F H (ss.set k t) σ
  | _, [], [], h => h
  | 0, _ :: _, _ :: _, ⟨x, y⟩ => ⟨f _ x, y⟩
  | k + 1, _ :: _, _ :: _, ⟨x, y⟩ => ⟨x, sl_at f (k := k) y⟩
  | 0, _ :: _, [], h => h.elim
  | _ + 1, _ :: _, [], h => h.elim
  | _, [], _ :: _, h => h.elim
theorem fr_raw {α : Type} [Enc α] {r : Raw α} {K : Frag} {F H : Hp} (o : Option V) : (fr r).P K F H o → (fr r.a).P K F H o := fun ⟨v, e, h⟩ => ⟨v, e, h.2⟩
theorem xt_raw {α : Type} [Enc α] {X : Cx} {ss : List Slot} {k : Nat} {r : Raw α} {e : Expr} {m : Res Bool} (h : XT X WF (ss.set k (fr r.a)) e m) : XT X WF (ss.set k (fr r)) e m := PT_imp h fun σ H Q ⟨sl, q⟩ => ⟨sl_at (fr_raw) sl, q⟩
theorem xk_raw {α β : Type} [Enc α] {X : Cx} {kd : β → Slot} {ss : List Slot} {k : Nat} {r : Raw α} {e : Expr} {m : Res β} (h : XK X WF (ss.set k (fr r.a)) e m kd) : XK X WF (ss.set k (fr r)) e m kd := PE_imp h fun σ H Q ⟨F, sf, sl, q⟩ => ⟨F, sf, sl_at (fr_raw) sl, q⟩
theorem cv_id {K : Frag} {α : Type} [Enc α] {d : Ow α} (F2 F3 g : Hp) (r : Raw α) (c : Raw α) (y : V) (_ : Same (tups F2) F3) (e : (Res.ok r : Res (Raw α)) = .ok c) (x : d.own K F3 g r.v r.a) (z : Enc.rep K F2 y c) : d.own K F3 g y c.a := by
  have e : r = c := by injection e
  subst e
  rw [z.1]; exact x
theorem cv_pr {K : Frag} {α γ : Type} [Enc α] [Enc γ] [Imm γ] {d : Ow α} {h : α → Res γ} (F2 F3 g : Hp) (r : Raw α) (c : Raw α × γ) (y : V) (s : Same (tups F2) F3) (e : ((h r.a).bind fun c => .ok (r, c)) = .ok c) (x : d.own K F3 g r.v r.a) (z : Enc.rep K F2 y c) : (prO d (fzO (α := γ))).own K F3 g y (c.1.a, c.2) := by
  cases eh : h r.a with
  | stuck => rw [eh] at e; cases e
  | exc w => rw [eh] at e; cases e
  | ok b =>
    rw [eh] at e
    have e : (r, b) = c := by injection e
    subst e
    obtain ⟨p, v1, v2, rfl, hp, z1, z2⟩ := z
    exact ⟨p, v1, v2, g, noHp, rfl, s _ _ (tups_some hp rfl), Same.refl _, (fun _ _ q => nomatch q), (fun _ => .inr rfl), by rw [z1.1]; exact x, Enc.mono s (Imm.imm z2)⟩
theorem xk_keepIf (k : Nat) {α : Type} [Enc α] {d : Ow α} {z : Str} {zp : Pos} {cond : Expr} {m : Res (List α)} {p : α → Res Bool} (h : XK X W ss iter m (os (lsO d))) (hg : TgC X scope (own.map (·.2)) (α := Raw α) tg (fun a ss => ss.set k (fr a)))
    (ht : ∀ a s H C cl fp, XT (X.blk s H scope (compEnvC scope cl C X.env) fp) WF ((wipeS ss (own.map (·.2))).set k (fr a)) cond (p a))
    (hN : X.N.Nodup) (ok : BlkOk X.N X.env.scope scope own) (hv : ∀ (s : Shared) (H : Hp) (C : Addr) (cl : List (Str × Addr)) (fp : List Addr), PE (X.blk s H scope (compEnvC scope cl C X.env) fp) (.Name z zp) (tVar k) := by intro _ _ _ _ _; exact pv _) (hk : ∀ s : Slot, ((wipeS ss (own.map (·.2))).set k s)[k]? = some s := by intro _; rfl) (hc : X.calm = true := by rfl) (hs : ∀ x, foldedSetIterable iter X.env x = pure x := by intro _; rfl) :
    XK X W ss (.ListComp (.Name z zp) [⟨tg, iter, [cond], 0⟩] scope pos) (m.bind fun xs => lcT p (fun a => .ok a) xs) (os (lsO d)) := by
  obtain ⟨g, pg, qg⟩ := hg
  have he' : ∀ (s : Shared) (H : Hp) (C : Addr) (cl : List (Str × Addr)) (fp : List Addr), PE (X.blk s H scope (compEnvC scope cl C X.env) fp) (.Name z zp) (fun σ H Q => ∃ r : Raw α, rK X WF ((wipeS ss (own.map (·.2))).set k (fr r)) (.ok r) fr σ H Q) := fun s H C cl fp =>
    ⟨fun pins s' σ H' Q I ⟨r, q⟩ => (xk_fr (X := X.blk s H scope (compEnvC scope cl C X.env) fp) (W := WF) k (hk _) (hv s H C cl fp)).run pins s' σ H' Q I q⟩
  have ht0 : ∀ (s : Shared) (H : Hp) (C : Addr) (cl : List (Str × Addr)) (fp : List Addr), PT (X.blk s H scope (compEnvC scope cl C X.env) fp) cond (fun σ H Q => ∃ r : Raw α, rT X WF ((wipeS ss (own.map (·.2))).set k (fr r)) (p r.a) σ H Q) := fun s H C cl fp =>
    ⟨fun pins s' σ H' Q I ⟨r, q⟩ => (xt_raw (ht r.a s H C cl fp)).run pins s' σ H' Q I q⟩
  exact PE_imp (pe_lc hc hN (it_own h) ok pg (fun s H C cl fp => pts_one (ht0 s H C cl fp)) he' hs) fun σ H Q ⟨F, sf, sl, q⟩ => lc_readK (gg := fun r => .ok r) (cv := fun r => r.a) (gg0 := fun a => .ok a) (fun _ => rfl) cv_id qg sf sl q
theorem xk_keepPr (k : Nat) {α γ : Type} [Enc α] [Enc γ] [Imm γ] {d : Ow α} {z : Str} {zp tp : Pos} {tk : Nat} {e2 : Expr} {m : Res (List α)} {h2 : α → Res γ} (h : XK X W ss iter m (os (lsO d))) (hg : TgC X scope (own.map (·.2)) (α := Raw α) tg (fun a ss => ss.set k (fr a)))
    (he : ∀ a s H C cl fp, XK (X.blk s H scope (compEnvC scope cl C X.env) fp) WF ((wipeS ss (own.map (·.2))).set k (fr a)) e2 (h2 a) fr)
    (hN : X.N.Nodup) (ok : BlkOk X.N X.env.scope scope own) (hv : ∀ (s : Shared) (H : Hp) (C : Addr) (cl : List (Str × Addr)) (fp : List Addr), PE (X.blk s H scope (compEnvC scope cl C X.env) fp) (.Name z zp) (tVar k) := by intro _ _ _ _ _; exact pv _) (hk : ∀ s : Slot, ((wipeS ss (own.map (·.2))).set k s)[k]? = some s := by intro _; rfl)
    (hst : ∀ (s : Shared) (H : Hp) (C : Addr) (cl : List (Str × Addr)) (fp : List Addr), starEach [.Name z zp, e2] (X.blk s H scope (compEnvC scope cl C X.env) fp).env = (false, eval (.Name z zp) (X.blk s H scope (compEnvC scope cl C X.env) fp).env) :: starEach [e2] (X.blk s H scope (compEnvC scope cl C X.env) fp).env := by intro _ _ _ _ _; rfl)
    (hst2 : ∀ (s : Shared) (H : Hp) (C : Addr) (cl : List (Str × Addr)) (fp : List Addr), starEach [e2] (X.blk s H scope (compEnvC scope cl C X.env) fp).env = (false, eval e2 (X.blk s H scope (compEnvC scope cl C X.env) fp).env) :: starEach [] (X.blk s H scope (compEnvC scope cl C X.env) fp).env := by intro _ _ _ _ _; rfl)
    (hc : X.calm = true := by rfl) (hs : ∀ x, foldedSetIterable iter X.env x = pure x := by intro _; rfl) :
    XK X W ss (.ListComp (.Tuple [.Name z zp, e2] tk tp) [⟨tg, iter, [], 0⟩] scope pos) (m.bind fun xs => lcT (fun _ => .ok true) (fun a => (h2 a).bind fun c => .ok (a, c)) xs) (os (lsO (prO d fzO))) := by
  obtain ⟨g, pg, qg⟩ := hg
  have he' : ∀ (s : Shared) (H : Hp) (C : Addr) (cl : List (Str × Addr)) (fp : List Addr), PE (X.blk s H scope (compEnvC scope cl C X.env) fp) (.Tuple [.Name z zp, e2] tk tp) (fun σ H Q => ∃ r : Raw α, rK X WF ((wipeS ss (own.map (·.2))).set k (fr r)) ((h2 r.a).bind fun c => .ok (r, c)) fr σ H Q) := fun s H C cl fp =>
    ⟨fun pins s' σ H' Q I ⟨r, q⟩ => by
      have := xk_pair (k := tk) (pos := tp) (xak_cons (xk_fr (X := X.blk s H scope (compEnvC scope cl C X.env) fp) (W := WF) k (hk _) (hv s H C cl fp)) (xak_cons (xk_raw (r := r) (he r.a s H C cl fp)) xak_nil (hst2 s H C cl fp)) (hst s H C cl fp))
      have e : (((Res.ok r : Res (Raw α)).bind fun a => ((h2 r.a).bind fun b => (Res.ok () : Res Unit).bind fun as => .ok (b, as)).bind fun as => .ok (a, as)).bind fun x => .ok (x.1, x.2.1)) = (h2 r.a).bind fun c => .ok (r, c) := by cases h2 r.a <;> rfl
      rw [e] at this
      exact this.run pins s' σ H' Q I q⟩
  have ht' : ∀ (s : Shared) (H : Hp) (C : Addr) (cl : List (Str × Addr)) (fp : List Addr), PTs (X.blk s H scope (compEnvC scope cl C X.env) fp) [] (fun σ H Q => ∃ r : Raw α, rT X WF ((wipeS ss (own.map (·.2))).set k (fr r)) (.ok true) σ H Q) := fun s H C cl fp =>
    ⟨fun pins s' σ H' Q I ⟨r, sl, q⟩ => pts_nil.run pins s' σ H' Q I (q H' (Same.refl H'))⟩
  exact PE_imp (pe_lc hc hN (it_own h) ok pg ht' he' hs) fun σ H Q ⟨F, sf, sl, q⟩ => lc_readK (p0 := fun _ => .ok true) (gg := fun r => (h2 r.a).bind fun c => .ok (r, c)) (cv := fun x => (x.1.a, x.2)) (gg0 := fun a => (h2 a).bind fun c => .ok (a, c)) (fun r => by cases h2 r.a <;> rfl) cv_pr qg sf sl q
end
end G

namespace G
open PySem PySem.Spec PyProof.Rows L2
/-! ### walks over things of one's own that are changed -/
def jq {α : Type} [Enc α] (d : Ow α) (o0 : Option V) (Gk : Hp) (vs : List V) (as : List α) (k : Nat) : Slot :=
  ⟨fun K F G o => o = o0 ∧ Same Gk G ∧ ∃ gs, (∀ g ∈ gs, Same g G ∧ Dj g Gk) ∧ gs.Pairwise Dj ∧ AllO (d.own K F) (vs.drop k) gs (as.drop k),
   fun s t ⟨e, h, gs, hg, pw, r⟩ => ⟨e, h.trans t, gs, fun g m => ⟨(hg g m).1.trans t, (hg g m).2⟩, pw, r.imp fun _ _ _ x => d.mF s x⟩⟩
theorem Asn.shrink {K : Frag} {B F0 H F G G1 : Hp} {ss : List Slot} {σ : L2.St} {Gs : List Hp} {i : Nat} {s : Slot} {o : Option V} (A : Asn K B F0 ss σ H F Gs) (hG : Gs[i]? = some G) (hσ : σ[i]? = some o) (h1 : Same G1 G) (x : s.P K F G1 o) :
    Asn K B F0 (ss.set i s) σ H F (Gs.set i G1) ∧ ∀ g : Hp, Same g G → Dj g G1 → Fresh B F H (Gs.set i G1) g := by
  have hm := List.mem_of_getElem? hG
  have hl := (List.getElem?_eq_some_iff.mp hG).1
  have A1 := A.all.set x i
  rw [set_self hσ] at A1
  have dj1 : ∀ {g : Hp}, Same g G → ∀ (j : Nat) (G' : Hp), j ≠ i → Gs[j]? = some G' → Dj g G' := fun {g} s j G' hj hG' c => by
    cases e : g c with
    | none => exact .inl rfl
    | some u => exact .inr ((dj_of A.dj hG hG' (Ne.symm hj) c).elim (fun y => by rw [s _ _ e] at y; cases y) id)
  refine ⟨⟨A.ext, A.base, A1, fun G' m c u z => ?_, pw_set_ix i A.dj fun k G' hk hG' => dj1 h1 k G' hk hG'⟩, fun g sg dg c u z => ?_⟩
  · rcases mem_set_ix hl m with e | ⟨j, hji, hj⟩
    · subst e; exact A.priv G hm c u (h1 _ _ z)
    · exact A.priv G' (List.mem_of_getElem? hj) c u z
  · obtain ⟨k1, k2, k3, k4⟩ := A.priv G hm c u (sg _ _ z)
    refine ⟨k1, k4, k2, k3, fun g' m => ?_⟩
    rcases mem_set_ix hl m with e | ⟨j, hji, hj⟩
    · subst e
      exact (dg c).elim (fun y => by rw [y] at z; cases z) id
    · exact (dj1 sg j g' hji hj c).elim (fun y => by rw [y] at z; cases z) id
theorem Asn.give {K : Frag} {B F0 H F g : Hp} {ss : List Slot} {σ : L2.St} {Gs : List Hp} {s : Slot} {o : Option V} (A : Asn K B F0 ss σ H F Gs) (fr : Fresh B F H Gs g) (j : Nat) (x : s.P K F g o) : Asn K B F0 (ss.set j s) (σ.set j o) H F (Gs.set j g) := by
  refine ⟨A.ext, A.base, A.all.set x j, fun G' m c u z => ?_, pw_set j A.dj fun G' m c => ?_⟩
  · rcases List.mem_or_eq_of_mem_set m with m | e
    · exact A.priv G' m c u z
    · subst e
      obtain ⟨k1, k2, k3, k4, _⟩ := fr c u z
      exact ⟨k1, k3, k4, k2⟩
  · cases e : g c with
    | none => exact .inl rfl
    | some u => exact .inr ((fr c u e).2.2.2.2 G' m)
section
variable {X : Cx} {W : WX} {ss : List Slot} {tg iter a b e : Expr} {es : List Expr} {rest : List Stmt} {pos : Pos}
/-- how one's own is walked -/
def ItG (X : Cx) (ss : List Slot) (i : Nat) {α : Type} [Enc α] (d : Ow α) (as : List α) (se : Slot) (tI : TI) : Prop :=
  ∀ {B F0 F H : Hp} {σ : L2.St} {Gs : List Hp} {R : It → Hp → Prop}, Asn X.K B F0 ss σ H F Gs → (∀ J H1 F1 G Gk o vs gs, Same H H1 → Ext F H F1 H1 → Gs[i]? = some G → σ[i]? = some o → Same Gk G → (∀ g ∈ gs, Same g G ∧ Dj g Gk) → gs.Pairwise Dj → AllO (d.own X.K F1) vs gs as →
    (∀ F' G', Same F1 F' → Same Gk G' → se.P X.K F' G' o) → (∀ k F2 H2, Same F1 F2 → Same F2 H2 → Same Gk H2 → (∀ v, vs[k]? = some v → J.go k H2 ∧ ∀ v' H', J.yld k H2 v' H' → H' = H2 ∧ v' = v) ∧ (vs.length ≤ k → J.stop k H2)) → R J H1) → tI σ H R
def TgG (X : Cx) {α : Type} [Enc α] (d : Ow α) (u : α → List Slot → List Slot) (gT : TG) : Prop :=
  ∀ {a : α} {v : V} {g B F0 F H : Hp} {σ : L2.St} {Gs : List Hp} {ss : List Slot} {Q : L2.St → Hp → Prop}, Asn X.K B F0 ss σ H F Gs → Fresh B F H Gs g → d.own X.K F g v a → (∀ σ' Gs', Asn X.K B F0 (u a ss) σ' H F Gs' → Q σ' H) → gT v σ H Q
theorem b1_forG (i : Nat) {S L R α : Type} [Enc α] {d : Ow α} {as : List α} {body : List Stmt} {f : S → α → Res (Out S S R)} {u : α → List Slot → List Slot} {tI : TI} {gT : TG} {se : Slot} (inv : S → List Slot) (s0 : S) {pl : L → List Slot} {kr : R → Slot}
    (hpi : PI X tg iter tI) (hit : ItG X ss i d as se tI) (hpg : PG X tg gT) (hT : TgG X d u gT)
    (hb : ∀ z s a, SB X W (u a ((inv s).set i z)) body (f s a) (fun s' => (inv s').set i z) (fun s' => (inv s').set i z) kr)
    (hl : ∀ s, Nat.blt i (inv s).length = true := by intro _; rfl) (h0 : Wk (ss.set i any) ((inv s0).set i any) := by exact Wk.refl _)
    (hp : PassesOwn (model X.prog X.w) X.A X.env X.xe := by exact passes_of rfl) (hc : X.calm = true := by rfl) (hse : ∀ z, foldedSetIterable iter X.env z = pure z := by intro _; rfl) :
    B1 X W ss (.For tg iter body [] pos) (loopO f s0 as) (fun s => (inv s).set i se) pl kr := by
  have hb' : PSs X body fun D σ H => ∃ z s a, rdX X (u a ((inv s).set i z)) (wB X W (f s a) (fun s' => (inv s').set i z) (fun s' => (inv s').set i z) kr) D σ H :=
    ⟨fun pins s σ H D I ⟨z, s', a, q⟩ => (hb z s' a).run pins s σ H D I q⟩
  refine PS_imp (ps_for hp hc hpi hpg hb' hse) fun D σ H ⟨B, F0, F, Gs, A, q⟩ => hit A fun J H1 F1 G Gk o vs gs s1 ex1 hG hσ hk hg pw r hend hJ => ?_
  have A1 := A.grow s1 ex1
  have hlen := allO_len r
  refine ⟨fun k n σ H => k + n = as.length ∧ ∃ s F2 Gs2, Same F1 F2 ∧ Asn X.K B F0 ((inv s).set i (jq d o Gk vs as k)) σ H F2 Gs2 ∧ wpS X W (loopO f s (as.drop k)) B fun o => match o with
      | .nx s => NxOk X ((inv s).set i se) D B F0
      | .rt r => RtOk X kr r D B F0
      | .bk l => BkOk X (pl l) D B F0
      | .ct l => CtOk X (pl l) D B F0, ⟨as.length, by omega, s0, F1, Gs, Same.refl _, ?_, q⟩, fun k n σ2 H2 ⟨hn, s, F2, Gs2, sF, A2, q2⟩ => ?_⟩
  · have a1 := (A1.all.any i).wk h0
    have a2 := a1.set (s := jq d o Gk vs as 0) (G := G) (o := o) ⟨rfl, hk, gs, hg, pw, r⟩ i
    rw [set_self hG, set_self hσ, List.set_set] at a2
    exact ⟨A1.ext, A1.base, a2, A1.priv, A1.dj⟩
  · have get_i : ∀ s z, ((inv s).set i z)[i]? = some z := fun s z => List.getElem?_set_self (Nat.le_of_ble_eq_true (hl s))
    have close : ∀ {s σ H F Gs k}, Same F1 F → Asn X.K B F0 ((inv s).set i (jq d o Gk vs as k)) σ H F Gs → Asn X.K B F0 ((inv s).set i se) σ H F Gs := fun {s σ H F Gs k} sF A => by
      obtain ⟨G', o', hG', hσ', e, hk', _⟩ := A.all.get (get_i s _)
      rw [e] at hσ'
      have h2 := A.all.set (s := se) (hend F G' sF hk') i
      rw [List.set_set, set_self hG', set_self hσ'] at h2
      exact ⟨A.ext, A.base, h2, A.priv, A.dj⟩
    obtain ⟨G2, o2, hG2, hσ2, e2, hk2, gs2, hg2, pw2, r2⟩ := A2.all.get (get_i s _)
    subst e2
    have sk : Same Gk H2 := hk2.trans (A2.sub G2 (List.mem_of_getElem? hG2))
    have HJ := hJ k F2 H2 sF A2.ext.sub sk
    by_cases hlt : k < as.length
    · refine .inr ?_
      have hv : k < vs.length := by omega
      have hvk : vs[k]? = some vs[k] := List.getElem?_eq_getElem hv
      obtain ⟨hgo, hy⟩ := HJ.1 _ hvk
      rw [List.drop_eq_getElem_cons hlt, List.drop_eq_getElem_cons hv] at r2
      rw [List.drop_eq_getElem_cons hlt] at q2
      have q2 := wpS_bind (show wpS X W ((f s as[k]).bind _) B _ from q2)
      cases gs2 with
      | nil => exact r2.elim
      | cons g gs2 =>
        refine ⟨hgo, fun σ' H' => ∃ s' F3 Gs3, Same F1 F3 ∧ Asn X.K B F0 ((inv s').set i (jq d o2 Gk vs as (k + 1))) σ' H' F3 Gs3 ∧ wpS X W (loopO f s' (as.drop (k + 1))) B fun o => match o with
          | .nx s => NxOk X ((inv s).set i se) D B F0
          | .rt r => RtOk X kr r D B F0
          | .bk l => BkOk X (pl l) D B F0
          | .ct l => CtOk X (pl l) D B F0, fun σ' H' ⟨s', F3, Gs3, sF3, A3, q3⟩ => ⟨n - 1, by omega, by omega, s', F3, Gs3, sF3, A3, q3⟩, fun v H' y => ?_⟩
        obtain ⟨e, ev⟩ := hy v H' y
        subst e; subst ev
        obtain ⟨sg, dk⟩ := hg2 g List.mem_cons_self
        obtain ⟨pg1, pg2⟩ := List.pairwise_cons.mp pw2
        obtain ⟨A3, frs⟩ := A2.shrink (s := jq d o2 Gk vs as (k + 1)) (G1 := fun c => if g c = none then G2 c else none) hG2 hσ2 (fun c u z => by
            by_cases h : g c = none
            · have z : (if g c = none then G2 c else none) = some u := z
              rw [if_pos h] at z; exact z
            · have z : (if g c = none then G2 c else none) = some u := z
              rw [if_neg h] at z; cases z) ⟨rfl, fun c u z => by
              have : g c = none := (dk c).elim id fun y => by rw [y] at z; cases z
              exact (if_pos this).trans (hk2 _ _ z), gs2, fun g' m => ⟨fun c u z => by
                have : g c = none := (pg1 g' m c).elim id fun y => by rw [y] at z; cases z
                exact (if_pos this).trans ((hg2 g' (List.mem_cons_of_mem _ m)).1 _ _ z), (hg2 g' (List.mem_cons_of_mem _ m)).2⟩, pg2, r2.2⟩
        have frg := frs g sg fun c => by
          by_cases h : g c = none
          · exact .inl h
          · exact .inr (if_neg h)
        rw [List.set_set] at A3
        have A4 : Asn X.K B F2 ((inv s).set i (jq d o2 Gk vs as (k + 1))) σ2 H' F2 (Gs2.set i fun c => if g c = none then G2 c else none) := ⟨⟨Same.refl _, A3.ext.sub, fun _ _ h => .inl h⟩, A3.base, A3.all, A3.priv, A3.dj⟩
        have back : ∀ {F5 H5 : Hp}, Ext F2 B F5 H5 → Ext F0 B F5 H5 := fun {F5 H5} ex => ⟨A3.ext.le.trans ex.le, ex.sub, fun c u z => (ex.new c u z).elim (A3.ext.new c u) .inr⟩
        have backA : ∀ {ss σ H5 F5 Gs5}, Asn X.K B F2 ss σ H5 F5 Gs5 → Asn X.K B F0 ss σ H5 F5 Gs5 := fun {ss σ H5 F5 Gs5} a => ⟨back a.ext, a.base, a.all, a.priv, a.dj⟩
        refine hT A4 frg r2.1 fun σ4 Gs4 A5 => ⟨jq d o2 Gk vs as (k + 1), s, as[k], B, F2, F2, Gs4, A5, wpS_imp q2 fun o q5 => ?_⟩
        cases o with
        | nx s' => exact fun σ' H' F' Gs' A' => ⟨s', F', Gs', sF.trans A'.ext.le, backA A', q5⟩
        | ct s' => exact fun σ' H' F' Gs' A' => ⟨s', F', Gs', sF.trans A'.ext.le, backA A', q5⟩
        | bk s' => exact fun σ' H' F' Gs' A' => q5 σ' H' F' Gs' (close (sF.trans A'.ext.le) (backA A'))
        | rt r => exact fun v H' F' G' a b c d => q5 v H' F' G' a (back b) c d
    · have e : as.drop k = [] := List.drop_eq_nil_iff.mpr (by omega)
      rw [e] at q2
      exact .inl ⟨HJ.2 (by omega), q2 σ2 H2 F2 Gs2 (close sF A2)⟩
theorem s1_forG (i : Nat) {S α : Type} [Enc α] {d : Ow α} {as : List α} {body : List Stmt} {f : S → α → Res S} {u : α → List Slot → List Slot} {tI : TI} {gT : TG} {se : Slot} (inv : S → List Slot) (s0 : S)
    (hpi : PI X tg iter tI) (hit : ItG X ss i d as se tI) (hpg : PG X tg gT) (hT : TgG X d u gT)
    (hb : ∀ z s a, SN X W (u a ((inv s).set i z)) body (f s a) (fun s' => (inv s').set i z))
    (hl : ∀ s, Nat.blt i (inv s).length = true := by intro _; rfl) (h0 : Wk (ss.set i any) ((inv s0).set i any) := by exact Wk.refl _)
    (hp : PassesOwn (model X.prog X.w) X.A X.env X.xe := by exact passes_of rfl) (hc : X.calm = true := by rfl) (hse : ∀ z, foldedSetIterable iter X.env z = pure z := by intro _; rfl) :
    S1 X W ss (.For tg iter body [] pos) (foldR f s0 as) (fun s => (inv s).set i se) := by
  refine s1_of_b1 ?_
  rw [← loopO_fold]
  exact b1_forG i inv s0 hpi hit hpg hT (fun z s a => sb_of_sn (hb z s a)) hl h0 hp hc hse
/-! the targets -/
theorem tgG_name (j : Nat) {α : Type} [Enc α] {d : Ow α} : TgG X d (fun a ss => ss.set j (os d a)) (gName j) := fun {a v g B F0 F H σ Gs ss Q} A fr x q => q _ _ (A.give fr j (s := os d a) ⟨v, rfl, x⟩)
theorem tgG_pair (j1 j2 : Nat) {α β : Type} [Enc α] [Enc β] {d : Ow α} : TgG X (prO d (fzO (α := β))) (fun a ss => (ss.set j1 (os d a.1)).set j2 (fr a.2)) (gTup X.K 2 (gCons (gName j1) (gCons (gName j2) gNil))) := fun {a v g B F0 F H σ Gs ss Q} A fr0 x q => by
  obtain ⟨p, v1, v2, G1, G2, rfl, hp, a1, a2, dj, x1, x2⟩ := x
  have f1 : Fresh B F H Gs G1 := fun c u z => fr0 c u (a1 _ _ z)
  have A1 := A.give f1 j1 (s := os d a.1) ⟨v1, rfl, x1⟩
  have A2 := A1.give (g := noHp) (fun c u z => nomatch z) j2 (s := fr a.2) ⟨v2, rfl, x2⟩
  exact ⟨p, [v1, v2], rfl, SqT.of (A.ext.sub _ _ hp), rfl, v1, [v2], rfl, v2, [], rfl, rfl, q _ _ A2⟩
/-! what is walked -/
theorem itG_list (i : Nat) {α : Type} [Enc α] {d : Ow α} {as : List α} (hs : ss[i]? = some (os (lsO d) as) := by rfl) : ItG X ss i d as (jl as.length) (iList X.K (tVar i)) := fun {B F0 F H σ Gs R} A q => by
  obtain ⟨G, v0, hG, hσ, pa, vs, gs, e0, hpa, hg, pw, r⟩ := all3_os A.all hs
  subst e0
  have hH := A.sub G (List.mem_of_getElem? hG) _ _ hpa
  have up : ∀ {c u}, upd noHp pa (.lst vs) c = some u → c = pa ∧ u = .lst vs := fun {c u} z => by
    by_cases e : c = pa
    · subst e; rw [upd_same] at z; cases z; exact ⟨rfl, rfl⟩
    · rw [upd_ne e] at z; cases z
  refine ⟨.ref pa, hσ, pa, rfl, ⟨vs, SqL.of hH⟩, q _ H F G (upd noHp pa (.lst vs)) _ vs gs (Same.refl _) (ext_refl A.ext.sub) hG hσ (fun c u z => by obtain ⟨rfl, rfl⟩ := up z; exact hpa) (fun g m => ⟨(hg g m).1, fun c => by
    by_cases e : c = pa
    · subst e; exact .inl (hg g m).2
    · exact .inr (upd_ne e)⟩) pw r (fun F' G' _ h => ⟨pa, vs, rfl, h _ _ upd_same, allO_len r⟩) fun k F2 H2 a b c => ?_⟩
  have hL : SqL X.K H2 pa vs := SqL.of (c _ _ upd_same)
  exact ⟨fun v hv => ⟨⟨vs, v, hL, hv⟩, fun v' H' ⟨e, y⟩ => ⟨e, Option.some.inj ((y vs hL).symm.trans hv)⟩⟩, fun hk => ⟨vs, hL, hk⟩⟩
theorem itG_pair (i : Nat) {α : Type} [Enc α] {d : Ow α} {ab : α × α} (hs : ss[i]? = some (os (prO d d) ab) := by rfl) : ItG X ss i d [ab.1, ab.2] any (iTup X.K (tVar i)) := fun {B F0 F H σ Gs R} A q => by
  obtain ⟨G, v0, hG, hσ, pa, v1, v2, G1, G2, e0, hpa, a1, a2, dj, x1, x2⟩ := all3_os A.all hs
  subst e0
  have hH := A.ext.sub _ _ hpa
  refine ⟨.ref pa, hσ, pa, rfl, ⟨_, SqT.of hH⟩, q _ H F G noHp _ [v1, v2] [G1, G2] (Same.refl _) (ext_refl A.ext.sub) hG hσ (fun c u z => nomatch z) (fun g m => ⟨by
    rcases List.mem_cons.mp m with e | m
    · subst e; exact a1
    · cases List.mem_singleton.mp m; exact a2, fun c => .inr rfl⟩) (List.pairwise_cons.mpr ⟨fun g m => by cases List.mem_singleton.mp m; exact dj, List.pairwise_singleton _ _⟩) ⟨x1, x2, trivial⟩ (fun F' G' _ h => trivial) fun k F2 H2 a b c => ?_⟩
  have hL : SqT X.K H2 pa [v1, v2] := SqT.of (b _ _ (a _ _ hpa))
  exact ⟨fun v hv => ⟨⟨_, v, hL, hv⟩, fun v' H' ⟨e, y⟩ => ⟨e, Option.some.inj ((y _ hL).symm.trans hv)⟩⟩, fun hk => ⟨_, hL, hk⟩⟩
/-- one's own list with something behind it -/
def jp {α : Type} [Enc α] (d : Ow α) (as : List α) : Slot :=
  ⟨fun K F G o => ∃ p vs w gs, o = some (.ref p) ∧ G p = some (.lst (vs ++ [w])) ∧ (∀ g ∈ gs, Same g G ∧ g p = none) ∧ gs.Pairwise Dj ∧ AllO (d.own K F) vs gs as,
   fun s t ⟨p, vs, w, gs, e, h, hg, pw, r⟩ => ⟨p, vs, w, gs, e, t _ _ h, fun g m => ⟨(hg g m).1.trans t, (hg g m).2⟩, pw, r.imp fun _ _ _ x => d.mF s x⟩⟩
theorem s1_appJp (i : Nat) {α β : Type} [Enc α] [Enc β] {d : Ow β} {as : List β} {m : Res α} {x : Str} {p apos cpos : Pos} (h : XK X W ss e m fr) (hs : ss[i]? = some (os (lsO d) as) := by rfl) (hp : PE X (.Name x p) (tVar i) := by exact pv _)
    (hbase : attributeBase (.Name x p) "append" X.env (eval (.Name x p) X.env) = eval (.Name x p) X.env := by rfl)
    (hfew : ((backTo cpos (starEach [e] X.env)).all (fun x => !x.1) && (backToKw cpos (keywordEach [] X.env)).all (fun x => x.1.isSome)
      && decide (([e] : List Expr).length + ([] : List Keyword).length + (if ([] : List Keyword).isEmpty then 0 else 1) < 30)) = true := by rfl)
    (hline : (apos.endLine == cpos.line) = true := by rfl) (hst : starEach [e] X.env = (false, eval e X.env) :: starEach [] X.env := by rfl) (hplain : (backTo cpos (starEach [] X.env)).any (·.1) = false := by rfl)
    (hsw : swapsWith (.Call (.Attribute (.Name x p) "append" apos) [e] [] cpos) none pos.line X.env = pure false := by rfl) :
    S1 X W ss (.Expr (.Call (.Attribute (.Name x p) "append" apos) [e] [] cpos) pos) (m.bind fun _ => guardR (big as.length) (.ok ())) (fun _ => ss.set i (jp d as)) := by
  have hx := pe_bm PySem.F.plainAttrs_list PySem.F.slot_list_append PySem.F.type_list_append mt_append hp (pa_cons h pa_nil hst) hbase hfew hline hst hplain
  refine PS_imp (ps_expr hx hsw) fun D σ H ⟨B, F0, F, Gs, A, q⟩ => ?_
  obtain ⟨G, v0, hG, hσ, p, vs, gs, e0, hp, hg, pw, r⟩ := all3_os A.all hs
  subst e0
  have hm := List.mem_of_getElem? hG
  have hH := A.sub G hm _ _ hp
  refine ⟨.ref p, hσ, .inl ⟨rfl, vs, SqL.of hH⟩, F, A.ext.sub, A.sl, wpS_R (wpS_bind q) A.base fun a q v H' F' G' s ex pr k => ?_⟩
  obtain ⟨v', e1, rv⟩ := k
  cases e1
  obtain ⟨g, q⟩ := wpS_guard q
  have A' := A.grow s ex
  refine ⟨p, vs, v, rfl, rfl, s _ _ hH, by rw [allO_len r]; exact Nat.lt_of_le_of_lt (of_decide_eq_true g) (by decide), ?_⟩
  have A2 := A'.chg (s := jp d as) (o := some (.ref p)) (G2 := upd G p (.lst (vs ++ [v]))) (H' := upd H' p (.lst (vs ++ [v]))) hG (fun c u z h => by rw [upd_ne (fun e => by rw [e, hp] at z; cases z)]; exact h) (fun c u z => by
    by_cases e : c = p
    · subst e
      rw [upd_same] at z ⊢; cases z
      exact ⟨rfl, rfl, .inl (by rw [hp]; exact fun h => nomatch h)⟩
    · rw [upd_ne e] at z ⊢
      exact ⟨A'.sub G hm _ _ z, (A'.priv G hm _ _ z).2.2.2, .inl (by rw [z]; exact fun h => nomatch h)⟩) ⟨p, vs, v, gs, rfl, upd_same, fun g m => ⟨fun c u z => by
      rw [upd_ne (fun e => by rw [e, (hg g m).2] at z; cases z)]
      exact (hg g m).1 _ _ z, (hg g m).2⟩, pw, r.imp fun _ _ _ x => d.mF ex.le x⟩
  rw [set_self hσ] at A2
  exact q _ _ _ _ A2
theorem cutV_init (vs : List V) (w : V) : cutV (vs ++ [w]) none (some (-1)) = vs := by
  unfold cutV
  have e1 : HT.sIx (vs ++ [w]).length 0 none = 0 := rfl
  have e2 : HT.sIx (vs ++ [w]).length (vs ++ [w]).length (some (-1)) = vs.length := by
    unfold HT.sIx
    rw [List.length_append, List.length_singleton]
    simp
    omega
  rw [e1, e2, List.drop_zero, Nat.sub_zero, List.take_left' rfl]
theorem itG_init (i : Nat) {α : Type} [Enc α] {d : Ow α} {as : List α} {th : TO} (hh : ∀ {σ H} {Q : Option Int → Hp → Prop}, Q (some (-1)) H → th σ H Q) {tl : TO} (hl : ∀ {σ H} {Q : Option Int → Hp → Prop}, Q none H → tl σ H Q) (hs : ss[i]? = some (jp d as) := by rfl) : ItG X ss i d as any (iList X.K (tSl (rSlL X.K) (tVar i) tl th)) := fun {B F0 F H σ Gs R} A q => by
  obtain ⟨G, o, hG, hσ, pa, vs, w, gs, e0, hpa, hg, pw, r⟩ := A.all.get hs
  subst e0
  have hH := A.sub G (List.mem_of_getElem? hG) _ _ hpa
  refine ⟨.ref pa, hσ, hl (hh ⟨pa, _, rfl, SqL.of hH, fun p hp => ?_⟩)⟩
  rw [cutV_init]
  have nF : F p = none := Same.free A.ext.sub hp
  have s1 : Same H (upd H p (.lst vs)) := same_upd hp
  refine ⟨p, rfl, ⟨vs, SqL.of upd_same⟩, q _ _ (upd F p (.lst vs)) G noHp _ vs gs s1 ⟨same_upd nF, fun c u z => ?_, fun c u z => ?_⟩ hG hσ (fun c u z => nomatch z) (fun g m => ⟨(hg g m).1, fun c => .inr rfl⟩) pw (r.imp fun _ _ _ x => d.mF (same_upd nF) x) (fun F' G' _ h => trivial) fun k F2 H2 a b c => ?_⟩
  · by_cases e : c = p
    · subst e; rw [upd_same] at z ⊢; exact z
    · rw [upd_ne e] at z ⊢; exact A.ext.sub _ _ z
  · by_cases e : c = p
    · subst e; exact .inr (.inl hp)
    · rw [upd_ne e] at z; exact .inl z
  · have hL : SqL X.K H2 p vs := SqL.of (b _ _ (a _ _ upd_same))
    exact ⟨fun v hv => ⟨⟨vs, v, hL, hv⟩, fun v' H' ⟨e, y⟩ => ⟨e, Option.some.inj ((y vs hL).symm.trans hv)⟩⟩, fun hk => ⟨vs, hL, hk⟩⟩
theorem s1_reverseJ (i : Nat) {n : Nat} {x : Str} {p apos cpos : Pos} (hs : ss[i]? = some (jl n) := by rfl) (hx : PE X (.Call (.Attribute (.Name x p) "reverse" apos) [] [] cpos) (tBM0 X.K "list" rReverse (tVar i)) := by exact pe_bm0 PySem.F.plainAttrs_list PySem.F.slot_list_reverse PySem.F.type_list_reverse mt_reverse (pv _))
    (hsw : swapsWith (.Call (.Attribute (.Name x p) "reverse" apos) [] [] cpos) none pos.line X.env = pure false := by rfl) :
    S1 X W ss (.Expr (.Call (.Attribute (.Name x p) "reverse" apos) [] [] cpos) pos) (.ok ()) (fun _ => ss.set i (jl n)) := by
  refine PS_imp (ps_expr hx hsw) fun D σ H ⟨B, F0, F, Gs, A, q⟩ => ?_
  obtain ⟨G, o, hG, hσ, p, vs, e, hp, hl⟩ := A.all.get hs
  subst e
  have hm := List.mem_of_getElem? hG
  have hH := A.sub G hm _ _ hp
  refine ⟨.ref p, hσ, .inl ⟨rfl, vs, SqL.of hH⟩, p, vs, rfl, rfl, hH, ?_⟩
  have A2 := A.chg (s := jl n) (o := some (.ref p)) (G2 := upd noHp p (.lst vs.reverse)) (H' := upd H p (.lst vs.reverse)) hG (fun c u z h => by rw [upd_ne (fun e => by rw [e, hp] at z; cases z)]; exact h) (fun c u z => by
    by_cases e : c = p
    · subst e
      rw [upd_same] at z ⊢; cases z
      exact ⟨rfl, rfl, .inl (by rw [hp]; exact fun h => nomatch h)⟩
    · rw [upd_ne e] at z; cases z) ⟨p, _, rfl, upd_same, by rw [List.length_reverse, hl]⟩
  rw [set_self hσ] at A2
  exact q _ _ _ _ A2
end
end G

namespace G
open PySem PySem.Spec PyProof.Rows L2
section
variable {X : Cx} {W : WX} {ss : List Slot} {tg elt iter : Expr} {scope : Scope} {own : List (Str × Nat)} {pos : Pos}
/-- name = [z for z in name if ..], the items one's own -/
theorem s1_keepV (i k : Nat) {α : Type} [Enc α] {d : Ow α} {as : List α} {y z : Str} {py yp zp spos : Pos} {cond : Expr} {p : α → Res Bool} (hg : TgC X scope (own.map (·.2)) (α := Raw α) tg (fun a ss => ss.set k (fr a)))
    (ht : ∀ a s H C cl fp, XT (X.blk s H scope (compEnvC scope cl C X.env) fp) WF ((wipeS ss (own.map (·.2))).set k (fr a)) cond (p a))
    (hN : X.N.Nodup) (ok : BlkOk X.N X.env.scope scope own) (hsw : swapsWith (.ListComp (.Name z zp) [⟨tg, .Name y yp, [cond], 0⟩] scope pos) (some (.Name y py)) spos.line X.env = pure true)
    (hst : ss[i]? = some (os (lsO d) as) := by rfl)
    (hv : ∀ (s : Shared) (H : Hp) (C : Addr) (cl : List (Str × Addr)) (fp : List Addr), PE (X.blk s H scope (compEnvC scope cl C X.env) fp) (.Name z zp) (tVar k) := by intro _ _ _ _ _; exact pv _) (hk : ∀ s : Slot, ((wipeS ss (own.map (·.2))).set k s)[k]? = some s := by intro _; rfl)
    (hpx : PE X (.Name y yp) (tVar i) := by exact pv _)
    (hy : X.N[i]? = some y := by rfl) (hyl : X.env.scope.names.lookup y = some .local := by rfl) (hc : X.calm = true := by rfl) (hs : ∀ x, foldedSetIterable (.Name y yp) X.env x = pure x := by intro _; rfl) :
    S1 X W ss (.Assign [.Name y py] (.ListComp (.Name z zp) [⟨tg, .Name y yp, [cond], 0⟩] scope pos) spos) (lcT p (fun a => .ok a) as) (fun bs => ss.set i (os (lsO d) bs)) := by
  obtain ⟨g, pg, qg⟩ := hg
  have he' : ∀ (s : Shared) (H : Hp) (C : Addr) (cl : List (Str × Addr)) (fp : List Addr), PE (X.blk s H scope (compEnvC scope cl C X.env) fp) (.Name z zp) (fun σ H Q => ∃ r : Raw α, rK X WF ((wipeS ss (own.map (·.2))).set k (fr r)) (.ok r) fr σ H Q) := fun s H C cl fp =>
    ⟨fun pins s' σ H' Q I ⟨r, q⟩ => (xk_fr (X := X.blk s H scope (compEnvC scope cl C X.env) fp) (W := WF) k (hk _) (hv s H C cl fp)).run pins s' σ H' Q I q⟩
  have ht0 : ∀ (s : Shared) (H : Hp) (C : Addr) (cl : List (Str × Addr)) (fp : List Addr), PT (X.blk s H scope (compEnvC scope cl C X.env) fp) cond (fun σ H Q => ∃ r : Raw α, rT X WF ((wipeS ss (own.map (·.2))).set k (fr r)) (p r.a) σ H Q) := fun s H C cl fp =>
    ⟨fun pins s' σ H' Q I ⟨r, q⟩ => (xt_raw (ht r.a s H C cl fp)).run pins s' σ H' Q I q⟩
  refine PS_imp (ps_setLc hc hN hy hyl hsw (pi_list hpx) ok pg (fun s H C cl fp => pts_one (ht0 s H C cl fp)) he' hs) fun D σ H ⟨B, F0, F, Gs, A, q⟩ => ?_
  obtain ⟨G, v0, hG, hσ, pa, us, gs, e0, hpa, hga, pwa, ra0⟩ := all3_os A.all hst
  subst e0
  have hm := List.mem_of_getElem? hG
  have sG := A.sub G hm
  have hH := sG _ _ hpa
  have prA := A.priv G hm
  obtain ⟨hlen, q⟩ := wpS_guard q
  have hlen : as.length ≤ 1000000 := of_decide_eq_true hlen
  obtain ⟨bs0, ebs0⟩ : ∃ bs, lcR p (fun a => .ok a) as = .ok bs := by
    cases e : lcR p (fun a => .ok a) as with
    | ok bs => exact ⟨bs, rfl⟩
    | stuck => rw [e] at q; exact q.elim
    | exc x => exact (lcR_noX as x e).elim
  rw [ebs0] at q
  obtain ⟨bs, ebs, hbs⟩ := lcR_raw (gg := fun r : Raw α => .ok r) (cv := fun r : Raw α => r.a) (fun _ => rfl) (allO_len ra0) ebs0
  have hpF : join F G pa = some (.lst us) := join_r A.ext.sub sG _ _ hpa
  have hsub : Same (join F G) H := join_le A.ext.sub sG
  refine ⟨.ref pa, hσ, pa, rfl, ⟨us, SqL.of hH⟩, lc_core (J := Itl X.K pa) (H1 := H) (Q := fun x H1 => gName i x σ H1 D.nx) (u := fun a ss => ss.set k (fr a)) (p := fun r : Raw α => p r.a) (gg := fun r => .ok r) qg (F := F) (F1 := join F G) (xs := rawZ us as) A.sl (Same.refl H) ⟨join_l, hsub⟩ ⟨fun i F2 H2 a sa sb hi => ?_, fun i F2 H2 sa sb hi => ⟨us, SqL.of (sb _ _ (sa _ _ hpF)), by rw [allO_len ra0, ← rawZ_len ra0]; exact hi⟩⟩ (by rw [rawZ_len ra0]; exact hlen) ebs fun D' nD acc H2 F2 s2 ex2 hD nF2 ra => ?_⟩
  · obtain ⟨hv, g, mg, rv⟩ := rawZ_get ra0 hi
    refine ⟨⟨us, a.v, SqL.of (sb _ _ (sa _ _ hpF)), hv⟩, fun v' H' ⟨e, y⟩ => ?_⟩
    subst e
    have ev : v' = a.v := Option.some.inj ((y us (SqL.of (sb _ _ (sa _ _ hpF)))).symm.trans hv)
    subst ev
    exact ⟨Same.refl _, F2, ext_refl sb, rfl, Enc.mono sa (d.view rv join_l ((hga g mg).1.trans (join_r A.ext.sub sG)))⟩
  · obtain ⟨gs', sub, sel⟩ := lcR_sel ra0 ebs
    have nGD : G D' = none := by
      cases e : G D' with
      | none => rfl
      | some w => rw [sG _ _ e] at nD; cases nD
    have keep : ∀ c u, F2 c = some u → G c = none → (fun c => if G c = none then F2 c else none) c = some u := fun c u z h => (if_pos h).trans z
    have leF : Same F (fun c => if G c = none then F2 c else none) := fun c u z => by
      have : G c = none := by
        cases e : G c with
        | none => rfl
        | some w => rw [(prA c w e).2.2.1] at z; cases z
      exact keep c u (ex2.le _ _ (join_l _ _ z)) this
    have leT : Same (tups F2) (fun c => if G c = none then F2 c else none) := fun c u z => by
      have z2 := tups_le F2 _ _ z
      have t := tups_isT z
      refine keep c u z2 ?_
      cases e : G c with
      | none => rfl
      | some w =>
        have e1 : join F G c = some w := join_r A.ext.sub sG _ _ e
        have := ex2.le _ _ e1
        rw [z2] at this; cases this
        rw [(prA c u e).2.2.2] at t; cases t
    have ow' := allO_of (d := d.own X.K (fun c => if G c = none then F2 c else none)) (d' := d.own X.K (fun c => if G c = none then F2 c else none)) (R := fun v a => Enc.rep X.K F2 v a) (cv := fun r : Raw α => r.a) (fun g r c y e x r' => cv_id F2 _ g r c y leT e x r') (All2.imp (fun g c ⟨r, e, x⟩ => ⟨r, e, d.mF leF x⟩) sel) ra
    rw [← hbs] at ow'
    have A1 := A.grow (F' := fun c => if G c = none then F2 c else none) s2 ⟨leF, fun c u z => by
      by_cases h : G c = none
      · have z : (if G c = none then F2 c else none) = some u := z
        rw [if_pos h] at z; exact ex2.sub _ _ z
      · have z : (if G c = none then F2 c else none) = some u := z
        rw [if_neg h] at z; exact (nomatch z), fun c u z => by
      by_cases h : G c = none
      · have z : (if G c = none then F2 c else none) = some u := z
        rw [if_pos h] at z
        rcases ex2.new c u z with z | z | z
        · rcases join_or z with z | z
          · exact .inl z
          · rw [h] at z; cases z
        · exact .inr (.inl z)
        · exact .inr (.inr z)
      · have z : (if G c = none then F2 c else none) = some u := z
        rw [if_neg h] at z; exact (nomatch z)⟩
    have A2 := A1.chg (s := os (lsO d) bs0) (o := some (.ref D')) (G2 := fun c => if c = D' then some (.lst acc) else G c) (H' := H2) hG (fun c u _ z => z) (fun c u z => by
      have z : (if c = D' then some (HO.lst acc) else G c) = some u := z
      by_cases e : c = D'
      · subst e
        rw [if_pos rfl] at z; cases z
        refine ⟨hD, rfl, .inr ⟨Same.free A.base nD, (if_pos nGD).trans nF2, fun g m => ?_⟩⟩
        cases e : g c with
        | none => rfl
        | some w => rw [A.sub g m _ _ e] at nD; cases nD
      · rw [if_neg e] at z
        exact ⟨A1.sub G hm _ _ z, (prA c u z).2.2.2, .inl (by rw [z]; exact fun h => nomatch h)⟩) ⟨_, rfl, D', acc, gs', rfl, if_pos rfl, fun g mg => by
      have m := sub.subset mg
      refine ⟨fun c u z => ?_, ?_⟩
      · have z2 := (hga g m).1 _ _ z
        have : c ≠ D' := fun e => by rw [e, nGD] at z2; cases z2
        exact (if_neg this).trans z2
      · cases e : g D' with
        | none => rfl
        | some w => rw [(hga g m).1 _ _ e] at nGD; exact (nomatch nGD), pwa.sublist sub, ow'⟩
    exact q _ _ _ _ A2
theorem s1_keepVc (i k : Nat) {α : Type} [Enc α] {d : Ow α} {as : List α} {y z : Str} {py yp zp spos : Pos} {cond : Expr} {p : α → Res Bool} (hg : TgC X scope (own.map (·.2)) (α := Raw α) tg (fun a ss => ss.set k (fr a)))
    (ht : ∀ a s H C cl fp, XT (X.blk s H scope (compEnvC scope cl C X.env) fp) WF ((wipeS ss (own.map (·.2))).set k (fr a)) cond (p a))
    (hN : X.N.Nodup) (ok : BlkOk X.N X.env.scope scope own)
    (hst : ss[i]? = some (os (lsO d) as) := by rfl)
    (hv : ∀ (s : Shared) (H : Hp) (C : Addr) (cl : List (Str × Addr)) (fp : List Addr), PE (X.blk s H scope (compEnvC scope cl C X.env) fp) (.Name z zp) (tVar k) := by intro _ _ _ _ _; exact pv _) (hk : ∀ s : Slot, ((wipeS ss (own.map (·.2))).set k s)[k]? = some s := by intro _; rfl)
    (hpx : PE X (.Name y yp) (tVar i) := by exact pv _)
    (hy : X.N[i]? = some y := by rfl) (hxl : Loc X.env.scope y := by first | exact Or.inl rfl | exact Or.inr rfl) (hsw : swapsWith (.ListComp (.Name z zp) [⟨tg, .Name y yp, [cond], 0⟩] scope pos) (some (.Name y py)) spos.line X.env = pure false := by rfl) (hf : X.fn y = true ∨ X.env.scope.names.lookup y = some .local := by first | exact .inl rfl | exact .inr rfl) (hc : X.calm = true := by rfl) (hs : ∀ x, foldedSetIterable (.Name y yp) X.env x = pure x := by intro _; rfl) :
    S1 X W ss (.Assign [.Name y py] (.ListComp (.Name z zp) [⟨tg, .Name y yp, [cond], 0⟩] scope pos) spos) (lcT p (fun a => .ok a) as) (fun bs => ss.set i (os (lsO d) bs)) := by
  obtain ⟨g, pg, qg⟩ := hg
  have he' : ∀ (s : Shared) (H : Hp) (C : Addr) (cl : List (Str × Addr)) (fp : List Addr), PE (X.blk s H scope (compEnvC scope cl C X.env) fp) (.Name z zp) (fun σ H Q => ∃ r : Raw α, rK X WF ((wipeS ss (own.map (·.2))).set k (fr r)) (.ok r) fr σ H Q) := fun s H C cl fp =>
    ⟨fun pins s' σ H' Q I ⟨r, q⟩ => (xk_fr (X := X.blk s H scope (compEnvC scope cl C X.env) fp) (W := WF) k (hk _) (hv s H C cl fp)).run pins s' σ H' Q I q⟩
  have ht0 : ∀ (s : Shared) (H : Hp) (C : Addr) (cl : List (Str × Addr)) (fp : List Addr), PT (X.blk s H scope (compEnvC scope cl C X.env) fp) cond (fun σ H Q => ∃ r : Raw α, rT X WF ((wipeS ss (own.map (·.2))).set k (fr r)) (p r.a) σ H Q) := fun s H C cl fp =>
    ⟨fun pins s' σ H' Q I ⟨r, q⟩ => (xt_raw (ht r.a s H C cl fp)).run pins s' σ H' Q I q⟩
  refine PS_imp (ps_set hN hy hxl (pe_lc hc hN (pi_list hpx) ok pg (fun s H C cl fp => pts_one (ht0 s H C cl fp)) he' hs) hsw hf) fun D σ H ⟨B, F0, F, Gs, A, q⟩ => ?_
  obtain ⟨G, v0, hG, hσ, pa, us, gs, e0, hpa, hga, pwa, ra0⟩ := all3_os A.all hst
  subst e0
  have hm := List.mem_of_getElem? hG
  have sG := A.sub G hm
  have hH := sG _ _ hpa
  have prA := A.priv G hm
  obtain ⟨hlen, q⟩ := wpS_guard q
  have hlen : as.length ≤ 1000000 := of_decide_eq_true hlen
  obtain ⟨bs0, ebs0⟩ : ∃ bs, lcR p (fun a => .ok a) as = .ok bs := by
    cases e : lcR p (fun a => .ok a) as with
    | ok bs => exact ⟨bs, rfl⟩
    | stuck => rw [e] at q; exact q.elim
    | exc x => exact (lcR_noX as x e).elim
  rw [ebs0] at q
  obtain ⟨bs, ebs, hbs⟩ := lcR_raw (gg := fun r : Raw α => .ok r) (cv := fun r : Raw α => r.a) (fun _ => rfl) (allO_len ra0) ebs0
  have hpF : join F G pa = some (.lst us) := join_r A.ext.sub sG _ _ hpa
  have hsub : Same (join F G) H := join_le A.ext.sub sG
  refine ⟨.ref pa, hσ, pa, rfl, ⟨us, SqL.of hH⟩, lc_core (J := Itl X.K pa) (H1 := H) (Q := fun x H1 => gName i x σ H1 D.nx) (u := fun a ss => ss.set k (fr a)) (p := fun r : Raw α => p r.a) (gg := fun r => .ok r) qg (F := F) (F1 := join F G) (xs := rawZ us as) A.sl (Same.refl H) ⟨join_l, hsub⟩ ⟨fun i F2 H2 a sa sb hi => ?_, fun i F2 H2 sa sb hi => ⟨us, SqL.of (sb _ _ (sa _ _ hpF)), by rw [allO_len ra0, ← rawZ_len ra0]; exact hi⟩⟩ (by rw [rawZ_len ra0]; exact hlen) ebs fun D' nD acc H2 F2 s2 ex2 hD nF2 ra => ?_⟩
  · obtain ⟨hv, g, mg, rv⟩ := rawZ_get ra0 hi
    refine ⟨⟨us, a.v, SqL.of (sb _ _ (sa _ _ hpF)), hv⟩, fun v' H' ⟨e, y⟩ => ?_⟩
    subst e
    have ev : v' = a.v := Option.some.inj ((y us (SqL.of (sb _ _ (sa _ _ hpF)))).symm.trans hv)
    subst ev
    exact ⟨Same.refl _, F2, ext_refl sb, rfl, Enc.mono sa (d.view rv join_l ((hga g mg).1.trans (join_r A.ext.sub sG)))⟩
  · obtain ⟨gs', sub, sel⟩ := lcR_sel ra0 ebs
    have nGD : G D' = none := by
      cases e : G D' with
      | none => rfl
      | some w => rw [sG _ _ e] at nD; cases nD
    have keep : ∀ c u, F2 c = some u → G c = none → (fun c => if G c = none then F2 c else none) c = some u := fun c u z h => (if_pos h).trans z
    have leF : Same F (fun c => if G c = none then F2 c else none) := fun c u z => by
      have : G c = none := by
        cases e : G c with
        | none => rfl
        | some w => rw [(prA c w e).2.2.1] at z; cases z
      exact keep c u (ex2.le _ _ (join_l _ _ z)) this
    have leT : Same (tups F2) (fun c => if G c = none then F2 c else none) := fun c u z => by
      have z2 := tups_le F2 _ _ z
      have t := tups_isT z
      refine keep c u z2 ?_
      cases e : G c with
      | none => rfl
      | some w =>
        have e1 : join F G c = some w := join_r A.ext.sub sG _ _ e
        have := ex2.le _ _ e1
        rw [z2] at this; cases this
        rw [(prA c u e).2.2.2] at t; cases t
    have ow' := allO_of (d := d.own X.K (fun c => if G c = none then F2 c else none)) (d' := d.own X.K (fun c => if G c = none then F2 c else none)) (R := fun v a => Enc.rep X.K F2 v a) (cv := fun r : Raw α => r.a) (fun g r c y e x r' => cv_id F2 _ g r c y leT e x r') (All2.imp (fun g c ⟨r, e, x⟩ => ⟨r, e, d.mF leF x⟩) sel) ra
    rw [← hbs] at ow'
    have A1 := A.grow (F' := fun c => if G c = none then F2 c else none) s2 ⟨leF, fun c u z => by
      by_cases h : G c = none
      · have z : (if G c = none then F2 c else none) = some u := z
        rw [if_pos h] at z; exact ex2.sub _ _ z
      · have z : (if G c = none then F2 c else none) = some u := z
        rw [if_neg h] at z; exact (nomatch z), fun c u z => by
      by_cases h : G c = none
      · have z : (if G c = none then F2 c else none) = some u := z
        rw [if_pos h] at z
        rcases ex2.new c u z with z | z | z
        · rcases join_or z with z | z
          · exact .inl z
          · rw [h] at z; cases z
        · exact .inr (.inl z)
        · exact .inr (.inr z)
      · have z : (if G c = none then F2 c else none) = some u := z
        rw [if_neg h] at z; exact (nomatch z)⟩
    have A2 := A1.chg (s := os (lsO d) bs0) (o := some (.ref D')) (G2 := fun c => if c = D' then some (.lst acc) else G c) (H' := H2) hG (fun c u _ z => z) (fun c u z => by
      have z : (if c = D' then some (HO.lst acc) else G c) = some u := z
      by_cases e : c = D'
      · subst e
        rw [if_pos rfl] at z; cases z
        refine ⟨hD, rfl, .inr ⟨Same.free A.base nD, (if_pos nGD).trans nF2, fun g m => ?_⟩⟩
        cases e : g c with
        | none => rfl
        | some w => rw [A.sub g m _ _ e] at nD; cases nD
      · rw [if_neg e] at z
        exact ⟨A1.sub G hm _ _ z, (prA c u z).2.2.2, .inl (by rw [z]; exact fun h => nomatch h)⟩) ⟨_, rfl, D', acc, gs', rfl, if_pos rfl, fun g mg => by
      have m := sub.subset mg
      refine ⟨fun c u z => ?_, ?_⟩
      · have z2 := (hga g m).1 _ _ z
        have : c ≠ D' := fun e => by rw [e, nGD] at z2; cases z2
        exact (if_neg this).trans z2
      · cases e : g D' with
        | none => rfl
        | some w => rw [(hga g m).1 _ _ e] at nGD; exact (nomatch nGD), pwa.sublist sub, ow'⟩
    exact q _ _ _ _ A2
end
/-! ### a walk over one's own list that only looks -/
def hold {α : Type} [Enc α] (d : Ow α) (p : Addr) (vs : List V) (as : List α) (k : Nat) : Slot :=
  ⟨fun K F G o => o = some (.ref p) ∧ G p = some (.lst vs) ∧ ∃ g1 g2, (∀ g ∈ g1 ++ g2, Same g G ∧ g p = none) ∧ (g1 ++ g2).Pairwise Dj ∧ AllO (d.own K F) (vs.take k) g1 (as.take k) ∧ AllO (d.own K F) (vs.drop (k + 1)) g2 (as.drop (k + 1)),
   fun s t ⟨e, h, g1, g2, hg, pw, r1, r2⟩ => ⟨e, t _ _ h, g1, g2, fun g m => ⟨(hg g m).1.trans t, (hg g m).2⟩, pw, r1.imp fun _ _ _ x => d.mF s x, r2.imp fun _ _ _ x => d.mF s x⟩⟩
theorem allO_split {α : Type} {P : Hp → V → α → Prop} : ∀ (k : Nat) {vs : List V} {gs : List Hp} {as : List α} (h1 : k < vs.length) (h2 : k < as.length), AllO P vs gs as → ∃ g1 g g2, gs = g1 ++ g :: g2 ∧ AllO P (vs.take k) g1 (as.take k) ∧ P g vs[k] as[k] ∧ AllO P (vs.drop (k + 1)) g2 (as.drop (k + 1))
  | 0, v :: vs, g :: gs, a :: as, _, _, ⟨x, y⟩ => ⟨[], g, gs, rfl, trivial, x, y⟩
  | k + 1, v :: vs, g :: gs, a :: as, h1, h2, ⟨x, y⟩ => by
    obtain ⟨g1, g', g2, e, a1, a2, a3⟩ := allO_split k (Nat.lt_of_succ_lt_succ h1) (Nat.lt_of_succ_lt_succ h2) y
    exact ⟨g :: g1, g', g2, by rw [e]; rfl, ⟨x, a1⟩, a2, a3⟩
  | _, [], _, _, h, _, _ => absurd h (Nat.not_lt_zero _)
  | _, _ :: _, _, [], _, h, _ => absurd h (Nat.not_lt_zero _)
  | _, _ :: _, [], _ :: _, _, _, h => h.elim
theorem allO_join {α : Type} {P : Hp → V → α → Prop} : ∀ (k : Nat) {vs : List V} {g1 g2 : List Hp} {g : Hp} {as : List α} (h1 : k < vs.length) (h2 : k < as.length), AllO P (vs.take k) g1 (as.take k) → P g vs[k] as[k] → AllO P (vs.drop (k + 1)) g2 (as.drop (k + 1)) → AllO P vs (g1 ++ g :: g2) as
  | 0, v :: vs, [], g2, g, a :: as, _, _, _, x, y => ⟨x, y⟩
  | 0, v :: vs, _ :: _, g2, g, a :: as, _, _, h, _, _ => h.elim
  | k + 1, v :: vs, g' :: g1, g2, g, a :: as, h1, h2, ⟨x, y⟩, z, w => ⟨x, allO_join k (Nat.lt_of_succ_lt_succ h1) (Nat.lt_of_succ_lt_succ h2) y z w⟩
  | k + 1, v :: vs, [], g2, g, a :: as, _, _, h, _, _ => h.elim
  | _, [], _, _, _, _, h, _, _, _, _ => absurd h (Nat.not_lt_zero _)
  | _, _ :: _, _, _, _, [], _, h, _, _, _ => absurd h (Nat.not_lt_zero _)
section
variable {X : Cx} {W : WX} {ss : List Slot} {st : Stmt} {rest : List Stmt} {e : Expr} {pos : Pos}
/-- a display with a list of one's own and a thing that stays -/
theorem xk_prL {α β : Type} [Enc α] [Enc β] [Imm β] {m : Res (List α)} {m2 : Res β} {k : Nat} {e1 e2 : Expr} (h : XK X W ss e1 m ow) (h2 : XI X W ss e2 m2)
    (k1 : starEach [e1, e2] X.env = (false, eval e1 X.env) :: starEach [e2] X.env := by rfl) (k2 : starEach [e2] X.env = (false, eval e2 X.env) :: starEach [] X.env := by rfl) :
    XK X W ss (.Tuple [e1, e2] k pos) (m.bind fun as => m2.bind fun b => .ok ((as, b) : List α × β)) (os (prO l1 fzO)) := by
  refine PE_imp (pe_tup (pa_cons h (pa_cons h2 pa_nil k2) k1)) fun σ H Q ⟨F, sf, sl, q⟩ => ⟨F, sf, sl, wpR_imp (wpR_bind q) (Same.refl H) fun as q v1 H1 F1 G1 s1 ex1 pr1 kk1 => ?_⟩
  obtain ⟨p1, ws1, e1', g1, rr1⟩ := kk1
  cases e1'
  refine ⟨(sl.mono ex1.le s1).mono ex1.sub (Same.refl H1), wpR_imp (wpR_bind q) s1 fun b q w H2 s2 r2 => ?_⟩
  refine ⟨smallLine (by simp), fun t ht => ?_⟩
  have sF1 : Same F1 H2 := ex1.sub.trans s2
  have ex02 := ex1.trans s1 (ext_imm ex1.sub s2)
  have hF : (join F1 (tups H2)) t = none := Same.free (join_le sF1 (tups_le H2)) ht
  have sF : Same (join F1 (tups H2)) (upd (join F1 (tups H2)) t (.tup [.ref p1, w])) := same_upd hF
  refine q (.ref t) _ (upd (join F1 (tups H2)) t (.tup [.ref p1, w])) G1 (s1.trans (s2.trans (same_upd ht))) ⟨ex02.le.trans sF, fun c u z => ?_, fun c u z => ?_⟩ (fun c u z => ?_) ⟨.ref t, rfl, t, .ref p1, w, G1, noHp, rfl, upd_same, Same.refl _, (fun _ _ z => nomatch z), (fun _ => .inr rfl), ⟨p1, ws1, rfl, g1, rr1.mono (join_l.trans sF)⟩, Enc.mono ((join_r sF1 (tups_le H2)).trans sF) (Imm.imm r2)⟩
  · by_cases e : c = t
    · subst e; rw [upd_same] at z ⊢; exact z
    · rw [upd_ne e] at z ⊢; exact join_le sF1 (tups_le H2) _ _ z
  · by_cases e : c = t
    · subst e; rw [upd_same] at z; cases z; exact .inr (.inr rfl)
    · rw [upd_ne e] at z; exact ex02.new _ _ z
  · obtain ⟨q1, q2, q3, q4⟩ := pr1 c u z
    have q1 := s2 _ _ q1
    have ne : c ≠ t := fun e => by rw [e, ht] at q1; cases q1
    have k3 : (join F1 (tups H2)) c = none := by
      cases z3 : (join F1 (tups H2)) c with
      | none => rfl
      | some y =>
        rcases join_or z3 with z' | z'
        · rw [q3] at z'; cases z'
        · have a := tups_le _ _ _ z'
          rw [q1] at a; cases a
          rw [tups_isT z'] at q4; cases q4
    exact ⟨by rw [upd_ne ne]; exact q1, q2, by rw [upd_ne ne]; exact k3, q4⟩
theorem b1_forR (i j : Nat) {S L R α : Type} [Enc α] {d : Ow α} {as : List α} {x y : Str} {p py : Pos} {body : List Stmt} {f : S → α → Res (Out S S R)} (inv : S → List Slot) (s0 : S) {pl : L → List Slot} {kr : R → Slot} (hij : i ≠ j := by decide)
    (hl : ∀ s, Nat.blt i (inv s).length = true := by intro _; rfl) (hlj : ∀ s, Nat.blt j (inv s).length = true := by intro _; rfl)
    (hb : ∀ p vs k g v s a, SB X W (((inv s).set i (hold d p vs as k)).set j (pin g v d a)) body (f s a) (fun s' => ((inv s').set i (hold d p vs as k)).set j (pin g v d a)) (fun s' => ((inv s').set i (hold d p vs as k)).set j (pin g v d a)) kr)
    (hN : X.N.Nodup) (h0 : Wk ((ss.set i any).set j any) (((inv s0).set i any).set j any) := by exact Wk.refl _) (hs : ss[i]? = some (os (lsO d) as) := by rfl) (hpx : PE X (.Name x p) (tVar i) := by exact pv _)
    (hi : X.N[j]? = some y := by rfl) (hx : Loc X.env.scope y := by first | exact Or.inl rfl | exact Or.inr rfl) (hf : X.fn y = true ∨ X.env.scope.names.lookup y = some .local := by first | exact .inl rfl | exact .inr rfl)
    (hp : PassesOwn (model X.prog X.w) X.A X.env X.xe := by exact passes_of rfl) (hc : X.calm = true := by rfl) (hse : ∀ z, foldedSetIterable (.Name x p) X.env z = pure z := by intro _; rfl) :
    B1 X W ss (.For (.Name y py) (.Name x p) body [] pos) (loopO f s0 as) (fun s => ((inv s).set i (os (lsO d) as)).set j any) pl kr := by
  have hb' : PSs X body fun D σ H => ∃ p vs k g v s a, rdX X (((inv s).set i (hold d p vs as k)).set j (pin g v d a)) (wB X W (f s a) (fun s' => ((inv s').set i (hold d p vs as k)).set j (pin g v d a)) (fun s' => ((inv s').set i (hold d p vs as k)).set j (pin g v d a)) kr) D σ H :=
    ⟨fun pins s σ H D I ⟨p, vs, k, g, v, s', a, q⟩ => (hb p vs k g v s' a).run pins s σ H D I q⟩
  refine PS_imp (ps_for hp hc (pi_list hpx) (pg_name hN hi hx hf) hb' hse) fun D σ H ⟨B, F0, F, Gs, A, q⟩ => ?_
  obtain ⟨G, v0, hG, hσ, pa, vs, gs, e0, hpa, hg, pw, r⟩ := all3_os A.all hs
  subst e0
  have hH := A.sub G (List.mem_of_getElem? hG) _ _ hpa
  have hlen := allO_len r
  have get_i : ∀ s z w, (((inv s).set i z).set j w)[i]? = some z := fun s z w => get_ij hij (hl s)
  have get_j : ∀ s z w, (((inv s).set i z).set j w)[j]? = some w := fun s z w => List.getElem?_set_self (by rw [List.length_set]; exact Nat.le_of_ble_eq_true (hlj s))
  -- put back
  have back : ∀ {k : Nat} (hk : k < as.length) (hkv : k < vs.length) {g0 s σ H F Gs F0}, Asn X.K B F0 (((inv s).set i (hold d pa vs as k)).set j (pin g0 vs[k] d as[k])) σ H F Gs → ∃ Gs', Asn X.K B F0 (((inv s).set i (jk d pa vs as 0)).set j any) σ H F Gs' := fun {k} hk hkv {g0 s σ H F Gs F0} A => by
    obtain ⟨Gi, oi, hGi, hσi, ei, hpi, g1, g2, hgg, pww, ra, rb⟩ := A.all.get (get_i s _ _)
    obtain ⟨Gj, oj, hGj, hσj, ej, hgj, rj⟩ := A.all.get (get_j s _ _)
    subst ei
    obtain ⟨A1, fr1⟩ := A.take hGj
    have hGi1 : (Gs.set j noHp)[i]? = some Gi := by rw [List.getElem?_set_ne (Ne.symm hij)]; exact hGi
    have sI := A.sub Gi (List.mem_of_getElem? hGi)
    have sJ := A.sub Gj (List.mem_of_getElem? hGj)
    have dij : ∀ c u, Gj c = some u → Gi c = none := fun c u z => (fr1 c u z).2.2.2.2 Gi (List.mem_of_getElem? hGi1)
    have rr := allO_join k hkv hk ra rj rb
    have ing : ∀ g ∈ g1 ++ g0 :: g2, Same g (join Gi Gj) ∧ g pa = none := fun g m => by
      have : g ∈ g1 ++ g2 ∨ g = g0 := by
        rcases List.mem_append.mp m with m | m
        · exact .inl (List.mem_append_left _ m)
        · rcases List.mem_cons.mp m with m | m
          · exact .inr m
          · exact .inl (List.mem_append_right _ m)
      rcases this with m | m
      · exact ⟨(hgg g m).1.trans join_l, (hgg g m).2⟩
      · subst m
        refine ⟨hgj.trans (join_r sI sJ), ?_⟩
        cases e : g pa with
        | none => rfl
        | some w =>
          have := dij _ _ (hgj _ _ e)
          rw [this] at hpi; cases hpi
    have pwn : (g1 ++ g0 :: g2).Pairwise Dj := (List.pairwise_middle (fun h c => (h c).symm)).mpr (List.pairwise_cons.mpr ⟨fun g m c => by
      cases e : g0 c with
      | none => exact .inl rfl
      | some w =>
        refine .inr ?_
        cases e2 : g c with
        | none => rfl
        | some w2 =>
          have z1 := (hgg g m).1 _ _ e2
          have z2 := dij _ _ (hgj _ _ e)
          rw [z2] at z1; exact (nomatch z1), pww⟩)
    have A2 := A1.chg (s := jk d pa vs as 0) (o := some (.ref pa)) (G2 := join Gi Gj) (H' := H) hGi1 (fun c u _ z => z) (fun c u z => by
      rcases join_or z with z | z
      · exact ⟨sI _ _ z, (A.priv Gi (List.mem_of_getElem? hGi) c u z).2.2.2, .inl (by rw [z]; exact fun h => nomatch h)⟩
      · obtain ⟨k1, k2, k3, k4, k5⟩ := fr1 c u z
        exact ⟨k1, k2, .inr ⟨k3, k4, k5⟩⟩) ⟨rfl, g1 ++ g0 :: g2, join_l _ _ hpi, ing, pwn, rr⟩
    rw [set_self hσi] at A2
    have es : ((((inv s).set i (hold d pa vs as k)).set j (pin g0 vs[k] d as[k])).set j any).set i (jk d pa vs as 0) = ((inv s).set i (jk d pa vs as 0)).set j any := by rw [List.set_set, set_ij hij]
    rw [es] at A2
    exact ⟨_, A2⟩
  have endd : ∀ {s σ H F Gs F0}, Asn X.K B F0 (((inv s).set i (jk d pa vs as 0)).set j any) σ H F Gs → Asn X.K B F0 (((inv s).set i (os (lsO d) as)).set j any) σ H F Gs := fun {s σ H F Gs F0} A => by
    have := A.at (t := os (lsO d) as) (get_i s _ _) fun G o ⟨e, gs, g, h, w, r⟩ => ⟨.ref pa, e, pa, vs, gs, rfl, g, h, w, r⟩
    rw [set_ij hij] at this
    exact this
  refine ⟨.ref pa, hσ, pa, rfl, ⟨vs, SqL.of hH⟩, fun k n σ H => k + n = as.length ∧ ∃ s F2 Gs2, Asn X.K B F0 (((inv s).set i (jk d pa vs as 0)).set j any) σ H F2 Gs2 ∧ wpS X W (loopO f s (as.drop k)) B fun o => match o with
      | .nx s => NxOk X (((inv s).set i (os (lsO d) as)).set j any) D B F0
      | .rt r => RtOk X kr r D B F0
      | .bk l => BkOk X (pl l) D B F0
      | .ct l => CtOk X (pl l) D B F0, ⟨as.length, by omega, s0, F, Gs, ?_, q⟩, fun k n σ H ⟨hn, s, F2, Gs2, A2, q2⟩ => ?_⟩
  · have a1 := ((A.all.any i).any j).wk h0
    have a2 := a1.set (s := jk d pa vs as 0) (G := G) (o := some (.ref pa)) ⟨rfl, gs, hpa, hg, pw, r⟩ i
    rw [set_self hG, set_self hσ, set_ij hij] at a2
    exact ⟨A.ext, A.base, a2, A.priv, A.dj⟩
  · obtain ⟨G2, o, hG2, hσ2, e, gs2, hp2, hg2, pw2, r2⟩ := A2.all.get (get_i s _ _)
    subst e
    have hH2 := A2.sub G2 (List.mem_of_getElem? hG2) _ _ hp2
    by_cases hlt : k < as.length
    · refine .inr ?_
      have hv : k < vs.length := by omega
      rw [List.drop_eq_getElem_cons hlt] at q2
      have q2 := wpS_bind (show wpS X W ((f s as[k]).bind _) B _ from q2)
      obtain ⟨g1, g, g2, eg, ra, rk, rb⟩ := allO_split k hv hlt r2
      subst eg
      refine ⟨⟨vs, vs[k], SqL.of hH2, List.getElem?_eq_getElem hv⟩, fun σ' H' => ∃ s' F3 Gs3, Asn X.K B F0 (((inv s').set i (jk d pa vs as 0)).set j any) σ' H' F3 Gs3 ∧ wpS X W (loopO f s' (as.drop (k + 1))) B fun o => match o with
          | .nx s => NxOk X (((inv s).set i (os (lsO d) as)).set j any) D B F0
          | .rt r => RtOk X kr r D B F0
          | .bk l => BkOk X (pl l) D B F0
          | .ct l => CtOk X (pl l) D B F0, fun σ' H' ⟨s', F3, Gs3, A3, q3⟩ => ⟨n - 1, by omega, by omega, s', F3, Gs3, A3, q3⟩, fun v H' ⟨e, y⟩ => ?_⟩
      subst e
      have ev : v = vs[k] := Option.some.inj ((y vs (SqL.of hH2)).symm.trans (List.getElem?_eq_getElem hv))
      subst ev
      obtain ⟨sg, gp⟩ := hg2 g (List.mem_append_right _ List.mem_cons_self)
      obtain ⟨pg1, pg2⟩ := List.pairwise_cons.mp ((List.pairwise_middle (fun h c => (h c).symm)).mp pw2)
      have inm : ∀ g', g' ∈ g1 ++ g2 → g' ∈ g1 ++ g :: g2 := fun g' m => by
        rcases List.mem_append.mp m with m | m
        · exact List.mem_append_left _ m
        · exact List.mem_append_right _ (List.mem_cons_of_mem _ m)
      obtain ⟨A3, frs⟩ := A2.shrink (s := hold d pa vs as k) (G1 := fun c => if g c = none then G2 c else none) hG2 hσ2 (fun c u z => by
            by_cases h : g c = none
            · have z : (if g c = none then G2 c else none) = some u := z
              rw [if_pos h] at z; exact z
            · have z : (if g c = none then G2 c else none) = some u := z
              rw [if_neg h] at z; cases z) ⟨rfl, (if_pos gp).trans hp2, g1, g2, fun g' m => ⟨fun c u z => by
                have : g c = none := (pg1 g' m c).elim id fun y => by rw [y] at z; cases z
                exact (if_pos this).trans ((hg2 g' (inm g' m)).1 _ _ z), (hg2 g' (inm g' m)).2⟩, pg2, ra, rb⟩
      have frg := frs g sg fun c => by
        by_cases h : g c = none
        · exact .inl h
        · exact .inr (if_neg h)
      have A4 := A3.give frg j (s := pin g vs[k] d as[k]) (o := some vs[k]) ⟨rfl, Same.refl _, rk⟩
      rw [set_ij hij, List.set_set] at A4
      refine ⟨pa, vs, k, g, vs[k], s, as[k], B, F0, F2, _, A4, wpS_imp q2 fun o q5 => ?_⟩
      cases o with
      | nx s' =>
        intro σ' H' F' Gs' A'
        obtain ⟨Gs5, A5⟩ := back hlt hv A'
        exact ⟨s', F', Gs5, A5, q5⟩
      | ct s' =>
        intro σ' H' F' Gs' A'
        obtain ⟨Gs5, A5⟩ := back hlt hv A'
        exact ⟨s', F', Gs5, A5, q5⟩
      | bk s' =>
        intro σ' H' F' Gs' A'
        obtain ⟨Gs5, A5⟩ := back hlt hv A'
        exact q5 σ' H' F' Gs5 (endd A5)
      | rt r => exact q5
    · have e : as.drop k = [] := List.drop_eq_nil_iff.mpr (by omega)
      rw [e] at q2
      exact .inl ⟨⟨vs, SqL.of hH2, by omega⟩, q2 σ H F2 Gs2 (endd A2)⟩
/-- return (x, y), both one's own -/
theorem st_ret2O (i j : Nat) {α β : Type} [Enc α] [Enc β] {d : Ow α} {d' : Ow β} {a : α} {b : β} {ee : Bool} {x y : Str} {k : Nat} {px py tp : Pos} (hij : i ≠ j := by decide) (hs : ss[i]? = some (os d a) := by rfl) (hs' : ss[j]? = some (os d' b) := by rfl) (hp : PE X (.Name x px) (tVar i) := by exact pv _) (hp' : PE X (.Name y py) (tVar j) := by exact pv _)
    (h1 : starEach [.Name x px, .Name y py] X.env = (false, eval (.Name x px) X.env) :: starEach [.Name y py] X.env := by rfl) (h2 : starEach [.Name y py] X.env = (false, eval (.Name y py) X.env) :: starEach [] X.env := by rfl) :
    ST X W ee ss (.Return (some (.Tuple [.Name x px, .Name y py] k tp)) pos :: rest) (.ok (a, b)) (os (prO d d')) := by
  have hh : PS X (.Return (some (.Tuple [.Name x px, .Name y py] k tp)) pos) (rdX X ss fun D B F0 => wpS X W (.ok (a, b)) B fun r => RtOk X (os (prO d d')) r D B F0) := by
    refine PS_imp (ps_ret (pe_tup (pa_cons hp (pa_cons hp' pa_nil h2) h1))) fun D σ H ⟨B, F0, F, Gs, A, q⟩ => ?_
    obtain ⟨G1, v1, hG1, hσ1, r1⟩ := all3_os A.all hs
    obtain ⟨G2, v2, hG2, hσ2, r2⟩ := all3_os A.all hs'
    have m1 := List.mem_of_getElem? hG1
    have m2 := List.mem_of_getElem? hG2
    have dj := dj_of A.dj hG1 hG2 hij
    refine ⟨v1, hσ1, v2, hσ2, smallLine (by simp), fun t ht => ?_⟩
    have hF : F t = none := Same.free A.ext.sub ht
    have sF : Same F (upd F t (.tup [v1, v2])) := same_upd hF
    refine q (.ref t) _ (upd F t (.tup [v1, v2])) (join G1 G2) (A.base.trans (same_upd ht)) ⟨A.ext.le.trans sF, fun c u z => ?_, fun c u z => ?_⟩ (fun c u z => ?_) ⟨.ref t, rfl, t, v1, v2, G1, G2, rfl, upd_same, join_l, join_r (A.sub G1 m1) (A.sub G2 m2), dj, d.mF sF r1, d'.mF sF r2⟩
    · by_cases e : c = t
      · subst e; rw [upd_same] at z ⊢; exact z
      · rw [upd_ne e] at z ⊢; exact A.ext.sub _ _ z
    · by_cases e : c = t
      · subst e; rw [upd_same] at z; cases z; exact .inr (.inr rfl)
      · rw [upd_ne e] at z; exact A.ext.new _ _ z
    · have : ∃ G, G ∈ Gs ∧ G c = some u := by
        rcases join_or z with z | z
        · exact ⟨G1, m1, z⟩
        · exact ⟨G2, m2, z⟩
      obtain ⟨G, m, z⟩ := this
      obtain ⟨k1, k2, k3, k4⟩ := A.priv G m c u z
      have ne : c ≠ t := fun e => by rw [e, ht] at k1; cases k1
      exact ⟨by rw [upd_ne ne]; exact k1, k2, by rw [upd_ne ne]; exact k3, k4⟩
  exact PSs_imp (rest_free hh fun D D' σ H e1 _ _ ⟨B, F0, F, Gs, A, q⟩ => ⟨B, F0, F, Gs, A, wpS_imp q fun r q v H' F' G' a b c d => by rw [e1]; exact q v H' F' G' a b c d⟩)
    fun D σ H ⟨B, F0, F, Gs, A, _, q⟩ => ⟨B, F0, F, Gs, A, q⟩
/-! the three walks, ready to use -/
theorem s1_forPr (i j : Nat) {S α : Type} [Enc α] {d : Ow α} {ab : α × α} {x y : Str} {p py : Pos} {body : List Stmt} {f : S → α → Res S} (inv : S → List Slot) (s0 : S)
    (hb : ∀ z s a, SN X W (((inv s).set i z).set j (os d a)) body (f s a) (fun s' => (inv s').set i z)) (hN : X.N.Nodup)
    (h0 : Wk (ss.set i any) ((inv s0).set i any) := by exact Wk.refl _) (hs : ss[i]? = some (os (prO d d) ab) := by rfl) (hpx : PE X (.Name x p) (tVar i) := by exact pv _) (hl : ∀ s, Nat.blt i (inv s).length = true := by intro _; rfl)
    (hi : X.N[j]? = some y := by rfl) (hx : Loc X.env.scope y := by first | exact Or.inl rfl | exact Or.inr rfl) (hf : X.fn y = true ∨ X.env.scope.names.lookup y = some .local := by first | exact .inl rfl | exact .inr rfl)
    (hp : PassesOwn (model X.prog X.w) X.A X.env X.xe := by exact passes_of rfl) (hc : X.calm = true := by rfl) (hse : ∀ z, foldedSetIterable (.Name x p) X.env z = pure z := by intro _; rfl) :
    S1 X W ss (.For (.Name y py) (.Name x p) body [] pos) (foldR f s0 [ab.1, ab.2]) (fun s => (inv s).set i any) :=
  s1_forG i inv s0 (pi_tup hpx) (itG_pair i hs) (pg_name hN hi hx hf) (tgG_name j) hb hl h0 hp hc hse
theorem s1_forInit (i j : Nat) {S α : Type} [Enc α] {d : Ow α} {as : List α} {x y : Str} {p py p1 p2 p3 p4 : Pos} {k : Nat} {body : List Stmt} {f : S → α → Res S} (inv : S → List Slot) (s0 : S)
    (hb : ∀ z s a, SN X W (((inv s).set i z).set j (os d a)) body (f s a) (fun s' => (inv s').set i z)) (hN : X.N.Nodup)
    (h0 : Wk (ss.set i any) ((inv s0).set i any) := by exact Wk.refl _) (hs : ss[i]? = some (jp d as) := by rfl) (hpx : PE X (.Name x p) (tVar i) := by exact pv _) (hl : ∀ s, Nat.blt i (inv s).length = true := by intro _; rfl)
    (hi : X.N[j]? = some y := by rfl) (hx : Loc X.env.scope y := by first | exact Or.inl rfl | exact Or.inr rfl) (hf : X.fn y = true ∨ X.env.scope.names.lookup y = some .local := by first | exact .inl rfl | exact .inr rfl)
    (hp : PassesOwn (model X.prog X.w) X.A X.env X.xe := by exact passes_of rfl) (hc : X.calm = true := by rfl) (hse : ∀ z, foldedSetIterable (.Subscript (.Name x p) (.Slice none (some (.UnaryOp .USub (.Constant (.int 1) k p1) p2)) none p3) p4) X.env z = pure z := by intro _; rfl) :
    S1 X W ss (.For (.Name y py) (.Subscript (.Name x p) (.Slice none (some (.UnaryOp .USub (.Constant (.int 1) k p1) p2)) none p3) p4) body [] pos) (foldR f s0 as) (fun s => (inv s).set i any) :=
  s1_forG i inv s0 (pi_list (pe_slice sl_list hpx po_none (po_some (pe_un un_neg pe_int)))) (itG_init i (fun q => ⟨1, rfl, -1, rfl, q⟩) (fun q => q) hs) (pg_name hN hi hx hf) (tgG_name j) hb hl h0 hp hc hse
theorem s1_forOP (i j1 j2 : Nat) {S α β : Type} [Enc α] [Enc β] {d : Ow α} {as : List (α × β)} {x y1 y2 : Str} {p py1 py2 tp : Pos} {k : Nat} {body : List Stmt} {f : S → α × β → Res S} (inv : S → List Slot) (s0 : S)
    (hb : ∀ z s a, SN X W ((((inv s).set i z).set j1 (os d a.1)).set j2 (fr a.2)) body (f s a) (fun s' => (inv s').set i z)) (hN : X.N.Nodup)
    (h0 : Wk (ss.set i any) ((inv s0).set i any) := by exact Wk.refl _) (hs : ss[i]? = some (os (lsO (prO d fzO)) as) := by rfl) (hpx : PE X (.Name x p) (tVar i) := by exact pv _) (hl : ∀ s, Nat.blt i (inv s).length = true := by intro _; rfl)
    (hi1 : X.N[j1]? = some y1 := by rfl) (hx1 : Loc X.env.scope y1 := by first | exact Or.inl rfl | exact Or.inr rfl) (hf1 : X.fn y1 = true ∨ X.env.scope.names.lookup y1 = some .local := by first | exact .inl rfl | exact .inr rfl)
    (hi2 : X.N[j2]? = some y2 := by rfl) (hx2 : Loc X.env.scope y2 := by first | exact Or.inl rfl | exact Or.inr rfl) (hf2 : X.fn y2 = true ∨ X.env.scope.names.lookup y2 = some .local := by first | exact .inl rfl | exact .inr rfl)
    (hs1 : (assignEach [.Name y1 py1, .Name y2 py2] X.env).map (·.2) = assign (.Name y1 py1) X.env :: (assignEach [.Name y2 py2] X.env).map (·.2) := by rfl) (hs2 : (assignEach [.Name y2 py2] X.env).map (·.2) = assign (.Name y2 py2) X.env :: (assignEach [] X.env).map (·.2) := by rfl)
    (hn : (assignEach [.Name y1 py1, .Name y2 py2] X.env).length = 2 := by rfl) (hst : (assignEach [.Name y1 py1, .Name y2 py2] X.env).findIdx? (·.1) = none := by rfl)
    (hp : PassesOwn (model X.prog X.w) X.A X.env X.xe := by exact passes_of rfl) (hc : X.calm = true := by rfl) (hse : ∀ z, foldedSetIterable (.Name x p) X.env z = pure z := by intro _; rfl) :
    S1 X W ss (.For (.Tuple [.Name y1 py1, .Name y2 py2] k tp) (.Name x p) body [] pos) (foldR f s0 as) (fun s => (inv s).set i (jl as.length)) :=
  s1_forG i inv s0 (pi_list hpx) (itG_list i hs) (pg_tup hc (pgs_cons (pg_name hN hi1 hx1 hf1) (pgs_cons (pg_name hN hi2 hx2 hf2) pgs_nil hs2) hs1) hn hst) (tgG_pair j1 j2) hb hl h0 hp hc hse
end
end G

namespace G
open PySem PySem.Spec PyProof.Rows L2
/-! ### a slice of a tuple of one kind -/
section
variable {X : Cx} {W : WX} {ss : List Slot} {a : Expr} {pos : Pos}
theorem xi_sliceT {α : Type} [Enc α] {lo hi : Option Expr} {p2 : Pos} {m : Res (Tup α)} {ml mh : Res (Option Int)} (h : XI X W ss a m) (hl : XO X W ss lo ml) (hh : XO X W ss hi mh) :
    XI X W ss (.Subscript a (.Slice lo hi none p2) pos) (m.bind fun d => ml.bind fun l => mh.bind fun u => .ok (⟨cut d.l l u⟩ : Tup α)) :=
  PE_imp (pe_slice sl_tupA h hl hh) fun σ H Q ⟨sl, q⟩ => ⟨sl, wpR_imp (wpR_bind q) (Same.refl H) fun d q v H1 s1 r1 => ⟨sl.mono s1 s1, wpR_imp (wpR_bind q) s1 fun l q H2 s2 => ⟨sl.mono (s1.trans s2) (s1.trans s2), wpR_imp (wpR_bind q) (s1.trans s2) fun u q H3 s3 => by
    obtain ⟨p, vs, rfl, hp, rv⟩ := r1
    have r3 := rv.mono (s2.trans s3)
    have s13 := s1.trans (s2.trans s3)
    refine ⟨p, vs, rfl, seqT (s2.trans s3) hp, fun hw => ?_, fun _ o ho => ?_⟩
    · refine q _ _ s13 ⟨p, vs, rfl, seqT (s2.trans s3) hp, ?_⟩
      show All2 _ vs (cut d.l l u)
      rw [whole_cut (by rw [← r3.length]; exact hw)]
      exact r3
    · exact q _ _ (s13.trans (same_upd ho)) ⟨_, _, rfl, SqT.of upd_same, (cut_all2 r3 l u).mono (same_upd ho)⟩⟩⟩⟩
end
end G

namespace G
open PySem PySem.Spec PyProof.Rows L2
/-! ### never reached -/
section
variable {X : Cx} {W : WX} {ss : List Slot} {e : Expr}
theorem xi_stuck {α : Type} [Enc α] : XI X W ss e (Res.stuck : Res α) := ⟨fun pins s σ H Q I ⟨_, q⟩ => q.elim⟩
theorem xk_stuck {α : Type} {kd : α → Slot} : XK X W ss e (Res.stuck : Res α) kd := ⟨fun pins s σ H Q I ⟨_, _, _, q⟩ => q.elim⟩
theorem xt_stuck : XT X W ss e (Res.stuck : Res Bool) := ⟨fun pins s σ H Q I ⟨_, q⟩ => q.elim⟩
end
/-! ### tuples of four, of five -/
structure T4 (α β γ δ : Type) where
  a : α
  b : β
  c : γ
  d : δ
instance {α β γ δ : Type} [Enc α] [Enc β] [Enc γ] [Enc δ] : Enc (T4 α β γ δ) :=
  ⟨fun K H v x => ∃ p v1 v2 v3 v4, v = .ref p ∧ H p = some (.tup [v1, v2, v3, v4]) ∧ Enc.rep K H v1 x.a ∧ Enc.rep K H v2 x.b ∧ Enc.rep K H v3 x.c ∧ Enc.rep K H v4 x.d,
   fun s ⟨p, v1, v2, v3, v4, e, h, r1, r2, r3, r4⟩ => ⟨p, v1, v2, v3, v4, e, s _ _ h, Enc.mono s r1, Enc.mono s r2, Enc.mono s r3, Enc.mono s r4⟩⟩
instance {α β γ δ : Type} [Enc α] [Enc β] [Enc γ] [Enc δ] [Imm α] [Imm β] [Imm γ] [Imm δ] : Imm (T4 α β γ δ) :=
  ⟨fun ⟨p, v1, v2, v3, v4, e, h, r1, r2, r3, r4⟩ => ⟨p, v1, v2, v3, v4, e, tups_some h rfl, Imm.imm r1, Imm.imm r2, Imm.imm r3, Imm.imm r4⟩⟩
instance {α β γ δ : Type} [Enc α] [Enc β] [Enc γ] [Enc δ] [ToDy α] [ToDy β] [ToDy γ] [ToDy δ] : ToDy (T4 α β γ δ) := ⟨fun x => .tup [ToDy.dy x.a, ToDy.dy x.b, ToDy.dy x.c, ToDy.dy x.d], fun ⟨p, v1, v2, v3, v4, e, h, r1, r2, r3, r4⟩ => by rw [e]; exact .tup (SqT.of h) (.cons (ToDy.rep r1) (.cons (ToDy.rep r2) (.cons (ToDy.rep r3) (.cons (ToDy.rep r4) .nil))))⟩
instance {α β γ δ : Type} [Enc α] [Enc β] [Enc γ] [Enc δ] : NN (T4 α β γ δ) := ⟨fun ⟨_, _, _, _, _, e1, _⟩ e => by rw [e] at e1; cases e1⟩
instance {α β γ δ : Type} [Enc α] [Enc β] [Enc γ] [Enc δ] [Dat α] [Dat β] [Dat γ] [Dat δ] : Dat (T4 α β γ δ) where
  py := fun x => .tuple [Dat.py x.a, Dat.py x.b, Dat.py x.c, Dat.py x.d]
  dp := fun ⟨p, v1, v2, v3, v4, e, h, r1, r2, r3, r4⟩ => by rw [e]; exact .tup (SqT.of h) (.cons (Dat.dp r1) (.cons (Dat.dp r2) (.cons (Dat.dp r3) (.cons (Dat.dp r4) .nil))))
  lay := fun x => (Dat.lay x.a && (Dat.lay x.b && (Dat.lay x.c && Dat.lay x.d)))
  dep := (max (Dat.dep α) (max (Dat.dep β) (max (Dat.dep γ) (Dat.dep δ)))) + 1
  layOk := fun h => by
    simp only [Bool.and_eq_true] at h
    simp only [PyData.canLay0, PyData.canLayAll0, Bool.and_eq_true, and_true]
    exact ⟨Dat.layOk h.1, Dat.layOk h.2.1, Dat.layOk h.2.2.1, Dat.layOk h.2.2.2⟩
  depOk := fun x => by
    have h1 := Dat.depOk x.a
    have h2 := Dat.depOk x.b
    have h3 := Dat.depOk x.c
    have h4 := Dat.depOk x.d
    simp only [PyData.depth, PyData.depthAll]
    omega
instance {α β γ δ : Type} [Enc α] [Enc β] [Enc γ] [Enc δ] [Dat α] [Dat β] [Dat γ] [Dat δ] [DatEq α] [DatEq β] [DatEq γ] [DatEq δ] : DatEq (T4 α β γ δ) := ⟨fun a b => by
  show PyData.eqvAll [_, _, _, _] [_, _, _, _] = true ↔ _
  cases a; cases b
  simp [PyData.eqvAll, DatEq.iff]⟩
instance {α β γ δ : Type} [Enc α] [Enc β] [Enc γ] [Enc δ] [Dat α] [Dat β] [Dat γ] [Dat δ] [NoStr α] [NoStr β] [NoStr γ] [NoStr δ] : NoStr (T4 α β γ δ) := ⟨fun x => by show (Dat.lay _ && (Dat.lay _ && (Dat.lay _ && Dat.lay _))) = true; rw [NoStr.lay, NoStr.lay, NoStr.lay, NoStr.lay]; rfl⟩
instance {α β γ δ : Type} [Enc α] [Enc β] [Enc γ] [Enc δ] : HasTy (T4 α β γ δ) := ⟨"tuple", fun ⟨p, v1, v2, v3, v4, e, h, _⟩ => by rw [e]; exact .base (.tup h)⟩
instance {α β γ δ : Type} [Inhabited α] [Inhabited β] [Inhabited γ] [Inhabited δ] : Inhabited (T4 α β γ δ) := ⟨⟨default, default, default, default⟩⟩
instance {α β γ δ : Type} [DecidableEq α] [DecidableEq β] [DecidableEq γ] [DecidableEq δ] : DecidableEq (T4 α β γ δ) := fun x y => if h : x.a = y.a ∧ x.b = y.b ∧ x.c = y.c ∧ x.d = y.d then .isTrue (by cases x; cases y; simp only at h; obtain ⟨h0, h1, h2, h3⟩ := h; subst_vars; rfl) else .isFalse fun e => h (by subst e; exact ⟨rfl, rfl, rfl, rfl⟩)
section
variable {X : Cx} {W : WX} {ss : List Slot} {pos : Pos} {kk : Nat} {e1 e2 e3 e4 a : Expr}
theorem xi_t4d {α β γ δ : Type} [Enc α] [Enc β] [Enc γ] [Enc δ] {m : Res (α × β × γ × δ × Unit)} (h : XA X W ss [e1, e2, e3, e4] m) : XI X W ss (.Tuple [e1, e2, e3, e4] kk pos) (m.bind fun x => .ok (⟨x.1, x.2.1, x.2.2.1, x.2.2.2.1⟩ : T4 α β γ δ)) := by
  refine PE_imp (pe_tup h) fun σ H Q ⟨sl, q⟩ => ⟨sl, wpR_imp (wpR_bind q) (Same.refl H) fun x q vs H1 s1 r1 => ?_⟩
  obtain ⟨v1, q1, rfl, h1, v2, q2, rfl, h2, v3, q3, rfl, h3, v4, q4, rfl, h4, hz⟩ := r1
  have hz : q4 = [] := hz
  subst hz
  refine ⟨smallLine (by simp), fun p hp => q _ _ (s1.trans (same_upd hp)) ⟨p, v1, v2, v3, v4, rfl, upd_same, Enc.mono (same_upd hp) h1, Enc.mono (same_upd hp) h2, Enc.mono (same_upd hp) h3, Enc.mono (same_upd hp) h4⟩⟩
theorem xk_t4d {α β γ δ : Type} [Enc α] [Enc β] [Enc γ] [Enc δ] {m : Res (α × β × γ × δ × Unit)} (h : XAK X W ss [e1, e2, e3, e4] m) : XK X W ss (.Tuple [e1, e2, e3, e4] kk pos) (m.bind fun x => .ok (⟨x.1, x.2.1, x.2.2.1, x.2.2.2.1⟩ : T4 α β γ δ)) fr := by
  refine PE_imp (pe_tup h) fun σ H Q ⟨F, sf, sl, q⟩ => ⟨F, sf, sl, wpR_imp (wpR_bind q) (Same.refl H) fun x q vs H1 F1 s1 ex1 r1 => ?_⟩
  obtain ⟨v1, q1, rfl, h1, v2, q2, rfl, h2, v3, q3, rfl, h3, v4, q4, rfl, h4, hz⟩ := r1
  have hz : q4 = [] := hz
  subst hz
  refine ⟨smallLine (by simp), fun p hp => ?_⟩
  have hF : F1 p = none := Same.free ex1.sub hp
  have sF := same_upd (o := HO.tup [v1, v2, v3, v4]) hF
  refine q _ _ (upd F1 p (.tup [v1, v2, v3, v4])) noHp (s1.trans (same_upd hp)) ⟨ex1.le.trans sF, fun b u z => ?_, fun b u z => ?_⟩ priv_no ⟨_, rfl, p, v1, v2, v3, v4, rfl, upd_same, Enc.mono sF h1, Enc.mono sF h2, Enc.mono sF h3, Enc.mono sF h4⟩
  · by_cases e : b = p
    · subst e; rw [upd_same] at z ⊢; exact z
    · rw [upd_ne e] at z ⊢; exact ex1.sub _ _ z
  · by_cases e : b = p
    · subst e; exact .inr (.inl (Same.free s1 hp))
    · rw [upd_ne e] at z; exact ex1.new _ _ z
theorem xi_t4_1 {α β γ δ : Type} [Enc α] [Enc β] [Enc γ] [Enc δ] {m : Res (T4 α β γ δ)} {k : Nat} {p : Pos} (h : XI X W ss a m) : XI X W ss (.Subscript a (.Constant (.int 0) k p) pos) (m.bind fun x => .ok x.a) :=
  xi_c h fun x v H ⟨p, v1, v2, v3, v4, e, hp, r1, r2, r3, r4⟩ => ⟨p, _, v1, e, SqT.of hp, rfl, r1⟩
theorem xk_t4_1 {α β γ δ : Type} [Enc α] [Enc β] [Enc γ] [Enc δ] {m : Res (T4 α β γ δ)} {k : Nat} {p : Pos} (h : XK X W ss a m fr) : XK X W ss (.Subscript a (.Constant (.int 0) k p) pos) (m.bind fun x => .ok x.a) fr :=
  xk_c h fun _ _ _ ⟨p, v1, v2, v3, v4, e, hp, r1, r2, r3, r4⟩ => ⟨p, [v1, v2, v3, v4], v1, e, SqT.of hp, rfl, r1⟩
theorem xi_t4_2 {α β γ δ : Type} [Enc α] [Enc β] [Enc γ] [Enc δ] {m : Res (T4 α β γ δ)} {k : Nat} {p : Pos} (h : XI X W ss a m) : XI X W ss (.Subscript a (.Constant (.int 1) k p) pos) (m.bind fun x => .ok x.b) :=
  xi_c h fun x v H ⟨p, v1, v2, v3, v4, e, hp, r1, r2, r3, r4⟩ => ⟨p, _, v2, e, SqT.of hp, rfl, r2⟩
theorem xk_t4_2 {α β γ δ : Type} [Enc α] [Enc β] [Enc γ] [Enc δ] {m : Res (T4 α β γ δ)} {k : Nat} {p : Pos} (h : XK X W ss a m fr) : XK X W ss (.Subscript a (.Constant (.int 1) k p) pos) (m.bind fun x => .ok x.b) fr :=
  xk_c h fun _ _ _ ⟨p, v1, v2, v3, v4, e, hp, r1, r2, r3, r4⟩ => ⟨p, [v1, v2, v3, v4], v2, e, SqT.of hp, rfl, r2⟩
theorem xi_t4_3 {α β γ δ : Type} [Enc α] [Enc β] [Enc γ] [Enc δ] {m : Res (T4 α β γ δ)} {k : Nat} {p : Pos} (h : XI X W ss a m) : XI X W ss (.Subscript a (.Constant (.int 2) k p) pos) (m.bind fun x => .ok x.c) :=
  xi_c h fun x v H ⟨p, v1, v2, v3, v4, e, hp, r1, r2, r3, r4⟩ => ⟨p, _, v3, e, SqT.of hp, rfl, r3⟩
theorem xk_t4_3 {α β γ δ : Type} [Enc α] [Enc β] [Enc γ] [Enc δ] {m : Res (T4 α β γ δ)} {k : Nat} {p : Pos} (h : XK X W ss a m fr) : XK X W ss (.Subscript a (.Constant (.int 2) k p) pos) (m.bind fun x => .ok x.c) fr :=
  xk_c h fun _ _ _ ⟨p, v1, v2, v3, v4, e, hp, r1, r2, r3, r4⟩ => ⟨p, [v1, v2, v3, v4], v3, e, SqT.of hp, rfl, r3⟩
theorem xi_t4_4 {α β γ δ : Type} [Enc α] [Enc β] [Enc γ] [Enc δ] {m : Res (T4 α β γ δ)} {k : Nat} {p : Pos} (h : XI X W ss a m) : XI X W ss (.Subscript a (.Constant (.int 3) k p) pos) (m.bind fun x => .ok x.d) :=
  xi_c h fun x v H ⟨p, v1, v2, v3, v4, e, hp, r1, r2, r3, r4⟩ => ⟨p, _, v4, e, SqT.of hp, rfl, r4⟩
theorem xk_t4_4 {α β γ δ : Type} [Enc α] [Enc β] [Enc γ] [Enc δ] {m : Res (T4 α β γ δ)} {k : Nat} {p : Pos} (h : XK X W ss a m fr) : XK X W ss (.Subscript a (.Constant (.int 3) k p) pos) (m.bind fun x => .ok x.d) fr :=
  xk_c h fun _ _ _ ⟨p, v1, v2, v3, v4, e, hp, r1, r2, r3, r4⟩ => ⟨p, [v1, v2, v3, v4], v4, e, SqT.of hp, rfl, r4⟩
theorem tg_four {α β γ δ : Type} [Enc α] [Enc β] [Enc γ] [Enc δ] {t1 t2 t3 t4 : Expr} {k : Nat} {u1 : α → List Slot → List Slot} {u2 : β → List Slot → List Slot} {u3 : γ → List Slot → List Slot} {u4 : δ → List Slot → List Slot} (h1 : Tg X t1 u1) (h2 : Tg X t2 u2) (h3 : Tg X t3 u3) (h4 : Tg X t4 u4) (hc : X.calm = true := by rfl)
    (hs1 : (assignEach [t1, t2, t3, t4] X.env).map (·.2) = assign t1 X.env :: (assignEach [t2, t3, t4] X.env).map (·.2) := by rfl)
    (hs2 : (assignEach [t2, t3, t4] X.env).map (·.2) = assign t2 X.env :: (assignEach [t3, t4] X.env).map (·.2) := by rfl)
    (hs3 : (assignEach [t3, t4] X.env).map (·.2) = assign t3 X.env :: (assignEach [t4] X.env).map (·.2) := by rfl)
    (hs4 : (assignEach [t4] X.env).map (·.2) = assign t4 X.env :: (assignEach [] X.env).map (·.2) := by rfl)
    (hn : (assignEach [t1, t2, t3, t4] X.env).length = 4 := by rfl) (hst : (assignEach [t1, t2, t3, t4] X.env).findIdx? (·.1) = none := by rfl) :
    Tg X (.Tuple [t1, t2, t3, t4] k pos) (fun (x : T4 α β γ δ) ss => u4 x.d (u3 x.c (u2 x.b (u1 x.a ss)))) := by
  obtain ⟨g1, p1, q1⟩ := h1
  obtain ⟨g2, p2, q2⟩ := h2
  obtain ⟨g3, p3, q3⟩ := h3
  obtain ⟨g4, p4, q4⟩ := h4
  refine ⟨_, pg_tup hc (pgs_cons p1 (pgs_cons p2 (pgs_cons p3 (pgs_cons p4 pgs_nil hs4) hs3) hs2) hs1) hn hst, fun a v B F0 F H Gs ss σ Q A r q => ?_⟩
  obtain ⟨p, v1, v2, v3, v4, rfl, hp, r1, r2, r3, r4⟩ := r
  refine ⟨p, [v1, v2, v3, v4], rfl, SqT.of (A.ext.sub _ _ hp), rfl, v1, [v2, v3, v4], rfl, q1 _ _ _ _ _ _ _ _ _ _ A r1 fun σ1 Gs1 A1 => ⟨v2, [v3, v4], rfl, q2 _ _ _ _ _ _ _ _ _ _ A1 r2 fun σ2 Gs2 A2 => ⟨v3, [v4], rfl, q3 _ _ _ _ _ _ _ _ _ _ A2 r3 fun σ3 Gs3 A3 => ⟨v4, [], rfl, q4 _ _ _ _ _ _ _ _ _ _ A3 r4 fun σ4 Gs4 A4 => ⟨rfl, q σ4 Gs4 A4⟩⟩⟩⟩⟩
theorem tc_four {α β γ δ : Type} [Enc α] [Enc β] [Enc γ] [Enc δ] {t1 t2 t3 t4 : Expr} {k : Nat} {scope : Scope} {vs : List Nat} {u1 : α → List Slot → List Slot} {u2 : β → List Slot → List Slot} {u3 : γ → List Slot → List Slot} {u4 : δ → List Slot → List Slot} (h1 : TgC X scope vs t1 u1) (h2 : TgC X scope vs t2 u2) (h3 : TgC X scope vs t3 u3) (h4 : TgC X scope vs t4 u4) (hc : X.calm = true := by rfl)
    (hs1 : ∀ env, (assignEach [t1, t2, t3, t4] env).map (·.2) = assign t1 env :: (assignEach [t2, t3, t4] env).map (·.2) := by intro _; rfl)
    (hs2 : ∀ env, (assignEach [t2, t3, t4] env).map (·.2) = assign t2 env :: (assignEach [t3, t4] env).map (·.2) := by intro _; rfl)
    (hs3 : ∀ env, (assignEach [t3, t4] env).map (·.2) = assign t3 env :: (assignEach [t4] env).map (·.2) := by intro _; rfl)
    (hs4 : ∀ env, (assignEach [t4] env).map (·.2) = assign t4 env :: (assignEach [] env).map (·.2) := by intro _; rfl)
    (hn : ∀ env, (assignEach [t1, t2, t3, t4] env).length = 4 := by intro _; rfl) (hst : ∀ env, (assignEach [t1, t2, t3, t4] env).findIdx? (·.1) = none := by intro _; rfl) :
    TgC X scope vs (.Tuple [t1, t2, t3, t4] k pos) (fun (x : T4 α β γ δ) ss => u4 x.d (u3 x.c (u2 x.b (u1 x.a ss)))) := by
  obtain ⟨g1, p1, q1⟩ := h1
  obtain ⟨g2, p2, q2⟩ := h2
  obtain ⟨g3, p3, q3⟩ := h3
  obtain ⟨g4, p4, q4⟩ := h4
  refine ⟨gTup X.K 4 (gCons g1 (gCons g2 (gCons g3 (gCons g4 gNil)))), fun s H C cl fp => pg_tup (X := X.blk s H scope (compEnvC scope cl C X.env) fp) hc (pgs_cons (p1 s H C cl fp) (pgs_cons (p2 s H C cl fp) (pgs_cons (p3 s H C cl fp) (pgs_cons (p4 s H C cl fp) pgs_nil (hs4 _)) (hs3 _)) (hs2 _)) (hs1 _)) (hn _) (hst _), fun a v F H ss σ Q A sf r q => ?_⟩
  obtain ⟨p, v1, v2, v3, v4, rfl, hp, r1, r2, r3, r4⟩ := r
  refine ⟨p, [v1, v2, v3, v4], rfl, SqT.of (sf _ _ hp), rfl, v1, [v2, v3, v4], rfl, q1 _ _ _ _ _ _ _ A sf r1 fun σ1 A1 e1 => ⟨v2, [v3, v4], rfl, q2 _ _ _ _ _ _ _ A1 sf r2 fun σ2 A2 e2 => ⟨v3, [v4], rfl, q3 _ _ _ _ _ _ _ A2 sf r3 fun σ3 A3 e3 => ⟨v4, [], rfl, q4 _ _ _ _ _ _ _ A3 sf r4 fun σ4 A4 e4 => ⟨rfl, q σ4 A4 (e4.trans (e3.trans (e2.trans e1)))⟩⟩⟩⟩⟩
end
structure T5 (α β γ δ ε : Type) where
  a : α
  b : β
  c : γ
  d : δ
  e : ε
instance {α β γ δ ε : Type} [Enc α] [Enc β] [Enc γ] [Enc δ] [Enc ε] : Enc (T5 α β γ δ ε) :=
  ⟨fun K H v x => ∃ p v1 v2 v3 v4 v5, v = .ref p ∧ H p = some (.tup [v1, v2, v3, v4, v5]) ∧ Enc.rep K H v1 x.a ∧ Enc.rep K H v2 x.b ∧ Enc.rep K H v3 x.c ∧ Enc.rep K H v4 x.d ∧ Enc.rep K H v5 x.e,
   fun s ⟨p, v1, v2, v3, v4, v5, e, h, r1, r2, r3, r4, r5⟩ => ⟨p, v1, v2, v3, v4, v5, e, s _ _ h, Enc.mono s r1, Enc.mono s r2, Enc.mono s r3, Enc.mono s r4, Enc.mono s r5⟩⟩
instance {α β γ δ ε : Type} [Enc α] [Enc β] [Enc γ] [Enc δ] [Enc ε] [Imm α] [Imm β] [Imm γ] [Imm δ] [Imm ε] : Imm (T5 α β γ δ ε) :=
  ⟨fun ⟨p, v1, v2, v3, v4, v5, e, h, r1, r2, r3, r4, r5⟩ => ⟨p, v1, v2, v3, v4, v5, e, tups_some h rfl, Imm.imm r1, Imm.imm r2, Imm.imm r3, Imm.imm r4, Imm.imm r5⟩⟩
instance {α β γ δ ε : Type} [Enc α] [Enc β] [Enc γ] [Enc δ] [Enc ε] [ToDy α] [ToDy β] [ToDy γ] [ToDy δ] [ToDy ε] : ToDy (T5 α β γ δ ε) := ⟨fun x => .tup [ToDy.dy x.a, ToDy.dy x.b, ToDy.dy x.c, ToDy.dy x.d, ToDy.dy x.e], fun ⟨p, v1, v2, v3, v4, v5, e, h, r1, r2, r3, r4, r5⟩ => by rw [e]; exact .tup (SqT.of h) (.cons (ToDy.rep r1) (.cons (ToDy.rep r2) (.cons (ToDy.rep r3) (.cons (ToDy.rep r4) (.cons (ToDy.rep r5) .nil)))))⟩
instance {α β γ δ ε : Type} [Enc α] [Enc β] [Enc γ] [Enc δ] [Enc ε] : NN (T5 α β γ δ ε) := ⟨fun ⟨_, _, _, _, _, _, e1, _⟩ e => by rw [e] at e1; cases e1⟩
instance {α β γ δ ε : Type} [Enc α] [Enc β] [Enc γ] [Enc δ] [Enc ε] [Dat α] [Dat β] [Dat γ] [Dat δ] [Dat ε] : Dat (T5 α β γ δ ε) where
  py := fun x => .tuple [Dat.py x.a, Dat.py x.b, Dat.py x.c, Dat.py x.d, Dat.py x.e]
  dp := fun ⟨p, v1, v2, v3, v4, v5, e, h, r1, r2, r3, r4, r5⟩ => by rw [e]; exact .tup (SqT.of h) (.cons (Dat.dp r1) (.cons (Dat.dp r2) (.cons (Dat.dp r3) (.cons (Dat.dp r4) (.cons (Dat.dp r5) .nil)))))
  lay := fun x => (Dat.lay x.a && (Dat.lay x.b && (Dat.lay x.c && (Dat.lay x.d && Dat.lay x.e))))
  dep := (max (Dat.dep α) (max (Dat.dep β) (max (Dat.dep γ) (max (Dat.dep δ) (Dat.dep ε))))) + 1
  layOk := fun h => by
    simp only [Bool.and_eq_true] at h
    simp only [PyData.canLay0, PyData.canLayAll0, Bool.and_eq_true, and_true]
    exact ⟨Dat.layOk h.1, Dat.layOk h.2.1, Dat.layOk h.2.2.1, Dat.layOk h.2.2.2.1, Dat.layOk h.2.2.2.2⟩
  depOk := fun x => by
    have h1 := Dat.depOk x.a
    have h2 := Dat.depOk x.b
    have h3 := Dat.depOk x.c
    have h4 := Dat.depOk x.d
    have h5 := Dat.depOk x.e
    simp only [PyData.depth, PyData.depthAll]
    omega
instance {α β γ δ ε : Type} [Enc α] [Enc β] [Enc γ] [Enc δ] [Enc ε] [Dat α] [Dat β] [Dat γ] [Dat δ] [Dat ε] [DatEq α] [DatEq β] [DatEq γ] [DatEq δ] [DatEq ε] : DatEq (T5 α β γ δ ε) := ⟨fun a b => by
  show PyData.eqvAll [_, _, _, _, _] [_, _, _, _, _] = true ↔ _
  cases a; cases b
  simp [PyData.eqvAll, DatEq.iff]⟩
instance {α β γ δ ε : Type} [Enc α] [Enc β] [Enc γ] [Enc δ] [Enc ε] [Dat α] [Dat β] [Dat γ] [Dat δ] [Dat ε] [NoStr α] [NoStr β] [NoStr γ] [NoStr δ] [NoStr ε] : NoStr (T5 α β γ δ ε) := ⟨fun x => by show (Dat.lay _ && (Dat.lay _ && (Dat.lay _ && (Dat.lay _ && Dat.lay _)))) = true; rw [NoStr.lay, NoStr.lay, NoStr.lay, NoStr.lay, NoStr.lay]; rfl⟩
instance {α β γ δ ε : Type} [Enc α] [Enc β] [Enc γ] [Enc δ] [Enc ε] : HasTy (T5 α β γ δ ε) := ⟨"tuple", fun ⟨p, v1, v2, v3, v4, v5, e, h, _⟩ => by rw [e]; exact .base (.tup h)⟩
instance {α β γ δ ε : Type} [Inhabited α] [Inhabited β] [Inhabited γ] [Inhabited δ] [Inhabited ε] : Inhabited (T5 α β γ δ ε) := ⟨⟨default, default, default, default, default⟩⟩
instance {α β γ δ ε : Type} [DecidableEq α] [DecidableEq β] [DecidableEq γ] [DecidableEq δ] [DecidableEq ε] : DecidableEq (T5 α β γ δ ε) := fun x y => if h : x.a = y.a ∧ x.b = y.b ∧ x.c = y.c ∧ x.d = y.d ∧ x.e = y.e then .isTrue (by cases x; cases y; simp only at h; obtain ⟨h0, h1, h2, h3, h4⟩ := h; subst_vars; rfl) else .isFalse fun e => h (by subst e; exact ⟨rfl, rfl, rfl, rfl, rfl⟩)
section
variable {X : Cx} {W : WX} {ss : List Slot} {pos : Pos} {kk : Nat} {e1 e2 e3 e4 e5 a : Expr}
theorem xi_t5d {α β γ δ ε : Type} [Enc α] [Enc β] [Enc γ] [Enc δ] [Enc ε] {m : Res (α × β × γ × δ × ε × Unit)} (h : XA X W ss [e1, e2, e3, e4, e5] m) : XI X W ss (.Tuple [e1, e2, e3, e4, e5] kk pos) (m.bind fun x => .ok (⟨x.1, x.2.1, x.2.2.1, x.2.2.2.1, x.2.2.2.2.1⟩ : T5 α β γ δ ε)) := by
  refine PE_imp (pe_tup h) fun σ H Q ⟨sl, q⟩ => ⟨sl, wpR_imp (wpR_bind q) (Same.refl H) fun x q vs H1 s1 r1 => ?_⟩
  obtain ⟨v1, q1, rfl, h1, v2, q2, rfl, h2, v3, q3, rfl, h3, v4, q4, rfl, h4, v5, q5, rfl, h5, hz⟩ := r1
  have hz : q5 = [] := hz
  subst hz
  refine ⟨smallLine (by simp), fun p hp => q _ _ (s1.trans (same_upd hp)) ⟨p, v1, v2, v3, v4, v5, rfl, upd_same, Enc.mono (same_upd hp) h1, Enc.mono (same_upd hp) h2, Enc.mono (same_upd hp) h3, Enc.mono (same_upd hp) h4, Enc.mono (same_upd hp) h5⟩⟩
theorem xk_t5d {α β γ δ ε : Type} [Enc α] [Enc β] [Enc γ] [Enc δ] [Enc ε] {m : Res (α × β × γ × δ × ε × Unit)} (h : XAK X W ss [e1, e2, e3, e4, e5] m) : XK X W ss (.Tuple [e1, e2, e3, e4, e5] kk pos) (m.bind fun x => .ok (⟨x.1, x.2.1, x.2.2.1, x.2.2.2.1, x.2.2.2.2.1⟩ : T5 α β γ δ ε)) fr := by
  refine PE_imp (pe_tup h) fun σ H Q ⟨F, sf, sl, q⟩ => ⟨F, sf, sl, wpR_imp (wpR_bind q) (Same.refl H) fun x q vs H1 F1 s1 ex1 r1 => ?_⟩
  obtain ⟨v1, q1, rfl, h1, v2, q2, rfl, h2, v3, q3, rfl, h3, v4, q4, rfl, h4, v5, q5, rfl, h5, hz⟩ := r1
  have hz : q5 = [] := hz
  subst hz
  refine ⟨smallLine (by simp), fun p hp => ?_⟩
  have hF : F1 p = none := Same.free ex1.sub hp
  have sF := same_upd (o := HO.tup [v1, v2, v3, v4, v5]) hF
  refine q _ _ (upd F1 p (.tup [v1, v2, v3, v4, v5])) noHp (s1.trans (same_upd hp)) ⟨ex1.le.trans sF, fun b u z => ?_, fun b u z => ?_⟩ priv_no ⟨_, rfl, p, v1, v2, v3, v4, v5, rfl, upd_same, Enc.mono sF h1, Enc.mono sF h2, Enc.mono sF h3, Enc.mono sF h4, Enc.mono sF h5⟩
  · by_cases e : b = p
    · subst e; rw [upd_same] at z ⊢; exact z
    · rw [upd_ne e] at z ⊢; exact ex1.sub _ _ z
  · by_cases e : b = p
    · subst e; exact .inr (.inl (Same.free s1 hp))
    · rw [upd_ne e] at z; exact ex1.new _ _ z
theorem xi_t5_1 {α β γ δ ε : Type} [Enc α] [Enc β] [Enc γ] [Enc δ] [Enc ε] {m : Res (T5 α β γ δ ε)} {k : Nat} {p : Pos} (h : XI X W ss a m) : XI X W ss (.Subscript a (.Constant (.int 0) k p) pos) (m.bind fun x => .ok x.a) :=
  xi_c h fun x v H ⟨p, v1, v2, v3, v4, v5, e, hp, r1, r2, r3, r4, r5⟩ => ⟨p, _, v1, e, SqT.of hp, rfl, r1⟩
theorem xk_t5_1 {α β γ δ ε : Type} [Enc α] [Enc β] [Enc γ] [Enc δ] [Enc ε] {m : Res (T5 α β γ δ ε)} {k : Nat} {p : Pos} (h : XK X W ss a m fr) : XK X W ss (.Subscript a (.Constant (.int 0) k p) pos) (m.bind fun x => .ok x.a) fr :=
  xk_c h fun _ _ _ ⟨p, v1, v2, v3, v4, v5, e, hp, r1, r2, r3, r4, r5⟩ => ⟨p, [v1, v2, v3, v4, v5], v1, e, SqT.of hp, rfl, r1⟩
theorem xi_t5_2 {α β γ δ ε : Type} [Enc α] [Enc β] [Enc γ] [Enc δ] [Enc ε] {m : Res (T5 α β γ δ ε)} {k : Nat} {p : Pos} (h : XI X W ss a m) : XI X W ss (.Subscript a (.Constant (.int 1) k p) pos) (m.bind fun x => .ok x.b) :=
  xi_c h fun x v H ⟨p, v1, v2, v3, v4, v5, e, hp, r1, r2, r3, r4, r5⟩ => ⟨p, _, v2, e, SqT.of hp, rfl, r2⟩
theorem xk_t5_2 {α β γ δ ε : Type} [Enc α] [Enc β] [Enc γ] [Enc δ] [Enc ε] {m : Res (T5 α β γ δ ε)} {k : Nat} {p : Pos} (h : XK X W ss a m fr) : XK X W ss (.Subscript a (.Constant (.int 1) k p) pos) (m.bind fun x => .ok x.b) fr :=
  xk_c h fun _ _ _ ⟨p, v1, v2, v3, v4, v5, e, hp, r1, r2, r3, r4, r5⟩ => ⟨p, [v1, v2, v3, v4, v5], v2, e, SqT.of hp, rfl, r2⟩
theorem xi_t5_3 {α β γ δ ε : Type} [Enc α] [Enc β] [Enc γ] [Enc δ] [Enc ε] {m : Res (T5 α β γ δ ε)} {k : Nat} {p : Pos} (h : XI X W ss a m) : XI X W ss (.Subscript a (.Constant (.int 2) k p) pos) (m.bind fun x => .ok x.c) :=
  xi_c h fun x v H ⟨p, v1, v2, v3, v4, v5, e, hp, r1, r2, r3, r4, r5⟩ => ⟨p, _, v3, e, SqT.of hp, rfl, r3⟩
theorem xk_t5_3 {α β γ δ ε : Type} [Enc α] [Enc β] [Enc γ] [Enc δ] [Enc ε] {m : Res (T5 α β γ δ ε)} {k : Nat} {p : Pos} (h : XK X W ss a m fr) : XK X W ss (.Subscript a (.Constant (.int 2) k p) pos) (m.bind fun x => .ok x.c) fr :=
  xk_c h fun _ _ _ ⟨p, v1, v2, v3, v4, v5, e, hp, r1, r2, r3, r4, r5⟩ => ⟨p, [v1, v2, v3, v4, v5], v3, e, SqT.of hp, rfl, r3⟩
theorem xi_t5_4 {α β γ δ ε : Type} [Enc α] [Enc β] [Enc γ] [Enc δ] [Enc ε] {m : Res (T5 α β γ δ ε)} {k : Nat} {p : Pos} (h : XI X W ss a m) : XI X W ss (.Subscript a (.Constant (.int 3) k p) pos) (m.bind fun x => .ok x.d) :=
  xi_c h fun x v H ⟨p, v1, v2, v3, v4, v5, e, hp, r1, r2, r3, r4, r5⟩ => ⟨p, _, v4, e, SqT.of hp, rfl, r4⟩
theorem xk_t5_4 {α β γ δ ε : Type} [Enc α] [Enc β] [Enc γ] [Enc δ] [Enc ε] {m : Res (T5 α β γ δ ε)} {k : Nat} {p : Pos} (h : XK X W ss a m fr) : XK X W ss (.Subscript a (.Constant (.int 3) k p) pos) (m.bind fun x => .ok x.d) fr :=
  xk_c h fun _ _ _ ⟨p, v1, v2, v3, v4, v5, e, hp, r1, r2, r3, r4, r5⟩ => ⟨p, [v1, v2, v3, v4, v5], v4, e, SqT.of hp, rfl, r4⟩
theorem xi_t5_5 {α β γ δ ε : Type} [Enc α] [Enc β] [Enc γ] [Enc δ] [Enc ε] {m : Res (T5 α β γ δ ε)} {k : Nat} {p : Pos} (h : XI X W ss a m) : XI X W ss (.Subscript a (.Constant (.int 4) k p) pos) (m.bind fun x => .ok x.e) :=
  xi_c h fun x v H ⟨p, v1, v2, v3, v4, v5, e, hp, r1, r2, r3, r4, r5⟩ => ⟨p, _, v5, e, SqT.of hp, rfl, r5⟩
theorem xk_t5_5 {α β γ δ ε : Type} [Enc α] [Enc β] [Enc γ] [Enc δ] [Enc ε] {m : Res (T5 α β γ δ ε)} {k : Nat} {p : Pos} (h : XK X W ss a m fr) : XK X W ss (.Subscript a (.Constant (.int 4) k p) pos) (m.bind fun x => .ok x.e) fr :=
  xk_c h fun _ _ _ ⟨p, v1, v2, v3, v4, v5, e, hp, r1, r2, r3, r4, r5⟩ => ⟨p, [v1, v2, v3, v4, v5], v5, e, SqT.of hp, rfl, r5⟩
theorem tg_five {α β γ δ ε : Type} [Enc α] [Enc β] [Enc γ] [Enc δ] [Enc ε] {t1 t2 t3 t4 t5 : Expr} {k : Nat} {u1 : α → List Slot → List Slot} {u2 : β → List Slot → List Slot} {u3 : γ → List Slot → List Slot} {u4 : δ → List Slot → List Slot} {u5 : ε → List Slot → List Slot} (h1 : Tg X t1 u1) (h2 : Tg X t2 u2) (h3 : Tg X t3 u3) (h4 : Tg X t4 u4) (h5 : Tg X t5 u5) (hc : X.calm = true := by rfl)
    (hs1 : (assignEach [t1, t2, t3, t4, t5] X.env).map (·.2) = assign t1 X.env :: (assignEach [t2, t3, t4, t5] X.env).map (·.2) := by rfl)
    (hs2 : (assignEach [t2, t3, t4, t5] X.env).map (·.2) = assign t2 X.env :: (assignEach [t3, t4, t5] X.env).map (·.2) := by rfl)
    (hs3 : (assignEach [t3, t4, t5] X.env).map (·.2) = assign t3 X.env :: (assignEach [t4, t5] X.env).map (·.2) := by rfl)
    (hs4 : (assignEach [t4, t5] X.env).map (·.2) = assign t4 X.env :: (assignEach [t5] X.env).map (·.2) := by rfl)
    (hs5 : (assignEach [t5] X.env).map (·.2) = assign t5 X.env :: (assignEach [] X.env).map (·.2) := by rfl)
    (hn : (assignEach [t1, t2, t3, t4, t5] X.env).length = 5 := by rfl) (hst : (assignEach [t1, t2, t3, t4, t5] X.env).findIdx? (·.1) = none := by rfl) :
    Tg X (.Tuple [t1, t2, t3, t4, t5] k pos) (fun (x : T5 α β γ δ ε) ss => u5 x.e (u4 x.d (u3 x.c (u2 x.b (u1 x.a ss))))) := by
  obtain ⟨g1, p1, q1⟩ := h1
  obtain ⟨g2, p2, q2⟩ := h2
  obtain ⟨g3, p3, q3⟩ := h3
  obtain ⟨g4, p4, q4⟩ := h4
  obtain ⟨g5, p5, q5⟩ := h5
  refine ⟨_, pg_tup hc (pgs_cons p1 (pgs_cons p2 (pgs_cons p3 (pgs_cons p4 (pgs_cons p5 pgs_nil hs5) hs4) hs3) hs2) hs1) hn hst, fun a v B F0 F H Gs ss σ Q A r q => ?_⟩
  obtain ⟨p, v1, v2, v3, v4, v5, rfl, hp, r1, r2, r3, r4, r5⟩ := r
  refine ⟨p, [v1, v2, v3, v4, v5], rfl, SqT.of (A.ext.sub _ _ hp), rfl, v1, [v2, v3, v4, v5], rfl, q1 _ _ _ _ _ _ _ _ _ _ A r1 fun σ1 Gs1 A1 => ⟨v2, [v3, v4, v5], rfl, q2 _ _ _ _ _ _ _ _ _ _ A1 r2 fun σ2 Gs2 A2 => ⟨v3, [v4, v5], rfl, q3 _ _ _ _ _ _ _ _ _ _ A2 r3 fun σ3 Gs3 A3 => ⟨v4, [v5], rfl, q4 _ _ _ _ _ _ _ _ _ _ A3 r4 fun σ4 Gs4 A4 => ⟨v5, [], rfl, q5 _ _ _ _ _ _ _ _ _ _ A4 r5 fun σ5 Gs5 A5 => ⟨rfl, q σ5 Gs5 A5⟩⟩⟩⟩⟩⟩
theorem tc_five {α β γ δ ε : Type} [Enc α] [Enc β] [Enc γ] [Enc δ] [Enc ε] {t1 t2 t3 t4 t5 : Expr} {k : Nat} {scope : Scope} {vs : List Nat} {u1 : α → List Slot → List Slot} {u2 : β → List Slot → List Slot} {u3 : γ → List Slot → List Slot} {u4 : δ → List Slot → List Slot} {u5 : ε → List Slot → List Slot} (h1 : TgC X scope vs t1 u1) (h2 : TgC X scope vs t2 u2) (h3 : TgC X scope vs t3 u3) (h4 : TgC X scope vs t4 u4) (h5 : TgC X scope vs t5 u5) (hc : X.calm = true := by rfl)
    (hs1 : ∀ env, (assignEach [t1, t2, t3, t4, t5] env).map (·.2) = assign t1 env :: (assignEach [t2, t3, t4, t5] env).map (·.2) := by intro _; rfl)
    (hs2 : ∀ env, (assignEach [t2, t3, t4, t5] env).map (·.2) = assign t2 env :: (assignEach [t3, t4, t5] env).map (·.2) := by intro _; rfl)
    (hs3 : ∀ env, (assignEach [t3, t4, t5] env).map (·.2) = assign t3 env :: (assignEach [t4, t5] env).map (·.2) := by intro _; rfl)
    (hs4 : ∀ env, (assignEach [t4, t5] env).map (·.2) = assign t4 env :: (assignEach [t5] env).map (·.2) := by intro _; rfl)
    (hs5 : ∀ env, (assignEach [t5] env).map (·.2) = assign t5 env :: (assignEach [] env).map (·.2) := by intro _; rfl)
    (hn : ∀ env, (assignEach [t1, t2, t3, t4, t5] env).length = 5 := by intro _; rfl) (hst : ∀ env, (assignEach [t1, t2, t3, t4, t5] env).findIdx? (·.1) = none := by intro _; rfl) :
    TgC X scope vs (.Tuple [t1, t2, t3, t4, t5] k pos) (fun (x : T5 α β γ δ ε) ss => u5 x.e (u4 x.d (u3 x.c (u2 x.b (u1 x.a ss))))) := by
  obtain ⟨g1, p1, q1⟩ := h1
  obtain ⟨g2, p2, q2⟩ := h2
  obtain ⟨g3, p3, q3⟩ := h3
  obtain ⟨g4, p4, q4⟩ := h4
  obtain ⟨g5, p5, q5⟩ := h5
  refine ⟨gTup X.K 5 (gCons g1 (gCons g2 (gCons g3 (gCons g4 (gCons g5 gNil))))), fun s H C cl fp => pg_tup (X := X.blk s H scope (compEnvC scope cl C X.env) fp) hc (pgs_cons (p1 s H C cl fp) (pgs_cons (p2 s H C cl fp) (pgs_cons (p3 s H C cl fp) (pgs_cons (p4 s H C cl fp) (pgs_cons (p5 s H C cl fp) pgs_nil (hs5 _)) (hs4 _)) (hs3 _)) (hs2 _)) (hs1 _)) (hn _) (hst _), fun a v F H ss σ Q A sf r q => ?_⟩
  obtain ⟨p, v1, v2, v3, v4, v5, rfl, hp, r1, r2, r3, r4, r5⟩ := r
  refine ⟨p, [v1, v2, v3, v4, v5], rfl, SqT.of (sf _ _ hp), rfl, v1, [v2, v3, v4, v5], rfl, q1 _ _ _ _ _ _ _ A sf r1 fun σ1 A1 e1 => ⟨v2, [v3, v4, v5], rfl, q2 _ _ _ _ _ _ _ A1 sf r2 fun σ2 A2 e2 => ⟨v3, [v4, v5], rfl, q3 _ _ _ _ _ _ _ A2 sf r3 fun σ3 A3 e3 => ⟨v4, [v5], rfl, q4 _ _ _ _ _ _ _ A3 sf r4 fun σ4 A4 e4 => ⟨v5, [], rfl, q5 _ _ _ _ _ _ _ A4 sf r5 fun σ5 A5 e5 => ⟨rfl, q σ5 A5 (e5.trans (e4.trans (e3.trans (e2.trans e1))))⟩⟩⟩⟩⟩⟩
end
end G

namespace G
open PySem PySem.Spec PyProof.Rows L2
/-! ### a keyword for the last parameter -/
structure CalK (P : Program) (w : World) (K : Frag) (mg : Str → Option Value) (base : Heap) (k : Nat) (x kx : Str) {A1 B A R : Type} [EncA A1] [Enc B] [EncA A] (c : A1 → B → A) (g : A → Res R) (kr : R → Slot) : Prop where
  ex : ∃ f fd ps n, FnOk P w K mg base (L2.CX P w) k f fd ps (spOf K mg g kr) ∧ mg x = some (.ref f) ∧ PySem.W.keepIn K (.ref f) = true ∧ KBn K fd ps n [kx] (fun us ws => us ++ ws) (fun vs zs => vs ++ zs) ∧
    (∀ H vs (a : A1), EncA.rep K H vs a → vs.length = n) ∧ ∀ H vs v (a : A1) (b : B), EncA.rep K H vs a → Enc.rep K H v b → EncA.rep K H (vs ++ [v]) (c a b)
/-- how n written arguments and the last one by its name bind -/
def BndK (x : Str) (st : Stmt) (ps : List Str) (m n : Nat) (kx : Str) : Prop := ∀ (T : Addr) (kV doc pm : Value) (an : Option Addr) (cdv ct w : Value) (us its : List Value), us.length = n → its.length = m →
  ∃ k, bindArgs (PySem.W.fnOf x x (defArgs st) (defBody st) (defScope st) (.ref T) kV doc pm an cdv ct) ⟨us, [(kx, w)]⟩ = seqItems? (.ref T) >>= k ∧ k (some its.toArray) = pure (ps.zip (us ++ [w]))
section
variable {P : Program} {w : World} {K : Frag} {mg : Str → Option Value} {base : Heap}
theorem cal_mkDK {x kx : Str} {st : Stmt} {dvs : List V} {N ps : List Str} {k : Nat} {A R : Type} [EncP A] {g : A → Res R} {kr : R → Slot} (D : IsDefD K mg x st dvs) (S : FnScope N ps (defScope st)) (hl : EncP.len A = ps.length) (hd : dvs ≠ [])
    (hbody : ∀ (a : A) (f : Addr) (cdv : Value) (A' : Around) (outer : List Env) (s : Shared) (H : Hp) (E : L2.XK), Room k (A'.deeper (envOfC x (defScope st) s.heap.objs.size f cdv)) →
      ST (cxOf (L2.CX P w) P w K mg base N x (defScope st) f cdv A' outer s H E) (wE E) true (EncP.slots a ++ List.replicate (N.length - EncP.len A) any) (defBody st) (g a) kr)
    {A1 B : Type} [EncA A1] [Enc B] (c : A1 → B → A) (n : Nat) (hb : BndK x st ps dvs.length n kx) (hn : ∀ H vs (a : A1), EncA.rep K H vs a → vs.length = n) (hc : ∀ H vs v (a : A1) (b : B), EncA.rep K H vs a → Enc.rep K H v b → EncA.rep K H (vs ++ [v]) (c a b)) : CalK P w K mg base (k + 1) x kx c g kr := by
  obtain ⟨f, fd, F, hm⟩ := D.ex
  have FO := fnD_ok (P := P) (w := w) (mg := mg) (base := base) F S hl fun a cdv A' outer s H E hr => hbody a f cdv A' outer s H E hr
  refine ⟨f, fd, ps, n, FO, hm, F.kp, ⟨fun s us ws X l1 l2 => ?_, fun r1 r2 => r1.append r2⟩, hn, hc⟩
  obtain ⟨oc, od, dV, kV, doc, pm, an, cdv, ct, osl, rfl, lk, hcd, hD, hK⟩ := F.ex
  rcases hD with ⟨e, _⟩ | ⟨_, T, o, its, m, rfl, lT, oT, rT⟩
  · exact absurd e hd
  · match ws, l2 with
    | [w'], _ =>
      obtain ⟨k, e1, e2⟩ := hb T kV doc pm an cdv ct w' us its l1 rT.length.symm
      refine BindsTo.of_looks fun M => ?_
      rw [show ([kx].zip [w'] : List (Str × Value)) = [(kx, w')] from rfl, e1]
      exact looks_items X lT oT (.of_pure e2)
end
section
variable {X : Cx} {CX : CXT} {k n : Nat} {f : Addr} {fd : FuncData} {ps ks : List Str} {sp : Sp} {E : L2.St → L2.XK} {x : Str} {p pos : Pos} {e : Expr} {es : List Expr} {kws : List Keyword} {t tk : TA} {g : List Value → List Value → List Value} {gV : List V → List V → List V}
theorem pe_callND (F : FnOk X.prog X.w X.K X.mg X.base CX k f fd ps sp) (hr : Room k X.A) (hg : Gl X x) (hm : X.mg x = some (.ref f)) (hk : PySem.W.keepIn X.K (.ref f) = true) (hb : KBn X.K fd ps n ks g gV) (hx : ∀ σ, PassesAt CX X σ (E σ))
    (ha : PA X (e :: es) t) (hkw : PK X kws tk) (hall : (backToKw pos (keywordEach kws X.env)).all (·.1.isSome) = true := by rfl) (hks : (backToKw pos (keywordEach kws X.env)).filterMap (·.1) = ks := by rfl)
    (hdb : (x == ("__debug__" : Str)) = false := by decide) (he : starEach (e :: es) X.env = (false, eval e X.env) :: starEach es X.env := by rfl)
    (hpl : ((backTo pos (starEach (e :: es) X.env)).any (·.1) || (backToKw pos (keywordEach kws X.env)).any (·.1.isNone)) = false := by rfl) :
    PE X (.Call (.Name x p) (e :: es) kws pos) (fun σ H Q => t σ H fun vs H1 => tk σ H1 fun zs H2 => vs.length = n ∧ zs.length = ks.length ∧ sp (gV vs zs) H2 Q (E σ)) := by
  refine ⟨fun pins s σ H Q I h => ?_⟩
  refine wpAny_Call_Name_kw (ld_glob I hg hm ?_ hdb)
  refine PySem.W.callWith_KW (h₀ := X.base) I.ok.mod.kin hk hall (thn (ha.run pos pins s σ H _ I h) fun us s1 ⟨vs, H1, I1, r, q⟩ => ?_) hpl he
  refine thn (hkw.run pos pins s1 σ H1 _ I1 q) fun ws s2 ⟨zs, H2, I2, rz, l1, l2, q2⟩ => ⟨I2.kIn, ?_⟩
  rw [hks]
  have r2 := hb.rel r rz
  refine wpAny_call (codeAny_mono (F.run X.A X.stack s2 H2 ⟨us, ks.zip ws⟩ (g us ws) (gV vs zs) Q (E σ) hr I2.env0 (hb.to s2 us ws I2.kIn (r.length.symm.trans l1) (rz.length.symm.trans l2)) r2 q2) fun r s' hq => ?_)
  cases r with
  | error e => exact hx σ pins H2 s2 e s' I2 hq
  | ok fl =>
    cases fl with
    | ret u => exact I2.after hq
    | next => exact False.elim hq
    | brk => exact False.elim hq
    | cont => exact False.elim hq
end
section
variable {X : Cx} {W : WX} {ss : List Slot} {k j : Nat} {x kx : Str} {A1 B A R : Type} [EncA A1] [Enc B] [EncA A] {c : A1 → B → A} {g : A → Res R} {kr : R → Slot} {p pos kpos : Pos} {e ke : Expr} {es : List Expr}
theorem xk_calK [KImm kr] (C : CalK X.prog X.w X.K X.mg X.base j x kx c g kr) (hr : Room k X.A) (tk : Takes X W) {m : Res A1} {m' : Res B} (ha : XA X W ss (e :: es) m) (hb : XI X W ss ke m') (hj : j ≤ k := by decide) (hg : Gl X x := by rfl) (hdb : (x == ("__debug__" : Str)) = false := by decide)
    (hall : (backToKw pos (keywordEach [⟨some kx, ke, kpos⟩] X.env)).all (·.1.isSome) = true := by rfl) (hks : (backToKw pos (keywordEach [⟨some kx, ke, kpos⟩] X.env)).filterMap (·.1) = [kx] := by rfl)
    (hkk : keywordEach [⟨some kx, ke, kpos⟩] X.env = (some kx, eval ke X.env) :: keywordEach [] X.env := by rfl)
    (he : starEach (e :: es) X.env = (false, eval e X.env) :: starEach es X.env := by rfl) (hpl : ((backTo pos (starEach (e :: es) X.env)).any (·.1) || (backToKw pos (keywordEach [⟨some kx, ke, kpos⟩] X.env)).any (·.1.isNone)) = false := by rfl) :
    XK X W ss (.Call (.Name x p) (e :: es) [⟨some kx, ke, kpos⟩] pos) (m.bind fun a => m'.bind fun b => g (c a b)) kr := by
  obtain ⟨f, fd, ps, n, F, hm, hk, hB, hn, hc⟩ := C.ex
  refine PE_imp (pe_callND (E := fun σ cls d H => W cls d σ H) F (hr.mono hj) hg hm hk hB (fun σ => passAt tk σ) ha (pk_cons hb pk_nil) hall hks hdb he hpl) fun σ H Q ⟨F0, sf, sl, q⟩ => ⟨sl.mono sf (Same.refl H), wpR_imp (wpR_bind q) (Same.refl H) fun a q vs H1 s1 r1 => ?_⟩
  refine ⟨sl.mono (sf.trans s1) s1, wpR_imp (wpR_bind q) s1 fun b q v H2 s2 r2 => ⟨hn _ _ _ r1, rfl, ?_⟩⟩
  refine ⟨c a b, H2, hc _ _ _ _ _ (EncA.mono s2 r1) r2, Same.refl _, ?_⟩
  have s1 := s1.trans s2
  cases eg : g (c a b) with
  | ok r =>
    rw [eg] at q
    intro v H' F' G' s2 ex pr k
    have sH := sf.trans (s1.trans s2)
    refine q v H' (join F0 (tups H')) G' (s1.trans s2) (ext_imm sf (s1.trans s2)) (fun b u z => ?_) ((kr r).mono ((tups_mono ex.sub).trans (join_r sH (tups_le H'))) (Same.refl G') (KImm.imm k))
    obtain ⟨h1, h2, h3, h4⟩ := pr b u z
    refine ⟨h1, Same.free s1 h2, ?_, h4⟩
    cases ej : join F0 (tups H') b with
    | none => rfl
    | some y =>
      rcases join_or ej with z' | z'
      · have := (sf.trans s1) _ _ z'
        rw [h2] at this; cases this
      · have t1 := tups_isT z'
        have t2 := tups_le H' _ _ z'
        rw [h1] at t2; cases t2
        rw [h4] at t1; cases t1
  | exc x => rw [eg] at q; exact fun cls d H' h1 h2 h3 => q cls d H' h1 (s1.trans h2) h3
  | stuck => rw [eg] at q; exact q
end
end G

namespace G
open PySem PySem.Spec PyProof.Rows L2
/-! ### texts taken apart -/
def splitR (x y : Str) : Res (List Str) := guardR (!(y.length == 0) && big x.length) (.ok (Txt.split x y))
def partR (x y : Str) : Res (T3 Str Str Str) := guardR (!(y.length == 0) && big x.length) (.ok ⟨(Txt.partition x y).1, (Txt.partition x y).2.1, (Txt.partition x y).2.2⟩)
def intS (x : Str) : Res Int := match PySem.intText? x with
  | some n => guardR (decide (x.length ≤ 640)) (.ok n)
  | none => .stuck
section
variable {X : Cx} {W : WX} {ss : List Slot} {a e : Expr} {es : List Expr} {apos cpos pos : Pos}
theorem xk_split {m m' : Res Str} (h : XI X W ss a m) (h' : XI X W ss e m')
    (hbase : attributeBase a "split" X.env (eval a X.env) = eval a X.env := by rfl)
    (hfew : ((backTo cpos (starEach [e] X.env)).all (fun x => !x.1) && (backToKw cpos (keywordEach [] X.env)).all (fun x => x.1.isSome)
      && decide ([e].length + ([] : List Keyword).length + (if ([] : List Keyword).isEmpty then 0 else 1) < 30)) = true := by rfl)
    (hline : (apos.endLine == cpos.line) = true := by rfl) (hs : starEach [e] X.env = (false, eval e X.env) :: starEach [] X.env := by rfl) (hplain : (backTo cpos (starEach [] X.env)).any (·.1) = false := by rfl) :
    XK X W ss (.Call (.Attribute a "split" apos) [e] [] cpos) (m.bind fun x => m'.bind fun y => splitR x y) ow := by
  refine PE_imp (pe_bm PySem.F.plainAttrs_str PySem.F.slot_str_split PySem.F.type_str_split mt_split h (pa_cons h' pa_nil hs) hbase hfew hline hs hplain) fun σ H Q ⟨F, sf, sl, q⟩ => ⟨sl.mono sf (Same.refl H), wpR_imp (wpR_bind q) (Same.refl H) fun x q v H1 s1 r1 => ?_⟩
  have r1 : v = .str x := r1
  subst r1
  refine ⟨rfl, sl.mono (sf.trans s1) s1, wpR_imp (wpR_bind q) s1 fun y q w H2 s2 r2 => ?_⟩
  have r2 : w = .str y := r2
  subst r2
  unfold splitR at q
  obtain ⟨g, q⟩ := wpR_guard q
  rw [Bool.and_eq_true, Bool.not_eq_true'] at g
  have hb := big_line g.2
  have hb2 : x.length ≤ 1000000 := of_decide_eq_true g.2
  exact ⟨x, y, rfl, rfl, g.1, Nat.le_trans (Nat.add_le_add_right hb2 2) (by decide), fun p hp => new_owI sf (s1.trans s2) hp (All2.of_map (f := V.str)) q⟩
theorem xi_part {m m' : Res Str} (h : XI X W ss a m) (h' : XI X W ss e m')
    (hbase : attributeBase a "partition" X.env (eval a X.env) = eval a X.env := by rfl)
    (hfew : ((backTo cpos (starEach [e] X.env)).all (fun x => !x.1) && (backToKw cpos (keywordEach [] X.env)).all (fun x => x.1.isSome)
      && decide ([e].length + ([] : List Keyword).length + (if ([] : List Keyword).isEmpty then 0 else 1) < 30)) = true := by rfl)
    (hline : (apos.endLine == cpos.line) = true := by rfl) (hs : starEach [e] X.env = (false, eval e X.env) :: starEach [] X.env := by rfl) (hplain : (backTo cpos (starEach [] X.env)).any (·.1) = false := by rfl) :
    XI X W ss (.Call (.Attribute a "partition" apos) [e] [] cpos) (m.bind fun x => m'.bind fun y => partR x y) := by
  refine PE_imp (pe_bm PySem.F.plainAttrs_str PySem.F.slot_str_partition PySem.F.type_str_partition mt_partition h (pa_cons h' pa_nil hs) hbase hfew hline hs hplain) fun σ H Q ⟨sl, q⟩ => ⟨sl, wpR_imp (wpR_bind q) (Same.refl H) fun x q v H1 s1 r1 => ?_⟩
  have r1 : v = .str x := r1
  subst r1
  refine ⟨rfl, sl.mono s1 s1, wpR_imp (wpR_bind q) s1 fun y q w H2 s2 r2 => ?_⟩
  have r2 : w = .str y := r2
  subst r2
  unfold partR at q
  obtain ⟨g, q⟩ := wpR_guard q
  rw [Bool.and_eq_true, Bool.not_eq_true'] at g
  exact ⟨x, y, rfl, rfl, g.1, big_line g.2, fun p hp => q _ _ ((s1.trans s2).trans (same_upd hp)) ⟨p, _, _, _, rfl, upd_same, rfl, rfl, rfl⟩⟩
theorem xi_intS {m : Res Str} {p : Pos} (h : XI X W ss a m) (hm : X.mg "int" = none) (hg : Gl X "int" := by rfl) (he : starEach [a] X.env = (false, eval a X.env) :: starEach [] X.env := by rfl) :
    XI X W ss (.Call (.Name "int" p) [a] [] pos) (m.bind intS) :=
  PE_imp (pe_callTy call_int_str hg hm (by decide +kernel) (pa_cons h pa_nil he) (by decide) (by decide) he rfl) fun σ H Q ⟨sl, q⟩ => ⟨sl, wpR_imp (wpR_bind q) (Same.refl H) fun x q v H1 s1 r1 => by
    unfold intS at q
    cases e : PySem.intText? x with
    | none => rw [e] at q; exact q.elim
    | some n =>
      rw [e] at q
      obtain ⟨g, q⟩ := wpR_guard q
      exact ⟨x, n, by rw [show v = V.str x from r1], e, of_decide_eq_true g, q _ H1 s1 rfl⟩⟩
theorem c_all : Bc X (rAll X.K) (fun x : List Bool × Unit => Res.ok (x.1.all id)) := ⟨fun x vs H Q h q => by
  obtain ⟨xs, u⟩ := x
  obtain ⟨v, r, e1, ⟨p, ws, e2, hp, rv⟩, e3⟩ := h
  have e3 : r = [] := e3
  subst e1; subst e2; subst e3
  have ew : ws = xs.map V.bl := All2.map_eq rv
  subst ew
  exact ⟨p, xs, rfl, SqL.of hp, q _ H (Same.refl H) rfl⟩, fun _ => noX_ok⟩
end
/-! ### what is perhaps none -/
section
variable {X : Cx} {W : WX} {ss : List Slot} {a : Expr} {pos : Pos}
theorem xi_isO {α : Type} [Enc α] [HasTy α] {m : Res (Option α)} {T : Str} {TT : String} {r : Bool} {p q : Pos} (h : XI X W ss a m) (hb : PE X (.Name T q) (tC (.ty TT))) (hk : kitB (HasTy.ty α) TT = some r) (hk0 : kitB "NoneType" TT = some false) (hm : X.mg "isinstance" = none) (hg : Gl X "isinstance" := by rfl)
    (he : starEach [a, .Name T q] X.env = (false, eval a X.env) :: starEach [.Name T q] X.env := by rfl) (he2 : starEach [.Name T q] X.env = (false, eval (.Name T q) X.env) :: starEach [] X.env := by rfl) (hpl : (backTo pos (starEach [.Name T q] X.env)).any (·.1) = false := by rfl) :
    XI X W ss (.Call (.Name "isinstance" p) [a, .Name T q] [] pos) (m.bind fun o => .ok (o.isSome && r)) :=
  PE_imp (pe_callB call_isi hg hm (by decide +kernel) (pa_cons h (pa_cons hb pa_nil he2) he) (by decide) (by decide) he hpl) fun σ H Q ⟨sl, q⟩ => ⟨sl, wpR_imp (wpR_bind q) (Same.refl H) fun x q v H1 s1 r1 => by
    cases x with
    | none =>
      have r1 : v = .non := r1
      subst r1
      exact ⟨.non, .ty TT, _, _, false, rfl, .ty TT, .base .non, kit_ty hk0, q _ H1 s1 rfl⟩
    | some y =>
      exact ⟨v, .ty TT, _, _, r, rfl, .ty TT, HasTy.ok r1.2, kit_ty hk, q _ H1 s1 (by rw [show (some y : Option α).isSome = true from rfl, Bool.true_and]; rfl)⟩⟩
end
/-! ### a text that the module names -/
structure GStr (mg : Str → Option Value) (x : Str) (i : Str) : Prop where
  ex : ∃ t, mg x = some (.str i t)
section
variable {X : Cx} {W : WX} {ss : List Slot} {pos : Pos}
theorem xi_gstr {x i : Str} (h : GStr X.mg x i) (hg : Gl X x := by rfl) (hd : (x == ("__debug__" : Str)) = false := by decide) : XI X W ss (.Name x pos) (.ok i) := by
  obtain ⟨t, hm⟩ := h.ex
  exact xi_const (pe_glob hg hm (v := .str i) ⟨t, rfl⟩ hd) fun _ _ => rfl
theorem gstr_mk {K : Frag} {mg : PySem.Str → Option Value} {h : Heap} {x i : PySem.Str} {t : Tok} (X : K.In h) (G : h.Ns mainGlobals mg) (a : PySem.W.nsIn K mainGlobals x = some (some (.str i t))) : GStr mg x i := ⟨t, PySem.W.mg_of X G a⟩
end
end G

namespace G
open PySem PySem.Spec PyProof.Rows L2
/-! ### tuples put together -/
def catT {α : Type} (x y : Tup α) : Res (Tup α) := guardR (big (x.l.length + y.l.length)) (.ok ⟨x.l ++ y.l⟩)
def repT {α : Type} (x : Tup α) (k : Int) : Res (Tup α) := guardR (!x.l.isEmpty && (decide (2 ≤ k) && (decide (k ≤ 1000) && decide (x.l.length ≤ 1000)))) (.ok ⟨(List.replicate k.toNat x.l).flatten⟩)
/-- a new tuple of kept items -/
theorem new_tu {α : Type} [Enc α] {F H H1 F1 : Hp} {p : Addr} {vs : List V} {as : List α} {K : Frag} {Q : VK} (s1 : Same H H1) (ex : Ext F H F1 H1) (hp : H1 p = none) (r : All2 (fun v a => Enc.rep K F1 v a) vs as)
    (q : ∀ v H' F' G', Same H H' → Ext F H F' H' → Priv G' H F' H' → (fr (⟨as⟩ : Tup α)).P K F' G' (some v) → Q v H') : Q (.ref p) (upd H1 p (.tup vs)) := by
  have hF : F1 p = none := Same.free ex.sub hp
  have sF := same_upd (o := HO.tup vs) hF
  refine q _ _ (upd F1 p (.tup vs)) noHp (s1.trans (same_upd hp)) ⟨ex.le.trans sF, fun b u z => ?_, fun b u z => ?_⟩ priv_no ⟨_, rfl, p, _, rfl, SqT.of upd_same, All2.mono sF r⟩
  · by_cases e : b = p
    · subst e; rw [upd_same] at z ⊢; exact z
    · rw [upd_ne e] at z ⊢; exact ex.sub _ _ z
  · by_cases e : b = p
    · subst e; exact .inr (.inl (Same.free s1 hp))
    · rw [upd_ne e] at z; exact ex.new _ _ z
section
variable {X : Cx} {W : WX} {ss : List Slot} {pos : Pos} {a b : Expr}
theorem xk_sliceT {α : Type} [Enc α] {lo hi : Option Expr} {p2 : Pos} {m : Res (Tup α)} {ml mh : Res (Option Int)} (h : XK X W ss a m fr) (hl : XO X W ss lo ml) (hh : XO X W ss hi mh) :
    XK X W ss (.Subscript a (.Slice lo hi none p2) pos) (m.bind fun d => ml.bind fun l => mh.bind fun u => .ok (⟨cut d.l l u⟩ : Tup α)) fr :=
  PE_imp (pe_slice sl_tupA h hl hh) fun σ H Q ⟨F, sf, sl, q⟩ => ⟨F, sf, sl, wpR_imp (wpR_bind q) (Same.refl H) fun d q v H1 F1 G1 s1 ex1 pr1 k1 => ⟨sl.mono (sf.trans s1) s1, wpR_imp (wpR_bind q) s1 fun l q H2 s2 => ⟨sl.mono (sf.trans (s1.trans s2)) (s1.trans s2), wpR_imp (wpR_bind q) (s1.trans s2) fun u q H3 s3 => by
    obtain ⟨v', e1, p, vs, rfl, hp, rv⟩ := k1
    cases e1
    have s23 := s2.trans s3
    have ex3 : Ext F H F1 H3 := ⟨ex1.le, ex1.sub.trans s23, ex1.new⟩
    refine ⟨p, vs, rfl, seqT ex3.sub hp, fun hw => ?_, fun _ o ho => new_tu (s1.trans s23) ex3 ho (cut_all2 rv l u) q⟩
    refine q _ H3 F1 noHp (s1.trans s23) ex3 priv_no ⟨_, rfl, p, vs, rfl, hp, ?_⟩
    show All2 _ vs (cut d.l l u)
    rw [whole_cut (by rw [← rv.length]; exact hw)]
    exact rv⟩⟩⟩
theorem b_catTu {α : Type} [Enc α] : Bi X (rCatA X.K) (fun x y : Tup α => catT x y) := ⟨fun x y v w H Q ⟨p, vs, e1, h1, r1⟩ ⟨p', vs', e2, h2, r2⟩ q => by
  unfold catT at q
  cases g : big (x.l.length + y.l.length) with
  | false => rw [g] at q; exact q.elim
  | true =>
    rw [g] at q
    have q : ∀ v' H', Same H H' → Enc.rep X.K H' v' (⟨x.l ++ y.l⟩ : Tup α) → Q v' H' := q
    refine ⟨p, p', vs, vs', e1, e2, h1, h2, ?_, fun e => ?_, fun _ e => ?_, fun _ _ o ho => ?_⟩
    · rw [r1.length, r2.length]; exact big_line g
    · subst e
      have : x.l = [] := by
        cases hx : x.l with
        | nil => rfl
        | cons c l => rw [hx] at r1; exact r1.elim
      exact q _ H (Same.refl H) ⟨p', vs', rfl, h2, by rw [this]; exact r2⟩
    · subst e
      have : y.l = [] := by
        cases hx : y.l with
        | nil => rfl
        | cons c l => rw [hx] at r2; exact r2.elim
      exact q _ H (Same.refl H) ⟨p, vs, rfl, h1, by rw [this, List.append_nil]; exact r1⟩
    · exact q _ _ (same_upd ho) ⟨o, _, rfl, SqT.of upd_same, All2.mono (same_upd ho) (All2.append r1 r2)⟩, fun _ _ => noX_guard⟩
theorem xk_catTu {α : Type} [Enc α] {m m' : Res (Tup α)} (h : XK X W ss a m fr) (h' : XK X W ss b m' fr) : XK X W ss (.BinOp a .Add b pos) (m.bind fun x => m'.bind fun y => catT x y) fr := by
  refine PE_imp (pe_op op_catA h h') fun σ H Q ⟨F, sf, sl, q⟩ => ⟨F, sf, sl, wpR_imp (wpR_bind q) (Same.refl H) fun x q v H1 F1 G1 s1 ex1 pr1 k1 => ⟨F1, ex1.sub, sl.mono ex1.le s1, wpR_imp (wpR_bind q) s1 fun y q w H2 F2 G2 s2 ex2 pr2 k2 => ?_⟩⟩
  obtain ⟨v', e1, p, vs, rfl, h1, r1⟩ := k1
  obtain ⟨w', e2, p', vs', rfl, h2, r2⟩ := k2
  cases e1
  cases e2
  unfold catT at q
  obtain ⟨g, q⟩ := wpR_guard q
  have ex := ex1.trans s1 ex2
  have s12 := s1.trans s2
  have h1' := seqT (ex2.le.trans ex2.sub) h1
  have h1F := seqT ex2.le h1
  have r1 := r1.mono ex2.le
  refine ⟨p, p', vs, vs', rfl, rfl, h1', seqT ex2.sub h2, ?_, fun e => ?_, fun _ e => ?_, fun _ _ o ho => ?_⟩
  · rw [r1.length, r2.length]; exact big_line g
  · subst e
    have : x.l = [] := by
      cases hx : x.l with
      | nil => rfl
      | cons c l => rw [hx] at r1; exact r1.elim
    exact q _ H2 F2 noHp s12 ex priv_no ⟨_, rfl, p', vs', rfl, h2, by rw [this]; exact r2⟩
  · subst e
    have : y.l = [] := by
      cases hx : y.l with
      | nil => rfl
      | cons c l => rw [hx] at r2; exact r2.elim
    exact q _ H2 F2 noHp s12 ex priv_no ⟨_, rfl, p, vs, rfl, h1F, by rw [this, List.append_nil]; exact r1⟩
  · have hF : F2 o = none := Same.free ex2.sub ho
    have sF := same_upd (o := HO.tup (vs ++ vs')) hF
    refine q _ _ (upd F2 o (.tup (vs ++ vs'))) noHp (s12.trans (same_upd ho)) ⟨ex.le.trans sF, fun b u z => ?_, fun b u z => ?_⟩ priv_no ⟨_, rfl, o, _, rfl, SqT.of upd_same, All2.mono sF (All2.append r1 r2)⟩
    · by_cases e : b = o
      · subst e; rw [upd_same] at z ⊢; exact z
      · rw [upd_ne e] at z ⊢; exact ex2.sub _ _ z
    · by_cases e : b = o
      · subst e; exact .inr (.inl (Same.free s12 ho))
      · rw [upd_ne e] at z; exact ex.new _ _ z
theorem xk_repL {α : Type} [Enc α] {m : Res (List α)} {m' : Res Int} (h : XL X W ss a m) (h' : XI X W ss b m') : XK X W ss (.BinOp a .Mult b pos) (m.bind fun xs => m'.bind fun k => repR xs k) ow :=
  PE_imp (pe_op op_rep h h') fun σ H Q ⟨F, sf, sl, q⟩ => ⟨F, sf, sl, wpR_imp (wpR_bind q) (Same.refl H) fun xs q p vs H1 F1 s1 ex1 hp rv => ⟨sl.mono (sf.trans s1) s1, wpR_imp (wpR_bind q) s1 fun k q w H2 s2 r2 => by
    obtain ⟨g, q⟩ := wpR_guard q
    rw [Bool.and_eq_true] at g
    obtain ⟨g1, g2⟩ := small62_of g.1
    have ex2 : Ext F H F1 H2 := ⟨ex1.le, ex1.sub.trans s2, ex1.new⟩
    exact ⟨p, k, vs, rfl, r2, s2 _ _ hp, by omega, by omega, by rw [rv.length]; exact big_line g.2, fun o ho => new_ow (s1.trans s2) ex2 ho (all2_rep rv _) q⟩⟩⟩
end
end G

/-! refusals that hold a row (the kit's worked proof 42 turned to NoText.row), what a suite asks of what it holds -/
namespace PySem
namespace RowX
open PySem.W PySem.Calls PyProof.Rows PySem.HandSPX
/-! ### the text of __init__ -/
def iA (p1 p2 : Pos) : Arguments := { posonlyargs := [], args := [{ arg := "self", annotation := none, pos := p1 }, { arg := "row", annotation := none, pos := p2 }], vararg := none, kwonlyargs := [], kw_defaults := [], kwarg := none, defaults := [] }
def iB (q1 q2 q3 q4 : Pos) : List Stmt := [.Assign [.Attribute (.Name "self" q1) "row" q2] (.Name "row" q3) q4]
def iS : Scope := { kind := .function, names := [(PySem.Str.ofString "self", .local), (PySem.Str.ofString "row", .local)], isGenerator := false, isCoroutine := false, more := [] }
/-- what the written part says of NoText, at C, and of its __init__, at fI -/
structure RowTxt (K : Frag) (mg : Str → Option Value) (C fI : Addr) : Prop where
  gC : mg "NoText" = some (.ref C)
  cls : ∃ nm q N bs bm sn sub ab col dd k0 k1 k2 k3 k5, K.lookup C = some (excClassObj nm q C N bs bm true sn sub ab col dd k0 k1 k2 k3 k5 "ValueError.__new__") ∧ refsVE bm = true
  sa : findIn K (.ref C) "__setattr__" = some (some (.builtin "object.__setattr__"))
  ga : findIn K (.ref C) "__getattribute__" = some (some (.builtin "BaseException.__getattribute__"))
  gg : findIn K (.ref C) "__getattr__" = some none
  noN : findIn K (.ref C) "row" = some none
  iC : findIn K (.ref C) "__init__" = some (some (.ref fI))
  tC : typeIn K (.ref fI) = some (.type "function")
  kC : keepIn K (.ref C) = true
  exC : subIn K (.ref C) (.type "BaseException") = some true
  tyC : typeIn K (.ref C) = some (.type "type")
  hdC : hasDictIn K C = true
  te : exmOne K (.ref C) (.ref C) = some true
  fn : ∃ (oc : Value) (od : Option Addr) (doc pm : Value) (an : Option Addr) (cdv ct : Value) (osl : Array (Option Value)) (p1 p2 q1 q2 q3 q4 : Pos),
    K.lookup fI = some ⟨oc, od, .func (fnOf "__init__" "NoText.__init__" (iA p1 p2) (iB q1 q2 q3 q4) iS .none .none doc pm an cdv ct), osl⟩ ∧ codeIn K cdv "NoText.__init__" = true
theorem one_size (v : Value) : [v].length ≤ sizeLine := by
  rw [sizeLine_eq]
  exact (by decide : 1 ≤ 16777216)
theorem kept_but {K : Frag} {h h' : Heap} {x : Addr} (X : K.In h) (hx : K.lookup x = none) (k : ∀ b o, b ≠ x → h.get? b = some o → h'.get? b = some o) : K.In h' := fun a o e =>
  k a o (fun z => by rw [z, hx] at e; cases e) (X a o e)
theorem ldC {M : Model} {s : Shared} {name : Str} {scope : Scope} {L a : Addr} {cd : Value} {m : Str → Option Value} {x : Str} {pos : Pos} {v : Value} {Q : Value → Shared → Prop} {A : Around} {E : Value → Shared → Prop} (hn : s.heap.Ns L m) (hv : m x = some v) (h : Q v s)
    (hk : scope.kind = .function := by rfl) (hl : (envOfC name scope L a cd).kindOf x = some .local := by rfl) (hd : (x == ("__debug__" : Str)) = false := by decide) :
    wpAny M A (eval (.Name x pos) (envOfC name scope L a cd)) Q E s := wpAny_Name (wpAny_loadName_local hk hl hn hv h) hd
/-- what __init__ leaves of a fresh exception at x -/
structure InitEnd (h h' : Heap) (x C dx t1 : Addr) (v : Value) : Prop where
  keep : ∀ b o, b ≠ x → h.get? b = some o → h'.get? b = some o
  obj : h'.get? x = some { cls := .ref C, dict := some dx, data := .fields #[.ref t1, .none, .none, .none, .bool false, .none] }
  dbig : h.objs.size ≤ dx
  dne : dx ≠ x
  ns : h'.Ns1 dx (fun y => if y = "row" then some v else none)
/-- a made NoText -/
structure OwnMade (h h' : Heap) (e C d : Addr) (v : Value) : Prop where
  keep : ∀ b o, h.get? b = some o → h'.get? b = some o
  new : h.objs.size ≤ e
  obj : ∃ oe vs, h'.get? e = some oe ∧ oe.cls = .ref C ∧ oe.dict = some d ∧ oe.data = .fields vs ∧ vs[1]? = some .none
  dbig : h.objs.size ≤ d
  dne : d ≠ e
  ns : h'.Ns1 d (fun y => if y = "row" then some v else none)
section
variable {prog : Program} {w : World} {A : Around} {E : Value → Shared → Prop} {R : Result → Shared → Prop} {s : Shared} {K : Frag} {mg : Str → Option Value} {C fI : Addr}
theorem row_init (T : RowTxt K mg C fI) {x t0 : Addr} {v : Value} (X : K.In s.heap) (hlim : s.heap.NoLimit) (hx : s.heap.get? x = some (excO C t0)) (hnx : K.lookup x = none) (hroom : A.depth < recursionLimit)
    (hq : ∀ h' tk dx, InitEnd s.heap h' x C dx t0 v → R (.ok (.ret .none)) { s with heap := h', toks := tk }) :
    codeAny (model prog w) A (.call (.ref fI) ⟨[.ref x, v], []⟩) R s := by
  obtain ⟨oc, od, doc, pm, an, cdv, ct, osl, p1, p2, q1, q2, q3, q4, ho, hcd⟩ := T.fn
  obtain ⟨nm, q, N, bs, bm, sn, sub, ab, col, dd, k0, k1, k2, k3, k5, hC, hbm⟩ := T.cls
  have hcl : clsIn K C = some { name := nm, bases := bs, mro := .ref C :: bm, ns := N, qualname := q, hasDict := true, slotNames := sn, subclasses := sub, abstract := ab, collection := col, hasDel := false } := by unfold clsIn; rw [hC] <;> rfl
  refine Att.call_fn (binds := [("self", .ref x), ("row", v)]) X hlim ho hcd hroom (BindsTo.of_eq (by first | rfl | with_unfolding_all rfl)) (by first | rfl | decide | with_unfolding_all rfl) (fun s₁ IC => ?_) rfl rfl rfl
  obtain ⟨h₁, tk₁, rfl⟩ := IC.toInCall.same
  have k : ∀ b o, s.heap.get? b = some o → h₁.get? b = some o := IC.toInCall.keep
  have hn := IC.toInCall.ns
  have hxL : s.heap.objs.size ≠ x := Nat.ne_of_gt (Heap.lt_size hx)
  have X₁ : K.In h₁ := X.keeps k
  have hx₁ := k _ _ hx
  -- self.by = by
  show wpAny _ _ (execs _ _) _ _ _
  refine wpAny_execs_cons (plainObj_wpAny_Assign_Attribute ?_)
  refine ldC (v := v) hn (by first | rfl | with_unfolding_all rfl | kernel_rfl) (ldC (v := .ref x) hn (by first | rfl | with_unfolding_all rfl | kernel_rfl) ?_)
  refine set_plain X₁ (ox := excO C t0) (od := none) ⟨hx₁, rfl, rfl, trivial⟩ T.sa ?_
  refine exc_osa X₁ hx₁ hcl (show refsVE (.ref C :: bm) = true from hbm) rfl T.noN (fun h₃ tk₃ dx k₃ dn dne hx₃ hn₃ => ?_)
  show wpAny _ _ (execs _ _) _ _ _
  have z : s.heap.objs.size < h₁.objs.size := hn.lt
  exact wpAny_execs_nil (hq h₃ tk₃ dx ⟨fun b o hb e => k₃ b o hb (k b o e), hx₃, Nat.le_of_lt (Nat.lt_of_lt_of_le z dn), dne, hn₃⟩)
theorem row_made (T : RowTxt K mg C fI) {v : Value} (X : K.In s.heap) (hlim : s.heap.NoLimit) (hroom : A.depth + 1 < recursionLimit)
    (hq : ∀ h' tk e d, OwnMade s.heap h' e C d v → R (.ok (.ret (.ref e))) { s with heap := h', toks := tk }) :
    codeAny (model prog w) A (.call (.ref C) ⟨[v], []⟩) R s := by
  obtain ⟨nm, q, N, bs, bm, sn, sub, ab, col, dd, k0, k1, k2, k3, k5, hC, hbm⟩ := T.cls
  obtain ⟨hp, g, dr, tk, os⟩ := s
  have k : ∀ b o, hp.get? b = some o → ((hp.push (kdv_tup [v])).push (excO C hp.objs.size)).get? b = some o := fun b o e => Heap.get?_push_of_some _ (Heap.get?_push_of_some _ e)
  have hget : ((hp.push (kdv_tup [v])).push (excO C hp.objs.size)).get? (hp.objs.size + 1) = some (excO C hp.objs.size) := by heap_get
  have hnx : K.lookup (hp.objs.size + 1) = none := by
    cases e : K.lookup (hp.objs.size + 1) with
    | none => rfl
    | some o =>
      have z : hp.get? (hp.objs.size + 1) = some o := X _ _ e
      exact absurd (Nat.lt_of_succ_lt (Heap.lt_size z)) (Nat.lt_irrefl _)
  refine call_own F.excBase_ValueError (fun X => refsVE_contains X bm hbm) (X _ _ hC) (looks_findIn X T.iC) (fun self => bind_fn X self T.tC) (one_size v) ?_
  refine row_init (s := ⟨(hp.push (kdv_tup [v])).push (excO C hp.objs.size), g, dr, tk, os⟩) T (X.keeps k) (hlim.keeps k) hget hnx ?_ fun h' tk' dx ⟨k', hx, dn, dne, hns⟩ => ?_
  · show A.depth + 1 < recursionLimit
    exact hroom
  · have old : ∀ b o, hp.get? b = some o → h'.get? b = some o := fun b o e => k' b o (Nat.ne_of_lt (Nat.lt_succ_of_lt (Heap.lt_size e))) (k b o e)
    have z : hp.objs.size + 1 + 1 ≤ dx := by
      first
        | (simpa only [Heap.size_push] using dn)
        | exact dn
        | (have q := dn; rw [Heap.size_push, Heap.size_push] at q; exact q)
    exact ⟨rfl, hq h' tk' (hp.objs.size + 1) dx ⟨old, Nat.le_succ _, ⟨_, _, hx, rfl, rfl, rfl, rfl⟩, Nat.le_trans (Nat.le_trans (Nat.le_succ _) (Nat.le_succ _)) z, dne, hns⟩⟩
end
end RowX
end PySem
namespace L2
open PySem PySem.Spec PyProof.Rows
theorem relO_row {v : V} {v' : Value} (r : RelV v v') (f : Str) : RelO (List.lookup f [(("row" : Str), v)]) (if f = "row" then some v' else none) := by
  by_cases hw : f = "row"
  · subst hw
    rw [if_pos rfl]
    have q : List.lookup ("row" : Str) [(("row" : Str), v)] = some v := by simp [List.lookup]
    rw [q]
    exact r
  · rw [if_neg hw]
    have qw : (f == ("row" : Str)) = false := by simpa using hw
    have q2 : List.lookup f [(("row" : Str), v)] = none := by simp [List.lookup, qw]
    rw [q2]
    trivial
section
variable {X : Cx} {C fI : Addr}
/-- NoText(e) -/
def tMkRow (C : Addr) (ta : TA) : St → Hp → XK → Prop := fun σ H Q => ta σ H fun vs H1 => ∃ v, vs = [v] ∧ ∀ d, H1 d = none → Q (.ref C) (some d) (upd H1 d (.xd [(("row" : Str), v)]))
theorem pmk_row {a : Expr} {ta : TA} {p pos : Pos} {k : Nat} (T : PySem.RowX.RowTxt X.K X.mg C fI) (hr : Room k X.A) (ha : PA X [a] ta) (hg : Gl X "NoText" := by rfl)
    (he : starEach (a :: []) X.env = (false, eval a X.env) :: starEach [] X.env := by rfl) (hpl : (backTo pos (starEach [] X.env)).any (·.1) = false := by rfl) :
    PMk X (.Call (.Name "NoText" p) [a] [] pos) (tMkRow C ta) := by
  intro pins s σ H Q I h
  refine wpAny_Call_Name_kw (ld_glob I hg T.gC ?_)
  refine PySem.W.callWith_K (h₀ := X.base) I.ok.mod.kin T.kC (thn (ha.run pos pins s σ H _ I h) fun us s1 hh => ?_) he hpl
  obtain ⟨vs, H1, I1, r1, v, ev, q1⟩ := hh
  subst ev
  refine ⟨I1.kIn, ?_⟩
  cases r1 with
  | cons rv rn =>
    rename_i v' us'
    cases rn
    show wpAny _ _ (call (.ref C) [v']) _ _ _
    have hlim := I1.nolimit
    obtain ⟨hp, g, dr, tk, os⟩ := s1
    refine wpAny_call (PySem.RowX.row_made T I1.kIn hlim (by have := hr.dp; omega) fun h' tk' e d M => ?_)
    show MkP X pins σ Q (.ref e) ⟨h', g, dr, tk', os⟩
    obtain ⟨oe, fv, hoe, hc, hd, hdat, h1⟩ := M.obj
    have hns := M.ns
    obtain ⟨G', g1, g2⟩ := restrict h' fun b => decide (b ≠ e)
    have gk : ∀ b, b ≠ e → G'.get? b = h'.get? b := fun b hb => g1 b (decide_eq_true hb)
    have ge : G'.get? e = none := g2 e (by simp)
    have old : ∀ b o, hp.get? b = some o → G'.get? b = some o := fun b o q => (gk b (Nat.ne_of_lt (Nat.lt_of_lt_of_le (Heap.lt_size q) M.new))).trans (M.keep b o q)
    have ob : ObjOk X.prog X.w (upd H1 d (.xd [(("row" : Str), v)])) G' d (.xd [(("row" : Str), v)]) :=
      ⟨_, hns.at (fun o q => (gk d M.dne).trans q), fun f => relO_row rv f⟩
    have J : Inv X pins σ (upd H1 d (.xd [(("row" : Str), v)])) ⟨G', g, dr, tk', os⟩ := I1.laid (t' := tk') old M.dbig ob
    refine ⟨e, oe, fv, ⟨G', g, dr, tk', os⟩, _, .ref C, some d, rfl, J, fun b o q => ?_, ge, hoe, ⟨hc, hd⟩, hdat, h1, ?_, rfl, I1.bare, raises_own T.exC T.tyC, q1 d (I1.hok.fresh M.dbig)⟩
    · by_cases hb : b = e
      · have q' : G'.get? b = some o := q
        rw [hb, ge] at q'; cases q'
      · exact (gk b hb).symm.trans q
    · rw [upd_ne (Ne.symm M.dne)]
      exact I1.hok.fresh M.new
/-- raise NoText(e) -/
def tRaiseRow (C : Addr) (W : WX) (ta : TA) : TS := fun _ σ H => tMkRow C ta σ H fun cls d H' => W cls d σ H'
theorem ps_raiseRow {a : Expr} {ta : TA} {W : WX} {p pos pos2 : Pos} {k : Nat} (hc : X.calm = true) (T : PySem.RowX.RowTxt X.K X.mg C fI) (hr : Room k X.A) (tk : Takes X W) (ha : PA X [a] ta) (hg : Gl X "NoText" := by rfl)
    (he : starEach (a :: []) X.env = (false, eval a X.env) :: starEach [] X.env := by rfl) (hpl : (backTo pos (starEach [] X.env)).any (·.1) = false := by rfl) :
    PS X (.Raise (some (.Call (.Name "NoText" p) [a] [] pos)) none pos2) (tRaiseRow C W ta) := ps_raise hc tk (pmk_row T hr ha hg he hpl)
/-- e.row, e the exception that the suite holds (at a; its class cls, its dict d) -/
def tByRow (C : Addr) (a : Addr) (cls : Value) (d : Option Addr) (te : TE) : TE := fun σ H Q => te σ H fun x H1 => x = .ref a ∧ cls = .ref C ∧ ∃ (dd : Addr) (v : V), d = some dd ∧ H1 dd = some (.xd [(("row" : Str), v)]) ∧ Q v H1
theorem pe_byRow {a : Addr} {oe : Obj} {cls : Value} {d : Option Addr} {pn : List (Addr × Obj)} {e : Expr} {te : TE} {pos : Pos} (T : PySem.RowX.RowTxt X.K X.mg C fI) (hz : Zc cls d oe) (hf : ∃ vs, oe.data = .fields vs) (he : PE (X.suite a ((a, oe) :: pn)) e te)
    (hb : attributeBase e "row" X.env (eval e X.env) = eval e X.env := by rfl) :
    PE (X.suite a ((a, oe) :: pn)) (.Attribute e "row" pos) (tByRow C a cls d te) := by
  refine ⟨fun pins s σ H Q I h => ?_⟩
  refine attr_of hb (thn (he.run pins s σ H _ I h) fun u s1 hh => ?_)
  obtain ⟨x, H1, I1, rx, ex, ec, dd, v, ed, ea, q⟩ := hh
  subst ex
  obtain rfl : u = Value.ref a := rx
  subst ec
  subst ed
  obtain ⟨ha, _⟩ := I1.pin (a, oe) (List.mem_append_left _ List.mem_cons_self)
  obtain ⟨vs, hd⟩ := hf
  have hx : ObjOk X.prog X.w H1 s1.heap dd (.xd [(("row" : Str), v)]) := I1.hok dd _ ea
  obtain ⟨mA, hns, hr⟩ := hx
  obtain ⟨od, ho, hl⟩ := lookIn_ns hns
  have l : List.lookup ("row" : Str) [(("row" : Str), v)] = some v := by simp [List.lookup]
  obtain ⟨u, hu, ru⟩ := RelO.some_of (v := v) (o := mA "row") (by rw [← l]; exact hr "row")
  have J : PySem.W.InstAt s1.heap a oe C (some od) := ⟨ha, hz.1, by unfold PySem.W.notCls; rw [hd] <;> rfl, by rw [hz.2]; exact ho⟩
  exact HandSPX.exc_get I1.kIn J T.ga T.gg T.exC (PySem.W.findObj_own T.hdC T.noN rfl (by rw [hl, hu])) (handed_of ru) ⟨v, H1, I1.tok _, ru, q⟩
end
end L2
namespace G
open PySem PySem.Spec PyProof.Rows L2
/-- the class of refusals with a row -/
def HasRow (K : Frag) (mg : PySem.Str → Option Value) : Prop := ∃ C fI, PySem.RowX.RowTxt K mg C fI
theorem payRep_mono {p : Pay} {d : Option Addr} {H H' : Hp} (s : Same H H') (h : payRep p d H) : payRep p d H' := by
  cases p with
  | no => exact h
  | int i => obtain ⟨x, e, q⟩ := h; exact ⟨x, e, s _ _ q⟩
  | _ => obtain ⟨x, p, o, e, q, r⟩ := h; exact ⟨x, p, o, e, s _ _ q, s _ _ r⟩
theorem payRep_tups {p : Pay} {d : Option Addr} {H : Hp} (h : payRep p d H) : payRep p d (tups H) := by
  cases p with
  | no => exact h
  | int i => obtain ⟨x, e, q⟩ := h; exact ⟨x, e, tups_some q rfl⟩
  | _ => obtain ⟨x, p, o, e, q, r⟩ := h; exact ⟨x, p, o, e, tups_some q rfl, tups_some r rfl⟩
/-- the refusal that a suite holds, with what it bears -/
def exP (a : Addr) (p : Pay) (d : Option Addr) : Slot := ⟨fun _ F _ o => o = some (.ref a) ∧ payRep p d F, fun s _ h => ⟨h.1, payRep_mono s h.2⟩⟩
def isE2 (t : ETab) (x : Exn) : Res Bool := match lookB t x.cls with
  | some b => .ok b
  | none => .stuck
/-- one of several -/
def lookBs : List ETab → Str → Option Bool
  | [], _ => some false
  | t :: r, n => match lookB t n with
    | some true => some true
    | some false => lookBs r n
    | none => none
def isE2s (ts : List ETab) (x : Exn) : Res Bool := match lookBs ts x.cls with
  | some b => .ok b
  | none => .stuck
def rowR (x : Exn) : Res Int := match x.pay with
  | .int i => if x.cls = "NoText" then .ok i else .stuck
  | _ => .stuck
section
variable {X : Cx} {W : WX} {ss : List Slot} {rest : List Stmt}
theorem rsR_core {a : Expr} {m : Res Int} {p pos pos2 : Pos} {k : Nat} (c : HasRow X.K X.mg) (hr : Room k X.A) (tk : Takes X W) (h : XI X W ss a m) (hc : X.calm = true := by rfl) (hg : Gl X "NoText" := by rfl)
    (he : starEach (a :: []) X.env = (false, eval a X.env) :: starEach [] X.env := by rfl) (hpl : (backTo pos (starEach [] X.env)).any (·.1) = false := by rfl) :
    PSs X (.Raise (some (.Call (.Name "NoText" p) [a] [] pos)) none pos2 :: rest) (fun _ σ H => ∃ B, Same B H ∧ Sl X.K H H ss σ ∧ wpS X W m B fun i => EXS X W B ⟨"NoText", .int i⟩) := by
  obtain ⟨C, fI, T⟩ := c
  refine rest_free (PS_imp (ps_raiseRow hc T hr tk (pa_cons h pa_nil he) hg he hpl) fun D σ H ⟨B, s, sl, q⟩ => ?_) fun _ _ _ _ _ _ _ q => q
  refine ⟨sl, wpS_R q s fun i q v H1 s1 r1 => ⟨v, rfl, fun d hd => q σ _ (some d) _ T.gC (s.trans (s1.trans (same_upd hd))) ⟨d, rfl, ?_⟩⟩⟩
  have r1 : v = V.int i := r1
  rw [upd_same, r1]
theorem st_raiseR {R : Type} {ee : Bool} {kr : R → Slot} {a : Expr} {m : Res Int} {p pos pos2 : Pos} {k : Nat} (c : HasRow X.K X.mg) (hr : Room k X.A) (tk : Takes X W) (h : XI X W ss a m) (hc : X.calm = true := by rfl) (hg : Gl X "NoText" := by rfl)
    (he : starEach (a :: []) X.env = (false, eval a X.env) :: starEach [] X.env := by rfl) (hpl : (backTo pos (starEach [] X.env)).any (·.1) = false := by rfl) :
    ST X W ee ss (.Raise (some (.Call (.Name "NoText" p) [a] [] pos)) none pos2 :: rest) (m.bind fun i => (.exc ⟨"NoText", .int i⟩ : Res R)) kr :=
  PSs_imp (rsR_core c hr tk h hc hg he hpl) fun D σ H ⟨B, F0, F, Gs, A, q⟩ => ⟨B, A.base, A.sl.mono A.ext.sub (Same.refl H), wpS_imp (wpS_bind q.2) fun _ z => z⟩
theorem sn_raiseR {S : Type} {post : S → List Slot} {a : Expr} {m : Res Int} {p pos pos2 : Pos} {k : Nat} (c : HasRow X.K X.mg) (hr : Room k X.A) (tk : Takes X W) (h : XI X W ss a m) (hc : X.calm = true := by rfl) (hg : Gl X "NoText" := by rfl)
    (he : starEach (a :: []) X.env = (false, eval a X.env) :: starEach [] X.env := by rfl) (hpl : (backTo pos (starEach [] X.env)).any (·.1) = false := by rfl) :
    SN X W ss (.Raise (some (.Call (.Name "NoText" p) [a] [] pos)) none pos2 :: rest) (m.bind fun i => (.exc ⟨"NoText", .int i⟩ : Res S)) post :=
  PSs_imp (rsR_core c hr tk h hc hg he hpl) fun D σ H ⟨B, F0, F, Gs, A, q⟩ => ⟨B, A.base, A.sl.mono A.ext.sub (Same.refl H), wpS_imp (wpS_bind q) fun _ z => z⟩
theorem sb_raiseR {S L R : Type} {post : S → List Slot} {pl : L → List Slot} {kr : R → Slot} {a : Expr} {m : Res Int} {p pos pos2 : Pos} {k : Nat} (c : HasRow X.K X.mg) (hr : Room k X.A) (tk : Takes X W) (h : XI X W ss a m) (hc : X.calm = true := by rfl) (hg : Gl X "NoText" := by rfl)
    (he : starEach (a :: []) X.env = (false, eval a X.env) :: starEach [] X.env := by rfl) (hpl : (backTo pos (starEach [] X.env)).any (·.1) = false := by rfl) :
    SB X W ss (.Raise (some (.Call (.Name "NoText" p) [a] [] pos)) none pos2 :: rest) (m.bind fun i => (.exc ⟨"NoText", .int i⟩ : Res (Out S L R))) post pl kr :=
  PSs_imp (rsR_core c hr tk h hc hg he hpl) fun D σ H ⟨B, F0, F, Gs, A, q⟩ => ⟨B, A.base, A.sl.mono A.ext.sub (Same.refl H), wpS_imp (wpS_bind q) fun _ z => z⟩
/-! isinstance of what is held -/
def dOk (d : Option Addr) (H : Hp) : Prop := match d with
  | none => True
  | some dd => ∃ fs, H dd = some (.xd fs)
theorem dOk_of {p : Pay} {d : Option Addr} {H : Hp} (h : payRep p d H) : dOk d H := by
  cases p with
  | no =>
    have h : d = none := h
    subst h
    trivial
  | int i => obtain ⟨x, e, q⟩ := h; subst e; exact ⟨_, q⟩
  | _ => obtain ⟨x, p, o, e, q, _⟩ := h; subst e; exact ⟨_, q⟩
theorem inst_of {pins : List (Addr × Obj)} {σ : L2.St} {H : Hp} {s : Shared} {a D : Addr} {d : Option Addr} {oe : Obj} (I : Inv X pins σ H s) (ha : s.heap.get? a = some oe) (hz : Zc (.ref D) d oe) (hf : ∃ vs, oe.data = .fields vs) (hd : dOk d H) : ∃ od, PySem.W.InstAt s.heap a oe D od := by
  obtain ⟨vs, hv⟩ := hf
  have n1 : PySem.W.notCls oe = true := by unfold PySem.W.notCls; rw [hv] <;> rfl
  cases d with
  | none => exact ⟨none, ha, hz.1, n1, by rw [hz.2]; trivial⟩
  | some dd =>
    obtain ⟨fs, e⟩ := hd
    obtain ⟨mA, hns, hr⟩ := (show ObjOk X.prog X.w H s.heap dd (.xd fs) from I.hok dd _ e)
    obtain ⟨od, ho, hl⟩ := lookIn_ns hns
    exact ⟨some od, ha, hz.1, n1, by rw [hz.2]; exact ho⟩
theorem excC_cls {K : Frag} {D : Addr} (C : ExcC K D) : (PySem.W.clsIn K D).isSome = true := by
  obtain ⟨cd, hc, _⟩ := PySem.W.any_some C.hd
  rw [hc]; rfl
def rIsX (K : Frag) (D a : Addr) (d : Option Addr) : List V → Hp → VK → Prop := fun xs H Q => ∃ (c : V) (cv : Value) (b : Bool), xs = [.ref a, c] ∧ (∀ u, RelV c u → u = cv) ∧ PySem.W.kitOne K (.ref D) cv = some b ∧ dOk d H ∧ Q (.bl b) H
theorem call_isX {a D : Addr} {d : Option Addr} {oe : Obj} {pn : List (Addr × Obj)} (C : ExcC X.K D) (hz : Zc (.ref D) d oe) (hf : ∃ vs, oe.data = .fields vs) : CallR (X.suite a ((a, oe) :: pn)) (.builtin "isinstance") (rIsX X.K D a d) := by
  intro pins s σ H xs us Q I r h
  obtain ⟨c, cv, b, rfl, hcv, e, hd, q⟩ := h
  cases r with
  | cons rx rr =>
    cases rr with
    | cons rt rr =>
      cases rr
      cases rx
      have ec := hcv _ rt
      subst ec
      obtain ⟨hget, _⟩ := I.pin (a, oe) (List.mem_append.mpr (.inl List.mem_cons_self))
      obtain ⟨od, J⟩ := inst_of I hget hz hf hd
      exact PySem.W.kia_one (PySem.W.kitx_exc (excC_cls C) C.hg C.hk C.hs C.ha C.hn C.ht C.hm) I.kIn J e (fun z => nomatch z) fun tk => ⟨.bl b, H, I.kept (t' := tk) fun _ _ z => z, rfl, q⟩
def rIsXT (K : Frag) (D a : Addr) (d : Option Addr) : List V → Hp → VK → Prop := fun xs H Q => ∃ (p : Addr) (vs : List V) (cvs : List Value) (b : Bool), xs = [.ref a, .ref p] ∧ H p = some (.tup vs) ∧ (∀ us, Vals vs us → us = cvs) ∧ PySem.W.kitAny K (.ref D) cvs = some b ∧ dOk d H ∧ Q (.bl b) H
theorem call_isXT {a D : Addr} {d : Option Addr} {oe : Obj} {pn : List (Addr × Obj)} (C : ExcC X.K D) (hz : Zc (.ref D) d oe) (hf : ∃ vs, oe.data = .fields vs) : CallR (X.suite a ((a, oe) :: pn)) (.builtin "isinstance") (rIsXT X.K D a d) := by
  intro pins s σ H xs us Q I r h
  obtain ⟨p, vs, cvs, b, rfl, hp, hcv, e, hd, q⟩ := h
  cases r with
  | cons rx rr =>
    cases rr with
    | cons rt rr =>
      cases rr
      cases rx
      cases rt
      obtain ⟨hget, _⟩ := I.pin (a, oe) (List.mem_append.mpr (.inl List.mem_cons_self))
      obtain ⟨od, J⟩ := inst_of I hget hz hf hd
      obtain ⟨_, its, hv, o, ho, hc, n, hdat⟩ := (show ObjOk X.prog X.w H s.heap p (.tup vs) from I.hok p _ hp)
      have ec := hcv _ hv
      subst ec
      obtain ⟨oc, odd, oda, osl⟩ := o
      dsimp only at hc hdat
      subst hc hdat
      exact PySem.W.kia_tup (PySem.W.kitx_exc (excC_cls C) C.hg C.hk C.hs C.ha C.hn C.ht C.hm) I.kIn J ho e (fun z => nomatch z) fun tk => ⟨.bl b, H, I.kept (t' := tk) fun _ _ z => z, rfl, q⟩
theorem xi_isE2 {a : Addr} {oe : Obj} {pn : List (Addr × Obj)} {cls : Value} {d : Option Addr} {x : Exn} {tab : ETab} {y n : Str} {p p1 p2 pos : Pos} (i : Nat) (hz : Zc cls d oe) (hfd : ∃ vs, oe.data = .fields vs) (hx : X.mg x.cls = some cls) (T : ITab X.K X.mg y tab)
    (hs : ss[i]? = some (exP a x.pay d)) (hp : PE (X.suite a ((a, oe) :: pn)) (.Name n p1) (tVar i)) (hm : X.mg "isinstance" = none) (hg : Gl X "isinstance" := by rfl) (hgy : Gl X y := by rfl) (hdb : (y == ("__debug__" : Str)) = false := by decide)
    (he : starEach [.Name n p1, .Name y p2] (X.suite a ((a, oe) :: pn)).env = (false, eval (.Name n p1) (X.suite a ((a, oe) :: pn)).env) :: starEach [.Name y p2] (X.suite a ((a, oe) :: pn)).env := by rfl) (he2 : starEach [.Name y p2] (X.suite a ((a, oe) :: pn)).env = (false, eval (.Name y p2) (X.suite a ((a, oe) :: pn)).env) :: starEach [] (X.suite a ((a, oe) :: pn)).env := by rfl) (hpl : (backTo pos (starEach [.Name y p2] (X.suite a ((a, oe) :: pn)).env)).any (·.1) = false := by rfl) :
    XI (X.suite a ((a, oe) :: pn)) W ss (.Call (.Name "isinstance" p) [.Name n p1, .Name y p2] [] pos) (isE2 tab x) := by
  refine ⟨fun pins s σ H Q I ⟨sl, q⟩ => ?_⟩
  unfold isE2 at q
  cases e2 : lookB tab x.cls with
  | none => rw [e2] at q; exact q.elim
  | some b =>
    rw [e2] at q
    obtain ⟨v, cv, hn, hr, hu, ht⟩ := T
    obtain ⟨C, gC, cC, kC⟩ := ht _ _ e2
    have : cls = .ref C := Option.some.inj (hx.symm.trans gC)
    subst this
    obtain ⟨o, ho, hso, hpay⟩ := sl.get hs
    subst hso
    have hy : PE (X.suite a ((a, oe) :: pn)) (.Name y p2) (tC v) := by
      rcases hn with h1 | ⟨h1, h2, h3⟩
      · exact pe_glob hgy h1 hr hdb
      · exact pe_bltn hgy h1 h2 hr h3 hdb
    have hc : PE (X.suite a ((a, oe) :: pn)) (.Call (.Name "isinstance" p) [.Name n p1, .Name y p2] [] pos) _ := pe_callB (call_isX (X := X) cC hz hfd) hg hm (by decide +kernel) (pa_cons hp (pa_cons hy pa_nil he2) he) (by decide) (by decide) he hpl
    exact hc.run pins s σ H Q I ⟨.ref a, ho, v, cv, b, rfl, hu, kC, dOk_of hpay, q _ H (Same.refl H) rfl⟩
/-- the names of a tuple of classes, with their tables -/
inductive ITs (X : Cx) : List Expr → List ETab → Prop
  | nil : ITs X [] []
  | cons {y : Str} {p : Pos} {tab : ETab} {es : List Expr} {ts : List ETab} (T : ITab X.K X.mg y tab) (hg : Gl X y) (hdb : (y == ("__debug__" : Str)) = false) (he : starEach (.Name y p :: es) X.env = (false, eval (.Name y p) X.env) :: starEach es X.env) (r : ITs X es ts) : ITs X (.Name y p :: es) (tab :: ts)
theorem its_pa {es : List Expr} {ts : List ETab} (h : ITs X es ts) : ∃ (vs : List V) (cvs : List Value), PA X es (fun _ H Q => Q vs H) ∧ (∀ us, Vals vs us → us = cvs) ∧ (∀ n C b, X.mg n = some (.ref C) → lookBs ts n = some b → PySem.W.kitAny X.K (.ref C) cvs = some b) ∧ vs.length = es.length := by
  induction h with
  | nil => exact ⟨[], [], pa_nil, fun us r => (by cases r; rfl), fun n C b _ e => e, rfl⟩
  | cons T hg hdb he _ ih =>
    obtain ⟨v, cv, hn, hr, hu, ht⟩ := T
    obtain ⟨vs, cvs, pa, hv, hk, hl⟩ := ih
    rename_i y p tab es ts _
    have hy : PE X (.Name y p) (tC v) := by
      rcases hn with h1 | ⟨h1, h2, h3⟩
      · exact pe_glob hg h1 hr hdb
      · exact pe_bltn hg h1 h2 hr h3 hdb
    refine ⟨v :: vs, cv :: cvs, PA_imp (pa_cons hy pa he) fun σ H Q q => q, fun us r => ?_, fun n C b hm e => ?_, congrArg (· + 1) hl⟩
    · cases r with
      | cons r1 r2 => rw [hu _ r1, hv _ r2]
    · unfold lookBs at e
      cases el : lookB tab n with
      | none => rw [el] at e; cases e
      | some c =>
        obtain ⟨C', gC, _, kC⟩ := ht _ _ el
        have : C' = C := Value.ref.inj (Option.some.inj (gC.symm.trans hm))
        subst this
        unfold PySem.W.kitAny
        rw [kC]
        rw [el] at e
        cases c with
        | true => exact e
        | false => exact hk n _ b hm e
theorem its_exc {es : List Expr} {ts : List ETab} (h : ITs X es ts) {n : Str} {C : Addr} {b : Bool} (hm : X.mg n = some (.ref C)) (e : lookBs ts n = some b) (hne : es ≠ []) : ExcC X.K C := by
  cases h with
  | nil => exact (hne rfl).elim
  | cons T hg hdb he _ =>
    obtain ⟨v, cv, hn, hr, hu, ht⟩ := T
    unfold lookBs at e
    rename_i tab _ _ _
    cases el : lookB tab n with
    | none => rw [el] at e; cases e
    | some c =>
      obtain ⟨C', gC, cC, _⟩ := ht _ _ el
      have : C' = C := Value.ref.inj (Option.some.inj (gC.symm.trans hm))
      subst this
      exact cC
theorem xi_isE2s {a : Addr} {oe : Obj} {pn : List (Addr × Obj)} {cls : Value} {d : Option Addr} {x : Exn} {es : List Expr} {ts : List ETab} {n : Str} {p p1 p2 pos : Pos} {j : Nat} (i : Nat) (hz : Zc cls d oe) (hfd : ∃ vs, oe.data = .fields vs) (hx : X.mg x.cls = some cls) (T : ITs (X.suite a ((a, oe) :: pn)) es ts) (hcl : ∃ C, cls = .ref C)
    (hs : ss[i]? = some (exP a x.pay d)) (hp : PE (X.suite a ((a, oe) :: pn)) (.Name n p1) (tVar i)) (hm : X.mg "isinstance" = none) (hne : es ≠ [] := by exact fun z => nomatch z) (hlen : es.length ≤ 100 := by decide) (hg : Gl X "isinstance" := by rfl)
    (he : starEach [.Name n p1, .Tuple es j p2] (X.suite a ((a, oe) :: pn)).env = (false, eval (.Name n p1) (X.suite a ((a, oe) :: pn)).env) :: starEach [.Tuple es j p2] (X.suite a ((a, oe) :: pn)).env := by rfl) (he2 : starEach [.Tuple es j p2] (X.suite a ((a, oe) :: pn)).env = (false, eval (.Tuple es j p2) (X.suite a ((a, oe) :: pn)).env) :: starEach [] (X.suite a ((a, oe) :: pn)).env := by rfl) (hpl : (backTo pos (starEach [.Tuple es j p2] (X.suite a ((a, oe) :: pn)).env)).any (·.1) = false := by rfl) :
    XI (X.suite a ((a, oe) :: pn)) W ss (.Call (.Name "isinstance" p) [.Name n p1, .Tuple es j p2] [] pos) (isE2s ts x) := by
  refine ⟨fun pins s σ H Q I ⟨sl, q⟩ => ?_⟩
  unfold isE2s at q
  cases e2 : lookBs ts x.cls with
  | none => rw [e2] at q; exact q.elim
  | some b =>
    rw [e2] at q
    obtain ⟨C, rfl⟩ := hcl
    obtain ⟨vs, cvs, pa, hv, hk, hl⟩ := its_pa T
    obtain ⟨o, ho, hso, hpay⟩ := sl.get hs
    subst hso
    have cC := its_exc T hx e2 hne
    have hc : PE (X.suite a ((a, oe) :: pn)) (.Call (.Name "isinstance" p) [.Name n p1, .Tuple es j p2] [] pos) _ := pe_callB (call_isXT (X := X) cC hz hfd) hg hm (by decide +kernel) (pa_cons hp (pa_cons (pe_tup pa) pa_nil he2) he) (by decide) (by decide) he hpl
    refine hc.run pins s σ H Q I ⟨.ref a, ho, ?_⟩
    refine ⟨by rw [hl]; exact Nat.le_trans hlen (by decide), fun t ht => ⟨t, vs, cvs, b, rfl, upd_same, hv, hk _ _ _ hx e2, dOk_of (payRep_mono (same_upd ht) hpay), q _ _ (same_upd ht) rfl⟩⟩
/-- e.row -/
theorem xi_row {a : Addr} {oe : Obj} {pn : List (Addr × Obj)} {cls : Value} {d : Option Addr} {x : Exn} {n : Str} {p1 pos : Pos} (i : Nat) (c : HasRow X.K X.mg) (hz : Zc cls d oe) (hfd : ∃ vs, oe.data = .fields vs) (hx : X.mg x.cls = some cls)
    (hs : ss[i]? = some (exP a x.pay d)) (hp : PE (X.suite a ((a, oe) :: pn)) (.Name n p1) (tVar i)) (hb : attributeBase (.Name n p1) "row" X.env (eval (.Name n p1) X.env) = eval (.Name n p1) X.env := by rfl) :
    XI (X.suite a ((a, oe) :: pn)) W ss (.Attribute (.Name n p1) "row" pos) (rowR x) := by
  obtain ⟨C, fI, T⟩ := c
  refine PE_imp (pe_byRow T hz hfd hp hb) fun σ H Q ⟨sl, q⟩ => ?_
  obtain ⟨o, ho, hso, hpay⟩ := sl.get hs
  subst hso
  unfold rowR at q
  cases e : x.pay with
  | no => rw [e] at q; exact q.elim
  | int r =>
    rw [e] at q hpay
    by_cases hn : x.cls = "NoText"
    · have q : wpR (X.suite a ((a, oe) :: pn)) W (if x.cls = "NoText" then Res.ok r else .stuck) σ H _ := q
      rw [if_pos hn] at q
      obtain ⟨dd, ed, hd⟩ := hpay
      have ec : cls = .ref C := Option.some.inj (hx.symm.trans (by rw [hn]; exact T.gC))
      exact ⟨.ref a, ho, rfl, ec, dd, .int r, ed, hd, q _ H (Same.refl H) rfl⟩
    · have q : wpR (X.suite a ((a, oe) :: pn)) W (if x.cls = "NoText" then Res.ok r else .stuck) σ H _ := q
      rw [if_neg hn] at q
      exact q.elim
  | _ => rw [e] at q; exact q.elim
/-- a clause that names what it holds -/
theorem b1_tryAs2 {S L R : Type} {st b₀ : Stmt} {suite : List Stmt} {y n : Str} {np pos' : Pos} {tab : ETab} {M : Res (Out S L R)} {N : Exn → Res (Out S L R)} {post : S → List Slot} {pl : L → List Slot} {kr : R → Slot} {pos : Pos} (i : Nat) (tk : Takes X W)
    (hb : ∀ (W' : WX) (pn : List (Addr × Obj)) (xe : Value → Shared → Prop), Takes (X.tr pn xe) W' → PS (X.tr pn xe) st (rdE (X.tr pn xe) W' ss M post pl kr))
    (c : CTab X.K X.mg y tab)
    (hsu : ∀ (x : Exn) (a : Addr) (oe : Obj) (cls : Value) (d : Option Addr) (pn : List (Addr × Obj)), Zc cls d oe → (∃ vs, oe.data = .fields vs) → X.mg x.cls = some cls → (∃ C, cls = .ref C) → SB (X.suite a ((a, oe) :: pn)) wNo (ss.set i (exP a x.pay d)) (b₀ :: suite) (N x) post pl kr)
    (hps : ∀ s, (post s)[i]? = some any) (hpl : ∀ s, (pl s)[i]? = some any)
    (hg : Gl X y := by rfl) (hdb : (y == ("__debug__" : Str)) = false := by decide)
    (hN : X.N.Nodup) (hi : X.N[i]? = some n := by rfl) (hln : X.env.kindOf n = some .local := by rfl)
    (hst : X.stack = X.env :: X.outer := by rfl) (hf : X.env.frame = some X.env.locals := by rfl) : B1 X W ss (.Try [st] [.ExceptHandler (some (.Name y np)) (some n) (b₀ :: suite) pos'] [] [] pos) (catchR M [(tab, N)]) post pl kr := by
  obtain ⟨Y, gY, hY⟩ := c
  let ts : Addr → Value → Option Addr → TS := fun a cls d D σ H => ∃ x : Exn, X.mg x.cls = some cls ∧ (∃ C, cls = .ref C) ∧ ∃ B F0 F Gs, Asn X.K B F0 (ss.set i (exP a x.pay d)) σ H F Gs ∧ wpS X wNo (N x) B (outOk X post pl kr D B F0)
  have clr : ∀ {K : Frag} {B F0 H F : Hp} {ts : List Slot} {σ : L2.St} {Gs : List Hp}, ts[i]? = some any → Asn K B F0 ts σ H F Gs → Asn K B F0 ts (σ.set i none) H F (Gs.set i noHp) := fun {K B F0 H F ts σ Gs} e A => by
    have A' := A.set (s := any) (o := none) (G := noHp) (Same.refl H) ⟨Same.refl F, A.ext.sub, fun _ _ h => .inl h⟩ priv_no trivial i
    have : ts.set i any = ts := by
      obtain ⟨hl, he⟩ := List.getElem?_eq_some_iff.mp e
      rw [← he]; exact List.set_getElem_self hl
    rw [this] at A'
    exact A'
  refine PS_imp (ps_try_as (tb := fun W' => rdE X W' ss M post pl kr) (ts := ts) hst hf hN hi hln ⟨hg, hdb, .inl gY⟩ tk (fun W' pn xe tk' _ => pss_one (hb W' pn xe tk')) (fun a oe cls d pn hz hfd => ?_)) fun D σ H ⟨B, F0, F, Gs, A, q⟩ => ⟨B, F0, F, Gs, A, ?_⟩
  · exact ⟨fun pins s σ H D I ⟨x, hm, hC, B, F0, F, Gs, A, q⟩ => (hsu x a oe cls d pn hz hfd hm hC).run pins s σ H D I ⟨B, F0, F, Gs, A, by cases e : N x with
      | ok o =>
        rw [e] at q
        cases o <;> exact q
      | exc z =>
        rw [e] at q
        exact fun σ cls d H' a b c => q σ cls d H' a b c
      | stuck => rw [e] at q; exact q⟩⟩
  · cases M with
    | ok o => cases o <;> exact q
    | stuck => exact q.elim
    | exc x =>
      intro cls d H' hm s hp
      have q : wpS X W (pickR x [(tab, N)]) B _ := q
      unfold pickR at q
      cases e : lookB tab x.cls with
      | none => rw [e] at q; exact q.elim
      | some b =>
        rw [e] at q
        obtain ⟨C, gC, hC⟩ := hY _ _ e
        have : cls = .ref C := Option.some.inj (hm.symm.trans gC)
        subst this
        refine ⟨b, hC, fun hb a na => ?_, fun hb => ?_⟩
        · subst hb
          have A' := A.set (s := exP a x.pay d) (o := some (.ref a)) (G := noHp) s (ext_imm A.ext.sub s) priv_no ⟨rfl, payRep_mono (join_r (A.ext.sub.trans s) (tups_le H')) (payRep_tups hp)⟩ i
          refine ⟨x, hm, ⟨_, rfl⟩, B, F0, _, _, A', ?_⟩
          have q : wpS X W (noX (N x)) B _ := q
          revert q
          cases N x with
          | exc z => exact fun q => q.elim
          | stuck => exact fun q => q.elim
          | ok o =>
            cases o with
            | nx s => exact fun q σ' H' F' Gs' A'' => q _ _ _ _ (clr (hps s) A'')
            | rt r => exact fun q => q
            | bk l => exact fun q σ' H' F' Gs' A'' => q _ _ _ _ (clr (hpl l) A'')
            | ct l => exact fun q σ' H' F' Gs' A'' => q _ _ _ _ (clr (hpl l) A'')
        · subst hb
          exact q σ _ d H' hm (A.base.trans s) hp
end
end G

/-! calls that give things of one's own away -/
namespace G
open PySem PySem.Spec PyProof.Rows L2
/-- slots of one argument and the rest -/
def slC {α A : Type} (kd : α → Slot) (sl : A → List Slot) (x : α × A) : List Slot := kd x.1 :: sl x.2
def slN (_ : Unit) : List Slot := []
section
variable (X : Cx) (W : WX)
/-- arguments, held as the slots of sl say -/
def rAO {A : Type} (ss : List Slot) (m : Res A) (sl : A → List Slot) : TA := fun σ H Q =>
  ∃ F, Same F H ∧ Sl X.K F H ss σ ∧ wpR X W m σ H fun a => ∀ (vs : List V) H' F' Gs, Same H H' → Ext F H F' H' → (∀ G ∈ Gs, Priv G H F' H') → Gs.Pairwise Dj → All3 X.K F' (sl a) Gs (vs.map some) → Q vs H'
def XAO {A : Type} (ss : List Slot) (es : List Expr) (m : Res A) (sl : A → List Slot) : Prop := PA X es (rAO X W ss m sl)
end
section
variable {X : Cx} {W : WX} {ss : List Slot} {e : Expr} {es : List Expr}
theorem xao_nil : XAO X W ss [] (.ok ()) slN := PA_imp pa_nil fun σ H Q ⟨F, a, sl, q⟩ => q [] H F [] (Same.refl H) ⟨Same.refl F, a, fun _ _ h => .inl h⟩ (fun _ m => nomatch m) List.Pairwise.nil trivial
theorem xao_cons {α A : Type} {m : Res α} {r : Res A} {kd : α → Slot} {sl : A → List Slot} (h : XK X W ss e m kd) (t : XAO X W ss es r sl) (hs : starEach (e :: es) X.env = (false, eval e X.env) :: starEach es X.env := by rfl) :
    XAO X W ss (e :: es) (m.bind fun a => r.bind fun as => .ok (a, as)) (slC kd sl) := by
  refine PA_imp (pa_cons h t hs) fun σ H Q ⟨F, sf, sl, q⟩ => ⟨F, sf, sl, wpR_imp (wpR_bind q) (Same.refl H) fun a q v H1 F1 G1 s1 ex1 pr1 k1 => ⟨F1, ex1.sub, sl.mono ex1.le s1, wpR_imp (wpR_bind q) s1 fun as q vs H2 F2 Gs s2 ex2 prs dj all => ?_⟩⟩
  refine q (v :: vs) H2 F2 (G1 :: Gs) (s1.trans s2) (ex1.trans s1 ex2) (fun G m b u z => ?_) (List.pairwise_cons.mpr ⟨fun G m b => ?_, dj⟩) ⟨(kd a).mono ex2.le (Same.refl _) k1, all⟩
  · rcases List.mem_cons.mp m with rfl | m
    · obtain ⟨h1, h2, h3, h4⟩ := pr1 b u z
      refine ⟨s2 _ _ h1, h2, ?_, h4⟩
      cases e : F2 b with
      | none => rfl
      | some w =>
        rcases ex2.new b w e with y | y | y
        · rw [h3] at y; cases y
        · rw [h1] at y; cases y
        · have q := ex2.sub _ _ e
          rw [s2 _ _ h1] at q
          cases q
          rw [h4] at y; cases y
    · obtain ⟨h1, h2, h3, h4⟩ := prs G m b u z
      exact ⟨h1, Same.free s1 h2, h3, h4⟩
  · cases e : G1 b with
    | none => exact .inl rfl
    | some u =>
      refine .inr ?_
      cases e2 : G b with
      | none => rfl
      | some w =>
        have y := (prs G m b w e2).2.1
        rw [(pr1 b u e).1] at y
        cases y
end
/-- a def that takes things over -/
def spO (K : Frag) (mg : Str → Option Value) {A R : Type} (sl : A → List Slot) (f : A → Res R) (kr : R → Slot) : Sp := fun vs H Q E => ∃ (a : A) (B F : Hp) (Gs : List Hp), All3 K F (sl a) Gs (vs.map some) ∧ Same F H ∧ Same B H ∧ (∀ G ∈ Gs, Priv G B F H) ∧ Gs.Pairwise Dj ∧
  match f a with
  | .ok r => ∀ v H' F' G', Same B H' → Ext F B F' H' → Priv G' B F' H' → (kr r).P K F' G' (some v) → Q v H'
  | .exc x => ∀ cls d H', mg x.cls = some cls → Same B H' → payRep x.pay d H' → E cls d H'
  | .stuck => False
theorem All3.len {K : Frag} {F : Hp} : ∀ {ss : List Slot} {Gs : List Hp} {σ : L2.St}, All3 K F ss Gs σ → ss.length = σ.length ∧ Gs.length = σ.length
  | [], [], [], _ => ⟨rfl, rfl⟩
  | _ :: _, _ :: _, _ :: _, h => ⟨congrArg (· + 1) (All3.len h.2).1, congrArg (· + 1) (All3.len h.2).2⟩
  | [], _ :: _, _, h => h.elim
  | [], [], _ :: _, h => h.elim
  | _ :: _, [], _, h => h.elim
  | _ :: _, _ :: _, [], h => h.elim
structure CalO (P : Program) (w : World) (K : Frag) (mg : Str → Option Value) (base : Heap) (k : Nat) (x : Str) {A R : Type} (sl : A → List Slot) (g : A → Res R) (kr : R → Slot) : Prop where
  ex : ∃ f fd ps, FnOk P w K mg base (L2.CX P w) k f fd ps (spO K mg sl g kr) ∧ mg x = some (.ref f) ∧ PySem.W.keepIn K (.ref f) = true ∧ Binds K fd ps []
section
variable {P : Program} {w : World} {K : Frag} {mg : Str → Option Value} {base : Heap}
theorem fn_okO {x qual : Str} {st : Stmt} {f : Addr} {fd : FuncData} {N ps : List Str} {k : Nat} {A R : Type} {sl : A → List Slot} {g : A → Res R} {kr : R → Slot} (F : Fun K x qual st f fd) (S : FnScope N ps (defScope st)) (hl : ∀ a, (sl a).length = ps.length)
    (hbody : ∀ (a : A) (cdv : Value) (A' : Around) (outer : List Env) (s : Shared) (H : Hp) (E : L2.XK), Room k (A'.deeper (envOfC qual (defScope st) s.heap.objs.size f cdv)) →
      ST (cxOf (L2.CX P w) P w K mg base N qual (defScope st) f cdv A' outer s H E) (wE E) true (sl a ++ List.replicate (N.length - ps.length) any) (defBody st) (g a) kr) :
    FnOk P w K mg base (L2.CX P w) (k + 1) f fd ps (spO K mg sl g kr) := by
  refine F.okX S (fun vs H Q E ⟨a, B, F0, Gs, r, _⟩ => ?_) fun cdv A' outer s H vs Q E hr ⟨a, B, F0, Gs, r, sF, sB, pr, dj, q⟩ => ?_
  · have := (r.len.1).symm.trans (hl a)
    rwa [List.length_map] at this
  · have hlen : vs.length = ps.length := by
      have := (r.len.1).symm.trans (hl a)
      rwa [List.length_map] at this
    refine ⟨_, hbody a cdv A' outer s H E hr, B, F0, F0, Gs ++ List.replicate (N.length - ps.length) noHp, ⟨⟨Same.refl _, sF, fun _ _ h => .inl h⟩, sB, ?_, ?_, ?_⟩, fun _ _ _ h => h, ?_⟩
    · have e : L2.start N vs = vs.map some ++ List.replicate (N.length - ps.length) none := by unfold L2.start; rw [hlen]
      rw [e]
      exact r.append (all3_any _)
    · intro G m b u z
      rcases List.mem_append.mp m with m | m
      · exact pr G m b u z
      · rw [(List.mem_replicate.mp m).2] at z
        cases z
    · exact List.pairwise_append.mpr ⟨dj, pw_no _, fun G _ G' m b => .inr (by rw [(List.mem_replicate.mp m).2]; rfl)⟩
    · show wpS _ _ (g a) B _
      cases e : g a with
      | ok r' => rw [e] at q; exact fun v H' F' G' s1 ex pr k => q v H' F' G' s1 ex pr k
      | exc x => rw [e] at q; exact fun σ cls d H' h1 h2 h3 => q cls d H' h1 h2 h3
      | stuck => rw [e] at q; exact q
theorem cal_mkO {x : Str} {st : Stmt} {N ps : List Str} {k : Nat} {A R : Type} {sl : A → List Slot} {g : A → Res R} {kr : R → Slot} (D : IsDef K mg x st) (S : FnScope N ps (defScope st)) (hl : ∀ a, (sl a).length = ps.length)
    (hb : ∀ (kV doc pm : Value) (an : Option Addr) (cdv ct : Value) (us : List Value), us.length = ps.length → bindArgs (PySem.W.fnOf x x (defArgs st) (defBody st) (defScope st) .none kV doc pm an cdv ct) ⟨us, []⟩ = pure (ps.zip us))
    (hbody : ∀ (a : A) (f : Addr) (cdv : Value) (A' : Around) (outer : List Env) (s : Shared) (H : Hp) (E : L2.XK), Room k (A'.deeper (envOfC x (defScope st) s.heap.objs.size f cdv)) →
      ST (cxOf (L2.CX P w) P w K mg base N x (defScope st) f cdv A' outer s H E) (wE E) true (sl a ++ List.replicate (N.length - ps.length) any) (defBody st) (g a) kr) :
    CalO P w K mg base (k + 1) x sl g kr := by
  obtain ⟨f, fd, F, hm⟩ := D.ex
  exact ⟨f, fd, ps, fn_okO F S hl fun a cdv A' outer s H E hr => hbody a f cdv A' outer s H E hr, hm, F.kp, F.binds hb⟩
end
section
variable {X : Cx} {W : WX} {ss : List Slot} {k j : Nat} {x : Str} {A R : Type} {sl : A → List Slot} {g : A → Res R} {kr : R → Slot} {p pos : Pos} {e : Expr} {es : List Expr}
theorem xk_calO (C : CalO X.prog X.w X.K X.mg X.base j x sl g kr) (hr : Room k X.A) (tk : Takes X W) {m : Res A} (ha : XAO X W ss (e :: es) m sl) (hj : j ≤ k := by decide) (hg : Gl X x := by rfl) (hdb : (x == ("__debug__" : Str)) = false := by decide)
    (he : starEach (e :: es) X.env = (false, eval e X.env) :: starEach es X.env := by rfl) (hpl : (backTo pos (starEach es X.env)).any (·.1) = false := by rfl) : XK X W ss (.Call (.Name x p) (e :: es) [] pos) (m.bind fun a => g a) kr := by
  obtain ⟨f, fd, ps, F, hm, hk, hb⟩ := C.ex
  refine PE_imp (pe_callSD (E := fun σ cls d H => W cls d σ H) F (hr.mono hj) hg hm hk hb .nil (fun σ => passAt tk σ) ha hdb he hpl) fun σ H Q ⟨F0, sf, sl, q⟩ => ⟨F0, sf, sl, wpR_imp (wpR_bind q) (Same.refl H) fun a q vs H1 F1 Gs s1 ex1 prs dj all => ?_⟩
  refine ⟨a, H, F1, Gs, by rw [List.append_nil]; exact all, ex1.sub, s1, prs, dj, ?_⟩
  cases eg : g a with
  | ok r =>
    rw [eg] at q
    exact fun v H' F' G' s2 ex pr k => q v H' F' G' s2 ⟨ex1.le.trans ex.le, ex.sub, fun b u z => (ex.new b u z).elim (ex1.new b u) .inr⟩ pr k
  | exc x => rw [eg] at q; exact fun cls d H' h1 h2 h3 => q cls d H' h1 h2 h3
  | stuck => rw [eg] at q; exact q
end
end G

/-! x.insert(k, e), x.pop(k), x.pop() on lists of one's own -/
namespace G
open PySem PySem.Spec PyProof.Rows L2
section
variable {X : Cx} {W : WX} {ss : List Slot} {pos : Pos} {e e2 : Expr}
def insR {α : Type} (xs : List α) (k : Int) (a : α) : Res (List α) := guardR (big xs.length && (decide (0 ≤ k) && decide (k < 2 ^ 62))) (.ok (xs.take k.toNat ++ [a] ++ xs.drop k.toNat))
theorem s1_insert (i : Nat) {α : Type} [Enc α] {as : List α} {mk : Res Int} {m : Res α} {x : Str} {p apos cpos : Pos} (hk : XI X W ss e mk) (h : XK X W ss e2 m fr) (hs : ss[i]? = some (ow as) := by rfl) (hp : PE X (.Name x p) (tVar i) := by exact pv _)
    (hbase : attributeBase (.Name x p) "insert" X.env (eval (.Name x p) X.env) = eval (.Name x p) X.env := by rfl)
    (hfew : ((backTo cpos (starEach [e, e2] X.env)).all (fun x => !x.1) && (backToKw cpos (keywordEach [] X.env)).all (fun x => x.1.isSome)
      && decide (([e, e2] : List Expr).length + ([] : List Keyword).length + (if ([] : List Keyword).isEmpty then 0 else 1) < 30)) = true := by rfl)
    (hline : (apos.endLine == cpos.line) = true := by rfl) (hst : starEach [e, e2] X.env = (false, eval e X.env) :: starEach [e2] X.env := by rfl) (hst2 : starEach [e2] X.env = (false, eval e2 X.env) :: starEach [] X.env := by rfl) (hplain : (backTo cpos (starEach [e2] X.env)).any (·.1) = false := by rfl)
    (hsw : swapsWith (.Call (.Attribute (.Name x p) "insert" apos) [e, e2] [] cpos) none pos.line X.env = pure false := by rfl) :
    S1 X W ss (.Expr (.Call (.Attribute (.Name x p) "insert" apos) [e, e2] [] cpos) pos) (mk.bind fun k => m.bind fun a => insR as k a) (fun as' => ss.set i (ow as')) := by
  have hx := pe_bm PySem.F.plainAttrs_list PySem.F.slot_list_insert PySem.F.type_list_insert mt_insert hp (pa_cons hk (pa_cons h pa_nil hst2) hst) hbase hfew hline hst hplain
  refine PS_imp (ps_expr hx hsw) fun D σ H ⟨B, F0, F, Gs, A, q⟩ => ?_
  obtain ⟨G, p, vs, hG, hσ, hp, r⟩ := all3_ow A.all hs
  have hH := A.sub G (List.mem_of_getElem? hG) _ _ hp
  refine ⟨.ref p, hσ, .inl ⟨rfl, vs, SqL.of hH⟩, A.sl.mono A.ext.sub (Same.refl H), wpS_R (wpS_bind q) A.base fun k q y H1 s1 rk => ?_⟩
  have A1 := A.grow s1 (F' := F) ⟨Same.refl F, A.ext.sub.trans s1, fun _ _ h => .inl h⟩
  refine ⟨F, A1.ext.sub, A1.sl, wpS_R (wpS_bind q) A1.base fun a q v H' F' G' s ex pr k2 => ?_⟩
  obtain ⟨v', e1, rv⟩ := k2
  cases e1
  have A' := A1.grow s ex
  unfold insR at q
  cases g : (big as.length && (decide (0 ≤ k) && decide (k < 2 ^ 62))) with
  | false => rw [g] at q; exact q.elim
  | true =>
    rw [g] at q
    obtain ⟨g1, g2⟩ := Bool.and_eq_true_iff.mp g
    obtain ⟨g2, g3⟩ := Bool.and_eq_true_iff.mp g2
    have rk : y = V.int k := rk
    subst rk
    refine ⟨p, vs, k, v, rfl, rfl, s _ _ (s1 _ _ hH), by rw [r.length]; exact Nat.lt_of_le_of_lt (of_decide_eq_true g1) (by decide), of_decide_eq_true g2, Int.lt_trans (of_decide_eq_true g3) (by decide), ?_⟩
    have r' := r.mono ex.le
    exact q _ _ _ _ (A'.put hG hσ hp (All2.append (All2.append (r'.take k.toNat) ⟨rv, trivial⟩) (r'.drop k.toNat)))
def popR {α : Type} (xs : List α) (k : Int) : Res (List α) := match ixN xs.length k with
  | some n => guardR (decide (-(2 ^ 62) ≤ k) && decide (k < 2 ^ 62)) (.ok (xs.eraseIdx n))
  | none => .stuck
theorem All2.erase {α β : Type} {P : α → β → Prop} : ∀ (i : Nat) {as : List α} {bs : List β}, All2 P as bs → All2 P (as.eraseIdx i) (bs.eraseIdx i)
  | _, [], [], _ => trivial
  | 0, _ :: _, _ :: _, ⟨_, y⟩ => y
  | i + 1, _ :: _, _ :: _, ⟨x, y⟩ => ⟨x, All2.erase i y⟩
  | _, [], _ :: _, x => x.elim
  | _, _ :: _, [], x => x.elim
theorem s1_popI (i : Nat) {α : Type} [Enc α] {as : List α} {mk : Res Int} {x : Str} {p apos cpos : Pos} (hk : XI X W ss e mk) (hs : ss[i]? = some (ow as) := by rfl) (hp : PE X (.Name x p) (tVar i) := by exact pv _)
    (hbase : attributeBase (.Name x p) "pop" X.env (eval (.Name x p) X.env) = eval (.Name x p) X.env := by rfl)
    (hfew : ((backTo cpos (starEach [e] X.env)).all (fun x => !x.1) && (backToKw cpos (keywordEach [] X.env)).all (fun x => x.1.isSome)
      && decide (([e] : List Expr).length + ([] : List Keyword).length + (if ([] : List Keyword).isEmpty then 0 else 1) < 30)) = true := by rfl)
    (hline : (apos.endLine == cpos.line) = true := by rfl) (hst : starEach [e] X.env = (false, eval e X.env) :: starEach [] X.env := by rfl) (hplain : (backTo cpos (starEach [] X.env)).any (·.1) = false := by rfl)
    (hsw : swapsWith (.Call (.Attribute (.Name x p) "pop" apos) [e] [] cpos) none pos.line X.env = pure false := by rfl) :
    S1 X W ss (.Expr (.Call (.Attribute (.Name x p) "pop" apos) [e] [] cpos) pos) (mk.bind fun k => popR as k) (fun as' => ss.set i (ow as')) := by
  have hx := pe_bm PySem.F.plainAttrs_list PySem.F.slot_list_pop PySem.F.type_list_pop mt_popAt hp (pa_cons hk pa_nil hst) hbase hfew hline hst hplain
  refine PS_imp (ps_expr hx hsw) fun D σ H ⟨B, F0, F, Gs, A, q⟩ => ?_
  obtain ⟨G, p, vs, hG, hσ, hp, r⟩ := all3_ow A.all hs
  have hH := A.sub G (List.mem_of_getElem? hG) _ _ hp
  refine ⟨.ref p, hσ, .inl ⟨rfl, vs, SqL.of hH⟩, A.sl.mono A.ext.sub (Same.refl H), wpS_R (wpS_bind q) A.base fun k q y H1 s1 rk => ?_⟩
  have A1 := A.grow s1 (F' := F) ⟨Same.refl F, A.ext.sub.trans s1, fun _ _ h => .inl h⟩
  unfold popR at q
  cases en : ixN as.length k with
  | none => rw [en] at q; exact q.elim
  | some n =>
    rw [en] at q
    have q : wpS X W (guardR (decide (-(2 ^ 62) ≤ k) && decide (k < 2 ^ 62)) (.ok (as.eraseIdx n))) B _ := q
    cases g : (decide (-(2 ^ 62) ≤ k) && decide (k < 2 ^ 62)) with
    | false => rw [g] at q; exact q.elim
    | true =>
      rw [g] at q
      obtain ⟨g1, g2⟩ := Bool.and_eq_true_iff.mp g
      have rk : y = V.int k := rk
      subst rk
      obtain ⟨sq, hn, _, _⟩ := ixN_seq en
      rw [← r.length] at hn
      refine ⟨p, vs, k, n, vs[n], rfl, rfl, s1 _ _ hH, Int.le_trans (by decide) (of_decide_eq_true g1), Int.lt_trans (of_decide_eq_true g2) (by decide), by rw [r.length]; exact sq, List.getElem?_eq_getElem hn, ?_⟩
      exact q _ _ _ _ (A1.put hG hσ hp (r.erase n))
end
end G

namespace G
open PySem PySem.Spec PyProof.Rows L2
/-! t > u, pairs of ints -/
def rGtT (K : Frag) : R2 := fun x y H Q => ∃ (a b : Addr) (i j k l : Int), x = .ref a ∧ y = .ref b ∧ SqT K H a [.int i, .int j] ∧ SqT K H b [.int k, .int l] ∧ Q (.bl (!leP (i, j) (k, l))) H
theorem op_gtT {X : Cx} (hu : X.A.units < cLine) : OpR X (compareOp .Gt) (rGtT X.K) := by
  intro pins s σ H x y v u Q I rx ry h
  obtain ⟨a, b, i, j, k, l, rfl, rfl, ha, hb, q⟩ := h
  cases rx
  cases ry
  obtain ⟨its, r1, p1, _⟩ := I.tuple ha
  obtain ⟨its2, r2, p2, _⟩ := I.tuple hb
  have i1 : IntsAre its [i, j] := Vals.ints (ns := [i, j]) r1
  have i2 : IntsAre its2 [k, l] := Vals.ints (ns := [k, l]) r2
  have e1 : its.toArray.size = 2 := by rw [List.size_toArray]; exact i1.length
  have e2 : its2.toArray.size = 2 := by rw [List.size_toArray]; exact i2.length
  have at1 : ∀ n (h1 : n < its.toArray.size), ∃ t, its.toArray[n] = .int ([i, j].getD n 0) t := fun n h1 => PyProof.Rows.IntsAre.int_at i1 _ _ (by simp at h1; simp [h1])
  have at2 : ∀ n (h1 : n < its2.toArray.size), ∃ t, its2.toArray[n] = .int ([k, l].getD n 0) t := fun n h1 => PyProof.Rows.IntsAre.int_at i2 _ _ (by simp at h1; simp [h1])
  have R := Ob.RcOp.tuples_gt (A := X.A) (s := s) (e := fun n => decide ([i, j].getD n 0 = [k, l].getD n 0)) (r := fun n => decide ([k, l].getD n 0 < [i, j].getD n 0)) p1 p2 hu (fun n h1 h2 => by
    obtain ⟨t, et⟩ := at1 n h1
    obtain ⟨t', et'⟩ := at2 n h2
    rw [et, et']
    have z : ([i, j].getD n 0 == [k, l].getD n 0) = decide ([i, j].getD n 0 = [k, l].getD n 0) := by
      by_cases q : [i, j].getD n 0 = [k, l].getD n 0
      · rw [decide_eq_true q]; exact beq_iff_eq.mpr q
      · rw [decide_eq_false q]; exact beq_eq_false_iff_ne.mpr q
    rw [← z]
    exact SeqAt.EqAt.int_int _ _ _ _) (fun n h1 h2 _ => by
    obtain ⟨t, et⟩ := at1 n h1
    obtain ⟨t', et'⟩ := at2 n h2
    rw [et, et']
    exact Ob.RcOp.gt_int _ _ _ _)
  rw [e1, e2] at R
  have hz : Ob.lexAt (fun n => decide ([i, j].getD n 0 = [k, l].getD n 0)) (fun n => decide ([k, l].getD n 0 < [i, j].getD n 0)) (decide (2 > 2)) 0 (min 2 2) = !leP (i, j) (k, l) := by
    show (if decide (i = k) = true then (if decide (j = l) = true then false else decide (l < j)) else decide (k < i)) = !(decide (i < k) || (decide (i = k) && decide (j ≤ l)))
    by_cases h1 : i = k
    · subst h1
      by_cases h2 : j = l
      · subst h2; simp
      · simp only [decide_true, if_true, Bool.true_and, decide_eq_true_eq, if_neg h2]
        rw [decide_eq_false (Int.lt_irrefl i), Bool.false_or, Bool.eq_iff_iff, decide_eq_true_iff, Bool.not_eq_true', decide_eq_false_iff_not]
        omega
    · simp only [decide_eq_true_eq]
      rw [if_neg h1, decide_eq_false h1, Bool.false_and, Bool.or_false, Bool.eq_iff_iff, decide_eq_true_iff, Bool.not_eq_true', decide_eq_false_iff_not]
      omega
  rw [hz] at R
  have z : wpAny (model X.prog X.w) X.A (compareOp .Gt (.ref a) (.ref b)) (EP X pins σ Q) X.xe s := R X.prog X.w X.xe (EP X pins σ Q) ⟨.bl _, H, I, rfl, q⟩
  exact z
section
variable {X : Cx}
theorem b_gtP : Bi X (rGtT X.K) (fun a b : Int × Int => Res.ok (!leP a b)) := ⟨fun x y v w H Q ⟨p, v1, v2, e1, h1, r1, r2⟩ ⟨p', v1', v2', e2, h2, r1', r2'⟩ q => by
  have r1 : v1 = V.int x.1 := r1
  have r2 : v2 = V.int x.2 := r2
  have r1' : v1' = V.int y.1 := r1'
  have r2' : v2' = V.int y.2 := r2'
  subst r1; subst r2; subst r1'; subst r2'
  exact ⟨p, p', x.1, x.2, y.1, y.2, e1, e2, SqT.of h1, SqT.of h2, q _ H (Same.refl H) rfl⟩, fun _ _ => noX_ok⟩
end
end G

/-! refusals that are kept as values -/
namespace G
open PySem PySem.Spec PyProof.Rows L2
/-- the module's names, where a kept refusal's class is looked up -/
class Md where
  mg : PySem.Str → Option Value
/-- at a: an exception object of the class cls, its dict at d -/
def ExV (cls : Value) (d : Option Addr) (a : Addr) : HO := .ext fun h => ∃ (oe : Obj) (vs : Array Value), h.get? a = some oe ∧ Zc cls d oe ∧ oe.data = .fields vs
theorem exV_ok {P : Program} {w : World} {H : Hp} {h : Heap} {a : Addr} {cls : Value} {d : Option Addr} {oe : Obj} (e : h.get? a = some oe) (z : Zc cls d oe) (hv : ∃ vs, oe.data = .fields vs) : ObjOk P w H h a (ExV cls d a) :=
  ⟨by obtain ⟨vs, hv⟩ := hv; exact ⟨oe, vs, e, z, hv⟩, ⟨oe, e⟩, fun _ _ ⟨o, v, q, r⟩ k => ⟨o, v, k o q, r⟩⟩
/-- an object that stands is tracked from now on -/
theorem Inv.adopt {X : Cx} {pins : List (Addr × Obj)} {σ : L2.St} {H : Hp} {s : Shared} {a : Addr} {oe : Obj} {φ : Heap → Prop} (J : Inv X pins σ H s) (at_ : s.heap.get? a = some oe) (fresh : H a = none) (young : X.s_0.heap.get? a = none) (notL : a ≠ X.env.locals) (notC : ∀ v, oe.data ≠ .cell v)
    (away : ∀ p ∈ X.pn ++ pins, p.1 ≠ a) (ob : ObjOk X.prog X.w H s.heap a (.ext φ)) : Inv X pins σ (upd H a (.frz oe (.ext φ))) s where
  ok := J.ok
  os := J.os
  bare := J.bare
  base := ⟨J.base.keep, J.base.slot, fun b o e n hb => (upd_ne (fun z => (by rw [z, young] at e; cases e) : b ≠ a)).trans (J.base.free b o e n hb), J.base.there,
    fun b xs e => (upd_ne (ne_of_none (J.base.tups b xs e) fresh)).trans (J.base.tups b xs e), fun b o u e => (upd_ne (ne_of_none (J.base.frzs b o u e) fresh)).trans (J.base.frzs b o u e), fun b ps e => by
      obtain ⟨more, q⟩ := J.base.tbls b ps e
      exact ⟨more, (upd_ne (ne_of_none q fresh)).trans q⟩⟩
  loc := J.loc
  cell := J.cell
  free := (upd_ne (Ne.symm notL)).trans J.free
  freeC := fun x c e => (upd_ne (fun z => (by
    obtain ⟨_, ob, w1, w2⟩ := J.cell x c e
    rw [z, at_] at w1
    cases w1
    exact notC _ w2) : c ≠ a)).trans (J.freeC x c e)
  pin := fun p m => ⟨(J.pin p m).1, (upd_ne (away p m)).trans (J.pin p m).2.1, (J.pin p m).2.2⟩
  hok := fun b u e => by
    by_cases same : b = a
    · rw [same, upd_same] at e
      cases e
      rw [same]
      exact ⟨at_, ob⟩
    · rw [upd_ne same] at e
      exact (J.hok b u e).stay (fun _ _ _ q => q) (fun _ q => (upd_ne (ne_of_none q fresh)).trans q) fun _ _ q => (upd_ne (ne_of_none q fresh)).trans q
  len := J.len
section
variable {X : Cx} {pins : List (Addr × Obj)} {σ : L2.St} {H : Hp} {B : Heap} {a : Addr} {cls : Value} {d : Option Addr} {sI s : Shared}
/-- .. and tracked, once the suite is left -/
theorem Lies.kept (l : Lies X pins σ H B a cls d sI s) (hs : X.stack = X.env :: X.outer) (hf : X.env.frame = some X.env.locals) (hex : X.ex = []) {oe : Obj} (z : Zc cls d oe) (hv : ∃ vs, oe.data = .fields vs) {σ' : L2.St} {s' : Shared} (J : Inv (X.suite a ((a, oe) :: (X.pn ++ pins))) [] σ' H s') (ok : X.Ok) :
    Inv X pins σ' (upd H a (.frz oe (ExV cls d a))) s' := by
  obtain ⟨q1, q2, q3, q4, q5⟩ := J.pin (a, oe) (.head _)
  exact Inv.adopt (J.unsuite ok) q1 q2 (l.young hs hex) q3 q5 (l.away hs) (exV_ok q1 z hv)
/-- no clause is left: it flies on -/
theorem Lies.on (l : Lies X pins σ H B a cls d sI s) (hs : X.stack = X.env :: X.outer) (hf : X.env.frame = some X.env.locals) {W : WX} (tk : Takes X W) (wish : W cls d σ H) {Q : Flow → Shared → Prop} :
    wpAny (model X.prog X.w) X.A (handleBy (.ref a) X.env []) Q X.xe s := by
  refine wpAny_handleBy_nil ?_
  obtain ⟨oe, vs, tb, ot, ts, f1, f2, f3, f4, f5⟩ := l.air.2.2.2
  have away : wpAny (model X.prog X.w) X.A (setFlight (.ref a) X.env.frame) (fun _ => wpAny (model X.prog X.w) X.A (throw (.ref a) : Sem Flow) Q X.xe) X.xe s := by
    rw [hf]
    refine HandSPX.setFlight_upZ l.air fun h noted g => wpAny_throw (tk _ _ ⟨a, B, sI, pins, σ, H, cls, d, rfl, l.before, l.low, l.grew.trans g, .inr (.inr ?_), l.fresh, l.sys, l.gen, wish⟩)
    rw [hs]
    exact noted
  unfold PySem.passOn
  refine wpAny_bind (wpAny_field f1 f3 f4 ?_)
  have no : ¬ ((Value.ref tb == Value.none) = true) := fun z => by simp at z
  rw [if_neg no]
  first
    | exact wpAny_bind (wpAny_pure (wpAny_bind away))
    | exact wpAny_bind away
end
/-- the clause 'except x as n: v = n': slot i is n's, slot j is v's -/
def wKeep (K : PySem.W.Frag) (c : Value) (i j : Nat) (Wout : WX) (D : Ends) : WX := fun cls d σ H =>
  ∃ b, PySem.W.exmOne K cls c = some b ∧ (b = true → ∀ a oe, H a = none → D.nx (((σ.set i (some (.ref a))).set j (some (.ref a))).set i none) (upd H a (.frz oe (ExV cls d a)))) ∧ (b = false → Wout cls d σ H)
section
variable {X : Cx} {x n v : Str} {c : Value} {i j : Nat} {body : List Stmt} {np pos pos' ep vp ap : Pos} {tb : WX → TS} {Wout : WX}
theorem ps_try_keep (hs : X.stack = X.env :: X.outer) (hf : X.env.frame = some X.env.locals) (hex : X.ex = []) (hN : X.N.Nodup) (hi : X.N[i]? = some n) (hj : X.N[j]? = some v) (hln : X.env.kindOf n = some .local) (hlv : X.env.kindOf v = some .local) (hc : Names X x c) (tk : Takes X Wout)
    (hb : ∀ (Wb : WX) (pn : List (Addr × Obj)) (out : Value → Shared → Prop), Takes (X.tr pn out) Wb → PassesOwn (model X.prog X.w) X.A X.env out → PSs (X.tr pn out) body (tb Wb))
    (hv : ∀ (a : Addr) (pn : List (Addr × Obj)), PE (X.suite a pn) (.Name n ep) (tVar i)) (hsw : swapsWith (.Name n ep) (some (.Name v vp)) ap.line X.env = pure false := by rfl) :
    PS X (.Try body [.ExceptHandler (some (.Name x np)) (some n) [.Assign [.Name v vp] (.Name n ep) ap] pos'] [] [] pos) (fun D σ H => tb (wKeep X.K c i j Wout D) D σ H) := by
  refine ⟨fun pins s σ H D I want => wpAny_Try_except ?_⟩
  let clause : ExceptHandler := .ExceptHandler (some (.Name x np)) (some n) [.Assign [.Name v vp] (.Name n ep) ap] pos'
  let out : Value → Shared → Prop := fun e t => wpAny (model X.prog X.w) X.A (noteFrame e X.env) (fun _ t => wpAny (model X.prog X.w) X.A (setFlight e none) (fun _ t => wpAny (model X.prog X.w) X.A (handleBy e X.env [clause]) (SP X pins D) X.xe t) X.xe t) X.xe t
  have takes : Takes (X.tr (X.pn ++ pins) out) (wKeep X.K c i j Wout D) := by
    rintro u t ⟨a, B, sI, pins', σ', H', cls, d, rfl, J', low, grew, sky, fresh, sys, gen, b, isB, yes, no⟩
    rw [show (X.tr (X.pn ++ pins) out).stack = X.env :: X.outer from hs] at sky
    refine Sky.land Zc.steady (by rw [I.ok.frames, hs]) hf sky fun h1 fl1 g1 => ?_
    have l1 : Lies X pins σ' H' B a cls d sI { t with heap := h1 } := ⟨J'.ofTry I.ok, low, grew.trans g1, fl1, fresh, sys, gen⟩
    obtain ⟨o1, at1, z1, vs1, v1⟩ := l1.obj
    have S1 := l1.held hf at1 v1
    refine wpAny_handleBy_cons (codeAny_handlers_test ?_) (fun q => nomatch q)
    have cl : PySem.W.Looks (model X.prog X.w) h1 (typeOf (.ref a)) cls := fun _ _ _ _ k q => wpAny_typeOf_ref (k _ _ at1) (by rw [z1.1]; exact q)
    have named : ∀ {Q : Value → Shared → Prop} {E : Value → Shared → Prop}, Q c { t with heap := h1 } → wpAny (model X.prog X.w) (X.A.mark (some (.ref a))) (eval (.Name x np) X.env) Q E { t with heap := h1 } := by
      intro Q E q
      rcases hc with ⟨g, nd, m | ⟨m, bt, nn⟩⟩
      · exact ld_glob S1 g m q nd
      · exact ld_blt S1 g m bt q nn nd
    refine named (PySem.W.Looks.here (PySem.W.exm_one (M := model X.prog X.w) l1.inv.kIn cl isB) ?_)
    cases b with
    | false => exact l1.on hs hf tk (no rfl)
    | true =>
      refine codeAny_handlers_suite_as (HandSPX.lands_againZ fl1 fun h2 fl2 g2 => ?_)
      have l2 := l1.up fl2 g2
      obtain ⟨o2, at2, z2, vs2, v2⟩ := l2.obj
      refine store_ok (X := X.suite a ((a, o2) :: (X.pn ++ pins))) (v := .ref a) (l2.held hf at2 v2) hN hi (.inl hln) rfl (fun s5 S5 => ?_) (.inr hln)
      have move := pss_one (ps_set (X := X.suite a ((a, o2) :: (X.pn ++ pins))) hN hj (.inl hlv) (hv _ _) hsw (.inr hlv))
      have room : i < σ'.length := Nat.lt_of_lt_of_eq (List.getElem?_eq_some_iff.mp hi).1 l1.before.len.symm
      refine wpAny_mono (move.run [] s5 _ H' ⟨fun σ6 H6 => σ6 = (σ'.set i (some (.ref a))).set j (some (.ref a)) ∧ H6 = H', fun _ _ => False, fun _ _ => False, fun _ _ => False⟩ S5 ⟨.ref a, List.getElem?_set_self room, rfl, rfl⟩) (fun f s6 left => ?_) (fun _ _ z => z.elim)
      cases f with
      | next =>
        obtain ⟨_, _, S6, rfl, rfl⟩ := left
        exact gone_ok (l2.kept hs hf hex z2 ⟨_, v2⟩ S6 I.ok) hN hi hln fun s7 J7 => ⟨_, _, J7, yes rfl a _ fresh⟩
      | brk => obtain ⟨_, _, _, z⟩ := left; exact z.elim
      | cont => obtain ⟨_, _, _, z⟩ := left; exact z.elim
      | ret u => obtain ⟨_, _, _, _, _, z⟩ := left; exact z.elim
  refine wpAny_mono ((hb _ (X.pn ++ pins) out takes PassesOwn.looking).run [] s σ H D (I.toTry _) want) (fun f t left => ?_) (fun _ _ z => z)
  have left := sp_ofTry I.ok left
  cases f with
  | next => exact wpAny_execs_nil left
  | brk => exact left
  | cont => exact left
  | ret u => exact left
end
end G

/-! kept refusals at work; x.index(e), x.count(e) on lists of data -/
namespace G
open PySem PySem.Spec PyProof.Rows L2
theorem payRep_up {p : Pay} {d : Option Addr} {H H' : Hp} (s : Same H H') (h : payRep p d H) : payRep p d H' := payRep_mono s h
/-- u tells of an exception object of the class cls at a, its dict at d -/
def IsEx (u : HO) (cls : Value) (d : Option Addr) (a : Addr) : Prop := ∃ φ, u = .ext φ ∧ ∀ h, φ h → ∃ (oe : Obj) (vs : Array Value), h.get? a = some oe ∧ Zc cls d oe ∧ oe.data = .fields vs
theorem isEx_v {cls : Value} {d : Option Addr} {a : Addr} : IsEx (ExV cls d a) cls d a := ⟨_, rfl, fun _ h => h⟩
theorem isEx_at {P : Program} {w : World} {H : Hp} {h : Heap} {a : Addr} {oe : Obj} {u : HO} {cls : Value} {d : Option Addr} (hok : HOk P w H h) (e : H a = some (.frz oe u)) (x : IsEx u cls d a) : ∃ (oe : Obj) (vs : Array Value), h.get? a = some oe ∧ Zc cls d oe ∧ oe.data = .fields vs := by
  obtain ⟨φ, rfl, q⟩ := x
  have y : ObjOk P w H h a (.frz oe (.ext φ)) := hok a _ e
  exact q h y.2.1
instance [Md] : Enc Exn := ⟨fun _ H v x => ∃ (a C : Addr) (d : Option Addr) (oe : Obj) (u : HO), v = .ref a ∧ Md.mg x.cls = some (.ref C) ∧ H a = some (.frz oe u) ∧ IsEx u (.ref C) d a ∧ payRep x.pay d H,
  fun s ⟨a, C, d, oe, u, e, h, q, z, p⟩ => ⟨a, C, d, oe, u, e, h, s _ _ q, z, payRep_mono s p⟩⟩
instance [Md] : Imm Exn := ⟨fun ⟨a, C, d, oe, u, e, h, q, z, p⟩ => ⟨a, C, d, oe, u, e, h, tups_some q rfl, z, payRep_tups p⟩⟩
instance [Md] : NN Exn := ⟨fun ⟨a, C, d, oe, u, e, _⟩ z => by rw [z] at e; cases e⟩
section
variable [Md] {X : Cx} {W : WX} {ss : List Slot}
theorem b1_keep {S L R : Type} {st : Stmt} {y n v : Str} {np vp ep ap pos' : Pos} {tab : ETab} {M : Res (Out S L R)} {f : Option Exn → S} {post : S → List Slot} {pl : L → List Slot} {kr : R → Slot} {pos : Pos} (i j : Nat) (tk : Takes X W)
    (hb : ∀ (W' : WX) (pn : List (Addr × Obj)) (xe : Value → Shared → Prop), Takes (X.tr pn xe) W' → PS (X.tr pn xe) st (rdE (X.tr pn xe) W' ss M post pl kr))
    (c : CTab X.K X.mg y tab) (hw : ∀ x : Exn, Wk ((ss.set j (fr (some x : Option Exn))).set i any) (post (f (some x)))) (hN : X.N.Nodup) (hij : i ≠ j := by decide) (hM : X.mg = Md.mg := by rfl)
    (hg : Gl X y := by rfl) (hdb : (y == ("__debug__" : Str)) = false := by decide)
    (hi : X.N[i]? = some n := by rfl) (hj : X.N[j]? = some v := by rfl) (hln : X.env.kindOf n = some .local := by rfl) (hlv : X.env.kindOf v = some .local := by rfl)
    (hst : X.stack = X.env :: X.outer := by rfl) (hf : X.env.frame = some X.env.locals := by rfl) (hex : X.ex = [] := by rfl)
    (hv : ∀ (a : Addr) (pn : List (Addr × Obj)), PE (X.suite a pn) (.Name n ep) (tVar i) := by exact fun _ _ => pv _) (hsw : swapsWith (.Name n ep) (some (.Name v vp)) ap.line X.env = pure false := by rfl) :
    B1 X W ss (.Try [st] [.ExceptHandler (some (.Name y np)) (some n) [.Assign [.Name v vp] (.Name n ep) ap] pos'] [] [] pos) (catchR M [(tab, fun x => .ok (.nx (f (some x))))]) post pl kr := by
  obtain ⟨Y, gY, hY⟩ := c
  refine PS_imp (ps_try_keep (tb := fun W' => rdE X W' ss M post pl kr) hst hf hex hN hi hj hln hlv ⟨hg, hdb, .inl gY⟩ tk (fun W' pn xe tk' _ => pss_one (hb W' pn xe tk')) hv hsw) fun D σ H ⟨B, F0, F, Gs, A, q⟩ => ⟨B, F0, F, Gs, A, ?_⟩
  cases M with
  | ok o => cases o <;> exact q
  | stuck => exact q.elim
  | exc x =>
    intro cls d H' hm s hp
    have q : wpS X W (pickR x [(tab, fun x => .ok (.nx (f (some x))))]) B (outOk X post pl kr D B F0) := q
    unfold pickR at q
    cases e : lookB tab x.cls with
    | none => rw [e] at q; exact q.elim
    | some b =>
      rw [e] at q
      obtain ⟨C, gC, hC⟩ := hY _ _ e
      have : cls = .ref C := Option.some.inj (hm.symm.trans gC)
      subst this
      refine ⟨b, hC, fun hb a oe na => ?_, fun hb => ?_⟩
      · subst hb
        have s2 := s.trans (same_upd (o := HO.frz oe (ExV (.ref C) d a)) na)
        have sF := A.ext.sub.trans s2
        have gM : Md.mg x.cls = some (.ref C) := by rw [← hM]; exact gC
        have rx : Enc.rep (α := Exn) X.K (join F (tups (upd H' a (.frz oe (ExV (.ref C) d a))))) (V.ref a) x := ⟨a, C, d, oe, _, rfl, gM, join_r sF (tups_le _) _ _ (tups_some upd_same rfl), isEx_v, payRep_mono (join_r sF (tups_le _)) (payRep_tups (payRep_mono (same_upd na) hp))⟩
        have A1 := A.set (s := fr (some x : Option Exn)) (o := some (.ref a)) (G := noHp) s2 (ext_imm A.ext.sub s2) priv_no ⟨.ref a, rfl, (show V.ref a ≠ V.non ∧ _ from ⟨fun z => (by cases z), rx⟩)⟩ j
        have A2 := A1.set (s := any) (o := none) (G := noHp) (Same.refl _) ⟨Same.refl _, A1.ext.sub, fun _ _ h => .inl h⟩ priv_no trivial i
        have e2 : ((σ.set i (some (V.ref a))).set j (some (.ref a))).set i none = (σ.set j (some (.ref a))).set i none := by
          rw [List.set_comm _ _ hij, List.set_set]
        rw [e2]
        exact q _ _ _ _ (A2.wk (hw x))
      · subst hb
        exact q σ _ d H' hm (A.base.trans s) hp
end
section
variable {X : Cx}
def rIsV (K : Frag) : List V → Hp → VK → Prop := fun xs H Q => ∃ (a D : Addr) (d : Option Addr) (oe : Obj) (u : HO) (c : V) (cv : Value) (b : Bool), xs = [.ref a, c] ∧ (H a = some (.frz oe u) ∧ IsEx u (.ref D) d a) ∧ ExcC K D ∧ (∀ u, RelV c u → u = cv) ∧ PySem.W.kitOne K (.ref D) cv = some b ∧ dOk d H ∧ Q (.bl b) H
theorem call_isV : CallR X (.builtin "isinstance") (rIsV X.K) := by
  intro pins s σ H xs us Q I r h
  obtain ⟨a, D, d, ob, w, c, cv, b, rfl, ha, C, hcv, e, hd, q⟩ := h
  cases r with
  | cons rx rr =>
    cases rr with
    | cons rt rr =>
      cases rr
      cases rx
      have ec := hcv _ rt
      subst ec
      obtain ⟨oe, vs, he, hz, hv⟩ := isEx_at I.hok ha.1 ha.2
      obtain ⟨od, J⟩ := inst_of I he hz ⟨vs, hv⟩ hd
      exact PySem.W.kia_one (PySem.W.kitx_exc (excC_cls C) C.hg C.hk C.hs C.ha C.hn C.ht C.hm) I.kIn J e (fun z => nomatch z) fun tk => ⟨.bl b, H, I.kept (t' := tk) fun _ _ z => z, rfl, q⟩
def rIsVT (K : Frag) : List V → Hp → VK → Prop := fun xs H Q => ∃ (a D : Addr) (d : Option Addr) (oe : Obj) (u : HO) (p : Addr) (vs : List V) (cvs : List Value) (b : Bool), xs = [.ref a, .ref p] ∧ (H a = some (.frz oe u) ∧ IsEx u (.ref D) d a) ∧ ExcC K D ∧ H p = some (.tup vs) ∧ (∀ us, Vals vs us → us = cvs) ∧ PySem.W.kitAny K (.ref D) cvs = some b ∧ dOk d H ∧ Q (.bl b) H
theorem call_isVT : CallR X (.builtin "isinstance") (rIsVT X.K) := by
  intro pins s σ H xs us Q I r h
  obtain ⟨a, D, d, ob, w, p, vs, cvs, b, rfl, ha, C, hp, hcv, e, hd, q⟩ := h
  cases r with
  | cons rx rr =>
    cases rr with
    | cons rt rr =>
      cases rr
      cases rx
      cases rt
      obtain ⟨oe, vse, he, hz, hv⟩ := isEx_at I.hok ha.1 ha.2
      obtain ⟨od, J⟩ := inst_of I he hz ⟨vse, hv⟩ hd
      obtain ⟨_, its, hv2, o, ho, hc, n, hdat⟩ := (show ObjOk X.prog X.w H s.heap p (.tup vs) from I.hok p _ hp)
      have ec := hcv _ hv2
      subst ec
      obtain ⟨oc, odd, oda, osl⟩ := o
      dsimp only at hc hdat
      subst hc hdat
      exact PySem.W.kia_tup (PySem.W.kitx_exc (excC_cls C) C.hg C.hk C.hs C.ha C.hn C.ht C.hm) I.kIn J ho e (fun z => nomatch z) fun tk => ⟨.bl b, H, I.kept (t' := tk) fun _ _ z => z, rfl, q⟩
end
section
variable [Md] {X : Cx} {W : WX} {ss : List Slot} {e1 : Expr}
theorem xi_isV {m : Res Exn} {tab : ETab} {y : Str} {p p2 pos : Pos} (h : XI X W ss e1 m) (T : ITab X.K X.mg y tab) (hm : X.mg "isinstance" = none) (hM : X.mg = Md.mg := by rfl) (hg : Gl X "isinstance" := by rfl) (hgy : Gl X y := by rfl) (hdb : (y == ("__debug__" : Str)) = false := by decide)
    (he : starEach [e1, .Name y p2] X.env = (false, eval e1 X.env) :: starEach [.Name y p2] X.env := by rfl) (he2 : starEach [.Name y p2] X.env = (false, eval (.Name y p2) X.env) :: starEach [] X.env := by rfl) (hpl : (backTo pos (starEach [.Name y p2] X.env)).any (·.1) = false := by rfl) :
    XI X W ss (.Call (.Name "isinstance" p) [e1, .Name y p2] [] pos) (m.bind fun x => isE2 tab x) := by
  obtain ⟨v, cv, hn, hr, hu, ht⟩ := T
  have hy : PE X (.Name y p2) (tC v) := by
    rcases hn with h1 | ⟨h1, h2, h3⟩
    · exact pe_glob hgy h1 hr hdb
    · exact pe_bltn hgy h1 h2 hr h3 hdb
  refine PE_imp (pe_callB call_isV hg hm (by decide +kernel) (pa_cons h (pa_cons hy pa_nil he2) he) (by decide) (by decide) he hpl) fun σ H Q ⟨sl, q⟩ => ⟨sl, wpR_imp (wpR_bind q) (Same.refl H) fun x q u H1 s1 r1 => ?_⟩
  obtain ⟨a, C, d, ob, wh, rfl, gC, ha, hex, hp⟩ := r1
  unfold isE2 at q
  cases e2 : lookB tab x.cls with
  | none => rw [e2] at q; exact q.elim
  | some b =>
    rw [e2] at q
    obtain ⟨C', gC', cC, kC⟩ := ht _ _ e2
    have : C' = C := Value.ref.inj (Option.some.inj (gC'.symm.trans (by rw [hM]; exact gC)))
    subst this
    exact ⟨a, C', d, ob, wh, v, cv, b, rfl, ⟨ha, hex⟩, cC, hu, kC, dOk_of hp, q _ H1 s1 rfl⟩
theorem xi_isVs {m : Res Exn} {es : List Expr} {ts : List ETab} {p p2 pos : Pos} {j : Nat} (h : XI X W ss e1 m) (T : ITs X es ts) (hm : X.mg "isinstance" = none) (hM : X.mg = Md.mg := by rfl) (hne : es ≠ [] := by exact fun z => nomatch z) (hlen : es.length ≤ 100 := by decide) (hg : Gl X "isinstance" := by rfl)
    (he : starEach [e1, .Tuple es j p2] X.env = (false, eval e1 X.env) :: starEach [.Tuple es j p2] X.env := by rfl) (he2 : starEach [.Tuple es j p2] X.env = (false, eval (.Tuple es j p2) X.env) :: starEach [] X.env := by rfl) (hpl : (backTo pos (starEach [.Tuple es j p2] X.env)).any (·.1) = false := by rfl) :
    XI X W ss (.Call (.Name "isinstance" p) [e1, .Tuple es j p2] [] pos) (m.bind fun x => isE2s ts x) := by
  obtain ⟨vs, cvs, pa, hv, hk, hl⟩ := its_pa T
  refine PE_imp (pe_callB call_isVT hg hm (by decide +kernel) (pa_cons h (pa_cons (pe_tup pa) pa_nil he2) he) (by decide) (by decide) he hpl) fun σ H Q ⟨sl, q⟩ => ⟨sl, wpR_imp (wpR_bind q) (Same.refl H) fun x q u H1 s1 r1 => ?_⟩
  obtain ⟨a, C, d, ob, wh, rfl, gC, ha, hex, hp⟩ := r1
  unfold isE2s at q
  cases e2 : lookBs ts x.cls with
  | none => rw [e2] at q; exact q.elim
  | some b =>
    rw [e2] at q
    have gC' : X.mg x.cls = some (.ref C) := by rw [hM]; exact gC
    have cC := its_exc T gC' e2 hne
    exact ⟨by rw [hl]; exact Nat.le_trans hlen (by decide), fun t ht => ⟨a, C, d, ob, wh, t, vs, cvs, b, rfl, ⟨same_upd ht _ _ ha, hex⟩, cC, upd_same, hv, hk _ _ _ gC' e2, dOk_of (payRep_mono (same_upd ht) hp), q _ _ (s1.trans (same_upd ht)) rfl⟩⟩
/-- v.row -/
theorem xi_rowV {m : Res Exn} {pos : Pos} (c : HasRow X.K X.mg) (h : XI X W ss e1 m) (hM : X.mg = Md.mg := by rfl) (hb : attributeBase e1 "row" X.env (eval e1 X.env) = eval e1 X.env := by rfl) :
    XI X W ss (.Attribute e1 "row" pos) (m.bind fun x => rowR x) := by
  obtain ⟨C, fI, T⟩ := c
  refine ⟨fun pins s σ H Q I ⟨sl, q⟩ => ?_⟩
  refine attr_of hb (thn (h.run pins s σ H _ I ⟨sl, wpR_imp (wpR_bind q) (Same.refl H) fun x q u H1 s1 r1 => (⟨s1, x, r1, q⟩ : Same H H1 ∧ ∃ x, Enc.rep X.K H1 u x ∧ wpR X W (rowR x) σ H fun a => ∀ v H', Same H H' → Enc.rep X.K H' v a → Q v H')⟩) fun u s1 hh => ?_)
  obtain ⟨w, H1, I1, rw1, s1', x, ⟨a, C', d, ob, wh, rfl, gC, ha, hex, hp⟩, q⟩ := hh
  obtain rfl : u = Value.ref a := rw1
  unfold rowR at q
  cases e : x.pay with
  | no => rw [e] at q; exact q.elim
  | int r =>
    rw [e] at q hp
    by_cases hn : x.cls = "NoText"
    · have q : wpR X W (if x.cls = "NoText" then Res.ok r else .stuck) σ H _ := q
      rw [if_pos hn] at q
      obtain ⟨dd, ed, hd⟩ := hp
      have ec : C = C' := Value.ref.inj (Option.some.inj (T.gC.symm.trans (by rw [← hn, hM]; exact gC)))
      subst ec; subst ed
      obtain ⟨oe, vs, he, hz, hv⟩ := isEx_at I1.hok ha hex
      obtain ⟨mA, hns, hr⟩ := (show ObjOk X.prog X.w H1 s1.heap dd (.xd [(("row" : Str), V.int r)]) from I1.hok dd _ hd)
      obtain ⟨od, ho, hl⟩ := lookIn_ns hns
      have l : List.lookup ("row" : Str) [(("row" : Str), V.int r)] = some (V.int r) := by simp [List.lookup]
      obtain ⟨u, hu, ru⟩ := RelO.some_of (v := V.int r) (o := mA "row") (by rw [← l]; exact hr "row")
      have J : PySem.W.InstAt s1.heap a oe C (some od) := ⟨he, hz.1, by unfold PySem.W.notCls; rw [hv] <;> rfl, by rw [hz.2]; exact ho⟩
      exact HandSPX.exc_get I1.kIn J T.ga T.gg T.exC (PySem.W.findObj_own T.hdC T.noN rfl (by rw [hl, hu])) (handed_of ru) ⟨.int r, H1, I1.tok _, ru, q _ H1 s1' rfl⟩
    · have q : wpR X W (if x.cls = "NoText" then Res.ok r else .stuck) σ H _ := q
      rw [if_neg hn] at q
      exact q.elim
  | _ => rw [e] at q; exact q.elim
end
/-! ### index, count -/
section
variable {X : Cx} {W : WX} {ss : List Slot} {e1 e2 : Expr}
def rCountD (K : Frag) : V → List V → Hp → VK → Prop := fun x xs H Q => ∃ (a : Addr) (y : V) (d : PyData) (ds : List PyData), x = V.ref a ∧ xs = [y] ∧ Dp K H (V.ref a) (.list ds) ∧ Dp K H y d ∧
  SeqAt.shaped (.list ds) = true ∧ SeqAt.shaped d = true ∧ Q (.int (ds.countP fun z => PyData.eqv z d : Nat)) H
theorem mt_countD (hu : X.A.units + 65 < cLine) : MtR X "list.count" (rCountD X.K) := by
  rintro pins s σ H _ _ _ _ Q I rx rv ⟨a, y, d, ds, rfl, rfl, dl, dy, shl, shd, want⟩
  cases rx
  obtain ⟨u, rfl, ru⟩ := rv.one
  obtain ⟨bs, rd⟩ := Dp.reads I d y u dy ru
  rcases dl with - | - | - | - | ⟨sq, all⟩ | -
  obtain ⟨its, vals, ⟨ob, n, at_, isL, nd, dat⟩, small⟩ := I.list sq
  obtain ⟨oc, odd, oda, osl⟩ := ob
  dsimp only at isL dat
  subst isL dat
  obtain ⟨as, each⟩ := Dp.readsAll I ds _ its all vals
  have lay := SeqAt.canLay_of_shaped shl
  have lay : PyData.canLayAll0 ds = true := lay
  have items := SeqAt.items_eqAt (vs := its.toArray) (A := X.A) (show ReadsAll s.heap its.toArray.toList ds as from each) rd lay (SeqAt.canLay_of_shaped shd) (room_in_shaped shd hu)
  have told : its.toArray.toList.countP (fun z => PyData.eqv (SeqAt.readOf s.heap z) d) = ds.countP fun z => PyData.eqv z d := by
    conv => rhs; rw [← SeqAt.readsAll_map ds its as lay each, List.countP_map]
    rfl
  refine call_meets PySem.F.slot_list_count ⟨_, at_, rfl⟩ PySem.F.entry_list_count (PySem.F.args_list_count_2 (.ref a) u) (SeqAt.list_countAt a its.toArray n odd osl u _) ⟨at_, items, ?_⟩
  refine ⟨.int (ds.countP fun z => PyData.eqv z d : Nat), H, I.tok _, ⟨s.toks, ?_⟩, want⟩
  exact congrArg (fun k : Nat => Value.int (k : Int) s.toks) told
def countD {α : Type} [Enc α] [Dat α] (xs : List α) (a : α) : Res Int := guardR (Dat.lay a && Dat.lay xs) (.ok ((xs.countP fun z => PyData.eqv (Dat.py z) (Dat.py a) : Nat) : Int))
def indexD {α : Type} [Enc α] [Dat α] (xs : List α) (a : α) : Res Int := guardR (Dat.lay a && Dat.lay xs) (match xs.findIdx? fun z => PyData.eqv (Dat.py z) (Dat.py a) with
  | some j => .ok (j : Int)
  | none => .stuck)
theorem xi_countD {α : Type} [Enc α] [Dat α] {m : Res (List α)} {ma : Res α} {apos cpos : Pos} (hu : X.A.units + 65 < cLine) (h : XI X W ss e1 m) (h2 : XI X W ss e2 ma) (hd : Dat.dep α + 1 ≤ 64 := by decide)
    (hbase : attributeBase e1 "count" X.env (eval e1 X.env) = eval e1 X.env := by rfl)
    (hfew : ((backTo cpos (starEach [e2] X.env)).all (fun x => !x.1) && (backToKw cpos (keywordEach [] X.env)).all (fun x => x.1.isSome)
      && decide (([e2] : List Expr).length + ([] : List Keyword).length + (if ([] : List Keyword).isEmpty then 0 else 1) < 30)) = true := by rfl)
    (hline : (apos.endLine == cpos.line) = true := by rfl) (hs : starEach [e2] X.env = (false, eval e2 X.env) :: starEach [] X.env := by rfl) (hplain : (backTo cpos (starEach [] X.env)).any (·.1) = false := by rfl) :
    XI X W ss (.Call (.Attribute e1 "count" apos) [e2] [] cpos) (m.bind fun xs => ma.bind fun a => countD xs a) := by
  refine PE_imp (pe_bm PySem.F.plainAttrs_list PySem.F.slot_list_count PySem.F.type_list_count (mt_countD hu) h (pa_cons h2 pa_nil hs) hbase hfew hline hs hplain) fun σ H Q ⟨sl, q⟩ => ⟨sl, wpR_imp (wpR_bind q) (Same.refl H) fun xs q v H1 s1 r1 => ?_⟩
  have r1' := r1
  obtain ⟨p, vs, rfl, hp, r⟩ := r1
  refine ⟨.inl ⟨rfl, vs, SqL.of hp⟩, sl.mono s1 s1, wpR_imp (wpR_bind q) s1 fun a q u H2 s2 r2 => ?_⟩
  unfold countD at q
  cases g : (Dat.lay a && Dat.lay xs) with
  | false => rw [g] at q; exact q.elim
  | true =>
    rw [g] at q
    rw [Bool.and_eq_true] at g
    refine ⟨p, u, _, xs.map Dat.py, rfl, rfl, Dat.dp (Enc.mono s2 r1'), Dat.dp r2, shaped_of (a := xs) g.2 hd, shaped_of g.1 (Nat.le_of_succ_le hd), ?_⟩
    rw [List.countP_map]
    exact q _ H2 (s1.trans s2) rfl
theorem xi_indexD {α : Type} [Enc α] [Dat α] {m : Res (List α)} {ma : Res α} {apos cpos : Pos} (hu : X.A.units + 65 < cLine) (h : XI X W ss e1 m) (h2 : XI X W ss e2 ma) (hd : Dat.dep α + 1 ≤ 64 := by decide)
    (hbase : attributeBase e1 "index" X.env (eval e1 X.env) = eval e1 X.env := by rfl)
    (hfew : ((backTo cpos (starEach [e2] X.env)).all (fun x => !x.1) && (backToKw cpos (keywordEach [] X.env)).all (fun x => x.1.isSome)
      && decide (([e2] : List Expr).length + ([] : List Keyword).length + (if ([] : List Keyword).isEmpty then 0 else 1) < 30)) = true := by rfl)
    (hline : (apos.endLine == cpos.line) = true := by rfl) (hs : starEach [e2] X.env = (false, eval e2 X.env) :: starEach [] X.env := by rfl) (hplain : (backTo cpos (starEach [] X.env)).any (·.1) = false := by rfl) :
    XI X W ss (.Call (.Attribute e1 "index" apos) [e2] [] cpos) (m.bind fun xs => ma.bind fun a => indexD xs a) := by
  refine PE_imp (pe_bm PySem.F.plainAttrs_list PySem.F.slot_list_index PySem.F.type_list_index (mt_indexD hu) h (pa_cons h2 pa_nil hs) hbase hfew hline hs hplain) fun σ H Q ⟨sl, q⟩ => ⟨sl, wpR_imp (wpR_bind q) (Same.refl H) fun xs q v H1 s1 r1 => ?_⟩
  have r1' := r1
  obtain ⟨p, vs, rfl, hp, r⟩ := r1
  refine ⟨.inl ⟨rfl, vs, SqL.of hp⟩, sl.mono s1 s1, wpR_imp (wpR_bind q) s1 fun a q u H2 s2 r2 => ?_⟩
  unfold indexD at q
  cases g : (Dat.lay a && Dat.lay xs) with
  | false => rw [g] at q; exact q.elim
  | true =>
    rw [g] at q
    rw [Bool.and_eq_true] at g
    have q : wpR X W (match xs.findIdx? fun z => PyData.eqv (Dat.py z) (Dat.py a) with | some j => .ok (j : Int) | none => Res.stuck) σ H _ := q
    cases ef : xs.findIdx? fun z => PyData.eqv (Dat.py z) (Dat.py a) with
    | none => rw [ef] at q; exact q.elim
    | some j =>
      rw [ef] at q
      obtain ⟨hj, hz, hno⟩ := List.findIdx?_eq_some_iff_getElem.mp ef
      refine ⟨p, u, _, xs.map Dat.py, j, Dat.py xs[j], rfl, rfl, Dat.dp (Enc.mono s2 r1'), Dat.dp r2, shaped_of (a := xs) g.2 hd, shaped_of g.1 (Nat.le_of_succ_le hd), by rw [List.getElem?_map, List.getElem?_eq_getElem hj]; rfl, hz, fun m z' hm hz' => ?_, q _ H2 (s1.trans s2) rfl⟩
      have hml : m < xs.length := Nat.lt_trans hm hj
      rw [List.getElem?_map, List.getElem?_eq_getElem hml] at hz'
      have hz' : Dat.py xs[m] = z' := Option.some.inj hz'
      rw [← hz']
      exact Bool.eq_false_iff.mpr (hno m hm)
end
end G

/-! dicts that are locked, and walked -/
namespace G
open PySem PySem.Spec PyProof.Rows L2
section
variable {κ β : Type} [Enc κ] [DecidableEq κ] [DK κ] [Enc β]
/-- a dict that nobody can change any more -/
def fzd (d : Dic κ β) : Slot :=
  ⟨fun K F _ o => ∃ p kvs ob, o = some (.ref p) ∧ F p = some (.frz ob (DK.ho kvs)) ∧ RepD K F kvs d.l, fun s _ ⟨p, kvs, ob, e, h, r⟩ => ⟨p, kvs, ob, e, s _ _ h, r.mono s⟩⟩
instance : View (fzd (κ := κ) (β := β)) := ⟨fun ⟨p, kvs, ob, e, g, r⟩ => by cases e; exact ⟨p, kvs, rfl, .inr ⟨ob, g⟩, r⟩⟩
variable {X : Cx} {W : WX} {ss : List Slot}
theorem xi_fzd (i : Nat) {d : Dic κ β} {x : Str} {pos : Pos} (hs : ss[i]? = some (fzd d) := by rfl) (hp : PE X (.Name x pos) (tVar i) := by exact pv _) : XI X W ss (.Name x pos) (.ok d) := by
  refine PE_imp hp fun σ H Q ⟨sl, q⟩ => ?_
  obtain ⟨o, ho, p, kvs, ob, e, g, r⟩ := sl.get hs
  subst e
  exact ⟨.ref p, ho, q _ H (Same.refl H) ⟨p, kvs, rfl, .inr ⟨ob, g⟩, r⟩⟩
theorem xk_fzd (i : Nat) {d : Dic κ β} {x : Str} {pos : Pos} (hs : ss[i]? = some (fzd d) := by rfl) (hp : PE X (.Name x pos) (tVar i) := by exact pv _) : XK X W ss (.Name x pos) (.ok d) fr := by
  refine PE_imp hp fun σ H Q ⟨F, sf, sl, q⟩ => ?_
  obtain ⟨o, ho, p, kvs, ob, e, g, r⟩ := sl.get hs
  subst e
  exact ⟨.ref p, ho, q _ H F noHp (Same.refl H) ⟨Same.refl F, sf, fun _ _ h => .inl h⟩ priv_no ⟨_, rfl, p, kvs, rfl, .inr ⟨ob, g⟩, r⟩⟩
/-- from here on it is locked -/
theorem lockG {w : Ends → Hp → Hp → Prop} (i : Nat) {d : Dic κ β} {sts : List Stmt} (h : PSs X sts (rdX X (ss.set i (fzd d)) w)) (hs : ss[i]? = some (owd d)) : PSs X sts (rdX X ss w) := by
  refine ⟨fun pins s σ H D I ⟨B, F0, F, Gs, A, q⟩ => ?_⟩
  obtain ⟨G, o, hG, hσ, p, kvs, e, g, r⟩ := A.all.get hs
  subst e
  have mG := List.mem_of_getElem? hG
  obtain ⟨h1, h2, h3, h4⟩ := A.priv G mG _ _ g
  obtain ⟨ob, J⟩ := I.lock h1 (DK.mutH kvs)
  have sF : Same F (upd F p (.frz ob (DK.ho kvs))) := same_upd h3
  have other : ∀ {j : Nat} {G' : Hp}, j ≠ i → Gs[j]? = some G' → G' p = none := fun {j G'} hj e => by
    have a := List.getElem?_eq_some_iff.mp e
    have b := List.getElem?_eq_some_iff.mp hG
    have dj : G' p = none ∨ G p = none := by
      rcases Nat.lt_or_gt_of_ne hj with z | z
      · have := List.pairwise_iff_getElem.mp A.dj j i a.1 b.1 z p
        rw [a.2, b.2] at this
        exact this
      · have := List.pairwise_iff_getElem.mp A.dj i j b.1 a.1 z p
        rw [a.2, b.2] at this
        exact this.symm
    exact dj.elim id fun z => by rw [z] at g; cases g
  refine h.run pins s σ _ D J ⟨B, F0, upd F p (.frz ob (DK.ho kvs)), Gs.set i noHp, ⟨⟨A.ext.le.trans sF, fun c u z => ?_, fun c u z => ?_⟩, fun c u z => ?_, ?_, fun G' m c u z => ?_, pw_set i A.dj fun G' _ c => .inl rfl⟩, q⟩
  · by_cases ec : c = p
    · rw [ec] at z ⊢
      rw [upd_same] at z ⊢
      exact z
    · rw [upd_ne ec] at z ⊢
      exact A.ext.sub _ _ z
  · by_cases ec : c = p
    · rw [ec]; exact .inr (.inl h2)
    · rw [upd_ne ec] at z; exact A.ext.new c u z
  · rw [upd_ne (fun ec => by rw [ec, h2] at z; cases z)]
    exact A.base _ _ z
  · have es := set_self hσ
    rw [← es]
    exact (A.all.mono sF).set (s := fzd d) (G := noHp) (o := some (.ref p)) ⟨p, kvs, ob, rfl, upd_same, r.mono sF⟩ i
  · obtain ⟨j, hj⟩ := List.getElem?_of_mem m
    by_cases hji : j = i
    · subst hji
      rw [List.getElem?_set_self (List.getElem?_eq_some_iff.mp hG).1] at hj
      rw [← Option.some.inj hj] at z; cases z
    · rw [List.getElem?_set_ne (Ne.symm hji)] at hj
      have cp : c ≠ p := fun ec => by rw [ec, other hji hj] at z; cases z
      obtain ⟨k1, k2, k3, k4⟩ := A.priv G' (List.mem_of_getElem? hj) c u z
      exact ⟨(upd_ne cp).trans k1, k2, (upd_ne cp).trans k3, k4⟩
theorem st_lockd (i : Nat) {d : Dic κ β} {R : Type} {e : Bool} {sts : List Stmt} {M : Res R} {kr : R → Slot} (h : ST X W e (ss.set i (fzd d)) sts M kr) (hs : ss[i]? = some (owd d) := by rfl) : ST X W e ss sts M kr := lockG i h hs
theorem sn_lockd (i : Nat) {d : Dic κ β} {S : Type} {sts : List Stmt} {M : Res S} {post : S → List Slot} (h : SN X W (ss.set i (fzd d)) sts M post) (hs : ss[i]? = some (owd d) := by rfl) : SN X W ss sts M post := lockG i h hs
theorem sb_lockd (i : Nat) {d : Dic κ β} {S L R : Type} {sts : List Stmt} {M : Res (Out S L R)} {post : S → List Slot} {pl : L → List Slot} {kr : R → Slot} (h : SB X W (ss.set i (fzd d)) sts M post pl kr) (hs : ss[i]? = some (owd d) := by rfl) : SB X W ss sts M post pl kr := lockG i h hs
end
/-- how a dict's keys are walked -/
class DKI (κ : Type) [Enc κ] [DecidableEq κ] [DK κ] where
  it : Addr → Obj → List (κ × V) → It
  pi : ∀ {X : Cx} {tg e : Expr} {j : Nat}, PE X e (tVar j) → PI X tg e (fun σ H R => ∃ d o kvs, σ[j]? = some (some (V.ref d)) ∧ H d = some (.frz o (DK.ho (κ := κ) kvs)) ∧ R (it d o kvs) H)
  go : ∀ {H : Hp} {d : Addr} {o : Obj} {kvs : List (κ × V)} {i : Nat}, H d = some (.frz o (DK.ho kvs)) → i < kvs.length → (it d o kvs).go i H
  yld : ∀ {K : Frag} {H H' : Hp} {d : Addr} {o : Obj} {kvs : List (κ × V)} {i : Nat} {v : V}, (it d o kvs).yld i H v H' → H' = H ∧ ∃ kv, kvs[i]? = some kv ∧ Enc.rep K H v kv.1
  stop : ∀ {H : Hp} {d : Addr} {o : Obj} {kvs : List (κ × V)} {i : Nat}, H d = some (.frz o (DK.ho kvs)) → kvs.length ≤ i → (it d o kvs).stop i H
theorem get_map {α γ : Type} {f : α → γ} {l : List α} {i : Nat} {b : γ} (h : (l.map f)[i]? = some b) : ∃ a, l[i]? = some a ∧ f a = b := by
  rw [List.getElem?_map] at h
  cases e : l[i]? with
  | none => rw [e] at h; cases h
  | some a => rw [e] at h; exact ⟨a, rfl, Option.some.inj h⟩
def kI (kvs : List (Int × V)) : List (Key × V) := kvs.map fun kv => (Sum.inl kv.1, kv.2)
def kS (kvs : List (Str × V)) : List (Key × V) := kvs.map fun kv => (Sum.inr kv.1, kv.2)
def kP (kvs : List ((Int × Int) × V)) : List (List Key × V) := kvs.map fun kv => (key2 kv.1, kv.2)
theorem kI_len (kvs : List (Int × V)) : (kI kvs).length = kvs.length := List.length_map _
theorem kS_len (kvs : List (Str × V)) : (kS kvs).length = kvs.length := List.length_map _
theorem kP_len (kvs : List ((Int × Int) × V)) : (kP kvs).length = kvs.length := List.length_map _
instance : DKI Int where
  it := fun d o kvs => Itk d o (kI kvs)
  pi := fun he => PI_imp (pi_keys he) fun σ H R ⟨d, o, kvs, e, h, q⟩ => ⟨.ref d, e, d, o, rfl, .inl ⟨kI kvs, h, q⟩⟩
  go := fun {_ _ _ kvs _} h hi => ⟨h, by rw [kI_len]; exact hi⟩
  yld := fun ⟨e, k, v, h, hx⟩ => by
    obtain ⟨kv, q, z⟩ := get_map h
    cases z
    exact ⟨e, kv, q, hx⟩
  stop := fun {_ _ _ kvs _} h hi => ⟨h, by rw [kI_len]; exact hi⟩
instance : DKI Str where
  it := fun d o kvs => Itk d o (kS kvs)
  pi := fun he => PI_imp (pi_keys he) fun σ H R ⟨d, o, kvs, e, h, q⟩ => ⟨.ref d, e, d, o, rfl, .inl ⟨kS kvs, h, q⟩⟩
  go := fun {_ _ _ kvs _} h hi => ⟨h, by rw [kS_len]; exact hi⟩
  yld := fun ⟨e, k, v, h, hx⟩ => by
    obtain ⟨kv, q, z⟩ := get_map h
    cases z
    exact ⟨e, kv, q, hx⟩
  stop := fun {_ _ _ kvs _} h hi => ⟨h, by rw [kS_len]; exact hi⟩
instance : DKI (Int × Int) where
  it := fun d o kvs => Itkt d o (kP kvs)
  pi := fun he => PI_imp (pi_keys he) fun σ H R ⟨d, o, kvs, e, h, q⟩ => ⟨.ref d, e, d, o, rfl, .inr ⟨kP kvs, h, q⟩⟩
  go := fun {_ _ _ kvs _} h hi => ⟨h, by rw [kP_len]; exact hi⟩
  yld := fun ⟨e, k, v, a, h, hx, ha⟩ => by
    obtain ⟨kv, q, z⟩ := get_map h
    cases z
    exact ⟨e, kv, q, a, .int kv.1.1, .int kv.1.2, hx, ha, rfl, rfl⟩
  stop := fun {_ _ _ kvs _} h hi => ⟨h, by rw [kP_len]; exact hi⟩
section
variable {κ β : Type} [Enc κ] [DecidableEq κ] [DK κ] [DKI κ] [Imm κ] [Enc β] {X : Cx} {W : WX} {ss : List Slot}
/-- for k in d -/
theorem it_keys (i : Nat) {d : Dic κ β} {tg : Expr} {x : Str} {pos : Pos} (hs : ss[i]? = some (fzd d) := by rfl) (hp : PE X (.Name x pos) (tVar i) := by exact pv _) : XIt X W ss tg (.Name x pos) (.ok (dkeys d)) := by
  refine PI_imp (DKI.pi (κ := κ) hp) fun σ H R ⟨F, sf, sl, q⟩ => ?_
  obtain ⟨o, ho, p, kvs, ob, e, g, r⟩ := sl.get hs
  subst e
  have rl : kvs.length = d.l.length := r.length
  refine ⟨p, ob, kvs, ho, sf _ _ g, q _ H F (Same.refl H) (ext_refl sf) ⟨fun i F2 H2 a sa sb hi => ⟨DKI.go (sb _ _ (sa _ _ g)) ?_, fun v H' y => ?_⟩, fun i F2 H2 sa sb hi => DKI.stop (sb _ _ (sa _ _ g)) ?_⟩⟩
  · obtain ⟨kv, q, _⟩ := get_map hi
    rw [rl]
    exact (List.getElem?_eq_some_iff.mp q).1
  · obtain ⟨eH, kv, hk, rk⟩ := DKI.yld (K := X.K) y
    subst eH
    obtain ⟨kb, hb, eb⟩ := get_map hi
    obtain ⟨kv', hk', rel, _⟩ := r.get hb
    have : kv' = kv := Option.some.inj (hk'.symm.trans hk)
    subst this
    rw [rel, eb] at rk
    exact ⟨Same.refl _, join F2 (tups H'), ext_imm sb (Same.refl _), Enc.mono (join_r sb (tups_le H')) (Imm.imm rk)⟩
  · rw [rl]
    unfold dkeys at hi
    rw [List.length_map] at hi
    exact hi
end
end G

/-! refusals that are made and kept, never raised -/
namespace G
open PySem PySem.Spec PyProof.Rows L2
theorem isEx_o {cls : Value} {a : Addr} : IsEx (ExO cls a) cls none a := ⟨_, rfl, fun _ ⟨oe, vs, q1, q2, q3, _⟩ => ⟨oe, vs, q1, q2, q3⟩⟩
theorem upd_upd {H : Hp} {a : Addr} {u v : HO} : upd (upd H a u) a v = upd H a v := by
  funext b
  by_cases e : b = a
  · rw [e, upd_same, upd_same]
  · rw [upd_ne e, upd_ne e, upd_ne e]
theorem PE_up {X : Cx} {e : Expr} {t : TE} (h : PE X e t) : PE X e (fun σ H Q => ∃ Q0 : VK, t σ H Q0 ∧ ∀ v H', Q0 v H' → Q v H') :=
  ⟨fun pins s σ H Q I ⟨Q0, w, up⟩ => wpAny_mono (h.run pins s σ H Q0 I w) (fun _ _ ⟨x, H', J, r, q⟩ => ⟨x, H', J, r, up _ _ q⟩) fun _ _ z => z⟩
section
variable {X : Cx} {C fI : Addr}
/-- X('..'), locked -/
theorem pe_mkX {x : Str} {e : Expr} {ta : TE} {p pos : Pos} (q : PySem.W.excIn X.K C vB "ValueError.__new__" = true) (gC : X.mg x = some (.ref C)) (kC : PySem.W.keepIn X.K (.ref C) = true) (hg : Gl X x)
    (he : PE X e ta) (hs : starEach [e] X.env = (false, eval e X.env) :: starEach [] X.env := by rfl) (hdb : (x == ("__debug__" : Str)) = false := by decide) :
    PE X (.Call (.Name x p) [e] [] pos) (fun σ H Q => ta σ H fun _ H1 => ∀ a ob, H1 a = none → Q (.ref a) (upd H1 a (.frz ob (ExO (.ref C) a)))) := by
  refine ⟨fun pins s σ H Q I want => ?_⟩
  have made := (pe_exc1 (p := p) (pos := pos) PySem.F.excBase_ValueError q gC kC hg (PE_up he) hs hdb).run pins s σ H (fun v H2 => ∃ a, v = V.ref a ∧ H2 a = some (ExO (.ref C) a) ∧ ∀ ob, Q v (upd H2 a (.frz ob (ExO (.ref C) a)))) I
    ⟨_, want, fun v H1 w a fresh => ⟨a, rfl, upd_same, fun ob => by rw [upd_upd]; exact w a ob fresh⟩⟩
  refine wpAny_mono made (fun u t ⟨v, H2, J, r, a, e1, e2, w⟩ => ?_) fun _ _ z => z
  obtain ⟨ob, J2⟩ := J.lock e2 trivial
  exact ⟨v, _, J2, r, w ob⟩
/-- NoText(e), locked -/
theorem pe_mkR {a : Expr} {ta : TA} {p pos : Pos} {k : Nat} (T : PySem.RowX.RowTxt X.K X.mg C fI) (hr : Room k X.A) (ha : PA X [a] ta) (hg : Gl X "NoText" := by rfl)
    (he : starEach (a :: []) X.env = (false, eval a X.env) :: starEach [] X.env := by rfl) (hpl : (backTo pos (starEach [] X.env)).any (·.1) = false := by rfl) :
    PE X (.Call (.Name "NoText" p) [a] [] pos) (fun σ H Q => ta σ H fun vs H1 => ∃ v, vs = [v] ∧ ∀ e d oe, H1 d = none → H1 e = none → e ≠ d → Q (.ref e) (upd (upd H1 d (.xd [(("row" : Str), v)])) e (.frz oe (ExV (.ref C) (some d) e)))) := by
  refine ⟨fun pins s σ H Q I want => ?_⟩
  refine wpAny_Call_Name_kw (ld_glob I hg T.gC ?_)
  refine PySem.W.callWith_K (h₀ := X.base) I.ok.mod.kin T.kC (thn (ha.run pos pins s σ H _ I want) fun us s1 ⟨vs, H1, I1, r1, v, ev, q⟩ => ⟨I1.kIn, ?_⟩) he hpl
  subst ev
  obtain ⟨u, rfl, ru⟩ := r1.one
  have lim := I1.nolimit
  obtain ⟨hp, g, dr, tk, os⟩ := s1
  show wpAny _ _ (call (.ref C) [u]) _ _ _
  refine wpAny_call (PySem.RowX.row_made T I1.kIn lim (by have := hr.dp; omega) fun h' tk' e d M => ?_)
  obtain ⟨oe, fv, m1, m2, m3, m4, _⟩ := M.obj
  have J : Inv X pins σ (upd H1 d (.xd [(("row" : Str), v)])) ⟨h', g, dr, tk', os⟩ := I1.laid (t' := tk') M.keep M.dbig ⟨_, M.ns, fun f => relO_row ru f⟩
  have ne : H1 e = none := I1.hok.fresh M.new
  have fresh : (upd H1 d (.xd [(("row" : Str), v)])) e = none := (upd_ne (Ne.symm M.dne)).trans ne
  have above : ∀ {b : Addr} {o : Obj}, hp.get? b = some o → b ≠ e := fun q z => absurd (Heap.lt_size q) (by rw [z]; exact Nat.not_lt.mpr M.new)
  have young : X.s_0.heap.get? e = none := by
    cases q : X.s_0.heap.get? e with
    | none => rfl
    | some o => exact absurd (Nat.lt_of_lt_of_le (Heap.lt_size q) (Nat.le_trans I1.sz M.new)) (Nat.lt_irrefl _)
  have J2 := Inv.adopt J m1 fresh young (fun z => by
    have := I1.lt
    rw [← z] at this
    exact absurd this (Nat.not_lt.mpr M.new)) (fun c z => by rw [m4] at z; cases z) (fun pr m z => above (I1.pin pr m).1 z) (exV_ok (d := some d) m1 ⟨m2, m3⟩ ⟨fv, m4⟩)
  exact ⟨.ref e, _, J2, rfl, q e d oe (I1.hok.fresh M.dbig) ne (Ne.symm M.dne)⟩
end
section
variable [Md] {X : Cx} {W : WX} {ss : List Slot} {e1 : Expr}
theorem xi_mkX {n m : Str} {j : Nat} {p p2 pos : Pos} (c : HasCl X.K X.mg n) (hM : X.mg = Md.mg := by rfl) (hg : Gl X n := by rfl) (hs : starEach [.Constant (.str m) j p2] X.env = (false, eval (.Constant (.str m) j p2) X.env) :: starEach [] X.env := by rfl) (hdb : (n == ("__debug__" : Str)) = false := by decide) :
    XI X W ss (.Call (.Name n p) [.Constant (.str m) j p2] [] pos) (.ok (⟨n, .no⟩ : Exn)) := by
  obtain ⟨C, c, cx⟩ := c
  refine PE_imp (pe_mkX cx c.g c.k hg (xi_str (X := X) (W := W) (ss := ss)) hs hdb) fun σ H Q ⟨sl, q⟩ => ⟨sl, fun v H1 s1 _ a ob fresh => ?_⟩
  exact q _ _ (s1.trans (same_upd fresh)) ⟨a, C, none, ob, _, rfl, by rw [← hM]; exact c.g, upd_same, isEx_o, rfl⟩
theorem xi_mkR {a : Expr} {m : Res Int} {p pos : Pos} {k : Nat} (c : HasRow X.K X.mg) (hr : Room k X.A) (h : XI X W ss a m) (hM : X.mg = Md.mg := by rfl) (hg : Gl X "NoText" := by rfl)
    (he : starEach (a :: []) X.env = (false, eval a X.env) :: starEach [] X.env := by rfl) (hpl : (backTo pos (starEach [] X.env)).any (·.1) = false := by rfl) :
    XI X W ss (.Call (.Name "NoText" p) [a] [] pos) (m.bind fun i => .ok (⟨"NoText", .int i⟩ : Exn)) := by
  obtain ⟨C, fI, T⟩ := c
  refine PE_imp (pe_mkR T hr (pa_cons h pa_nil he) hg he hpl) fun σ H Q ⟨sl, q⟩ => ⟨sl, wpR_imp (wpR_bind q) (Same.refl H) fun i q v H1 s1 r1 => ⟨v, rfl, fun e d oe nd ne hne => ?_⟩⟩
  have r1 : v = V.int i := r1
  subst r1
  have s2 := same_upd (o := HO.xd [(("row" : Str), V.int i)]) nd
  have ne2 : (upd H1 d (HO.xd [(("row" : Str), V.int i)])) e = none := (upd_ne hne).trans ne
  refine q _ _ (s1.trans (s2.trans (same_upd ne2))) ⟨e, C, some d, oe, _, rfl, by rw [← hM]; exact T.gC, upd_same, isEx_v, d, rfl, ?_⟩
  rw [upd_ne (Ne.symm hne), upd_same]
end
end G

namespace PySem
namespace BdsX
open PySem.W PySem.Calls PyProof.Rows PySem.HandSPX
/-! ### the text of __init__ -/
def iA (p1 p2 : Pos) : Arguments := { posonlyargs := [], args := [{ arg := "self", annotation := none, pos := p1 }, { arg := "boards", annotation := none, pos := p2 }], vararg := none, kwonlyargs := [], kw_defaults := [], kwarg := none, defaults := [] }
def iB (q1 q2 q3 q4 : Pos) : List Stmt := [.Assign [.Attribute (.Name "self" q1) "boards" q2] (.Name "boards" q3) q4]
def iS : Scope := { kind := .function, names := [(PySem.Str.ofString "self", .local), (PySem.Str.ofString "boards", .local)], isGenerator := false, isCoroutine := false, more := [] }
/-- what the written part says of Round, at C, and of its __init__, at fI -/
structure BdsTxt (K : Frag) (mg : Str → Option Value) (C fI : Addr) : Prop where
  gC : mg "Round" = some (.ref C)
  cls : ∃ nm q N bs bm sn sub ab col dd k0 k1 k2 k3 k5, K.lookup C = some (excClassObj nm q C N bs bm true sn sub ab col dd k0 k1 k2 k3 k5 "ValueError.__new__") ∧ refsVE bm = true
  sa : findIn K (.ref C) "__setattr__" = some (some (.builtin "object.__setattr__"))
  ga : findIn K (.ref C) "__getattribute__" = some (some (.builtin "BaseException.__getattribute__"))
  gg : findIn K (.ref C) "__getattr__" = some none
  noN : findIn K (.ref C) "boards" = some none
  iC : findIn K (.ref C) "__init__" = some (some (.ref fI))
  tC : typeIn K (.ref fI) = some (.type "function")
  kC : keepIn K (.ref C) = true
  exC : subIn K (.ref C) (.type "BaseException") = some true
  tyC : typeIn K (.ref C) = some (.type "type")
  hdC : hasDictIn K C = true
  te : exmOne K (.ref C) (.ref C) = some true
  fn : ∃ (oc : Value) (od : Option Addr) (doc pm : Value) (an : Option Addr) (cdv ct : Value) (osl : Array (Option Value)) (p1 p2 q1 q2 q3 q4 : Pos),
    K.lookup fI = some ⟨oc, od, .func (fnOf "__init__" "Round.__init__" (iA p1 p2) (iB q1 q2 q3 q4) iS .none .none doc pm an cdv ct), osl⟩ ∧ codeIn K cdv "Round.__init__" = true
theorem one_size (v : Value) : [v].length ≤ sizeLine := by
  rw [sizeLine_eq]
  exact (by decide : 1 ≤ 16777216)
theorem kept_but {K : Frag} {h h' : Heap} {x : Addr} (X : K.In h) (hx : K.lookup x = none) (k : ∀ b o, b ≠ x → h.get? b = some o → h'.get? b = some o) : K.In h' := fun a o e =>
  k a o (fun z => by rw [z, hx] at e; cases e) (X a o e)
theorem ldC {M : Model} {s : Shared} {name : Str} {scope : Scope} {L a : Addr} {cd : Value} {m : Str → Option Value} {x : Str} {pos : Pos} {v : Value} {Q : Value → Shared → Prop} {A : Around} {E : Value → Shared → Prop} (hn : s.heap.Ns L m) (hv : m x = some v) (h : Q v s)
    (hk : scope.kind = .function := by rfl) (hl : (envOfC name scope L a cd).kindOf x = some .local := by rfl) (hd : (x == ("__debug__" : Str)) = false := by decide) :
    wpAny M A (eval (.Name x pos) (envOfC name scope L a cd)) Q E s := wpAny_Name (wpAny_loadName_local hk hl hn hv h) hd
/-- what __init__ leaves of a fresh exception at x -/
structure InitEnd (h h' : Heap) (x C dx t1 : Addr) (v : Value) : Prop where
  keep : ∀ b o, b ≠ x → h.get? b = some o → h'.get? b = some o
  obj : h'.get? x = some { cls := .ref C, dict := some dx, data := .fields #[.ref t1, .none, .none, .none, .bool false, .none] }
  dbig : h.objs.size ≤ dx
  dne : dx ≠ x
  ns : h'.Ns1 dx (fun y => if y = "boards" then some v else none)
/-- a made Round -/
structure OwnMade (h h' : Heap) (e C d : Addr) (v : Value) : Prop where
  keep : ∀ b o, h.get? b = some o → h'.get? b = some o
  new : h.objs.size ≤ e
  obj : ∃ oe vs, h'.get? e = some oe ∧ oe.cls = .ref C ∧ oe.dict = some d ∧ oe.data = .fields vs ∧ vs[1]? = some .none
  dbig : h.objs.size ≤ d
  dne : d ≠ e
  ns : h'.Ns1 d (fun y => if y = "boards" then some v else none)
section
variable {prog : Program} {w : World} {A : Around} {E : Value → Shared → Prop} {R : Result → Shared → Prop} {s : Shared} {K : Frag} {mg : Str → Option Value} {C fI : Addr}
theorem bds_init (T : BdsTxt K mg C fI) {x t0 : Addr} {v : Value} (X : K.In s.heap) (hlim : s.heap.NoLimit) (hx : s.heap.get? x = some (excO C t0)) (hnx : K.lookup x = none) (hroom : A.depth < recursionLimit)
    (hq : ∀ h' tk dx, InitEnd s.heap h' x C dx t0 v → R (.ok (.ret .none)) { s with heap := h', toks := tk }) :
    codeAny (model prog w) A (.call (.ref fI) ⟨[.ref x, v], []⟩) R s := by
  obtain ⟨oc, od, doc, pm, an, cdv, ct, osl, p1, p2, q1, q2, q3, q4, ho, hcd⟩ := T.fn
  obtain ⟨nm, q, N, bs, bm, sn, sub, ab, col, dd, k0, k1, k2, k3, k5, hC, hbm⟩ := T.cls
  have hcl : clsIn K C = some { name := nm, bases := bs, mro := .ref C :: bm, ns := N, qualname := q, hasDict := true, slotNames := sn, subclasses := sub, abstract := ab, collection := col, hasDel := false } := by unfold clsIn; rw [hC] <;> rfl
  refine Att.call_fn (binds := [("self", .ref x), ("boards", v)]) X hlim ho hcd hroom (BindsTo.of_eq (by first | rfl | with_unfolding_all rfl)) (by first | rfl | decide | with_unfolding_all rfl) (fun s₁ IC => ?_) rfl rfl rfl
  obtain ⟨h₁, tk₁, rfl⟩ := IC.toInCall.same
  have k : ∀ b o, s.heap.get? b = some o → h₁.get? b = some o := IC.toInCall.keep
  have hn := IC.toInCall.ns
  have hxL : s.heap.objs.size ≠ x := Nat.ne_of_gt (Heap.lt_size hx)
  have X₁ : K.In h₁ := X.keeps k
  have hx₁ := k _ _ hx
  -- self.by = by
  show wpAny _ _ (execs _ _) _ _ _
  refine wpAny_execs_cons (plainObj_wpAny_Assign_Attribute ?_)
  refine ldC (v := v) hn (by first | rfl | with_unfolding_all rfl | kernel_rfl) (ldC (v := .ref x) hn (by first | rfl | with_unfolding_all rfl | kernel_rfl) ?_)
  refine set_plain X₁ (ox := excO C t0) (od := none) ⟨hx₁, rfl, rfl, trivial⟩ T.sa ?_
  refine exc_osa X₁ hx₁ hcl (show refsVE (.ref C :: bm) = true from hbm) rfl T.noN (fun h₃ tk₃ dx k₃ dn dne hx₃ hn₃ => ?_)
  show wpAny _ _ (execs _ _) _ _ _
  have z : s.heap.objs.size < h₁.objs.size := hn.lt
  exact wpAny_execs_nil (hq h₃ tk₃ dx ⟨fun b o hb e => k₃ b o hb (k b o e), hx₃, Nat.le_of_lt (Nat.lt_of_lt_of_le z dn), dne, hn₃⟩)
theorem bds_made (T : BdsTxt K mg C fI) {v : Value} (X : K.In s.heap) (hlim : s.heap.NoLimit) (hroom : A.depth + 1 < recursionLimit)
    (hq : ∀ h' tk e d, OwnMade s.heap h' e C d v → R (.ok (.ret (.ref e))) { s with heap := h', toks := tk }) :
    codeAny (model prog w) A (.call (.ref C) ⟨[v], []⟩) R s := by
  obtain ⟨nm, q, N, bs, bm, sn, sub, ab, col, dd, k0, k1, k2, k3, k5, hC, hbm⟩ := T.cls
  obtain ⟨hp, g, dr, tk, os⟩ := s
  have k : ∀ b o, hp.get? b = some o → ((hp.push (kdv_tup [v])).push (excO C hp.objs.size)).get? b = some o := fun b o e => Heap.get?_push_of_some _ (Heap.get?_push_of_some _ e)
  have hget : ((hp.push (kdv_tup [v])).push (excO C hp.objs.size)).get? (hp.objs.size + 1) = some (excO C hp.objs.size) := by heap_get
  have hnx : K.lookup (hp.objs.size + 1) = none := by
    cases e : K.lookup (hp.objs.size + 1) with
    | none => rfl
    | some o =>
      have z : hp.get? (hp.objs.size + 1) = some o := X _ _ e
      exact absurd (Nat.lt_of_succ_lt (Heap.lt_size z)) (Nat.lt_irrefl _)
  refine call_own F.excBase_ValueError (fun X => refsVE_contains X bm hbm) (X _ _ hC) (looks_findIn X T.iC) (fun self => bind_fn X self T.tC) (one_size v) ?_
  refine bds_init (s := ⟨(hp.push (kdv_tup [v])).push (excO C hp.objs.size), g, dr, tk, os⟩) T (X.keeps k) (hlim.keeps k) hget hnx ?_ fun h' tk' dx ⟨k', hx, dn, dne, hns⟩ => ?_
  · show A.depth + 1 < recursionLimit
    exact hroom
  · have old : ∀ b o, hp.get? b = some o → h'.get? b = some o := fun b o e => k' b o (Nat.ne_of_lt (Nat.lt_succ_of_lt (Heap.lt_size e))) (k b o e)
    have z : hp.objs.size + 1 + 1 ≤ dx := by
      first
        | (simpa only [Heap.size_push] using dn)
        | exact dn
        | (have q := dn; rw [Heap.size_push, Heap.size_push] at q; exact q)
    exact ⟨rfl, hq h' tk' (hp.objs.size + 1) dx ⟨old, Nat.le_succ _, ⟨_, _, hx, rfl, rfl, rfl, rfl⟩, Nat.le_trans (Nat.le_trans (Nat.le_succ _) (Nat.le_succ _)) z, dne, hns⟩⟩
end
end BdsX
end PySem
namespace L2
open PySem PySem.Spec PyProof.Rows
theorem relO_bds {v : V} {v' : Value} (r : RelV v v') (f : Str) : RelO (List.lookup f [(("boards" : Str), v)]) (if f = "boards" then some v' else none) := by
  by_cases hw : f = "boards"
  · subst hw
    rw [if_pos rfl]
    have q : List.lookup ("boards" : Str) [(("boards" : Str), v)] = some v := by simp [List.lookup]
    rw [q]
    exact r
  · rw [if_neg hw]
    have qw : (f == ("boards" : Str)) = false := by simpa using hw
    have q2 : List.lookup f [(("boards" : Str), v)] = none := by simp [List.lookup, qw]
    rw [q2]
    trivial
section
variable {X : Cx} {C fI : Addr}
/-- Round(e) -/
def tMkBds (C : Addr) (ta : TA) : St → Hp → XK → Prop := fun σ H Q => ta σ H fun vs H1 => ∃ v, vs = [v] ∧ ∀ d, H1 d = none → Q (.ref C) (some d) (upd H1 d (.xd [(("boards" : Str), v)]))
theorem pmk_bds {a : Expr} {ta : TA} {p pos : Pos} {k : Nat} (T : PySem.BdsX.BdsTxt X.K X.mg C fI) (hr : Room k X.A) (ha : PA X [a] ta) (hg : Gl X "Round" := by rfl)
    (he : starEach (a :: []) X.env = (false, eval a X.env) :: starEach [] X.env := by rfl) (hpl : (backTo pos (starEach [] X.env)).any (·.1) = false := by rfl) :
    PMk X (.Call (.Name "Round" p) [a] [] pos) (tMkBds C ta) := by
  intro pins s σ H Q I h
  refine wpAny_Call_Name_kw (ld_glob I hg T.gC ?_)
  refine PySem.W.callWith_K (h₀ := X.base) I.ok.mod.kin T.kC (thn (ha.run pos pins s σ H _ I h) fun us s1 hh => ?_) he hpl
  obtain ⟨vs, H1, I1, r1, v, ev, q1⟩ := hh
  subst ev
  refine ⟨I1.kIn, ?_⟩
  cases r1 with
  | cons rv rn =>
    rename_i v' us'
    cases rn
    show wpAny _ _ (call (.ref C) [v']) _ _ _
    have hlim := I1.nolimit
    obtain ⟨hp, g, dr, tk, os⟩ := s1
    refine wpAny_call (PySem.BdsX.bds_made T I1.kIn hlim (by have := hr.dp; omega) fun h' tk' e d M => ?_)
    show MkP X pins σ Q (.ref e) ⟨h', g, dr, tk', os⟩
    obtain ⟨oe, fv, hoe, hc, hd, hdat, h1⟩ := M.obj
    have hns := M.ns
    obtain ⟨G', g1, g2⟩ := restrict h' fun b => decide (b ≠ e)
    have gk : ∀ b, b ≠ e → G'.get? b = h'.get? b := fun b hb => g1 b (decide_eq_true hb)
    have ge : G'.get? e = none := g2 e (by simp)
    have old : ∀ b o, hp.get? b = some o → G'.get? b = some o := fun b o q => (gk b (Nat.ne_of_lt (Nat.lt_of_lt_of_le (Heap.lt_size q) M.new))).trans (M.keep b o q)
    have ob : ObjOk X.prog X.w (upd H1 d (.xd [(("boards" : Str), v)])) G' d (.xd [(("boards" : Str), v)]) :=
      ⟨_, hns.at (fun o q => (gk d M.dne).trans q), fun f => relO_bds rv f⟩
    have J : Inv X pins σ (upd H1 d (.xd [(("boards" : Str), v)])) ⟨G', g, dr, tk', os⟩ := I1.laid (t' := tk') old M.dbig ob
    refine ⟨e, oe, fv, ⟨G', g, dr, tk', os⟩, _, .ref C, some d, rfl, J, fun b o q => ?_, ge, hoe, ⟨hc, hd⟩, hdat, h1, ?_, rfl, I1.bare, raises_own T.exC T.tyC, q1 d (I1.hok.fresh M.dbig)⟩
    · by_cases hb : b = e
      · have q' : G'.get? b = some o := q
        rw [hb, ge] at q'; cases q'
      · exact (gk b hb).symm.trans q
    · rw [upd_ne (Ne.symm M.dne)]
      exact I1.hok.fresh M.new
end
end L2

/-! Round([..]) made as a value; e.boards -/
namespace G
open PySem PySem.Spec PyProof.Rows L2
/-- the class of the refusals with boards -/
def HasBds (K : Frag) (mg : PySem.Str → Option Value) : Prop := ∃ C fI, PySem.BdsX.BdsTxt K mg C fI
/-- a locked list of texts -/
structure FzL where
  l : List Str
instance : Enc FzL := ⟨fun K H v x => ∃ p, v = .ref p ∧ SqL K H p (x.l.map V.str), fun s ⟨p, e, h⟩ => ⟨p, e, s.seq h⟩⟩
theorem dp_strs {K : Frag} {H : Hp} : ∀ xs : List Str, DpAll K H (xs.map V.str) (xs.map PyData.str)
  | [] => .nil
  | x :: xs => .cons (.str x) (dp_strs xs)
theorem lay_strs : ∀ {xs : List Str}, xs.all PyData.strOk = true → PyData.canLayAll0 (xs.map PyData.str) = true
  | [], _ => by simp [PyData.canLayAll0]
  | x :: xs, h => by
    rw [List.all_cons, Bool.and_eq_true] at h
    simp only [List.map_cons, PyData.canLayAll0, Bool.and_eq_true]
    exact ⟨by simpa [PyData.canLay0] using h.1, lay_strs h.2⟩
theorem dep_strs : ∀ xs : List Str, PyData.depthAll (xs.map PyData.str) ≤ 0
  | [] => by simp [PyData.depthAll]
  | x :: xs => by
    simp only [List.map_cons, PyData.depthAll]
    exact Nat.max_le.mpr ⟨by simp [PyData.depth], dep_strs xs⟩
instance : Dat FzL where
  py := fun x => .list (x.l.map .str)
  dp := fun ⟨p, e, h⟩ => by rw [e]; exact .lst h (dp_strs _)
  lay := fun x => x.l.all PyData.strOk
  dep := 1
  layOk := fun h => by simp only [PyData.canLay0]; exact lay_strs h
  depOk := fun x => by simp only [PyData.depth]; exact Nat.succ_le_succ (dep_strs x.l)
def boardsR (x : Exn) : Res FzL := match x.pay with
  | .strs xs => if x.cls = "Round" then .ok ⟨xs⟩ else .stuck
  | _ => .stuck
theorem same_over {H H' : Hp} {p : Addr} {u : HO} (s : Same H H') (n : H p = none) : Same H (upd H' p u) := fun a w h => by
  rw [upd_ne (fun e => by rw [e, n] at h; cases h)]
  exact s a w h
section
variable {X : Cx} {C fI : Addr}
/-- Round(list), list and refusal locked -/
theorem pe_mkB {a : Expr} {ta : TA} {p pos : Pos} {k : Nat} (T : PySem.BdsX.BdsTxt X.K X.mg C fI) (hr : Room k X.A) (ha : PA X [a] ta) (hg : Gl X "Round" := by rfl)
    (he : starEach (a :: []) X.env = (false, eval a X.env) :: starEach [] X.env := by rfl) (hpl : (backTo pos (starEach [] X.env)).any (·.1) = false := by rfl) :
    PE X (.Call (.Name "Round" p) [a] [] pos) (fun σ H Q => ta σ H fun vs H1 => ∃ (l : Addr) (xs : List V), vs = [V.ref l] ∧ H1 l = some (.lst xs) ∧ ∀ (e d : Addr) (oe ol : Obj) (H2 : Hp), H2 = upd H1 l (.frz ol (.lst xs)) → H2 d = none → H2 e = none → e ≠ d → Q (.ref e) (upd (upd H2 d (.xd [(("boards" : Str), V.ref l)])) e (.frz oe (ExV (.ref C) (some d) e)))) := by
  refine ⟨fun pins s σ H Q I want => ?_⟩
  refine wpAny_Call_Name_kw (ld_glob I hg T.gC ?_)
  refine PySem.W.callWith_K (h₀ := X.base) I.ok.mod.kin T.kC (thn (ha.run pos pins s σ H _ I want) fun us s1 ⟨vs, H1, I1, r1, l, xs, ev, hl, q⟩ => ⟨I1.kIn, ?_⟩) he hpl
  subst ev
  obtain ⟨u, rfl, ru⟩ := r1.one
  obtain ⟨ol, I2⟩ := I1.lock hl trivial
  have lim := I2.nolimit
  obtain ⟨hp, g, dr, tk, os⟩ := s1
  show wpAny _ _ (call (.ref C) [u]) _ _ _
  refine wpAny_call (PySem.BdsX.bds_made T I2.kIn lim (by have := hr.dp; omega) fun h' tk' e d M => ?_)
  obtain ⟨oe, fv, m1, m2, m3, m4, _⟩ := M.obj
  have nd := I2.hok.fresh M.dbig
  have ne := I2.hok.fresh M.new
  have J := I2.laid (t' := tk') (o := .xd [(("boards" : Str), V.ref l)]) M.keep M.dbig ⟨_, M.ns, fun f => relO_bds ru f⟩
  have above : ∀ {b : Addr} {o : Obj}, hp.get? b = some o → b ≠ e := fun q z => absurd (Heap.lt_size q) (by rw [z]; exact Nat.not_lt.mpr M.new)
  have young : X.s_0.heap.get? e = none := by
    cases q : X.s_0.heap.get? e with
    | none => rfl
    | some o => exact absurd (Nat.lt_of_lt_of_le (Heap.lt_size q) (Nat.le_trans I2.sz M.new)) (Nat.lt_irrefl _)
  have J2 := Inv.adopt J m1 ((upd_ne (Ne.symm M.dne)).trans ne) young (fun z => by
    have := I2.lt
    rw [← z] at this
    exact absurd this (Nat.not_lt.mpr M.new)) (fun c z => by rw [m4] at z; cases z) (fun pr m z => above (I2.pin pr m).1 z) (exV_ok (d := some d) m1 ⟨m2, m3⟩ ⟨fv, m4⟩)
  exact ⟨.ref e, _, J2, rfl, q e d oe ol _ rfl nd ne (Ne.symm M.dne)⟩
end
section
variable [Md] {X : Cx} {W : WX} {ss : List Slot} {e1 : Expr}
theorem xi_mkB {a : Expr} {m : Res (List Str)} {p pos : Pos} {k : Nat} (c : HasBds X.K X.mg) (hr : Room k X.A) (h : XK X W ss a m ow) (hM : X.mg = Md.mg := by rfl) (hg : Gl X "Round" := by rfl)
    (he : starEach (a :: []) X.env = (false, eval a X.env) :: starEach [] X.env := by rfl) (hpl : (backTo pos (starEach [] X.env)).any (·.1) = false := by rfl) :
    XI X W ss (.Call (.Name "Round" p) [a] [] pos) (m.bind fun xs => .ok (⟨"Round", .strs xs⟩ : Exn)) := by
  obtain ⟨C, fI, T⟩ := c
  refine PE_imp (pe_mkB T hr (pa_cons h pa_nil he) hg he hpl) fun σ H Q ⟨sl, q⟩ => ⟨H, Same.refl H, sl, wpR_imp (wpR_bind q) (Same.refl H) fun xs q v H1 F1 G1 s1 _ pr own => ?_⟩
  obtain ⟨l, vs, ev, gl, all⟩ := own
  obtain rfl : v = V.ref l := Option.some.inj ev
  obtain ⟨hl, nl, _, _⟩ := pr _ _ gl
  refine ⟨l, vs, rfl, hl, fun e d oe ol H2 e2 nd ne hne => ?_⟩
  have hv : vs = xs.map V.str := All2.map_eq all
  subst hv
  have t1 : Same H H2 := by rw [e2]; exact same_over s1 nl
  have at2 : H2 l = some (.frz ol (.lst (xs.map V.str))) := by rw [e2, upd_same]
  have t2 := same_upd (o := HO.xd [(("boards" : Str), V.ref l)]) nd
  have t3 := same_upd (o := HO.frz oe (ExV (.ref C) (some d) e)) ((upd_ne hne).trans ne : upd H2 d (HO.xd [(("boards" : Str), V.ref l)]) e = none)
  exact q _ _ (t1.trans (t2.trans t3)) ⟨e, C, some d, oe, _, rfl, by rw [← hM]; exact T.gC, upd_same, isEx_v, d, l, ol, rfl, t3 _ _ upd_same, t3 _ _ (t2 _ _ at2)⟩
/-- v.boards -/
theorem xi_boardsV {m : Res Exn} {pos : Pos} (c : HasBds X.K X.mg) (h : XI X W ss e1 m) (hM : X.mg = Md.mg := by rfl) (hb : attributeBase e1 "boards" X.env (eval e1 X.env) = eval e1 X.env := by rfl) :
    XI X W ss (.Attribute e1 "boards" pos) (m.bind fun x => boardsR x) := by
  obtain ⟨C, fI, T⟩ := c
  refine ⟨fun pins s σ H Q I ⟨sl, q⟩ => ?_⟩
  refine attr_of hb (thn (h.run pins s σ H _ I ⟨sl, wpR_imp (wpR_bind q) (Same.refl H) fun x q u H1 s1 r1 => (⟨s1, x, r1, q⟩ : Same H H1 ∧ ∃ x, Enc.rep X.K H1 u x ∧ wpR X W (boardsR x) σ H fun a => ∀ v H', Same H H' → Enc.rep X.K H' v a → Q v H')⟩) fun u s1 hh => ?_)
  obtain ⟨w, H1, I1, rw1, s1', x, ⟨a, C', d, ob, wh, rfl, gC, ha, hex, hp⟩, q⟩ := hh
  obtain rfl : u = Value.ref a := rw1
  unfold boardsR at q
  cases e : x.pay with
  | «strs» xs =>
    rw [e] at q hp
    by_cases hn : x.cls = "Round"
    · have q : wpR X W (if x.cls = "Round" then Res.ok (⟨xs⟩ : FzL) else .stuck) σ H _ := q
      rw [if_pos hn] at q
      obtain ⟨dd, l, ol, ed, hd, hl⟩ := hp
      have ec : C = C' := Value.ref.inj (Option.some.inj (T.gC.symm.trans (by rw [← hn, hM]; exact gC)))
      subst ec; subst ed
      obtain ⟨oe, vs, he, hz, hv⟩ := isEx_at I1.hok ha hex
      obtain ⟨mA, hns, hr⟩ := (show ObjOk X.prog X.w H1 s1.heap dd (.xd [(("boards" : Str), V.ref l)]) from I1.hok dd _ hd)
      obtain ⟨od, ho, hlk⟩ := lookIn_ns hns
      have look : List.lookup ("boards" : Str) [(("boards" : Str), V.ref l)] = some (V.ref l) := by simp [List.lookup]
      obtain ⟨u, hu, ru⟩ := RelO.some_of (v := V.ref l) (o := mA "boards") (by rw [← look]; exact hr "boards")
      have J : PySem.W.InstAt s1.heap a oe C (some od) := ⟨he, hz.1, by unfold PySem.W.notCls; rw [hv] <;> rfl, by rw [hz.2]; exact ho⟩
      exact HandSPX.exc_get I1.kIn J T.ga T.gg T.exC (PySem.W.findObj_own T.hdC T.noN rfl (by rw [hlk, hu])) (handed_of ru) ⟨.ref l, H1, I1.tok _, ru, q _ H1 s1' ⟨l, rfl, .inl (.inr ⟨ol, hl⟩)⟩⟩
    · have q : wpR X W (if x.cls = "Round" then Res.ok (⟨xs⟩ : FzL) else .stuck) σ H _ := q
      rw [if_neg hn] at q
      exact q.elim
  | _ => rw [e] at q; exact q.elim
end
end G

/-! a pair of ints that was made here, or anything -/
namespace G
open PySem PySem.Spec PyProof.Rows L2
inductive OrP where
  | pr (x : Int × Int)
  | dy (d : Dy)
instance : Inhabited OrP := ⟨.dy .non⟩
instance : Enc OrP := ⟨fun K H v o => match o with
    | .pr x => Enc.rep K H v x
    | .dy d => Enc.rep K H v d,
  fun {K H H' v o} s h => by
    cases o with
    | pr x => exact Enc.mono (α := Int × Int) s h
    | dy d => exact Enc.mono (α := Dy) s h⟩
instance : ToDy OrP := ⟨fun o => match o with
    | .pr x => ToDy.dy x
    | .dy d => d,
  fun {K H v o} h => by
    cases o with
    | pr x => exact ToDy.rep (α := Int × Int) h
    | dy d => exact h⟩
/-- the pair, where one was made -/
def prP : OrP → Res (Int × Int)
  | .pr x => .ok x
  | .dy _ => .stuck
section
variable {X : Cx} {W : WX} {ss : List Slot} {e : Expr}
theorem xk_prI {m : Res (Int × Int)} (h : XK X W ss e m fr) : XK X W ss e (m.bind fun x => .ok (OrP.pr x)) fr :=
  PE_imp h fun σ H Q ⟨F, sf, sl, q⟩ => ⟨F, sf, sl, wpR_imp (wpR_bind q) (Same.refl H) fun x q v H' F' G' s ex own ⟨v', e1, r⟩ => q v H' F' G' s ex own ⟨v', e1, r⟩⟩
theorem xk_dyI {m : Res Dy} (h : XK X W ss e m fr) : XK X W ss e (m.bind fun x => .ok (OrP.dy x)) fr :=
  PE_imp h fun σ H Q ⟨F, sf, sl, q⟩ => ⟨F, sf, sl, wpR_imp (wpR_bind q) (Same.refl H) fun x q v H' F' G' s ex own ⟨v', e1, r⟩ => q v H' F' G' s ex own ⟨v', e1, r⟩⟩
theorem xi_prI {m : Res (Int × Int)} (h : XI X W ss e m) : XI X W ss e (m.bind fun x => .ok (OrP.pr x)) :=
  PE_imp h fun σ H Q ⟨sl, q⟩ => ⟨sl, wpR_imp (wpR_bind q) (Same.refl H) fun x q v H' s r => q v H' s r⟩
theorem xi_dyI {m : Res Dy} (h : XI X W ss e m) : XI X W ss e (m.bind fun x => .ok (OrP.dy x)) :=
  PE_imp h fun σ H Q ⟨sl, q⟩ => ⟨sl, wpR_imp (wpR_bind q) (Same.refl H) fun x q v H' s r => q v H' s r⟩
theorem xi_prP {m : Res OrP} (h : XI X W ss e m) : XI X W ss e (m.bind prP) :=
  PE_imp h fun σ H Q ⟨sl, q⟩ => ⟨sl, wpR_imp (wpR_bind q) (Same.refl H) fun x q v H' s r => by
    cases x with
    | pr x => exact q v H' s r
    | dy d => exact q.elim⟩
theorem xk_prP {m : Res OrP} (h : XK X W ss e m fr) : XK X W ss e (m.bind prP) fr :=
  PE_imp h fun σ H Q ⟨F, sf, sl, q⟩ => ⟨F, sf, sl, wpR_imp (wpR_bind q) (Same.refl H) fun x q v H' F' G' s ex own ⟨v', e1, r⟩ => by
    cases x with
    | pr x => exact q v H' F' G' s ex own ⟨v', e1, r⟩
    | dy d => exact q.elim⟩
end
end G
namespace G
open PySem PySem.Spec PyProof.Rows L2
section
variable {X : Cx} {W : WX} {ss : List Slot} {κ β : Type} [Enc κ] [DecidableEq κ] [DK κ] [Enc β]
/-- a dict of one's own is handed back -/
theorem st_retDw (i : Nat) {d : Dic κ β} {ee : Bool} {rest : List Stmt} {x : Str} {rp pos : Pos} (hs : ss[i]? = some (owd d) := by rfl) (hp : PE X (.Name x rp) (tVar i) := by exact pv _) : ST X W ee ss (.Return (some (.Name x rp)) pos :: rest) (.ok d) owd := by
  have back : PS X (.Return (some (.Name x rp)) pos) (rdX X ss fun D B F0 => wpS X W (.ok d) B fun r => RtOk X owd r D B F0) :=
    PS_imp (ps_ret hp) fun D σ H ⟨B, F0, F, Gs, A, q⟩ => by
      obtain ⟨G, o, hG, hσ, p, kvs, e, g, r⟩ := A.all.get hs
      subst e
      exact ⟨.ref p, hσ, q _ H F G A.base A.ext (A.priv G (List.mem_of_getElem? hG)) ⟨p, kvs, rfl, g, r⟩⟩
  exact PSs_imp (rest_free back fun D D' σ H e1 _ _ ⟨B, F0, F, Gs, A, q⟩ => ⟨B, F0, F, Gs, A, wpS_imp q fun r q v H' F' G' a b c d => by rw [e1]; exact q v H' F' G' a b c d⟩)
    fun D σ H ⟨B, F0, F, Gs, A, _, q⟩ => ⟨B, F0, F, Gs, A, q⟩
end
end G

/-! data in a tuple; a thing taken out of one's own list; what is perhaps none, looked into in a loop's suite -/
namespace G
open PySem PySem.Spec PyProof.Rows L2
section
variable {X : Cx}
def rInDT (neg : Bool) (K : Frag) : R2 := fun x y H Q => ∃ d ds, Dp K H x d ∧ Dp K H y (.tuple ds) ∧ SeqAt.shaped d = true ∧ SeqAt.shaped (.tuple ds) = true ∧ Q (.bl (neg != ds.any fun z => PyData.eqv z d)) H
theorem op_inDT (hu : X.A.units + 65 < cLine) : OpR X (compareOp .In) (rInDT false X.K) := by
  rintro pins s σ H _ _ _ _ Q I rx ry ⟨d, ds, dx, dy, shx, shy, want⟩
  obtain ⟨_, ra⟩ := Dp.reads I d _ _ dx rx
  obtain ⟨_, rb⟩ := Dp.reads I (.tuple ds) _ _ dy ry
  have := SeqAt.canLay_of_shaped shy
  refine SeqAt.in_tuple_reads rb ra this (SeqAt.canLay_of_shaped shx) (room_in_shaped shx hu) ⟨.bl _, H, I, rfl, ?_⟩
  rw [Bool.false_bne] at want
  exact want
theorem op_ninDT (hu : X.A.units + 65 < cLine) : OpR X (compareOp .NotIn) (rInDT true X.K) := by
  rintro pins s σ H _ _ _ _ Q I rx ry ⟨d, ds, dx, dy, shx, shy, want⟩
  obtain ⟨_, ra⟩ := Dp.reads I d _ _ dx rx
  obtain ⟨_, rb⟩ := Dp.reads I (.tuple ds) _ _ dy ry
  have := SeqAt.canLay_of_shaped shy
  refine SeqAt.notIn_tuple_reads rb ra this (SeqAt.canLay_of_shaped shx) (room_in_shaped shx hu) ⟨.bl _, H, I, rfl, ?_⟩
  rw [Bool.true_bne] at want
  exact want
end
def inDT {α : Type} [Enc α] [Dat α] (a : α) (xs : Tup α) : Res Bool := guardR (Dat.lay a && Dat.lay xs) (.ok (xs.l.any fun z => PyData.eqv (Dat.py z) (Dat.py a)))
def ninDT {α : Type} [Enc α] [Dat α] (a : α) (xs : Tup α) : Res Bool := guardR (Dat.lay a && Dat.lay xs) (.ok (!xs.l.any fun z => PyData.eqv (Dat.py z) (Dat.py a)))
section
variable {X : Cx} {W : WX} {ss : List Slot}
theorem b_inDT {α : Type} [Enc α] [Dat α] (ha : Dat.dep α + 1 ≤ 64 := by decide) : Bi X (rInDT false X.K) (fun (a : α) (xs : Tup α) => inDT a xs) := ⟨fun a xs v w H Q r1 r2 q => by
  cases g : (Dat.lay a && Dat.lay xs) with
  | false =>
    have q : okR (inDT a xs) _ := q
    unfold inDT at q; rw [g] at q; exact q.elim
  | true =>
    have q : okR (inDT a xs) _ := q
    unfold inDT at q; rw [g] at q
    obtain ⟨g1, g2⟩ := Bool.and_eq_true_iff.mp g
    refine ⟨_, xs.l.map Dat.py, Dat.dp r1, Dat.dp r2, shaped_of g1 (Nat.le_of_succ_le ha), shaped_of (a := xs) g2 ha, ?_⟩
    rw [List.any_map, Bool.false_bne]
    exact q _ H (Same.refl H) rfl, fun _ _ => noX_guard⟩
theorem b_ninDT {α : Type} [Enc α] [Dat α] (ha : Dat.dep α + 1 ≤ 64 := by decide) : Bi X (rInDT true X.K) (fun (a : α) (xs : Tup α) => ninDT a xs) := ⟨fun a xs v w H Q r1 r2 q => by
  cases g : (Dat.lay a && Dat.lay xs) with
  | false =>
    have q : okR (ninDT a xs) _ := q
    unfold ninDT at q; rw [g] at q; exact q.elim
  | true =>
    have q : okR (ninDT a xs) _ := q
    unfold ninDT at q; rw [g] at q
    obtain ⟨g1, g2⟩ := Bool.and_eq_true_iff.mp g
    refine ⟨_, xs.l.map Dat.py, Dat.dp r1, Dat.dp r2, shaped_of g1 (Nat.le_of_succ_le ha), shaped_of (a := xs) g2 ha, ?_⟩
    rw [List.any_map, Bool.true_bne]
    exact q _ H (Same.refl H) rfl, fun _ _ => noX_guard⟩
theorem inDT_eq {α : Type} [Enc α] [Dat α] [NoStr α] [DatEq α] [DecidableEq α] (a : α) (xs : Tup α) : inDT a xs = .ok (decide (a ∈ xs.l)) := by
  have h := inD_eq a xs.l
  unfold inD at h
  unfold inDT
  rw [NoStr.lay, NoStr.lay] at h ⊢
  exact h
theorem ninDT_eq {α : Type} [Enc α] [Dat α] [NoStr α] [DatEq α] [DecidableEq α] (a : α) (xs : Tup α) : ninDT a xs = .ok (!decide (a ∈ xs.l)) := by
  have h := ninD_eq a xs.l
  unfold ninD at h
  unfold ninDT
  rw [NoStr.lay, NoStr.lay] at h ⊢
  exact h
/-- in an own optional list, as it is looked into -/
theorem sb_unwO (i : Nat) {α S L R : Type} [Enc α] {d : Ow α} {o : Option α} {sts : List Stmt} {k : α → Res (Out S L R)} {post : S → List Slot} {pl : L → List Slot} {kr : R → Slot} (h : ∀ a, SB X W (ss.set i (os d a)) sts (k a) post pl kr) (hs : ss[i]? = some (os (optO d) o) := by rfl) : SB X W ss sts ((unw o).bind k) post pl kr :=
  unwX i hs (wk := fun a => wB X W (k a) post pl kr) h fun D B F0 q => by
    cases o with
    | none => exact q.elim
    | some a => exact ⟨a, rfl, q⟩
end
theorem ow_some {α : Type} [Enc α] {as : List α} : ∀ K F G o, (ow as).P K F G o → (os (optO l1) (some as)).P K F G o := fun K F G o ⟨p, vs, e, g, r⟩ => ⟨.ref p, e, (show V.ref p ≠ V.non ∧ (l1 (α := α)).own K F G (.ref p) as from ⟨(fun z => by cases z), p, vs, rfl, g, r⟩)⟩
instance {α : Type} [Enc α] : NNO (l1 (α := α)) := ⟨fun ⟨_, _, e, _⟩ z => by rw [z] at e; cases e⟩
instance {α : Type} [Enc α] {d : Ow α} : NNO (lsO d) := ⟨fun ⟨_, _, _, e, _⟩ z => by rw [z] at e; cases e⟩
/-! ### x.remove(e) -/
section
variable {X : Cx}
def rRemD (K : Frag) : V → List V → Hp → VK → Prop := fun x xs H Q => ∃ (l : Addr) (vs : List V) (y : V) (d : PyData) (ds : List PyData) (j : Nat), x = V.ref l ∧ xs = [y] ∧ H l = some (.lst vs) ∧ DpAll K H vs ds ∧ Dp K H y d ∧
  SeqAt.shaped (.list ds) = true ∧ SeqAt.shaped d = true ∧ SeqAt.dataPlace ds d = some j ∧ Q .non (upd H l (.lst (vs.eraseIdx j)))
theorem mt_remD (hu : X.A.units + 65 < cLine) : MtM X "list.remove" (rRemD X.K) := by
  rintro pins s σ H _ _ _ _ Q I rx rv ⟨l, vs, y, d, ds, j, rfl, rfl, hl, all, dy, shl, shd, at_, want⟩
  cases rx
  obtain ⟨u, rfl, ru⟩ := rv.one
  obtain ⟨bs, rd⟩ := Dp.reads I d y u dy ru
  obtain ⟨small, its, n, vals, le, here⟩ := I.lstM hl
  obtain ⟨as, each⟩ := Dp.readsAll I ds vs its all vals
  have lay : PyData.canLayAll0 ds = true := SeqAt.canLay_of_shaped shl
  have pl := PyData.plainAll_of_canLay0 ds lay
  have pd := PyData.plain_of_canLay0 d (SeqAt.canLay_of_shaped shd)
  refine SeqAt.remove_list_data (vs := its.toArray) (j := j) ⟨_, here, rfl, n, rfl⟩ each rd pl pd (room_in_shaped shd hu) at_ (by rw [List.size_toArray, ← le]; exact small) ?_
  refine ⟨.non, _, I.lset (its' := its.eraseIdx j) (t' := s.toks) hl here ?_ (vals.eraseIdx j) (Nat.le_trans (len_erase vs j) small), rfl, want⟩
  show its.toArray.eraseIdxIfInBounds j = (its.eraseIdx j).toArray
  rw [List.eraseIdxIfInBounds_toArray]
end
def remR {α : Type} [Enc α] [Dat α] (xs : List α) (a : α) : Res (List α) := guardR (Dat.lay a && Dat.lay xs) (match xs.findIdx? fun z => PyData.eqv (Dat.py z) (Dat.py a) with
  | some j => .ok (xs.eraseIdx j)
  | none => .stuck)
section
variable {X : Cx} {W : WX} {ss : List Slot} {e : Expr} {pos : Pos}
theorem s1_remove (i : Nat) {α : Type} [Enc α] [Dat α] {as : List α} {m : Res α} {x : Str} {p apos cpos : Pos} (hu : X.A.units + 65 < cLine) (h : XI X W ss e m) (hd : Dat.dep α + 1 ≤ 64 := by decide) (hs : ss[i]? = some (ow as) := by rfl) (hp : PE X (.Name x p) (tVar i) := by exact pv _)
    (hb : attributeBase (.Name x p) "remove" X.env (eval (.Name x p) X.env) = eval (.Name x p) X.env := by rfl)
    (hfew : ((backTo cpos (starEach [e] X.env)).all (fun x => !x.1) && (backToKw cpos (keywordEach [] X.env)).all (fun x => x.1.isSome)
      && decide (([e] : List Expr).length + ([] : List Keyword).length + (if ([] : List Keyword).isEmpty then 0 else 1) < 30)) = true := by rfl)
    (hline : (apos.endLine == cpos.line) = true := by rfl) (hst : starEach [e] X.env = (false, eval e X.env) :: starEach [] X.env := by rfl) (hplain : (backTo cpos (starEach [] X.env)).any (·.1) = false := by rfl)
    (hsw : swapsWith (.Call (.Attribute (.Name x p) "remove" apos) [e] [] cpos) none pos.line X.env = pure false := by rfl) :
    S1 X W ss (.Expr (.Call (.Attribute (.Name x p) "remove" apos) [e] [] cpos) pos) (m.bind fun a => remR as a) (fun as' => ss.set i (ow as')) := by
  refine PS_imp (ps_expr (pe_bm PySem.F.plainAttrs_list PySem.F.slot_list_remove PySem.F.type_list_remove (mt_remD hu) hp (pa_cons h pa_nil hst) hb hfew hline hst hplain) hsw) fun D σ H ⟨B, F0, F, Gs, A, q⟩ => ?_
  obtain ⟨G, p, vs, hG, hσ, hl, r⟩ := all3_ow A.all hs
  have at_ := A.sub G (List.mem_of_getElem? hG) _ _ hl
  refine ⟨.ref p, hσ, .inl ⟨rfl, vs, SqL.of at_⟩, A.sl.mono A.ext.sub (Same.refl H), wpS_R (wpS_bind q) A.base fun a q v H1 s1 ra => ?_⟩
  have A1 := A.grow s1 (F' := F) ⟨Same.refl F, A.ext.sub.trans s1, fun _ _ h => .inl h⟩
  unfold remR at q
  cases g : (Dat.lay a && Dat.lay as) with
  | false => rw [g] at q; exact q.elim
  | true =>
    rw [g] at q
    obtain ⟨g1, g2⟩ := Bool.and_eq_true_iff.mp g
    cases ej : as.findIdx? (fun z => PyData.eqv (Dat.py z) (Dat.py a)) with
    | none => rw [ej] at q; exact q.elim
    | some j =>
      rw [ej] at q
      have ep : SeqAt.dataPlace (as.map Dat.py) (Dat.py a) = some j := by
        unfold SeqAt.dataPlace
        rw [List.findIdx?_map]
        exact ej
      refine ⟨p, vs, v, Dat.py a, as.map Dat.py, j, rfl, rfl, s1 _ _ at_, dpAll (r.mono A1.ext.sub), Dat.dp ra, shaped_of (a := as) g2 hd, shaped_of g1 (Nat.le_of_succ_le hd), ep, ?_⟩
      exact q _ _ _ _ (A1.put hG hσ hl (r.erase j))
end
end G

namespace G
open PySem PySem.Spec PyProof.Rows L2
/-! ### what a mirror answers -/
/-- it answers, and so -/
def Sat {α : Type} (m : Res α) (P : α → Prop) : Prop := ∃ a, m = .ok a ∧ P a
theorem Sat.ok {α : Type} {a : α} {P : α → Prop} (h : P a) : Sat (.ok a) P := ⟨a, rfl, h⟩
theorem Sat.bind {α β : Type} {m : Res α} {k : α → Res β} {P : α → Prop} {Q : β → Prop} (h : Sat m P) (hk : ∀ a, P a → Sat (k a) Q) : Sat (m.bind k) Q := by
  obtain ⟨a, e, p⟩ := h
  rw [e]
  exact hk a p
theorem Sat.imp {α : Type} {m : Res α} {P Q : α → Prop} (h : Sat m P) (f : ∀ a, P a → Q a) : Sat m Q := let ⟨a, e, p⟩ := h; ⟨a, e, f a p⟩
theorem Sat.and {α : Type} {m : Res α} {P Q : α → Prop} (h : Sat m P) (h' : Sat m Q) : Sat m (fun a => P a ∧ Q a) := by
  obtain ⟨a, e, p⟩ := h
  obtain ⟨b, e', q⟩ := h'
  rw [e] at e'
  injection e' with e'
  subst e'
  exact ⟨a, e, p, q⟩
theorem Sat.eq {α : Type} {m : Res α} {a : α} (h : Sat m (fun b => b = a)) : m = .ok a := by obtain ⟨b, e, q⟩ := h; rw [e, q]
theorem Sat.of_eq {α : Type} {m : Res α} {a : α} {P : α → Prop} (e : m = .ok a) (h : P a) : Sat m P := ⟨a, e, h⟩
theorem Sat.guard {α : Type} {c : Bool} {m : Res α} {P : α → Prop} (hc : c = true) (h : Sat m P) : Sat (guardR c m) P := by rw [hc]; exact h
theorem Sat.ite {α : Type} {c : Bool} {a b : Res α} {P : α → Prop} (h1 : c = true → Sat a P) (h2 : c = false → Sat b P) : Sat (if c = true then a else b) P := by
  cases c with
  | true => exact h1 rfl
  | false => exact h2 rfl
theorem Sat.idx {α : Type} {xs : List α} {i : Nat} {P : α → Prop} (hi : i < xs.length) (h : P xs[i]) : Sat (G.idx xs (i : Int)) P := ⟨_, idx_nat (List.getElem?_eq_getElem hi), h⟩
theorem idx_ofNat {α : Type} {xs : List α} {i : Nat} (hi : i < xs.length) : G.idx xs (i : Int) = .ok xs[i] := idx_nat (List.getElem?_eq_getElem hi)
theorem idx_int {α : Type} {xs : List α} {i : Int} {a : α} (h0 : 0 ≤ i) (h : xs[i.toNat]? = some a) : G.idx xs i = .ok a := by
  have h2 := idx_nat (xs := xs) (i := i.toNat) h
  rw [Int.toNat_of_nonneg h0] at h2
  exact h2
theorem Sat.idxI {α : Type} {xs : List α} {i : Int} {P : α → Prop} (h0 : 0 ≤ i) (hi : i < xs.length) (h : ∀ a, xs[i.toNat]? = some a → P a) : Sat (G.idx xs i) P := by
  have hl : i.toNat < xs.length := by omega
  exact ⟨_, idx_int h0 (List.getElem?_eq_getElem hl), h _ (List.getElem?_eq_getElem hl)⟩
theorem Sat.foldR {S α : Type} {f : S → α → Res S} {xs : List α} {s0 : S} (I : Nat → S → Prop) (h0 : I 0 s0) (hs : ∀ i s a, xs[i]? = some a → I i s → Sat (f s a) (I (i + 1))) : Sat (G.foldR f s0 xs) (I xs.length) := by
  induction xs generalizing s0 I with
  | nil => exact .ok h0
  | cons a as ih =>
    refine Sat.bind (hs 0 s0 a rfl h0) fun s p => ?_
    exact ih (fun i s => I (i + 1) s) p fun i s b hb q => hs (i + 1) s b hb q
/-- a walk that goes on to the end -/
theorem loopO_all {S L R α : Type} {f : S → α → Res (Out S S R)} {xs : List α} {s0 : S} (I : Nat → S → Prop) (h0 : I 0 s0) (hs : ∀ i s a, xs[i]? = some a → I i s → Sat (f s a) (fun o => ∃ s', o = .nx s' ∧ I (i + 1) s')) :
    Sat (G.loopO (L := L) f s0 xs) (fun o => ∃ s, o = .nx s ∧ I xs.length s) := by
  induction xs generalizing s0 I with
  | nil => exact .ok ⟨s0, rfl, h0⟩
  | cons a as ih =>
    refine Sat.bind (hs 0 s0 a rfl h0) fun o ⟨s', e, p⟩ => ?_
    subst e
    exact ih (fun i s => I (i + 1) s) p fun i s b hb q => hs (i + 1) s b hb q
theorem Sat.lcT {α β : Type} {p : α → Res Bool} {g : α → Res β} {xs : List α} {p' : α → Bool} {g' : α → β} {P : List β → Prop} (hl : xs.length ≤ 1000000) (hp : ∀ a ∈ xs, p a = .ok (p' a)) (hg : ∀ a ∈ xs, p' a = true → g a = .ok (g' a)) (h : P ((xs.filter p').map g')) : Sat (G.lcT p g xs) P :=
  .guard (decide_eq_true hl) (.of_eq (lcR_filter hp hg) h)
theorem lcT_map {α β : Type} {g : α → Res β} {xs : List α} {g' : α → β} (hl : xs.length ≤ 1000000) (hg : ∀ a ∈ xs, g a = .ok (g' a)) : G.lcT (fun _ => .ok true) g xs = .ok (xs.map g') := by
  unfold G.lcT
  rw [decide_eq_true hl]
  exact lcR_ok (fun _ _ => rfl) hg
/-- all items come well -/
theorem Sat.lcAll {α β : Type} {g : α → Res β} {xs : List α} {Q : β → Prop} {P : List β → Prop} (hl : xs.length ≤ 1000000) (hg : ∀ a ∈ xs, Sat (g a) Q) (h : ∀ bs : List β, bs.length = xs.length → (∀ b ∈ bs, Q b) → P bs) : Sat (G.lcT (fun _ => .ok true) g xs) P := by
  refine .guard (decide_eq_true hl) ?_
  have go : ∀ xs : List α, (∀ a ∈ xs, Sat (g a) Q) → Sat (lcR (fun _ => .ok true) g xs) (fun bs => bs.length = xs.length ∧ ∀ b ∈ bs, Q b) := by
    intro xs
    induction xs with
    | nil => intro _; exact .ok ⟨rfl, fun _ m => by cases m⟩
    | cons a as ih =>
      intro h
      obtain ⟨b, e, q⟩ := h a List.mem_cons_self
      obtain ⟨bs, e2, l, q2⟩ := ih fun c m => h c (List.mem_cons_of_mem _ m)
      refine ⟨b :: bs, ?_, by rw [List.length_cons, List.length_cons, l], fun c m => ?_⟩
      · unfold lcR
        simp only [e, e2, Res.ok_bind]
      · rcases List.mem_cons.mp m with z | z
        · rw [z]; exact q
        · exact q2 c z
  exact (go xs hg).imp fun bs ⟨l, q⟩ => h bs l q
/-! numbers -/
theorem Sat.mul {i j : Int} {P : Int → Prop} (h : (-(2 ^ 64) < i ∧ i < 2 ^ 64) ∨ (-(2 ^ 64) < j ∧ j < 2 ^ 64)) (p : P (i * j)) : Sat (mulR i j) P := by
  rcases h with ⟨a, b⟩ | ⟨a, b⟩
  · exact .of_eq (mulR_l a b) p
  · exact .of_eq (mulR_r a b) p
theorem Sat.div {i j : Int} {P : Int → Prop} (h1 : 0 < j) (h2 : j < 10 ^ 70) (p : P (i / j)) : Sat (divR i j) P := .of_eq (divR_of h1 h2) p
theorem Sat.mod {i j : Int} {P : Int → Prop} (h1 : 0 < j) (p : P (i % j)) : Sat (modR i j) P := .of_eq (modR_of h1) p
theorem Sat.app {α : Type} {xs : List α} {a : α} {P : List α → Prop} (h : xs.length ≤ 1000000) (p : P (xs ++ [a])) : Sat (appR xs a) P := .guard (decide_eq_true h) (.ok p)
theorem appR_ok {α : Type} {xs : List α} {a : α} (h : xs.length ≤ 1000000) : appR xs a = .ok (xs ++ [a]) := guardR_of (decide_eq_true h)
theorem catR_ok {α : Type} {xs ys : List α} (h : xs.length + ys.length ≤ 1000000) : catR xs ys = .ok (xs ++ ys) := guardR_of (decide_eq_true h)
theorem extR_ok {α : Type} {xs ys : List α} (h : xs.length + ys.length ≤ 1000000) : extR xs ys = .ok (xs ++ ys) := guardR_of (decide_eq_true h)
theorem repR1_ok {α : Type} {a : α} {k : Int} (h0 : 0 ≤ k) (h : k ≤ 1000000) : repR [a] k = .ok (List.replicate k.toNat a) := by
  unfold repR small62 big
  have e : (List.replicate k.toNat [a]).flatten = List.replicate k.toNat a := by
    induction k.toNat with
    | zero => rfl
    | succ n ih => rw [List.replicate_succ, List.flatten_cons, ih, List.replicate_succ]; rfl
  rw [e]
  refine guardR_of ?_
  simp only [Bool.and_eq_true, decide_eq_true_eq, List.length_singleton]
  omega
theorem Sat.range {n : Int} {P : List Int → Prop} (h0 : 0 ≤ n) (h : n < 1000000) (p : P (rangeL 0 n.toNat)) : Sat (guardR (small62 n) (Res.ok (rangeL 0 n.toNat))) P := by
  refine .guard ?_ (.ok p)
  unfold small62
  simp only [Bool.and_eq_true, decide_eq_true_eq]
  omega
theorem range_ok {n : Int} (h0 : 0 ≤ n) (h : n < 1000000) : (guardR (small62 n) (Res.ok (rangeL 0 n.toNat))) = .ok (rangeL 0 n.toNat) := by
  refine guardR_of ?_
  unfold small62
  simp only [Bool.and_eq_true, decide_eq_true_eq]
  omega
/-! texts -/
theorem str_len_app (x y : Str) : (x ++ y).length = x.length + y.length := by
  show (x.cps ++ y.cps).size = _
  rw [Array.size_append]; rfl
theorem catS_ok {x y : Str} (h : x.length + y.length ≤ 1000000) : catS x y = .ok (x ++ y) := guardR_of (decide_eq_true h)
theorem strI_ok {i : Int} (h0 : 0 ≤ i) (h : i < 10 ^ 60) : strI i = .ok (toString i) := guardR_of (decide_eq_true (by omega))
end G

namespace G
open PySem PySem.Spec PyProof.Rows L2
/-! ### a mirror's steps, one behind the other -/
theorem Sat.bassoc {α β γ : Type} {m : Res α} {f : α → Res β} {k : β → Res γ} {P : γ → Prop} (h : Sat (m.bind fun a => (f a).bind k) P) : Sat ((m.bind f).bind k) P := by rw [Res.bind_assoc]; exact h
theorem Sat.bok {α β : Type} {a : α} {k : α → Res β} {P : β → Prop} (h : Sat (k a) P) : Sat ((Res.ok a).bind k) P := h
theorem Sat.bite {α β : Type} {c : Bool} {a b : Res α} {k : α → Res β} {P : β → Prop} (h1 : c = true → Sat (a.bind k) P) (h2 : c = false → Sat (b.bind k) P) : Sat ((if c = true then a else b).bind k) P := by
  cases c with
  | true => exact h1 rfl
  | false => exact h2 rfl
theorem Sat.bguard {α β : Type} {c : Bool} {a : Res α} {k : α → Res β} {P : β → Prop} (hc : c = true) (h : Sat (a.bind k) P) : Sat ((guardR c a).bind k) P := by rw [hc]; exact h
theorem Sat.beq {α β : Type} {m : Res α} {a : α} {k : α → Res β} {P : β → Prop} (e : m = .ok a) (h : Sat (k a) P) : Sat (m.bind k) P := by rw [e]; exact h
theorem Sat.bmul {β : Type} {i j : Int} {k : Int → Res β} {P : β → Prop} (h : (-(2 ^ 64) < i ∧ i < 2 ^ 64) ∨ (-(2 ^ 64) < j ∧ j < 2 ^ 64)) (p : Sat (k (i * j)) P) : Sat ((mulR i j).bind k) P := by
  rcases h with ⟨a, b⟩ | ⟨a, b⟩
  · exact .beq (mulR_l a b) p
  · exact .beq (mulR_r a b) p
theorem Sat.bmod {β : Type} {i j : Int} {k : Int → Res β} {P : β → Prop} (h1 : 0 < j) (p : Sat (k (i % j)) P) : Sat ((modR i j).bind k) P := .beq (modR_of h1) p
theorem Sat.bdiv {β : Type} {i j : Int} {k : Int → Res β} {P : β → Prop} (h1 : 0 < j) (h2 : j < 10 ^ 70) (p : Sat (k (i / j)) P) : Sat ((divR i j).bind k) P := .beq (divR_of h1 h2) p
theorem Sat.bapp {α β : Type} {xs : List α} {a : α} {k : List α → Res β} {P : β → Prop} (h : xs.length ≤ 1000000) (p : Sat (k (xs ++ [a])) P) : Sat ((appR xs a).bind k) P := .beq (appR_ok h) p
theorem Sat.bcatS {β : Type} {x y : Str} {k : Str → Res β} {P : β → Prop} (h : x.length + y.length ≤ 1000000) (p : Sat (k (x ++ y)) P) : Sat ((catS x y).bind k) P := .beq (catS_ok h) p
theorem Sat.bidx {α β : Type} {xs : List α} {i : Int} {a : α} {k : α → Res β} {P : β → Prop} (h0 : 0 ≤ i) (h : xs[i.toNat]? = some a) (p : Sat (k a) P) : Sat ((G.idx xs i).bind k) P := .beq (idx_int h0 h) p
theorem Sat.brange {β : Type} {n : Int} {k : List Int → Res β} {P : β → Prop} (h0 : 0 ≤ n) (h : n < 1000000) (p : Sat (k (rangeL 0 n.toNat)) P) : Sat ((guardR (small62 n) (Res.ok (rangeL 0 n.toNat))).bind k) P := .beq (range_ok h0 h) p
theorem rangeL0 {n i : Nat} {a : Int} (h : (rangeL 0 n)[i]? = some a) : i < n ∧ a = (i : Int) := by
  have := rangeL_get h
  omega
/-- an item of all's kind -/
theorem get_of {α : Type} {xs : List α} {i : Nat} (h : i < xs.length) : xs[i]? = some xs[i] := List.getElem?_eq_getElem h
/-- small numbers' texts -/
theorem strI_len {i : Int} (h0 : 0 ≤ i) (h : i < 10 ^ 10) : (PySem.Str.ofString (toString i)).length ≤ 10 := toString_length_le h0 (by decide) h
theorem Sat.bstrI {β : Type} {i : Int} {k : Str → Res β} {P : β → Prop} (h0 : 0 ≤ i) (h : i < 10 ^ 10) (p : (PySem.Str.ofString (toString i)).length ≤ 10 → Sat (k (PySem.Str.ofString (toString i))) P) : Sat ((strI i).bind k) P := .beq (strI_ok h0 (by omega)) (p (strI_len h0 h))
theorem join_len (sep : Str) : ∀ l : List Str, (Txt.join sep l).length = (l.map (·.length)).sum + (l.length - 1) * sep.length
  | [] => by show 0 = 0 + 0 * sep.length; rw [Nat.zero_mul]
  | a :: r => by
    show (Builtin.Str.glued sep (a :: r)).length = _
    rw [StrLaws.glued_eq_join, len_join_cons]; rfl
theorem sum_le {l : List Str} {B : Nat} (h : ∀ a ∈ l, a.length ≤ B) : (l.map (·.length)).sum ≤ l.length * B := by
  induction l with
  | nil => exact Nat.zero_le _
  | cons a r ih =>
    have h1 := h a List.mem_cons_self
    have h2 := ih fun b m => h b (List.mem_cons_of_mem _ m)
    rw [List.map_cons, List.sum_cons, List.length_cons, Nat.add_mul]
    omega
theorem joinR_ok {x : Str} {ys : List Str} (h : (ys.map (·.length)).sum + ys.length * x.length ≤ 1000000) : joinR x ys = .ok (Txt.join x ys) := guardR_of (decide_eq_true h)
/-- texts joined, one more at the end -/
theorem join_snoc (sep : Str) (a : Str) : ∀ l : List Str, l ≠ [] → Txt.join sep (l ++ [a]) = Txt.join sep l ++ sep ++ a
  | [], h => absurd rfl h
  | [b], _ => by
    show Builtin.Str.glued sep [b, a] = Builtin.Str.glued sep [b] ++ sep ++ a
    rw [StrLaws.glued_eq_join, StrLaws.glued_eq_join]; rfl
  | b :: c :: r, _ => by
    have ih := join_snoc sep a (c :: r) (by simp)
    have ih : Builtin.Str.glued sep (c :: r ++ [a]) = Builtin.Str.glued sep (c :: r) ++ sep ++ a := ih
    show Builtin.Str.glued sep (b :: c :: (r ++ [a])) = Builtin.Str.glued sep (b :: c :: r) ++ sep ++ a
    rw [StrLaws.glued_eq_join, StrLaws.glued_eq_join] at ih ⊢
    rw [show Str.join sep (b :: c :: (r ++ [a])) = b ++ sep ++ Str.join sep (c :: r ++ [a]) from rfl, show Str.join sep (b :: c :: r) = b ++ sep ++ Str.join sep (c :: r) from rfl, ih]
    simp only [Str.append_assoc]
theorem join_one (sep a : Str) : Txt.join sep [a] = a := by
  show Builtin.Str.glued sep [a] = _
  rw [StrLaws.glued_eq_join]; rfl
theorem strIx_one {x : Str} {i : Int} (hl : x.length ≤ 1000000) (h0 : 0 ≤ i) (h1 : i < x.length) : Sat (strIx x i) (fun b => b.length = 1) := by
  unfold strIx
  refine .guard (decide_eq_true hl) ?_
  have hi : i.toNat < x.cps.toList.length := by rw [Array.length_toList]; show i.toNat < x.length; omega
  have e : atI x.cps.toList i = some x.cps.toList[i.toNat] := by
    have := atI_nat (get_of hi)
    rw [Int.toNat_of_nonneg h0] at this
    exact this
  rw [e]
  exact .ok rfl
end G
namespace G
open PySem PySem.Spec PyProof.Rows L2
/-! what may leave -/
theorem Sat.tail {S R : Type} {M : Res (Out S Empty R)} {k : S → Res R} {P : S → Prop} {Q : R → Prop} (h : Sat M (fun o => ∃ s, o = .nx s ∧ P s)) (hk : ∀ s, P s → Sat (k s) Q) : Sat (M.tail k) Q := by
  obtain ⟨o, e, s, e2, p⟩ := h
  subst e2
  unfold Res.tail
  rw [e]
  exact hk s p
theorem Sat.next {S S' L R : Type} {M : Res (Out S L R)} {k : S → Res (Out S' L R)} {P : S → Prop} {Q : Out S' L R → Prop} (h : Sat M (fun o => ∃ s, o = .nx s ∧ P s)) (hk : ∀ s, P s → Sat (k s) Q) : Sat (M.next k) Q := by
  obtain ⟨o, e, s, e2, p⟩ := h
  subst e2
  unfold Res.next
  rw [e]
  exact hk s p
/-- a test that never holds -/
theorem Sat.never {S L R : Type} {c : Res Bool} {a : Res (Out S L R)} {s : S} {P : S → Prop} (h : c = .ok false) (p : P s) : Sat (c.bind fun v => if v = true then a else .ok (.nx s)) (fun o => ∃ s, o = .nx s ∧ P s) := by
  rw [h]
  exact .ok ⟨s, rfl, p⟩
theorem Sat.nx {S L R : Type} {s : S} {P : S → Prop} (p : P s) : Sat (Res.ok (Out.nx s) : Res (Out S L R)) (fun o => ∃ s, o = .nx s ∧ P s) := .ok ⟨s, rfl, p⟩
theorem Sat.loop {S L R α : Type} {f : S → α → Res (Out S S R)} {xs : List α} {s0 : S} (I : Nat → S → Prop) (h0 : I 0 s0) (hs : ∀ i s a, xs[i]? = some a → I i s → Sat (f s a) (fun o => ∃ s', o = .nx s' ∧ I (i + 1) s')) :
    Sat (G.loopO (L := L) f s0 xs) (fun o => ∃ s, o = .nx s ∧ I xs.length s) := loopO_all I h0 hs
theorem unit_loop {L R α : Type} {f : Unit → α → Res (Out Unit Unit R)} {xs : List α} (hs : ∀ (i : Nat) (a : α), xs[i]? = some a → Sat (f () a) (fun o => ∃ s', o = .nx s' ∧ True)) :
    Sat (G.loopO (L := L) f () xs) (fun o => ∃ s, o = .nx s ∧ True) := loopO_all (fun _ _ => True) trivial fun i s a h _ => hs i a h
end G

namespace G
open PySem PySem.Spec PyProof.Rows L2
/-! ### webs -/
def TieOk (n : Int) (t : Int × Int) : Prop := 0 ≤ t.1 ∧ t.1 < t.2 ∧ t.2 < n
structure WebOk (w : Int × Tup (Int × Int)) : Prop where
  n1 : 1 ≤ w.1
  n2 : w.1 ≤ 40
  len : w.2.l.length ≤ 200
  ok : ∀ t ∈ w.2.l, TieOk w.1 t
  nd : w.2.l.Nodup
  up : w.2.l.Pairwise fun a b => leP a b = true
def tied (ts : List (Int × Int)) (a b : Int) : Prop := (a, b) ∈ ts ∨ (b, a) ∈ ts
instance {ts : List (Int × Int)} {a b : Int} : Decidable (tied ts a b) := by unfold tied; exact inferInstance
theorem tied_symm {ts : List (Int × Int)} {a b : Int} : tied ts a b ↔ tied ts b a := Or.comm
theorem WebOk.tie {w : Int × Tup (Int × Int)} (h : WebOk w) {a b : Int} (t : tied w.2.l a b) : 0 ≤ a ∧ a < w.1 ∧ 0 ≤ b ∧ b < w.1 ∧ a ≠ b := by
  rcases t with t | t
  · have ⟨x, y, z⟩ := h.ok _ t
    have x : 0 ≤ a := x
    have y : a < b := y
    have z : b < w.1 := z
    omega
  · have ⟨x, y, z⟩ := h.ok _ t
    have x : 0 ≤ b := x
    have y : b < a := y
    have z : a < w.1 := z
    omega
/-- who is next to k, as the ties come -/
def nbr (k : Int) (t : Int × Int) : List Int := (if t.1 = k then [t.2] else []) ++ (if t.2 = k then [t.1] else [])
def nbrs (ts : List (Int × Int)) (k : Int) : List Int := ts.flatMap (nbr k)
theorem mem_nbr {k m : Int} {t : Int × Int} : m ∈ nbr k t ↔ t = (k, m) ∨ t = (m, k) := by
  obtain ⟨a, b⟩ := t
  unfold nbr
  simp only [List.mem_append, Prod.mk.injEq]
  constructor
  · rintro (h | h)
    · split at h
      · rename_i e; left; exact ⟨e, (List.mem_singleton.mp h).symm⟩
      · cases h
    · split at h
      · rename_i e; right; exact ⟨(List.mem_singleton.mp h).symm, e⟩
      · cases h
  · rintro (⟨e1, e2⟩ | ⟨e1, e2⟩)
    · left; rw [if_pos e1, e2]; exact List.mem_singleton.mpr rfl
    · right; rw [if_pos e2, e1]; exact List.mem_singleton.mpr rfl
theorem mem_nbrs {ts : List (Int × Int)} {k m : Int} : m ∈ nbrs ts k ↔ tied ts k m := by
  unfold nbrs tied
  rw [List.mem_flatMap]
  constructor
  · rintro ⟨t, h, e⟩
    rcases mem_nbr.mp e with rfl | rfl
    · exact .inl h
    · exact .inr h
  · rintro (h | h)
    · exact ⟨_, h, mem_nbr.mpr (.inl rfl)⟩
    · exact ⟨_, h, mem_nbr.mpr (.inr rfl)⟩
theorem nbrs_nodup {n : Int} {k : Int} : ∀ {ts : List (Int × Int)}, ts.Nodup → (∀ t ∈ ts, TieOk n t) → (nbrs ts k).Nodup
  | [], _, _ => .nil
  | t :: ts, nd, ok => by
    obtain ⟨n1, n2⟩ := List.nodup_cons.mp nd
    have ih := nbrs_nodup (k := k) n2 fun x m => ok x (List.mem_cons_of_mem _ m)
    show (nbr k t ++ nbrs ts k).Nodup
    refine List.nodup_append.mpr ⟨?_, ih, fun x hx y hy e => ?_⟩
    · have ⟨x, y, z⟩ := ok t List.mem_cons_self
      unfold nbr
      by_cases h1 : t.1 = k
      · rw [if_pos h1, if_neg (by omega)]; simp
      · rw [if_neg h1]
        by_cases h2 : t.2 = k
        · rw [if_pos h2]; simp
        · rw [if_neg h2]; simp
    · subst e
      have ⟨a, b, c⟩ := ok t List.mem_cons_self
      rcases mem_nbr.mp hx with e | e <;> rcases mem_nbrs.mp hy with h | h
      · exact n1 (e ▸ h)
      · have ⟨d, e2, f⟩ := ok _ (List.mem_cons_of_mem _ h)
        subst e
        have b : k < x := b
        have e2 : x < k := e2
        omega
      · have ⟨d, e2, f⟩ := ok _ (List.mem_cons_of_mem _ h)
        subst e
        have b : x < k := b
        have e2 : k < x := e2
        omega
      · exact n1 (e ▸ h)
theorem nbrs_len {ts : List (Int × Int)} {k : Int} : (nbrs ts k).length ≤ 2 * ts.length := by
  induction ts with
  | nil => exact Nat.le_refl _
  | cons t ts ih =>
    have : (nbr k t).length ≤ 2 := by
      unfold nbr
      split <;> split <;> simp
    show (nbr k t ++ nbrs ts k).length ≤ _
    rw [List.length_append, List.length_cons]
    omega
/-- rising lists of the same items are the same -/
theorem rise_ext : ∀ {l m : List Int}, l.Pairwise (· < ·) → m.Pairwise (· < ·) → (∀ x, x ∈ l ↔ x ∈ m) → l = m
  | [], [], _, _, _ => rfl
  | [], b :: m, _, _, h => by have := (h b).mpr List.mem_cons_self; cases this
  | a :: l, [], _, _, h => by have := (h a).mp List.mem_cons_self; cases this
  | a :: l, b :: m, h1, h2, h => by
    obtain ⟨p1, p2⟩ := List.pairwise_cons.mp h1
    obtain ⟨q1, q2⟩ := List.pairwise_cons.mp h2
    have e : a = b := by
      rcases List.mem_cons.mp ((h a).mp List.mem_cons_self) with e | e
      · exact e
      · rcases List.mem_cons.mp ((h b).mpr List.mem_cons_self) with e2 | e2
        · exact e2.symm
        · have := q1 a e
          have := p1 b e2
          omega
    subst e
    congr 1
    refine rise_ext p2 q2 fun x => ?_
    constructor
    · intro hx
      rcases List.mem_cons.mp ((h x).mp (List.mem_cons_of_mem _ hx)) with e | e
      · have := p1 x hx; omega
      · exact e
    · intro hx
      rcases List.mem_cons.mp ((h x).mpr (List.mem_cons_of_mem _ hx)) with e | e
      · have := q1 x hx; omega
      · exact e
theorem sortI_rise {l : List Int} (h : l.Nodup) : (sortI l).Pairwise (· < ·) := by
  have a := sortI_pw l
  have b : (sortI l).Nodup := (sortI_perm l).nodup_iff.mpr h
  exact a.imp₂ (fun x y h1 h2 => by omega) b
theorem mem_sortI {l : List Int} {x : Int} : x ∈ sortI l ↔ x ∈ l := (sortI_perm l).mem_iff
theorem rangeL_rise (n : Nat) : (rangeL 0 n).Pairwise (· < ·) := by
  unfold rangeL
  refine List.pairwise_map.mpr ?_
  exact List.pairwise_lt_range.imp fun h => by omega
theorem mem_rangeL {n : Nat} {x : Int} : x ∈ rangeL 0 n ↔ 0 ≤ x ∧ x < n := by
  unfold rangeL
  rw [List.mem_map]
  constructor
  · rintro ⟨i, h, rfl⟩
    have := List.mem_range.mp h
    omega
  · rintro ⟨a, b⟩
    exact ⟨x.toNat, List.mem_range.mpr (by omega), by omega⟩
/-- rising, of n's crossings -/
def Rise (n : Int) (l : List Int) : Prop := l.Pairwise (· < ·) ∧ ∀ x ∈ l, 0 ≤ x ∧ x < n
/-- who is next to k -/
def nextL (w : Int × Tup (Int × Int)) (k : Int) : List Int := (rangeL 0 w.1.toNat).filter fun m => decide (tied w.2.l k m)
theorem nextL_rise (w : Int × Tup (Int × Int)) (h : 0 ≤ w.1) (k : Int) : Rise w.1 (nextL w k) := ⟨(rangeL_rise _).filter _, fun x m => by
  have := mem_rangeL.mp (List.mem_filter.mp m).1
  omega⟩
theorem mem_nextL {w : Int × Tup (Int × Int)} (h : WebOk w) {k m : Int} : m ∈ nextL w k ↔ tied w.2.l k m := by
  unfold nextL
  rw [List.mem_filter, mem_rangeL, decide_eq_true_iff]
  constructor
  · exact fun h => h.2
  · intro t
    have := h.tie t
    have := h.n1
    exact ⟨by omega, t⟩
theorem sort_nbrs {w : Int × Tup (Int × Int)} (h : WebOk w) (k : Int) : sortI (nbrs w.2.l k) = nextL w k :=
  rise_ext (sortI_rise (nbrs_nodup h.nd h.ok)) (nextL_rise w (by have := h.n1; omega) k).1 fun x => by rw [mem_sortI, mem_nbrs, mem_nextL h]
theorem nextL_len (w : Int × Tup (Int × Int)) (h : WebOk w) (k : Int) : (nextL w k).length ≤ 40 := by
  unfold nextL
  refine Nat.le_trans (List.length_filter_le _ _) ?_
  rw [rangeL_len]
  have := h.n2
  omega
/-! dicts of pairs -/
theorem keys_len {κ β : Type} (d : Dic κ β) : (dkeys d).length = d.l.length := by unfold dkeys; rw [List.length_map]
theorem put_len {κ β : Type} [DecidableEq κ] (d : Dic κ β) (k : κ) (v : β) : (dput d k v).l.length ≤ d.l.length + 1 := by
  unfold dput
  split
  · show (List.map _ _).length ≤ _
    rw [List.length_map]; omega
  · show (d.l ++ _).length ≤ _
    rw [List.length_append]; exact Nat.le_refl _
theorem put_mem {κ β : Type} [DecidableEq κ] (d : Dic κ β) (k : κ) (v : β) (x : κ) : x ∈ dkeys (dput d k v) ↔ x = k ∨ x ∈ dkeys d := by
  rw [dkeys_put]
  split
  · rename_i h
    constructor
    · exact .inr
    · rintro (rfl | h') <;> assumption
  · rw [List.mem_append, List.mem_singleton]; exact Or.comm
theorem put_nodup {κ β : Type} [DecidableEq κ] (d : Dic κ β) (k : κ) (v : β) (h : (dkeys d).Nodup) : (dkeys (dput d k v)).Nodup := by
  rw [dkeys_put]
  split
  · exact h
  · rename_i hk
    exact List.nodup_append.mpr ⟨h, by simp, fun x hx y hy => by cases List.mem_singleton.mp hy; exact fun e => hk (e ▸ hx)⟩
theorem dputR_ok {κ β : Type} [DecidableEq κ] {d : Dic κ β} {k : κ} {v : β} (h : d.l.length ≤ 1000000) : dputR d k v = .ok (dput d k v) := guardR_of (decide_eq_true h)
theorem Sat.bput {κ β γ : Type} [DecidableEq κ] {d : Dic κ β} {k : κ} {v : β} {kk : Dic κ β → Res γ} {P : γ → Prop} (h : d.l.length ≤ 1000000) (p : Sat (kk (dput d k v)) P) : Sat ((dputR d k v).bind kk) P := .beq (dputR_ok h) p
/-- ties as keys -/
structure Ties (n : Int) (i : Nat) (d : Dic (Int × Int) Bool) : Prop where
  len : d.l.length ≤ i
  ok : ∀ t ∈ dkeys d, TieOk n t
  nd : (dkeys d).Nodup
theorem Ties.nil (n : Int) : Ties n 0 ⟨[]⟩ := ⟨Nat.le_refl _, (fun t m => by cases m), .nil⟩
theorem Ties.le {n : Int} {i j : Nat} {d : Dic (Int × Int) Bool} (h : Ties n i d) (l : i ≤ j) : Ties n j d := ⟨Nat.le_trans h.len l, h.ok, h.nd⟩
theorem Ties.put {n : Int} {i : Nat} {d : Dic (Int × Int) Bool} (h : Ties n i d) {t : Int × Int} (ht : TieOk n t) : Ties n (i + 1) (dput d t true) :=
  ⟨Nat.le_trans (put_len _ _ _) (Nat.succ_le_succ h.len), fun x m => (put_mem _ _ _ _ |>.mp m).elim (fun e => e ▸ ht) (h.ok x), put_nodup _ _ _ h.nd⟩
theorem Ties.web {n : Int} {i : Nat} {d : Dic (Int × Int) Bool} (h : Ties n i d) (h1 : 1 ≤ n) (h2 : n ≤ 40) (hi : i ≤ 200) : WebOk (n, ⟨sortP (dkeys d)⟩) :=
  ⟨h1, h2, by
    show (sortP (dkeys d)).length ≤ 200
    rw [(sortP_perm _).length_eq, keys_len]
    exact Nat.le_trans h.len hi, fun t m => h.ok t ((sortP_perm _).mem_iff.mp m), (sortP_perm _).nodup_iff.mpr h.nd, sortP_pw _⟩
theorem tie_mm {a b n : Int} (ha : 0 ≤ a) (ha2 : a < n) (hb : 0 ≤ b) (hb2 : b < n) (h : a ≠ b) : TieOk n (min a b, max a b) := by
  show 0 ≤ min a b ∧ min a b < max a b ∧ max a b < n
  omega
theorem cut_len {α : Type} (xs : List α) (lo hi : Nat) : (cut xs (some (lo : Int)) (some (hi : Int))).length ≤ hi - lo := by
  unfold cut
  rw [HT.sIx_nat, HT.sIx_nat, List.length_take]
  omega
theorem two {ds : List Int} (h : ds.length = 2) : ∃ a b, ds = [a, b] := by
  match ds, h with
  | [a, b], _ => exact ⟨a, b, rfl⟩
theorem three {ds : List Int} (h : ds.length = 3) : ∃ a b c, ds = [a, b, c] := by
  match ds, h with
  | [a, b, c], _ => exact ⟨a, b, c, rfl⟩
theorem four {ds : List Int} (h : ds.length = 4) : ∃ a b c d, ds = [a, b, c, d] := by
  match ds, h with
  | [a, b, c, d], _ => exact ⟨a, b, c, d, rfl⟩
/-- the script's own numbers -/
def Digits (sizes ds : List Int) : Prop := ds.length = sizes.length ∧ ∀ (i : Nat) (d z : Int), ds[i]? = some d → sizes[i]? = some z → 0 ≤ d ∧ d < z
theorem Digits.get {sizes ds : List Int} (h : Digits sizes ds) {i : Nat} {z : Int} (e : sizes[i]? = some z) : ∃ d, ds[i]? = some d ∧ 0 ≤ d ∧ d < z := by
  have hi : i < ds.length := by rw [h.1]; exact (List.getElem?_eq_some_iff.mp e).1
  exact ⟨_, List.getElem?_eq_getElem hi, h.2 i _ z (List.getElem?_eq_getElem hi) e⟩
end G

namespace G
open PySem PySem.Spec PyProof.Rows L2
theorem Sat.while {S : Type} {c : S → Res Bool} {f : S → Res S} (I : Nat → S → Prop) {P : S → Prop} (hs : ∀ i s, I i s → ∃ b, c s = .ok b ∧ (b = true → Sat (f s) (I (i + 1))) ∧ (b = false → P s)) : ∀ (n : Nat) (i : Nat) (s0 : S), (∀ i s, I i s → i < n) → I i s0 → Sat (whileR c f (n - i) s0) P := by
  intro n
  have key : ∀ m i s0, n - i = m → (∀ i s, I i s → i < n) → I i s0 → Sat (whileR c f m s0) P := by
    intro m
    induction m with
    | zero => intro i s0 e hn h; have := hn i s0 h; omega
    | succ m ih =>
      intro i s0 e hn h
      obtain ⟨b, eb, ht, hf⟩ := hs i s0 h
      have e2 : whileR c f (m + 1) s0 = (c s0).bind fun b => if b then (f s0).bind (whileR c f m) else .ok s0 := rfl
      rw [e2, eb, Res.okb]
      cases b with
      | true => exact Sat.bind (ht rfl) fun s h' => ih (i + 1) s (by omega) hn h'
      | false => exact Sat.ok (hf rfl)
  exact fun i s0 hn h => key _ i s0 rfl hn h
/-! ### a list that grows -/
def grow (okb : Int → Bool) : List Int → List Int → List Int
  | s, [] => s
  | s, a :: as => grow okb (if okb a = true ∧ a ∉ s then s ++ [a] else s) as
section
variable {okb : Int → Bool}
theorem mem_grow {x : Int} : ∀ {as s : List Int}, x ∈ grow okb s as ↔ x ∈ s ∨ (x ∈ as ∧ okb x = true)
  | [], s => by unfold grow; simp
  | a :: as, s => by
    unfold grow
    rw [mem_grow]
    split
    · rename_i h
      rw [List.mem_append, List.mem_singleton, List.mem_cons]
      constructor
      · rintro ((h1 | rfl) | h1)
        · exact .inl h1
        · exact .inr ⟨.inl rfl, h.1⟩
        · exact .inr ⟨.inr h1.1, h1.2⟩
      · rintro (h1 | ⟨rfl | h1, h2⟩)
        · exact .inl (.inl h1)
        · exact .inl (.inr rfl)
        · exact .inr ⟨h1, h2⟩
    · rename_i h
      rw [List.mem_cons]
      constructor
      · rintro (h1 | h1)
        · exact .inl h1
        · exact .inr ⟨.inr h1.1, h1.2⟩
      · rintro (h1 | ⟨rfl | h1, h2⟩)
        · exact .inl h1
        · by_cases hx : x ∈ s
          · exact .inl hx
          · exact (h ⟨h2, hx⟩).elim
        · exact .inr ⟨h1, h2⟩
theorem grow_nodup : ∀ {as s : List Int}, s.Nodup → (grow okb s as).Nodup
  | [], s, h => h
  | a :: as, s, h => by
    unfold grow
    refine grow_nodup ?_
    split
    · rename_i h'
      exact List.nodup_append.mpr ⟨h, by simp, fun x hx y hy => by cases List.mem_singleton.mp hy; exact fun e => h'.2 (e ▸ hx)⟩
    · exact h
theorem grow_pre : ∀ {as s : List Int}, s <+: grow okb s as
  | [], s => List.prefix_refl _
  | a :: as, s => by
    unfold grow
    refine List.IsPrefix.trans ?_ grow_pre
    split
    · exact List.prefix_append _ _
    · exact List.prefix_refl _
theorem grow_len : ∀ {as s : List Int}, (grow okb s as).length ≤ s.length + as.length
  | [], s => by unfold grow; simp
  | a :: as, s => by
    unfold grow
    refine Nat.le_trans grow_len ?_
    split
    · rw [List.length_append, List.length_singleton, List.length_cons]; omega
    · rw [List.length_cons]; omega
/-- a walk that lets a list grow -/
theorem foldR_grow {f : List Int → Int → Res (List Int)} {as s : List Int} (hf : ∀ a ∈ as, ∀ s : List Int, s.length ≤ 100000 → f s a = .ok (if okb a = true ∧ a ∉ s then s ++ [a] else s)) (hl : s.length + as.length ≤ 100000) : foldR f s as = .ok (grow okb s as) := by
  induction as generalizing s with
  | nil => rfl
  | cons a as ih =>
    rw [List.length_cons] at hl
    show (f s a).bind _ = _
    rw [hf a List.mem_cons_self s (by omega)]
    show foldR f _ as = .ok (grow okb (if okb a = true ∧ a ∉ s then s ++ [a] else s) as)
    refine ih (s := if okb a = true ∧ a ∉ s then s ++ [a] else s) (fun b m => hf b (List.mem_cons_of_mem _ m)) ?_
    split
    · rw [List.length_append, List.length_singleton]; omega
    · omega
end
/-- what can be come to -/
inductive Reach (nb : Int → List Int) (okb : Int → Bool) (k : Int) : Int → Prop
  | here : Reach nb okb k k
  | on {x y : Int} : Reach nb okb k x → y ∈ nb x → okb y = true → Reach nb okb k y
/-- unlike crossings are no more than there are -/
theorem nodup_len : ∀ (n : Nat) {l : List Int}, l.Nodup → (∀ x ∈ l, 0 ≤ x ∧ x < n) → l.length ≤ n
  | 0, l, _, h => by
    cases l with
    | nil => exact Nat.le_refl _
    | cons a l => have := h a List.mem_cons_self; omega
  | n + 1, l, nd, h => by
    have e := List.length_filter_le (fun x => decide (x ≠ (n : Int))) l
    have ih := nodup_len n (l := l.filter fun x => decide (x ≠ (n : Int))) (nd.filter _) fun x m => by
      obtain ⟨m1, m2⟩ := List.mem_filter.mp m
      have := h x m1
      have := of_decide_eq_true m2
      omega
    have : l.length ≤ (l.filter fun x => decide (x ≠ (n : Int))).length + 1 := by
      clear ih e h
      induction l with
      | nil => simp
      | cons a l ih =>
        obtain ⟨n1, n2⟩ := List.nodup_cons.mp nd
        by_cases ha : a = (n : Int)
        · have : l.filter (fun x => decide (x ≠ (n : Int))) = l := List.filter_eq_self.mpr fun x m => decide_eq_true fun e => n1 (by rw [ha, ← e]; exact m)
          rw [List.filter_cons, if_neg (by simp [ha]), this, List.length_cons]; omega
        · rw [List.filter_cons, if_pos (by simp [ha]), List.length_cons, List.length_cons]
          have := ih n2
          omega
    omega
/-- where a growing list is walked to its end -/
theorem bfs {nb : Int → List Int} {okb : Int → Bool} {k n : Int} {c : List Int × Int → Res Bool} {f : List Int × Int → Res (List Int × Int)} (hn : n ≤ 40) (hk : 0 ≤ k ∧ k < n) (hnb : ∀ x, 0 ≤ x → x < n → ∀ y ∈ nb x, 0 ≤ y ∧ y < n)
    (hc : ∀ s (i : Nat), c (s, (i : Int)) = .ok (decide ((i : Int) < (s.length : Int)))) (hf : ∀ s (i : Nat) x, s[i]? = some x → s.length ≤ 40 → (∀ y ∈ s, 0 ≤ y ∧ y < n) → f (s, (i : Int)) = .ok (grow okb s (nb x), (i : Int) + 1)) :
    Sat (whileR c f 64 ([k], 0)) (fun s => s.1.Nodup ∧ (∀ x ∈ s.1, 0 ≤ x ∧ x < n) ∧ ∀ x, x ∈ s.1 ↔ Reach nb okb k x) := by
  have hn0 : 0 ≤ n := by omega
  refine Sat.while (fun i s => s.2 = (i : Int) ∧ i ≤ s.1.length ∧ s.1.Nodup ∧ (∀ x ∈ s.1, 0 ≤ x ∧ x < n) ∧ (∀ x ∈ s.1, Reach nb okb k x) ∧ k ∈ s.1 ∧ ∀ j x, j < i → s.1[j]? = some x → ∀ y ∈ nb x, okb y = true → y ∈ s.1) ?_ 64 0 ([k], 0) ?_
    ⟨rfl, Nat.zero_le _, by simp, (fun x m => by cases List.mem_singleton.mp m; exact hk), (fun x m => by cases List.mem_singleton.mp m; exact .here), by simp, fun j x h => by omega⟩
  · rintro i ⟨s, at'⟩ ⟨e, hi, nd, rg, rc, ks, cl⟩
    have hi : i ≤ s.length := hi
    have nd' : s.Nodup := nd
    clear nd
    have nd := nd'
    have rg : ∀ x ∈ s, 0 ≤ x ∧ x < n := rg
    have rc : ∀ x ∈ s, Reach nb okb k x := rc
    have ks : k ∈ s := ks
    have cl : ∀ j x, j < i → s[j]? = some x → ∀ y ∈ nb x, okb y = true → y ∈ s := cl
    have e : at' = (i : Int) := e
    subst e
    have hl : s.length ≤ 40 := by
      have h40 : s.length ≤ n.toNat := nodup_len n.toNat nd fun x m => by have := rg x m; omega
      omega
    refine ⟨_, hc s i, fun h => ?_, fun h => ?_⟩
    · have hlt : i < s.length := by have := of_decide_eq_true h; omega
      have gx := get_of hlt
      have rx := rg s[i] (List.getElem_mem _)
      refine .of_eq (hf s i _ gx hl rg) ⟨rfl, ?_, grow_nodup nd, fun x m => ?_, fun x m => ?_, mem_grow.mpr (.inl ks), fun j x hj hx y my oy => ?_⟩
      · have := grow_pre (okb := okb) (as := nb s[i]) (s := s) |>.length_le
        show i + 1 ≤ (grow okb s (nb s[i])).length
        omega
      · rcases mem_grow.mp m with m | m
        · exact rg x m
        · exact hnb _ rx.1 rx.2 x m.1
      · rcases mem_grow.mp m with m | m
        · exact rc x m
        · exact .on (rc _ (List.getElem_mem hlt)) m.1 m.2
      · have hx : (grow okb s (nb s[i]))[j]? = some x := hx
        have hpre := grow_pre (okb := okb) (as := nb s[i]) (s := s)
        have hjs : s[j]? = some x := by
          obtain ⟨t, ht⟩ := hpre
          rw [← ht, List.getElem?_append_left (by omega)] at hx
          exact hx
        by_cases e : j = i
        · subst e
          rw [gx] at hjs
          cases hjs
          exact mem_grow.mpr (.inr ⟨my, oy⟩)
        · exact mem_grow.mpr (.inl (cl j x (by omega) hjs y my oy))
    · refine ⟨nd, rg, fun x => ⟨rc x, fun r => ?_⟩⟩
      have hge : s.length ≤ i := by have := of_decide_eq_false h; omega
      show x ∈ s
      induction r with
      | here => exact ks
      | on r my oy ih =>
        have ih : _ ∈ s := ih
        obtain ⟨j, hj⟩ := List.getElem?_of_mem ih
        have := (List.getElem?_eq_some_iff.mp hj).1
        exact cl j _ (by omega) hj _ my oy
  · rintro i s ⟨e, hi, nd, rg, _⟩
    have := nodup_len n.toNat nd fun x m => by have := rg x m; omega
    omega
/-! ### signs -/
def sgn (b : Str) (k : Int) : Str := ⟨#[b.cps.toList.getD k.toNat 0]⟩
theorem strIx_sgn {b : Str} {k : Int} (hl : b.length ≤ 1000000) (h0 : 0 ≤ k) (h1 : k < b.length) : strIx b k = .ok (sgn b k) := by
  unfold strIx
  rw [decide_eq_true hl]
  have hi : k.toNat < b.cps.toList.length := by rw [Array.length_toList]; show k.toNat < b.length; omega
  have e : atI b.cps.toList k = some b.cps.toList[k.toNat] := by
    have := atI_nat (get_of hi)
    rw [Int.toNat_of_nonneg h0] at this
    exact this
  rw [e]
  show Res.ok _ = Res.ok _
  unfold sgn
  rw [List.getD_eq_getElem?_getD, get_of hi]; rfl
/-! ### lists of lists -/
theorem setI_nat {α : Type} {xs : List α} {i : Int} {a : α} (h0 : 0 ≤ i) (h1 : i < xs.length) : setI xs i a = xs.set i.toNat a := by
  unfold setI ixN
  rw [if_pos h0, if_pos (by omega)]
theorem idx_rangeMap {α : Type} {n : Nat} {f : Int → α} {i : Int} (h0 : 0 ≤ i) (h1 : i < n) : G.idx ((rangeL 0 n).map f) i = .ok (f i) := idx_int h0 (by
  rw [List.getElem?_map]
  have : (rangeL 0 n)[i.toNat]? = some i := by
    unfold rangeL
    rw [List.getElem?_map, List.getElem?_range (by omega)]
    show some (0 + (i.toNat : Int)) = _
    congr 1; omega
  rw [this]; rfl)
theorem set_rangeMap {α : Type} {n : Nat} {f : Int → α} {i : Int} {a : α} (h0 : 0 ≤ i) (h1 : i < n) : setI ((rangeL 0 n).map f) i a = (rangeL 0 n).map (fun k => if k = i then a else f k) := by
  rw [setI_nat h0 (by rw [List.length_map, rangeL_len]; exact h1)]
  apply List.ext_getElem?
  intro j
  rw [List.getElem?_set, List.getElem?_map, List.getElem?_map]
  by_cases hj : j < n
  · have : (rangeL 0 n)[j]? = some (j : Int) := by
      unfold rangeL
      rw [List.getElem?_map, List.getElem?_range hj]
      show some (0 + (j : Int)) = _
      congr 1; omega
    rw [this, List.length_map, rangeL_len]
    by_cases e : i.toNat = j
    · rw [if_pos e, if_pos (by omega)]
      show some a = some (if (j : Int) = i then a else f (j : Int))
      rw [if_pos (by omega)]
    · rw [if_neg e]
      show some (f (j : Int)) = some (if (j : Int) = i then a else f (j : Int))
      rw [if_neg (by omega)]
  · have : (rangeL 0 n)[j]? = none := List.getElem?_eq_none (by rw [rangeL_len]; omega)
    rw [this, if_neg (by omega)]; rfl
theorem foldR_congr {S α : Type} {f g : S → α → Res S} : ∀ {xs : List α} {s : S}, (∀ a ∈ xs, ∀ s, f s a = g s a) → foldR f s xs = foldR g s xs
  | [], s, _ => rfl
  | a :: as, s, h => by
    show (f s a).bind _ = (g s a).bind _
    rw [h a List.mem_cons_self s]
    congr 1
    funext s'
    exact foldR_congr fun b m => h b (List.mem_cons_of_mem _ m)
end G

namespace G
open PySem PySem.Spec PyProof.Rows L2
/-! ### what can be come to, and back -/
theorem Reach.trans {nb : Int → List Int} {okb : Int → Bool} {a b c : Int} (h1 : G.Reach nb okb a b) (h2 : G.Reach nb okb b c) : G.Reach nb okb a c := by
  induction h2 with
  | here => exact h1
  | on _ m o ih => exact .on ih m o
theorem Reach.ok {nb : Int → List Int} {okb : Int → Bool} {a b : Int} (h : G.Reach nb okb a b) (ha : okb a = true) : okb b = true := by
  cases h with
  | here => exact ha
  | on _ _ o => exact o
theorem Reach.symm {nb : Int → List Int} {okb : Int → Bool} (hs : ∀ x y, y ∈ nb x → x ∈ nb y) {a b : Int} (ha : okb a = true) (h : G.Reach nb okb a b) : G.Reach nb okb b a := by
  induction h with
  | here => exact .here
  | on r m o ih => exact Reach.trans (.on .here (hs _ _ m) (Reach.ok r ha)) ih
theorem nextL_symm {w : Int × Tup (Int × Int)} (h : WebOk w) (x y : Int) (m : y ∈ nextL w x) : x ∈ nextL w y := (mem_nextL h).mpr (tied_symm.mp ((mem_nextL h).mp m))
theorem Reach.range {w : Int × Tup (Int × Int)} (h : WebOk w) {okb : Int → Bool} {k x : Int} (hk : 0 ≤ k ∧ k < w.1) (r : G.Reach (nextL w) okb k x) : 0 ≤ x ∧ x < w.1 := by
  cases r with
  | here => exact hk
  | on _ m _ => exact (nextL_rise w (by have := h.n1; omega) _).2 x m
/-- the walk with something beside -/
theorem bfs2 {D : Type} (J : D → List Int → Prop) {nb : Int → List Int} {okb : Int → Bool} {k n : Int} {c : D × List Int × Int → Res Bool} {f : D × List Int × Int → Res (D × List Int × Int)} {d0 : D} (hn : n ≤ 40) (hk : 0 ≤ k ∧ k < n) (hnb : ∀ x, 0 ≤ x → x < n → ∀ y ∈ nb x, 0 ≤ y ∧ y < n) (h0 : J d0 [k])
    (hc : ∀ d s (i : Nat), c (d, s, (i : Int)) = .ok (decide ((i : Int) < (s.length : Int)))) (hf : ∀ d s (i : Nat) x, s[i]? = some x → J d s → s.length ≤ 40 → (∀ y ∈ s, 0 ≤ y ∧ y < n) → ∃ d', f (d, s, (i : Int)) = .ok (d', grow okb s (nb x), (i : Int) + 1) ∧ J d' (grow okb s (nb x))) :
    Sat (whileR c f 64 (d0, [k], 0)) (fun s => s.2.1.Nodup ∧ (∀ x ∈ s.2.1, 0 ≤ x ∧ x < n) ∧ ∀ x, x ∈ s.2.1 ↔ G.Reach nb okb k x) := by
  have hn0 : 0 ≤ n := by omega
  refine Sat.while (fun i s => J s.1 s.2.1 ∧ s.2.2 = (i : Int) ∧ i ≤ s.2.1.length ∧ s.2.1.Nodup ∧ (∀ x ∈ s.2.1, 0 ≤ x ∧ x < n) ∧ (∀ x ∈ s.2.1, G.Reach nb okb k x) ∧ k ∈ s.2.1 ∧ ∀ j x, j < i → s.2.1[j]? = some x → ∀ y ∈ nb x, okb y = true → y ∈ s.2.1) ?_ 64 0 (d0, [k], 0) ?_
    ⟨h0, rfl, Nat.zero_le _, by simp, (fun x m => by cases List.mem_singleton.mp m; exact hk), (fun x m => by cases List.mem_singleton.mp m; exact .here), by simp, fun j x h => by omega⟩
  · rintro i ⟨d, s, at'⟩ ⟨hJ, e, hi, nd, rg, rc, ks, cl⟩
    have hJ : J d s := hJ
    have hi : i ≤ s.length := hi
    have nd' : s.Nodup := nd
    clear nd
    have nd := nd'
    have rg : ∀ x ∈ s, 0 ≤ x ∧ x < n := rg
    have rc : ∀ x ∈ s, G.Reach nb okb k x := rc
    have ks : k ∈ s := ks
    have cl : ∀ j x, j < i → s[j]? = some x → ∀ y ∈ nb x, okb y = true → y ∈ s := cl
    have e : at' = (i : Int) := e
    subst e
    have hl : s.length ≤ 40 := by
      have h40 : s.length ≤ n.toNat := nodup_len n.toNat nd fun x m => by have := rg x m; omega
      omega
    refine ⟨_, hc d s i, fun h => ?_, fun h => ?_⟩
    · have hlt : i < s.length := by have := of_decide_eq_true h; omega
      have gx := get_of hlt
      have rx := rg s[i] (List.getElem_mem _)
      obtain ⟨d', ef, hJ'⟩ := hf d s i _ gx hJ hl rg
      refine .of_eq ef ⟨hJ', rfl, ?_, grow_nodup nd, fun x m => ?_, fun x m => ?_, mem_grow.mpr (.inl ks), fun j x hj hx y my oy => ?_⟩
      · have := grow_pre (okb := okb) (as := nb s[i]) (s := s) |>.length_le
        show i + 1 ≤ (grow okb s (nb s[i])).length
        omega
      · rcases mem_grow.mp m with m | m
        · exact rg x m
        · exact hnb _ rx.1 rx.2 x m.1
      · rcases mem_grow.mp m with m | m
        · exact rc x m
        · exact .on (rc _ (List.getElem_mem hlt)) m.1 m.2
      · have hx : (grow okb s (nb s[i]))[j]? = some x := hx
        have hpre := grow_pre (okb := okb) (as := nb s[i]) (s := s)
        have hjs : s[j]? = some x := by
          obtain ⟨t, ht⟩ := hpre
          rw [← ht, List.getElem?_append_left (by omega)] at hx
          exact hx
        by_cases e : j = i
        · subst e
          rw [gx] at hjs
          cases hjs
          exact mem_grow.mpr (.inr ⟨my, oy⟩)
        · exact mem_grow.mpr (.inl (cl j x (by omega) hjs y my oy))
    · refine ⟨nd, rg, fun x => ⟨rc x, fun r => ?_⟩⟩
      have hge : s.length ≤ i := by have := of_decide_eq_false h; omega
      show x ∈ s
      induction r with
      | here => exact ks
      | on r my oy ih =>
        have ih : _ ∈ s := ih
        obtain ⟨j, hj⟩ := List.getElem?_of_mem ih
        have := (List.getElem?_eq_some_iff.mp hj).1
        exact cl j _ (by omega) hj _ my oy
  · rintro i s ⟨_, e, hi, nd, rg, _⟩
    have := nodup_len n.toNat nd fun x m => by have := rg x m; omega
    omega
/-! dicts as sets -/
theorem dhas_put {κ β : Type} [DecidableEq κ] (d : Dic κ β) (k : κ) (v : β) (x : κ) : dhas (dput d k v) x = (decide (x = k) || dhas d x) := by
  rw [dhas_keys, dhas_keys, Bool.eq_iff_iff, decide_eq_true_iff, put_mem, Bool.or_eq_true, decide_eq_true_iff, decide_eq_true_iff]
/-- a list's items become keys -/
theorem foldR_put {s : Dic Int Bool} {xs : List Int} (hl : s.l.length + xs.length ≤ 1000000) : Sat (foldR (fun (s3 : (Dic Int Bool)) (a4 : Int) => (Res.bind (dputR s3 a4 true) fun inside5 => (Res.ok inside5))) s xs) (fun d => d.l.length ≤ s.l.length + xs.length ∧ ∀ x, dhas d x = (decide (x ∈ xs) || dhas s x)) := by
  refine (Sat.foldR (fun i d => d.l.length ≤ s.l.length + i ∧ ∀ x, dhas d x = (decide (x ∈ xs.take i) || dhas s x)) ⟨Nat.le_refl _, fun x => by simp⟩ ?_).imp fun d ⟨h1, h2⟩ => ⟨h1, fun x => by rw [h2, List.take_length]⟩
  rintro i d a ha ⟨h1, h2⟩
  have hi := (List.getElem?_eq_some_iff.mp ha).1
  refine .bput (by omega) (.ok ⟨Nat.le_trans (put_len _ _ _) (by omega), fun x => ?_⟩)
  rw [dhas_put, h2, List.take_succ, ha]
  by_cases e : x = a
  · simp [e]
  · simp [e]
theorem dget_put {κ β : Type} [DecidableEq κ] (d : Dic κ β) (k : κ) (v : β) (x : κ) : dget (dput d k v) x = if x = k then some v else dget d x := by
  have hf : ∀ l : List (κ × β), (l.map fun kv => if kv.1 = k then (kv.1, v) else kv).find? (fun kv => decide (kv.1 = x)) = ((l.find? fun kv => decide (kv.1 = x)).map fun kv => if kv.1 = k then (kv.1, v) else kv) := by
    intro l
    induction l with
    | nil => rfl
    | cons a l ih =>
      rw [List.map_cons, List.find?_cons, List.find?_cons]
      have e : (if a.1 = k then (a.1, v) else a).1 = a.1 := by split <;> rfl
      rw [e]
      by_cases h : a.1 = x
      · rw [decide_eq_true h]; rfl
      · rw [decide_eq_false h]; exact ih
  unfold dput dget
  by_cases hk : dhas d k = true
  · rw [if_pos hk]
    show Option.map (fun z : κ × β => z.2) ((d.l.map fun kv => if kv.1 = k then (kv.1, v) else kv).find? fun kv => decide (kv.1 = x)) = _
    rw [hf, Option.map_map]
    by_cases e : x = k
    · subst e
      rw [if_pos rfl]
      have : (dget d x).isSome = true := by rw [dget_isSome]; exact hk
      unfold dget at this
      cases h : d.l.find? (fun kv => decide (kv.1 = x)) with
      | none => rw [h] at this; cases this
      | some kv =>
        have := List.find?_some h
        have : kv.1 = x := of_decide_eq_true this
        show some (if kv.1 = x then (kv.1, v) else kv).2 = _
        rw [if_pos this]
    · rw [if_neg e]
      cases h : d.l.find? (fun kv => decide (kv.1 = x)) with
      | none => rfl
      | some kv =>
        have hz := List.find?_some h
        have : kv.1 = x := of_decide_eq_true hz
        show some (if kv.1 = k then (kv.1, v) else kv).2 = some kv.2
        rw [if_neg (by rw [this]; exact e)]
  · rw [if_neg hk]
    show Option.map (fun z : κ × β => z.2) ((d.l ++ [(k, v)]).find? fun kv => decide (kv.1 = x)) = _
    rw [List.find?_append]
    by_cases e : x = k
    · subst e
      rw [if_pos rfl]
      have : (dget d x) = none := by
        have h := dget_isSome d x
        cases e : dget d x with
        | none => rfl
        | some _ => rw [e] at h; rw [← h] at hk; exact (hk rfl).elim
      unfold dget at this
      cases h : d.l.find? (fun kv => decide (kv.1 = x)) with
      | none =>
        rw [Option.none_or, List.find?_cons, decide_eq_true rfl]; rfl
      | some kv => rw [h] at this; cases this
    · rw [if_neg e]
      cases h : d.l.find? (fun kv => decide (kv.1 = x)) with
      | none =>
        rw [Option.none_or, List.find?_cons, decide_eq_false (fun h => e h.symm)]; rfl
      | some kv => rfl
/-! ### pieces -/
/-- the piece of k, rising -/
noncomputable def PL (w : Int × Tup (Int × Int)) (ok : Int → Bool) (k : Int) : List Int := (rangeL 0 w.1.toNat).filter fun x => @decide (G.Reach (nextL w) ok k x) (Classical.propDecidable _)
section
variable {w : Int × Tup (Int × Int)} {ok : Int → Bool}
open Classical in
theorem mem_PL (h : WebOk w) {k x : Int} (hk : 0 ≤ k ∧ k < w.1) : x ∈ PL w ok k ↔ G.Reach (nextL w) ok k x := by
  unfold PL
  rw [List.mem_filter, mem_rangeL]
  rw [@decide_eq_true_iff _ (Classical.propDecidable _)]
  exact ⟨fun h => h.2, fun r => ⟨by have := Reach.range h hk r; have := h.n1; omega, r⟩⟩
theorem PL_rise (h : WebOk w) (k : Int) : Rise w.1 (PL w ok k) := ⟨(rangeL_rise _).filter _, fun x m => by
  have := mem_rangeL.mp (List.mem_filter.mp m).1
  have := h.n1
  omega⟩
theorem PL_len (h : WebOk w) (k : Int) : (PL w ok k).length ≤ 40 := by
  unfold PL
  refine Nat.le_trans (List.length_filter_le _ _) ?_
  rw [rangeL_len]
  have := h.n2
  omega
theorem PL_self (h : WebOk w) {k : Int} (hk : 0 ≤ k ∧ k < w.1) : k ∈ PL w ok k := (mem_PL h hk).mpr .here
/-- one piece, told by any of its crossings -/
theorem PL_eq (h : WebOk w) {k x : Int} (hk : 0 ≤ k ∧ k < w.1) (ho : ok k = true) (m : x ∈ PL w ok k) : PL w ok x = PL w ok k := by
  have r := (mem_PL h hk).mp m
  have hx := Reach.range h hk r
  have r' := Reach.symm (nextL_symm h) ho r
  refine rise_ext (PL_rise h x).1 (PL_rise h k).1 fun y => ?_
  rw [mem_PL h hx, mem_PL h hk]
  exact ⟨fun z => Reach.trans r z, fun z => Reach.trans r' z⟩
theorem PL_ok (h : WebOk w) {k x : Int} (hk : 0 ≤ k ∧ k < w.1) (ho : ok k = true) (m : x ∈ PL w ok k) : ok x = true := Reach.ok ((mem_PL h hk).mp m) ho
/-- the least of its piece -/
noncomputable def isrep (w : Int × Tup (Int × Int)) (ok : Int → Bool) (k : Int) : Bool := ok k && (PL w ok k).all fun x => decide (k ≤ x)
theorem isrep_iff {k : Int} : isrep w ok k = true ↔ ok k = true ∧ ∀ x ∈ PL w ok k, k ≤ x := by
  unfold isrep
  rw [Bool.and_eq_true, List.all_eq_true]
  exact ⟨fun ⟨a, b⟩ => ⟨a, fun x m => of_decide_eq_true (b x m)⟩, fun ⟨a, b⟩ => ⟨a, fun x m => decide_eq_true (b x m)⟩⟩
theorem rep_uniq (h : WebOk w) {r r' x : Int} (hr : 0 ≤ r ∧ r < w.1) (hr' : 0 ≤ r' ∧ r' < w.1) (i : isrep w ok r = true) (i' : isrep w ok r' = true) (m : x ∈ PL w ok r) (m' : x ∈ PL w ok r') : r = r' := by
  obtain ⟨o, l⟩ := isrep_iff.mp i
  obtain ⟨o', l'⟩ := isrep_iff.mp i'
  have e := (PL_eq h hr o m).symm.trans (PL_eq h hr' o' m')
  have a := l r' (by rw [e]; exact PL_self h hr')
  have b := l' r (by rw [← e]; exact PL_self h hr)
  omega
/-- each has its least one -/
theorem has_rep (h : WebOk w) {k : Int} (hk : 0 ≤ k ∧ k < w.1) (ho : ok k = true) : ∃ r, (0 ≤ r ∧ r < w.1) ∧ isrep w ok r = true ∧ k ∈ PL w ok r ∧ r ≤ k := by
  have hs := PL_self (ok := ok) h hk
  have hne : PL w ok k ≠ [] := fun e => by rw [e] at hs; cases hs
  have m := minL_mem hne
  have hl : ∀ x ∈ PL w ok k, minL (PL w ok k) ≤ x := fun x m => minL_le m
  have hr := (PL_rise (ok := ok) h k).2 _ m
  have e := PL_eq h hk ho m
  refine ⟨_, hr, isrep_iff.mpr ⟨PL_ok h hk ho m, fun x mx => hl x (by rw [e] at mx; exact mx)⟩, by rw [e]; exact hs, hl _ hs⟩
theorem PL_head (h : WebOk w) {k : Int} (hk : 0 ≤ k ∧ k < w.1) (i : isrep w ok k = true) : (PL w ok k)[0]? = some k := by
  obtain ⟨o, l⟩ := isrep_iff.mp i
  have hs := PL_self (ok := ok) h hk
  have hr := (PL_rise (ok := ok) h k).1
  cases e : PL w ok k with
  | nil => rw [e] at hs; cases hs
  | cons a r =>
    rw [e] at hs hr l
    rcases List.mem_cons.mp hs with z | z
    · rw [z]; rfl
    · have := (List.pairwise_cons.mp hr).1 k z
      have := l a List.mem_cons_self
      omega
noncomputable def reps (w : Int × Tup (Int × Int)) (ok : Int → Bool) (i : Nat) : List Int := (rangeL 0 i).filter (isrep w ok)
noncomputable def PS (w : Int × Tup (Int × Int)) (ok : Int → Bool) : List (List Int) := (reps w ok w.1.toNat).map (PL w ok)
theorem rangeL_succ (i : Nat) : rangeL 0 (i + 1) = rangeL 0 i ++ [(i : Int)] := by
  unfold rangeL
  rw [List.range_succ, List.map_append]
  simp
theorem reps_succ (i : Nat) : reps w ok (i + 1) = if isrep w ok (i : Int) = true then reps w ok i ++ [(i : Int)] else reps w ok i := by
  unfold reps
  rw [rangeL_succ, List.filter_append, List.filter_cons]
  split <;> simp
theorem mem_reps {i : Nat} {r : Int} : r ∈ reps w ok i ↔ (0 ≤ r ∧ r < i) ∧ isrep w ok r = true := by
  unfold reps
  rw [List.mem_filter, mem_rangeL]
theorem reps_len (i : Nat) : (reps w ok i).length ≤ i := by
  unfold reps
  exact Nat.le_trans (List.length_filter_le _ _) (by rw [rangeL_len]; exact Nat.le_refl _)
/-- what was seen before i -/
theorem seen_iff (h : WebOk w) {i : Nat} (hi : i < w.1.toNat) (ho : ok (i : Int) = true) : isrep w ok (i : Int) = true ↔ ¬ ∃ r ∈ reps w ok i, (i : Int) ∈ PL w ok r := by
  have n1 := h.n1
  have hk : 0 ≤ (i : Int) ∧ (i : Int) < w.1 := by omega
  constructor
  · rintro hr ⟨r, mr, m⟩
    obtain ⟨⟨r0, r1⟩, ir⟩ := mem_reps.mp mr
    have := rep_uniq h ⟨r0, by omega⟩ hk ir hr m (PL_self h hk)
    omega
  · intro hn
    obtain ⟨r, hr, ir, m, le⟩ := has_rep h hk ho
    by_cases e : r = (i : Int)
    · rw [← e]; exact ir
    · exact (hn ⟨r, mem_reps.mpr ⟨⟨hr.1, by omega⟩, ir⟩, m⟩).elim
end
end G

namespace G
open PySem PySem.Spec PyProof.Rows L2
/-- the walk of a growing list, with whatever beside, by the place -/
theorem bfsG {S D : Type} (mk : D → List Int → Int → S) (J : D → List Int → Nat → Prop) {nb : Int → List Int} {okb : Int → Bool} {k n : Int} {c : S → Res Bool} {f : S → Res S} {d0 : D} (hn : n ≤ 40) (hk : 0 ≤ k ∧ k < n) (hnb : ∀ x, 0 ≤ x → x < n → ∀ y ∈ nb x, 0 ≤ y ∧ y < n) (h0 : J d0 [k] 0)
    (hc : ∀ d s (i : Nat), c (mk d s (i : Int)) = .ok (decide ((i : Int) < (s.length : Int)))) (hf : ∀ d s (i : Nat) x, s[i]? = some x → J d s i → s.length ≤ 40 → (∀ y ∈ s, 0 ≤ y ∧ y < n) → ∃ d', f (mk d s (i : Int)) = .ok (mk d' (grow okb s (nb x)) ((i : Int) + 1)) ∧ J d' (grow okb s (nb x)) (i + 1)) :
    Sat (whileR c f 64 (mk d0 [k] 0)) (fun st => ∃ d s i, st = mk d s i ∧ J d s s.length ∧ s.Nodup ∧ (∀ x ∈ s, 0 ≤ x ∧ x < n) ∧ ∀ x, x ∈ s ↔ G.Reach nb okb k x) := by
  have hn0 : 0 ≤ n := by omega
  refine Sat.while (fun i st => ∃ d s, st = mk d s (i : Int) ∧ J d s i ∧ i ≤ s.length ∧ s.Nodup ∧ (∀ x ∈ s, 0 ≤ x ∧ x < n) ∧ (∀ x ∈ s, G.Reach nb okb k x) ∧ k ∈ s ∧ ∀ j x, j < i → s[j]? = some x → ∀ y ∈ nb x, okb y = true → y ∈ s) ?_ 64 0 (mk d0 [k] 0) ?_
    ⟨d0, [k], rfl, h0, Nat.zero_le _, by simp, (fun x m => by cases List.mem_singleton.mp m; exact hk), (fun x m => by cases List.mem_singleton.mp m; exact .here), by simp, fun j x h => by omega⟩
  · rintro i st ⟨d, s, e, hJ, hi, nd, rg, rc, ks, cl⟩
    subst e
    have hl : s.length ≤ 40 := by
      have h40 : s.length ≤ n.toNat := nodup_len n.toNat nd fun x m => by have := rg x m; omega
      omega
    refine ⟨_, hc d s i, fun h => ?_, fun h => ?_⟩
    · have hlt : i < s.length := by have := of_decide_eq_true h; omega
      have gx := get_of hlt
      have rx := rg s[i] (List.getElem_mem _)
      obtain ⟨d', ef, hJ'⟩ := hf d s i _ gx hJ hl rg
      refine .of_eq ef ⟨d', _, by rw [show ((i + 1 : Nat) : Int) = (i : Int) + 1 by omega], hJ', ?_, grow_nodup nd, fun x m => ?_, fun x m => ?_, mem_grow.mpr (.inl ks), fun j x hj hx y my oy => ?_⟩
      · have := grow_pre (okb := okb) (as := nb s[i]) (s := s) |>.length_le
        omega
      · rcases mem_grow.mp m with m | m
        · exact rg x m
        · exact hnb _ rx.1 rx.2 x m.1
      · rcases mem_grow.mp m with m | m
        · exact rc x m
        · exact .on (rc _ (List.getElem_mem hlt)) m.1 m.2
      · have hpre := grow_pre (okb := okb) (as := nb s[i]) (s := s)
        have hjs : s[j]? = some x := by
          obtain ⟨t, ht⟩ := hpre
          rw [← ht, List.getElem?_append_left (by omega)] at hx
          exact hx
        by_cases e : j = i
        · subst e
          rw [gx] at hjs
          cases hjs
          exact mem_grow.mpr (.inr ⟨my, oy⟩)
        · exact mem_grow.mpr (.inl (cl j x (by omega) hjs y my oy))
    · have hge : s.length ≤ i := by have := of_decide_eq_false h; omega
      have ei : i = s.length := by omega
      refine ⟨d, s, (i : Int), rfl, ei ▸ hJ, nd, rg, fun x => ⟨rc x, fun r => ?_⟩⟩
      induction r with
      | here => exact ks
      | on r my oy ih =>
        obtain ⟨j, hj⟩ := List.getElem?_of_mem ih
        have := (List.getElem?_eq_some_iff.mp hj).1
        exact cl j _ (by omega) hj _ my oy
  · rintro i st ⟨d, s, e, _, hi, nd, rg, _⟩
    have h40 : s.length ≤ n.toNat := nodup_len n.toNat nd fun x m => by have := rg x m; omega
    omega
/-! signs in a text -/
theorem cps_app (x y : Str) : (x ++ y).cps.toList = x.cps.toList ++ y.cps.toList := by
  show (x.cps ++ y.cps).toList = _
  exact Array.toList_append
def cpOf (b : Str) (k : Int) : Nat := b.cps.toList.getD k.toNat 0
theorem sgn_eq {b : Str} {k : Int} {c : Nat} : sgn b k = ⟨#[c]⟩ ↔ cpOf b k = c := by
  unfold sgn cpOf
  constructor
  · intro h
    injection h with h
    have := congrArg (fun a : Array Nat => a.toList) h
    simpa using this
  · intro h; rw [h]
theorem join_cps : ∀ l : List Str, (Txt.join (PySem.Str.ofString "") l).cps.toList = l.flatMap fun x => x.cps.toList := by
  have e : ∀ l : List Str, Txt.join (PySem.Str.ofString "") l = Str.join (PySem.Str.ofString "") l := fun l => by
    show Builtin.Str.glued _ _ = _
    rw [StrLaws.glued_eq_join]
  intro l
  rw [e]
  induction l with
  | nil => rfl
  | cons a l ih =>
    cases l with
    | nil => show a.cps.toList = _; simp
    | cons b l =>
      rw [show Str.join (PySem.Str.ofString "") (a :: b :: l) = a ++ PySem.Str.ofString "" ++ Str.join (PySem.Str.ofString "") (b :: l) from rfl, cps_app, cps_app, ih]
      have : (PySem.Str.ofString "").cps.toList = [] := by decide
      rw [this, List.append_nil]; rfl
end G

namespace G
open PySem PySem.Spec PyProof.Rows L2
/-! ### texts, searches -/
theorem cutS_len (z : Str) (lo hi : Option Int) : (cutS z lo hi).length ≤ z.length := by
  unfold cutS
  show (Array.size (List.toArray _)) ≤ z.cps.size
  rw [List.size_toArray, List.length_take, List.length_drop, Array.length_toList]
  omega
theorem Sat.bcutS {β : Type} {z : Str} {lo hi : Option Int} {k : Str → Res β} {P : β → Prop} (h : z.length ≤ 1000000) (p : ∀ b : Str, b.length ≤ z.length → Sat (k b) P) : Sat ((cutStr z lo hi).bind k) P :=
  .beq (show cutStr z lo hi = .ok _ from guardR_of (decide_eq_true h)) (p _ (cutS_len z lo hi))
theorem listS_ok {x : Str} (h : x.length ≤ 1000000) : listS x = .ok (signsOf x) := guardR_of (decide_eq_true h)
theorem mulS_ok {x : Str} {k : Int} (h0 : 0 ≤ k) (h1 : k ≤ 1000000) (h : x.length * k.toNat ≤ 1000000) : mulS x k = .ok (repS x k) := guardR_of (by
  rw [decide_eq_true h0, decide_eq_true h1, show big _ = true from decide_eq_true h]; rfl)
theorem strLen_ok {x : Str} (h : x.length ≤ 1000000) : strLen x = .ok (x.length : Int) := guardR_of (decide_eq_true h)
theorem loop_bad {α L R : Type} {f : Unit → α → Res (Out Unit Unit R)} (bad : α → Bool) (r : R) : ∀ {xs : List α}, (∀ a ∈ xs, f () a = .ok (if bad a then .rt r else .nx ())) → loopO (L := L) f () xs = .ok (if xs.any bad then .rt r else .nx ())
  | [], _ => rfl
  | a :: xs, h => by
    have h1 := h a List.mem_cons_self
    have ih := loop_bad (L := L) bad r (xs := xs) fun b m => h b (List.mem_cons_of_mem _ m)
    show (f () a).bind _ = _
    rw [h1, Res.okb, List.any_cons]
    cases bad a with
    | true => rfl
    | false => exact ih
theorem cut_from {α : Type} (xs : List α) (k : Nat) : cut xs (some (k : Int)) none = xs.drop k := by
  unfold cut
  rw [HT.sIx_nat, HT.sIx_none]
  by_cases h : k ≤ xs.length
  · rw [Nat.min_eq_left h, List.take_of_length_le (by rw [List.length_drop]; exact Nat.le_refl _)]
  · rw [Nat.min_eq_right (by omega), List.drop_eq_nil_of_le (Nat.le_refl _), List.drop_eq_nil_of_le (by omega)]; simp
theorem cut_upto {α : Type} (xs : List α) (k : Nat) : cut xs none (some (k : Int)) = xs.take k := by
  unfold cut
  rw [HT.sIx_nat, HT.sIx_none, List.drop_zero, Nat.sub_zero]
  by_cases h : k ≤ xs.length
  · rw [Nat.min_eq_left h]
  · rw [Nat.min_eq_right (by omega), List.take_of_length_le (Nat.le_refl _), List.take_of_length_le (by omega)]
theorem inS_dotxo (c : Nat) : inS ⟨#[c]⟩ (PySem.Str.ofString ".xo") = decide (c = 46 ∨ c = 120 ∨ c = 111) := by
  rw [inS_one]
  have : (PySem.Str.ofString ".xo").cps.toList = [46, 120, 111] := by decide
  rw [this]
  simp
theorem mem_dotxo (c : Nat) : (⟨#[c]⟩ : Str) ∈ [PySem.Str.ofString ".", PySem.Str.ofString "x", PySem.Str.ofString "o"] ↔ c = 46 ∨ c = 120 ∨ c = 111 := by
  have e1 : PySem.Str.ofString "." = ⟨#[46]⟩ := by decide
  have e2 : PySem.Str.ofString "x" = ⟨#[120]⟩ := by decide
  have e3 : PySem.Str.ofString "o" = ⟨#[111]⟩ := by decide
  rw [e1, e2, e3]
  simp
end G

namespace G
open PySem PySem.Spec PyProof.Rows L2
/-! ### what several laws share -/
/-- all neighbours, crossing by crossing -/
def nextsL (w : Int × Tup (Int × Int)) : List (List Int) := (rangeL 0 w.1.toNat).map (nextL w)
/-- the chain of k -/
def Chain (w : Int × Tup (Int × Int)) (b : Str) (k : Int) (l : List Int) : Prop := Rise w.1 l ∧ l.length ≤ 40 ∧ ∀ x, x ∈ l ↔ Reach (nextL w) (fun y => decide (sgn b y = sgn b k)) k x
theorem Chain.uniq {w : Int × Tup (Int × Int)} {b : Str} {k : Int} {l m : List Int} (h1 : Chain w b k l) (h2 : Chain w b k m) : l = m := rise_ext h1.1.1 h2.1.1 fun x => by rw [h1.2.2, h2.2.2]
theorem chain_of_bfs {w : Int × Tup (Int × Int)} (h : WebOk w) {b : Str} {k : Int} {s : List Int} (h1 : s.Nodup) (h2 : ∀ x ∈ s, 0 ≤ x ∧ x < w.1) (h3 : ∀ x, x ∈ s ↔ Reach (nextL w) (fun y => decide (sgn b y = sgn b k)) k x) : Chain w b k (sortI s) := by
  have n1 := h.n1
  have n2 := h.n2
  refine ⟨⟨sortI_rise h1, fun x m => h2 x (mem_sortI.mp m)⟩, ?_, fun x => by rw [mem_sortI, h3]⟩
  rw [(sortI_perm s).length_eq]
  have : s.length ≤ w.1.toNat := nodup_len _ h1 fun x m => by have := h2 x m; omega
  omega
theorem inner {w : Int × Tup (Int × Int)} (h : WebOk w) {b : Str} (hb : b.length = w.1.toNat) {k x : Int} (hk : 0 ≤ k ∧ k < w.1) {s : List Int} (hs : s.length ≤ 40) :
    foldR (fun (s11 : (List Int)) (a12 : Int) => (Res.bind (Res.bind (Res.bind (Res.bind (strIx b a12) fun v13 => (Res.bind (strIx b k) fun v14 => (Res.ok (ScaEq.eq v13 v14)))) fun v15 => (if v15 then (Res.ok (!decide (a12 ∈ s11))) else (Res.ok false))) fun v18 => (if v18 then (Res.bind (appR s11 a12) fun found17 => (Res.ok found17)) else (Res.ok s11))) fun s16 => (Res.ok s16))) s (nextL w x) = .ok (grow (fun y => decide (sgn b y = sgn b k)) s (nextL w x)) := by
  have n1 := h.n1
  have n2 := h.n2
  have hn := nextL_len w h x
  refine foldR_grow (fun a ha s hs => ?_) (by omega)
  have ra := (nextL_rise w (by omega) x).2 a ha
  rw [strIx_sgn (by omega) ra.1 (by omega), strIx_sgn (by omega) hk.1 (by omega)]
  simp only [Res.okb, eqSS]
  by_cases e : sgn b a = sgn b k
  · by_cases m : a ∈ s
    · simp [e, m]
    · simp only [e, decide_true, if_true, m, decide_false, Bool.not_false, Res.okb, not_false_eq_true, and_self]
      rw [appR_ok (by omega)]; rfl
  · simp [e]
/-- breaths of a chain, as they stand in a rising list -/
def Breath (w : Int × Tup (Int × Int)) (b : Str) (ch l : List Int) : Prop := Rise w.1 l ∧ l.length ≤ 40 ∧ ∀ x, x ∈ l ↔ (∃ c ∈ ch, x ∈ nextL w c) ∧ sgn b x = PySem.Str.ofString "."
theorem Breath.uniq {w : Int × Tup (Int × Int)} {b : Str} {ch l m : List Int} (h1 : Breath w b ch l) (h2 : Breath w b ch m) : l = m := rise_ext h1.1.1 h2.1.1 fun x => by rw [h1.2.2, h2.2.2]
theorem breath_of {w : Int × Tup (Int × Int)} (h : WebOk w) {b : Str} {ch s : List Int} (h1 : s.Nodup) (h2 : ∀ x ∈ s, 0 ≤ x ∧ x < w.1) (h3 : ∀ x, x ∈ s ↔ (∃ c ∈ ch, x ∈ nextL w c) ∧ sgn b x = PySem.Str.ofString ".") : Breath w b ch (sortI s) := by
  have n1 := h.n1
  have n2 := h.n2
  refine ⟨⟨sortI_rise h1, fun x m => h2 x (mem_sortI.mp m)⟩, ?_, fun x => by rw [mem_sortI, h3]⟩
  rw [(sortI_perm s).length_eq]
  have : s.length ≤ w.1.toNat := nodup_len _ h1 fun x m => by have := h2 x m; omega
  omega
abbrev dotb (b : Str) : Int → Bool := fun y => decide (sgn b y = PySem.Str.ofString ".")
theorem grow_step (w : Int × Tup (Int × Int)) (h : WebOk w) (b : Str) {ch : List Int} {i : Nat} {k : Int} (hk : ch[i]? = some k) {s : List Int} (h1 : s.Nodup) (h2 : ∀ x ∈ s, 0 ≤ x ∧ x < w.1) (h3 : ∀ x, x ∈ s ↔ (∃ c ∈ ch.take i, x ∈ nextL w c) ∧ sgn b x = PySem.Str.ofString ".") :
    (grow (dotb b) s (nextL w k)).Nodup ∧ (∀ x ∈ grow (dotb b) s (nextL w k), 0 ≤ x ∧ x < w.1) ∧ ∀ x, x ∈ grow (dotb b) s (nextL w k) ↔ (∃ c ∈ ch.take (i + 1), x ∈ nextL w c) ∧ sgn b x = PySem.Str.ofString "." := by
  have n1 := h.n1
  refine ⟨grow_nodup h1, fun x m => ?_, fun x => ?_⟩
  · rcases mem_grow.mp m with m | m
    · exact h2 x m
    · exact (nextL_rise w (by omega) k).2 x m.1
  · rw [mem_grow, h3, List.take_succ, hk]
    unfold dotb
    rw [decide_eq_true_iff]
    constructor
    · rintro (⟨⟨c, m, e⟩, d⟩ | ⟨m, d⟩)
      · exact ⟨⟨c, List.mem_append_left _ m, e⟩, d⟩
      · exact ⟨⟨k, by simp, m⟩, d⟩
    · rintro ⟨⟨c, m, e⟩, d⟩
      rcases List.mem_append.mp m with m | m
      · exact .inl ⟨⟨c, m, e⟩, d⟩
      · have : c = k := by simpa using m
        subst this
        exact .inr ⟨e, d⟩
theorem filt_grow {okb : Int → Bool} : ∀ {as : List Int} {s t : List Int}, as.Nodup → (∀ x ∈ as, x ∈ t ↔ x ∈ s) → grow okb t as = t ++ as.filter (fun x => okb x && !decide (x ∈ s))
  | [], s, t, _, _ => by unfold grow; simp
  | a :: as, s, t, nd, e => by
    obtain ⟨n1, n2⟩ := List.nodup_cons.mp nd
    unfold grow
    have ea := e a List.mem_cons_self
    by_cases h : okb a = true ∧ a ∉ t
    · rw [if_pos h, filt_grow (s := s) n2 fun x m => by
        rw [List.mem_append, List.mem_singleton]
        constructor
        · rintro (z | rfl)
          · exact (e x (List.mem_cons_of_mem _ m)).mp z
          · exact (n1 m).elim
        · exact fun z => .inl ((e x (List.mem_cons_of_mem _ m)).mpr z)]
      have h2 : a ∉ s := fun z => h.2 (ea.mpr z)
      rw [List.filter_cons, if_pos (by simp [h.1, h2])]
      simp
    · rw [if_neg h, filt_grow (s := s) n2 fun x m => e x (List.mem_cons_of_mem _ m)]
      rw [List.filter_cons, if_neg]
      simp only [Bool.and_eq_true, Bool.not_eq_true', decide_eq_false_iff_not, not_and]
      intro h1 h2
      exact h ⟨h1, fun z => h2 (ea.mp z)⟩
abbrev dot : Str := PySem.Str.ofString "."
abbrev xS : Str := PySem.Str.ofString "x"
abbrev oS : Str := PySem.Str.ofString "o"
/-- a sign next to a piece -/
def adj (w : Int × Tup (Int × Int)) (b : Str) (z : Str) (p : List Int) : Bool := p.any fun k => (nextL w k).any fun y => decide (sgn b y = z)
theorem adj_iff {w : Int × Tup (Int × Int)} {b z : Str} {p : List Int} : adj w b z p = true ↔ ∃ k ∈ p, ∃ y ∈ nextL w k, sgn b y = z := by
  unfold adj
  rw [List.any_eq_true]
  constructor
  · rintro ⟨k, m, h⟩
    obtain ⟨y, m2, e⟩ := List.any_eq_true.mp h
    exact ⟨k, m, y, m2, of_decide_eq_true e⟩
  · rintro ⟨k, m, y, m2, e⟩
    exact ⟨k, m, List.any_eq_true.mpr ⟨y, m2, decide_eq_true e⟩⟩
def handsOf (w : Int × Tup (Int × Int)) (b : Str) (p : List Int) : Str := Txt.join (PySem.Str.ofString "") ([xS, oS].filter fun z => adj w b z p)
/-- the empty ones -/
def emp (w : Int × Tup (Int × Int)) (b : Str) : List Int := (rangeL 0 w.1.toNat).filter fun k => decide (sgn b k = dot)
theorem sgn_dot {b : Str} {k : Int} : sgn b k = dot ↔ cpOf b k = 46 := by
  have : dot = ⟨#[46]⟩ := by decide
  rw [this]; exact sgn_eq
theorem grow_cons {okb : Int → Bool} {s : List Int} {a : Int} {as : List Int} : grow okb s (a :: as) = grow okb (if okb a = true ∧ a ∉ s then s ++ [a] else s) as := rfl
/-- signs of a board -/
def signOk (b : Str) : Prop := ∀ c ∈ b.cps.toList, c = 46 ∨ c = 120 ∨ c = 111
/-! ### signs put -/
def putL (b : Str) (some' : List Int) (c : Nat) : Str := ⟨((rangeL 0 b.length).map fun k => if k ∈ some' then c else cpOf b k).toArray⟩
theorem putL_cps (b : Str) (some' : List Int) (c : Nat) : (putL b some' c).cps.toList = (rangeL 0 b.length).map fun k => if k ∈ some' then c else cpOf b k := by unfold putL; simp
theorem putL_len (b : Str) (some' : List Int) (c : Nat) : (putL b some' c).length = b.length := by
  show (putL b some' c).cps.size = _
  rw [← Array.length_toList, putL_cps, List.length_map, rangeL_len]
theorem rangeL_at {n : Nat} {k : Int} (h0 : 0 ≤ k) (h1 : k < n) : (rangeL 0 n)[k.toNat]? = some k := by
  have h : k.toNat < (rangeL 0 n).length := by rw [rangeL_len]; omega
  have := (rangeL0 (get_of h)).2
  rw [get_of h, this]
  congr 1; omega
theorem putL_at {b : Str} {some' : List Int} {c : Nat} {k : Int} (h0 : 0 ≤ k) (h1 : k < b.length) : cpOf (putL b some' c) k = if k ∈ some' then c else cpOf b k := by
  unfold cpOf
  rw [putL_cps, List.getD_eq_getElem?_getD, List.getElem?_map, rangeL_at h0 h1]; rfl
theorem sgn_cp {b : Str} {k : Int} : sgn b k = ⟨#[cpOf b k]⟩ := rfl
theorem str1_inj {c d : Nat} : (⟨#[c]⟩ : Str) = ⟨#[d]⟩ ↔ c = d := by simp
theorem sgn_iff {b b' : Str} {k k' : Int} : sgn b k = sgn b' k' ↔ cpOf b k = cpOf b' k' := by rw [sgn_cp, sgn_cp, str1_inj]
theorem dot_eq : dot = ⟨#[46]⟩ := by decide
theorem xS_eq : xS = ⟨#[120]⟩ := by decide
theorem oS_eq : oS = ⟨#[111]⟩ := by decide
theorem signOk_at {b : Str} (h : signOk b) {k : Int} (h0 : 0 ≤ k) (h1 : k < b.length) : cpOf b k = 46 ∨ cpOf b k = 120 ∨ cpOf b k = 111 := by
  have hl : k.toNat < b.cps.toList.length := by rw [Array.length_toList]; show k.toNat < b.length; omega
  have : cpOf b k = b.cps.toList[k.toNat] := by unfold cpOf; rw [List.getD_eq_getElem?_getD, get_of hl]; rfl
  rw [this]
  exact h _ (List.getElem_mem hl)
theorem putL_ok {b : Str} (h : signOk b) (some' : List Int) {c : Nat} (hc : c = 46 ∨ c = 120 ∨ c = 111) : signOk (putL b some' c) := fun d m => by
  rw [putL_cps] at m
  obtain ⟨k, mk, rfl⟩ := List.mem_map.mp m
  have := mem_rangeL.mp mk
  split
  · exact hc
  · exact signOk_at h this.1 (by omega)
/-- a chain breathes -/
def Breathes (w : Int × Tup (Int × Int)) (b : Str) (k : Int) : Prop := ∃ x, G.Reach (nextL w) (fun y => decide (sgn b y = sgn b k)) k x ∧ ∃ y ∈ nextL w x, sgn b y = dot
noncomputable def breathB (w : Int × Tup (Int × Int)) (b : Str) (k : Int) : Bool := @decide (Breathes w b k) (Classical.propDecidable _)
theorem breathB_iff {w : Int × Tup (Int × Int)} {b : Str} {k : Int} : breathB w b k = true ↔ Breathes w b k := by unfold breathB; exact @decide_eq_true_iff _ (Classical.propDecidable _)
/-- each stone's chain has a breath -/
def Sound (w : Int × Tup (Int × Int)) (b : Str) : Prop := ∀ k, 0 ≤ k → k < w.1 → sgn b k ≠ dot → Breathes w b k
noncomputable def goneL (w : Int × Tup (Int × Int)) (b : Str) : List Int := (rangeL 0 w.1.toNat).filter fun k => !decide (sgn b k = dot) && !breathB w b k
noncomputable def clearedL (w : Int × Tup (Int × Int)) (b : Str) : Str := putL b (goneL w b) 46
theorem reach_congr {nb : Int → List Int} {p q : Int → Bool} {k : Int} (h : ∀ x, p x = q x) {x : Int} (r : G.Reach nb p k x) : G.Reach nb q k x := by
  have : p = q := funext h
  rw [← this]; exact r
/-- all of a chain breathe alike -/
theorem breathes_of {w : Int × Tup (Int × Int)} (h : WebOk w) {b : Str} {k x : Int} (r : G.Reach (nextL w) (fun y => decide (sgn b y = sgn b k)) k x) (hb : Breathes w b k) : Breathes w b x := by
  obtain ⟨z, rz, y, my, hy⟩ := hb
  have ex : sgn b x = sgn b k := by
    have := Reach.ok r (decide_eq_true rfl)
    exact of_decide_eq_true this
  refine ⟨z, ?_, y, my, hy⟩
  rw [ex]
  exact Reach.trans (Reach.symm (nextL_symm h) (decide_eq_true rfl) r) rz
theorem cleared_sound {w : Int × Tup (Int × Int)} (h : WebOk w) {b : Str} (hb : b.length = w.1.toNat) : Sound w (clearedL w b) := by
  intro k h0 h1 hd
  have n1 := h.n1
  have at' : ∀ {x : Int}, 0 ≤ x → x < w.1 → cpOf (clearedL w b) x = if x ∈ goneL w b then 46 else cpOf b x := fun {x} a c => putL_at a (by omega)
  have ng : k ∉ goneL w b := fun m => hd (by rw [dot_eq]; exact sgn_eq.mpr (by rw [at' h0 h1, if_pos m]))
  have ek : cpOf (clearedL w b) k = cpOf b k := by rw [at' h0 h1, if_neg ng]
  have hdb : sgn b k ≠ dot := fun e => hd (by rw [dot_eq] at e ⊢; exact sgn_eq.mpr (by rw [ek]; exact sgn_eq.mp e))
  have br : Breathes w b k := by
    by_cases e : breathB w b k = true
    · exact breathB_iff.mp e
    · refine (ng ?_).elim
      unfold goneL
      refine List.mem_filter.mpr ⟨mem_rangeL.mpr ⟨h0, by omega⟩, ?_⟩
      rw [decide_eq_false hdb]
      simpa using e
  obtain ⟨x, r, y, my, hy⟩ := br
  have stay : ∀ {x : Int}, G.Reach (nextL w) (fun y => decide (sgn b y = sgn b k)) k x → x ∉ goneL w b ∧ cpOf b x = cpOf b k := fun {x} r => by
    have ex : sgn b x = sgn b k := of_decide_eq_true (Reach.ok r (decide_eq_true rfl))
    refine ⟨fun m => ?_, sgn_iff.mp ex⟩
    unfold goneL at m
    have q := (List.mem_filter.mp m).2
    rw [Bool.and_eq_true] at q
    have := breathes_of h r ⟨_, by assumption, y, my, hy⟩
    rw [breathB_iff.mpr this] at q
    exact absurd q.2 (by decide)
  have rr : ∀ {x : Int}, G.Reach (nextL w) (fun y => decide (sgn b y = sgn b k)) k x → G.Reach (nextL w) (fun y => decide (sgn (clearedL w b) y = sgn (clearedL w b) k)) k x := fun {x} r => by
    induction r with
    | here => exact .here
    | on r m o ih =>
      refine .on ih m (decide_eq_true (sgn_iff.mpr ?_))
      have s := stay (.on r m o)
      have rg := Reach.range h ⟨h0, h1⟩ (.on r m o)
      rw [at' rg.1 rg.2, if_neg s.1, ek, s.2]
  have ry := (nextL_rise w (by omega) x).2 y my
  refine ⟨x, rr r, y, my, ?_⟩
  rw [dot_eq] at hy ⊢
  refine sgn_eq.mpr ?_
  rw [at' ry.1 ry.2]
  split
  · rfl
  · exact sgn_eq.mp hy
def swap (c : Nat) : Nat := if c = 120 then 111 else if c = 111 then 120 else c
abbrev XD : Dic Str Str := dofL (((PySem.Str.ofString "x"), (PySem.Str.ofString "o")) :: (((PySem.Str.ofString "o"), (PySem.Str.ofString "x")) :: (((PySem.Str.ofString "."), (PySem.Str.ofString ".")) :: [])))
theorem xd1 : dget XD ⟨#[46]⟩ = some ⟨#[swap 46]⟩ := by decide +kernel
theorem xd2 : dget XD ⟨#[120]⟩ = some ⟨#[swap 120]⟩ := by decide +kernel
theorem xd3 : dget XD ⟨#[111]⟩ = some ⟨#[swap 111]⟩ := by decide +kernel
theorem exch_lc {b : Str} (hl : b.length ≤ 1000) (hs : signOk b) : lcT (fun _ => Res.ok true) (fun a1 => (unw (dget (dofL (((PySem.Str.ofString "x"), (PySem.Str.ofString "o")) :: (((PySem.Str.ofString "o"), (PySem.Str.ofString "x")) :: (((PySem.Str.ofString "."), (PySem.Str.ofString ".")) :: [])))) a1))) (signsOf b) = .ok (b.cps.toList.map fun c => (⟨#[swap c]⟩ : Str)) := by
  have hl2 : b.cps.toList.length = b.length := by rw [Array.length_toList]; rfl
  have := lcT_map (g := fun a1 => (unw (dget (dofL (((PySem.Str.ofString "x"), (PySem.Str.ofString "o")) :: (((PySem.Str.ofString "o"), (PySem.Str.ofString "x")) :: (((PySem.Str.ofString "."), (PySem.Str.ofString ".")) :: [])))) a1))) (xs := signsOf b) (g' := fun a => (⟨#[swap (a.cps.toList.getD 0 0)]⟩ : Str)) (by unfold signsOf; rw [List.length_map]; omega) (fun a m => by
    unfold signsOf at m
    obtain ⟨c, mc, rfl⟩ := List.mem_map.mp m
    rcases hs c mc with rfl | rfl | rfl
    · show unw (dget XD ⟨#[46]⟩) = _; rw [xd1]; rfl
    · show unw (dget XD ⟨#[120]⟩) = _; rw [xd2]; rfl
    · show unw (dget XD ⟨#[111]⟩) = _; rw [xd3]; rfl)
  rw [this]
  unfold signsOf
  rw [List.map_map]; rfl
theorem swap_ok {c : Nat} (h : c = 46 ∨ c = 120 ∨ c = 111) : swap c = 46 ∨ swap c = 120 ∨ swap c = 111 := by
  rcases h with rfl | rfl | rfl <;> decide
theorem cp_swap {b b' : Str} (h : b'.cps.toList = b.cps.toList.map swap) (k : Int) : cpOf b' k = swap (cpOf b k) := by
  unfold cpOf
  rw [h, List.getD_eq_getElem?_getD, List.getD_eq_getElem?_getD, List.getElem?_map]
  cases b.cps.toList[k.toNat]? <;> rfl
theorem swap_46 {c : Nat} : swap c = 46 ↔ c = 46 := by unfold swap; split <;> (try split) <;> omega
theorem swap_120 {c : Nat} : swap c = 120 ↔ c = 111 := by unfold swap; split <;> (try split) <;> omega
theorem swap_111 {c : Nat} : swap c = 111 ↔ c = 120 := by unfold swap; split <;> (try split) <;> omega
theorem emp_swap {w : Int × Tup (Int × Int)} {b b' : Str} (h : b'.cps.toList = b.cps.toList.map swap) : emp w b' = emp w b := by
  unfold emp
  refine List.filter_congr fun k _ => ?_
  rw [Bool.eq_iff_iff, decide_eq_true_iff, decide_eq_true_iff, sgn_dot, sgn_dot, cp_swap h, swap_46]
theorem adj_swap {w : Int × Tup (Int × Int)} {b b' : Str} (h : b'.cps.toList = b.cps.toList.map swap) (p : List Int) : adj w b' xS p = adj w b oS p ∧ adj w b' oS p = adj w b xS p := by
  have ex : xS = ⟨#[120]⟩ := by decide
  have eo : oS = ⟨#[111]⟩ := by decide
  rw [ex, eo]
  unfold adj
  constructor <;> congr 1 <;> funext k <;> congr 1 <;> funext y <;> rw [Bool.eq_iff_iff, decide_eq_true_iff, decide_eq_true_iff, sgn_eq, sgn_eq, cp_swap h]
  · exact swap_120
  · exact swap_111
end G

namespace G
open PySem PySem.Spec PyProof.Rows L2
/-! ### == of data that can be laid -/
theorem eqD_lay {α : Type} [Enc α] [Dat α] [DatEq α] [DecidableEq α] {a b : α} (ha : Dat.lay a = true) (hb : Dat.lay b = true) : eqD a b = .ok (decide (a = b)) := by
  unfold eqD
  rw [ha, hb]
  show Res.ok _ = _
  congr 1
  by_cases e : a = b
  · rw [decide_eq_true e]; exact (DatEq.iff a b).mpr e
  · rw [decide_eq_false e]
    cases q : PyData.eqv (Dat.py a) (Dat.py b) with
    | false => rfl
    | true => exact absurd ((DatEq.iff a b).mp q) e
theorem neD_lay {α : Type} [Enc α] [Dat α] [DatEq α] [DecidableEq α] {a b : α} (ha : Dat.lay a = true) (hb : Dat.lay b = true) : neD a b = .ok (!decide (a = b)) := by
  have h := eqD_lay ha hb
  unfold eqD at h
  unfold neD
  rw [ha, hb] at h ⊢
  have h : Res.ok _ = Res.ok _ := h
  injection h with h
  show Res.ok _ = _
  rw [h]
theorem strOk_of {b : Str} (h : ∀ c ∈ b.cps.toList, c < 128) : PyData.strOk b = true := by
  unfold PyData.strOk
  rw [← Array.all_toList, List.all_eq_true]
  intro c m
  have := h c m
  exact decide_eq_true (by omega)
/-! ### two webs beside each other -/
def shT (n : Int) (t : Int × Int) : Int × Int := (t.1 + n, t.2 + n)
def besW (w1 w2 : Int × Tup (Int × Int)) : Int × Tup (Int × Int) := (w1.1 + w2.1, ⟨w1.2.l ++ w2.2.l.map (shT w1.1)⟩)
theorem bes_ok {w1 w2 : Int × Tup (Int × Int)} (h1 : WebOk w1) (h2 : WebOk w2) (hn : w1.1 + w2.1 ≤ 40) (hl : w1.2.l.length + w2.2.l.length ≤ 200) : WebOk (besW w1 w2) := by
  have a1 := h1.n1
  have a2 := h2.n1
  refine ⟨by show 1 ≤ w1.1 + w2.1; omega, hn, by show (w1.2.l ++ w2.2.l.map (shT w1.1)).length ≤ 200; rw [List.length_append, List.length_map]; exact hl, fun t m => ?_, ?_, ?_⟩
  · show 0 ≤ t.1 ∧ t.1 < t.2 ∧ t.2 < w1.1 + w2.1
    rcases List.mem_append.mp m with m | m
    · obtain ⟨x, y, z⟩ := h1.ok t m; omega
    · obtain ⟨u, mu, rfl⟩ := List.mem_map.mp m
      obtain ⟨x, y, z⟩ := h2.ok u mu
      show 0 ≤ u.1 + w1.1 ∧ u.1 + w1.1 < u.2 + w1.1 ∧ u.2 + w1.1 < w1.1 + w2.1
      omega
  · have inj : ∀ a b : Int × Int, shT w1.1 a = shT w1.1 b → a = b := fun a b e => by
      have e1 := congrArg Prod.fst e
      have e2 := congrArg Prod.snd e
      have e1 : a.1 + w1.1 = b.1 + w1.1 := e1
      have e2 : a.2 + w1.1 = b.2 + w1.1 := e2
      have e3 : a.1 = b.1 := by omega
      have e4 : a.2 = b.2 := by omega
      exact Prod.ext e3 e4
    refine List.nodup_append.mpr ⟨h1.nd, List.pairwise_map.mpr (h2.nd.imp fun {a b} n e => n (inj a b e)), fun a m b mb e => ?_⟩
    · obtain ⟨u, mu, rfl⟩ := List.mem_map.mp mb
      obtain ⟨x, y, z⟩ := h1.ok a m
      obtain ⟨x', y', z'⟩ := h2.ok u mu
      have : a.1 = u.1 + w1.1 := congrArg Prod.fst e
      omega
  · refine List.pairwise_append.mpr ⟨h1.up, List.pairwise_map.mpr (h2.up.imp fun {a b} n => ?_), fun a m b m' => ?_⟩
    · unfold leP at n ⊢
      unfold shT
      simp only [Bool.or_eq_true, Bool.and_eq_true, decide_eq_true_iff] at n ⊢
      omega
    · obtain ⟨u, mu, rfl⟩ := List.mem_map.mp m'
      obtain ⟨x, y, z⟩ := h1.ok a m
      obtain ⟨x', y', z'⟩ := h2.ok u mu
      unfold leP shT
      simp only [Bool.or_eq_true, Bool.and_eq_true, decide_eq_true_iff]
      omega
section
variable {w1 w2 : Int × Tup (Int × Int)}
theorem mem_sh {n : Int} {ts : List (Int × Int)} {a b : Int} : (a, b) ∈ ts.map (shT n) ↔ (a - n, b - n) ∈ ts := by
  constructor
  · intro m
    obtain ⟨u, m, e⟩ := List.mem_map.mp m
    have e1 : u.1 + n = a := congrArg Prod.fst e
    have e2 : u.2 + n = b := congrArg Prod.snd e
    have : (a - n, b - n) = u := Prod.ext (by show a - n = _; omega) (by show b - n = _; omega)
    rw [this]; exact m
  · intro m
    refine List.mem_map.mpr ⟨_, m, Prod.ext ?_ ?_⟩
    · show a - n + n = a; omega
    · show b - n + n = b; omega
theorem tied_bes {a b : Int} : tied (besW w1 w2).2.l a b ↔ tied w1.2.l a b ∨ tied w2.2.l (a - w1.1) (b - w1.1) := by
  unfold tied besW
  simp only [List.mem_append, mem_sh]
  constructor
  · rintro ((h | h) | (h | h))
    · exact .inl (.inl h)
    · exact .inr (.inl h)
    · exact .inl (.inr h)
    · exact .inr (.inr h)
  · rintro ((h | h) | (h | h))
    · exact .inl (.inl h)
    · exact .inr (.inl h)
    · exact .inl (.inr h)
    · exact .inr (.inr h)
def mvL (n : Int) (l : List Int) : List Int := l.map fun x => x + n
theorem mem_mvL {n x : Int} {l : List Int} : x ∈ mvL n l ↔ x - n ∈ l := by
  unfold mvL
  rw [List.mem_map]
  constructor
  · rintro ⟨y, m, rfl⟩
    rw [show y + n - n = y by omega]; exact m
  · intro m; exact ⟨_, m, by omega⟩
theorem mvL_rise {n : Int} {l : List Int} (h : l.Pairwise (· < ·)) : (mvL n l).Pairwise (· < ·) := List.pairwise_map.mpr (h.imp fun {a b} l => by omega)
variable (h1 : WebOk w1) (h2 : WebOk w2) (hU : WebOk (besW w1 w2))
include h1 h2 hU
theorem next_b1 {k : Int} (hk : k < w1.1) : nextL (besW w1 w2) k = nextL w1 k := by
  refine rise_ext (nextL_rise _ (by have := hU.n1; omega) k).1 (nextL_rise _ (by have := h1.n1; omega) k).1 fun x => ?_
  rw [mem_nextL hU, mem_nextL h1, tied_bes]
  constructor
  · rintro (h | h)
    · exact h
    · have := h2.tie h; omega
  · exact .inl
theorem next_b2 {k : Int} (hk : 0 ≤ k) : nextL (besW w1 w2) (k + w1.1) = mvL w1.1 (nextL w2 k) := by
  refine rise_ext (nextL_rise _ (by have := hU.n1; omega) _).1 (mvL_rise (nextL_rise _ (by have := h2.n1; omega) k).1) fun x => ?_
  rw [mem_nextL hU, mem_mvL, mem_nextL h2, tied_bes, show k + w1.1 - w1.1 = k by omega]
  constructor
  · rintro (h | h)
    · have := h1.tie h; omega
    · exact h
  · exact .inr
variable {ok ok1 ok2 : Int → Bool} (o1 : ∀ x, 0 ≤ x → x < w1.1 → ok x = ok1 x) (o2 : ∀ x, 0 ≤ x → x < w2.1 → ok (x + w1.1) = ok2 x)
include o1 in
theorem reach_b1 {k x : Int} (hk : 0 ≤ k ∧ k < w1.1) : G.Reach (nextL (besW w1 w2)) ok k x ↔ G.Reach (nextL w1) ok1 k x := by
  constructor
  · intro r
    have : G.Reach (nextL w1) ok1 k x ∧ 0 ≤ x ∧ x < w1.1 := by
      induction r with
      | here => exact ⟨.here, hk⟩
      | on r m o ih =>
        rw [next_b1 h1 h2 hU ih.2.2] at m
        have rg := (nextL_rise w1 (by have := h1.n1; omega) _).2 _ m
        exact ⟨.on ih.1 m (by rw [← o1 _ rg.1 rg.2]; exact o), rg⟩
    exact this.1
  · intro r
    induction r with
    | here => exact .here
    | on r m o ih =>
      have ra := Reach.range h1 hk r
      have rg := (nextL_rise w1 (by have := h1.n1; omega) _).2 _ m
      refine .on ih ?_ (by rw [o1 _ rg.1 rg.2]; exact o)
      rw [next_b1 h1 h2 hU ra.2]; exact m
include o2 in
theorem reach_b2 {k x : Int} (hk : 0 ≤ k ∧ k < w2.1) : G.Reach (nextL (besW w1 w2)) ok (k + w1.1) x ↔ G.Reach (nextL w2) ok2 k (x - w1.1) := by
  constructor
  · intro r
    have : G.Reach (nextL w2) ok2 k (x - w1.1) ∧ 0 ≤ x - w1.1 ∧ x - w1.1 < w2.1 := by
      induction r with
      | here => rw [show k + w1.1 - w1.1 = k by omega]; exact ⟨.here, hk⟩
      | on r m o ih =>
        rename_i y z
        have m' : z ∈ nextL (besW w1 w2) (y - w1.1 + w1.1) := by rw [show y - w1.1 + w1.1 = y by omega]; exact m
        rw [next_b2 h1 h2 hU ih.2.1, mem_mvL] at m'
        have rg := (nextL_rise w2 (by have := h2.n1; omega) _).2 _ m'
        refine ⟨.on ih.1 m' ?_, rg⟩
        rw [← o2 _ rg.1 rg.2, show z - w1.1 + w1.1 = z by omega]; exact o
    exact this.1
  · intro r
    have : ∀ {y : Int}, G.Reach (nextL w2) ok2 k y → G.Reach (nextL (besW w1 w2)) ok (k + w1.1) (y + w1.1) := fun {y} r => by
      induction r with
      | here => exact .here
      | on r m o ih =>
        have ra := Reach.range h2 hk r
        have rg := (nextL_rise w2 (by have := h2.n1; omega) _).2 _ m
        refine .on ih ?_ (by rw [o2 _ rg.1 rg.2]; exact o)
        rw [next_b2 h1 h2 hU ra.1, mem_mvL]
        rename_i y z
        rw [show z + w1.1 - w1.1 = z by omega]; exact m
    have := this r
    rw [show x - w1.1 + w1.1 = x by omega] at this
    exact this
include o1 in
theorem PL_b1 {k : Int} (hk : 0 ≤ k ∧ k < w1.1) : PL (besW w1 w2) ok k = PL w1 ok1 k := by
  have a2 := h2.n1
  refine rise_ext (PL_rise hU k).1 (PL_rise h1 k).1 fun x => ?_
  rw [mem_PL hU ⟨hk.1, by show k < w1.1 + w2.1; omega⟩, mem_PL h1 hk]
  exact reach_b1 h1 h2 hU o1 hk
include o2 in
theorem PL_b2 {k : Int} (hk : 0 ≤ k ∧ k < w2.1) : PL (besW w1 w2) ok (k + w1.1) = mvL w1.1 (PL w2 ok2 k) := by
  have a1 := h1.n1
  refine rise_ext (PL_rise hU _).1 (mvL_rise (PL_rise h2 k).1) fun x => ?_
  rw [mem_PL hU ⟨by omega, by show k + w1.1 < w1.1 + w2.1; omega⟩, mem_mvL, mem_PL h2 hk]
  exact reach_b2 h1 h2 hU o2 hk
include o1 in
theorem isrep_b1 {k : Int} (hk : 0 ≤ k ∧ k < w1.1) : isrep (besW w1 w2) ok k = isrep w1 ok1 k := by
  unfold isrep
  rw [PL_b1 h1 h2 hU o1 hk, o1 k hk.1 hk.2]
include o2 in
theorem isrep_b2 {k : Int} (hk : 0 ≤ k ∧ k < w2.1) : isrep (besW w1 w2) ok (k + w1.1) = isrep w2 ok2 k := by
  unfold isrep
  rw [PL_b2 h1 h2 hU o2 hk, o2 k hk.1 hk.2]
  congr 1
  unfold mvL
  rw [List.all_map]
  congr 1
  funext x
  show decide (k + w1.1 ≤ x + w1.1) = _
  congr 1
  apply propext
  omega
omit h1 h2 hU in
theorem rangeL_add (a b : Nat) : rangeL 0 (a + b) = rangeL 0 a ++ mvL a (rangeL 0 b) := by
  unfold rangeL mvL
  rw [List.range_add, List.map_append, List.map_map, List.map_map]
  congr 1
  refine List.map_congr_left fun x _ => ?_
  show (0 : Int) + ((a + x : Nat) : Int) = 0 + (x : Int) + (a : Int)
  omega
include o1 o2 in
theorem PS_bes : G.PS (besW w1 w2) ok = G.PS w1 ok1 ++ (G.PS w2 ok2).map (mvL w1.1) := by
  have a1 := h1.n1
  have a2 := h2.n1
  have e : (besW w1 w2).1.toNat = w1.1.toNat + w2.1.toNat := by show (w1.1 + w2.1).toNat = _; omega
  have ea : ((w1.1.toNat : Nat) : Int) = w1.1 := by omega
  unfold G.PS reps
  rw [e, rangeL_add, List.filter_append, List.map_append, ea]
  congr 1
  · rw [List.filter_congr (q := isrep w1 ok1) fun k m => isrep_b1 h1 h2 hU o1 (by have := mem_rangeL.mp m; omega)]
    exact List.map_congr_left fun k m => PL_b1 h1 h2 hU o1 (by have := mem_rangeL.mp (List.mem_filter.mp m).1; omega)
  · unfold mvL
    rw [List.filter_map, List.map_map, List.map_map]
    rw [List.filter_congr (p := isrep (besW w1 w2) ok ∘ fun x => x + w1.1) (q := isrep w2 ok2) fun k m => isrep_b2 h1 h2 hU o2 (by have := mem_rangeL.mp m; omega)]
    exact List.map_congr_left fun k m => PL_b2 h1 h2 hU o2 (by have := mem_rangeL.mp (List.mem_filter.mp m).1; omega)
end
theorem cp_app1 {b1 b2 : Str} {k : Int} (h0 : 0 ≤ k) (h : k < b1.length) : cpOf (b1 ++ b2) k = cpOf b1 k := by
  have : k.toNat < b1.cps.toList.length := by rw [Array.length_toList]; show k.toNat < b1.length; omega
  unfold cpOf
  rw [cps_app, List.getD_eq_getElem?_getD, List.getD_eq_getElem?_getD, List.getElem?_append_left this]
theorem cp_app2 {b1 b2 : Str} {n k : Int} (hn : b1.length = n.toNat) (n0 : 0 ≤ n) (h0 : 0 ≤ k) : cpOf (b1 ++ b2) (k + n) = cpOf b2 k := by
  have e : b1.cps.toList.length = n.toNat := by rw [Array.length_toList]; exact hn
  unfold cpOf
  rw [cps_app, List.getD_eq_getElem?_getD, List.getD_eq_getElem?_getD, List.getElem?_append_right (by omega), show (k + n).toNat - b1.cps.toList.length = k.toNat by omega]
section
variable {w1 w2 : Int × Tup (Int × Int)} (h1 : WebOk w1) (h2 : WebOk w2) (hU : WebOk (besW w1 w2)) {b1 b2 : Str} (l1 : b1.length = w1.1.toNat) (l2 : b2.length = w2.1.toNat)
include h1 h2 hU l1 l2
theorem emp_o1 : ∀ x, 0 ≤ x → x < w1.1 → (fun x => decide (x ∈ emp (besW w1 w2) (b1 ++ b2))) x = (fun x => decide (x ∈ emp w1 b1)) x := fun x x0 x1 => by
  have a2 := h2.n1
  have e : (besW w1 w2).1.toNat = w1.1.toNat + w2.1.toNat := by show (w1.1 + w2.1).toNat = _; omega
  show decide _ = decide _
  rw [Bool.eq_iff_iff, decide_eq_true_iff, decide_eq_true_iff]
  unfold emp
  rw [List.mem_filter, List.mem_filter, mem_rangeL, mem_rangeL, decide_eq_true_iff, decide_eq_true_iff, sgn_dot, sgn_dot, cp_app1 x0 (by omega), e]
  constructor <;> rintro ⟨a, b⟩ <;> exact ⟨by omega, b⟩
theorem emp_o2 : ∀ x, 0 ≤ x → x < w2.1 → (fun x => decide (x ∈ emp (besW w1 w2) (b1 ++ b2))) (x + w1.1) = (fun x => decide (x ∈ emp w2 b2)) x := fun x x0 x1 => by
  have a1 := h1.n1
  have e : (besW w1 w2).1.toNat = w1.1.toNat + w2.1.toNat := by show (w1.1 + w2.1).toNat = _; omega
  show decide _ = decide _
  rw [Bool.eq_iff_iff, decide_eq_true_iff, decide_eq_true_iff]
  unfold emp
  rw [List.mem_filter, List.mem_filter, mem_rangeL, mem_rangeL, decide_eq_true_iff, decide_eq_true_iff, sgn_dot, sgn_dot, cp_app2 l1 (by omega) x0, e]
  constructor <;> rintro ⟨a, b⟩ <;> exact ⟨by omega, b⟩
theorem adj_b1 {z : Str} {p : List Int} (hp : ∀ x ∈ p, 0 ≤ x ∧ x < w1.1) : adj (besW w1 w2) (b1 ++ b2) z p = adj w1 b1 z p := by
  have a1 := h1.n1
  rw [Bool.eq_iff_iff, adj_iff, adj_iff]
  have hs : ∀ {k y : Int}, y ∈ nextL w1 k → sgn (b1 ++ b2) y = sgn b1 y := fun {k y} m => by
    have rg := (nextL_rise w1 (by omega) k).2 y m
    exact sgn_iff.mpr (cp_app1 rg.1 (by omega))
  constructor
  · rintro ⟨k, m, y, my, e⟩
    rw [next_b1 h1 h2 hU (hp k m).2] at my
    exact ⟨k, m, y, my, by rw [← hs my]; exact e⟩
  · rintro ⟨k, m, y, my, e⟩
    exact ⟨k, m, y, by rw [next_b1 h1 h2 hU (hp k m).2]; exact my, by rw [hs my]; exact e⟩
theorem adj_b2 {z : Str} {p : List Int} (hp : ∀ x ∈ p, 0 ≤ x ∧ x < w2.1) : adj (besW w1 w2) (b1 ++ b2) z (mvL w1.1 p) = adj w2 b2 z p := by
  have a1 := h1.n1
  have a2 := h2.n1
  rw [Bool.eq_iff_iff, adj_iff, adj_iff]
  have hs : ∀ {k y : Int}, y ∈ nextL w2 k → sgn (b1 ++ b2) (y + w1.1) = sgn b2 y := fun {k y} m => by
    have rg := (nextL_rise w2 (by omega) k).2 y m
    exact sgn_iff.mpr (cp_app2 l1 (by omega) rg.1)
  constructor
  · rintro ⟨k, m, y, my, e⟩
    rw [mem_mvL] at m
    have hk := hp _ m
    rw [show k = k - w1.1 + w1.1 by omega, next_b2 h1 h2 hU hk.1, mem_mvL] at my
    refine ⟨_, m, _, my, ?_⟩
    rw [← hs my, show y - w1.1 + w1.1 = y by omega]; exact e
  · rintro ⟨k, m, y, my, e⟩
    refine ⟨k + w1.1, mem_mvL.mpr (by rw [show k + w1.1 - w1.1 = k by omega]; exact m), y + w1.1, ?_, by rw [hs my]; exact e⟩
    rw [next_b2 h1 h2 hU (hp k m).1, mem_mvL, show y + w1.1 - w1.1 = y by omega]
    exact my
theorem hands_b1 {p : List Int} (hp : ∀ x ∈ p, 0 ≤ x ∧ x < w1.1) : handsOf (besW w1 w2) (b1 ++ b2) p = handsOf w1 b1 p := by
  unfold handsOf
  have : (fun z => adj (besW w1 w2) (b1 ++ b2) z p) = fun z => adj w1 b1 z p := funext fun z => adj_b1 h1 h2 hU l1 l2 hp
  rw [this]
theorem hands_b2 {p : List Int} (hp : ∀ x ∈ p, 0 ≤ x ∧ x < w2.1) : handsOf (besW w1 w2) (b1 ++ b2) (mvL w1.1 p) = handsOf w2 b2 p := by
  unfold handsOf
  have : (fun z => adj (besW w1 w2) (b1 ++ b2) z (mvL w1.1 p)) = fun z => adj w2 b2 z p := funext fun z => adj_b2 h1 h2 hU l1 l2 hp
  rw [this]
end
theorem mem_PS_range {w : Int × Tup (Int × Int)} (h : WebOk w) {ok : Int → Bool} {p : List Int} (m : p ∈ G.PS w ok) : ∀ x ∈ p, 0 ≤ x ∧ x < w.1 := by
  obtain ⟨k, _, rfl⟩ := List.mem_map.mp m
  exact (PL_rise h k).2
/-! ### a web without ties -/
theorem bareOk {n : Int} (h1 : 1 ≤ n) (h2 : n ≤ 40) : WebOk (n, ⟨[]⟩) := ⟨h1, h2, Nat.zero_le _, (fun t m => by cases m), .nil, .nil⟩
theorem bare_next {n k : Int} (h : WebOk (n, ⟨[]⟩)) : nextL (n, ⟨[]⟩) k = [] := by
  refine List.eq_nil_iff_forall_not_mem.mpr fun x m => ?_
  rw [mem_nextL h] at m
  rcases m with m | m <;> cases m
theorem bare_PL {n k : Int} (h : WebOk (n, ⟨[]⟩)) {ok : Int → Bool} (hk : 0 ≤ k ∧ k < n) : PL (n, ⟨[]⟩) ok k = [k] := by
  refine rise_ext (PL_rise h k).1 (by simp) fun x => ?_
  rw [mem_PL h hk, List.mem_singleton]
  constructor
  · intro r
    cases r with
    | here => rfl
    | on _ m _ => rw [bare_next h] at m; cases m
  · rintro rfl; exact .here
theorem bare_PS {n : Int} (h : WebOk (n, ⟨[]⟩)) {ok : Int → Bool} : G.PS (n, ⟨[]⟩) ok = ((rangeL 0 n.toNat).filter ok).map fun k => [k] := by
  have n1 : 1 ≤ n := h.n1
  unfold G.PS reps
  have e : (rangeL 0 n.toNat).filter (isrep (n, ⟨[]⟩) ok) = (rangeL 0 n.toNat).filter ok := List.filter_congr fun k m => by
    have := mem_rangeL.mp m
    unfold isrep
    rw [bare_PL h (by omega)]
    simp
  show ((rangeL 0 n.toNat).filter (isrep (n, ⟨[]⟩) ok)).map _ = _
  rw [e]
  exact List.map_congr_left fun k m => by
    have := mem_rangeL.mp (List.mem_filter.mp m).1
    exact bare_PL h (by omega)
/-- what is asked within the web alone matters -/
theorem reach_congrR {w : Int × Tup (Int × Int)} (h : WebOk w) {p q : Int → Bool} (e : ∀ x, 0 ≤ x → x < w.1 → p x = q x) {k x : Int} (r : G.Reach (nextL w) p k x) : G.Reach (nextL w) q k x := by
  induction r with
  | here => exact .here
  | on r m o ih =>
    have rg := (nextL_rise w (by have := h.n1; omega) _).2 _ m
    exact .on ih m (by rw [← e _ rg.1 rg.2]; exact o)
theorem PL_congr {w : Int × Tup (Int × Int)} (h : WebOk w) {p q : Int → Bool} (e : ∀ x, 0 ≤ x → x < w.1 → p x = q x) {k : Int} (hk : 0 ≤ k ∧ k < w.1) : PL w p k = PL w q k := by
  refine rise_ext (PL_rise h k).1 (PL_rise h k).1 fun x => ?_
  rw [mem_PL h hk, mem_PL h hk]
  exact ⟨reach_congrR h e, reach_congrR h fun x a b => (e x a b).symm⟩
theorem isrep_congr {w : Int × Tup (Int × Int)} (h : WebOk w) {p q : Int → Bool} (e : ∀ x, 0 ≤ x → x < w.1 → p x = q x) {k : Int} (hk : 0 ≤ k ∧ k < w.1) : isrep w p k = isrep w q k := by
  unfold isrep
  rw [PL_congr h e hk, e k hk.1 hk.2]
theorem PS_congr {w : Int × Tup (Int × Int)} (h : WebOk w) {p q : Int → Bool} (e : ∀ x, 0 ≤ x → x < w.1 → p x = q x) : PS w p = PS w q := by
  have n1 := h.n1
  unfold PS reps
  rw [List.filter_congr (q := isrep w q) fun k m => isrep_congr h e (by have := mem_rangeL.mp m; omega)]
  exact List.map_congr_left fun k m => PL_congr h e (by have := mem_rangeL.mp (List.mem_filter.mp m).1; omega)
theorem PS_nodup {w : Int × Tup (Int × Int)} (h : WebOk w) (ok : Int → Bool) : (PS w ok).Nodup := by
  have n1 := h.n1
  unfold PS
  refine List.pairwise_map.mpr (List.Pairwise.imp_of_mem ?_ (((rangeL_rise _).imp fun {a b} l => (by omega : a ≠ b)).filter (isrep w ok)))
  intro a b ma mb ne e
  have ra := mem_reps (i := w.1.toNat).mp ma
  have rb := mem_reps (i := w.1.toNat).mp mb
  have ea := PL_head h (by omega) ra.2
  have eb := PL_head h (by omega) rb.2
  rw [e, eb] at ea
  exact ne (Option.some.inj ea).symm
theorem PS_len {w : Int × Tup (Int × Int)} (h : WebOk w) (ok : Int → Bool) : (PS w ok).length ≤ w.1.toNat := by
  unfold PS
  rw [List.length_map]
  exact reps_len _
theorem mem_PS {w : Int × Tup (Int × Int)} (h : WebOk w) {ok : Int → Bool} {p : List Int} (m : p ∈ PS w ok) : p.length ≤ 40 ∧ Rise w.1 p := by
  obtain ⟨k, _, rfl⟩ := List.mem_map.mp m
  exact ⟨PL_len h k, PL_rise h k⟩
end G

namespace G
open PySem PySem.Spec PyProof.Rows L2
/-! ### papers, without a web -/
abbrev LI := List Int
theorem nodup_sub_len {α : Type} [DecidableEq α] : ∀ {l m : List α}, l.Nodup → (∀ x ∈ l, x ∈ m) → l.length ≤ m.length
  | [], _, _, _ => Nat.zero_le _
  | a :: l, m, nd, hs => by
    have ⟨h1, h2⟩ := List.nodup_cons.mp nd
    have ma := hs a List.mem_cons_self
    have := nodup_sub_len (l := l) (m := m.erase a) h2 fun x mx => by
      have ne : x ≠ a := fun e => by subst e; exact h1 mx
      exact (List.mem_erase_of_ne ne).mpr (hs x (List.mem_cons_of_mem _ mx))
    rw [List.length_erase_of_mem ma] at this
    have := List.length_pos_of_mem ma
    rw [List.length_cons]; omega
theorem sublist_filter {α : Type} [DecidableEq α] {C L : List α} (h : C.Sublist L) (nd : L.Nodup) : C = L.filter fun x => decide (x ∈ C) := by
  induction h with
  | slnil => rfl
  | cons a h ih =>
    have ⟨h1, h2⟩ := List.nodup_cons.mp nd
    rw [List.filter_cons, if_neg (by simpa using fun m => h1 (h.subset m))]
    exact ih h2
  | cons_cons a h ih =>
    rename_i l1 l2
    have ⟨h1, h2⟩ := List.nodup_cons.mp nd
    rw [List.filter_cons, if_pos (by simp)]
    congr 1
    refine (ih h2).trans (List.filter_congr fun x m => ?_)
    have : x ≠ a := fun e => h1 (e ▸ m)
    simp [this]
theorem sublist_uniq {α : Type} [DecidableEq α] {C D L : List α} (h : C.Sublist L) (h' : D.Sublist L) (nd : L.Nodup) (e : ∀ x, x ∈ C ↔ x ∈ D) : C = D := by
  rw [sublist_filter h nd, sublist_filter h' nd]
  exact List.filter_congr fun x _ => by rw [Bool.eq_iff_iff, decide_eq_true_iff, decide_eq_true_iff, e]
section
variable (CL YL : List LI) (SV BD : LI → LI → Bool)
def srv (c : LI) (Y : List LI) : Nat := (Y.filter (SV c)).length
def bwi (y : LI) (C : List LI) : Bool := !(CL.filter (BD y)).any fun c => !decide (c ∈ C)
theorem bwi_iff {CL : List LI} {BD : LI → LI → Bool} {y : LI} {C : List LI} : bwi CL BD y C = true ↔ ∀ c ∈ CL, BD y c = true → c ∈ C := by
  unfold bwi
  rw [Bool.not_eq_true', ← Bool.not_eq_true, List.any_eq_true]
  constructor
  · intro h c m e
    by_cases q : c ∈ C
    · exact q
    · exact (h ⟨c, List.mem_filter.mpr ⟨m, e⟩, by simp [q]⟩).elim
  · rintro h ⟨c, m, e⟩
    have := h c (List.mem_filter.mp m).1 (List.mem_filter.mp m).2
    simp [this] at e
structure Lets (C Y : List LI) : Prop where
  c : ∀ x ∈ C, x ∈ CL
  cn : C.Nodup
  y : ∀ x ∈ Y, x ∈ YL
  yn : Y.Nodup
  s : ∀ c ∈ C, 2 ≤ srv SV c Y
  b : ∀ y ∈ Y, bwi CL BD y C = true
structure Great (p : List LI × List LI) : Prop where
  c : p.1.Sublist CL
  y : p.2.Sublist YL
  lets : Lets CL YL SV BD p.1 p.2
  all : ∀ C Y, Lets CL YL SV BD C Y → (∀ x ∈ C, x ∈ p.1) ∧ ∀ x ∈ Y, x ∈ p.2
variable {CL YL SV BD}
theorem srv_mono {c : LI} {Y Z : List LI} (nd : Y.Nodup) (h : ∀ x ∈ Y, x ∈ Z) : srv SV c Y ≤ srv SV c Z := by
  unfold srv
  exact nodup_sub_len (nd.filter _) fun x m => List.mem_filter.mpr ⟨h x (List.mem_filter.mp m).1, (List.mem_filter.mp m).2⟩
theorem Great.uniq {p q : List LI × List LI} (h : Great CL YL SV BD p) (h' : Great CL YL SV BD q) (nc : CL.Nodup) (ny : YL.Nodup) : p = q := by
  refine Prod.ext (sublist_uniq h.c h'.c nc fun x => ⟨fun m => ?_, fun m => ?_⟩) (sublist_uniq h.y h'.y ny fun x => ⟨fun m => ?_, fun m => ?_⟩)
  · exact (h'.all _ _ h.lets).1 x m
  · exact (h.all _ _ h'.lets).1 x m
  · exact (h'.all _ _ h.lets).2 x m
  · exact (h.all _ _ h'.lets).2 x m
/-- both joined -/
def joinB (a b : List LI) : List LI := a ++ b.filter fun x => !decide (x ∈ a)
theorem mem_joinB {a b : List LI} {x : LI} : x ∈ joinB a b ↔ x ∈ a ∨ x ∈ b := by
  unfold joinB
  rw [List.mem_append, List.mem_filter]
  constructor
  · rintro (h | h)
    · exact .inl h
    · exact .inr h.1
  · rintro (h | h)
    · exact .inl h
    · by_cases m : x ∈ a
      · exact .inl m
      · exact .inr ⟨h, by simp [m]⟩
theorem joinB_nodup {a b : List LI} (ha : a.Nodup) (hb : b.Nodup) : (joinB a b).Nodup := by
  unfold joinB
  refine List.nodup_append.mpr ⟨ha, hb.filter _, fun x m y m' e => ?_⟩
  subst e
  have := (List.mem_filter.mp m').2
  simp [m] at this
theorem Lets.join {C Y C' Y' : List LI} (h : Lets CL YL SV BD C Y) (h' : Lets CL YL SV BD C' Y') : Lets CL YL SV BD (joinB C C') (joinB Y Y') where
  c := fun x m => (mem_joinB.mp m).elim (h.c x) (h'.c x)
  cn := joinB_nodup h.cn h'.cn
  y := fun x m => (mem_joinB.mp m).elim (h.y x) (h'.y x)
  yn := joinB_nodup h.yn h'.yn
  s := fun c m => by
    rcases mem_joinB.mp m with m | m
    · exact Nat.le_trans (h.s c m) (srv_mono h.yn fun x mx => mem_joinB.mpr (.inl mx))
    · exact Nat.le_trans (h'.s c m) (srv_mono h'.yn fun x mx => mem_joinB.mpr (.inr mx))
  b := fun y m => by
    rw [bwi_iff]
    intro c mc e
    rcases mem_joinB.mp m with m | m
    · exact mem_joinB.mpr (.inl (bwi_iff.mp (h.b y m) c mc e))
    · exact mem_joinB.mpr (.inr (bwi_iff.mp (h'.b y m) c mc e))
/-- where fewer speak against, more is let by -/
theorem Lets.weak {SV' : LI → LI → Bool} (hw : ∀ c y, SV c y = true → SV' c y = true) {C Y : List LI} (h : Lets CL YL SV BD C Y) : Lets CL YL SV' BD C Y :=
  ⟨h.c, h.cn, h.y, h.yn, fun c m => Nat.le_trans (h.s c m) (nodup_sub_len (h.yn.filter _) fun x mx => List.mem_filter.mpr ⟨(List.mem_filter.mp mx).1, hw _ _ (List.mem_filter.mp mx).2⟩), h.b⟩
/-- the steps to the greatest one -/
def stC (C Y : List LI) : List LI := C.filter fun c => decide (1 < srv SV c Y)
def stY (C Y : List LI) : List LI := Y.filter fun y => bwi CL BD y C
abbrev GS := Int × List LI × List LI
theorem great_while {c : GS → Res Bool} {f : GS → Res GS} (nc : CL.Nodup) (ny : YL.Nodup) (hl : CL.length + YL.length ≤ 100)
    (hc : ∀ s : GS, c s = .ok (!ScaEq.eq s.1 ((s.2.1.length : Int) + (s.2.2.length : Int))))
    (hf : ∀ s : GS, s.2.1.Sublist CL → s.2.2.Sublist YL → f s = .ok ((s.2.1.length : Int) + (s.2.2.length : Int), stC (SV := SV) s.2.1 s.2.2, stY (CL := CL) (BD := BD) (stC (SV := SV) s.2.1 s.2.2) s.2.2)) :
    Sat (whileR c f 128 (-1, CL, YL)) (fun s => Great CL YL SV BD s.2) := by
  refine Sat.while (fun i (s : GS) => s.2.1.Sublist CL ∧ s.2.2.Sublist YL ∧ (∀ C Y, Lets CL YL SV BD C Y → (∀ x ∈ C, x ∈ s.2.1) ∧ ∀ x ∈ Y, x ∈ s.2.2) ∧
      ((i = 0 ∧ s.1 = -1) ∨ (0 < i ∧ (i : Int) + s.1 ≤ 101 ∧ ((s.2.1.length : Int) + (s.2.2.length : Int) ≤ s.1) ∧ (s.1 = (s.2.1.length : Int) + (s.2.2.length : Int) → (∀ c ∈ s.2.1, 1 < srv SV c s.2.2) ∧ ∀ y ∈ s.2.2, bwi CL BD y s.2.1 = true)))) ?_ 128 0 _ ?_
    ⟨List.Sublist.refl _, List.Sublist.refl _, fun C Y l => ⟨l.c, l.y⟩, .inl ⟨rfl, rfl⟩⟩
  · rintro i ⟨many, C, Y⟩ ⟨h1, h2, h3, h4⟩
    have h1 : C.Sublist CL := h1
    have h2 : Y.Sublist YL := h2
    have h3 : ∀ C' Y', Lets CL YL SV BD C' Y' → (∀ x ∈ C', x ∈ C) ∧ ∀ x ∈ Y', x ∈ Y := h3
    have h4 : (i = 0 ∧ many = -1) ∨ (0 < i ∧ (i : Int) + many ≤ 101 ∧ ((C.length : Int) + (Y.length : Int) ≤ many) ∧ (many = (C.length : Int) + (Y.length : Int) → (∀ c ∈ C, 1 < srv SV c Y) ∧ ∀ y ∈ Y, bwi CL BD y C = true)) := h4
    refine ⟨_, hc _, fun h => ?_, fun h => ?_⟩
    · have h : many ≠ (C.length : Int) + (Y.length : Int) := by
        intro e
        rw [show ScaEq.eq many ((C.length : Int) + (Y.length : Int)) = decide (many = (C.length : Int) + (Y.length : Int)) from rfl, decide_eq_true e] at h
        cases h
      refine .of_eq (hf _ h1 h2) ⟨(List.filter_sublist).trans h1, (List.filter_sublist).trans h2, fun C' Y' l => ?_, .inr ⟨by omega, ?_, ?_, fun e => ?_⟩⟩
      · obtain ⟨a, b⟩ := h3 C' Y' l
        have sc : ∀ x ∈ C', x ∈ stC (SV := SV) C Y := fun x m => List.mem_filter.mpr ⟨a x m, decide_eq_true (Nat.lt_of_lt_of_le (l.s x m) (srv_mono l.yn b))⟩
        exact ⟨sc, fun y m => List.mem_filter.mpr ⟨b y m, bwi_iff.mpr fun c mc e => sc c (bwi_iff.mp (l.b y m) c mc e)⟩⟩
      · show ((i + 1 : Nat) : Int) + ((C.length : Int) + (Y.length : Int)) ≤ 101
        have := h1.length_le
        have := h2.length_le
        rcases h4 with h4 | h4 <;> omega
      · show ((stC (SV := SV) C Y).length : Int) + ((stY (CL := CL) (BD := BD) (stC (SV := SV) C Y) Y).length : Int) ≤ (C.length : Int) + (Y.length : Int)
        have := List.length_filter_le (fun c => decide (1 < srv SV c Y)) C
        have := List.length_filter_le (fun y => bwi CL BD y (stC (SV := SV) C Y)) Y
        unfold stY
        unfold stC at *
        omega
      · have e : (C.length : Int) + (Y.length : Int) = ((stC (SV := SV) C Y).length : Int) + ((stY (CL := CL) (BD := BD) (stC (SV := SV) C Y) Y).length : Int) := e
        have q1 := List.length_filter_le (fun c => decide (1 < srv SV c Y)) C
        have q2 := List.length_filter_le (fun y => bwi CL BD y (stC (SV := SV) C Y)) Y
        have e1 : (stC (SV := SV) C Y).length = C.length := by
          unfold stY at e
          unfold stC at e q2 ⊢
          omega
        have e2 : (stY (CL := CL) (BD := BD) (stC (SV := SV) C Y) Y).length = Y.length := by omega
        have f1 : stC (SV := SV) C Y = C := List.Sublist.eq_of_length List.filter_sublist e1
        have f2 : stY (CL := CL) (BD := BD) (stC (SV := SV) C Y) Y = Y := List.Sublist.eq_of_length List.filter_sublist e2
        show (∀ c ∈ stC (SV := SV) C Y, 1 < srv SV c (stY (CL := CL) (BD := BD) (stC (SV := SV) C Y) Y)) ∧ ∀ y ∈ stY (CL := CL) (BD := BD) (stC (SV := SV) C Y) Y, bwi CL BD y (stC (SV := SV) C Y) = true
        rw [f2]
        refine ⟨fun c m => ?_, fun y m => ?_⟩
        · exact of_decide_eq_true (List.mem_filter.mp m).2
        · rw [← f2] at m
          exact (List.mem_filter.mp m).2
    · have h : many = (C.length : Int) + (Y.length : Int) := by
        by_cases e : many = (C.length : Int) + (Y.length : Int)
        · exact e
        · rw [show ScaEq.eq many ((C.length : Int) + (Y.length : Int)) = decide (many = (C.length : Int) + (Y.length : Int)) from rfl, decide_eq_false e] at h
          cases h
      rcases h4 with h4 | ⟨_, _, _, h5⟩
      · omega
      · obtain ⟨a, b⟩ := h5 h
        exact ⟨h1, h2, ⟨h1.subset, h1.nodup nc, h2.subset, h2.nodup ny, a, b⟩, h3⟩
  · rintro i ⟨many, C, Y⟩ ⟨h1, h2, h3, h4⟩
    have h4 : (i = 0 ∧ many = -1) ∨ (0 < i ∧ (i : Int) + many ≤ 101 ∧ ((C.length : Int) + (Y.length : Int) ≤ many) ∧ _) := h4
    rcases h4 with h4 | h4 <;> omega
end
/-! ### unlike ones of a list -/
def someBad (ls th : List LI) (a : Int × LI) : Bool := !decide (a.2 ∈ ls) || decide (a.2 ∈ th.take a.1.toNat)
theorem enumL_mem {α : Type} {xs : List α} {a : Int × α} (m : a ∈ enumL xs) : ∃ i : Nat, a.1 = i ∧ xs[i]? = some a.2 := by
  unfold enumL at m
  obtain ⟨i, hi, rfl⟩ := List.mem_mapIdx.mp m
  exact ⟨i, rfl, get_of hi⟩
theorem enumL_of {α : Type} {xs : List α} {i : Nat} {x : α} (h : xs[i]? = some x) : ((i : Int), x) ∈ enumL xs := by
  obtain ⟨hi, e⟩ := List.getElem?_eq_some_iff.mp h
  exact List.mem_mapIdx.mpr ⟨i, hi, by rw [e]⟩
theorem enumL_len {α : Type} (xs : List α) : (enumL xs).length = xs.length := by unfold enumL; rw [List.length_mapIdx]
theorem nodup_take {α : Type} {xs : List α} : xs.Nodup ↔ ∀ (i : Nat) (x : α), xs[i]? = some x → x ∉ xs.take i := by
  constructor
  · intro nd i x h m
    obtain ⟨j, hj⟩ := List.getElem?_of_mem m
    obtain ⟨lj, ej⟩ := List.getElem?_eq_some_iff.mp hj
    rw [List.length_take] at lj
    rw [List.getElem?_take_of_lt (by omega)] at hj
    obtain ⟨li, ei⟩ := List.getElem?_eq_some_iff.mp h
    obtain ⟨lj', ej'⟩ := List.getElem?_eq_some_iff.mp hj
    exact List.pairwise_iff_getElem.mp nd j i lj' li (by omega) (ej'.trans ei.symm)
  · intro h
    refine List.pairwise_iff_getElem.mpr fun i j hi hj hij e => ?_
    refine h j _ (get_of hj) ?_
    have : (xs.take j)[i]? = some xs[j] := by rw [List.getElem?_take_of_lt hij, get_of hi, e]
    exact List.mem_of_getElem? this
theorem someBad_iff {ls th : List LI} : (enumL th).any (someBad ls th) = false ↔ (∀ x ∈ th, x ∈ ls) ∧ th.Nodup := by
  rw [← Bool.not_eq_true, List.any_eq_true]
  constructor
  · intro h
    refine ⟨fun x m => ?_, nodup_take.mpr fun i x hx m => ?_⟩
    · obtain ⟨i, hi⟩ := List.getElem?_of_mem m
      by_cases q : x ∈ ls
      · exact q
      · exact (h ⟨_, enumL_of hi, by unfold someBad; simp [q]⟩).elim
    · exact h ⟨_, enumL_of hx, by unfold someBad; simp [m]⟩
  · rintro ⟨h1, h2⟩ ⟨a, m, e⟩
    obtain ⟨i, e1, hi⟩ := enumL_mem m
    unfold someBad at e
    have q1 := h1 _ (List.mem_of_getElem? hi)
    have q2 := nodup_take.mp h2 i _ hi
    rw [e1, Int.toNat_natCast] at e
    simp [q1, q2] at e
end G

namespace G
open PySem PySem.Spec PyProof.Rows L2
/-! ### what goes on, or returns -/
def EndsR {S L R : Type} (P : S → Prop) (Q : R → Prop) (o : Out S L R) : Prop := (∃ s, o = .nx s ∧ P s) ∨ ∃ r, o = .rt r ∧ Q r
theorem Sat.tailE {S R : Type} {M : Res (Out S Empty R)} {k : S → Res R} {P : S → Prop} {Q : R → Prop} (h : Sat M (EndsR P Q)) (hk : ∀ s, P s → Sat (k s) Q) : Sat (M.tail k) Q := by
  obtain ⟨o, e, h⟩ := h
  unfold Res.tail
  rw [e]
  rcases h with ⟨s, rfl, p⟩ | ⟨r, rfl, q⟩
  · exact hk s p
  · exact .ok q
theorem Sat.nextE {S S' L R : Type} {M : Res (Out S L R)} {k : S → Res (Out S' L R)} {P : S → Prop} {P' : S' → Prop} {Q : R → Prop} (h : Sat M (EndsR P Q)) (hk : ∀ s, P s → Sat (k s) (EndsR P' Q)) : Sat (M.next k) (EndsR P' Q) := by
  obtain ⟨o, e, h⟩ := h
  unfold Res.next
  rw [e]
  rcases h with ⟨s, rfl, p⟩ | ⟨r, rfl, q⟩
  · exact hk s p
  · exact .ok (.inr ⟨r, rfl, q⟩)
theorem Sat.nxE {S L R : Type} {s : S} {P : S → Prop} {Q : R → Prop} (p : P s) : Sat (Res.ok (Out.nx s) : Res (Out S L R)) (EndsR P Q) := .ok (.inl ⟨s, rfl, p⟩)
theorem Sat.rtE {S L R : Type} {r : R} {P : S → Prop} {Q : R → Prop} (q : Q r) : Sat (Res.ok (Out.rt r) : Res (Out S L R)) (EndsR P Q) := .ok (.inr ⟨r, rfl, q⟩)
theorem Sat.loopE {S L R α : Type} {f : S → α → Res (Out S S R)} {Q : R → Prop} : ∀ {xs : List α} {s0 : S} (I : Nat → S → Prop) (h0 : I 0 s0) (hs : ∀ i s a, xs[i]? = some a → I i s → Sat (f s a) (EndsR (I (i + 1)) Q)), Sat (G.loopO (L := L) f s0 xs) (EndsR (I xs.length) Q) := by
  intro xs
  induction xs with
  | nil => intro s0 I h0 hs; exact .ok (.inl ⟨s0, rfl, h0⟩)
  | cons a as ih =>
    intro s0 I h0 hs
    refine Sat.bind (hs 0 s0 a rfl h0) fun o h => ?_
    rcases h with ⟨s, rfl, p⟩ | ⟨r, rfl, q⟩
    · exact ih (fun i s => I (i + 1) s) p fun i s b hb q => hs (i + 1) s b hb q
    · exact .ok (.inr ⟨r, rfl, q⟩)
end G

namespace G
open PySem PySem.Spec PyProof.Rows L2
/-! ### walks that look for the first -/
theorem loop_find {S α L R : Type} {f : S → α → Res (Out S S R)} {s : S} {P : α → Bool} {g : α → R} : ∀ {xs : List α}, (∀ a ∈ xs, P a = false → f s a = .ok (.nx s)) → (∀ a, xs.find? P = some a → f s a = .ok (.rt (g a))) →
    loopO (L := L) f s xs = .ok (match xs.find? P with | some a => .rt (g a) | none => .nx s)
  | [], _, _ => rfl
  | a :: xs, h1, h2 => by
    show (f s a).bind _ = _
    cases e : P a with
    | true =>
      have ef : (a :: xs).find? P = some a := by rw [List.find?_cons, e]
      rw [h2 a ef, ef]; rfl
    | false =>
      have ef : (a :: xs).find? P = xs.find? P := by rw [List.find?_cons, e]
      rw [h1 a List.mem_cons_self e, ef]
      exact loop_find (fun b m => h1 b (List.mem_cons_of_mem _ m)) fun b m => h2 b (ef.trans m)
theorem loop_some {S α β L R : Type} {f : S → α → Res (Out S S R)} {s : S} {h : α → Option β} {g : β → R} : ∀ {xs : List α}, (∀ a ∈ xs, f s a = .ok (match h a with | some b => .rt (g b) | none => .nx s)) →
    loopO (L := L) f s xs = .ok (match xs.findSome? h with | some b => .rt (g b) | none => .nx s)
  | [], _ => rfl
  | a :: xs, h1 => by
    show (f s a).bind _ = _
    rw [List.findSome?_cons, h1 a List.mem_cons_self]
    cases e : h a with
    | some b => rfl
    | none => exact loop_some fun b m => h1 b (List.mem_cons_of_mem _ m)
theorem findSome_filter {α β : Type} {q : α → Bool} {h : α → Option β} : ∀ xs : List α, (xs.filter q).findSome? h = xs.findSome? fun a => if q a then h a else none
  | [] => rfl
  | a :: xs => by
    rw [List.filter_cons, List.findSome?_cons]
    cases e : q a with
    | true => rw [if_pos rfl, if_pos rfl, List.findSome?_cons, findSome_filter xs]
    | false => rw [if_neg (by simp), if_neg (by simp)]; exact findSome_filter xs
theorem findSome_congr {α β : Type} {h h' : α → Option β} : ∀ {xs : List α}, (∀ a ∈ xs, h a = h' a) → xs.findSome? h = xs.findSome? h'
  | [], _ => rfl
  | a :: xs, e => by
    rw [List.findSome?_cons, List.findSome?_cons, e a List.mem_cons_self, findSome_congr fun b m => e b (List.mem_cons_of_mem _ m)]
/-! ### orders -/
/-- some crossings, each once -/
structure IsPart (n : Nat) (r : List Int) : Prop where
  nd : r.Nodup
  rg : ∀ x ∈ r, 0 ≤ x ∧ x < n
structure IsOrd (n : Nat) (r : List Int) : Prop extends IsPart n r where
  len : r.length = n
theorem IsPart.le {n : Nat} {r : List Int} (h : IsPart n r) : r.length ≤ n := nodup_len n h.nd h.rg
theorem IsOrd.all {n : Nat} {r : List Int} (h : IsOrd n r) {x : Int} (h0 : 0 ≤ x) (h1 : x < n) : x ∈ r := by
  by_cases m : x ∈ r
  · exact m
  · have := nodup_len n (List.nodup_cons.mpr ⟨m, h.nd⟩) fun y my => (List.mem_cons.mp my).elim (fun e => by rw [e]; exact ⟨h0, h1⟩) (h.rg y)
    rw [List.length_cons, h.len] at this
    omega
/-- how a crossing is called -/
def nameOf (r : List Int) (i : Int) : Int := r.getD i.toNat 0
theorem nameOf_get {r : List Int} {i : Int} (h1 : i.toNat < r.length) : r[i.toNat]? = some (nameOf r i) := by
  unfold nameOf
  rw [List.getD_eq_getElem?_getD, List.getElem?_eq_getElem h1]; rfl
theorem nameOf_ix {r : List Int} {i : Int} (h0 : 0 ≤ i) (h1 : i < r.length) : G.idx r i = .ok (nameOf r i) := idx_int h0 (nameOf_get (by omega))
theorem nameOf_mem {r : List Int} {i : Int} (h1 : i.toNat < r.length) : nameOf r i ∈ r := List.mem_of_getElem? (nameOf_get h1)
theorem IsPart.inj {n : Nat} {r : List Int} (h : IsPart n r) {i j : Int} (hi : 0 ≤ i) (hi1 : i < r.length) (hj : 0 ≤ j) (hj1 : j < r.length) (e : nameOf r i = nameOf r j) : i = j := by
  have a := nameOf_get (r := r) (i := i) (by omega)
  have b := nameOf_get (r := r) (i := j) (by omega)
  rw [e, ← b] at a
  have := (List.getElem?_inj (by omega : i.toNat < r.length) h.nd).mp a
  omega
theorem IsOrd.surj {n : Nat} {r : List Int} (h : IsOrd n r) {x : Int} (h0 : 0 ≤ x) (h1 : x < n) : ∃ i : Int, (0 ≤ i ∧ i < n) ∧ nameOf r i = x := by
  obtain ⟨i, hi⟩ := List.getElem?_of_mem (h.all h0 h1)
  have hl := (List.getElem?_eq_some_iff.mp hi).1
  rw [h.len] at hl
  refine ⟨i, by omega, ?_⟩
  have := nameOf_get (r := r) (i := (i : Int)) (by rw [Int.toNat_natCast, h.len]; exact hl)
  rw [Int.toNat_natCast, hi] at this
  exact (Option.some.inj this).symm
def callT (r : List Int) (t : Int × Int) : Int × Int := (min (nameOf r t.1) (nameOf r t.2), max (nameOf r t.1) (nameOf r t.2))
def callW (w : Int × Tup (Int × Int)) (r : List Int) : Int × Tup (Int × Int) := (w.1, ⟨sortP (w.2.l.map (callT r))⟩)
theorem callT_inj {n : Nat} {r : List Int} (h : IsOrd n r) {a b c d : Int} (ha : 0 ≤ a) (hab : a < b) (hb : b < n) (hc : 0 ≤ c) (hcd : c < d) (hd : d < n) (e : callT r (a, b) = callT r (c, d)) : a = c ∧ b = d := by
  unfold callT at e
  have hl := h.len
  have e1 : min (nameOf r a) (nameOf r b) = min (nameOf r c) (nameOf r d) := congrArg Prod.fst e
  have e2 : max (nameOf r a) (nameOf r b) = max (nameOf r c) (nameOf r d) := congrArg Prod.snd e
  have key : (nameOf r a = nameOf r c ∧ nameOf r b = nameOf r d) ∨ (nameOf r a = nameOf r d ∧ nameOf r b = nameOf r c) := by omega
  rcases key with ⟨x, y⟩ | ⟨x, y⟩
  · exact ⟨h.inj ha (by omega) hc (by omega) x, h.inj (by omega) (by omega) (by omega) (by omega) y⟩
  · have := h.inj ha (by omega) (by omega) (by omega) x
    have := h.inj (by omega) (by omega) hc (by omega) y
    omega
theorem callT_ok {n : Nat} {r : List Int} (h : IsOrd n r) {t : Int × Int} (ht : TieOk n t) : TieOk n (callT r t) := by
  obtain ⟨h0, h1, h2⟩ := ht
  have hl := h.len
  have m1 := h.rg _ (nameOf_mem (r := r) (i := t.1) (by omega))
  have m2 := h.rg _ (nameOf_mem (r := r) (i := t.2) (by omega))
  refine tie_mm m1.1 m1.2 m2.1 m2.2 fun e => ?_
  have := h.inj h0 (by omega) (by omega) (by omega) e
  omega
theorem nodup_mapT {n : Nat} {r : List Int} (h : IsOrd n r) : ∀ {ts : List (Int × Int)}, (∀ t ∈ ts, TieOk n t) → ts.Nodup → (ts.map (callT r)).Nodup
  | [], _, _ => List.nodup_nil
  | t :: ts, ok, nd => by
    obtain ⟨n1, n2⟩ := List.nodup_cons.mp nd
    refine List.nodup_cons.mpr ⟨fun m => ?_, nodup_mapT h (fun x m => ok x (List.mem_cons_of_mem _ m)) n2⟩
    obtain ⟨u, mu, e⟩ := List.mem_map.mp m
    obtain ⟨a0, a1, a2⟩ := ok t List.mem_cons_self
    obtain ⟨b0, b1, b2⟩ := ok u (List.mem_cons_of_mem _ mu)
    obtain ⟨x, y⟩ := callT_inj h (a := u.1) (b := u.2) (c := t.1) (d := t.2) b0 b1 b2 a0 a1 a2 e
    exact n1 (by rw [← Prod.ext x y]; exact mu)
theorem callW_ok {w : Int × Tup (Int × Int)} (hw : WebOk w) {r : List Int} (h : IsOrd w.1.toNat r) : WebOk (callW w r) := by
  have hn := hw.n1
  have e : ((w.1.toNat : Nat) : Int) = w.1 := by omega
  have ok : ∀ t ∈ w.2.l, TieOk w.1.toNat t := fun t m => by rw [e]; exact hw.ok t m
  refine ⟨hw.n1, hw.n2, ?_, fun t m => ?_, ?_, sortP_pw _⟩
  · show (sortP (w.2.l.map (callT r))).length ≤ 200
    rw [(sortP_perm _).length_eq, List.length_map]; exact hw.len
  · obtain ⟨u, mu, eu⟩ := List.mem_map.mp ((sortP_perm _).mem_iff.mp m)
    rw [← eu]
    have := callT_ok h (ok u mu)
    rw [e] at this
    exact this
  · exact (sortP_perm _).nodup_iff.mpr (nodup_mapT h ok hw.nd)
theorem leP_antisymm {a b : Int × Int} (h : leP a b = true) (h' : leP b a = true) : a = b := by
  unfold leP at h h'
  simp only [Bool.or_eq_true, Bool.and_eq_true, decide_eq_true_eq, beq_iff_eq] at h h'
  refine Prod.ext ?_ ?_ <;> omega
theorem riseP_ext : ∀ {l m : List (Int × Int)}, (l.Pairwise fun a b => leP a b = true) → (m.Pairwise fun a b => leP a b = true) → l.Nodup → m.Nodup → (∀ x, x ∈ l ↔ x ∈ m) → l = m
  | [], [], _, _, _, _, _ => rfl
  | [], b :: m, _, _, _, _, h => by have := (h b).mpr List.mem_cons_self; cases this
  | a :: l, [], _, _, _, _, h => by have := (h a).mp List.mem_cons_self; cases this
  | a :: l, b :: m, h1, h2, n1, n2, h => by
    obtain ⟨p1, p2⟩ := List.pairwise_cons.mp h1
    obtain ⟨q1, q2⟩ := List.pairwise_cons.mp h2
    obtain ⟨d1, d2⟩ := List.nodup_cons.mp n1
    obtain ⟨c1, c2⟩ := List.nodup_cons.mp n2
    have e : a = b := by
      rcases List.mem_cons.mp ((h a).mp List.mem_cons_self) with e | e
      · exact e
      · rcases List.mem_cons.mp ((h b).mpr List.mem_cons_self) with e2 | e2
        · exact e2.symm
        · exact leP_antisymm (p1 b e2) (q1 a e)
    subst e
    congr 1
    refine riseP_ext p2 q2 d2 c2 fun x => ⟨fun hx => ?_, fun hx => ?_⟩
    · rcases List.mem_cons.mp ((h x).mp (List.mem_cons_of_mem _ hx)) with e | e
      · exact (d1 (e ▸ hx)).elim
      · exact e
    · rcases List.mem_cons.mp ((h x).mpr (List.mem_cons_of_mem _ hx)) with e | e
      · exact (c1 (e ▸ hx)).elim
      · exact e
/-- the crossing k of the one is called so that its ties to lesser ones fit -/
def FitK (ts ts' : List (Int × Int)) (r : List Int) (k : Nat) : Prop := ∀ a : Int, 0 ≤ a → a < k → ((a, (k : Int)) ∈ ts ↔ callT r (a, (k : Int)) ∈ ts')
theorem fit_called {w w' : Int × Tup (Int × Int)} (hw : WebOk w) (hw' : WebOk w') (e : w.1 = w'.1) {r : List Int} (h : IsOrd w.1.toNat r) : callW w r = w' ↔ ∀ k, k < w.1.toNat → FitK w.2.l w'.2.l r k := by
  have hn := hw.n1
  have en : ((w.1.toNat : Nat) : Int) = w.1 := by omega
  have ok : ∀ t ∈ w.2.l, TieOk w.1.toNat t := fun t m => by rw [en]; exact hw.ok t m
  have ok' : ∀ t ∈ w'.2.l, TieOk w.1.toNat t := fun t m => by rw [en, e]; exact hw'.ok t m
  constructor
  · rintro rfl k hk a h0 h1
    show _ ↔ callT r (a, (k : Int)) ∈ sortP _
    rw [(sortP_perm _).mem_iff, List.mem_map]
    refine ⟨fun m => ⟨_, m, rfl⟩, ?_⟩
    rintro ⟨t, m, et⟩
    obtain ⟨a0, a1, a2⟩ := ok t m
    obtain ⟨x, y⟩ := callT_inj h (a := t.1) (b := t.2) a0 a1 a2 h0 h1 (by omega) et
    have et : t = (a, (k : Int)) := Prod.ext x y
    rw [← et]
    exact m
  · intro hf
    refine Prod.ext e ?_
    have go : sortP (w.2.l.map (callT r)) = w'.2.l := by
      refine riseP_ext (sortP_pw _) hw'.up ((sortP_perm _).nodup_iff.mpr (nodup_mapT h ok hw.nd)) hw'.nd fun x => ?_
      rw [(sortP_perm _).mem_iff, List.mem_map]
      constructor
      · rintro ⟨t, m, rfl⟩
        obtain ⟨a0, a1, a2⟩ := ok t m
        have := hf t.2.toNat (by omega) t.1 a0 (by omega)
        have e2 : ((t.2.toNat : Nat) : Int) = t.2 := by omega
        rw [e2] at this
        exact this.mp m
      · intro m
        obtain ⟨x0, x1, x2⟩ := ok' x m
        obtain ⟨i, hi, ei⟩ := h.surj x0 (by omega)
        obtain ⟨j, hj, ej⟩ := h.surj (x := x.2) (by omega) x2
        have hne : i ≠ j := fun z => by rw [z, ej] at ei; omega
        have e2 : callT r (min i j, max i j) = x := by
          unfold callT
          rcases Int.lt_or_gt_of_ne hne with z | z
          · rw [show min i j = i by omega, show max i j = j by omega, ei, ej]
            refine Prod.ext ?_ ?_ <;> simp only <;> omega
          · rw [show min i j = j by omega, show max i j = i by omega, ei, ej]
            refine Prod.ext ?_ ?_ <;> simp only <;> omega
        refine ⟨_, ?_, e2⟩
        have e3 : (((max i j).toNat : Nat) : Int) = max i j := by omega
        have := hf (max i j).toNat (by omega) (min i j) (by omega) (by omega)
        rw [e3, e2] at this
        exact this.mpr m
    cases w' with
    | mk n t => cases t; exact congrArg Tup.mk go
/-! ### all ways to go on, as lists come -/
def ext (n : Nat) : Nat → List Int → List (List Int)
  | 0, p => [p]
  | m + 1, p => ((rangeL 0 n).filter fun s => !decide (s ∈ p)).flatMap fun s => ext n m (p ++ [s])
theorem ext_cat (n a : Nat) : ∀ (b : Nat) (p : List Int), (ext n b p).flatMap (ext n a) = ext n (b + a) p
  | 0, p => by rw [Nat.zero_add]; simp [ext]
  | b + 1, p => by
    rw [Nat.succ_add]
    show List.flatMap (ext n a) (List.flatMap _ _) = List.flatMap _ _
    rw [List.flatMap_assoc]
    congr 1
    funext s
    exact ext_cat n a b _
theorem ext_len (n : Nat) : ∀ (m : Nat) (p : List Int), (ext n m p).length ≤ n ^ m
  | 0, p => by simp [ext]
  | m + 1, p => by
    show (List.flatMap _ _).length ≤ _
    rw [List.length_flatMap]
    have go : ∀ l : List Int, (l.map fun s => (ext n m (p ++ [s])).length).sum ≤ l.length * n ^ m := by
      intro l
      induction l with
      | nil => exact Nat.zero_le _
      | cons a l ih =>
        rw [List.map_cons, List.sum_cons, List.length_cons, Nat.succ_mul]
        have := ext_len n m (p ++ [a])
        omega
    refine Nat.le_trans (go _) ?_
    rw [Nat.pow_succ, Nat.mul_comm]
    refine Nat.mul_le_mul_left _ ?_
    refine Nat.le_trans (List.length_filter_le _ _) ?_
    rw [rangeL_len]; exact Nat.le_refl _
theorem ext_part {n : Nat} : ∀ {m : Nat} {p r : List Int}, IsPart n p → r ∈ ext n m p → IsPart n r ∧ p <+: r ∧ r.length = p.length + m
  | 0, p, r, h, m => by
    have : r = p := by simpa [ext] using m
    subst this
    exact ⟨h, List.prefix_refl _, rfl⟩
  | k + 1, p, r, h, m => by
    obtain ⟨s, ms, mr⟩ := List.mem_flatMap.mp m
    obtain ⟨m1, m2⟩ := List.mem_filter.mp ms
    have m1 := mem_rangeL.mp m1
    have m2 : s ∉ p := by simpa using m2
    obtain ⟨a, b, c⟩ := ext_part (p := p ++ [s]) ⟨List.nodup_append.mpr ⟨h.nd, by simp, fun x hx y hy e => by cases List.mem_singleton.mp hy; exact m2 (e ▸ hx)⟩, fun x mx => (List.mem_append.mp mx).elim (h.rg x) fun z => by cases List.mem_singleton.mp z; exact m1⟩ mr
    refine ⟨a, List.IsPrefix.trans (List.prefix_append p [s]) b, ?_⟩
    rw [c, List.length_append, List.length_singleton]; omega
theorem ext_ord {n : Nat} {r : List Int} (m : r ∈ ext n n []) : IsOrd n r := by
  obtain ⟨a, _, c⟩ := ext_part (p := []) ⟨List.nodup_nil, fun x m => by cases m⟩ m
  exact ⟨a, by simpa using c⟩
theorem nameOf_pre {p r : List Int} (h : p <+: r) {i : Int} (hi : i.toNat < p.length) : nameOf r i = nameOf p i := by
  obtain ⟨q, rfl⟩ := h
  unfold nameOf
  rw [List.getD_eq_getElem?_getD, List.getD_eq_getElem?_getD, List.getElem?_append_left hi]
theorem fitK_pre {ts ts' : List (Int × Int)} {p r : List Int} (h : p <+: r) {k : Nat} (hk : k < p.length) : FitK ts ts' r k ↔ FitK ts ts' p k := by
  unfold FitK callT
  refine forall_congr' fun a => ⟨fun x h0 h1 => ?_, fun x h0 h1 => ?_⟩
  · have := x h0 h1
    dsimp only at this ⊢
    rw [nameOf_pre h (by omega), nameOf_pre h (by omega : ((k : Int)).toNat < p.length)] at this
    exact this
  · have := x h0 h1
    dsimp only at this ⊢
    rw [nameOf_pre h (by omega), nameOf_pre h (by omega : ((k : Int)).toNat < p.length)]
    exact this
/-! ### an order by insertion -/
theorem insert_part {k : Nat} {r : List Int} (h : IsOrd k r) (d : Nat) : IsOrd (k + 1) (r.take d ++ [(k : Int)] ++ r.drop d) := by
  have hk : (k : Int) ∉ r := fun m => by have := (h.rg _ m).2; omega
  have pm : (r.take d ++ [(k : Int)] ++ r.drop d).Perm ((k : Int) :: r) := by
    rw [List.append_assoc]
    refine List.perm_append_comm_assoc _ _ _ |>.trans ?_
    show ((k : Int) :: ([] ++ (r.take d ++ r.drop d))).Perm _
    rw [List.nil_append, List.take_append_drop]
  refine ⟨⟨pm.nodup_iff.mpr (List.nodup_cons.mpr ⟨hk, h.nd⟩), fun x m => ?_⟩, by rw [pm.length_eq, List.length_cons, h.len]⟩
  rcases List.mem_cons.mp (pm.mem_iff.mp m) with rfl | m
  · omega
  · have := h.rg x m; omega
/-! ### walks that gather -/
theorem foldR_map {α β : Type} {f : List β → α → Res (List β)} {g : α → β} {B : Nat} : ∀ {xs : List α} {s : List β}, (∀ a ∈ xs, ∀ s : List β, s.length ≤ B → f s a = .ok (s ++ [g a])) → s.length + xs.length ≤ B → foldR f s xs = .ok (s ++ xs.map g)
  | [], s, _, _ => by rw [List.map_nil, List.append_nil]; rfl
  | a :: xs, s, h, hl => by
    rw [List.length_cons] at hl
    show (f s a).bind _ = _
    rw [h a List.mem_cons_self s (by omega)]
    show foldR f _ xs = _
    rw [foldR_map (fun b m => h b (List.mem_cons_of_mem _ m)) (by rw [List.length_append, List.length_singleton]; omega), List.append_assoc]
    rfl
theorem foldR_flat {α β : Type} {f : List β → α → Res (List β)} {g : α → List β} {B c : Nat} : ∀ {xs : List α} {s : List β}, (∀ a ∈ xs, ∀ s : List β, s.length + (g a).length ≤ B → f s a = .ok (s ++ g a)) → (∀ a ∈ xs, (g a).length ≤ c) → s.length + xs.length * c ≤ B → foldR f s xs = .ok (s ++ xs.flatMap g)
  | [], s, _, _, _ => by rw [List.flatMap_nil, List.append_nil]; rfl
  | a :: xs, s, h, hc, hl => by
    rw [List.length_cons, Nat.succ_mul] at hl
    have ha := hc a List.mem_cons_self
    show (f s a).bind _ = _
    rw [h a List.mem_cons_self s (by omega)]
    show foldR f _ xs = _
    rw [foldR_flat (fun b m => h b (List.mem_cons_of_mem _ m)) (fun b m => hc b (List.mem_cons_of_mem _ m)) (by rw [List.length_append]; omega), List.append_assoc, List.flatMap_cons]
instance instDecTupG {α : Type} [DecidableEq α] : DecidableEq (Tup α) := fun a b => if h : a.l = b.l then isTrue (by cases a; cases b; cases h; rfl) else isFalse (fun e => h (by rw [e]))
/-- told as a truth -/
noncomputable def dec (P : Prop) : Bool := @decide P (Classical.propDecidable P)
theorem dec_iff {P : Prop} : dec P = true ↔ P := by unfold dec; exact @decide_eq_true_iff _ (Classical.propDecidable P)
theorem dec_neg {P : Prop} : dec P = false ↔ ¬ P := by unfold dec; exact @decide_eq_false_iff_not _ (Classical.propDecidable P)
theorem dec_eq {P : Prop} [Decidable P] : decide P = dec P := by
  rw [Bool.eq_iff_iff, decide_eq_true_iff, dec_iff]
theorem inD_dec {α : Type} [Enc α] [Dat α] [NoStr α] [DatEq α] [DecidableEq α] (a : α) (xs : List α) : inD a xs = .ok (dec (a ∈ xs)) := by rw [inD_eq, dec_eq]
theorem ninD_dec {α : Type} [Enc α] [Dat α] [NoStr α] [DatEq α] [DecidableEq α] (a : α) (xs : List α) : ninD a xs = .ok (!dec (a ∈ xs)) := by rw [ninD_eq, dec_eq]
theorem eqD_dec {α : Type} [Enc α] [Dat α] [NoStr α] [DatEq α] [DecidableEq α] (a b : α) : eqD a b = .ok (dec (a = b)) := by rw [eqD_eq, dec_eq]
theorem neD_dec {α : Type} [Enc α] [Dat α] [NoStr α] [DatEq α] [DecidableEq α] (a b : α) : neD a b = .ok (!dec (a = b)) := by rw [neD_eq, dec_eq]
theorem dec_true {P : Prop} (h : P) : dec P = true := dec_iff.mpr h
theorem dec_false {P : Prop} (h : ¬ P) : dec P = false := dec_neg.mpr h
theorem popR_ok {α : Type} {xs : List α} {k : Int} (h0 : 0 ≤ k) (h1 : k < xs.length) (h2 : xs.length ≤ 1000000) : popR xs k = .ok (xs.eraseIdx k.toNat) := by
  unfold popR
  have : ixN xs.length k = some k.toNat := by unfold ixN; rw [if_pos h0, if_pos (by omega)]
  rw [this]
  exact guardR_of (by simp only [Bool.and_eq_true, decide_eq_true_eq]; omega)
theorem sca_int (a b : Int) : ScaEq.eq a b = decide (a = b) := rfl
theorem cut_lenE {α : Type} (xs : List α) {lo hi : Nat} (h : lo ≤ hi) (hl : hi ≤ xs.length) : (cut xs (some (lo : Int)) (some (hi : Int))).length = hi - lo := by
  unfold cut
  rw [HT.sIx_nat, HT.sIx_nat, List.length_take, List.length_drop]
  omega
theorem cut_get {α : Type} (xs : List α) {lo hi i : Nat} (h : lo + i < hi) (hl : hi ≤ xs.length) : (cut xs (some (lo : Int)) (some (hi : Int)))[i]? = xs[lo + i]? := by
  unfold cut
  rw [HT.sIx_nat, HT.sIx_nat, List.getElem?_take_of_lt (by omega), List.getElem?_drop, show min lo xs.length = lo by omega]
end G

namespace K81
open PySem PySem.Spec PyProof.Rows L2 G
def topS (i : Nat) : Stmt := PySem.Challenge.pw_ringstones_k81_whole_likeness.main.body.getD i (.Pass ⟨0, 0, 0, 0⟩)
def ct_tab_TooMany : ETab := [((PySem.Str.ofString "TooMany"), true)]
def ct_tab_RingError : ETab := [((PySem.Str.ofString "TooMany"), true)]
def it_tab_ValueError : ETab := [((PySem.Str.ofString "TooMany"), true)]
def it_tab_TooWide : ETab := [((PySem.Str.ofString "TooMany"), false)]
/-- tied -/
def m_tied (web : (Int × (G.Tup (Int × Int)))) (one : Int) (other : Int) : Res Bool :=
  (inDT ((min one other), (max one other)) (web.2))
abbrev s_tied : Stmt := topS 5
abbrev N_tied : List Str := ["web", "one", "other"]
theorem S_tied : FnScope N_tied ["web", "one", "other"] (defScope s_tied) := ⟨rfl, rfl, rfl, by decide +kernel, rfl, by decide +kernel, by decide +kernel⟩
set_option maxHeartbeats 4000000 in
theorem cal_tied {P : Program} {w : World} {K : Frag} {mg : PySem.Str → Option Value} {base : Heap} (D : IsDef K mg "tied" s_tied) (b_min : mg "min" = none) (b_max : mg "max" = none) :
    Cal P w K mg base 1 "tied" (fun a : (Int × (G.Tup (Int × Int))) × Int × Int × Unit => a) (fun a : (Int × (G.Tup (Int × Int))) × Int × Int × Unit => m_tied a.1 a.2.1 a.2.2.1) fr :=
  cal_mk (N := N_tied) (ps := ["web", "one", "other"]) D S_tied rfl (fun _ _ _ _ _ _ us hl => match us, hl with | [_, _, _], _ => rfl) fun a f cdv A' outer s H E hr => by
    obtain ⟨web, one, other, _⟩ := a
    have S := S_tied
    have tk := takes_of (X := cxOf (L2.CX P w) P w K mg base N_tied "tied" (defScope s_tied) f cdv A' outer s H E) (E := E) rfl rfl rfl rfl
    refine' ST.slots (ss' := [G.fr web, G.fr one, G.fr other]) (ST.cast ?h ?q) rfl
    (case h => exact (st_ret (xk_imm (x_cmp (op_inDT (hu65 hr)) (b_inDT (α := (Int × Int))) (by with_unfolding_all rfl) (xi_pair (xa_cons (xi_bf (call_min2 rfl) c_min b_min (by decide +kernel) (xa_cons (xi_fr 1) (xa_cons (xi_fr 2) xa_nil))) (xa_cons (xi_bf (call_max2 rfl) c_max b_max (by decide +kernel) (xa_cons (xi_fr 1) (xa_cons (xi_fr 2) xa_nil))) xa_nil))) (xi_p2 (xi_fr 0))))))
    (case q => first | (unfold m_tied; simp only [Res.okb, Res.bind_assoc]; done) | rfl)
/-- fits -/
def m_fits (one : (Int × (G.Tup (Int × Int)))) (other : (Int × (G.Tup (Int × Int)))) (placed : (List Int)) (spot : Int) : Res Bool :=
  (if (decide (spot ∈ placed)) then (Res.ok false) else (Res.bind (Res.ok (placed.length : Int)) fun (k1 : Int) => (Res.tail (S := Unit) (R := Bool) (Res.bind (guardR (small62 k1) (Res.ok (rangeL 0 (k1).toNat))) fun v11 => (loopO (fun (s2 : Unit) (a3 : Int) => ((Res.next (S := Unit) (Res.bind (Res.bind (m_tied one a3 k1) fun v7 => (Res.bind (Res.bind (Res.bind (Res.bind (idx placed a3) fun v4 => (Res.ok (v4, (spot, ())))) fun v5 => (Res.ok (other, v5))) fun a6 => (m_tied a6.1 a6.2.1 a6.2.2.1)) fun v8 => (Res.ok (!ScaEq.eq v7 v8)))) fun v10 => (if v10 then (Res.ok (Out.rt false)) else (Res.ok (Out.nx ())))) fun s9 => (Res.ok (Out.nx ()))) : Res (Out (Unit) (Unit) Bool))) () v11)) fun s2 => (Res.ok true))))
abbrev s_fits : Stmt := topS 6
abbrev N_fits : List Str := ["one", "other", "placed", "spot", "k", "at"]
theorem S_fits : FnScope N_fits ["one", "other", "placed", "spot"] (defScope s_fits) := ⟨rfl, rfl, rfl, by decide +kernel, rfl, by decide +kernel, by decide +kernel⟩
set_option maxHeartbeats 4000000 in
theorem cal_fits {P : Program} {w : World} {K : Frag} {mg : PySem.Str → Option Value} {base : Heap} (D : IsDef K mg "fits" s_fits) (c_tied : Cal P w K mg base 1 "tied" (fun a : (Int × (G.Tup (Int × Int))) × Int × Int × Unit => a) (fun a : (Int × (G.Tup (Int × Int))) × Int × Int × Unit => m_tied a.1 a.2.1 a.2.2.1) fr) (b_len : mg "len" = none) (b_range : mg "range" = none) :
    Cal P w K mg base 2 "fits" (fun a : (Int × (G.Tup (Int × Int))) × (Int × (G.Tup (Int × Int))) × (List Int) × Int × Unit => a) (fun a : (Int × (G.Tup (Int × Int))) × (Int × (G.Tup (Int × Int))) × (List Int) × Int × Unit => m_fits a.1 a.2.1 a.2.2.1 a.2.2.2.1) fr :=
  cal_mk (N := N_fits) (ps := ["one", "other", "placed", "spot"]) D S_fits rfl (fun _ _ _ _ _ _ us hl => match us, hl with | [_, _, _, _], _ => rfl) fun a f cdv A' outer s H E hr => by
    obtain ⟨one, other, placed, spot, _⟩ := a
    have S := S_fits
    have tk := takes_of (X := cxOf (L2.CX P w) P w K mg base N_fits "fits" (defScope s_fits) f cdv A' outer s H E) (E := E) rfl rfl rfl rfl
    refine' ST.slots (ss' := [G.fr one, G.fr other, G.fr placed, G.fr spot, G.any, G.any]) (ST.cast ?h ?q) rfl
    (case h => exact (st_guard (t_cmp op_in_seq (b_inL (α := Int)) (by with_unfolding_all rfl) (xi_fr 3) (xi_fr 2)) (st_ret (xk_imm xi_bl)) (st_seq (s1_set 4 (xk_imm (xi_bf call_len c_lenL b_len PySem.boot_len (xa_cons (xi_fr 2) xa_nil))) S.nd) fun (k1 : Int) => (st_b1 (S := Unit) (R := Bool) (pl := fun x => nomatch x) (b1_for (S := Unit) (R := Bool) (fun (s2 : Unit) => [G.fr one, G.fr other, G.fr placed, G.fr spot, G.fr k1, G.any]) () (it_range1 (xa_cons (xi_fr 4) xa_nil) b_range) (tg_name 5 S.nd) (fun s2 a3 => (sb_b1 (S := Unit) (b1_if (post := (fun (s9 : Unit) => [G.fr one, G.fr other, G.fr placed, G.fr spot, G.fr k1, G.fr a3])) (t_cmp op_ne (b_neS (α := Bool) (β := Bool)) (nomark _) (xi_cal c_tied hr tk (xa_cons (xi_fr 0) (xa_cons (xi_fr 5) (xa_cons (xi_fr 4) xa_nil)))) (xi_cal c_tied hr tk (xa_cons (xi_fr 1) (xa_cons (xi_ixL (xi_fr 2) (xi_fr 5)) (xa_cons (xi_fr 3) xa_nil))))) (sb_ret (xk_imm xi_bl)) (sb_nil (s := ()) (wk_eq (wk_eq (wk_eq (wk_eq (wk_eq (wk_eq wk_nil)))))))) fun s9 => (sb_nil (s := ()) (wk_eq (wk_eq (wk_eq (wk_eq (wk_eq (wk_any wk_nil))))))))) (wk_eq (wk_eq (wk_eq (wk_eq (wk_eq (wk_eq wk_nil))))))) fun s2 => (st_ret (xk_imm xi_bl))))))
    (case q => first | (unfold m_fits; simp only [Res.okb, Res.bind_assoc]; done) | rfl)
/-- first_order -/
def m_first_order : Nat → (Int × (G.Tup (Int × Int))) → (Int × (G.Tup (Int × Int))) → (List Int) → Res (Option (List Int))
  | 0, _, _, _ => .stuck
  | fuel_ + 1, one, other, placed =>
    (if (ScaEq.eq (placed.length : Int) (one.1)) then (Res.ok (some placed)) else (Res.tail (S := Unit) (R := (Option (List Int))) (Res.bind (guardR (small62 (one.1)) (Res.ok (rangeL 0 ((one.1)).toNat))) fun v8 => (loopO (fun (s1 : Unit) (a2 : Int) => ((Res.next (S := Unit) (Res.bind (m_fits one other placed a2) fun v7 => (if v7 then (Res.bind (Res.bind (catR placed (a2 :: [])) fun v5 => (m_first_order fuel_ one other v5)) fun (found4 : (Option (List Int))) => (Res.next (S := Unit) (if (Option.isSome found4) then (Res.ok (Out.rt found4)) else (Res.ok (Out.nx ()))) fun s6 => (Res.ok (Out.nx ())))) else (Res.ok (Out.nx ())))) fun s3 => (Res.ok (Out.nx ()))) : Res (Out (Unit) (Unit) (Option (List Int))))) () v8)) fun s1 => (Res.ok (none : (Option (List Int))))))
theorem m_first_order_succ (fuel_ : Nat) (one : (Int × (G.Tup (Int × Int)))) (other : (Int × (G.Tup (Int × Int)))) (placed : (List Int)) : m_first_order (fuel_ + 1) one other placed = (if (ScaEq.eq (placed.length : Int) (one.1)) then (Res.ok (some placed)) else (Res.tail (S := Unit) (R := (Option (List Int))) (Res.bind (guardR (small62 (one.1)) (Res.ok (rangeL 0 ((one.1)).toNat))) fun v8 => (loopO (fun (s1 : Unit) (a2 : Int) => ((Res.next (S := Unit) (Res.bind (m_fits one other placed a2) fun v7 => (if v7 then (Res.bind (Res.bind (catR placed (a2 :: [])) fun v5 => (m_first_order fuel_ one other v5)) fun (found4 : (Option (List Int))) => (Res.next (S := Unit) (if (Option.isSome found4) then (Res.ok (Out.rt found4)) else (Res.ok (Out.nx ()))) fun s6 => (Res.ok (Out.nx ())))) else (Res.ok (Out.nx ())))) fun s3 => (Res.ok (Out.nx ()))) : Res (Out (Unit) (Unit) (Option (List Int))))) () v8)) fun s1 => (Res.ok (none : (Option (List Int)))))) := rfl
abbrev s_first_order : Stmt := topS 7
abbrev N_first_order : List Str := ["one", "other", "placed", "spot", "found"]
theorem S_first_order : FnScope N_first_order ["one", "other", "placed"] (defScope s_first_order) := ⟨rfl, rfl, rfl, by decide +kernel, rfl, by decide +kernel, by decide +kernel⟩
set_option maxHeartbeats 4000000 in
theorem cal_first_order {P : Program} {w : World} {K : Frag} {mg : PySem.Str → Option Value} {base : Heap} (D : IsDef K mg "first_order" s_first_order) (c_fits : Cal P w K mg base 2 "fits" (fun a : (Int × (G.Tup (Int × Int))) × (Int × (G.Tup (Int × Int))) × (List Int) × Int × Unit => a) (fun a : (Int × (G.Tup (Int × Int))) × (Int × (G.Tup (Int × Int))) × (List Int) × Int × Unit => m_fits a.1 a.2.1 a.2.2.1 a.2.2.2.1) fr) (b_len : mg "len" = none) (b_range : mg "range" = none) :
    ∀ fuel_ : Nat, CalO P w K mg base (2 + fuel_) "first_order" (slC (α := (Int × (G.Tup (Int × Int)))) G.fr (slC (α := (Int × (G.Tup (Int × Int)))) G.fr (slC (α := (List Int)) G.ow slN))) (fun a : (Int × (G.Tup (Int × Int))) × (Int × (G.Tup (Int × Int))) × (List Int) × Unit => m_first_order fuel_ a.1 a.2.1 a.2.2.1) (G.os (G.optO G.l1))
  | 0 => cal_mkO (N := N_first_order) (ps := ["one", "other", "placed"]) (k := 1) D S_first_order (fun _ => rfl) (fun _ _ _ _ _ _ us hl => match us, hl with | [_, _, _], _ => rfl) fun _ _ _ _ _ _ _ _ _ => st_stuck
  | fuel_ + 1 => by
    have c_first_order := cal_first_order D c_fits b_len b_range   fuel_
    exact cal_mkO (N := N_first_order) (ps := ["one", "other", "placed"]) (k := 2 + fuel_) D S_first_order (fun _ => rfl) (fun _ _ _ _ _ _ us hl => match us, hl with | [_, _, _], _ => rfl) fun a f cdv A' outer s H E hr => by
      obtain ⟨one, other, placed, _⟩ := a
      have S := S_first_order
      have hrL := hr.mono (j := 2) (Nat.le_add_right _ _)
      have tk := takes_of (X := cxOf (L2.CX P w) P w K mg base N_first_order "first_order" (defScope s_first_order) f cdv A' outer s H E) (E := E) rfl rfl rfl rfl
      refine' ST.slots (ss' := [G.fr one, G.fr other, G.ow placed, G.any, G.any]) (ST.cast ?h ?q) rfl
      (case h => exact (st_guard (t_cmp op_eq (b_eqS (α := Int) (β := Int)) (nomark _) (xi_bf call_len c_lenL b_len PySem.boot_len (xa_cons (xi_ow 2) xa_nil)) (xi_p1 (xi_fr 0))) (st_slot 2 ow_some (st_retO 2)) (st_b1 (S := Unit) (R := (Option (List Int))) (pl := fun x => nomatch x) (b1_for (S := Unit) (R := (Option (List Int))) (fun (s1 : Unit) => [G.fr one, G.fr other, G.ow placed, G.any, G.any]) () (it_range1 (xa_cons (xi_p1 (xi_fr 0)) xa_nil) b_range) (tg_name 3 S.nd) (fun s1 a2 => (sb_b1 (S := Unit) (b1_if (post := (fun (s3 : Unit) => [G.fr one, G.fr other, G.ow placed, G.fr a2, G.any])) (xt_val (xi_cal c_fits hrL tk (xa_cons (xi_fr 0) (xa_cons (xi_fr 1) (xa_cons (xi_ow 2) (xa_cons (xi_fr 3) xa_nil)))))) (sb_seq (s1_set 4 (xk_calO c_first_order hr tk (xao_cons (xk_imm (xi_fr 0)) (xao_cons (xk_imm (xi_fr 1)) (xao_cons (xk_cat (xi_ow 2) (xi_of (xk_lst (xak_imm (xh_cons (xi_fr 3) (xh_nil)))))) xao_nil))) (hj := Nat.le_refl _)) S.nd) fun (found4 : (Option (List Int))) => (sb_b1 (S := Unit) (b1_if (post := (fun (s6 : Unit) => [G.fr one, G.fr other, G.ow placed, G.fr a2, G.os (G.optO G.l1) found4])) (xt_notN (xi_os 4)) (sb_retO 4) (sb_nil (s := ()) (wk_eq (wk_eq (wk_eq (wk_eq (wk_eq wk_nil))))))) fun s6 => (sb_nil (s := ()) (wk_eq (wk_eq (wk_eq (wk_eq (wk_any wk_nil)))))))) (sb_nil (s := ()) (wk_eq (wk_eq (wk_eq (wk_eq (wk_eq wk_nil))))))) fun s3 => (sb_nil (s := ()) (wk_eq (wk_eq (wk_eq (wk_any (wk_eq wk_nil)))))))) (wk_eq (wk_eq (wk_eq (wk_eq (wk_eq wk_nil)))))) fun s1 => (st_ret (xk_noneO (α := (List Int)) (d := G.l1))))))
      (case q => first | (simp only [m_first_order_succ, Res.okb, Res.bind_assoc]; done) | rfl)
/-- likeness -/
def m_likeness (one : (Int × (G.Tup (Int × Int)))) (other : (Int × (G.Tup (Int × Int)))) : Res (Option (List Int)) :=
  (Res.bind (if (decide ((one.1) > (6 : Int))) then (Res.ok true) else (Res.ok (decide ((other.1) > (6 : Int))))) fun v2 => (if v2 then (Res.exc ⟨(PySem.Str.ofString "TooMany"), .no⟩) else (Res.bind (if (!ScaEq.eq (one.1) (other.1)) then (Res.ok true) else (Res.ok (!ScaEq.eq ((one.2).l.length : Int) ((other.2).l.length : Int)))) fun v1 => (if v1 then (Res.ok (none : (Option (List Int)))) else (m_first_order 8 one other ([] : (List Int)))))))
abbrev s_likeness : Stmt := topS 8
abbrev N_likeness : List Str := ["one", "other"]
theorem S_likeness : FnScope N_likeness ["one", "other"] (defScope s_likeness) := ⟨rfl, rfl, rfl, by decide +kernel, rfl, by decide +kernel, by decide +kernel⟩
set_option maxHeartbeats 4000000 in
theorem cal_likeness {P : Program} {w : World} {K : Frag} {mg : PySem.Str → Option Value} {base : Heap} (D : IsDef K mg "likeness" s_likeness) (c_first_order : CalO P w K mg base 10 "first_order" (slC (α := (Int × (G.Tup (Int × Int)))) G.fr (slC (α := (Int × (G.Tup (Int × Int)))) G.fr (slC (α := (List Int)) G.ow slN))) (fun a : (Int × (G.Tup (Int × Int))) × (Int × (G.Tup (Int × Int))) × (List Int) × Unit => m_first_order 8 a.1 a.2.1 a.2.2.1) (G.os (G.optO G.l1))) (b_len : mg "len" = none) (x_TooMany : HasCl K mg "TooMany") :
    Cal P w K mg base 11 "likeness" (fun a : (Int × (G.Tup (Int × Int))) × (Int × (G.Tup (Int × Int))) × Unit => a) (fun a : (Int × (G.Tup (Int × Int))) × (Int × (G.Tup (Int × Int))) × Unit => m_likeness a.1 a.2.1) (G.os (G.optO G.l1)) :=
  cal_mk (N := N_likeness) (ps := ["one", "other"]) D S_likeness rfl (fun _ _ _ _ _ _ us hl => match us, hl with | [_, _], _ => rfl) fun a f cdv A' outer s H E hr => by
    obtain ⟨one, other, _⟩ := a
    have S := S_likeness
    have tk := takes_of (X := cxOf (L2.CX P w) P w K mg base N_likeness "likeness" (defScope s_likeness) f cdv A' outer s H E) (E := E) rfl rfl rfl rfl
    refine' ST.slots (ss' := [G.fr one, G.fr other]) (ST.cast ?h ?q) rfl
    (case h => exact (st_guard (xt_w (xw_or (t_cmp op_gt b_gt (nomark _) (xi_p1 (xi_fr 0)) xi_int) (xw_or1 (t_cmp op_gt b_gt (nomark _) (xi_p1 (xi_fr 1)) xi_int)))) (st_raise x_TooMany tk) (st_guard (xt_w (xw_or (t_cmp op_ne (b_neS (α := Int) (β := Int)) (nomark _) (xi_p1 (xi_fr 0)) (xi_p1 (xi_fr 1))) (xw_or1 (t_cmp op_ne (b_neS (α := Int) (β := Int)) (nomark _) (xi_bf call_len c_lenT b_len PySem.boot_len (xa_cons (xi_p2 (xi_fr 0)) xa_nil)) (xi_bf call_len c_lenT b_len PySem.boot_len (xa_cons (xi_p2 (xi_fr 1)) xa_nil)))))) (st_ret (xk_noneO (α := (List Int)) (d := G.l1))) (st_ret (xk_calO c_first_order hr tk (xao_cons (xk_imm (xi_fr 0)) (xao_cons (xk_imm (xi_fr 1)) (xao_cons (xk_lst (xhk_nil (α := Int))) xao_nil))))))))
    (case q => first | (unfold m_likeness; simp only [Res.okb, Res.bind_assoc]; done) | rfl)
/-- _law_cell_at -/
def m_l_cell_at (l_script : G.Scr) (l_k : Int) : Res Int :=
  (if (decide (l_k < (l_script.ns.length : Int))) then (idx l_script.ns l_k) else (Res.ok (0 : Int)))
abbrev s__law_cell_at : Stmt := topS 10
abbrev N__law_cell_at : List Str := ["_law_script", "_law_k"]
theorem S__law_cell_at : FnScope N__law_cell_at ["_law_script", "_law_k"] (defScope s__law_cell_at) := ⟨rfl, rfl, rfl, by decide +kernel, rfl, by decide +kernel, by decide +kernel⟩
set_option maxHeartbeats 4000000 in
theorem cal__law_cell_at {P : Program} {w : World} {K : Frag} {mg : PySem.Str → Option Value} {base : Heap} (D : IsDef K mg "_law_cell_at" s__law_cell_at) (b_len : mg "len" = none) :
    Cal P w K mg base 1 "_law_cell_at" (fun a : G.Scr × Int × Unit => a) (fun a : G.Scr × Int × Unit => m_l_cell_at a.1 a.2.1) fr :=
  cal_mk (N := N__law_cell_at) (ps := ["_law_script", "_law_k"]) D S__law_cell_at rfl (fun _ _ _ _ _ _ us hl => match us, hl with | [_, _], _ => rfl) fun a f cdv A' outer s H E hr => by
    obtain ⟨l_script, l_k, _⟩ := a
    have S := S__law_cell_at
    have tk := takes_of (X := cxOf (L2.CX P w) P w K mg base N__law_cell_at "_law_cell_at" (defScope s__law_cell_at) f cdv A' outer s H E) (E := E) rfl rfl rfl rfl
    refine' ST.slots (ss' := [G.fr l_script, G.fr l_k]) (ST.cast ?h ?q) rfl
    (case h => exact (st_guard (t_cmp op_lt b_lt (nomark _) (xi_fr 1) (xi_bf call_len c_lenScr b_len PySem.boot_len (xa_cons (xi_fr 0) xa_nil))) (st_ret (xk_imm (xi_ixS (xi_fr 0) (xi_fr 1)))) (st_ret (xk_imm xi_int))))
    (case q => first | (unfold m_l_cell_at; simp only [Res.okb, Res.bind_assoc]; done) | rfl)
/-- _law_numbers -/
def m_l_numbers (l_cell : Int) (l_sizes : (List Int)) : Res (List Int) :=
  (Res.bind (Res.ok (max l_cell ((-(1 : Int)) - l_cell))) fun (l_number1 : Int) => (Res.bind (Res.ok l_number1) fun (l_left2 : Int) => (Res.bind (Res.ok ([] : (List Int))) fun (l_found3 : (List Int)) => (Res.bind (Res.bind (guardR (small62 (l_sizes.length : Int)) (Res.ok (rangeL 0 ((l_sizes.length : Int)).toNat))) fun v35 => (foldR (fun (s4 : (List Int) × Int) (a5 : Int) => (Res.bind (Res.bind (if (decide (l_number1 ≥ ((10 : Int) ^ (18 : Int).toNat))) then (Res.ok (decide (s4.2 > (0 : Int)))) else (Res.ok false)) fun v34 => (if v34 then (Res.bind (Res.bind (Res.bind (idx l_sizes a5) fun v8 => (modR s4.2 v8)) fun v9 => (appR s4.1 v9)) fun l_found7 => (Res.bind (Res.bind (idx l_sizes a5) fun v11 => (divR s4.2 v11)) fun (l_left10 : Int) => (Res.ok (l_found7, l_left10)))) else (Res.bind (Res.bind (Res.bind (Res.bind (Res.bind (Res.bind (Res.bind (mulR (101 : Int) a5) fun v18 => (mulR v18 a5)) fun v19 => (Res.ok (l_number1 + v19))) fun v20 => (Res.ok (v20 + a5))) fun v21 => (modR v21 (2147483647 : Int))) fun v22 => (mulR v22 (48271 : Int))) fun v23 => (modR v23 (2147483647 : Int))) fun (l_one12 : Int) => (Res.bind (Res.bind (Res.bind (Res.bind (mulR l_one12 l_one12) fun v27 => (modR v27 (2147483629 : Int))) fun v28 => (mulR v28 (48271 : Int))) fun v29 => (modR v29 (2147483647 : Int))) fun (l_one24 : Int) => (Res.bind (Res.bind (Res.bind (divR l_one24 (16 : Int)) fun v31 => (Res.bind (idx l_sizes a5) fun v32 => (modR v31 v32))) fun v33 => (appR s4.1 v33)) fun l_found30 => (Res.ok (l_found30, s4.2))))))) fun s6 => (Res.ok (s6.1, s6.2)))) (l_found3, l_left2) v35)) fun s4 => (Res.ok s4.1)))))
abbrev s__law_numbers : Stmt := topS 11
abbrev N__law_numbers : List Str := ["_law_cell", "_law_sizes", "_law_number", "_law_left", "_law_found", "_law_k", "_law_one"]
theorem S__law_numbers : FnScope N__law_numbers ["_law_cell", "_law_sizes"] (defScope s__law_numbers) := ⟨rfl, rfl, rfl, by decide +kernel, rfl, by decide +kernel, by decide +kernel⟩
set_option maxHeartbeats 4000000 in
theorem cal__law_numbers {P : Program} {w : World} {K : Frag} {mg : PySem.Str → Option Value} {base : Heap} (D : IsDef K mg "_law_numbers" s__law_numbers) (b_max : mg "max" = none) (b_len : mg "len" = none) (b_range : mg "range" = none) :
    Cal P w K mg base 1 "_law_numbers" (fun a : Int × (List Int) × Unit => a) (fun a : Int × (List Int) × Unit => m_l_numbers a.1 a.2.1) ow :=
  cal_mk (N := N__law_numbers) (ps := ["_law_cell", "_law_sizes"]) D S__law_numbers rfl (fun _ _ _ _ _ _ us hl => match us, hl with | [_, _], _ => rfl) fun a f cdv A' outer s H E hr => by
    obtain ⟨l_cell, l_sizes, _⟩ := a
    have S := S__law_numbers
    have tk := takes_of (X := cxOf (L2.CX P w) P w K mg base N__law_numbers "_law_numbers" (defScope s__law_numbers) f cdv A' outer s H E) (E := E) rfl rfl rfl rfl
    refine' ST.slots (ss' := [G.fr l_cell, G.fr l_sizes, G.any, G.any, G.any, G.any, G.any]) (ST.cast ?h ?q) rfl
    (case h => exact (st_seq (s1_set 2 (xk_imm (xi_bf (call_max2 rfl) c_max b_max (by decide +kernel) (xa_cons (xi_fr 0) (xa_cons (x_bin op_sub b_sub (xi_neg xi_int) (xi_fr 0)) xa_nil)))) S.nd) fun (l_number1 : Int) => (st_seq (s1_set 3 (xk_fr 2) S.nd) fun (l_left2 : Int) => (st_seq (s1_set 4 (xk_lst (xhk_nil (α := Int))) S.nd) fun (l_found3 : (List Int)) => (st_seq (s1_for (S := (List Int) × Int) (fun (s4 : (List Int) × Int) => [G.fr l_cell, G.fr l_sizes, G.fr l_number1, G.fr s4.2, G.ow s4.1, G.any, G.any]) (l_found3, l_left2) (it_range1 (xa_cons (xi_bf call_len c_lenL b_len PySem.boot_len (xa_cons (xi_fr 1) xa_nil)) xa_nil) b_range) (tg_name 5 S.nd) (fun s4 a5 => (sn_seq (s1_if (post := (fun (s6 : (List Int) × Int) => [G.fr l_cell, G.fr l_sizes, G.fr l_number1, G.fr s6.2, G.ow s6.1, G.fr a5, G.any])) (xt_w (xw_and (t_cmp op_ge b_ge (nomark _) (xi_fr 2) (xi_pow (by unfold CPow; decide))) (xw_and1 (t_cmp op_gt b_gt (nomark _) (xi_fr 3) xi_int)))) (sn_seq (s1_append 4 (xk_imm (x_bin op_mod b_mod (xi_fr 3) (xi_ixL (xi_fr 1) (xi_fr 5))))) fun l_found7 => (sn_seq (s1_set 3 (xk_imm (x_bin op_fdivW b_div (xi_fr 3) (xi_ixL (xi_fr 1) (xi_fr 5)))) S.nd) fun (l_left10 : Int) => (sn_nil (s := (l_found7, l_left10)) (wk_eq (wk_eq (wk_eq (wk_eq (wk_eq (wk_eq (wk_eq wk_nil)))))))))) (sn_seq (s1_set 6 (xk_imm (x_bin op_mod b_mod (x_bin op_mul b_mul (x_bin op_mod b_mod (x_bin op_add b_add (x_bin op_add b_add (xi_fr 2) (x_bin op_mul b_mul (x_bin op_mul b_mul xi_int (xi_fr 5)) (xi_fr 5))) (xi_fr 5)) xi_int) xi_int) xi_int)) S.nd) fun (l_one12 : Int) => (sn_seq (s1_set 6 (xk_imm (x_bin op_mod b_mod (x_bin op_mul b_mul (x_bin op_mod b_mod (x_bin op_mul b_mul (xi_fr 6) (xi_fr 6)) xi_int) xi_int) xi_int)) S.nd) fun (l_one24 : Int) => (sn_seq (s1_append 4 (xk_imm (x_bin op_mod b_mod (x_bin op_fdivW b_div (xi_fr 6) xi_int) (xi_ixL (xi_fr 1) (xi_fr 5))))) fun l_found30 => (sn_nil (s := (l_found30, s4.2)) (wk_eq (wk_eq (wk_eq (wk_eq (wk_eq (wk_eq (wk_any wk_nil)))))))))))) fun s6 => (sn_nil (s := (s6.1, s6.2)) (wk_eq (wk_eq (wk_eq (wk_eq (wk_eq (wk_any (wk_eq wk_nil)))))))))) (wk_eq (wk_eq (wk_eq (wk_eq (wk_eq (wk_eq (wk_eq wk_nil)))))))) fun s4 => (st_retOw 4))))))
    (case q => first | (unfold m_l_numbers; simp only [Res.okb, Res.bind_assoc]; done) | rfl)
/-- _law_row -/
def m_l_row (l_found : (Option (List Int))) (l_due : (List Int)) : Res Bool :=
  (Res.bind (if (!(Option.isSome l_found && true)) then (Res.ok true) else (Res.bind (Res.bind (unw l_found) fun v1 => (Res.ok (v1.length : Int))) fun v2 => (Res.ok (!ScaEq.eq v2 (l_due.length : Int))))) fun v16 => (if v16 then (Res.ok false) else (Res.tail (S := Unit) (R := Bool) (Res.bind (guardR (small62 (l_due.length : Int)) (Res.ok (rangeL 0 ((l_due.length : Int)).toNat))) fun v15 => (loopO (fun (s3 : Unit) (a4 : Int) => ((Res.next (S := Unit) (Res.bind (Res.bind (Res.bind (Res.bind (Res.bind (unw l_found) fun v5 => (idx v5 a4)) fun _ => (Res.ok true)) fun v6 => (Res.ok (!v6))) fun v12 => (if v12 then (Res.ok true) else (Res.bind (Res.bind (Res.bind (unw l_found) fun v7 => (idx v7 a4)) fun _ => (Res.ok false)) fun v11 => (if v11 then (Res.ok true) else (Res.bind (Res.bind (unw l_found) fun v8 => (idx v8 a4)) fun v9 => (Res.bind (idx l_due a4) fun v10 => (Res.ok (!ScaEq.eq v9 v10)))))))) fun v14 => (if v14 then (Res.ok (Out.rt false)) else (Res.ok (Out.nx ())))) fun s13 => (Res.ok (Out.nx ()))) : Res (Out (Unit) (Unit) Bool))) () v15)) fun s3 => (Res.ok true))))
abbrev s__law_row : Stmt := topS 12
abbrev N__law_row : List Str := ["_law_found", "_law_due", "_law_k"]
theorem S__law_row : FnScope N__law_row ["_law_found", "_law_due"] (defScope s__law_row) := ⟨rfl, rfl, rfl, by decide +kernel, rfl, by decide +kernel, by decide +kernel⟩
set_option maxHeartbeats 4000000 in
theorem cal__law_row {P : Program} {w : World} {K : Frag} {mg : PySem.Str → Option Value} {base : Heap} (D : IsDef K mg "_law_row" s__law_row) (b_isinstance : mg "isinstance" = none) (b_list : mg "list" = none) (b_len : mg "len" = none) (b_range : mg "range" = none) (b_int : mg "int" = none) (b_bool : mg "bool" = none) :
    Cal P w K mg base 1 "_law_row" (fun a : (Option (List Int)) × (List Int) × Unit => a) (fun a : (Option (List Int)) × (List Int) × Unit => m_l_row a.1 a.2.1) fr :=
  cal_mk (N := N__law_row) (ps := ["_law_found", "_law_due"]) D S__law_row rfl (fun _ _ _ _ _ _ us hl => match us, hl with | [_, _], _ => rfl) fun a f cdv A' outer s H E hr => by
    obtain ⟨l_found, l_due, _⟩ := a
    have S := S__law_row
    have tk := takes_of (X := cxOf (L2.CX P w) P w K mg base N__law_row "_law_row" (defScope s__law_row) f cdv A' outer s H E) (E := E) rfl rfl rfl rfl
    refine' ST.slots (ss' := [G.fr l_found, G.fr l_due, G.any]) (ST.cast ?h ?q) rfl
    (case h => exact (st_guard (xt_w (xw_or (xt_not (xt_val (xi_isO (α := (List Int)) (TT := "list") (r := true) (xi_fr 0) (pe_ty b_list (by decide +kernel)) (by decide +kernel) (by decide +kernel) b_isinstance))) (xw_or1 (t_cmp op_ne (b_neS (α := Int) (β := Int)) (nomark _) (xi_bf call_len c_lenL b_len PySem.boot_len (xa_cons (xi_unw (xi_fr 0)) xa_nil)) (xi_bf call_len c_lenL b_len PySem.boot_len (xa_cons (xi_fr 1) xa_nil)))))) (st_ret (xk_imm xi_bl)) (st_b1 (S := Unit) (R := Bool) (pl := fun x => nomatch x) (b1_for (S := Unit) (R := Bool) (fun (s3 : Unit) => [G.fr l_found, G.fr l_due, G.any]) () (it_range1 (xa_cons (xi_bf call_len c_lenL b_len PySem.boot_len (xa_cons (xi_fr 1) xa_nil)) xa_nil) b_range) (tg_name 2 S.nd) (fun s3 a4 => (sb_b1 (S := Unit) (b1_if (post := (fun (s13 : Unit) => [G.fr l_found, G.fr l_due, G.fr a4])) (xt_w (xw_or (xt_not (xt_val (xi_isi (α := Int) (TT := "int") (r := true) (xi_ixL (xi_unw (xi_fr 0)) (xi_fr 2)) (pe_ty b_int (by decide +kernel)) (by decide +kernel) b_isinstance))) (xw_or (xt_val (xi_isi (α := Int) (TT := "bool") (r := false) (xi_ixL (xi_unw (xi_fr 0)) (xi_fr 2)) (pe_ty b_bool (by decide +kernel)) (by decide +kernel) b_isinstance)) (xw_or1 (t_cmp op_ne (b_neS (α := Int) (β := Int)) (nomark _) (xi_ixL (xi_unw (xi_fr 0)) (xi_fr 2)) (xi_ixL (xi_fr 1) (xi_fr 2))))))) (sb_ret (xk_imm xi_bl)) (sb_nil (s := ()) (wk_eq (wk_eq (wk_eq wk_nil))))) fun s13 => (sb_nil (s := ()) (wk_eq (wk_eq (wk_any wk_nil)))))) (wk_eq (wk_eq (wk_eq wk_nil)))) fun s3 => (st_ret (xk_imm xi_bl)))))
    (case q => first | (unfold m_l_row; simp only [Res.okb, Res.bind_assoc]; done) | rfl)
/-- _law_ties -/
def m_l_ties (l_many : Int) (l_cells : (List Int)) (l_names : (List Int)) : Res (List (Int × Int)) :=
  (Res.bind (Res.ok ([] : (List (Int × Int)))) fun (l_ties_here1 : (List (Int × Int))) => (Res.bind (foldR (fun (s2 : (List (Int × Int))) (a3 : Int) => (Res.bind (m_l_numbers a3 (l_many :: (l_many :: []))) fun (l_spots4 : (List Int)) => (Res.bind (Res.bind (Res.bind (Res.bind (Res.bind (idx l_spots4 (0 : Int)) fun v14 => (idx l_names v14)) fun v16 => (Res.bind (Res.bind (idx l_spots4 (1 : Int)) fun v15 => (idx l_names v15)) fun v17 => (Res.ok (min v16 v17)))) fun v23 => (Res.bind (Res.bind (Res.bind (Res.bind (idx l_spots4 (0 : Int)) fun v18 => (idx l_names v18)) fun v20 => (Res.bind (Res.bind (idx l_spots4 (1 : Int)) fun v19 => (idx l_names v19)) fun v21 => (Res.ok (max v20 v21)))) fun v22 => (Res.ok (v22, ()))) fun v24 => (Res.ok (v23, v24)))) fun v25 => (Res.ok (v25.1, v25.2.1))) fun (l_tie5 : (Int × Int)) => (Res.bind (Res.bind (Res.bind (Res.bind (idx l_spots4 (0 : Int)) fun v26 => (Res.bind (idx l_spots4 (1 : Int)) fun v27 => (Res.ok (!ScaEq.eq v26 v27)))) fun v28 => (if v28 then (ninD l_tie5 s2) else (Res.ok false))) fun v31 => (if v31 then (Res.bind (appR s2 l_tie5) fun l_ties_here30 => (Res.ok l_ties_here30)) else (Res.ok s2))) fun s29 => (Res.ok s29))))) l_ties_here1 l_cells) fun s2 => (Res.ok s2)))
abbrev s__law_ties : Stmt := topS 13
abbrev N__law_ties : List Str := ["_law_many", "_law_cells", "_law_names", "_law_ties_here", "_law_cell", "_law_spots", "_law_tie"]
theorem S__law_ties : FnScope N__law_ties ["_law_many", "_law_cells", "_law_names"] (defScope s__law_ties) := ⟨rfl, rfl, rfl, by decide +kernel, rfl, by decide +kernel, by decide +kernel⟩
set_option maxHeartbeats 4000000 in
theorem cal__law_ties {P : Program} {w : World} {K : Frag} {mg : PySem.Str → Option Value} {base : Heap} (D : IsDef K mg "_law_ties" s__law_ties) (c__law_numbers : Cal P w K mg base 1 "_law_numbers" (fun a : Int × (List Int) × Unit => a) (fun a : Int × (List Int) × Unit => m_l_numbers a.1 a.2.1) ow) (b_min : mg "min" = none) (b_max : mg "max" = none) :
    Cal P w K mg base 2 "_law_ties" (fun a : Int × (List Int) × (List Int) × Unit => a) (fun a : Int × (List Int) × (List Int) × Unit => m_l_ties a.1 a.2.1 a.2.2.1) ow :=
  cal_mk (N := N__law_ties) (ps := ["_law_many", "_law_cells", "_law_names"]) D S__law_ties rfl (fun _ _ _ _ _ _ us hl => match us, hl with | [_, _, _], _ => rfl) fun a f cdv A' outer s H E hr => by
    obtain ⟨l_many, l_cells, l_names, _⟩ := a
    have S := S__law_ties
    have tk := takes_of (X := cxOf (L2.CX P w) P w K mg base N__law_ties "_law_ties" (defScope s__law_ties) f cdv A' outer s H E) (E := E) rfl rfl rfl rfl
    refine' ST.slots (ss' := [G.fr l_many, G.fr l_cells, G.fr l_names, G.any, G.any, G.any, G.any]) (ST.cast ?h ?q) rfl
    (case h => exact (st_seq (s1_set 3 (xk_lst (xhk_nil (α := (Int × Int)))) S.nd) fun (l_ties_here1 : (List (Int × Int))) => (st_seq (s1_for (S := (List (Int × Int))) (fun (s2 : (List (Int × Int))) => [G.fr l_many, G.fr l_cells, G.fr l_names, G.ow s2, G.any, G.any, G.any]) l_ties_here1 (it_list (xk_fr 1)) (tg_name 4 S.nd) (fun s2 a3 => (sn_seq (s1_set 5 (xk_free (xk_cal c__law_numbers hr tk (xa_cons (xi_fr 4) (xa_cons (xi_of (xk_lst (xak_imm (xh_cons (xi_fr 0) (xh_cons (xi_fr 0) (xh_nil)))))) xa_nil)))) S.nd) fun (l_spots4 : (List Int)) => (sn_seq (s1_set 6 (xk_imm (xi_pair (xa_cons (xi_bf (call_min2 rfl) c_min b_min (by decide +kernel) (xa_cons (xi_ixL (xi_fr 2) (xi_ixL (xi_fr 5) xi_int)) (xa_cons (xi_ixL (xi_fr 2) (xi_ixL (xi_fr 5) xi_int)) xa_nil))) (xa_cons (xi_bf (call_max2 rfl) c_max b_max (by decide +kernel) (xa_cons (xi_ixL (xi_fr 2) (xi_ixL (xi_fr 5) xi_int)) (xa_cons (xi_ixL (xi_fr 2) (xi_ixL (xi_fr 5) xi_int)) xa_nil))) xa_nil)))) S.nd) fun (l_tie5 : (Int × Int)) => (sn_seq (s1_if (post := (fun (s29 : (List (Int × Int))) => [G.fr l_many, G.fr l_cells, G.fr l_names, G.ow s29, G.fr a3, G.fr l_spots4, G.fr l_tie5])) (xt_w (xw_and (t_cmp op_ne (b_neS (α := Int) (β := Int)) (nomark _) (xi_ixL (xi_fr 5) xi_int) (xi_ixL (xi_fr 5) xi_int)) (xw_and1 (t_cmp (op_notInD (hu65 hr)) (b_ninD (α := (Int × Int))) (by with_unfolding_all rfl) (xi_fr 6) (xi_ow 3))))) (sn_seq (s1_append 3 (xk_fr 6)) fun l_ties_here30 => (sn_nil (s := l_ties_here30) (wk_eq (wk_eq (wk_eq (wk_eq (wk_eq (wk_eq (wk_eq wk_nil))))))))) (sn_nil (s := s2) (wk_eq (wk_eq (wk_eq (wk_eq (wk_eq (wk_eq (wk_eq wk_nil))))))))) fun s29 => (sn_nil (s := s29) (wk_eq (wk_eq (wk_eq (wk_eq (wk_any (wk_any (wk_any wk_nil)))))))))))) (wk_eq (wk_eq (wk_eq (wk_eq (wk_eq (wk_eq (wk_eq wk_nil)))))))) fun s2 => (st_retOw 3))))
    (case q => first | (unfold m_l_ties; simp only [Res.okb, Res.bind_assoc]; done) | rfl)
/-- _law_order -/
def m_l_order (l_digits : (List Int)) : Res (List Int) :=
  (Res.bind (Res.ok ([] : (List Int))) fun (l_found1 : (List Int)) => (Res.bind (Res.bind (guardR (small62 (l_digits.length : Int)) (Res.ok (rangeL 0 ((l_digits.length : Int)).toNat))) fun v7 => (foldR (fun (s2 : (List Int)) (a3 : Int) => (Res.bind (Res.bind (Res.bind (idx l_digits a3) fun v5 => (modR v5 (a3 + (1 : Int)))) fun v6 => (insR s2 v6 a3)) fun l_found4 => (Res.ok l_found4))) l_found1 v7)) fun s2 => (Res.ok s2)))
abbrev s__law_order : Stmt := topS 14
abbrev N__law_order : List Str := ["_law_digits", "_law_found", "_law_k"]
theorem S__law_order : FnScope N__law_order ["_law_digits"] (defScope s__law_order) := ⟨rfl, rfl, rfl, by decide +kernel, rfl, by decide +kernel, by decide +kernel⟩
set_option maxHeartbeats 4000000 in
theorem cal__law_order {P : Program} {w : World} {K : Frag} {mg : PySem.Str → Option Value} {base : Heap} (D : IsDef K mg "_law_order" s__law_order) (b_len : mg "len" = none) (b_range : mg "range" = none) :
    Cal P w K mg base 1 "_law_order" (fun a : (List Int) × Unit => a) (fun a : (List Int) × Unit => m_l_order a.1) ow :=
  cal_mk (N := N__law_order) (ps := ["_law_digits"]) D S__law_order rfl (fun _ _ _ _ _ _ us hl => match us, hl with | [_], _ => rfl) fun a f cdv A' outer s H E hr => by
    obtain ⟨l_digits, _⟩ := a
    have S := S__law_order
    have tk := takes_of (X := cxOf (L2.CX P w) P w K mg base N__law_order "_law_order" (defScope s__law_order) f cdv A' outer s H E) (E := E) rfl rfl rfl rfl
    refine' ST.slots (ss' := [G.fr l_digits, G.any, G.any]) (ST.cast ?h ?q) rfl
    (case h => exact (st_seq (s1_set 1 (xk_lst (xhk_nil (α := Int))) S.nd) fun (l_found1 : (List Int)) => (st_seq (s1_for (S := (List Int)) (fun (s2 : (List Int)) => [G.fr l_digits, G.ow s2, G.any]) l_found1 (it_range1 (xa_cons (xi_bf call_len c_lenL b_len PySem.boot_len (xa_cons (xi_fr 0) xa_nil)) xa_nil) b_range) (tg_name 2 S.nd) (fun s2 a3 => (sn_seq (s1_insert 1 (x_bin op_mod b_mod (xi_ixL (xi_fr 0) (xi_fr 2)) (x_bin op_add b_add (xi_fr 2) xi_int)) (xk_imm (xi_fr 2))) fun l_found4 => (sn_nil (s := l_found4) (wk_eq (wk_eq (wk_any wk_nil)))))) (wk_eq (wk_eq (wk_eq wk_nil)))) fun s2 => (st_retOw 1))))
    (case q => first | (unfold m_l_order; simp only [Res.okb, Res.bind_assoc]; done) | rfl)
/-- _law_called_web -/
def m_l_called_web (l_web : (Int × (G.Tup (Int × Int)))) (l_order_here : (List Int)) : Res (Int × (G.Tup (Int × Int))) :=
  (Res.bind (Res.ok ([] : (List (Int × Int)))) fun (l_ties_here1 : (List (Int × Int))) => (Res.bind (foldR (fun (s2 : (List (Int × Int))) (a3 : (Int × Int)) => (Res.bind (Res.bind (Res.bind (Res.bind (Res.bind (idx l_order_here a3.1) fun v9 => (Res.bind (idx l_order_here a3.2) fun v10 => (Res.ok (min v9 v10)))) fun v14 => (Res.bind (Res.bind (Res.bind (idx l_order_here a3.1) fun v11 => (Res.bind (idx l_order_here a3.2) fun v12 => (Res.ok (max v11 v12)))) fun v13 => (Res.ok (v13, ()))) fun v15 => (Res.ok (v14, v15)))) fun v16 => (Res.ok (v16.1, v16.2.1))) fun v17 => (appR s2 v17)) fun l_ties_here4 => (Res.ok l_ties_here4))) l_ties_here1 (l_web.2).l) fun s2 => (Res.ok ((l_web.1), (⟨(sortP s2)⟩ : (G.Tup (Int × Int)))))))
abbrev s__law_called_web : Stmt := topS 15
abbrev N__law_called_web : List Str := ["_law_web", "_law_order_here", "_law_ties_here", "_law_one", "_law_other_here"]
theorem S__law_called_web : FnScope N__law_called_web ["_law_web", "_law_order_here"] (defScope s__law_called_web) := ⟨rfl, rfl, rfl, by decide +kernel, rfl, by decide +kernel, by decide +kernel⟩
set_option maxHeartbeats 4000000 in
theorem cal__law_called_web {P : Program} {w : World} {K : Frag} {mg : PySem.Str → Option Value} {base : Heap} (D : IsDef K mg "_law_called_web" s__law_called_web) (b_min : mg "min" = none) (b_max : mg "max" = none) (b_sorted : mg "sorted" = none) (b_tuple : mg "tuple" = none) :
    Cal P w K mg base 1 "_law_called_web" (fun a : (Int × (G.Tup (Int × Int))) × (List Int) × Unit => a) (fun a : (Int × (G.Tup (Int × Int))) × (List Int) × Unit => m_l_called_web a.1 a.2.1) fr :=
  cal_mk (N := N__law_called_web) (ps := ["_law_web", "_law_order_here"]) D S__law_called_web rfl (fun _ _ _ _ _ _ us hl => match us, hl with | [_, _], _ => rfl) fun a f cdv A' outer s H E hr => by
    obtain ⟨l_web, l_order_here, _⟩ := a
    have S := S__law_called_web
    have tk := takes_of (X := cxOf (L2.CX P w) P w K mg base N__law_called_web "_law_called_web" (defScope s__law_called_web) f cdv A' outer s H E) (E := E) rfl rfl rfl rfl
    refine' ST.slots (ss' := [G.fr l_web, G.fr l_order_here, G.any, G.any, G.any]) (ST.cast ?h ?q) rfl
    (case h => exact (st_seq (s1_set 2 (xk_lst (xhk_nil (α := (Int × Int)))) S.nd) fun (l_ties_here1 : (List (Int × Int))) => (st_seq (s1_for (S := (List (Int × Int))) (fun (s2 : (List (Int × Int))) => [G.fr l_web, G.fr l_order_here, G.ow s2, G.any, G.any]) l_ties_here1 (it_tup (xk_imm (xi_p2 (xi_fr 0)))) (tg_two (tg_name 3 S.nd) (tg_name 4 S.nd)) (fun s2 a3 => (sn_seq (s1_append 2 (xk_imm (xi_pair (xa_cons (xi_bf (call_min2 rfl) c_min b_min (by decide +kernel) (xa_cons (xi_ixL (xi_fr 1) (xi_fr 3)) (xa_cons (xi_ixL (xi_fr 1) (xi_fr 4)) xa_nil))) (xa_cons (xi_bf (call_max2 rfl) c_max b_max (by decide +kernel) (xa_cons (xi_ixL (xi_fr 1) (xi_fr 3)) (xa_cons (xi_ixL (xi_fr 1) (xi_fr 4)) xa_nil))) xa_nil))))) fun l_ties_here4 => (sn_nil (s := l_ties_here4) (wk_eq (wk_eq (wk_eq (wk_any (wk_any wk_nil)))))))) (wk_eq (wk_eq (wk_eq (wk_eq (wk_eq wk_nil)))))) fun s2 => (st_ret (xk_imm (xi_pair (xa_cons (xi_p1 (xi_fr 0)) (xa_cons (xi_bt call_tuple_of c_tuple b_tuple (by decide +kernel) (xa_cons (xi_of (xk_sortedP (xa_cons (xi_ow 2) xa_nil) b_sorted)) xa_nil)) xa_nil))))))))
    (case q => first | (unfold m_l_called_web; simp only [Res.okb, Res.bind_assoc]; done) | rfl)
/-- _law_orders -/
def m_l_orders (l_many : Int) : Res (List (List Int)) :=
  (Res.bind (Res.ok (([] : (List Int)) :: [])) fun (l_rows1 : (List (List Int))) => (Res.bind (Res.bind (guardR (small62 l_many) (Res.ok (rangeL 0 (l_many).toNat))) fun v12 => (foldR (fun (s2 : (List (List Int))) (a3 : Int) => (Res.bind (Res.ok ([] : (List (List Int)))) fun (l_longer4 : (List (List Int))) => (Res.bind (foldR (fun (s5 : (List (List Int))) (a6 : (List Int)) => (Res.bind (Res.bind (Res.bind (guardR (small62 l_many) (Res.ok (rangeL 0 (l_many).toNat))) fun v9 => (lcT (fun a8 => (Res.ok (!decide (a8 ∈ a6)))) (fun a8 => (catR a6 (a8 :: []))) v9)) fun v10 => (extR s5 v10)) fun l_longer7 => (Res.ok l_longer7))) l_longer4 s2) fun s5 => (Res.bind (Res.ok s5) fun (l_rows11 : (List (List Int))) => (Res.ok l_rows11))))) l_rows1 v12)) fun s2 => (Res.ok s2)))
abbrev s__law_orders : Stmt := topS 16
abbrev N__law_orders : List Str := ["_law_many", "_law_rows", "_law_k", "_law_longer", "_law_row_here", "_law_spot"]
theorem S__law_orders : FnScope N__law_orders ["_law_many"] (defScope s__law_orders) := ⟨rfl, rfl, rfl, by decide +kernel, rfl, by decide +kernel, by decide +kernel⟩
set_option maxHeartbeats 4000000 in
theorem cal__law_orders {P : Program} {w : World} {K : Frag} {mg : PySem.Str → Option Value} {base : Heap} (D : IsDef K mg "_law_orders" s__law_orders) (b_range : mg "range" = none) :
    Cal P w K mg base 1 "_law_orders" (fun a : Int × Unit => a) (fun a : Int × Unit => m_l_orders a.1) fr :=
  cal_mk (N := N__law_orders) (ps := ["_law_many"]) D S__law_orders rfl (fun _ _ _ _ _ _ us hl => match us, hl with | [_], _ => rfl) fun a f cdv A' outer s H E hr => by
    obtain ⟨l_many, _⟩ := a
    have S := S__law_orders
    have tk := takes_of (X := cxOf (L2.CX P w) P w K mg base N__law_orders "_law_orders" (defScope s__law_orders) f cdv A' outer s H E) (E := E) rfl rfl rfl rfl
    refine' ST.slots (ss' := [G.fr l_many, G.any, G.any, G.any, G.any, G.any]) (ST.cast ?h ?q) rfl
    (case h => exact (st_seq (s1_set 1 (xk_free (xk_lst (xhk_cons (xk_free (xk_lst (xhk_nil (α := Int)))) (xhk_nil)))) S.nd) fun (l_rows1 : (List (List Int))) => (st_seq (s1_for (S := (List (List Int))) (fun (s2 : (List (List Int))) => [G.fr l_many, G.fr s2, G.any, G.any, G.any, G.any]) l_rows1 (it_range1 (xa_cons (xi_fr 0) xa_nil) b_range) (tg_name 2 S.nd) (fun s2 a3 => (sn_seq (s1_set 3 (xk_lst (xhk_nil (α := (List Int)))) S.nd) fun (l_longer4 : (List (List Int))) => (sn_seq (s1_for (S := (List (List Int))) (fun (s5 : (List (List Int))) => [G.fr l_many, G.fr s2, G.fr a3, G.ow s5, G.any, G.any]) l_longer4 (it_list (xk_fr 1)) (tg_name 4 S.nd) (fun s5 a6 => (sn_seq (s1_extend 3 (xk_free (xk_lcIf (own := [("_law_spot", 5)]) (it_range1 (xa_cons (xi_fr 0) xa_nil) b_range) (tc_name 5 S.nd) (fun a8 _ _ _ _ _ => (t_cmp op_notIn_seq (b_ninL (α := Int)) (by with_unfolding_all rfl) (xi_fr 5) (xi_fr 4))) (fun a8 _ _ _ _ _ => (xk_free (xk_cat (xi_fr 4) (xi_of (xk_lst (xak_imm (xh_cons (xi_fr 5) (xh_nil)))))))) S.nd (blkOk_by (N := N__law_orders) (sc := defScope s__law_orders) (by decide +kernel))))) fun l_longer7 => (sn_nil (s := l_longer7) (wk_eq (wk_eq (wk_eq (wk_eq (wk_any (wk_eq wk_nil))))))))) (wk_eq (wk_eq (wk_eq (wk_eq (wk_eq (wk_eq wk_nil))))))) fun s5 => (sn_froz 3 (sn_seq (s1_set 1 (xk_fr 3) S.nd) fun (l_rows11 : (List (List Int))) => (sn_nil (s := l_rows11) (wk_eq (wk_eq (wk_any (wk_any (wk_eq (wk_eq wk_nil)))))))))))) (wk_eq (wk_eq (wk_eq (wk_eq (wk_eq (wk_eq wk_nil))))))) fun s2 => (st_ret (xk_fr 1)))))
    (case q => first | (unfold m_l_orders; simp only [Res.okb, Res.bind_assoc]; done) | rfl)
/-- _law_right -/
def m_l_right (l_one : (Int × (G.Tup (Int × Int)))) (l_other_here : (Int × (G.Tup (Int × Int)))) : Res Bool :=
  (Res.bind (m_likeness l_one l_other_here) fun (l_found1 : (Option (List Int))) => (Res.tail (S := (Option (List Int))) (R := Bool) (if (ScaEq.eq (l_one.1) (l_other_here.1)) then (Res.next (S := (Option (List Int))) (Res.bind (m_l_orders (l_one.1)) fun v16 => (loopO (fun (s3 : (Option (List Int))) (a4 : (List Int)) => ((Res.next (S := (Option (List Int))) (Res.bind (Res.bind (m_l_called_web l_one a4) fun v5 => (eqD v5 l_other_here)) fun v15 => (if v15 then (Res.next (S := Unit) (Res.bind (Res.bind (m_l_row s3 a4) fun v7 => (Res.ok (!v7))) fun v9 => (if v9 then (Res.ok (Out.rt false)) else (Res.ok (Out.nx ())))) fun s8 => (Res.bind (unw s3) fun (l_found10 : (List Int)) => (Res.bind (Res.ok ([] : (List Int))) fun l_found11 => (Res.bind (Res.bind (Res.bind (m_likeness l_one l_other_here) fun v12 => (Res.ok (v12, (a4, ())))) fun a13 => (m_l_row a13.1 a13.2.1)) fun v14 => (Res.ok (Out.rt v14)))))) else (Res.ok (Out.nx s3)))) fun s6 => (Res.ok (Out.nx s6))) : Res (Out ((Option (List Int))) ((Option (List Int))) Bool))) l_found1 v16)) fun s3 => (Res.ok (Out.nx s3))) else (Res.ok (Out.nx l_found1))) fun s2 => (Res.ok (Option.isNone s2))))
abbrev s__law_right : Stmt := topS 17
abbrev N__law_right : List Str := ["_law_one", "_law_other_here", "_law_found", "_law_order_here"]
theorem S__law_right : FnScope N__law_right ["_law_one", "_law_other_here"] (defScope s__law_right) := ⟨rfl, rfl, rfl, by decide +kernel, rfl, by decide +kernel, by decide +kernel⟩
set_option maxHeartbeats 4000000 in
theorem cal__law_right {P : Program} {w : World} {K : Frag} {mg : PySem.Str → Option Value} {base : Heap} (D : IsDef K mg "_law_right" s__law_right) (c_likeness : Cal P w K mg base 11 "likeness" (fun a : (Int × (G.Tup (Int × Int))) × (Int × (G.Tup (Int × Int))) × Unit => a) (fun a : (Int × (G.Tup (Int × Int))) × (Int × (G.Tup (Int × Int))) × Unit => m_likeness a.1 a.2.1) (G.os (G.optO G.l1))) (c__law_row : Cal P w K mg base 1 "_law_row" (fun a : (Option (List Int)) × (List Int) × Unit => a) (fun a : (Option (List Int)) × (List Int) × Unit => m_l_row a.1 a.2.1) fr) (c__law_called_web : Cal P w K mg base 1 "_law_called_web" (fun a : (Int × (G.Tup (Int × Int))) × (List Int) × Unit => a) (fun a : (Int × (G.Tup (Int × Int))) × (List Int) × Unit => m_l_called_web a.1 a.2.1) fr) (c__law_orders : Cal P w K mg base 1 "_law_orders" (fun a : Int × Unit => a) (fun a : Int × Unit => m_l_orders a.1) fr) :
    Cal P w K mg base 12 "_law_right" (fun a : (Int × (G.Tup (Int × Int))) × (Int × (G.Tup (Int × Int))) × Unit => a) (fun a : (Int × (G.Tup (Int × Int))) × (Int × (G.Tup (Int × Int))) × Unit => m_l_right a.1 a.2.1) fr :=
  cal_mk (N := N__law_right) (ps := ["_law_one", "_law_other_here"]) D S__law_right rfl (fun _ _ _ _ _ _ us hl => match us, hl with | [_, _], _ => rfl) fun a f cdv A' outer s H E hr => by
    obtain ⟨l_one, l_other_here, _⟩ := a
    have S := S__law_right
    have tk := takes_of (X := cxOf (L2.CX P w) P w K mg base N__law_right "_law_right" (defScope s__law_right) f cdv A' outer s H E) (E := E) rfl rfl rfl rfl
    refine' ST.slots (ss' := [G.fr l_one, G.fr l_other_here, G.any, G.any]) (ST.cast ?h ?q) rfl
    (case h => exact (st_seq (s1_set 2 (xk_cal c_likeness hr tk (xa_cons (xi_fr 0) (xa_cons (xi_fr 1) xa_nil))) S.nd) fun (l_found1 : (Option (List Int))) => (st_b1 (S := (Option (List Int))) (R := Bool) (pl := fun x => nomatch x) (b1_if (post := (fun (s2 : (Option (List Int))) => [G.fr l_one, G.fr l_other_here, G.os (G.optO G.l1) s2, G.any])) (t_cmp op_eq (b_eqS (α := Int) (β := Int)) (nomark _) (xi_p1 (xi_fr 0)) (xi_p1 (xi_fr 1))) (sb_b1 (S := (Option (List Int))) (b1_for (S := (Option (List Int))) (R := Bool) (fun (s3 : (Option (List Int))) => [G.fr l_one, G.fr l_other_here, G.os (G.optO G.l1) s3, G.any]) l_found1 (it_list (xk_calF c__law_orders hr tk (xak_cons (xk_imm (xi_p1 (xi_fr 0))) xak_nil))) (tg_name 3 S.nd) (fun s3 a4 => (sb_b1 (S := (Option (List Int))) (b1_if (post := (fun (s6 : (Option (List Int))) => [G.fr l_one, G.fr l_other_here, G.os (G.optO G.l1) s6, G.fr a4])) (t_cmp (op_eqD (hu64 hr)) (b_eqD (α := (Int × (G.Tup (Int × Int)))) (β := (Int × (G.Tup (Int × Int))))) (nomark _) (xi_cal c__law_called_web hr tk (xa_cons (xi_fr 0) (xa_cons (xi_fr 3) xa_nil))) (xi_fr 1)) (sb_b1 (S := Unit) (b1_if (post := (fun (s8 : Unit) => [G.fr l_one, G.fr l_other_here, G.os (G.optO G.l1) s3, G.fr a4])) (xt_not (xt_val (xi_cal c__law_row hr tk (xa_cons (xi_os 2) (xa_cons (xi_fr 3) xa_nil))))) (sb_ret (xk_imm xi_bl)) (sb_nil (s := ()) (wk_eq (wk_eq (wk_eq (wk_eq wk_nil)))))) fun s8 => (sb_unwO 2 fun l_found10 => (sb_slot 2 os_ow (sb_seq (s1_clear 2) fun l_found11 => (sb_ret (xk_imm (xi_cal c__law_row hr tk (xa_cons (xi_cal c_likeness hr tk (xa_cons (xi_fr 0) (xa_cons (xi_fr 1) xa_nil))) (xa_cons (xi_fr 3) xa_nil))))))))) (sb_nil (s := s3) (wk_eq (wk_eq (wk_eq (wk_eq wk_nil)))))) fun s6 => (sb_nil (s := s6) (wk_eq (wk_eq (wk_eq (wk_any wk_nil))))))) (wk_eq (wk_eq (wk_eq (wk_eq wk_nil))))) fun s3 => (sb_nil (s := s3) (wk_eq (wk_eq (wk_eq (wk_eq wk_nil)))))) (sb_nil (s := l_found1) (wk_eq (wk_eq (wk_eq (wk_eq wk_nil)))))) fun s2 => (st_ret (xk_imm (xi_isN (xi_os 2)))))))
    (case q => first | (unfold m_l_right; simp only [Res.okb, Res.bind_assoc]; done) | rfl)
/-- _law_refused -/
def m_l_refused (l_one : (Int × (G.Tup (Int × Int)))) (l_other_here : (Int × (G.Tup (Int × Int)))) : Res Bool :=
  (Res.bind (Res.ok (0 : Int)) fun (l_caught1 : Int) => (Res.tail (S := Int) (R := Bool) (catchR ((Res.bind (m_likeness l_one l_other_here) fun _ => (Res.ok (Out.nx l_caught1))) : Res (Out (Int) (Empty) Bool)) [(ct_tab_TooMany, fun (x : Exn) => (Res.bind (Res.ok (1 : Int)) fun (l_caught3 : Int) => (Res.ok (Out.nx l_caught3))))]) fun s2 => (Res.tail (S := Unit) (R := Bool) (catchR ((Res.bind (m_likeness l_one l_other_here) fun _ => (Res.ok (Out.nx ()))) : Res (Out (Unit) (Empty) Bool)) [(ct_tab_RingError, fun (x : Exn) => (Res.bind (if (ScaEq.eq s2 (1 : Int)) then (Res.bind (isE2 it_tab_ValueError x) fun v6 => (if v6 then (Res.bind (isE2 it_tab_TooWide x) fun v5 => (Res.ok (!v5))) else (Res.ok false))) else (Res.ok false)) fun v7 => (Res.ok (Out.rt v7))))]) fun s4 => (Res.ok false))))
abbrev s__law_refused : Stmt := topS 18
abbrev N__law_refused : List Str := ["_law_one", "_law_other_here", "_law_caught", "e"]
theorem S__law_refused : FnScope N__law_refused ["_law_one", "_law_other_here"] (defScope s__law_refused) := ⟨rfl, rfl, rfl, by decide +kernel, rfl, by decide +kernel, by decide +kernel⟩
set_option maxHeartbeats 4000000 in
theorem cal__law_refused {P : Program} {w : World} {K : Frag} {mg : PySem.Str → Option Value} {base : Heap} (D : IsDef K mg "_law_refused" s__law_refused) (c_likeness : Cal P w K mg base 11 "likeness" (fun a : (Int × (G.Tup (Int × Int))) × (Int × (G.Tup (Int × Int))) × Unit => a) (fun a : (Int × (G.Tup (Int × Int))) × (Int × (G.Tup (Int × Int))) × Unit => m_likeness a.1 a.2.1) (G.os (G.optO G.l1))) (b_isinstance : mg "isinstance" = none) (ct_TooMany : CTab K mg "TooMany" ct_tab_TooMany) (ct_RingError : CTab K mg "RingError" ct_tab_RingError) (it_ValueError : ITab K mg "ValueError" it_tab_ValueError) (it_TooWide : ITab K mg "TooWide" it_tab_TooWide) :
    Cal P w K mg base 12 "_law_refused" (fun a : (Int × (G.Tup (Int × Int))) × (Int × (G.Tup (Int × Int))) × Unit => a) (fun a : (Int × (G.Tup (Int × Int))) × (Int × (G.Tup (Int × Int))) × Unit => m_l_refused a.1 a.2.1) fr :=
  cal_mk (N := N__law_refused) (ps := ["_law_one", "_law_other_here"]) D S__law_refused rfl (fun _ _ _ _ _ _ us hl => match us, hl with | [_, _], _ => rfl) fun a f cdv A' outer s H E hr => by
    obtain ⟨l_one, l_other_here, _⟩ := a
    have S := S__law_refused
    have tk := takes_of (X := cxOf (L2.CX P w) P w K mg base N__law_refused "_law_refused" (defScope s__law_refused) f cdv A' outer s H E) (E := E) rfl rfl rfl rfl
    refine' ST.slots (ss' := [G.fr l_one, G.fr l_other_here, G.any, G.any]) (ST.cast ?h ?q) rfl
    (case h => exact (st_seq (s1_set 2 (xk_imm xi_int) S.nd) fun (l_caught1 : Int) => (st_b1 (S := Int) (R := Bool) (pl := fun x => nomatch x) (b1_try (post := (fun (s2 : Int) => [G.fr l_one, G.fr l_other_here, G.fr s2, G.any])) tk (fun W' pn xe tk => (eb_do (s0 := l_caught1) (xk_cal c_likeness hr tk (xa_cons (xi_fr 0) (xa_cons (xi_fr 1) xa_nil))) (wk_eq (wk_eq (wk_eq (wk_eq wk_nil)))))) (HX.cons ct_TooMany rfl (by decide) (fun x a oe pn => (have tk : ∀ {X : L2.Cx}, L2.Takes X G.wNo := takes_no; (sb_seq (s1_set 2 (xk_imm xi_int) S.nd) fun (l_caught3 : Int) => (sb_nil (s := l_caught3) (wk_eq (wk_eq (wk_eq (wk_eq wk_nil)))))))) HX.nil)) fun s2 => (st_b1 (S := Unit) (R := Bool) (pl := fun x => nomatch x) (b1_tryAs2 (post := (fun (s4 : Unit) => [G.fr l_one, G.fr l_other_here, G.fr s2, G.any])) 3 tk (fun W' pn xe tk => (eb_do (s0 := ()) (xk_cal c_likeness hr tk (xa_cons (xi_fr 0) (xa_cons (xi_fr 1) xa_nil))) (wk_eq (wk_eq (wk_eq (wk_eq wk_nil)))))) ct_RingError (fun x a oe cls d pn hz hfd hx hC => (have tk : ∀ {X : L2.Cx}, L2.Takes X G.wNo := takes_no; (sb_ret (xk_imm (xi_and (x_cmp op_eq (b_eqS (α := Int) (β := Int)) (nomark _) (xi_fr 2) xi_int) (xi_and (xi_isE2 3 hz hfd hx it_ValueError rfl (pv _) b_isinstance) (xi_one (xi_not (xi_isE2 3 hz hfd hx it_TooWide rfl (pv _) b_isinstance))))))))) (fun _ => rfl) (fun s => by first | exact rfl | exact (nomatch s)) (hN := S.nd)) fun s4 => (st_ret (xk_imm xi_bl))))))
    (case q => first | (unfold m_l_refused; simp only [Res.okb, Res.bind_assoc]; done) | rfl)
/-- _law_other -/
def m_l_other (l_web : (Int × (G.Tup (Int × Int)))) (l_digits : (List Int)) : Res (Int × (G.Tup (Int × Int))) :=
  (Res.bind (guardR (decide (l_digits.length = 4)) (Res.ok l_digits)) fun p1 => (Res.bind (Res.ok (l_web.2).l) fun (l_ties_here2 : (List (Int × Int))) => (Res.bind (Res.bind (Res.bind (modR (min (p1.tail.headD default) (p1.tail.tail.headD default)) (l_web.1)) fun v5 => (Res.bind (Res.bind (modR (max (p1.tail.headD default) (p1.tail.tail.headD default)) (l_web.1)) fun v4 => (Res.ok (v4, ()))) fun v6 => (Res.ok (v5, v6)))) fun v7 => (Res.ok (v7.1, v7.2.1))) fun (l_tie3 : (Int × Int)) => (Res.bind (Res.bind (if (ScaEq.eq (p1.headD default) (1 : Int)) then (Res.ok (decide ((l_tie3.1) < (l_tie3.2)))) else (Res.ok false)) fun v13 => (if v13 then (Res.bind (Res.bind (inD l_tie3 l_ties_here2) fun v12 => (if v12 then (Res.bind (remR l_ties_here2 l_tie3) fun l_ties_here10 => (Res.ok l_ties_here10)) else (Res.bind (appR l_ties_here2 l_tie3) fun l_ties_here11 => (Res.ok l_ties_here11)))) fun s9 => (Res.ok s9)) else (Res.ok l_ties_here2))) fun s8 => (Res.bind (Res.bind (if (ScaEq.eq (p1.headD default) (2 : Int)) then (neD s8 ([] : (List (Int × Int)))) else (Res.ok false)) fun v17 => (if v17 then (Res.bind (Res.bind (modR (p1.tail.headD default) (s8.length : Int)) fun v16 => (popR s8 v16)) fun l_ties_here15 => (Res.ok l_ties_here15)) else (Res.ok s8))) fun s14 => (Res.bind (if (ScaEq.eq (p1.headD default) (3 : Int)) then (Res.ok (decide ((l_web.1) < (6 : Int)))) else (Res.ok false)) fun v18 => (if v18 then (Res.ok (((l_web.1) + (1 : Int)), (l_web.2))) else (if (ScaEq.eq (p1.headD default) (4 : Int)) then (Res.ok (((7 : Int) + (p1.tail.tail.tail.headD default)), (l_web.2))) else (Res.ok ((l_web.1), (⟨(sortP s14)⟩ : (G.Tup (Int × Int)))))))))))))
abbrev s__law_other : Stmt := topS 19
abbrev N__law_other : List Str := ["_law_web", "_law_digits", "_law_kind", "_law_one", "_law_other_here", "_law_more", "_law_ties_here", "_law_tie"]
theorem S__law_other : FnScope N__law_other ["_law_web", "_law_digits"] (defScope s__law_other) := ⟨rfl, rfl, rfl, by decide +kernel, rfl, by decide +kernel, by decide +kernel⟩
set_option maxHeartbeats 4000000 in
theorem cal__law_other {P : Program} {w : World} {K : Frag} {mg : PySem.Str → Option Value} {base : Heap} (D : IsDef K mg "_law_other" s__law_other) (b_list : mg "list" = none) (b_min : mg "min" = none) (b_max : mg "max" = none) (b_len : mg "len" = none) (b_sorted : mg "sorted" = none) (b_tuple : mg "tuple" = none) :
    Cal P w K mg base 1 "_law_other" (fun a : (Int × (G.Tup (Int × Int))) × (List Int) × Unit => a) (fun a : (Int × (G.Tup (Int × Int))) × (List Int) × Unit => m_l_other a.1 a.2.1) fr :=
  cal_mk (N := N__law_other) (ps := ["_law_web", "_law_digits"]) D S__law_other rfl (fun _ _ _ _ _ _ us hl => match us, hl with | [_, _], _ => rfl) fun a f cdv A' outer s H E hr => by
    obtain ⟨l_web, l_digits, _⟩ := a
    have S := S__law_other
    have tk := takes_of (X := cxOf (L2.CX P w) P w K mg base N__law_other "_law_other" (defScope s__law_other) f cdv A' outer s H E) (E := E) rfl rfl rfl rfl
    refine' ST.slots (ss' := [G.fr l_web, G.fr l_digits, G.any, G.any, G.any, G.any, G.any, G.any]) (ST.cast ?h ?q) rfl
    (case h => exact (st_seq (s1_unl (xk_fr 1) (tl_cons (tg_name 2 S.nd) (tl_cons (tg_name 3 S.nd) (tl_cons (tg_name 4 S.nd) (tl_cons (tg_name 5 S.nd) tl_nil))))) fun p1 => (st_seq (s1_set 6 (xk_listT (xa_cons (xi_p2 (xi_fr 0)) xa_nil) b_list) S.nd) fun (l_ties_here2 : (List (Int × Int))) => (st_seq (s1_set 7 (xk_imm (xi_pair (xa_cons (x_bin op_mod b_mod (xi_bf (call_min2 rfl) c_min b_min (by decide +kernel) (xa_cons (xi_fr 3) (xa_cons (xi_fr 4) xa_nil))) (xi_p1 (xi_fr 0))) (xa_cons (x_bin op_mod b_mod (xi_bf (call_max2 rfl) c_max b_max (by decide +kernel) (xa_cons (xi_fr 3) (xa_cons (xi_fr 4) xa_nil))) (xi_p1 (xi_fr 0))) xa_nil)))) S.nd) fun (l_tie3 : (Int × Int)) => (st_seq (s1_if (post := (fun (s8 : (List (Int × Int))) => [G.fr l_web, G.fr l_digits, G.fr (p1.headD default), G.fr (p1.tail.headD default), G.fr (p1.tail.tail.headD default), G.fr (p1.tail.tail.tail.headD default), G.ow s8, G.fr l_tie3])) (xt_w (xw_and (t_cmp op_eq (b_eqS (α := Int) (β := Int)) (nomark _) (xi_fr 2) xi_int) (xw_and1 (t_cmp op_lt b_lt (nomark _) (xi_p1 (xi_fr 7)) (xi_p2 (xi_fr 7)))))) (sn_seq (s1_if (post := (fun (s9 : (List (Int × Int))) => [G.fr l_web, G.fr l_digits, G.fr (p1.headD default), G.fr (p1.tail.headD default), G.fr (p1.tail.tail.headD default), G.fr (p1.tail.tail.tail.headD default), G.ow s9, G.fr l_tie3])) (t_cmp (op_inD (hu65 hr)) (b_inD (α := (Int × Int))) (by with_unfolding_all rfl) (xi_fr 7) (xi_ow 6)) (sn_seq (s1_remove 6 (hu65 hr) (xi_fr 7)) fun l_ties_here10 => (sn_nil (s := l_ties_here10) (wk_eq (wk_eq (wk_eq (wk_eq (wk_eq (wk_eq (wk_eq (wk_eq wk_nil)))))))))) (sn_seq (s1_append 6 (xk_fr 7)) fun l_ties_here11 => (sn_nil (s := l_ties_here11) (wk_eq (wk_eq (wk_eq (wk_eq (wk_eq (wk_eq (wk_eq (wk_eq wk_nil))))))))))) fun s9 => (sn_nil (s := s9) (wk_eq (wk_eq (wk_eq (wk_eq (wk_eq (wk_eq (wk_eq (wk_eq wk_nil)))))))))) (sn_nil (s := l_ties_here2) (wk_eq (wk_eq (wk_eq (wk_eq (wk_eq (wk_eq (wk_eq (wk_eq wk_nil)))))))))) fun s8 => (st_seq (s1_if (post := (fun (s14 : (List (Int × Int))) => [G.fr l_web, G.fr l_digits, G.fr (p1.headD default), G.fr (p1.tail.headD default), G.fr (p1.tail.tail.headD default), G.fr (p1.tail.tail.tail.headD default), G.ow s14, G.fr l_tie3])) (xt_w (xw_and (t_cmp op_eq (b_eqS (α := Int) (β := Int)) (nomark _) (xi_fr 2) xi_int) (xw_and1 (t_cmp (op_neD (hu64 hr)) (b_neD (α := (List (Int × Int))) (β := (List (Int × Int)))) (nomark _) (xi_ow 6) (xi_of (xk_lst (xhk_nil (α := (Int × Int))))))))) (sn_seq (s1_popI 6 (x_bin op_mod b_mod (xi_fr 3) (xi_bf call_len c_lenL b_len PySem.boot_len (xa_cons (xi_ow 6) xa_nil)))) fun l_ties_here15 => (sn_nil (s := l_ties_here15) (wk_eq (wk_eq (wk_eq (wk_eq (wk_eq (wk_eq (wk_eq (wk_eq wk_nil)))))))))) (sn_nil (s := s8) (wk_eq (wk_eq (wk_eq (wk_eq (wk_eq (wk_eq (wk_eq (wk_eq wk_nil)))))))))) fun s14 => (st_guard (xt_w (xw_and (t_cmp op_eq (b_eqS (α := Int) (β := Int)) (nomark _) (xi_fr 2) xi_int) (xw_and1 (t_cmp op_lt b_lt (nomark _) (xi_p1 (xi_fr 0)) xi_int)))) (st_ret (xk_imm (xi_pair (xa_cons (x_bin op_add b_add (xi_p1 (xi_fr 0)) xi_int) (xa_cons (xi_p2 (xi_fr 0)) xa_nil))))) (st_guard (t_cmp op_eq (b_eqS (α := Int) (β := Int)) (nomark _) (xi_fr 2) xi_int) (st_ret (xk_imm (xi_pair (xa_cons (x_bin op_add b_add xi_int (xi_fr 5)) (xa_cons (xi_p2 (xi_fr 0)) xa_nil))))) (st_ret (xk_imm (xi_pair (xa_cons (xi_p1 (xi_fr 0)) (xa_cons (xi_bt call_tuple_of c_tuple b_tuple (by decide +kernel) (xa_cons (xi_of (xk_sortedP (xa_cons (xi_ow 6) xa_nil) b_sorted)) xa_nil)) xa_nil)))))))))))))
    (case q => first | (unfold m_l_other; simp only [Res.okb, Res.bind_assoc]; done) | rfl)
/-- law -/
def m_law (l_script : G.Scr) : Res Bool :=
  (Res.bind (Res.bind (Res.bind (m_l_cell_at l_script (0 : Int)) fun v2 => (Res.ok (v2, (((6 : Int) :: ((8 : Int) :: ((6 : Int) :: ((6 : Int) :: ((6 : Int) :: ((1 : Int) :: ((2 : Int) :: ((3 : Int) :: ((4 : Int) :: ((5 : Int) :: ((6 : Int) :: []))))))))))), ())))) fun a3 => (m_l_numbers a3.1 a3.2.1)) fun (l_digits1 : (List Int)) => (Res.bind (Res.bind (idx l_digits1 (0 : Int)) fun v5 => (Res.ok ((1 : Int) + v5))) fun (l_many4 : Int) => (Res.bind (Res.bind (Res.bind (Res.bind (Res.bind (Res.bind (Res.bind (Res.bind (Res.bind (Res.bind (guardR (small62 l_many4 && big (l_many4).toNat) (Res.ok (rangeL 0 (l_many4).toNat))) fun v7 => (Res.ok (v7, ()))) fun v8 => (Res.ok ((cut l_script.ns (some (1 : Int)) (some (63 : Int))), v8))) fun v9 => (Res.ok (l_many4, v9))) fun a10 => (m_l_ties a10.1 a10.2.1 a10.2.2.1)) fun v11 => (Res.ok (sortP v11))) fun v12 => (Res.ok (⟨v12⟩ : (G.Tup (Int × Int))))) fun v13 => (Res.ok (v13, ()))) fun v14 => (Res.ok (l_many4, v14))) fun v15 => (Res.ok (v15.1, v15.2.1))) fun (l_web6 : (Int × (G.Tup (Int × Int)))) => (Res.bind (m_l_order (cut l_digits1 (some (5 : Int)) (some ((5 : Int) + l_many4)))) fun (l_order_here16 : (List Int)) => (Res.bind (Res.bind (Res.bind (m_l_called_web l_web6 l_order_here16) fun v18 => (Res.ok (v18, ((cut l_digits1 (some (1 : Int)) (some (5 : Int))), ())))) fun a19 => (m_l_other a19.1 a19.2.1)) fun (l_other_here17 : (Int × (G.Tup (Int × Int)))) => (Res.bind (Res.bind (Res.bind (idx l_digits1 (1 : Int)) fun v20 => (Res.ok (ScaEq.eq v20 (5 : Int)))) fun v26 => (if v26 then (Res.bind (Res.bind (Res.bind (Res.bind (idx l_digits1 (4 : Int)) fun v23 => (Res.ok ((7 : Int) + v23))) fun v24 => (Res.ok (v24, ((l_web6.2), ())))) fun v25 => (Res.ok (v25.1, v25.2.1))) fun (l_web22 : (Int × (G.Tup (Int × Int)))) => (Res.ok l_web22)) else (Res.ok l_web6))) fun s21 => (Res.bind (Res.bind (Res.bind (idx l_digits1 (1 : Int)) fun v27 => (Res.ok (ScaEq.eq v27 (6 : Int)))) fun v35 => (if v35 then (Res.bind (Res.ok ((6 : Int), (⟨(((0 : Int), (1 : Int)) :: (((0 : Int), (5 : Int)) :: (((1 : Int), (2 : Int)) :: (((2 : Int), (3 : Int)) :: (((3 : Int), (4 : Int)) :: (((4 : Int), (5 : Int)) :: []))))))⟩ : (G.Tup (Int × Int))))) fun (l_web29 : (Int × (G.Tup (Int × Int)))) => (Res.bind (Res.ok ((6 : Int), (⟨(((0 : Int), (1 : Int)) :: (((0 : Int), (2 : Int)) :: (((1 : Int), (2 : Int)) :: (((3 : Int), (4 : Int)) :: (((3 : Int), (5 : Int)) :: (((4 : Int), (5 : Int)) :: []))))))⟩ : (G.Tup (Int × Int))))) fun (l_other_here30 : (Int × (G.Tup (Int × Int)))) => (Res.bind (Res.bind (Res.bind (Res.bind (m_l_order (cut l_digits1 (some (5 : Int)) none)) fun v32 => (Res.ok (v32, ()))) fun v33 => (Res.ok (l_other_here30, v33))) fun a34 => (m_l_called_web a34.1 a34.2.1)) fun (l_other_here31 : (Int × (G.Tup (Int × Int)))) => (Res.ok (l_web29, l_other_here31))))) else (Res.ok (s21, l_other_here17)))) fun s28 => (Res.bind (if (decide ((s28.1.1) > (6 : Int))) then (Res.ok true) else (Res.ok (decide ((s28.2.1) > (6 : Int))))) fun v47 => (if v47 then (Res.bind (Res.bind (Res.bind (Res.bind (idx l_digits1 (4 : Int)) fun v37 => (Res.ok ((7 : Int) + v37))) fun v38 => (Res.ok (v38, ((⟨[]⟩ : (G.Tup (Int × Int))), ())))) fun v39 => (Res.ok (v39.1, v39.2.1))) fun (l_great36 : (Int × (G.Tup (Int × Int)))) => (Res.bind (Res.bind (Res.bind (m_l_refused l_great36 l_great36) fun v40 => (Res.ok (!v40))) fun v42 => (if v42 then (Res.ok true) else (Res.bind (m_l_refused ((7 : Int), (⟨[]⟩ : (G.Tup (Int × Int)))) ((8 : Int), (⟨[]⟩ : (G.Tup (Int × Int))))) fun v41 => (Res.ok (!v41))))) fun v45 => (if v45 then (Res.ok false) else (Res.bind (m_l_refused s28.1 s28.2) fun v44 => (if v44 then (Res.bind (m_l_refused s28.2 s28.1) fun v43 => (if v43 then (m_l_right (l_many4, (⟨[]⟩ : (G.Tup (Int × Int)))) (l_many4, (⟨[]⟩ : (G.Tup (Int × Int))))) else (Res.ok false))) else (Res.ok false)))))) else (Res.bind (m_l_right s28.1 s28.2) fun v46 => (if v46 then (m_l_right s28.2 s28.1) else (Res.ok false))))))))))))
abbrev s_law : Stmt := topS 20
abbrev N_law : List Str := ["_law_script", "_law_digits", "_law_many", "_law_web", "_law_order_here", "_law_other_here", "_law_great"]
theorem S_law : FnScope N_law ["_law_script"] (defScope s_law) := ⟨rfl, rfl, rfl, by decide +kernel, rfl, by decide +kernel, by decide +kernel⟩
set_option maxHeartbeats 4000000 in
theorem fn_law {P : Program} {w : World} {K : Frag} {mg : PySem.Str → Option Value} {base : Heap} {f : Addr} {fd : FuncData} (F : Fun K "law" "law" s_law f fd) (c__law_cell_at : Cal P w K mg base 1 "_law_cell_at" (fun a : G.Scr × Int × Unit => a) (fun a : G.Scr × Int × Unit => m_l_cell_at a.1 a.2.1) fr) (c__law_numbers : Cal P w K mg base 1 "_law_numbers" (fun a : Int × (List Int) × Unit => a) (fun a : Int × (List Int) × Unit => m_l_numbers a.1 a.2.1) ow) (c__law_ties : Cal P w K mg base 2 "_law_ties" (fun a : Int × (List Int) × (List Int) × Unit => a) (fun a : Int × (List Int) × (List Int) × Unit => m_l_ties a.1 a.2.1 a.2.2.1) ow) (c__law_order : Cal P w K mg base 1 "_law_order" (fun a : (List Int) × Unit => a) (fun a : (List Int) × Unit => m_l_order a.1) ow) (c__law_called_web : Cal P w K mg base 1 "_law_called_web" (fun a : (Int × (G.Tup (Int × Int))) × (List Int) × Unit => a) (fun a : (Int × (G.Tup (Int × Int))) × (List Int) × Unit => m_l_called_web a.1 a.2.1) fr) (c__law_right : Cal P w K mg base 12 "_law_right" (fun a : (Int × (G.Tup (Int × Int))) × (Int × (G.Tup (Int × Int))) × Unit => a) (fun a : (Int × (G.Tup (Int × Int))) × (Int × (G.Tup (Int × Int))) × Unit => m_l_right a.1 a.2.1) fr) (c__law_refused : Cal P w K mg base 12 "_law_refused" (fun a : (Int × (G.Tup (Int × Int))) × (Int × (G.Tup (Int × Int))) × Unit => a) (fun a : (Int × (G.Tup (Int × Int))) × (Int × (G.Tup (Int × Int))) × Unit => m_l_refused a.1 a.2.1) fr) (c__law_other : Cal P w K mg base 1 "_law_other" (fun a : (Int × (G.Tup (Int × Int))) × (List Int) × Unit => a) (fun a : (Int × (G.Tup (Int × Int))) × (List Int) × Unit => m_l_other a.1 a.2.1) fr) (b_list : mg "list" = none) (b_range : mg "range" = none) (b_sorted : mg "sorted" = none) (b_tuple : mg "tuple" = none) :
    FnOk P w K mg base (L2.CX P w) 13 f fd ["_law_script"] (spOf K mg (fun a : G.Scr × Unit => m_law a.1) fr) :=
  fn_ok (N := N_law) F S_law rfl fun a cdv A' outer s H E hr => by
    obtain ⟨l_script, _⟩ := a
    have S := S_law
    have tk := takes_of (X := cxOf (L2.CX P w) P w K mg base N_law "law" (defScope s_law) f cdv A' outer s H E) (E := E) rfl rfl rfl rfl
    refine' ST.slots (ss' := [G.fr l_script, G.any, G.any, G.any, G.any, G.any, G.any]) (ST.cast ?h ?q) rfl
    (case h => exact (st_seq (s1_set 1 (xk_free (xk_cal c__law_numbers hr tk (xa_cons (xi_cal c__law_cell_at hr tk (xa_cons (xi_fr 0) (xa_cons xi_int xa_nil))) (xa_cons (xi_of (xk_lst (xak_imm (xh_cons xi_int (xh_cons xi_int (xh_cons xi_int (xh_cons xi_int (xh_cons xi_int (xh_cons xi_int (xh_cons xi_int (xh_cons xi_int (xh_cons xi_int (xh_cons xi_int (xh_cons xi_int (xh_nil))))))))))))))) xa_nil)))) S.nd) fun (l_digits1 : (List Int)) => (st_seq (s1_set 2 (xk_imm (x_bin op_add b_add xi_int (xi_ixL (xi_fr 1) xi_int))) S.nd) fun (l_many4 : Int) => (st_seq (s1_set 3 (xk_imm (xi_pair (xa_cons (xi_fr 2) (xa_cons (xi_bt call_tuple_of c_tuple b_tuple (by decide +kernel) (xa_cons (xi_of (xk_sortedP (xa_cons (xi_cal c__law_ties hr tk (xa_cons (xi_fr 2) (xa_cons (xi_of (xk_sliceS (xi_fr 0) (xo_some xi_int) (xo_some xi_int))) (xa_cons (xi_of (xk_listR1 (xi_fr 2) b_list b_range)) xa_nil)))) xa_nil) b_sorted)) xa_nil)) xa_nil)))) S.nd) fun (l_web6 : (Int × (G.Tup (Int × Int)))) => (st_seq (s1_set 4 (xk_free (xk_cal c__law_order hr tk (xa_cons (xi_of (xk_slice (xi_fr 1) (xo_some xi_int) (xo_some (x_bin op_add b_add xi_int (xi_fr 2))))) xa_nil))) S.nd) fun (l_order_here16 : (List Int)) => (st_seq (s1_set 5 (xk_imm (xi_cal c__law_other hr tk (xa_cons (xi_cal c__law_called_web hr tk (xa_cons (xi_fr 3) (xa_cons (xi_fr 4) xa_nil))) (xa_cons (xi_of (xk_slice (xi_fr 1) (xo_some xi_int) (xo_some xi_int))) xa_nil)))) S.nd) fun (l_other_here17 : (Int × (G.Tup (Int × Int)))) => (st_seq (s1_if (post := (fun (s21 : (Int × (G.Tup (Int × Int)))) => [G.fr l_script, G.fr l_digits1, G.fr l_many4, G.fr s21, G.fr l_order_here16, G.fr l_other_here17, G.any])) (t_cmp op_eq (b_eqS (α := Int) (β := Int)) (nomark _) (xi_ixL (xi_fr 1) xi_int) xi_int) (sn_seq (s1_set 3 (xk_imm (xi_pair (xa_cons (x_bin op_add b_add xi_int (xi_ixL (xi_fr 1) xi_int)) (xa_cons (xi_p2 (xi_fr 3)) xa_nil)))) S.nd) fun (l_web22 : (Int × (G.Tup (Int × Int)))) => (sn_nil (s := l_web22) (wk_eq (wk_eq (wk_eq (wk_eq (wk_eq (wk_eq (wk_eq wk_nil))))))))) (sn_nil (s := l_web6) (wk_eq (wk_eq (wk_eq (wk_eq (wk_eq (wk_eq (wk_eq wk_nil))))))))) fun s21 => (st_seq (s1_if (post := (fun (s28 : (Int × (G.Tup (Int × Int))) × (Int × (G.Tup (Int × Int)))) => [G.fr l_script, G.fr l_digits1, G.fr l_many4, G.fr s28.1, G.fr l_order_here16, G.fr s28.2, G.any])) (t_cmp op_eq (b_eqS (α := Int) (β := Int)) (nomark _) (xi_ixL (xi_fr 1) xi_int) xi_int) (sn_seq (s1_set 3 (xk_imm (xi_pair (xa_cons xi_int (xa_cons (xi_tup (xh_cons (xi_pair (xa_cons xi_int (xa_cons xi_int xa_nil))) (xh_cons (xi_pair (xa_cons xi_int (xa_cons xi_int xa_nil))) (xh_cons (xi_pair (xa_cons xi_int (xa_cons xi_int xa_nil))) (xh_cons (xi_pair (xa_cons xi_int (xa_cons xi_int xa_nil))) (xh_cons (xi_pair (xa_cons xi_int (xa_cons xi_int xa_nil))) (xh_cons (xi_pair (xa_cons xi_int (xa_cons xi_int xa_nil))) (xh_nil)))))))) xa_nil)))) S.nd) fun (l_web29 : (Int × (G.Tup (Int × Int)))) => (sn_seq (s1_set 5 (xk_imm (xi_pair (xa_cons xi_int (xa_cons (xi_tup (xh_cons (xi_pair (xa_cons xi_int (xa_cons xi_int xa_nil))) (xh_cons (xi_pair (xa_cons xi_int (xa_cons xi_int xa_nil))) (xh_cons (xi_pair (xa_cons xi_int (xa_cons xi_int xa_nil))) (xh_cons (xi_pair (xa_cons xi_int (xa_cons xi_int xa_nil))) (xh_cons (xi_pair (xa_cons xi_int (xa_cons xi_int xa_nil))) (xh_cons (xi_pair (xa_cons xi_int (xa_cons xi_int xa_nil))) (xh_nil)))))))) xa_nil)))) S.nd) fun (l_other_here30 : (Int × (G.Tup (Int × Int)))) => (sn_seq (s1_set 5 (xk_imm (xi_cal c__law_called_web hr tk (xa_cons (xi_fr 5) (xa_cons (xi_cal c__law_order hr tk (xa_cons (xi_of (xk_slice (xi_fr 1) (xo_some xi_int) xo_none)) xa_nil)) xa_nil)))) S.nd) fun (l_other_here31 : (Int × (G.Tup (Int × Int)))) => (sn_nil (s := (l_web29, l_other_here31)) (wk_eq (wk_eq (wk_eq (wk_eq (wk_eq (wk_eq (wk_eq wk_nil))))))))))) (sn_nil (s := (s21, l_other_here17)) (wk_eq (wk_eq (wk_eq (wk_eq (wk_eq (wk_eq (wk_eq wk_nil))))))))) fun s28 => (st_guard (xt_w (xw_or (t_cmp op_gt b_gt (nomark _) (xi_p1 (xi_fr 3)) xi_int) (xw_or1 (t_cmp op_gt b_gt (nomark _) (xi_p1 (xi_fr 5)) xi_int)))) (st_seq (s1_set 6 (xk_imm (xi_pair (xa_cons (x_bin op_add b_add xi_int (xi_ixL (xi_fr 1) xi_int)) (xa_cons (xi_tup (xh_nil)) xa_nil)))) S.nd) fun (l_great36 : (Int × (G.Tup (Int × Int)))) => (st_guard (xt_w (xw_or (xt_not (xt_val (xi_cal c__law_refused hr tk (xa_cons (xi_fr 6) (xa_cons (xi_fr 6) xa_nil))))) (xw_or1 (xt_not (xt_val (xi_cal c__law_refused hr tk (xa_cons (xi_pair (xa_cons xi_int (xa_cons (xi_tup (xh_nil)) xa_nil))) (xa_cons (xi_pair (xa_cons xi_int (xa_cons (xi_tup (xh_nil)) xa_nil))) xa_nil)))))))) (st_ret (xk_imm xi_bl)) (st_ret (xk_imm (xi_and (xi_cal c__law_refused hr tk (xa_cons (xi_fr 3) (xa_cons (xi_fr 5) xa_nil))) (xi_and (xi_cal c__law_refused hr tk (xa_cons (xi_fr 5) (xa_cons (xi_fr 3) xa_nil))) (xi_one (xi_cal c__law_right hr tk (xa_cons (xi_pair (xa_cons (xi_fr 2) (xa_cons (xi_tup (xh_nil)) xa_nil))) (xa_cons (xi_pair (xa_cons (xi_fr 2) (xa_cons (xi_tup (xh_nil)) xa_nil))) xa_nil)))))))))) (st_ret (xk_imm (xi_and (xi_cal c__law_right hr tk (xa_cons (xi_fr 3) (xa_cons (xi_fr 5) xa_nil))) (xi_one (xi_cal c__law_right hr tk (xa_cons (xi_fr 5) (xa_cons (xi_fr 3) xa_nil))))))))))))))))
    (case q => first | (unfold m_law; simp only [Res.okb, Res.bind_assoc]; done) | rfl)
theorem all_mk {l : PySem.W.OpenLaw} {w : World} {K : Frag} {h : Heap} {mg : PySem.Str → Option Value} {fa : Addr} (X : K.In h) (G : h.Ns mainGlobals mg) (hfa : mg "law" = some (.ref fa)) (hg : ∀ ns : List Int, ns.length ≤ 63 → m_law ⟨ns⟩ = .ok true) {od0 an0 : Option Addr} {sl0 : Array (Option Value)} {oc0 kV0 dc0 pm0 cd0 ct0 : Value} {f0 : Addr} {od1 an1 : Option Addr} {sl1 : Array (Option Value)} {oc1 kV1 dc1 pm1 cd1 ct1 : Value} {f1 : Addr} {od2 an2 : Option Addr} {sl2 : Array (Option Value)} {oc2 kV2 dc2 pm2 cd2 ct2 : Value} {f2 : Addr} {od3 an3 : Option Addr} {sl3 : Array (Option Value)} {oc3 kV3 dc3 pm3 cd3 ct3 : Value} {f3 : Addr} {od4 an4 : Option Addr} {sl4 : Array (Option Value)} {oc4 kV4 dc4 pm4 cd4 ct4 : Value} {f4 : Addr} {od5 an5 : Option Addr} {sl5 : Array (Option Value)} {oc5 kV5 dc5 pm5 cd5 ct5 : Value} {f5 : Addr} {od6 an6 : Option Addr} {sl6 : Array (Option Value)} {oc6 kV6 dc6 pm6 cd6 ct6 : Value} {f6 : Addr} {od7 an7 : Option Addr} {sl7 : Array (Option Value)} {oc7 kV7 dc7 pm7 cd7 ct7 : Value} {f7 : Addr} {od8 an8 : Option Addr} {sl8 : Array (Option Value)} {oc8 kV8 dc8 pm8 cd8 ct8 : Value} {f8 : Addr} {od9 an9 : Option Addr} {sl9 : Array (Option Value)} {oc9 kV9 dc9 pm9 cd9 ct9 : Value} {f9 : Addr} {od10 an10 : Option Addr} {sl10 : Array (Option Value)} {oc10 kV10 dc10 pm10 cd10 ct10 : Value} {f10 : Addr} {od11 an11 : Option Addr} {sl11 : Array (Option Value)} {oc11 kV11 dc11 pm11 cd11 ct11 : Value} {f11 : Addr} {od12 an12 : Option Addr} {sl12 : Array (Option Value)} {oc12 kV12 dc12 pm12 cd12 ct12 : Value} {f12 : Addr} {od13 an13 : Option Addr} {sl13 : Array (Option Value)} {oc13 kV13 dc13 pm13 cd13 ct13 : Value} {f13 : Addr} {od14 an14 : Option Addr} {sl14 : Array (Option Value)} {oc14 kV14 dc14 pm14 cd14 ct14 : Value} {f14 : Addr} {C_TooMany : Addr} {C_RingError : Addr} {C_TooWide : Addr}
    (a0 : PySem.W.nsIn K mainGlobals "tied" = some (some (.ref f0))) (l0 : K.lookup f0 = some ⟨oc0, od0, .func (PySem.W.fnOf "tied" "tied" (defArgs s_tied) (defBody s_tied) (defScope s_tied) .none kV0 dc0 pm0 an0 cd0 ct0), sl0⟩) (c0 : PySem.W.codeIn K cd0 "tied" = true) (k0 : PySem.W.keepIn K (.ref f0) = true)
    (a1 : PySem.W.nsIn K mainGlobals "fits" = some (some (.ref f1))) (l1 : K.lookup f1 = some ⟨oc1, od1, .func (PySem.W.fnOf "fits" "fits" (defArgs s_fits) (defBody s_fits) (defScope s_fits) .none kV1 dc1 pm1 an1 cd1 ct1), sl1⟩) (c1 : PySem.W.codeIn K cd1 "fits" = true) (k1 : PySem.W.keepIn K (.ref f1) = true)
    (a2 : PySem.W.nsIn K mainGlobals "first_order" = some (some (.ref f2))) (l2 : K.lookup f2 = some ⟨oc2, od2, .func (PySem.W.fnOf "first_order" "first_order" (defArgs s_first_order) (defBody s_first_order) (defScope s_first_order) .none kV2 dc2 pm2 an2 cd2 ct2), sl2⟩) (c2 : PySem.W.codeIn K cd2 "first_order" = true) (k2 : PySem.W.keepIn K (.ref f2) = true)
    (a3 : PySem.W.nsIn K mainGlobals "likeness" = some (some (.ref f3))) (l3 : K.lookup f3 = some ⟨oc3, od3, .func (PySem.W.fnOf "likeness" "likeness" (defArgs s_likeness) (defBody s_likeness) (defScope s_likeness) .none kV3 dc3 pm3 an3 cd3 ct3), sl3⟩) (c3 : PySem.W.codeIn K cd3 "likeness" = true) (k3 : PySem.W.keepIn K (.ref f3) = true)
    (a4 : PySem.W.nsIn K mainGlobals "_law_cell_at" = some (some (.ref f4))) (l4 : K.lookup f4 = some ⟨oc4, od4, .func (PySem.W.fnOf "_law_cell_at" "_law_cell_at" (defArgs s__law_cell_at) (defBody s__law_cell_at) (defScope s__law_cell_at) .none kV4 dc4 pm4 an4 cd4 ct4), sl4⟩) (c4 : PySem.W.codeIn K cd4 "_law_cell_at" = true) (k4 : PySem.W.keepIn K (.ref f4) = true)
    (a5 : PySem.W.nsIn K mainGlobals "_law_numbers" = some (some (.ref f5))) (l5 : K.lookup f5 = some ⟨oc5, od5, .func (PySem.W.fnOf "_law_numbers" "_law_numbers" (defArgs s__law_numbers) (defBody s__law_numbers) (defScope s__law_numbers) .none kV5 dc5 pm5 an5 cd5 ct5), sl5⟩) (c5 : PySem.W.codeIn K cd5 "_law_numbers" = true) (k5 : PySem.W.keepIn K (.ref f5) = true)
    (a6 : PySem.W.nsIn K mainGlobals "_law_row" = some (some (.ref f6))) (l6 : K.lookup f6 = some ⟨oc6, od6, .func (PySem.W.fnOf "_law_row" "_law_row" (defArgs s__law_row) (defBody s__law_row) (defScope s__law_row) .none kV6 dc6 pm6 an6 cd6 ct6), sl6⟩) (c6 : PySem.W.codeIn K cd6 "_law_row" = true) (k6 : PySem.W.keepIn K (.ref f6) = true)
    (a7 : PySem.W.nsIn K mainGlobals "_law_ties" = some (some (.ref f7))) (l7 : K.lookup f7 = some ⟨oc7, od7, .func (PySem.W.fnOf "_law_ties" "_law_ties" (defArgs s__law_ties) (defBody s__law_ties) (defScope s__law_ties) .none kV7 dc7 pm7 an7 cd7 ct7), sl7⟩) (c7 : PySem.W.codeIn K cd7 "_law_ties" = true) (k7 : PySem.W.keepIn K (.ref f7) = true)
    (a8 : PySem.W.nsIn K mainGlobals "_law_order" = some (some (.ref f8))) (l8 : K.lookup f8 = some ⟨oc8, od8, .func (PySem.W.fnOf "_law_order" "_law_order" (defArgs s__law_order) (defBody s__law_order) (defScope s__law_order) .none kV8 dc8 pm8 an8 cd8 ct8), sl8⟩) (c8 : PySem.W.codeIn K cd8 "_law_order" = true) (k8 : PySem.W.keepIn K (.ref f8) = true)
    (a9 : PySem.W.nsIn K mainGlobals "_law_called_web" = some (some (.ref f9))) (l9 : K.lookup f9 = some ⟨oc9, od9, .func (PySem.W.fnOf "_law_called_web" "_law_called_web" (defArgs s__law_called_web) (defBody s__law_called_web) (defScope s__law_called_web) .none kV9 dc9 pm9 an9 cd9 ct9), sl9⟩) (c9 : PySem.W.codeIn K cd9 "_law_called_web" = true) (k9 : PySem.W.keepIn K (.ref f9) = true)
    (a10 : PySem.W.nsIn K mainGlobals "_law_orders" = some (some (.ref f10))) (l10 : K.lookup f10 = some ⟨oc10, od10, .func (PySem.W.fnOf "_law_orders" "_law_orders" (defArgs s__law_orders) (defBody s__law_orders) (defScope s__law_orders) .none kV10 dc10 pm10 an10 cd10 ct10), sl10⟩) (c10 : PySem.W.codeIn K cd10 "_law_orders" = true) (k10 : PySem.W.keepIn K (.ref f10) = true)
    (a11 : PySem.W.nsIn K mainGlobals "_law_right" = some (some (.ref f11))) (l11 : K.lookup f11 = some ⟨oc11, od11, .func (PySem.W.fnOf "_law_right" "_law_right" (defArgs s__law_right) (defBody s__law_right) (defScope s__law_right) .none kV11 dc11 pm11 an11 cd11 ct11), sl11⟩) (c11 : PySem.W.codeIn K cd11 "_law_right" = true) (k11 : PySem.W.keepIn K (.ref f11) = true)
    (a12 : PySem.W.nsIn K mainGlobals "_law_refused" = some (some (.ref f12))) (l12 : K.lookup f12 = some ⟨oc12, od12, .func (PySem.W.fnOf "_law_refused" "_law_refused" (defArgs s__law_refused) (defBody s__law_refused) (defScope s__law_refused) .none kV12 dc12 pm12 an12 cd12 ct12), sl12⟩) (c12 : PySem.W.codeIn K cd12 "_law_refused" = true) (k12 : PySem.W.keepIn K (.ref f12) = true)
    (a13 : PySem.W.nsIn K mainGlobals "_law_other" = some (some (.ref f13))) (l13 : K.lookup f13 = some ⟨oc13, od13, .func (PySem.W.fnOf "_law_other" "_law_other" (defArgs s__law_other) (defBody s__law_other) (defScope s__law_other) .none kV13 dc13 pm13 an13 cd13 ct13), sl13⟩) (c13 : PySem.W.codeIn K cd13 "_law_other" = true) (k13 : PySem.W.keepIn K (.ref f13) = true)
    (a14 : PySem.W.nsIn K mainGlobals "law" = some (some (.ref f14))) (l14 : K.lookup f14 = some ⟨oc14, od14, .func (PySem.W.fnOf "law" "law" (defArgs s_law) (defBody s_law) (defScope s_law) .none kV14 dc14 pm14 an14 cd14 ct14), sl14⟩) (c14 : PySem.W.codeIn K cd14 "law" = true) (k14 : PySem.W.keepIn K (.ref f14) = true)
    (z_min : PySem.W.nsIn K mainGlobals "min" = some none)
    (z_max : PySem.W.nsIn K mainGlobals "max" = some none)
    (z_len : PySem.W.nsIn K mainGlobals "len" = some none)
    (z_range : PySem.W.nsIn K mainGlobals "range" = some none)
    (z_isinstance : PySem.W.nsIn K mainGlobals "isinstance" = some none)
    (z_list : PySem.W.nsIn K mainGlobals "list" = some none)
    (z_int : PySem.W.nsIn K mainGlobals "int" = some none)
    (z_bool : PySem.W.nsIn K mainGlobals "bool" = some none)
    (z_sorted : PySem.W.nsIn K mainGlobals "sorted" = some none)
    (z_tuple : PySem.W.nsIn K mainGlobals "tuple" = some none)
    (xa_TooMany : PySem.W.nsIn K mainGlobals "TooMany" = some (some (.ref C_TooMany)))
    (xk_TooMany : PySem.W.keepIn K (.ref C_TooMany) = true)
    (xb_TooMany : PySem.W.subIn K (.ref C_TooMany) (.type "BaseException") = some true)
    (xt_TooMany : PySem.W.typeIn K (.ref C_TooMany) = some (.type "type"))
    (xi_TooMany : PySem.W.isClsIn K C_TooMany = true)
    (xg_TooMany : PySem.W.findIn K (.ref C_TooMany) "__getattribute__" = some (some (.builtin "BaseException.__getattribute__")))
    (xr_TooMany : PySem.W.findIn K (.ref C_TooMany) "__getattr__" = some none)
    (xd_TooMany : PySem.W.hasDictIn K C_TooMany = true)
    (xc_TooMany : PySem.W.findIn K (.ref C_TooMany) "__class__" = some (some (.builtin "object.__class__")))
    (xm_TooMany : PySem.W.mroIn K C_TooMany (.type "object") = some true)
    (xs_TooMany : PySem.W.subIn K (.ref C_TooMany) (.ref C_TooMany) = some true)
    (xx_TooMany : PySem.W.excIn K C_TooMany vB "ValueError.__new__" = true)
    (xa_RingError : PySem.W.nsIn K mainGlobals "RingError" = some (some (.ref C_RingError)))
    (xk_RingError : PySem.W.keepIn K (.ref C_RingError) = true)
    (xb_RingError : PySem.W.subIn K (.ref C_RingError) (.type "BaseException") = some true)
    (xt_RingError : PySem.W.typeIn K (.ref C_RingError) = some (.type "type"))
    (xi_RingError : PySem.W.isClsIn K C_RingError = true)
    (xg_RingError : PySem.W.findIn K (.ref C_RingError) "__getattribute__" = some (some (.builtin "BaseException.__getattribute__")))
    (xr_RingError : PySem.W.findIn K (.ref C_RingError) "__getattr__" = some none)
    (xd_RingError : PySem.W.hasDictIn K C_RingError = true)
    (xc_RingError : PySem.W.findIn K (.ref C_RingError) "__class__" = some (some (.builtin "object.__class__")))
    (xm_RingError : PySem.W.mroIn K C_RingError (.type "object") = some true)
    (xs_RingError : PySem.W.subIn K (.ref C_RingError) (.ref C_RingError) = some true)
    (xa_TooWide : PySem.W.nsIn K mainGlobals "TooWide" = some (some (.ref C_TooWide)))
    (xk_TooWide : PySem.W.keepIn K (.ref C_TooWide) = true)
    (xb_TooWide : PySem.W.subIn K (.ref C_TooWide) (.type "BaseException") = some true)
    (xt_TooWide : PySem.W.typeIn K (.ref C_TooWide) = some (.type "type"))
    (xi_TooWide : PySem.W.isClsIn K C_TooWide = true)
    (xg_TooWide : PySem.W.findIn K (.ref C_TooWide) "__getattribute__" = some (some (.builtin "BaseException.__getattribute__")))
    (xr_TooWide : PySem.W.findIn K (.ref C_TooWide) "__getattr__" = some none)
    (xd_TooWide : PySem.W.hasDictIn K C_TooWide = true)
    (xc_TooWide : PySem.W.findIn K (.ref C_TooWide) "__class__" = some (some (.builtin "object.__class__")))
    (xm_TooWide : PySem.W.mroIn K C_TooWide (.type "object") = some true)
    (xs_TooWide : PySem.W.subIn K (.ref C_TooWide) (.ref C_TooWide) = some true)
    (xn : PySem.W.specialIn K (.builtin "object.__class__") "__get__" = some (some (.builtin "getset_descriptor.__get__")))
    (xz : PySem.W.takesIn K (.builtin "object.__class__") = some true)
    (sb_TooMany_RingError : PySem.W.subIn K (.ref C_TooMany) (.ref C_RingError) = some true)
    (sb_TooMany_ValueError : PySem.W.subIn K (.ref C_TooMany) (.type "ValueError") = some true)
    (sb_TooMany_TooWide : PySem.W.subIn K (.ref C_TooMany) (.ref C_TooWide) = some false)
    (xo_ValueError : PySem.W.nsIn K mainGlobals "ValueError" = some none)
    : ∃ fd : FuncData, (∀ (s : Shared) (v : Value), BindsTo s fd ⟨[v], []⟩ [("_law_script", v)]) ∧ ∀ base : Heap, K.In base → base.Ns mainGlobals mg → FnOk l.prog w K mg base (L2.CX l.prog w) 13 fa fd ["_law_script"] (spLaw K) := by
  have e := hfa.symm.trans (PySem.W.mg_of X G a14)
  cases e
  have b_min := PySem.W.mg_none_of X G z_min
  have b_max := PySem.W.mg_none_of X G z_max
  have b_len := PySem.W.mg_none_of X G z_len
  have b_range := PySem.W.mg_none_of X G z_range
  have b_isinstance := PySem.W.mg_none_of X G z_isinstance
  have b_list := PySem.W.mg_none_of X G z_list
  have b_int := PySem.W.mg_none_of X G z_int
  have b_bool := PySem.W.mg_none_of X G z_bool
  have b_sorted := PySem.W.mg_none_of X G z_sorted
  have b_tuple := PySem.W.mg_none_of X G z_tuple
  have cl_TooMany : Cl K mg "TooMany" C_TooMany := ⟨PySem.W.mg_of X G xa_TooMany, xk_TooMany, xb_TooMany, xt_TooMany, xi_TooMany, ⟨xg_TooMany, xr_TooMany, xb_TooMany, xd_TooMany, xc_TooMany, xn, xz, xm_TooMany⟩, xs_TooMany⟩
  have cl_RingError : Cl K mg "RingError" C_RingError := ⟨PySem.W.mg_of X G xa_RingError, xk_RingError, xb_RingError, xt_RingError, xi_RingError, ⟨xg_RingError, xr_RingError, xb_RingError, xd_RingError, xc_RingError, xn, xz, xm_RingError⟩, xs_RingError⟩
  have cl_TooWide : Cl K mg "TooWide" C_TooWide := ⟨PySem.W.mg_of X G xa_TooWide, xk_TooWide, xb_TooWide, xt_TooWide, xi_TooWide, ⟨xg_TooWide, xr_TooWide, xb_TooWide, xd_TooWide, xc_TooWide, xn, xz, xm_TooWide⟩, xs_TooWide⟩
  have x_TooMany : HasCl K mg "TooMany" := ⟨C_TooMany, cl_TooMany, xx_TooMany⟩
  have ct_TooMany : CTab K mg "TooMany" ct_tab_TooMany := ctab_mk cl_TooMany (tabs_cons cl_TooMany xs_TooMany tabs_nil)
  have ct_RingError : CTab K mg "RingError" ct_tab_RingError := ctab_mk cl_RingError (tabs_cons cl_TooMany sb_TooMany_RingError tabs_nil)
  have it_ValueError : ITab K mg "ValueError" it_tab_ValueError := itab_ty (PySem.W.mg_none_of X G xo_ValueError) (by decide +kernel) (by decide) (by decide +kernel) (tabs_cons cl_TooMany sb_TooMany_ValueError tabs_nil)
  have it_TooWide : ITab K mg "TooWide" it_tab_TooWide := itab_mk cl_TooWide (tabs_cons cl_TooMany sb_TooMany_TooWide tabs_nil)
  have d_tied := isDef_mk (st := s_tied) X G a0 l0 c0 k0
  have d_fits := isDef_mk (st := s_fits) X G a1 l1 c1 k1
  have d_first_order := isDef_mk (st := s_first_order) X G a2 l2 c2 k2
  have d_likeness := isDef_mk (st := s_likeness) X G a3 l3 c3 k3
  have d__law_cell_at := isDef_mk (st := s__law_cell_at) X G a4 l4 c4 k4
  have d__law_numbers := isDef_mk (st := s__law_numbers) X G a5 l5 c5 k5
  have d__law_row := isDef_mk (st := s__law_row) X G a6 l6 c6 k6
  have d__law_ties := isDef_mk (st := s__law_ties) X G a7 l7 c7 k7
  have d__law_order := isDef_mk (st := s__law_order) X G a8 l8 c8 k8
  have d__law_called_web := isDef_mk (st := s__law_called_web) X G a9 l9 c9 k9
  have d__law_orders := isDef_mk (st := s__law_orders) X G a10 l10 c10 k10
  have d__law_right := isDef_mk (st := s__law_right) X G a11 l11 c11 k11
  have d__law_refused := isDef_mk (st := s__law_refused) X G a12 l12 c12 k12
  have d__law_other := isDef_mk (st := s__law_other) X G a13 l13 c13 k13
  refine ⟨PySem.W.fnOf "law" "law" (defArgs s_law) (defBody s_law) (defScope s_law) .none kV14 dc14 pm14 an14 cd14 ct14, fun s v => .of_eq rfl, fun base _ _ => ?_⟩
  have c_tied := cal_tied (P := l.prog) (w := w) (base := base) d_tied  b_min b_max  
  have c_fits := cal_fits (P := l.prog) (w := w) (base := base) d_fits c_tied b_len b_range  
  have c_first_order := cal_first_order (P := l.prog) (w := w) (base := base) d_first_order c_fits b_len b_range   8
  have c_likeness := cal_likeness (P := l.prog) (w := w) (base := base) d_likeness c_first_order b_len  x_TooMany
  have c__law_cell_at := cal__law_cell_at (P := l.prog) (w := w) (base := base) d__law_cell_at  b_len  
  have c__law_numbers := cal__law_numbers (P := l.prog) (w := w) (base := base) d__law_numbers  b_max b_len b_range  
  have c__law_row := cal__law_row (P := l.prog) (w := w) (base := base) d__law_row  b_isinstance b_list b_len b_range b_int b_bool  
  have c__law_ties := cal__law_ties (P := l.prog) (w := w) (base := base) d__law_ties c__law_numbers b_min b_max  
  have c__law_order := cal__law_order (P := l.prog) (w := w) (base := base) d__law_order  b_len b_range  
  have c__law_called_web := cal__law_called_web (P := l.prog) (w := w) (base := base) d__law_called_web  b_min b_max b_sorted b_tuple  
  have c__law_orders := cal__law_orders (P := l.prog) (w := w) (base := base) d__law_orders  b_range  
  have c__law_right := cal__law_right (P := l.prog) (w := w) (base := base) d__law_right c_likeness c__law_row c__law_called_web c__law_orders   
  have c__law_refused := cal__law_refused (P := l.prog) (w := w) (base := base) d__law_refused c_likeness b_isinstance  ct_TooMany ct_RingError it_ValueError it_TooWide
  have c__law_other := cal__law_other (P := l.prog) (w := w) (base := base) d__law_other  b_list b_min b_max b_len b_sorted b_tuple  
  exact law_ok (fn_law (fun_mk (st := s_law) l14 c14 k14) c__law_cell_at c__law_numbers c__law_ties c__law_order c__law_called_web c__law_right c__law_refused c__law_other b_list b_range b_sorted b_tuple  ) hg
end K81

namespace K81
open PySem PySem.Spec PyProof.Rows L2 G
theorem numbers (c : Int) (sizes : List Int) (hl : sizes.length ≤ 100000) (hs : ∀ z ∈ sizes, 0 < z ∧ z < 10 ^ 70) : Sat (m_l_numbers c sizes) (Digits sizes) := by
  unfold m_l_numbers
  refine .bok (.bok (.bok (.bassoc (.brange (by omega) (by omega) ?_))))
  rw [Int.toNat_natCast]
  refine .bind (P := fun s => Digits sizes s.1) ?_ fun s p => .ok p
  refine (Sat.foldR (fun i s => s.1.length = i ∧ ∀ (j : Nat) (d z : Int), s.1[j]? = some d → sizes[j]? = some z → 0 ≤ d ∧ d < z) ⟨rfl, fun j d z h => by cases h⟩ ?_).imp fun s ⟨a, b⟩ => ⟨by rw [a, rangeL_len], b⟩
  intro i s a ha ⟨l, p⟩
  obtain ⟨hi, rfl⟩ := rangeL0 ha
  obtain ⟨z, hz⟩ : ∃ z, sizes[i]? = some z := ⟨_, get_of hi⟩
  have hz0 := hs z (List.mem_of_getElem? hz)
  have fin : ∀ (x : Int) (y : Int), Sat (Res.ok ((s.1 ++ [x % z]), y)) (fun s : List Int × Int => s.1.length = i + 1 ∧ ∀ (j : Nat) (d z : Int), s.1[j]? = some d → sizes[j]? = some z → 0 ≤ d ∧ d < z) := by
    intro x y
    refine .ok ⟨by rw [List.length_append, l]; rfl, fun j d z' hd hz' => ?_⟩
    by_cases hj : j < s.1.length
    · rw [List.getElem?_append_left hj] at hd
      exact p j d z' hd hz'
    · rw [List.getElem?_append_right (by omega)] at hd
      have : j = i := by
        have := (List.getElem?_eq_some_iff.mp hd).1
        rw [List.length_singleton] at this
        omega
      subst this
      rw [l, Nat.sub_self] at hd
      injection hd with hd
      rw [hz] at hz'
      injection hz' with hz'
      subst hz' hd
      exact ⟨Int.emod_nonneg _ (by omega), Int.emod_lt_of_pos _ hz0.1⟩
  have gz : sizes[(i : Int).toNat]? = some z := by rw [Int.toNat_natCast]; exact hz
  have B1 : ∀ x : Int, -(2 ^ 64) < x % 2147483647 ∧ x % 2147483647 < 2 ^ 64 := fun x => by omega
  repeat' first
    | with_reducible refine Sat.bassoc ?_
    | with_reducible refine Sat.bok ?_
    | with_reducible refine Sat.bite (fun _ => ?_) (fun _ => ?_)
    | with_reducible refine Sat.bidx (by omega) gz ?_
    | with_reducible refine Sat.bmul (by first | exact .inl (by omega) | exact .inr (by omega) | exact .inl (B1 _)) ?_
    | with_reducible refine Sat.bmod (by first | exact hz0.1 | omega) ?_
    | with_reducible refine Sat.bdiv (by first | exact hz0.1 | omega) (by first | exact hz0.2 | omega) ?_
    | with_reducible refine Sat.bapp (by omega) ?_
    | exact fin _ _
theorem order_is (ds : List Int) (hl : ds.length ≤ 1000) : Sat (m_l_order ds) (IsOrd ds.length) := by
  unfold m_l_order
  refine .bok (.bassoc (.brange (by omega) (by omega) ?_))
  rw [Int.toNat_natCast]
  refine .bind (P := IsOrd ds.length) ?_ fun s p => .ok p
  refine (Sat.foldR (fun i s => IsOrd i s) ⟨⟨List.nodup_nil, fun x m => by cases m⟩, rfl⟩ ?_).imp fun s h => by rw [rangeL_len] at h; exact h
  intro i s a ha hs
  obtain ⟨hi, rfl⟩ := rangeL0 ha
  refine .bassoc (.bassoc (.bidx (by omega) (by rw [Int.toNat_natCast]; exact get_of hi) (.bmod (by omega) ?_)))
  have m0 := Int.emod_nonneg ds[i] (b := (i : Int) + 1) (by omega)
  have m1 := Int.emod_lt_of_pos ds[i] (b := (i : Int) + 1) (by omega)
  unfold insR
  refine .bguard ?_ (.bok (.ok (insert_part hs _)))
  unfold big
  have := hs.len
  simp only [Bool.and_eq_true, decide_eq_true_eq]
  omega
theorem called_is {w : Int × Tup (Int × Int)} (hw : WebOk w) {r : List Int} (h : IsOrd w.1.toNat r) : m_l_called_web w r = .ok (callW w r) := by
  have n1 := hw.n1
  have n2 := hw.n2
  have wl := hw.len
  have hl := h.len
  unfold m_l_called_web
  rw [Res.okb, foldR_map (g := callT r) (B := 1000) ?_ (by show 0 + _ ≤ 1000; omega)]
  · rfl
  · intro t m s sl
    obtain ⟨a0, a1, a2⟩ := hw.ok t m
    rw [nameOf_ix (r := r) (i := t.1) (by omega) (by omega), nameOf_ix (r := r) (i := t.2) (by omega) (by omega)]
    simp only [Res.okb]
    rw [appR_ok (by omega)]; rfl
theorem cell0 (sc : Scr) : Sat (m_l_cell_at sc 0) (fun _ => True) := by
  unfold m_l_cell_at
  exact .ite (fun h => .idxI (by decide) (of_decide_eq_true h) fun _ _ => trivial) fun _ => .ok trivial
theorem tied_is (w : Int × Tup (Int × Int)) (a b : Int) : m_tied w a b = .ok (decide ((min a b, max a b) ∈ w.2.l)) := by
  unfold m_tied
  rw [inDT_eq]
  exact congrArg Res.ok (decide_eq_decide.mpr Iff.rfl)
theorem sca_bool (a b : Bool) : ScaEq.eq a b = (a == b) := rfl
section
variable {one other : Int × Tup (Int × Int)} (hw : WebOk one) (hw' : WebOk other) (e : one.1 = other.1)
include hw hw' e
theorem fits_is {p : List Int} (hp : IsPart one.1.toNat p) (hl : p.length < one.1.toNat) (s : Int) : m_fits one other p s = .ok (!decide (s ∈ p) && dec (FitK one.2.l other.2.l (p ++ [s]) p.length)) := by
  have n2 := hw.n2
  unfold m_fits
  by_cases q : s ∈ p
  · simp [q]
  · rw [decide_eq_false q]
    simp only [Bool.false_eq_true, if_false, Res.okb, Bool.not_false, Bool.true_and]
    rw [range_ok (by omega) (by omega)]
    simp only [Res.okb]
    rw [Int.toNat_natCast]
    rw [loop_bad (fun a => !(decide ((min a (p.length : Int), max a (p.length : Int)) ∈ one.2.l) == decide ((min (nameOf p a) s, max (nameOf p a) s) ∈ other.2.l))) false ?_]
    · unfold Res.tail
      have key : (rangeL 0 p.length).any (fun a => !(decide ((min a (p.length : Int), max a (p.length : Int)) ∈ one.2.l) == decide ((min (nameOf p a) s, max (nameOf p a) s) ∈ other.2.l))) = !dec (FitK one.2.l other.2.l (p ++ [s]) p.length) := by
        rw [Bool.eq_iff_iff, List.any_eq_true, Bool.not_eq_true', dec_neg]
        unfold FitK
        have en : ∀ a : Int, 0 ≤ a → a < p.length → callT (p ++ [s]) (a, (p.length : Int)) = (min (nameOf p a) s, max (nameOf p a) s) := by
          intro a h0 h1
          have e1 : nameOf (p ++ [s]) a = nameOf p a := nameOf_pre (List.prefix_append p [s]) (by omega)
          have e2 : nameOf (p ++ [s]) (p.length : Int) = s := by unfold nameOf; rw [Int.toNat_natCast, List.getD_eq_getElem?_getD, List.getElem?_append_right (Nat.le_refl _), Nat.sub_self]; rfl
          unfold callT
          rw [e1, e2]
        constructor
        · rintro ⟨a, m, h⟩ hf
          have m := mem_rangeL.mp m
          have := hf a m.1 m.2
          rw [en a m.1 m.2] at this
          rw [show min a (p.length : Int) = a by omega, show max a (p.length : Int) = (p.length : Int) by omega] at h
          simp only [Bool.not_eq_true', beq_eq_false_iff_ne, ne_eq] at h
          exact h (decide_eq_decide.mpr this)
        · intro h
          apply Classical.byContradiction
          intro hn
          refine h fun a h0 h1 => ?_
          rw [en a h0 h1]
          apply Classical.byContradiction
          intro hne
          refine hn ⟨a, mem_rangeL.mpr ⟨h0, h1⟩, ?_⟩
          rw [show min a (p.length : Int) = a by omega, show max a (p.length : Int) = (p.length : Int) by omega]
          simp only [Bool.not_eq_true', beq_eq_false_iff_ne, ne_eq]
          exact fun z => hne (decide_eq_decide.mp z)
      rw [key]
      cases dec (FitK one.2.l other.2.l (p ++ [s]) p.length) <;> rfl
    · intro a m
      have m := mem_rangeL.mp m
      rw [tied_is, nameOf_ix m.1 m.2]
      simp only [Res.okb]
      rw [tied_is]
      simp only [Res.okb]
      rw [sca_bool]
      unfold Res.next
      split <;> rfl
theorem dfs_is : ∀ (m fuel : Nat) (p : List Int), IsPart one.1.toNat p → p.length + m = one.1.toNat → m < fuel → (∀ k, k < p.length → FitK one.2.l other.2.l p k) →
    m_first_order fuel one other p = .ok ((ext one.1.toNat m p).find? fun r => dec (∀ k, k < one.1.toNat → FitK one.2.l other.2.l r k))
  | 0, fuel + 1, p, hp, hl, _, hf => by
    have n1 := hw.n1
    rw [m_first_order_succ]
    have e1 : ScaEq.eq (p.length : Int) one.1 = true := by
      show decide (_ = _) = true
      exact decide_eq_true (by omega)
    rw [e1, if_pos rfl]
    have e2 : dec (∀ k, k < one.1.toNat → FitK one.2.l other.2.l p k) = true := dec_iff.mpr fun k hk => hf k (by omega)
    show Res.ok (some p) = .ok (List.find? _ [p])
    rw [List.find?_cons, e2]
  | m + 1, fuel + 1, p, hp, hl, hm, hf => by
    have n1 := hw.n1
    have n2 := hw.n2
    rw [m_first_order_succ]
    have e1 : ScaEq.eq (p.length : Int) one.1 = false := by
      show decide (_ = _) = false
      exact decide_eq_false (by omega)
    rw [e1, if_neg (by simp), range_ok (by omega) (by omega)]
    simp only [Res.okb]
    rw [loop_some (h := fun s => if (!decide (s ∈ p) && dec (FitK one.2.l other.2.l (p ++ [s]) p.length)) = true then (ext one.1.toNat m (p ++ [s])).find? fun r => dec (∀ k, k < one.1.toNat → FitK one.2.l other.2.l r k) else none) (g := fun r => some r) ?_]
    · have key : (ext one.1.toNat (m + 1) p).find? (fun r => dec (∀ k, k < one.1.toNat → FitK one.2.l other.2.l r k)) = (rangeL 0 one.1.toNat).findSome? fun s => if (!decide (s ∈ p) && dec (FitK one.2.l other.2.l (p ++ [s]) p.length)) = true then (ext one.1.toNat m (p ++ [s])).find? fun r => dec (∀ k, k < one.1.toNat → FitK one.2.l other.2.l r k) else none := by
        show List.find? _ (List.flatMap _ _) = _
        rw [List.find?_flatMap, findSome_filter]
        refine findSome_congr fun s ms => ?_
        by_cases q : s ∈ p
        · simp [q]
        · simp only [q, decide_false, Bool.not_false, if_true, Bool.true_and]
          by_cases z : dec (FitK one.2.l other.2.l (p ++ [s]) p.length) = true
          · rw [if_pos z]
          · rw [if_neg z]
            rw [List.find?_eq_none]
            intro r mr hr
            have ps : IsPart one.1.toNat (p ++ [s]) := ⟨List.nodup_append.mpr ⟨hp.nd, by simp, fun x hx y hy e => by cases List.mem_singleton.mp hy; exact q (e ▸ hx)⟩, fun x mx => (List.mem_append.mp mx).elim (hp.rg x) fun z => by cases List.mem_singleton.mp z; exact mem_rangeL.mp ms⟩
            obtain ⟨_, pr, _⟩ := ext_part ps mr
            refine z (dec_iff.mpr ((fitK_pre pr (by rw [List.length_append, List.length_singleton]; omega)).mp (dec_iff.mp hr p.length (by omega))))
      rw [key]
      cases (rangeL 0 one.1.toNat).findSome? fun s => if (!decide (s ∈ p) && dec (FitK one.2.l other.2.l (p ++ [s]) p.length)) = true then (ext one.1.toNat m (p ++ [s])).find? fun r => dec (∀ k, k < one.1.toNat → FitK one.2.l other.2.l r k) else none <;> rfl
    · intro s ms
      have ms := mem_rangeL.mp ms
      rw [fits_is hw hw' e hp (by omega)]
      simp only [Res.okb]
      cases q : (!decide (s ∈ p) && dec (FitK one.2.l other.2.l (p ++ [s]) p.length)) with
      | false => rfl
      | true =>
        rw [Bool.and_eq_true, Bool.not_eq_true', decide_eq_false_iff_not, dec_iff] at q
        simp only [if_true]
        have hpl := hp.le
        rw [catR_ok (by rw [List.length_singleton]; omega)]
        simp only [Res.okb]
        have ps : IsPart one.1.toNat (p ++ [s]) := ⟨List.nodup_append.mpr ⟨hp.nd, by simp, fun x hx y hy e => by cases List.mem_singleton.mp hy; exact q.1 (e ▸ hx)⟩, fun x mx => (List.mem_append.mp mx).elim (hp.rg x) fun z => by cases List.mem_singleton.mp z; exact ms⟩
        rw [dfs_is m fuel (p ++ [s]) ps (by rw [List.length_append, List.length_singleton]; omega) (by omega) ?_]
        · simp only [Res.okb]
          cases (ext one.1.toNat m (p ++ [s])).find? fun r => dec (∀ k, k < one.1.toNat → FitK one.2.l other.2.l r k) <;> rfl
        · intro k hk
          rw [List.length_append, List.length_singleton] at hk
          by_cases z : k < p.length
          · exact (fitK_pre (List.prefix_append p [s]) z).mpr (hf k z)
          · have : k = p.length := by omega
            subst this
            exact q.2
end
theorem likeness_is {one other : Int × Tup (Int × Int)} (hw : WebOk one) (hw' : WebOk other) (h6 : one.1 ≤ 6) (h6' : other.1 ≤ 6) : m_likeness one other = .ok (if one.1 = other.1 then (ext one.1.toNat one.1.toNat []).find? (fun r => dec (callW one r = other)) else none) := by
  unfold m_likeness
  rw [decide_eq_false (by omega : ¬ one.1 > 6), decide_eq_false (by omega : ¬ other.1 > 6)]
  simp only [Bool.false_eq_true, if_false, Res.okb]
  by_cases e : one.1 = other.1
  · have e1 : ScaEq.eq one.1 other.1 = true := decide_eq_true e
    rw [e1, if_pos e]
    simp only [Bool.not_true, Bool.false_eq_true, if_false, Res.okb]
    have cong : (ext one.1.toNat one.1.toNat []).find? (fun r => dec (∀ k, k < one.1.toNat → FitK one.2.l other.2.l r k)) = (ext one.1.toNat one.1.toNat []).find? (fun r => dec (callW one r = other)) := by
      have go : ∀ l : List (List Int), (∀ r ∈ l, IsOrd one.1.toNat r) → l.find? (fun r => dec (∀ k, k < one.1.toNat → FitK one.2.l other.2.l r k)) = l.find? (fun r => dec (callW one r = other)) := by
        intro l
        induction l with
        | nil => intro _; rfl
        | cons r l ih =>
          intro h
          have : dec (∀ k, k < one.1.toNat → FitK one.2.l other.2.l r k) = dec (callW one r = other) := by
            rw [Bool.eq_iff_iff, dec_iff, dec_iff]
            exact (fit_called hw hw' e (h r List.mem_cons_self)).symm
          rw [List.find?_cons, List.find?_cons, this, ih fun x m => h x (List.mem_cons_of_mem _ m)]
      exact go _ fun r m => ext_ord m
    by_cases el : one.2.l.length = other.2.l.length
    · have e2 : ScaEq.eq (one.2.l.length : Int) (other.2.l.length : Int) = true := decide_eq_true (by omega)
      rw [e2]
      simp only [Bool.not_true, Bool.false_eq_true, if_false]
      have n1 := hw.n1
      rw [dfs_is hw hw' e one.1.toNat 8 [] ⟨List.nodup_nil, fun x m => by cases m⟩ (by simp) (by omega) fun k hk => by cases hk]
      rw [cong]
    · have e2 : ScaEq.eq (one.2.l.length : Int) (other.2.l.length : Int) = false := decide_eq_false (by omega)
      rw [e2]
      simp only [Bool.not_false, if_true]
      congr 1
      symm
      rw [List.find?_eq_none]
      intro r mr hr
      have := dec_iff.mp hr
      rw [← this] at el
      refine el ?_
      show _ = (sortP _).length
      rw [(sortP_perm _).length_eq, List.length_map]
  · have e1 : ScaEq.eq one.1 other.1 = false := decide_eq_false e
    rw [e1, if_neg e]
    simp only [Bool.not_false, if_true, Res.okb]
theorem orders_is {n : Int} (h0 : 0 ≤ n) (h6 : n ≤ 6) : m_l_orders n = .ok (ext n.toNat n.toNat []) := by
  unfold m_l_orders
  simp only [Res.okb]
  rw [range_ok h0 (by omega)]
  simp only [Res.okb]
  have key : Sat (foldR (fun (s2 : (List (List Int))) (a3 : Int) => (Res.bind (foldR (fun (s5 : (List (List Int))) (a6 : (List Int)) => (Res.bind (Res.bind (lcT (fun a8 => (Res.ok (!decide (a8 ∈ a6)))) (fun a8 => (catR a6 (a8 :: []))) (rangeL 0 n.toNat)) fun v10 => (extR s5 v10)) fun l_longer7 => (Res.ok l_longer7))) [] s2) fun s5 => (Res.ok s5))) [[]] (rangeL 0 n.toNat)) (fun s => s = ext n.toNat n.toNat []) := by
    refine (Sat.foldR (fun i s => s = ext n.toNat i []) rfl fun i s a ha hs => ?_).imp fun s hs => by rw [rangeL_len] at hs; exact hs
    obtain ⟨hi, rfl⟩ := rangeL0 ha
    subst hs
    have hpow : n.toNat ^ i ≤ 6 ^ 6 := Nat.le_trans (Nat.pow_le_pow_left (by omega : n.toNat ≤ 6) i) (Nat.pow_le_pow_right (by decide) (by omega))
    have hel := ext_len n.toNat i []
    have h66 : 6 ^ 6 = 46656 := by decide
    have hg : ∀ p : List Int, (ext n.toNat 1 p).length ≤ 6 := fun p => by have := ext_len n.toNat 1 p; rw [Nat.pow_one] at this; omega
    rw [foldR_flat (g := fun p => ext n.toNat 1 p) (B := 1000000) (c := 6) ?_ (fun p _ => hg p) (by show 0 + _ ≤ 1000000; omega)]
    · exact .ok (by rw [List.nil_append]; exact ext_cat n.toNat 1 i [])
    · intro p mp s sl
      have ip := (ext_part ⟨List.nodup_nil, fun x m => by cases m⟩ mp).1
      have il := ip.le
      have : lcT (fun a8 => (Res.ok (!decide (a8 ∈ p)))) (fun a8 => (catR p (a8 :: []))) (rangeL 0 n.toNat) = .ok (ext n.toNat 1 p) := Sat.eq (.lcT (p' := fun s => !decide (s ∈ p)) (g' := fun s => p ++ [s]) (by rw [rangeL_len]; omega) (fun _ _ => rfl) (fun a _ _ => catR_ok (by rw [List.length_singleton]; omega)) (by
        rw [List.map_eq_flatMap]; rfl))
      rw [this]
      simp only [Res.okb]
      rw [extR_ok (by omega)]; rfl
  rw [key.eq]; rfl
theorem row_is {n : Nat} {r : List Int} (hr : IsOrd n r) (hn : n ≤ 40) : m_l_row (some r) r = .ok true := by
  have hl := hr.len
  have e1 : ScaEq.eq (r.length : Int) (r.length : Int) = true := decide_eq_true rfl
  unfold m_l_row
  have eu : unw (some r) = .ok r := rfl
  simp only [Option.isSome_some, Bool.and_self, Bool.not_true, Bool.false_eq_true, if_false, eu, Res.okb, e1]
  rw [range_ok (by omega) (by omega)]
  simp only [Res.okb]
  rw [loop_bad (fun _ => false) false ?_]
  · rw [show (rangeL 0 ((r.length : Int)).toNat).any (fun _ => false) = false by simp]; rfl
  · intro a m
    rw [Int.toNat_natCast] at m
    have m := mem_rangeL.mp m
    rw [nameOf_ix m.1 m.2]
    have e2 : ScaEq.eq (nameOf r a) (nameOf r a) = true := decide_eq_true rfl
    simp only [Res.okb, Bool.not_true, Bool.false_eq_true, if_false, e2]
    rfl
theorem right_is {one other : Int × Tup (Int × Int)} (hw : WebOk one) (hw' : WebOk other) (h6 : one.1 ≤ 6) (h6' : other.1 ≤ 6) : m_l_right one other = .ok true := by
  have n1 := hw.n1
  unfold m_l_right
  rw [likeness_is hw hw' h6 h6']
  simp only [Res.okb]
  by_cases e : one.1 = other.1
  · rw [if_pos e, show ScaEq.eq one.1 other.1 = true from decide_eq_true e, if_pos rfl, orders_is (by omega) h6]
    simp only [Res.okb]
    have hP : ∀ r ∈ ext one.1.toNat one.1.toNat [], eqD (callW one r) other = .ok (dec (callW one r = other)) := fun r _ => by
      rw [eqD_eq]
      congr 1
      rw [Bool.eq_iff_iff, decide_eq_true_iff, dec_iff]
    cases ef : (ext one.1.toNat one.1.toNat []).find? (fun r => dec (callW one r = other)) with
    | none =>
      rw [loop_find (P := fun r => dec (callW one r = other)) (g := fun _ => true) (s := none)]
      · rw [ef]; rfl
      · intro r m hr
        rw [called_is hw (ext_ord m)]
        simp only [Res.okb]
        rw [hP r m, hr]; rfl
      · intro r hr
        rw [ef] at hr; cases hr
    | some r0 =>
      have m0 := List.mem_of_find?_eq_some ef
      rw [loop_find (P := fun r => dec (callW one r = other)) (g := fun _ => true) (s := some r0)]
      · rw [ef]; rfl
      · intro r m hr
        rw [called_is hw (ext_ord m)]
        simp only [Res.okb]
        rw [hP r m, hr]; rfl
      · intro r hr
        rw [ef] at hr
        cases hr
        have hr := List.find?_some ef
        rw [called_is hw (ext_ord m0)]
        simp only [Res.okb]
        rw [hP r0 m0, hr]
        simp only [Res.okb, if_true]
        have eu : unw (some r0) = .ok r0 := rfl
        have el : m_likeness one other = .ok (some r0) := by rw [likeness_is hw hw' h6 h6', if_pos e, ef]
        unfold Res.next
        simp only [row_is (ext_ord m0) (by omega), el, Res.okb, Bool.not_true, Bool.false_eq_true, if_false, eu]
  · rw [if_neg e, show ScaEq.eq one.1 other.1 = false from decide_eq_false e]
    rfl
theorem refused_is {a b : Int × Tup (Int × Int)} (h : 6 < a.1 ∨ 6 < b.1) : m_l_refused a b = .ok true := by
  have e : m_likeness a b = .exc ⟨PySem.Str.ofString "TooMany", .no⟩ := by
    unfold m_likeness
    by_cases q : a.1 > 6
    · rw [decide_eq_true q]; rfl
    · rw [decide_eq_false q, decide_eq_true (by omega : b.1 > 6)]; rfl
  unfold m_l_refused
  rw [e]
  rfl
/-- ties, as they are gathered -/
structure TiesL (n : Int) (i : Nat) (ts : List (Int × Int)) : Prop where
  len : ts.length ≤ i
  ok : ∀ t ∈ ts, TieOk n t
  nd : ts.Nodup
theorem TiesL.le {n : Int} {i j : Nat} {d : List (Int × Int)} (h : TiesL n i d) (l : i ≤ j) : TiesL n j d := ⟨Nat.le_trans h.len l, h.ok, h.nd⟩
theorem TiesL.web {n : Int} {i : Nat} {d : List (Int × Int)} (h : TiesL n i d) (h1 : 1 ≤ n) (h2 : n ≤ 40) (hi : i ≤ 200) : WebOk (n, ⟨sortP d⟩) :=
  ⟨h1, h2, by
    show (sortP d).length ≤ 200
    rw [(sortP_perm _).length_eq]
    exact Nat.le_trans h.len hi, fun t m => h.ok t ((sortP_perm _).mem_iff.mp m), (sortP_perm _).nodup_iff.mpr h.nd, sortP_pw _⟩
theorem range_name {n : Int} {x : Int} (h0 : 0 ≤ x) (h1 : x < n) : G.idx (rangeL 0 n.toNat) x = .ok x := by
  refine idx_int h0 ?_
  exact rangeL_at h0 (by omega)
theorem ties_is {n : Int} (h1 : 1 ≤ n) (h2 : n ≤ 40) (cs : List Int) (hc : cs.length ≤ 62) : Sat (m_l_ties n cs (rangeL 0 n.toNat)) (TiesL n 62) := by
  unfold m_l_ties
  refine .bok (.bind (P := TiesL n 62) ?_ fun s p => .ok p)
  refine (Sat.foldR (fun i s => TiesL n i s) ⟨Nat.le_refl _, (fun t m => by cases m), List.nodup_nil⟩ ?_).imp fun s h => h.le hc
  intro i s c hi hs
  have hi := (List.getElem?_eq_some_iff.mp hi).1
  refine .bind (numbers c [n, n] (show 2 ≤ 100000 by decide) (fun z mz => by
    have : z = n := by simpa using mz
    omega)) fun ds hd => ?_
  obtain ⟨x, y, rfl⟩ := two hd.1
  have gx := hd.2 0 x n rfl rfl
  have gy := hd.2 1 y n rfl rfl
  have i0 : G.idx [x, y] 0 = .ok x := rfl
  have i1 : G.idx [x, y] 1 = .ok y := rfl
  simp only [i0, i1, Res.okb, range_name gx.1 gx.2, range_name gy.1 gy.2]
  have sl := hs.len
  by_cases e : x = y
  · rw [show ScaEq.eq x y = true from decide_eq_true e]
    exact .ok (hs.le (by omega))
  · rw [show ScaEq.eq x y = false from decide_eq_false e]
    simp only [Bool.not_false, if_true]
    rw [ninD_dec]
    simp only [Res.okb]
    by_cases q : (min x y, max x y) ∈ s
    · rw [dec_true q]
      exact .ok (hs.le (by omega))
    · rw [dec_false q]
      simp only [Bool.not_false, if_true]
      rw [appR_ok (by omega)]
      refine .ok ⟨?_, fun t m => ?_, ?_⟩
      · rw [List.length_append, List.length_singleton]; omega
      · rcases List.mem_append.mp m with m | m
        · exact hs.ok t m
        · cases List.mem_singleton.mp m
          exact tie_mm gx.1 gx.2 gy.1 gy.2 e
      · exact List.nodup_append.mpr ⟨hs.nd, by simp, fun a ha b hb z => by cases List.mem_singleton.mp hb; exact q (z ▸ ha)⟩
theorem web_up {w : Int × Tup (Int × Int)} (h : WebOk w) {n : Int} (h1 : w.1 ≤ n) (h2 : n ≤ 40) : WebOk (n, w.2) := ⟨by have := h.n1; show 1 ≤ n; omega, h2, h.len, fun t m => by
  obtain ⟨a, b, c⟩ := h.ok t m
  exact ⟨a, b, by show t.2 < n; omega⟩, h.nd, h.up⟩
theorem other_is {w : Int × Tup (Int × Int)} (hw : WebOk w) (h6 : w.1 ≤ 6) (wl : w.2.l.length ≤ 100) {ds : List Int} (hd : ds.length = 4) (h3 : ∀ x, ds[3]? = some x → 0 ≤ x ∧ x < 6) : Sat (m_l_other w ds) WebOk := by
  obtain ⟨a, b, c, d, rfl⟩ := four hd
  have hd3 := h3 d rfl
  have n1 := hw.n1
  unfold m_l_other
  refine .bguard rfl (.bok (.bok ?_))
  simp only [List.headD_cons, List.tail_cons]
  rw [modR_of (by omega), modR_of (by omega)]
  simp only [Res.okb]
  have m0 := Int.emod_nonneg (min b c) (b := w.1) (by omega)
  have m1 := Int.emod_lt_of_pos (min b c) (b := w.1) (by omega)
  have x0 := Int.emod_nonneg (max b c) (b := w.1) (by omega)
  have x1 := Int.emod_lt_of_pos (max b c) (b := w.1) (by omega)
  generalize min b c % w.1 = p at m0 m1 ⊢
  generalize max b c % w.1 = q at x0 x1 ⊢
  have base : TiesL w.1 100 w.2.l := ⟨wl, hw.ok, hw.nd⟩
  refine .bind (P := TiesL w.1 101) ?_ fun s hs => ?_
  · by_cases e : a = 1
    · simp only [sca_int, decide_eq_true e, if_true, Res.okb]
      by_cases l : p < q
      · rw [decide_eq_true l]
        simp only [if_true]
        rw [inD_dec]
        simp only [Res.okb]
        by_cases m : (p, q) ∈ w.2.l
        · rw [dec_true m]
          simp only [if_true]
          unfold remR
          rw [NoStr.lay, NoStr.lay]
          have key : ∃ j, w.2.l.findIdx? (fun z => PyData.eqv (Dat.py z) (Dat.py (p, q))) = some j := by
            cases h : w.2.l.findIdx? (fun z => PyData.eqv (Dat.py z) (Dat.py (p, q))) with
            | some j => exact ⟨j, rfl⟩
            | none =>
              have := List.findIdx?_eq_none_iff.mp h _ m
              rw [(DatEq.iff (p, q) (p, q)).mpr rfl] at this
              cases this
          obtain ⟨j, hj⟩ := key
          rw [hj]
          exact .ok ⟨Nat.le_trans (L2.len_erase _ _) (by omega), fun t mt => hw.ok t (List.mem_of_mem_eraseIdx mt), hw.nd.sublist (List.eraseIdx_sublist _ _)⟩
        · rw [dec_false m]
          simp only [Bool.false_eq_true, if_false]
          rw [appR_ok (by omega)]
          refine .ok ⟨?_, fun t mt => ?_, ?_⟩
          · rw [List.length_append, List.length_singleton]; omega
          · rcases List.mem_append.mp mt with mt | mt
            · exact hw.ok t mt
            · cases List.mem_singleton.mp mt
              exact ⟨m0, l, x1⟩
          · exact List.nodup_append.mpr ⟨hw.nd, by simp, fun a ha b hb z => by cases List.mem_singleton.mp hb; exact m (z ▸ ha)⟩
      · rw [decide_eq_false l]
        exact .ok (base.le (by omega))
    · simp only [sca_int, decide_eq_false e, Bool.false_eq_true, if_false, Res.okb]
      exact .ok (base.le (by omega))
  · have sl := hs.len
    have last : ∀ s', TiesL w.1 101 s' → Sat (Res.bind (if (ScaEq.eq a (3 : Int)) = true then (Res.ok (decide ((w.1) < (6 : Int)))) else (Res.ok false)) fun v18 => (if v18 = true then (Res.ok (((w.1) + (1 : Int)), (w.2))) else (if (ScaEq.eq a (4 : Int)) = true then (Res.ok (((7 : Int) + d), (w.2))) else (Res.ok ((w.1), (⟨(sortP s')⟩ : (G.Tup (Int × Int)))))))) WebOk := by
      intro s' hs'
      refine .bind (P := fun b => b = true → w.1 < 6) ?_ fun b hb => ?_
      · refine .ite (fun _ => .ok fun h => of_decide_eq_true h) (fun _ => .ok fun h => by cases h)
      · refine .ite (fun h => ?_) (fun _ => .ite (fun _ => ?_) (fun _ => ?_))
        · have := hb h
          exact .ok (web_up hw (by omega) (by omega))
        · exact .ok (web_up hw (by omega) (by omega))
        · exact .ok (hs'.web n1 (by omega) (by omega))
    by_cases e : a = 2
    · simp only [sca_int, decide_eq_true e, if_true, Res.okb]
      rw [neD_dec]
      simp only [Res.okb]
      by_cases z : s = []
      · rw [dec_true z]
        exact last _ hs
      · rw [dec_false z]
        simp only [Bool.not_false, if_true]
        have lp : 0 < s.length := by
          cases s with
          | nil => exact (z rfl).elim
          | cons x l => simp
        rw [modR_of (by omega)]
        simp only [Res.okb]
        have k0 := Int.emod_nonneg b (b := (s.length : Int)) (by omega)
        have k1 := Int.emod_lt_of_pos b (b := (s.length : Int)) (by omega)
        rw [popR_ok k0 k1 (by omega)]
        simp only [Res.okb]
        exact last _ ⟨Nat.le_trans (L2.len_erase _ _) (by omega), fun t mt => hs.ok t (List.mem_of_mem_eraseIdx mt), hs.nd.sublist (List.eraseIdx_sublist _ _)⟩
    · simp only [sca_int, decide_eq_false e, Bool.false_eq_true, if_false, Res.okb]
      exact last _ hs
theorem call_len {w : Int × Tup (Int × Int)} {r : List Int} : (callW w r).2.l.length = w.2.l.length := by
  show (sortP _).length = _
  rw [(sortP_perm _).length_eq, List.length_map]
def ring6 : Int × Tup (Int × Int) := (6, ⟨[(0, 1), (0, 5), (1, 2), (2, 3), (3, 4), (4, 5)]⟩)
def rings3 : Int × Tup (Int × Int) := (6, ⟨[(0, 1), (0, 2), (1, 2), (3, 4), (3, 5), (4, 5)]⟩)
theorem ring6_ok : WebOk ring6 := ⟨by decide, by decide, by decide, (fun t m => by
  have m : t ∈ ([(0, 1), (0, 5), (1, 2), (2, 3), (3, 4), (4, 5)] : List (Int × Int)) := m
  simp only [List.mem_cons, List.not_mem_nil, or_false] at m
  rcases m with rfl | rfl | rfl | rfl | rfl | rfl <;> exact ⟨by decide, by decide, by decide⟩), by decide, by decide⟩
theorem rings3_ok : WebOk rings3 := ⟨by decide, by decide, by decide, (fun t m => by
  have m : t ∈ ([(0, 1), (0, 2), (1, 2), (3, 4), (3, 5), (4, 5)] : List (Int × Int)) := m
  simp only [List.mem_cons, List.not_mem_nil, or_false] at m
  rcases m with rfl | rfl | rfl | rfl | rfl | rfl <;> exact ⟨by decide, by decide, by decide⟩), by decide, by decide⟩
theorem bare {n : Int} (h1 : 1 ≤ n) (h2 : n ≤ 40) : WebOk (n, ⟨[]⟩) := bareOk h1 h2
theorem law_true (ns : List Int) (hl : ns.length ≤ 63) : m_law ⟨ns⟩ = .ok true := by
  refine Sat.eq ?_
  unfold m_law
  refine .bassoc (.bassoc (.bind (cell0 ⟨ns⟩) fun c _ => .bok (.bind (numbers c [6, 8, 6, 6, 6, 1, 2, 3, 4, 5, 6] (by decide) (by decide)) fun ds hd => ?_)))
  have hdl : ds.length = 11 := hd.1
  obtain ⟨d0, g0, r0⟩ := hd.get (i := 0) (z := 6) rfl
  obtain ⟨d1, g1, _⟩ := hd.get (i := 1) (z := 8) rfl
  obtain ⟨d4, g4, r4⟩ := hd.get (i := 4) (z := 6) rfl
  have i0 : G.idx ds 0 = .ok d0 := idx_int (by decide) g0
  have i1 : G.idx ds 1 = .ok d1 := idx_int (by decide) g1
  have i4 : G.idx ds 4 = .ok d4 := idx_int (by decide) g4
  simp only [i0, i1, i4, Res.okb]
  have h1 : 1 ≤ 1 + d0 := by omega
  have h6 : 1 + d0 ≤ 6 := by omega
  generalize 1 + d0 = n at h1 h6 ⊢
  rw [guardR_of (by unfold small62 big; simp only [Bool.and_eq_true, decide_eq_true_eq]; omega)]
  simp only [Res.okb]
  obtain ⟨ts, et, hts⟩ := ties_is h1 (by omega) (cut ns (some (1 : Int)) (some (63 : Int))) (cut_len ns 1 63)
  rw [et]
  simp only [Res.okb]
  have hw : WebOk (n, ⟨sortP ts⟩) := hts.web h1 (by omega) (by omega)
  have hwl : (sortP ts).length ≤ 62 := by rw [(sortP_perm _).length_eq]; exact hts.len
  have el : (cut ds (some (5 : Int)) (some ((5 : Int) + n))).length = n.toNat := by
    have := cut_lenE ds (lo := 5) (hi := 5 + n.toNat) (by omega) (by omega)
    rw [show ((5 + n.toNat : Nat) : Int) = 5 + n by omega] at this
    rw [show (((5 : Nat)) : Int) = 5 from rfl] at this
    omega
  obtain ⟨o, eo, ho⟩ := order_is (cut ds (some (5 : Int)) (some ((5 : Int) + n))) (by omega)
  rw [el] at ho
  rw [eo]
  simp only [Res.okb]
  rw [called_is hw ho]
  simp only [Res.okb]
  have hw2 := callW_ok hw ho
  have ec : (cut ds (some (1 : Int)) (some (5 : Int))).length = 4 := cut_lenE ds (lo := 1) (hi := 5) (by decide) (by omega)
  have gc : ∀ x, (cut ds (some (1 : Int)) (some (5 : Int)))[3]? = some x → 0 ≤ x ∧ x < 6 := fun x hx => by
    have := cut_get ds (lo := 1) (hi := 5) (i := 3) (by decide) (by omega)
    have : (cut ds (some (1 : Int)) (some (5 : Int)))[3]? = ds[4]? := this
    rw [this, g4] at hx
    cases hx; exact r4
  obtain ⟨oth, eoth, hoth⟩ := other_is hw2 (show n ≤ 6 from h6) (by rw [call_len]; show (sortP ts).length ≤ 100; omega) ec gc
  rw [eoth]
  simp only [Res.okb]
  refine .bind (P := WebOk) ?_ fun a ha => ?_
  · refine .ite (fun _ => .ok (web_up hw (show n ≤ 7 + d4 by omega) (by omega))) (fun _ => .ok hw)
  · refine .bind (P := fun s => WebOk s.1 ∧ WebOk s.2) ?_ fun s ⟨hs1, hs2⟩ => ?_
    · refine .ite (fun _ => ?_) (fun _ => .ok ⟨ha, hoth⟩)
      have ed : (cut ds (some (5 : Int)) none).length = 6 := by rw [show (5 : Int) = ((5 : Nat) : Int) from rfl, cut_from, List.length_drop, hdl]
      obtain ⟨o6, e6, ho6⟩ := order_is (cut ds (some (5 : Int)) none) (by omega)
      rw [ed] at ho6
      rw [e6]
      simp only [Res.okb]
      have e7 := called_is rings3_ok (show IsOrd rings3.1.toNat o6 from ho6)
      unfold rings3 at e7
      rw [e7]
      exact .ok ⟨ring6_ok, callW_ok rings3_ok ho6⟩
    · refine .bind (P := fun b => b = true ↔ 6 < s.1.1 ∨ 6 < s.2.1) ?_ fun b hb => ?_
      · by_cases q : s.1.1 > 6
        · rw [decide_eq_true q]
          exact .ok ⟨fun _ => .inl q, fun _ => rfl⟩
        · rw [decide_eq_false q]
          by_cases q2 : s.2.1 > 6
          · rw [decide_eq_true q2]
            exact .ok ⟨fun _ => .inr q2, fun _ => rfl⟩
          · rw [decide_eq_false q2]
            exact .ok ⟨(fun h => by cases h), fun h => by omega⟩
      · refine .ite (fun h => ?_) (fun h => ?_)
        · have hg := hb.mp h
          rw [refused_is (.inl (show 6 < 7 + d4 by omega)), refused_is (.inl (show (6 : Int) < 7 by decide)), refused_is hg, refused_is hg.symm, right_is (bareOk h1 (by omega)) (bareOk h1 (by omega)) h6 h6]
          exact .ok rfl
        · have hg : ¬ (6 < s.1.1 ∨ 6 < s.2.1) := fun z => by rw [hb.mpr z] at h; cases h
          rw [right_is hs1 hs2 (by omega) (by omega), right_is hs2 hs1 (by omega) (by omega)]
          exact .ok rfl
end K81


open PySem PySem.W PyProof.Rows in
set_option maxRecDepth 100000 in
set_option maxHeartbeats 0 in
theorem PySem.Challenge.cw_ringstones_k81_whole_likeness_holds : PySem.Challenge.rw_ringstones_k81_whole_likeness.Holds := by
  w_on; o_law; k_head; (case hw => w_witness2)
  k_fill
  refine L2.walk_of (l := PySem.Challenge.rw_ringstones_k81_whole_likeness) (n := 63) (k := 13) (x := "_law_script") (CX := fun w => L2.CX PySem.Challenge.rw_ringstones_k81_whole_likeness.prog w) (sp := fun w => G.spLaw _) rfl (by decide) rfl ⟨rfl, by decide, by decide⟩ (fun w h Y => PySem.W.kIn_of Y) ?F (fun _ _ a ns hl _ hS => ⟨a, ns, rfl, hS, hl, fun _ _ h => h⟩) (fun _ _ _ _ _ h => by
    obtain ⟨_, _, _, _, _, _, _, _, _, _, _, _, z⟩ := h
    exact z.elim)
  case F =>
    intro w mg fa h KX G hmg
    refine' K81.all_mk KX G hmg K81.law_true ?a0 ?l0 ?c0 ?k0 ?a1 ?l1 ?c1 ?k1 ?a2 ?l2 ?c2 ?k2 ?a3 ?l3 ?c3 ?k3 ?a4 ?l4 ?c4 ?k4 ?a5 ?l5 ?c5 ?k5 ?a6 ?l6 ?c6 ?k6 ?a7 ?l7 ?c7 ?k7 ?a8 ?l8 ?c8 ?k8 ?a9 ?l9 ?c9 ?k9 ?a10 ?l10 ?c10 ?k10 ?a11 ?l11 ?c11 ?k11 ?a12 ?l12 ?c12 ?k12 ?a13 ?l13 ?c13 ?k13 ?a14 ?l14 ?c14 ?k14 ?z_min ?z_max ?z_len ?z_range ?z_isinstance ?z_list ?z_int ?z_bool ?z_sorted ?z_tuple ?xa_TooMany ?xk_TooMany ?xb_TooMany ?xt_TooMany ?xi_TooMany ?xg_TooMany ?xr_TooMany ?xd_TooMany ?xc_TooMany ?xm_TooMany ?xs_TooMany ?xx_TooMany ?xa_RingError ?xk_RingError ?xb_RingError ?xt_RingError ?xi_RingError ?xg_RingError ?xr_RingError ?xd_RingError ?xc_RingError ?xm_RingError ?xs_RingError ?xa_TooWide ?xk_TooWide ?xb_TooWide ?xt_TooWide ?xi_TooWide ?xg_TooWide ?xr_TooWide ?xd_TooWide ?xc_TooWide ?xm_TooWide ?xs_TooWide ?xn ?xz ?sb_TooMany_RingError ?sb_TooMany_ValueError ?sb_TooMany_TooWide ?xo_ValueError
    (case a0 => k_is)
    (case l0 => k_is)
    (case c0 => k_is)
    (case k0 => k_is)
    (case a1 => k_is)
    (case l1 => k_is)
    (case c1 => k_is)
    (case k1 => k_is)
    (case a2 => k_is)
    (case l2 => k_is)
    (case c2 => k_is)
    (case k2 => k_is)
    (case a3 => k_is)
    (case l3 => k_is)
    (case c3 => k_is)
    (case k3 => k_is)
    (case a4 => k_is)
    (case l4 => k_is)
    (case c4 => k_is)
    (case k4 => k_is)
    (case a5 => k_is)
    (case l5 => k_is)
    (case c5 => k_is)
    (case k5 => k_is)
    (case a6 => k_is)
    (case l6 => k_is)
    (case c6 => k_is)
    (case k6 => k_is)
    (case a7 => k_is)
    (case l7 => k_is)
    (case c7 => k_is)
    (case k7 => k_is)
    (case a8 => k_is)
    (case l8 => k_is)
    (case c8 => k_is)
    (case k8 => k_is)
    (case a9 => k_is)
    (case l9 => k_is)
    (case c9 => k_is)
    (case k9 => k_is)
    (case a10 => k_is)
    (case l10 => k_is)
    (case c10 => k_is)
    (case k10 => k_is)
    (case a11 => k_is)
    (case l11 => k_is)
    (case c11 => k_is)
    (case k11 => k_is)
    (case a12 => k_is)
    (case l12 => k_is)
    (case c12 => k_is)
    (case k12 => k_is)
    (case a13 => k_is)
    (case l13 => k_is)
    (case c13 => k_is)
    (case k13 => k_is)
    (case a14 => k_is)
    (case l14 => k_is)
    (case c14 => k_is)
    (case k14 => k_is)
    (case z_min => k_is)
    (case z_max => k_is)
    (case z_len => k_is)
    (case z_range => k_is)
    (case z_isinstance => k_is)
    (case z_list => k_is)
    (case z_int => k_is)
    (case z_bool => k_is)
    (case z_sorted => k_is)
    (case z_tuple => k_is)
    (case xa_TooMany => first | rfl | k_is)
    (case xk_TooMany => first | rfl | k_is)
    (case xb_TooMany => first | rfl | k_is)
    (case xt_TooMany => first | rfl | k_is)
    (case xi_TooMany => first | rfl | k_is)
    (case xg_TooMany => first | rfl | k_is)
    (case xr_TooMany => first | rfl | k_is)
    (case xd_TooMany => first | rfl | k_is)
    (case xc_TooMany => first | rfl | k_is)
    (case xm_TooMany => first | rfl | k_is)
    (case xs_TooMany => first | rfl | k_is)
    (case xx_TooMany => k_exc)
    (case xa_RingError => first | rfl | k_is)
    (case xk_RingError => first | rfl | k_is)
    (case xb_RingError => first | rfl | k_is)
    (case xt_RingError => first | rfl | k_is)
    (case xi_RingError => first | rfl | k_is)
    (case xg_RingError => first | rfl | k_is)
    (case xr_RingError => first | rfl | k_is)
    (case xd_RingError => first | rfl | k_is)
    (case xc_RingError => first | rfl | k_is)
    (case xm_RingError => first | rfl | k_is)
    (case xs_RingError => first | rfl | k_is)
    (case xa_TooWide => first | rfl | k_is)
    (case xk_TooWide => first | rfl | k_is)
    (case xb_TooWide => first | rfl | k_is)
    (case xt_TooWide => first | rfl | k_is)
    (case xi_TooWide => first | rfl | k_is)
    (case xg_TooWide => first | rfl | k_is)
    (case xr_TooWide => first | rfl | k_is)
    (case xd_TooWide => first | rfl | k_is)
    (case xc_TooWide => first | rfl | k_is)
    (case xm_TooWide => first | rfl | k_is)
    (case xs_TooWide => first | rfl | k_is)
    (case xn => first | rfl | k_is)
    (case xz => first | rfl | k_is)
    (case sb_TooMany_RingError => first | rfl | k_is)
    (case sb_TooMany_ValueError => first | rfl | k_is)
    (case sb_TooMany_TooWide => first | rfl | k_is)
    (case xo_ValueError => first | rfl | k_is)
