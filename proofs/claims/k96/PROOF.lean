import PyProof.Rows.All
import Wide.All
import OpenK.AllK
import Wide.FinOn
import HandS.ForMost
import HandS.ForExc
import HandS.Wide
import HandS.CallSlots
import HandS.SortRule
import HandS.SortInts
import HandS.NoneIn
import HandS.IsInst
import HandS.Deep
import HandS.TupLe
import HandS.Conv
import HandS.More
import HandS.Defaults
import HandS.Style
import HandS.StrMore
import HandS.RevRange
import KE.KEqNest
import HandS.DictComp
import HandS.ExcOwn
import HandS.TryMany
import HandS.TryOnly
import HandS.ExcIs
import HandS.TupAny
import HandS.Replace
import HandS.WordsDict
import HandS.TupLen
import HandS.Records
import HandS.TupMul
import PyProof.EqAt
import PyProof.EqKinds
import PyProof.TupleCall
import HandS.ExcField
import KE.KExcIs
import HandS.Iter
import HandS.ExcValue
import KE.DataFind
import KE.DataMinMax
import KE.SortData
import HandS.Keys
import HandS.SortKw
import HandS.WideBits
import PyProof.ReprRoads
import PyProof.CallFns
import HandS.Ends
import HandS.SetFor
import HandS.Strs
import HandS.HotCalls
import KE.KDictKeyed
import KE.KDictDisplayH
import KE.KDictWalk
import HandS.Flow
import PyProof.Rows.StrFit
import PySem.Challenge.RW_ringstones_k96_squares_of_two_rows
set_option Elab.async false
set_option linter.all false
set_option maxRecDepth 100000
set_option maxHeartbeats 4000000
namespace G
open PySem PySem.Spec PyProof.Rows L2
abbrev Frag := PySem.W.Frag
inductive Pay where
  | no | int (i : Int) | strs (xs : List Str)
structure Exn where
  cls : Str
  pay : Pay
inductive Res (α : Type) where
  | ok (a : α) | exc (x : Exn) | stuck
def Res.bind {α β : Type} (m : Res α) (k : α → Res β) : Res β :=
  match m with
  | .ok a => k a
  | .exc x => .exc x
  | .stuck => .stuck
@[simp] theorem Res.ok_bind {α β : Type} (a : α) (k : α → Res β) : (Res.ok a).bind k = k a := rfl
@[simp] theorem Res.exc_bind {α β : Type} (x : Exn) (k : α → Res β) : (Res.exc x : Res α).bind k = .exc x := rfl
@[simp] theorem Res.stuck_bind {α β : Type} (k : α → Res β) : (Res.stuck : Res α).bind k = .stuck := rfl
theorem Res.okb {α β : Type} (a : α) (k : α → Res β) : (Res.ok a).bind k = k a := Eq.trans (Eq.refl ((Res.ok a).bind k)) (Eq.refl (k a))
theorem Res.bind_assoc {α β γ : Type} (m : Res α) (k : α → Res β) (l : β → Res γ) : (m.bind k).bind l = m.bind fun a => (k a).bind l := by cases m <;> rfl
def guardR {α : Type} (c : Bool) (m : Res α) : Res α := if c then m else .stuck
@[simp] theorem guardR_true {α : Type} (m : Res α) : guardR true m = m := rfl
@[simp] theorem guardR_false {α : Type} (m : Res α) : guardR false m = .stuck := rfl
theorem guardR_of {α : Type} {c : Bool} {m : Res α} (h : c = true) : guardR c m = m := by rw [h]; rfl

def All2 {α β : Type} (P : α → β → Prop) : List α → List β → Prop
  | [], [] => True
  | a :: as, b :: bs => P a b ∧ All2 P as bs
  | _, _ => False
section
variable {α β : Type} {P R : α → β → Prop}
theorem All2.imp (h : ∀ a b, P a b → R a b) : ∀ {as : List α} {bs : List β}, All2 P as bs → All2 R as bs
  | [], [], _ => trivial
  | _ :: _, _ :: _, ⟨x, y⟩ => ⟨h _ _ x, All2.imp h y⟩
  | [], _ :: _, x => x.elim
  | _ :: _, [], x => x.elim
theorem All2.length : ∀ {as : List α} {bs : List β}, All2 P as bs → as.length = bs.length
  | [], [], _ => rfl
  | _ :: _, _ :: _, ⟨_, y⟩ => congrArg (· + 1) (All2.length y)
  | [], _ :: _, x => x.elim
  | _ :: _, [], x => x.elim
theorem All2.get : ∀ {as : List α} {bs : List β} {i : Nat} {b : β}, All2 P as bs → bs[i]? = some b → ∃ a, as[i]? = some a ∧ P a b
  | _ :: _, _ :: _, 0, b, ⟨x, _⟩, h => by
    have e : _ = b := Option.some.inj h
    subst e
    exact ⟨_, rfl, x⟩
  | _ :: as, _ :: bs, i + 1, b, ⟨_, y⟩, h => All2.get (as := as) (bs := bs) (i := i) y h
  | [], [], i, b, _, h => by simp at h
  | [], _ :: _, _, _, x, _ => x.elim
  | _ :: _, [], _, _, x, _ => x.elim
theorem All2.append : ∀ {as as' : List α} {bs bs' : List β}, All2 P as bs → All2 P as' bs' → All2 P (as ++ as') (bs ++ bs')
  | [], _, [], _, _, h => h
  | _ :: _, _, _ :: _, _, ⟨x, y⟩, h => ⟨x, All2.append y h⟩
  | [], _, _ :: _, _, x, _ => x.elim
  | _ :: _, _, [], _, x, _ => x.elim
theorem All2.take : ∀ (n : Nat) {as : List α} {bs : List β}, All2 P as bs → All2 P (as.take n) (bs.take n)
  | 0, _, _, _ => by rw [List.take_zero, List.take_zero]; exact trivial
  | n + 1, [], [], _ => trivial
  | n + 1, _ :: as, _ :: bs, ⟨x, y⟩ => ⟨x, All2.take n y⟩
  | _ + 1, [], _ :: _, x => x.elim
  | _ + 1, _ :: _, [], x => x.elim
theorem All2.drop : ∀ (n : Nat) {as : List α} {bs : List β}, All2 P as bs → All2 P (as.drop n) (bs.drop n)
  | 0, _, _, h => h
  | n + 1, [], [], _ => trivial
  | n + 1, _ :: as, _ :: bs, ⟨x, y⟩ => All2.drop n y
  | _ + 1, [], _ :: _, x => x.elim
  | _ + 1, _ :: _, [], x => x.elim
theorem All2.set : ∀ (i : Nat) {as : List α} {bs : List β} {a : α} {b : β}, All2 P as bs → P a b → All2 P (as.set i a) (bs.set i b)
  | _, [], [], _, _, _, _ => by simp [All2]
  | 0, _ :: _, _ :: _, _, _, ⟨x, y⟩, h => ⟨h, y⟩
  | i + 1, _ :: _, _ :: _, _, _, ⟨x, y⟩, h => ⟨x, All2.set i y h⟩
  | _, [], _ :: _, _, _, x, _ => x.elim
  | _, _ :: _, [], _, _, x, _ => x.elim
end
theorem All2.map_eq {α : Type} {f : α → V} : ∀ {vs : List V} {as : List α}, All2 (fun v a => v = f a) vs as → vs = as.map f
  | [], [], _ => rfl
  | _ :: _, _ :: _, ⟨x, y⟩ => by rw [x, All2.map_eq y]; rfl
  | [], _ :: _, x => x.elim
  | _ :: _, [], x => x.elim
theorem All2.of_map {α : Type} {f : α → V} : ∀ {as : List α}, All2 (fun v a => v = f a) (as.map f) as
  | [] => trivial
  | _ :: _ => ⟨rfl, All2.of_map⟩

def isT : HO → Bool
  | .tup _ => true
  | .frz _ _ => true
  | .xd _ => true
  | _ => false
def tups (H : Hp) : Hp := fun a => match H a with
  | some u => if isT u then some u else none
  | none => none
theorem tups_le (H : Hp) : Same (tups H) H := fun a u h => by
  unfold tups at h
  split at h
  · rename_i w e
    split at h
    · rw [e]; exact h
    · cases h
  · cases h
theorem tups_some {H : Hp} {a : Addr} {u : HO} (h : H a = some u) (t : isT u = true) : tups H a = some u := by
  unfold tups; rw [h]; simp [t]
theorem tups_isT {H : Hp} {a : Addr} {u : HO} (h : tups H a = some u) : isT u = true := by
  unfold tups at h
  split at h
  · split at h
    · cases h; assumption
    · cases h
  · cases h
theorem tups_mono {H H' : Hp} (h : Same H H') : Same (tups H) (tups H') := fun a u e => tups_some (h _ _ (tups_le H _ _ e)) (tups_isT e)
def noHp : Hp := fun _ => none
def join (F N : Hp) : Hp := fun a => match F a with
  | some u => some u
  | none => N a
theorem join_l {F N : Hp} : Same F (join F N) := fun a u h => by unfold join; rw [h]
theorem join_le {F N H : Hp} (h1 : Same F H) (h2 : Same N H) : Same (join F N) H := fun a u h => by
  unfold join at h
  split at h
  · rename_i w e; cases h; exact h1 _ _ e
  · exact h2 _ _ h
theorem join_r {F N H : Hp} (h1 : Same F H) (h2 : Same N H) : Same N (join F N) := fun a u h => by
  unfold join
  split
  · rename_i w e
    rw [← h1 _ _ e, h2 _ _ h]
  · exact h
theorem join_or {F N : Hp} {a : Addr} {u : HO} (h : join F N a = some u) : F a = some u ∨ N a = some u := by
  unfold join at h
  split at h
  · rename_i w e; cases h; exact .inl e
  · exact .inr h

class Enc (α : Type) where
  rep : Frag → Hp → V → α → Prop
  mono : ∀ {K : Frag} {H H' : Hp} {v : V} {a : α}, Same H H' → rep K H v a → rep K H' v a
class Imm (α : Type) [Enc α] : Prop where
  imm : ∀ {K : Frag} {H : Hp} {v : V} {a : α}, Enc.rep K H v a → Enc.rep K (tups H) v a
class Flat (α : Type) [Enc α] where
  v : α → V
  flat : ∀ {K : Frag} {H : Hp} {u : V} {a : α}, Enc.rep K H u a ↔ u = v a
instance : Enc Int := ⟨fun _ _ v i => v = .int i, fun _ h => h⟩
instance : Enc Bool := ⟨fun _ _ v i => v = .bl i, fun _ h => h⟩
instance : Enc Str := ⟨fun _ _ v i => v = .str i, fun _ h => h⟩
instance : Enc Unit := ⟨fun _ _ v _ => v = .non, fun _ h => h⟩
instance : Flat Int := ⟨.int, Iff.rfl⟩
instance : Flat Bool := ⟨.bl, Iff.rfl⟩
instance : Flat Str := ⟨.str, Iff.rfl⟩
instance : Flat Unit := ⟨fun _ => .non, Iff.rfl⟩
instance {α : Type} [Enc α] [Flat α] : Imm α := ⟨fun h => Flat.flat.mpr (Flat.flat.mp h)⟩
instance {α : Type} [Enc α] : Enc (Option α) :=
  ⟨fun K H v o => match o with
    | none => v = .non
    | some a => v ≠ .non ∧ Enc.rep K H v a,
   fun {K H H' v o} s h => by
    cases o with
    | none => exact h
    | some a => exact ⟨h.1, Enc.mono s h.2⟩⟩
instance {α : Type} [Enc α] [Imm α] : Imm (Option α) := ⟨fun {K H v o} h => by
  cases o with
  | none => exact h
  | some a => exact ⟨h.1, Imm.imm h.2⟩⟩
theorem All2.mono {α : Type} [Enc α] {K : Frag} {H H' : Hp} {vs : List V} {as : List α} (s : Same H H') (h : All2 (fun v a => Enc.rep K H v a) vs as) : All2 (fun v a => Enc.rep K H' v a) vs as :=
  All2.imp (fun _ _ x => Enc.mono s x) h
instance {α : Type} [Enc α] : Enc (List α) :=
  ⟨fun K H v as => ∃ p vs, v = .ref p ∧ H p = some (.lst vs) ∧ All2 (fun v a => Enc.rep K H v a) vs as,
   fun s ⟨p, vs, e, h, r⟩ => ⟨p, vs, e, s _ _ h, r.mono s⟩⟩
theorem seqT {K : Frag} {H H' : Hp} {a : Addr} {xs : List V} (e : Same H H') (h : SqT K H a xs) : SqT K H' a xs := by
  rcases h with (h | ⟨o, h⟩) | h
  · exact .inl (.inl (e _ _ h))
  · exact .inl (.inr ⟨o, e _ _ h⟩)
  · exact .inr h
theorem seqT_tups {K : Frag} {H : Hp} {a : Addr} {xs : List V} (h : SqT K H a xs) : SqT K (tups H) a xs := by
  rcases h with (h | ⟨o, h⟩) | h
  · exact .inl (.inl (tups_some h rfl))
  · exact .inl (.inr ⟨o, tups_some h rfl⟩)
  · exact .inr h
instance {α β : Type} [Enc α] [Enc β] : Enc (α × β) :=
  ⟨fun K H v x => ∃ p v1 v2, v = .ref p ∧ H p = some (.tup [v1, v2]) ∧ Enc.rep K H v1 x.1 ∧ Enc.rep K H v2 x.2,
   fun s ⟨p, v1, v2, e, h, r1, r2⟩ => ⟨p, v1, v2, e, s _ _ h, Enc.mono s r1, Enc.mono s r2⟩⟩
instance {α β : Type} [Enc α] [Enc β] [Imm α] [Imm β] : Imm (α × β) :=
  ⟨fun ⟨p, v1, v2, e, h, r1, r2⟩ => ⟨p, v1, v2, e, tups_some h rfl, Imm.imm r1, Imm.imm r2⟩⟩
structure T3 (α β γ : Type) where
  a : α
  b : β
  c : γ
instance {α β γ : Type} [Enc α] [Enc β] [Enc γ] : Enc (T3 α β γ) :=
  ⟨fun K H v x => ∃ p v1 v2 v3, v = .ref p ∧ H p = some (.tup [v1, v2, v3]) ∧ Enc.rep K H v1 x.a ∧ Enc.rep K H v2 x.b ∧ Enc.rep K H v3 x.c,
   fun s ⟨p, v1, v2, v3, e, h, r1, r2, r3⟩ => ⟨p, v1, v2, v3, e, s _ _ h, Enc.mono s r1, Enc.mono s r2, Enc.mono s r3⟩⟩
instance {α β γ : Type} [Enc α] [Enc β] [Enc γ] [Imm α] [Imm β] [Imm γ] : Imm (T3 α β γ) :=
  ⟨fun ⟨p, v1, v2, v3, e, h, r1, r2, r3⟩ => ⟨p, v1, v2, v3, e, tups_some h rfl, Imm.imm r1, Imm.imm r2, Imm.imm r3⟩⟩
structure Tup (α : Type) where
  l : List α
instance {α : Type} [Enc α] : Enc (Tup α) :=
  ⟨fun K H v as => ∃ p vs, v = .ref p ∧ SqT K H p vs ∧ All2 (fun v a => Enc.rep K H v a) vs as.l,
   fun s ⟨p, vs, e, h, r⟩ => ⟨p, vs, e, seqT s h, r.mono s⟩⟩
instance {α : Type} [Enc α] [Imm α] : Imm (Tup α) :=
  ⟨fun ⟨p, vs, e, h, r⟩ => ⟨p, vs, e, seqT_tups h, All2.imp (fun _ _ x => Imm.imm x) r⟩⟩
structure Scr where
  ns : List Int
instance : Enc Scr :=
  ⟨fun K H v x => ∃ p, v = .ref p ∧ SqL K H p (x.ns.map V.int), fun s ⟨p, e, h⟩ => ⟨p, e, s.seq h⟩⟩

structure Slot where
  P : Frag → Hp → Hp → Option V → Prop
  mono : ∀ {K : Frag} {F F' G G' : Hp} {o : Option V}, Same F F' → Same G G' → P K F G o → P K F' G' o
def any : Slot := ⟨fun _ _ _ _ => True, fun _ _ h => h⟩
def fr {α : Type} [Enc α] (a : α) : Slot := ⟨fun K F _ o => ∃ v, o = some v ∧ Enc.rep K F v a, fun s _ ⟨v, e, r⟩ => ⟨v, e, Enc.mono s r⟩⟩
def ow {α : Type} [Enc α] (as : List α) : Slot :=
  ⟨fun K F G o => ∃ p vs, o = some (.ref p) ∧ G p = some (.lst vs) ∧ All2 (fun v a => Enc.rep K F v a) vs as,
   fun s t ⟨p, vs, e, h, r⟩ => ⟨p, vs, e, t _ _ h, r.mono s⟩⟩
def lk {α : Type} [Enc α] (p : Addr) (vs : List V) (as : List α) : Slot :=
  ⟨fun K F G o => o = some (.ref p) ∧ G p = some (.lst vs) ∧ All2 (fun v a => Enc.rep K F v a) vs as,
   fun s t ⟨e, h, r⟩ => ⟨e, t _ _ h, r.mono s⟩⟩
def Sl (K : Frag) (F H : Hp) : List Slot → L2.St → Prop
  | [], [] => True
  | s :: ss, o :: σ => s.P K F H o ∧ Sl K F H ss σ
  | _, _ => False
theorem Sl.mono {K : Frag} {F F' H H' : Hp} (a : Same F F') (b : Same H H') : ∀ {ss : List Slot} {σ : L2.St}, Sl K F H ss σ → Sl K F' H' ss σ
  | [], [], _ => trivial
  | s :: ss, o :: σ, ⟨x, y⟩ => ⟨s.mono a b x, Sl.mono a b y⟩
  | [], _ :: _, h => h.elim
  | _ :: _, [], h => h.elim
theorem Sl.get {K : Frag} {F H : Hp} : ∀ {ss : List Slot} {σ : L2.St} {i : Nat} {s : Slot}, Sl K F H ss σ → ss[i]? = some s → ∃ o, σ[i]? = some o ∧ s.P K F H o
  | s :: ss, o :: σ, 0, t, ⟨x, y⟩, h => by
    have e : s = t := Option.some.inj h
    subst e
    exact ⟨o, rfl, x⟩
  | s :: ss, o :: σ, i + 1, t, ⟨x, y⟩, h => Sl.get (i := i) y h
  | [], [], _, _, _, h => by simp at h
  | [], _ :: _, _, _, h, _ => h.elim
  | _ :: _, [], _, _, h, _ => h.elim

def payRep (p : Pay) (d : Option Addr) (H : Hp) : Prop :=
  match p with
  | .no => d = none
  | .int i => ∃ x, d = some x ∧ H x = some (.xd [("row", .int i)])
  | .strs xs => ∃ x p o, d = some x ∧ H x = some (.xd [("boards", .ref p)]) ∧ H p = some (.frz o (.lst (xs.map V.str)))
section
variable (X : Cx) (W : WX)
def EX (σ : L2.St) (H : Hp) (x : Exn) : Prop := ∀ cls d H', X.mg x.cls = some cls → Same H H' → payRep x.pay d H' → W cls d σ H'
def wpR {α : Type} (m : Res α) (σ : L2.St) (H : Hp) (P : α → Prop) : Prop :=
  match m with
  | .ok a => P a
  | .exc x => EX X W σ H x
  | .stuck => False
def rI {α : Type} [Enc α] (ss : List Slot) (m : Res α) : TE := fun σ H Q =>
  Sl X.K H H ss σ ∧ wpR X W m σ H fun a => ∀ v H', Same H H' → Enc.rep X.K H' v a → Q v H'
def XI {α : Type} [Enc α] (ss : List Slot) (e : Expr) (m : Res α) : Prop := PE X e (rI X W ss m)
def rT (ss : List Slot) (m : Res Bool) : TT := fun σ H Q =>
  Sl X.K H H ss σ ∧ wpR X W m σ H fun a => ∀ H', Same H H' → Q a H'
def XT (ss : List Slot) (e : Expr) (m : Res Bool) : Prop := PT X e (rT X W ss m)
end
structure Ext (F H F' H' : Hp) : Prop where
  le : Same F F'
  sub : Same F' H'
  new : ∀ a u, F' a = some u → F a = some u ∨ H a = none ∨ isT u = true
def Priv (G H F' H' : Hp) : Prop := ∀ a u, G a = some u → H' a = some u ∧ H a = none ∧ F' a = none ∧ isT u = false
section
variable (X : Cx) (W : WX)
def rK {α : Type} (ss : List Slot) (m : Res α) (kd : α → Slot) : TE := fun σ H Q =>
  ∃ F, Same F H ∧ Sl X.K F H ss σ ∧ wpR X W m σ H fun a => ∀ v H' F' G', Same H H' → Ext F H F' H' → Priv G' H F' H' → (kd a).P X.K F' G' (some v) → Q v H'
def XK {α : Type} (ss : List Slot) (e : Expr) (m : Res α) (kd : α → Slot) : Prop := PE X e (rK X W ss m kd)
end
section
variable {X : Cx} {W : WX} {ss : List Slot}
theorem EX.mono {σ : L2.St} {H H' : Hp} {x : Exn} (h : EX X W σ H x) (s : Same H H') : EX X W σ H' x := fun c d H2 a b e => h c d H2 a (s.trans b) e
theorem wpR_bind {α β : Type} {m : Res α} {k : α → Res β} {σ : L2.St} {H : Hp} {P : β → Prop} (h : wpR X W (m.bind k) σ H P) : wpR X W m σ H fun a => wpR X W (k a) σ H P := by
  cases m with
  | ok a => exact h
  | exc x => exact h
  | stuck => exact h
theorem wpR_imp {α : Type} {m : Res α} {σ : L2.St} {H H' : Hp} {P P' : α → Prop} (h : wpR X W m σ H P) (s : Same H H') (f : ∀ a, P a → P' a) : wpR X W m σ H' P' := by
  cases m with
  | ok a => exact f a h
  | exc x => exact EX.mono h s
  | stuck => exact h
theorem PE_imp {e : Expr} {t t' : TE} (h : PE X e t) (f : ∀ σ H Q, t' σ H Q → t σ H Q) : PE X e t' := ⟨fun pins s σ H Q I q => h.run pins s σ H Q I (f _ _ _ q)⟩
theorem PT_imp {e : Expr} {t t' : TT} (h : PT X e t) (f : ∀ σ H Q, t' σ H Q → t σ H Q) : PT X e t' := ⟨fun pins s σ H Q I q => h.run pins s σ H Q I (f _ _ _ q)⟩
theorem PA_imp {e : List Expr} {t t' : TA} (h : PA X e t) (f : ∀ σ H Q, t' σ H Q → t σ H Q) : PA X e t' := ⟨fun pos pins s σ H Q I q => h.run pos pins s σ H Q I (f _ _ _ q)⟩
theorem PSs_imp {e : List Stmt} {t t' : TS} (h : PSs X e t) (f : ∀ D σ H, t' D σ H → t D σ H) : PSs X e t' := ⟨fun pins s σ H D I q => h.run pins s σ H D I (f D σ H q)⟩
theorem PS_imp {e : Stmt} {t t' : TS} (h : PS X e t) (f : ∀ D σ H, t' D σ H → t D σ H) : PS X e t' := ⟨fun pins s σ H D I q => h.run pins s σ H D I (f D σ H q)⟩
theorem XI.cast {α : Type} [Enc α] {e : Expr} {m m' : Res α} (h : XI X W ss e m) (q : m' = m) : XI X W ss e m' := q ▸ h
theorem XT.cast {e : Expr} {m m' : Res Bool} (h : XT X W ss e m) (q : m' = m) : XT X W ss e m' := q ▸ h
theorem XK.cast {α : Type} {e : Expr} {m m' : Res α} {kd : α → Slot} (h : XK X W ss e m kd) (q : m' = m) : XK X W ss e m' kd := q ▸ h

theorem xi_fr (i : Nat) {α : Type} [Enc α] {a : α} {x : Str} {pos : Pos} (hs : ss[i]? = some (fr a) := by rfl) (hp : PE X (.Name x pos) (tVar i) := by exact pv _) : XI X W ss (.Name x pos) (.ok a) := by
  refine PE_imp hp fun σ H Q ⟨sl, q⟩ => ?_
  obtain ⟨o, ho, v, e, r⟩ := sl.get hs
  subst e
  exact ⟨v, ho, q v H (Same.refl H) r⟩
theorem xi_ow (i : Nat) {α : Type} [Enc α] {as : List α} {x : Str} {pos : Pos} (hs : ss[i]? = some (ow as) := by rfl) (hp : PE X (.Name x pos) (tVar i) := by exact pv _) : XI X W ss (.Name x pos) (.ok as) := by
  refine PE_imp hp fun σ H Q ⟨sl, q⟩ => ?_
  obtain ⟨o, ho, p, vs, e, g, r⟩ := sl.get hs
  subst e
  exact ⟨.ref p, ho, q _ H (Same.refl H) ⟨p, vs, rfl, g, r⟩⟩
theorem xi_const {α : Type} [Enc α] {e : Expr} {v : V} {a : α} (h : PE X e (tC v)) (r : ∀ K H, Enc.rep K H v a) : XI X W ss e (.ok a) :=
  PE_imp h fun σ H Q ⟨_, q⟩ => q v H (Same.refl H) (r _ _)
theorem xi_int {i : Int} {j pos} : XI X W ss (.Constant (.int i) j pos) (.ok i) := xi_const pe_int fun _ _ => rfl
theorem xi_bl {b : Bool} {j pos} : XI X W ss (.Constant (.bool b) j pos) (.ok b) := xi_const pe_bl fun _ _ => rfl
theorem xi_str {b : Str} {j pos} : XI X W ss (.Constant (.str b) j pos) (.ok b) := xi_const pe_str fun _ _ => rfl
theorem xi_none {α : Type} [Enc α] {j pos} : XI X W ss (.Constant .none j pos) (.ok (none : Option α)) := xi_const pe_non fun _ _ => rfl

def okR {γ : Type} (m : Res γ) (P : γ → Prop) : Prop :=
  match m with
  | .ok c => P c
  | _ => False
def Op2 (X : Cx) (r : R2) {α β γ : Type} [Enc α] [Enc β] [Enc γ] (g : α → β → Res γ) : Prop :=
  ∀ (a : α) (b : β) (v w : V) (H : Hp) (Q : VK), Enc.rep X.K H v a → Enc.rep X.K H w b →
    okR (g a b) (fun c => ∀ v' H', Same H H' → Enc.rep X.K H' v' c → Q v' H') → r v w H Q
def NoX {α : Type} (m : Res α) : Prop := ∀ x, m ≠ .exc x
theorem r_op2 {α β γ : Type} [Enc α] [Enc β] [Enc γ] {r : R2} {g : α → β → Res γ} {m1 : Res α} {m2 : Res β} (ho : Op2 X r g) (hg : ∀ a b, NoX (g a b)) {σ : L2.St} {H : Hp} {Q : VK}
    (h : rI X W ss (m1.bind fun a => m2.bind fun b => g a b) σ H Q) : tOp r (rI X W ss m1) (rI X W ss m2) σ H Q := by
  obtain ⟨sl, q⟩ := h
  refine ⟨sl, wpR_imp (wpR_bind q) (Same.refl H) fun a q v H1 s1 r1 => ?_⟩
  refine ⟨sl.mono s1 s1, wpR_imp (wpR_bind q) s1 fun b q w H2 s2 r2 => ?_⟩
  refine ho a b v w H2 Q (Enc.mono s2 r1) r2 ?_
  unfold okR
  cases e : g a b with
  | ok c => rw [e] at q; exact fun v' H' s3 r3 => q v' H' (s1.trans (s2.trans s3)) r3
  | exc x => exact hg a b x e
  | stuck => rw [e] at q; exact q
theorem noX_ok {α : Type} {a : α} : NoX (Res.ok a) := fun _ h => nomatch h
theorem noX_guard {α : Type} {c : Bool} {a : α} : NoX (guardR c (Res.ok a)) := fun _ h => by cases c <;> cases h
theorem xi_bin {α β γ : Type} [Enc α] [Enc β] [Enc γ] {op : Operator} {r : R2} {g : α → β → Res γ} {m1 : Res α} {m2 : Res β} {a b : Expr} {pos : Pos} (hr : OpR X (binaryOp op) r) (ho : Op2 X r g) (hg : ∀ a b, NoX (g a b))
    (h1 : XI X W ss a m1) (h2 : XI X W ss b m2) : XI X W ss (.BinOp a op b pos) (m1.bind fun a => m2.bind fun b => g a b) :=
  PE_imp (pe_op hr h1 h2) fun _ _ _ h => r_op2 ho hg h
theorem xi_cmp {α β γ : Type} [Enc α] [Enc β] [Enc γ] {op : CmpOp} {r : R2} {g : α → β → Res γ} {m1 : Res α} {m2 : Res β} {a b : Expr} {pos : Pos} (hr : OpR X (compareOp op) r) (ho : Op2 X r g) (hg : ∀ a b, NoX (g a b)) (hm : behindInMarks op b = false)
    (h1 : XI X W ss a m1) (h2 : XI X W ss b m2) : XI X W ss (.Compare a [op] [b] pos) (m1.bind fun a => m2.bind fun b => g a b) :=
  PE_imp (pe_cmpR hr h1 h2 hm) fun _ _ _ h => r_op2 ho hg h
theorem xt_cmp {α β : Type} [Enc α] [Enc β] {op : CmpOp} {r : R2} {g : α → β → Res Bool} {m1 : Res α} {m2 : Res β} {a b : Expr} {pos : Pos} (hr : OpR X (compareOp op) r) (ho : Op2 X r g) (hg : ∀ a b, NoX (g a b)) (hm : behindInMarks op b = false)
    (h1 : XI X W ss a m1) (h2 : XI X W ss b m2) : XT X W ss (.Compare a [op] [b] pos) (m1.bind fun a => m2.bind fun b => g a b) :=
  PT_imp (pt_cmpR hr h1 h2 hm) fun σ H Q ⟨sl, q⟩ => r_op2 ho hg ⟨sl, wpR_imp q (Same.refl H) fun _ q v H' s r => ⟨_, r, q H' s⟩⟩
theorem op2_I0 {g : Int → Int → V} {γ : Type} [Enc γ] {f : Int → Int → γ} (h : ∀ i j K H, Enc.rep K H (g i j) (f i j)) : Op2 X (rI0 g) (fun i j : Int => Res.ok (f i j)) := fun a b v w H Q r1 r2 q =>
  ⟨a, b, r1, r2, q _ H (Same.refl H) (h _ _ _ _)⟩
theorem op2_I {C : Int → Int → Prop} {c : Int → Int → Bool} {g : Int → Int → V} {γ : Type} [Enc γ] {f : Int → Int → γ} (hc : ∀ i j, c i j = true → C i j) (h : ∀ i j K H, Enc.rep K H (g i j) (f i j)) :
    Op2 X (L2.rI C g) (fun i j : Int => guardR (c i j) (Res.ok (f i j))) := fun a b v w H Q r1 r2 q => by
  cases e : c a b with
  | true =>
    have q : okR (guardR (c a b) (Res.ok (f a b))) _ := q
    rw [e] at q; exact ⟨a, b, r1, r2, hc _ _ e, q _ H (Same.refl H) (h _ _ _ _)⟩
  | false =>
    have q : okR (guardR (c a b) (Res.ok (f a b))) _ := q
    rw [e] at q; exact q.elim
end
end G

namespace G
open PySem PySem.Spec PyProof.Rows L2
section
variable {X : Cx} {W : WX} {ss : List Slot}
theorem priv_no {H F' H' : Hp} : Priv noHp H F' H' := fun _ _ h => nomatch h
theorem ext_imm {F H H' : Hp} (a : Same F H) (s : Same H H') : Ext F H (join F (tups H')) H' :=
  ⟨join_l, join_le (a.trans s) (tups_le H'), fun a u h => (join_or h).elim .inl fun z => .inr (.inr (tups_isT z))⟩
theorem xk_imm {α : Type} [Enc α] [Imm α] {e : Expr} {m : Res α} (h : XI X W ss e m) : XK X W ss e m fr := by
  refine PE_imp h fun σ H Q ⟨F, a, sl, q⟩ => ⟨sl.mono a (Same.refl H), wpR_imp q (Same.refl H) fun x q v H' s r => ?_⟩
  exact q v H' _ noHp s (ext_imm a s) priv_no ⟨v, rfl, Enc.mono (join_r (a.trans s) (tups_le H')) (Imm.imm r)⟩
theorem xk_fr (i : Nat) {α : Type} [Enc α] {a : α} {x : Str} {pos : Pos} (hs : ss[i]? = some (fr a) := by rfl) (hp : PE X (.Name x pos) (tVar i) := by exact pv _) : XK X W ss (.Name x pos) (.ok a) fr := by
  refine PE_imp hp fun σ H Q ⟨F, a, sl, q⟩ => ?_
  obtain ⟨o, ho, v, e, r⟩ := sl.get hs
  subst e
  exact ⟨v, ho, q v H F noHp (Same.refl H) ⟨Same.refl F, a, fun _ _ h => .inl h⟩ priv_no ⟨v, rfl, r⟩⟩
theorem xk_free {α : Type} [Enc α] {e : Expr} {m : Res (List α)} (h : XK X W ss e m ow) : XK X W ss e m fr := by
  refine PE_imp h fun σ H Q ⟨F, a, sl, q⟩ => ⟨F, a, sl, wpR_imp q (Same.refl H) fun x q v H' F' G' s ex pr k => ?_⟩
  obtain ⟨p, vs, e, g, r⟩ := k
  have gH : Same G' H' := fun a u z => (pr a u z).1
  refine q v H' (join F' G') noHp s ⟨ex.le.trans join_l, join_le ex.sub gH, fun a u z => (join_or z).elim (ex.new a u) fun z => .inr (.inl (pr a u z).2.1)⟩ priv_no ?_
  exact ⟨v, rfl, p, vs, Option.some.inj e, join_r ex.sub gH _ _ g, r.mono join_l⟩
class View {α : Type} [Enc α] (kd : α → Slot) : Prop where
  view : ∀ {K : Frag} {H : Hp} {v : V} {a : α}, (kd a).P K H H (some v) → Enc.rep K H v a
instance {α : Type} [Enc α] : View (fr (α := α)) := ⟨fun ⟨v, e, r⟩ => by cases e; exact r⟩
instance {α : Type} [Enc α] : View (ow (α := α)) := ⟨fun ⟨p, vs, e, g, r⟩ => by cases e; exact ⟨p, vs, rfl, g, r⟩⟩
theorem xi_of {α : Type} [Enc α] {kd : α → Slot} [View kd] {e : Expr} {m : Res α} (h : XK X W ss e m kd) : XI X W ss e m := by
  refine PE_imp h fun σ H Q ⟨sl, q⟩ => ⟨H, Same.refl H, sl, wpR_imp q (Same.refl H) fun x q v H' F' G' s ex pr k => ?_⟩
  exact q v H' s (View.view ((kd x).mono ex.sub (fun a u z => (pr a u z).1) k))

def Dj (G G' : Hp) : Prop := ∀ a, G a = none ∨ G' a = none
def All3 (K : Frag) (F : Hp) : List Slot → List Hp → L2.St → Prop
  | [], [], [] => True
  | s :: ss, G :: Gs, o :: σ => s.P K F G o ∧ All3 K F ss Gs σ
  | _, _, _ => False
structure Asn (K : Frag) (B F0 : Hp) (ss : List Slot) (σ : L2.St) (H : Hp) (F : Hp) (Gs : List Hp) : Prop where
  ext : Ext F0 B F H
  base : Same B H
  all : All3 K F ss Gs σ
  priv : ∀ G ∈ Gs, Priv G B F H
  dj : Gs.Pairwise Dj
end
theorem Ext.trans {F H F' H' F2 H2 : Hp} (a : Ext F H F' H') (s : Same H H') (b : Ext F' H' F2 H2) : Ext F H F2 H2 :=
  ⟨a.le.trans b.le, b.sub, fun x u h => (b.new x u h).elim (a.new x u) fun z => z.elim (fun z => .inr (.inl (Same.free s z))) fun z => .inr (.inr z)⟩
theorem All3.mono {K : Frag} {F F' : Hp} (a : Same F F') : ∀ {ss : List Slot} {Gs : List Hp} {σ : L2.St}, All3 K F ss Gs σ → All3 K F' ss Gs σ
  | [], [], [], _ => trivial
  | s :: ss, _ :: Gs, o :: σ, ⟨x, y⟩ => ⟨s.mono a (Same.refl _) x, All3.mono a y⟩
  | [], _ :: _, _, h => h.elim
  | [], [], _ :: _, h => h.elim
  | _ :: _, [], _, h => h.elim
  | _ :: _, _ :: _, [], h => h.elim
theorem All3.sl {K : Frag} {F H : Hp} : ∀ {ss : List Slot} {Gs : List Hp} {σ : L2.St}, All3 K F ss Gs σ → (∀ G ∈ Gs, Same G H) → Sl K F H ss σ
  | [], [], [], _, _ => trivial
  | s :: ss, _ :: Gs, o :: σ, ⟨x, y⟩, h => ⟨s.mono (Same.refl _) (h _ List.mem_cons_self) x, All3.sl y fun G m => h G (List.mem_cons_of_mem _ m)⟩
  | [], _ :: _, _, h, _ => h.elim
  | [], [], _ :: _, h, _ => h.elim
  | _ :: _, [], _, h, _ => h.elim
  | _ :: _, _ :: _, [], h, _ => h.elim
theorem All3.set {K : Frag} {F G : Hp} {s : Slot} {o : Option V} (x : s.P K F G o) : ∀ (i : Nat) {ss : List Slot} {Gs : List Hp} {σ : L2.St}, All3 K F ss Gs σ → All3 K F (ss.set i s) (Gs.set i G) (σ.set i o)
  | _, [], [], [], h => h
  | 0, _ :: _, _ :: _, _ :: _, ⟨_, y⟩ => ⟨x, y⟩
  | i + 1, _ :: _, _ :: _, _ :: _, ⟨z, y⟩ => ⟨z, All3.set x i y⟩
  | _, [], _ :: _, _, h => h.elim
  | _, [], [], _ :: _, h => h.elim
  | _, _ :: _, [], _, h => h.elim
  | _, _ :: _, _ :: _, [], h => h.elim
theorem All3.get {K : Frag} {F : Hp} : ∀ {ss : List Slot} {Gs : List Hp} {σ : L2.St} {i : Nat} {s : Slot}, All3 K F ss Gs σ → ss[i]? = some s → ∃ G o, Gs[i]? = some G ∧ σ[i]? = some o ∧ s.P K F G o
  | s :: ss, G :: Gs, o :: σ, 0, t, ⟨x, y⟩, h => by
    have e : s = t := Option.some.inj h
    subst e
    exact ⟨G, o, rfl, rfl, x⟩
  | s :: ss, G :: Gs, o :: σ, i + 1, t, ⟨x, y⟩, h => All3.get (i := i) y h
  | [], [], [], _, _, _, h => by simp at h
  | [], _ :: _, _, _, _, h, _ => h.elim
  | [], [], _ :: _, _, _, h, _ => h.elim
  | _ :: _, [], _, _, _, h, _ => h.elim
  | _ :: _, _ :: _, [], _, _, h, _ => h.elim
theorem pw_set {G : Hp} : ∀ {Gs : List Hp} (i : Nat), Gs.Pairwise Dj → (∀ G' ∈ Gs, Dj G G') → (Gs.set i G).Pairwise Dj
  | [], _, _, _ => List.Pairwise.nil
  | A :: Gs, 0, h, d => List.pairwise_cons.mpr ⟨fun G' m => d G' (List.mem_cons_of_mem _ m), (List.pairwise_cons.mp h).2⟩
  | A :: Gs, i + 1, h, d => by
    obtain ⟨h1, h2⟩ := List.pairwise_cons.mp h
    refine List.pairwise_cons.mpr ⟨fun G' m => ?_, pw_set i h2 fun G' m => d G' (List.mem_cons_of_mem _ m)⟩
    rcases List.mem_or_eq_of_mem_set m with z | z
    · exact h1 G' z
    · subst z
      exact fun a => (d A List.mem_cons_self a).symm
theorem Asn.sub {K : Frag} {B F0 H F : Hp} {ss : List Slot} {σ : L2.St} {Gs : List Hp} (A : Asn K B F0 ss σ H F Gs) : ∀ G ∈ Gs, Same G H := fun G m a u h => (A.priv G m a u h).1
theorem Asn.sl {K : Frag} {B F0 H F : Hp} {ss : List Slot} {σ : L2.St} {Gs : List Hp} (A : Asn K B F0 ss σ H F Gs) : Sl K F H ss σ := A.all.sl A.sub
theorem Asn.grow {K : Frag} {B F0 H F H' F' : Hp} {ss : List Slot} {σ : L2.St} {Gs : List Hp} (A : Asn K B F0 ss σ H F Gs) (s : Same H H') (ex : Ext F H F' H') : Asn K B F0 ss σ H' F' Gs := by
  refine ⟨⟨A.ext.le.trans ex.le, ex.sub, fun a u h => ?_⟩, A.base.trans s, A.all.mono ex.le, fun G m a u h => ?_, A.dj⟩
  · rcases ex.new a u h with z | z | z
    · exact A.ext.new a u z
    · exact .inr (.inl (Same.free A.base z))
    · exact .inr (.inr z)
  · obtain ⟨h1, h2, h3, h4⟩ := A.priv G m a u h
    refine ⟨s _ _ h1, h2, ?_, h4⟩
    cases e : F' a with
    | none => rfl
    | some w =>
      rcases ex.new a w e with z | z | z
      · rw [h3] at z; cases z
      · rw [h1] at z; cases z
      · have q := ex.sub _ _ e
        rw [s _ _ h1] at q
        cases q
        rw [h4] at z; cases z
theorem Asn.set {K : Frag} {B F0 H F H' F' G : Hp} {ss : List Slot} {σ : L2.St} {Gs : List Hp} {s : Slot} {o : Option V} (A : Asn K B F0 ss σ H F Gs) (sa : Same H H') (ex : Ext F H F' H') (pr : Priv G H F' H') (x : s.P K F' G o) (i : Nat) :
    Asn K B F0 (ss.set i s) (σ.set i o) H' F' (Gs.set i G) := by
  have A' := A.grow sa ex
  refine ⟨A'.ext, A'.base, A'.all.set x i, fun G' m a u h => ?_, pw_set i A'.dj fun G' m a => ?_⟩
  · rcases List.mem_or_eq_of_mem_set m with z | z
    · exact A'.priv G' z a u h
    · subst z
      obtain ⟨h1, h2, h3, h4⟩ := pr a u h
      exact ⟨h1, Same.free A.base h2, h3, h4⟩
  · cases e : G a with
    | none => exact .inl rfl
    | some u =>
      refine .inr ?_
      cases e2 : G' a with
      | none => rfl
      | some w =>
        have z := A.sub G' m _ _ e2
        rw [(pr a u e).2.1] at z
        cases z
theorem All3.any {K : Frag} {F : Hp} (i : Nat) : ∀ {ss : List Slot} {Gs : List Hp} {σ : L2.St}, All3 K F ss Gs σ → All3 K F (ss.set i any) Gs σ := by
  intro ss Gs σ h
  induction ss generalizing Gs σ i with
  | nil => exact h
  | cons s ss ih =>
    cases Gs with
    | nil => exact h.elim
    | cons G Gs =>
      cases σ with
      | nil => exact h.elim
      | cons o σ =>
        cases i with
        | zero => exact ⟨trivial, h.2⟩
        | succ i => exact ⟨h.1, ih i h.2⟩
end G

namespace G
open PySem PySem.Spec PyProof.Rows L2
section
variable (X : Cx) (W : WX)
def EXS (B : Hp) (x : Exn) : Prop := ∀ σ cls d H', X.mg x.cls = some cls → Same B H' → payRep x.pay d H' → W cls d σ H'
def wpS {α : Type} (m : Res α) (B : Hp) (P : α → Prop) : Prop :=
  match m with
  | .ok a => P a
  | .exc x => EXS X W B x
  | .stuck => False
def rdX (ss : List Slot) (w : Ends → Hp → Hp → Prop) : TS := fun D σ H => ∃ B F0 F Gs, Asn X.K B F0 ss σ H F Gs ∧ w D B F0
def RtOk {R : Type} (kr : R → Slot) (r : R) (D : Ends) (B F0 : Hp) : Prop := ∀ v H' F' G', Same B H' → Ext F0 B F' H' → Priv G' B F' H' → (kr r).P X.K F' G' (some v) → D.rt v H'
def NxOk (ss : List Slot) (D : Ends) (B F0 : Hp) : Prop := ∀ σ' H' F' Gs', Asn X.K B F0 ss σ' H' F' Gs' → D.nx σ' H'
def BkOk (ss : List Slot) (D : Ends) (B F0 : Hp) : Prop := ∀ σ' H' F' Gs', Asn X.K B F0 ss σ' H' F' Gs' → D.bk σ' H'
def CtOk (ss : List Slot) (D : Ends) (B F0 : Hp) : Prop := ∀ σ' H' F' Gs', Asn X.K B F0 ss σ' H' F' Gs' → D.ct σ' H'
def wT {R : Type} (e : Bool) (M : Res R) (kr : R → Slot) : Ends → Hp → Hp → Prop := fun D B F0 => (e = true → ∀ σ H, D.rt .non H → D.nx σ H) ∧ wpS X W M B fun r => RtOk X kr r D B F0
def wN {S : Type} (M : Res S) (post : S → List Slot) : Ends → Hp → Hp → Prop := fun D B F0 => wpS X W M B fun s => NxOk X (post s) D B F0
end
inductive Out (S L R : Type) where
  | nx (s : S) | rt (r : R) | bk (l : L) | ct (l : L)
section
variable (X : Cx) (W : WX)
def wB {S L R : Type} (M : Res (Out S L R)) (post : S → List Slot) (pl : L → List Slot) (kr : R → Slot) : Ends → Hp → Hp → Prop := fun D B F0 => wpS X W M B fun o =>
  match o with
  | .nx s => NxOk X (post s) D B F0
  | .rt r => RtOk X kr r D B F0
  | .bk l => BkOk X (pl l) D B F0
  | .ct l => CtOk X (pl l) D B F0
def ST {R : Type} (e : Bool) (ss : List Slot) (st : List Stmt) (M : Res R) (kr : R → Slot) : Prop := PSs X st (rdX X ss (wT X W e M kr))
def SN {S : Type} (ss : List Slot) (st : List Stmt) (M : Res S) (post : S → List Slot) : Prop := PSs X st (rdX X ss (wN X W M post))
def SB {S L R : Type} (ss : List Slot) (st : List Stmt) (M : Res (Out S L R)) (post : S → List Slot) (pl : L → List Slot) (kr : R → Slot) : Prop := PSs X st (rdX X ss (wB X W M post pl kr))
def S1 {S : Type} (ss : List Slot) (st : Stmt) (M : Res S) (post : S → List Slot) : Prop := PS X st (rdX X ss (wN X W M post))
end
section
variable {X : Cx} {W : WX} {ss : List Slot} {st : Stmt} {rest : List Stmt}
theorem EXS.ex {B H : Hp} {x : Exn} {σ : L2.St} (h : EXS X W B x) (s : Same B H) : EX X W σ H x := fun cls d H' a b e => h σ cls d H' a (s.trans b) e
theorem wpS_bind {α β : Type} {m : Res α} {k : α → Res β} {B : Hp} {P : β → Prop} (h : wpS X W (m.bind k) B P) : wpS X W m B fun a => wpS X W (k a) B P := by
  cases m with
  | ok a => exact h
  | exc x => exact h
  | stuck => exact h
theorem wpS_imp {α : Type} {m : Res α} {B : Hp} {P P' : α → Prop} (h : wpS X W m B P) (f : ∀ a, P a → P' a) : wpS X W m B P' := by
  cases m with
  | ok a => exact f a h
  | exc x => exact h
  | stuck => exact h
theorem wpS_R {α : Type} {m : Res α} {B H : Hp} {P P' : α → Prop} {σ : L2.St} (h : wpS X W m B P) (s : Same B H) (f : ∀ a, P a → P' a) : wpR X W m σ H P' := by
  cases m with
  | ok a => exact f a h
  | exc x => exact EXS.ex h s
  | stuck => exact h
theorem seqX {α : Type} {m : Res α} {ss' : α → List Slot} {w : α → Ends → Hp → Hp → Prop} {w0 : Ends → Hp → Hp → Prop} (h1 : S1 X W ss st m ss') (h2 : ∀ a, PSs X rest (rdX X (ss' a) (w a)))
    (hw : ∀ D B F0, w0 D B F0 → wpS X W m B fun a => w a D B F0) : PSs X (st :: rest) (rdX X ss w0) := by
  have h2' : PSs X rest fun D σ H => ∃ a, rdX X (ss' a) (w a) D σ H := ⟨fun pins s σ H D I ⟨a, q⟩ => (h2 a).run pins s σ H D I q⟩
  refine PSs_imp (pss_cons h1 h2') fun D σ H ⟨B, F0, F, Gs, A, q⟩ => ⟨B, F0, F, Gs, A, ?_⟩
  exact wpS_imp (hw D B F0 q) fun a q σ' H' F' Gs' A' => ⟨a, B, F0, F', Gs', A', q⟩
theorem st_seq {α R : Type} {e : Bool} {m : Res α} {ss' : α → List Slot} {k : α → Res R} {kr : R → Slot} (h1 : S1 X W ss st m ss') (h2 : ∀ a, ST X W e (ss' a) rest (k a) kr) : ST X W e ss (st :: rest) (m.bind k) kr :=
  seqX h1 h2 fun D B F0 ⟨a, q⟩ => wpS_imp (wpS_bind q) fun _ z => ⟨a, z⟩
theorem sn_seq {α S : Type} {m : Res α} {ss' : α → List Slot} {k : α → Res S} {post : S → List Slot} (h1 : S1 X W ss st m ss') (h2 : ∀ a, SN X W (ss' a) rest (k a) post) : SN X W ss (st :: rest) (m.bind k) post :=
  seqX h1 h2 fun D B F0 q => wpS_bind q
theorem ST.cast {R : Type} {e : Bool} {sts : List Stmt} {M M' : Res R} {kr : R → Slot} (h : ST X W e ss sts M kr) (q : M' = M) : ST X W e ss sts M' kr := q ▸ h
theorem SN.cast {S : Type} {sts : List Stmt} {M M' : Res S} {post : S → List Slot} (h : SN X W ss sts M post) (q : M' = M) : SN X W ss sts M' post := q ▸ h
def Wk : List Slot → List Slot → Prop
  | [], [] => True
  | s :: ss, t :: ts => (s = t ∨ t = any) ∧ Wk ss ts
  | _, _ => False
theorem Wk.refl : ∀ ss : List Slot, Wk ss ss
  | [] => trivial
  | _ :: ss => ⟨.inl rfl, Wk.refl ss⟩
theorem All3.wk {K : Frag} {F : Hp} : ∀ {ss ts : List Slot} {Gs : List Hp} {σ : L2.St}, All3 K F ss Gs σ → Wk ss ts → All3 K F ts Gs σ
  | [], [], _, _, h, _ => h
  | s :: ss, t :: ts, G :: Gs, o :: σ, ⟨x, y⟩, ⟨a, b⟩ => ⟨by
      rcases a with rfl | rfl
      · exact x
      · exact trivial, All3.wk y b⟩
  | [], _ :: _, _, _, _, w => w.elim
  | _ :: _, [], _, _, _, w => w.elim
  | _ :: _, _ :: _, [], _, h, _ => h.elim
  | _ :: _, _ :: _, _ :: _, [], h, _ => h.elim
theorem Asn.wk {K : Frag} {B F0 H F : Hp} {ss ts : List Slot} {σ : L2.St} {Gs : List Hp} (A : Asn K B F0 ss σ H F Gs) (w : Wk ss ts) : Asn K B F0 ts σ H F Gs := ⟨A.ext, A.base, A.all.wk w, A.priv, A.dj⟩
theorem sn_nil {S : Type} {s : S} {post : S → List Slot} (w : Wk ss (post s) := by exact Wk.refl _) : SN X W ss [] (.ok s) post :=
  PSs_imp pss_nil fun D σ H ⟨B, F0, F, Gs, A, q⟩ => q σ H F Gs (A.wk w)
theorem sb_nil {S L R : Type} {s : S} {post : S → List Slot} {pl : L → List Slot} {kr : R → Slot} (w : Wk ss (post s) := by exact Wk.refl _) : SB X W ss [] (.ok (.nx s) : Res (Out S L R)) post pl kr :=
  PSs_imp pss_nil fun D σ H ⟨B, F0, F, Gs, A, q⟩ => q σ H F Gs (A.wk w)
theorem rt_core {R : Type} {m : Res R} {kr : R → Slot} {e : Expr} {pos : Pos} (h : XK X W ss e m kr) : PS X (.Return (some e) pos) (rdX X ss fun D B F0 => wpS X W m B fun r => RtOk X kr r D B F0) := by
  refine PS_imp (ps_ret h) fun D σ H ⟨B, F0, F, Gs, A, q⟩ => ⟨F, A.ext.sub, A.sl, wpS_R q A.base fun r q v H' F' G' s ex pr k => ?_⟩
  have A' := A.grow s ex
  exact q v H' F' G' A'.base A'.ext (fun a u z => ⟨(pr a u z).1, Same.free A.base (pr a u z).2.1, (pr a u z).2.2⟩) k
theorem rest_free {t : TS} (h1 : PS X st t) (hn : ∀ D D' σ H, D'.rt = D.rt → D'.bk = D.bk → D'.ct = D.ct → t D σ H → t D' σ H) : PSs X (st :: rest) t :=
  PSs_imp (pss_cons h1 (pss_never (sts := rest))) fun D σ H q => hn D { D with nx := tNever D } σ H rfl rfl rfl q
theorem st_ret {R : Type} {ee : Bool} {m : Res R} {kr : R → Slot} {e : Expr} {pos : Pos} (h : XK X W ss e m kr) : ST X W ee ss (.Return (some e) pos :: rest) m kr :=
  PSs_imp (rest_free (rt_core h) fun D D' σ H e1 _ _ ⟨B, F0, F, Gs, A, q⟩ => ⟨B, F0, F, Gs, A, wpS_imp q fun r q v H' F' G' a b c d => by rw [e1]; exact q v H' F' G' a b c d⟩)
    fun D σ H ⟨B, F0, F, Gs, A, _, q⟩ => ⟨B, F0, F, Gs, A, q⟩
theorem sb_ret {S L R : Type} {m : Res R} {post : S → List Slot} {pl : L → List Slot} {kr : R → Slot} {e : Expr} {pos : Pos} (h : XK X W ss e m kr) : SB X W ss (.Return (some e) pos :: rest) (m.bind fun r => .ok (.rt r) : Res (Out S L R)) post pl kr :=
  PSs_imp (rest_free (rt_core h) fun D D' σ H e1 _ _ ⟨B, F0, F, Gs, A, q⟩ => ⟨B, F0, F, Gs, A, wpS_imp q fun r q v H' F' G' a b c d => by rw [e1]; exact q v H' F' G' a b c d⟩)
    fun D σ H ⟨B, F0, F, Gs, A, q⟩ => ⟨B, F0, F, Gs, A, wpS_imp (wpS_bind q) fun _ z => z⟩
theorem ifX {c : Expr} {mc : Res Bool} {a b : List Stmt} {pos : Pos} {w : Bool → Ends → Hp → Hp → Prop} {w0 : Ends → Hp → Hp → Prop} (hc : XT X W ss c mc) (ha : PSs X a (rdX X ss (w true))) (hb : PSs X b (rdX X ss (w false)))
    (hw : ∀ D B F0, w0 D B F0 → wpS X W mc B fun t => w t D B F0) : PS X (.If c a b pos) (rdX X ss w0) := by
  refine PS_imp (ps_if hc ha hb) fun D σ H ⟨B, F0, F, Gs, A, q⟩ => ⟨A.sl.mono A.ext.sub (Same.refl H), wpS_R (hw D B F0 q) A.base fun t q H' s => ?_⟩
  have A' := A.grow s ⟨Same.refl F, A.ext.sub.trans s, fun _ _ h => .inl h⟩
  cases t with
  | true => exact ⟨B, F0, F, Gs, A', q⟩
  | false => exact ⟨B, F0, F, Gs, A', q⟩
theorem s1_if {S : Type} {c : Expr} {mc : Res Bool} {a b : List Stmt} {pos : Pos} {M1 M2 : Res S} {post : S → List Slot} (hc : XT X W ss c mc) (ha : SN X W ss a M1 post) (hb : SN X W ss b M2 post) :
    S1 X W ss (.If c a b pos) (mc.bind fun t => if t then M1 else M2) post :=
  ifX (w := fun t => wN X W (if t then M1 else M2) post) hc ha hb fun D B F0 q => wpS_bind q
theorem st_guard {R : Type} {e : Bool} {c : Expr} {mc : Res Bool} {a : List Stmt} {pos : Pos} {M1 M2 : Res R} {kr : R → Slot} (hc : XT X W ss c mc) (ha : ST X W false ss a M1 kr) (hr : ST X W e ss rest M2 kr) :
    ST X W e ss (.If c a [] pos :: rest) (mc.bind fun t => if t then M1 else M2) kr := by
  refine PSs_imp (pss_cons (ps_if hc ha pss_nil) hr) fun D σ H ⟨B, F0, F, Gs, A, z, q⟩ => ⟨A.sl.mono A.ext.sub (Same.refl H), wpS_R (wpS_bind q) A.base fun t q H' s => ?_⟩
  have A' := A.grow s ⟨Same.refl F, A.ext.sub.trans s, fun _ _ h => .inl h⟩
  cases t with
  | true => exact ⟨B, F0, F, Gs, A', (fun h => nomatch h), q⟩
  | false => exact ⟨B, F0, F, Gs, A', z, q⟩
def Res.next {S S' L R : Type} (M : Res (Out S L R)) (k : S → Res (Out S' L R)) : Res (Out S' L R) := M.bind fun o =>
  match o with
  | .nx s => k s
  | .rt r => .ok (.rt r)
  | .bk l => .ok (.bk l)
  | .ct l => .ok (.ct l)
theorem s1_set (i : Nat) {α : Type} {kd : α → Slot} {m : Res α} {x : Str} {e : Expr} {pos pos' : Pos} (h : XK X W ss e m kd) (hN : X.N.Nodup) (hi : X.N[i]? = some x := by rfl) (hx : Loc X.env.scope x := by first | exact Or.inl rfl | exact Or.inr rfl)
    (hs : swapsWith e (some (.Name x pos')) pos.line X.env = pure false := by rfl) (hf : X.fn x = true ∨ X.env.scope.names.lookup x = some .local := by first | exact .inl rfl | exact .inr rfl) : S1 X W ss (.Assign [.Name x pos'] e pos) m (fun a => ss.set i (kd a)) := by
  refine PS_imp (ps_set hN hi hx h hs hf) fun D σ H ⟨B, F0, F, Gs, A, q⟩ => ⟨F, A.ext.sub, A.sl, wpS_R q A.base fun a q v H' F' G' s ex pr k => ?_⟩
  exact q _ H' F' _ (A.set s ex pr k i)
end
end G

namespace G
open PySem PySem.Spec PyProof.Rows L2
class EncA (A : Type) where
  rep : Frag → Hp → List V → A → Prop
  mono : ∀ {K : Frag} {H H' : Hp} {vs : List V} {a : A}, Same H H' → rep K H vs a → rep K H' vs a
class EncP (A : Type) extends EncA A where
  len : Nat
  slots : A → List Slot
  start : ∀ {K : Frag} {H : Hp} {vs : List V} {a : A}, rep K H vs a → vs.length = len ∧ All3 K H (slots a) (List.replicate len noHp) (vs.map some)
instance : EncP Unit where
  rep := fun _ _ vs _ => vs = []
  mono := fun _ h => h
  len := 0
  slots := fun _ => []
  start := fun {K H vs a} h => by
    have h : vs = [] := h
    subst h
    exact ⟨rfl, trivial⟩
instance {α A : Type} [Enc α] [EncP A] : EncP (α × A) where
  rep := fun K H vs x => ∃ v r, vs = v :: r ∧ Enc.rep K H v x.1 ∧ EncA.rep K H r x.2
  mono := fun s ⟨v, r, e, h1, h2⟩ => ⟨v, r, e, Enc.mono s h1, EncA.mono s h2⟩
  len := EncP.len A + 1
  slots := fun x => fr x.1 :: EncP.slots x.2
  start := fun {K H vs x} ⟨v, r, e, h1, h2⟩ => by
    subst e
    obtain ⟨l, q⟩ := EncP.start h2
    exact ⟨by rw [List.length_cons, l], ⟨v, rfl, h1⟩, q⟩
structure Hom (n : Nat) (α : Type) where
  l : List α
instance {n : Nat} {α : Type} [Enc α] : EncA (Hom n α) := ⟨fun K H vs x => x.l.length = n ∧ All2 (fun v a => Enc.rep K H v a) vs x.l, fun s h => ⟨h.1, h.2.mono s⟩⟩
section
variable (X : Cx) (W : WX)
def rA {A : Type} [EncA A] (ss : List Slot) (m : Res A) : TA := fun σ H Q =>
  Sl X.K H H ss σ ∧ wpR X W m σ H fun a => ∀ vs H', Same H H' → EncA.rep X.K H' vs a → Q vs H'
def XA {A : Type} [EncA A] (ss : List Slot) (es : List Expr) (m : Res A) : Prop := PA X es (rA X W ss m)
def rAK {A : Type} [EncA A] (ss : List Slot) (m : Res A) : TA := fun σ H Q =>
  ∃ F, Same F H ∧ Sl X.K F H ss σ ∧ wpR X W m σ H fun a => ∀ vs H' F', Same H H' → Ext F H F' H' → EncA.rep X.K F' vs a → Q vs H'
def XAK {A : Type} [EncA A] (ss : List Slot) (es : List Expr) (m : Res A) : Prop := PA X es (rAK X W ss m)
end
section
variable {X : Cx} {W : WX} {ss : List Slot} {e : Expr} {es : List Expr}
theorem xa_nil : XA X W ss [] (.ok ()) := PA_imp pa_nil fun σ H Q ⟨sl, q⟩ => q [] H (Same.refl H) rfl
theorem xa_cons {α A : Type} [Enc α] [EncP A] {m : Res α} {r : Res A} (h : XI X W ss e m) (t : XA X W ss es r) (hs : starEach (e :: es) X.env = (false, eval e X.env) :: starEach es X.env := by rfl) : XA X W ss (e :: es) (m.bind fun a => r.bind fun as => .ok (a, as)) := by
  refine PA_imp (pa_cons h t hs) fun σ H Q ⟨sl, q⟩ => ⟨sl, wpR_imp (wpR_bind q) (Same.refl H) fun a q v H1 s1 r1 => ⟨sl.mono s1 s1, wpR_imp (wpR_bind q) s1 fun as q vs H2 s2 r2 => ?_⟩⟩
  exact q (v :: vs) H2 (s1.trans s2) ⟨v, vs, rfl, Enc.mono s2 r1, r2⟩
theorem xh_nil {α : Type} [Enc α] : XA X W ss [] (.ok (⟨[]⟩ : Hom 0 α)) := PA_imp pa_nil fun σ H Q ⟨sl, q⟩ => q [] H (Same.refl H) ⟨rfl, trivial⟩
theorem xh_cons {n : Nat} {α : Type} [Enc α] {m : Res α} {r : Res (Hom n α)} (h : XI X W ss e m) (t : XA X W ss es r) (hs : starEach (e :: es) X.env = (false, eval e X.env) :: starEach es X.env := by rfl) :
    XA X W ss (e :: es) (m.bind fun a => r.bind fun as => .ok (⟨a :: as.l⟩ : Hom (n + 1) α)) := by
  refine PA_imp (pa_cons h t hs) fun σ H Q ⟨sl, q⟩ => ⟨sl, wpR_imp (wpR_bind q) (Same.refl H) fun a q v H1 s1 r1 => ⟨sl.mono s1 s1, wpR_imp (wpR_bind q) s1 fun as q vs H2 s2 r2 => ?_⟩⟩
  exact q (v :: vs) H2 (s1.trans s2) ⟨by rw [List.length_cons, r2.1], Enc.mono s2 r1, r2.2⟩
theorem xhk_nil {α : Type} [Enc α] : XAK X W ss [] (.ok (⟨[]⟩ : Hom 0 α)) := PA_imp pa_nil fun σ H Q ⟨F, a, sl, q⟩ => q [] H F (Same.refl H) ⟨Same.refl F, a, fun _ _ h => .inl h⟩ ⟨rfl, trivial⟩
theorem xhk_cons {n : Nat} {α : Type} [Enc α] {m : Res α} {r : Res (Hom n α)} (h : XK X W ss e m fr) (t : XAK X W ss es r) (hs : starEach (e :: es) X.env = (false, eval e X.env) :: starEach es X.env := by rfl) : XAK X W ss (e :: es) (m.bind fun a => r.bind fun as => .ok (⟨a :: as.l⟩ : Hom (n + 1) α)) := by
  refine PA_imp (pa_cons h t hs) fun σ H Q ⟨F, a, sl, q⟩ => ⟨F, a, sl, wpR_imp (wpR_bind q) (Same.refl H) fun x q v H1 F1 G1 s1 ex1 pr1 k1 => ⟨F1, ex1.sub, sl.mono ex1.le s1, wpR_imp (wpR_bind q) s1 fun as q vs H2 F2 s2 ex2 r2 => ?_⟩⟩
  obtain ⟨v', e1, r1⟩ := k1
  cases e1
  exact q (v :: vs) H2 F2 (s1.trans s2) (ex1.trans s1 ex2) ⟨by rw [List.length_cons, r2.1], Enc.mono ex2.le r1, r2.2⟩
theorem XA.cast {A : Type} [EncA A] {m m' : Res A} (h : XA X W ss es m) (q : m' = m) : XA X W ss es m' := q ▸ h
end
section
variable {X : Cx} {W : WX} {ss : List Slot} {e : Expr} {es : List Expr} {pos : Pos} {k : Nat}
theorem same_upd {H : Hp} {p : Addr} {o : HO} (h : H p = none) : Same H (upd H p o) := fun b u z => by
  rw [upd_ne (ne_of_none z h)]; exact z
theorem smallLine {n : Nat} (h : n ≤ 1000) : n ≤ sizeLine := Nat.le_of_lt (small1000 h)
theorem xi_pair {α β : Type} [Enc α] [Enc β] {m : Res (α × β × Unit)} {a b : Expr} (h : XA X W ss [a, b] m) : XI X W ss (.Tuple [a, b] k pos) (m.bind fun x => .ok (x.1, x.2.1)) := by
  refine PE_imp (pe_tup h) fun σ H Q ⟨sl, q⟩ => ⟨sl, wpR_imp (wpR_bind q) (Same.refl H) fun x q vs H1 s1 r1 => ?_⟩
  obtain ⟨v1, r, rfl, h1, v2, r', rfl, h2, h3⟩ := r1
  have h3 : r' = [] := h3
  subst h3
  refine ⟨smallLine (by simp), fun p hp => q _ _ (s1.trans (same_upd hp)) ⟨p, v1, v2, rfl, upd_same, Enc.mono (same_upd hp) h1, Enc.mono (same_upd hp) h2⟩⟩
theorem xi_tup {n : Nat} {α : Type} [Enc α] {m : Res (Hom n α)} (h : XA X W ss es m) (hn : n ≤ 1000 := by decide) : XI X W ss (.Tuple es k pos) (m.bind fun x => .ok (⟨x.l⟩ : Tup α)) := by
  refine PE_imp (pe_tup h) fun σ H Q ⟨sl, q⟩ => ⟨sl, wpR_imp (wpR_bind q) (Same.refl H) fun x q vs H1 s1 ⟨el, r1⟩ => ?_⟩
  have hv : vs.length = x.l.length := All2.length r1
  exact ⟨smallLine (by omega), fun p hp => q _ _ (s1.trans (same_upd hp)) ⟨p, vs, rfl, SqT.of upd_same, All2.mono (same_upd hp) r1⟩⟩
theorem new_ow {α : Type} [Enc α] {F H H1 F1 : Hp} {p : Addr} {vs : List V} {as : List α} {K : Frag} {Q : VK} (s1 : Same H H1) (ex : Ext F H F1 H1) (hp : H1 p = none) (r : All2 (fun v a => Enc.rep K F1 v a) vs as)
    (q : ∀ v H' F' G', Same H H' → Ext F H F' H' → Priv G' H F' H' → (ow as).P K F' G' (some v) → Q v H') : Q (.ref p) (upd H1 p (.lst vs)) := by
  have hF : F1 p = none := Same.free ex.sub hp
  refine q _ _ F1 (upd noHp p (.lst vs)) (s1.trans (same_upd hp)) ⟨ex.le, ex.sub.trans (same_upd hp), ex.new⟩ (fun b u z => ?_) ⟨p, vs, rfl, upd_same, r⟩
  by_cases e : b = p
  · subst e; rw [upd_same] at z; cases z
    exact ⟨upd_same, Same.free s1 hp, hF, rfl⟩
  · rw [upd_ne e] at z; cases z
theorem xk_lst {n : Nat} {α : Type} [Enc α] {m : Res (Hom n α)} (h : XAK X W ss es m) (hn : n ≤ 1000 := by decide) : XK X W ss (.List es pos) (m.bind fun x => .ok x.l) ow := by
  refine PE_imp (pe_lst h) fun σ H Q ⟨F, sf, sl, q⟩ => ⟨F, sf, sl, wpR_imp (wpR_bind q) (Same.refl H) fun x q vs H1 F1 s1 ex ⟨el, r1⟩ => ?_⟩
  have hv : vs.length = x.l.length := All2.length r1
  exact ⟨smallLine (by omega), fun p hp => new_ow s1 ex hp r1 q⟩
theorem xak_imm {n : Nat} {α : Type} [Enc α] [Imm α] {m : Res (Hom n α)} (h : XA X W ss es m) : XAK X W ss es m := by
  refine PA_imp h fun σ H Q ⟨F, a, sl, q⟩ => ⟨sl.mono a (Same.refl H), wpR_imp q (Same.refl H) fun x q v H' s r => ?_⟩
  exact q v H' _ s (ext_imm a s) ⟨r.1, All2.mono (join_r (a.trans s) (tups_le H')) (All2.imp (fun _ _ z => Imm.imm z) r.2)⟩
end

def spOf (K : Frag) (mg : Str → Option Value) {A R : Type} [EncA A] (f : A → Res R) (kr : R → Slot) : Sp := fun vs H Q E => ∃ (a : A) (F : Hp), EncA.rep K F vs a ∧ Same F H ∧
  match f a with
  | .ok r => ∀ v H' F' G', Same H H' → Ext F H F' H' → Priv G' H F' H' → (kr r).P K F' G' (some v) → Q v H'
  | .exc x => ∀ cls d H', mg x.cls = some cls → Same H H' → payRep x.pay d H' → E cls d H'
  | .stuck => False
abbrev wE (E : L2.XK) : WX := fun cls d _ H => E cls d H
section
variable {P : Program} {w : World} {K : Frag} {mg : Str → Option Value} {base : Heap}
theorem all3_any {K : Frag} {F : Hp} : ∀ n : Nat, All3 K F (List.replicate n any) (List.replicate n noHp) (List.replicate n (none : Option V))
  | 0 => trivial
  | n + 1 => by
    rw [List.replicate_succ, List.replicate_succ, List.replicate_succ]
    exact ⟨trivial, all3_any n⟩
theorem All3.append {K : Frag} {F : Hp} : ∀ {ss ts : List Slot} {Gs Gt : List Hp} {σ τ : L2.St}, All3 K F ss Gs σ → All3 K F ts Gt τ → All3 K F (ss ++ ts) (Gs ++ Gt) (σ ++ τ)
  | [], _, [], _, [], _, _, h => h
  | _ :: _, _, _ :: _, _, _ :: _, _, ⟨x, y⟩, h => ⟨x, All3.append y h⟩
  | [], _, _ :: _, _, _, _, h, _ => h.elim
  | [], _, [], _, _ :: _, _, h, _ => h.elim
  | _ :: _, _, [], _, _, _, h, _ => h.elim
  | _ :: _, _, _ :: _, _, [], _, h, _ => h.elim
theorem pw_no : ∀ n : Nat, (List.replicate n noHp).Pairwise Dj
  | 0 => List.Pairwise.nil
  | n + 1 => by
    rw [List.replicate_succ]
    exact List.pairwise_cons.mpr ⟨fun G m a => .inl rfl, pw_no n⟩
theorem fn_ok {x qual : Str} {st : Stmt} {f : Addr} {fd : FuncData} {N ps : List Str} {k : Nat} {A R : Type} [EncP A] {g : A → Res R} {kr : R → Slot} (F : Fun K x qual st f fd) (S : FnScope N ps (defScope st)) (hl : EncP.len A = ps.length)
    (hbody : ∀ (a : A) (cdv : Value) (A' : Around) (outer : List Env) (s : Shared) (H : Hp) (E : L2.XK), Room k (A'.deeper (envOfC qual (defScope st) s.heap.objs.size f cdv)) →
      ST (cxOf (L2.CX P w) P w K mg base N qual (defScope st) f cdv A' outer s H E) (wE E) true (EncP.slots a ++ List.replicate (N.length - EncP.len A) any) (defBody st) (g a) kr) :
    FnOk P w K mg base (L2.CX P w) (k + 1) f fd ps (spOf K mg g kr) := by
  refine F.okX S (fun vs H Q E ⟨a, F0, r, _⟩ => (EncP.start r).1.trans hl) fun cdv A' outer s H vs Q E hr ⟨a, F0, r, sF, q⟩ => ?_
  refine ⟨_, hbody a cdv A' outer s H E hr, H, F0, F0, List.replicate (EncP.len A) noHp ++ List.replicate (N.length - EncP.len A) noHp, ⟨⟨Same.refl _, sF, fun _ _ h => .inl h⟩, Same.refl _, ?_, ?_, ?_⟩, fun _ _ _ h => h, ?_⟩
  · obtain ⟨l, z⟩ := EncP.start r
    have e : L2.start N vs = vs.map some ++ List.replicate (N.length - EncP.len A) none := by unfold L2.start; rw [l]
    rw [e]
    exact z.append (all3_any _)
  · intro G m b u z
    rw [List.replicate_append_replicate] at m
    rw [(List.mem_replicate.mp m).2] at z
    cases z
  · rw [List.replicate_append_replicate]
    exact pw_no _
  · show wpS _ _ (g a) H _
    cases e : g a with
    | ok r' => rw [e] at q; exact fun v H' F' G' s1 ex pr k => q v H' F' G' s1 ex pr k
    | exc x => rw [e] at q; exact fun σ cls d H' h1 h2 h3 => q cls d H' h1 h2 h3
    | stuck => rw [e] at q; exact q
end
section
variable {X : Cx} {W : WX} {ss : List Slot} {k : Nat} {f : Addr} {fd : FuncData} {ps : List Str} {A R : Type} [EncA A] {g : A → Res R} {kr : R → Slot} {x : Str} {p pos : Pos} {e : Expr} {es : List Expr}
structure Fill (X : Cx) {A' A : Type} [EncA A'] [EncA A] (fd : FuncData) (ps : List Str) (c : A' → A) : Prop where
  ex : ∃ dvs ds, Binds X.K fd ps ds ∧ Vals dvs ds ∧ ∀ H vs a, EncA.rep X.K H vs a → EncA.rep X.K H (vs ++ dvs) (c a)
theorem Fill.all {X : Cx} {A : Type} [EncA A] {fd : FuncData} {ps : List Str} (b : Binds X.K fd ps []) : Fill X fd ps (fun a : A => a) := ⟨[], [], b, .nil, fun H vs a h => by rw [List.append_nil]; exact h⟩
variable {A' : Type} [EncA A'] {c : A' → A}
theorem xi_call [Enc R] [View kr] (F : FnOk X.prog X.w X.K X.mg X.base (L2.CX X.prog X.w) k f fd ps (spOf X.K X.mg g kr)) (hr : Room k X.A) (hm : X.mg x = some (.ref f)) (hk : PySem.W.keepIn X.K (.ref f) = true) (fl : Fill X fd ps c) (tk : Takes X W) {m : Res A'}
    (ha : XA X W ss (e :: es) m) (hg : Gl X x := by rfl) (hdb : (x == ("__debug__" : Str)) = false := by decide) (he : starEach (e :: es) X.env = (false, eval e X.env) :: starEach es X.env := by rfl) (hpl : (backTo pos (starEach es X.env)).any (·.1) = false := by rfl) :
    XI X W ss (.Call (.Name x p) (e :: es) [] pos) (m.bind fun a => g (c a)) := by
  obtain ⟨dvs, ds, hb, hd, hc⟩ := fl.ex
  refine PE_imp (pe_callSD (E := fun σ cls d H => W cls d σ H) F hr hg hm hk hb hd (fun σ => passAt tk σ) ha hdb he hpl) fun σ H Q ⟨sl, q⟩ => ⟨sl, wpR_imp (wpR_bind q) (Same.refl H) fun a q vs H1 s1 r1 => ?_⟩
  refine ⟨c a, H1, hc _ _ _ r1, Same.refl _, ?_⟩
  cases eg : g (c a) with
  | ok r => rw [eg] at q; exact fun v H' F' G' s2 ex pr k => q v H' (s1.trans s2) (View.view ((kr r).mono ex.sub (fun b u z => (pr b u z).1) k))
  | exc x => rw [eg] at q; exact fun cls d H' h1 h2 h3 => q cls d H' h1 (s1.trans h2) h3
  | stuck => rw [eg] at q; exact q
class KImm {R : Type} (kr : R → Slot) : Prop where
  imm : ∀ {K : Frag} {F G : Hp} {o : Option V} {r : R}, (kr r).P K F G o → (kr r).P K (tups F) G o
instance {α : Type} [Enc α] [Imm α] : KImm (fr (α := α)) := ⟨fun ⟨v, e, r⟩ => ⟨v, e, Imm.imm r⟩⟩
instance {α : Type} [Enc α] [Imm α] : KImm (ow (α := α)) := ⟨fun ⟨p, vs, e, g, r⟩ => ⟨p, vs, e, g, All2.imp (fun _ _ z => Imm.imm z) r⟩⟩
theorem xk_call [KImm kr] (F : FnOk X.prog X.w X.K X.mg X.base (L2.CX X.prog X.w) k f fd ps (spOf X.K X.mg g kr)) (hr : Room k X.A) (hm : X.mg x = some (.ref f)) (hk : PySem.W.keepIn X.K (.ref f) = true) (fl : Fill X fd ps c) (tk : Takes X W) {m : Res A'}
    (ha : XA X W ss (e :: es) m) (hg : Gl X x := by rfl) (hdb : (x == ("__debug__" : Str)) = false := by decide) (he : starEach (e :: es) X.env = (false, eval e X.env) :: starEach es X.env := by rfl) (hpl : (backTo pos (starEach es X.env)).any (·.1) = false := by rfl) :
    XK X W ss (.Call (.Name x p) (e :: es) [] pos) (m.bind fun a => g (c a)) kr := by
  obtain ⟨dvs, ds, hb, hd, hc⟩ := fl.ex
  refine PE_imp (pe_callSD (E := fun σ cls d H => W cls d σ H) F hr hg hm hk hb hd (fun σ => passAt tk σ) ha hdb he hpl) fun σ H Q ⟨F0, sf, sl, q⟩ => ⟨sl.mono sf (Same.refl H), wpR_imp (wpR_bind q) (Same.refl H) fun a q vs H1 s1 r1 => ?_⟩
  refine ⟨c a, H1, hc _ _ _ r1, Same.refl _, ?_⟩
  cases eg : g (c a) with
  | ok r =>
    rw [eg] at q
    intro v H' F' G' s2 ex pr k
    have sH := sf.trans (s1.trans s2)
    refine q v H' (join F0 (tups H')) G' (s1.trans s2) (ext_imm sf (s1.trans s2)) (fun b u z => ?_) ((kr r).mono ((tups_mono ex.sub).trans (join_r sH (tups_le H'))) (Same.refl G') (KImm.imm k))
    obtain ⟨h1, h2, h3, h4⟩ := pr b u z
    refine ⟨h1, Same.free s1 h2, ?_, h4⟩
    cases ej : join F0 (tups H') b with
    | none => rfl
    | some y =>
      rcases join_or ej with z' | z'
      · have := (sf.trans s1) _ _ z'
        rw [h2] at this; cases this
      · have t1 := tups_isT z'
        have t2 := tups_le H' _ _ z'
        rw [h1] at t2; cases t2
        rw [h4] at t1; cases t1
  | exc x => rw [eg] at q; exact fun cls d H' h1 h2 h3 => q cls d H' h1 (s1.trans h2) h3
  | stuck => rw [eg] at q; exact q
end
end G

namespace G
open PySem PySem.Spec PyProof.Rows L2
structure ItOk {α : Type} [Enc α] (K : Frag) (J : It) (xs : List α) (F0 : Hp) : Prop where
  go : ∀ i F H a, Same F0 F → Same F H → xs[i]? = some a → J.go i H ∧ ∀ v H', J.yld i H v H' → Same H H' ∧ ∃ F', Ext F H F' H' ∧ Enc.rep K F' v a
  stop : ∀ i F H, Same F0 F → Same F H → xs.length ≤ i → J.stop i H
section
variable (X : Cx) (W : WX)
def rdPI {α : Type} [Enc α] (ss : List Slot) (m : Res (List α)) : TI := fun σ H R =>
  ∃ F, Same F H ∧ Sl X.K F H ss σ ∧ wpR X W m σ H fun xs => ∀ J H' F', Same H H' → Ext F H F' H' → ItOk X.K J xs F' → R J H'
def XIt {α : Type} [Enc α] (ss : List Slot) (tg iter : Expr) (m : Res (List α)) : Prop := PI X tg iter (rdPI X W ss m)
def Tg {α : Type} [Enc α] (tg : Expr) (u : α → List Slot → List Slot) : Prop :=
  ∃ g, PG X tg g ∧ ∀ (a : α) (v : V) (B F0 F H : Hp) (Gs : List Hp) (ss : List Slot) (σ : L2.St) (Q : L2.St → Hp → Prop), Asn X.K B F0 ss σ H F Gs → Enc.rep X.K F v a →
    (∀ σ' Gs', Asn X.K B F0 (u a ss) σ' H F Gs' → Q σ' H) → g v σ H Q
end
section
variable {X : Cx} {W : WX} {ss : List Slot} {tg : Expr}
theorem PI_imp {e : Expr} {t t' : TI} (h : PI X tg e t) (f : ∀ σ H R, t' σ H R → t σ H R) : PI X tg e t' := ⟨fun pins s σ H R I q => h.run pins s σ H R I (f _ _ _ q)⟩
theorem ext_refl {F H : Hp} (s : Same F H) : Ext F H F H := ⟨Same.refl _, s, fun _ _ h => .inl h⟩
theorem it_list {α : Type} [Enc α] {e : Expr} {m : Res (List α)} (h : XK X W ss e m fr) : XIt X W ss tg e m := by
  refine PI_imp (pi_list h) fun σ H R ⟨F, sf, sl, q⟩ => ⟨F, sf, sl, wpR_imp q (Same.refl H) fun xs q v H1 F1 G1 s1 ex1 _ k1 => ?_⟩
  obtain ⟨v', e1, p, vs, rfl, hp, r⟩ := k1
  cases e1
  refine ⟨p, rfl, ⟨vs, SqL.of (ex1.sub _ _ hp)⟩, q _ H1 F1 s1 ex1 ⟨fun i F2 H2 a sa sb hi => ?_, fun i F2 H2 sa sb hi => ⟨vs, SqL.of (sb _ _ (sa _ _ hp)), by rw [r.length]; exact hi⟩⟩⟩
  obtain ⟨v, hv, rv⟩ := r.get hi
  refine ⟨⟨vs, v, SqL.of (sb _ _ (sa _ _ hp)), hv⟩, fun v' H' ⟨e, y⟩ => ?_⟩
  subst e
  have ev : v' = v := Option.some.inj ((y vs (SqL.of (sb _ _ (sa _ _ hp)))).symm.trans hv)
  subst ev
  exact ⟨Same.refl _, F2, ext_refl sb, Enc.mono sa rv⟩
theorem it_tup {α : Type} [Enc α] {e : Expr} {m : Res (Tup α)} (h : XK X W ss e m fr) : XIt X W ss tg e (m.bind fun x => .ok x.l) := by
  refine PI_imp (pi_tup h) fun σ H R ⟨F, sf, sl, q⟩ => ⟨F, sf, sl, wpR_imp (wpR_bind q) (Same.refl H) fun xs q v H1 F1 G1 s1 ex1 _ k1 => ?_⟩
  obtain ⟨v', e1, p, vs, rfl, hp, r⟩ := k1
  cases e1
  refine ⟨p, rfl, ⟨vs, seqT ex1.sub hp⟩, q _ H1 F1 s1 ex1 ⟨fun i F2 H2 a sa sb hi => ?_, fun i F2 H2 sa sb hi => ⟨vs, seqT (sa.trans sb) hp, by rw [r.length]; exact hi⟩⟩⟩
  obtain ⟨v, hv, rv⟩ := r.get hi
  refine ⟨⟨vs, v, seqT (sa.trans sb) hp, hv⟩, fun v' H' ⟨e, y⟩ => ?_⟩
  subst e
  have ev : v' = v := Option.some.inj ((y vs (seqT (sa.trans sb) hp)).symm.trans hv)
  subst ev
  exact ⟨Same.refl _, F2, ext_refl sb, Enc.mono sa rv⟩
def rangeL (lo : Int) (n : Nat) : List Int := (List.range n).map fun (i : Nat) => lo + (i : Int)
theorem rangeL_get {lo : Int} {n i : Nat} {a : Int} (h : (rangeL lo n)[i]? = some a) : i < n ∧ a = lo + (i : Int) := by
  unfold rangeL at h
  rw [List.getElem?_map] at h
  by_cases hi : i < n
  · rw [List.getElem?_range hi] at h
    exact ⟨hi, (Option.some.inj h).symm⟩
  · rw [List.getElem?_eq_none (by rw [List.length_range]; omega)] at h
    cases h
theorem rangeL_len (lo : Int) (n : Nat) : (rangeL lo n).length = n := by unfold rangeL; rw [List.length_map, List.length_range]
theorem itok_range {K : Frag} {lo : Int} {n : Nat} {F0 : Hp} : ItOk K (Itr lo n) (rangeL lo n) F0 :=
  ⟨fun i F H a sa sb hi => ⟨(rangeL_get hi).1, fun v H' ⟨e, y⟩ => by
    subst e
    exact ⟨Same.refl _, F, ext_refl sb, by rw [y, (rangeL_get hi).2]; rfl⟩⟩, fun i F H sa sb hi => by rw [rangeL_len] at hi; exact hi⟩
def small62 (i : Int) : Bool := decide (-(2 ^ 62) ≤ i) && decide (i < 2 ^ 62)
theorem small62_of {i : Int} (h : small62 i = true) : -(2 ^ 62) ≤ i ∧ i < 2 ^ 62 := by
  unfold small62 at h
  rw [Bool.and_eq_true] at h
  exact ⟨of_decide_eq_true h.1, of_decide_eq_true h.2⟩
theorem wpR_guard {α : Type} {c : Bool} {m : Res α} {σ : L2.St} {H : Hp} {P : α → Prop} (h : wpR X W (guardR c m) σ H P) : c = true ∧ wpR X W m σ H P := by
  cases c with
  | true => exact ⟨rfl, h⟩
  | false => exact h.elim
theorem it_range1 {e : Expr} {m : Res (Int × Unit)} {p pos : Pos} (ha : XA X W ss [e] m) (hm : X.mg "range" = none) (hg : Gl X "range" := by rfl) (hs : starEach [e] X.env = [(false, eval e X.env)] := by rfl) :
    XIt X W ss tg (.Call (.Name "range" p) [e] [] pos) (m.bind fun n => guardR (small62 n.1) (.ok (rangeL 0 n.1.toNat))) := by
  refine PI_imp (pi_range1 hg hm ha hs) fun σ H R ⟨F, sf, sl, q⟩ => ⟨sl.mono sf (Same.refl H), wpR_imp (wpR_bind q) (Same.refl H) fun n q' vs H1 s1 r1 => ?_⟩
  obtain ⟨v, r, e1, e2, e3⟩ := r1
  have e2 : v = .int n.1 := e2
  have e3 : r = [] := e3
  subst e1; subst e2; subst e3
  obtain ⟨g, q'⟩ := wpR_guard q'
  obtain ⟨h1, h2⟩ := small62_of g
  exact ⟨n.1, rfl, h1, h2, q' _ H1 F s1 ⟨Same.refl F, sf.trans s1, fun _ _ h => .inl h⟩ itok_range⟩
def signsOf (x : Str) : List Str := x.cps.toList.map fun c => ⟨#[c]⟩
theorem it_str {e : Expr} {m : Res Str} (h : XI X W ss e m) : XIt X W ss tg e (m.bind fun x => .ok (signsOf x)) := by
  refine PI_imp (pi_str h) fun σ H R ⟨F, sf, sl, q⟩ => ⟨sl.mono sf (Same.refl H), wpR_imp (wpR_bind q) (Same.refl H) fun x q v H1 s1 r1 => ⟨x, r1, ?_⟩⟩
  refine q _ H1 F s1 ⟨Same.refl F, sf.trans s1, fun _ _ h => .inl h⟩ ⟨fun i F2 H2 a sa sb hi => ?_, fun i F2 H2 sa sb hi => ?_⟩
  · unfold signsOf at hi
    rw [List.getElem?_map] at hi
    have hl : i < x.cps.size := by
      cases e : x.cps.toList[i]? with
      | none => rw [e] at hi; cases hi
      | some c =>
        have z := (List.getElem?_eq_some_iff.mp e).1
        rw [Array.length_toList] at z; exact z
    refine ⟨hl, fun v' H' ⟨e, c, hc, y⟩ => ?_⟩
    subst e
    rw [Array.getElem?_toList, hc] at hi
    have ea : (⟨#[c]⟩ : Str) = a := Option.some.inj hi
    subst ea
    exact ⟨Same.refl _, F2, ext_refl sb, y⟩
  · have z : x.cps.size ≤ i := by
      unfold signsOf at hi
      rw [List.length_map, Array.length_toList] at hi
      exact hi
    exact z
def enumL {α : Type} (xs : List α) : List (Int × α) := xs.mapIdx fun i a => ((i : Int), a)
theorem tg_name (i : Nat) {α : Type} [Enc α] {x : Str} {pos : Pos} (hN : X.N.Nodup) (hi : X.N[i]? = some x := by rfl) (hx : Loc X.env.scope x := by first | exact Or.inl rfl | exact Or.inr rfl)
    (hf : X.fn x = true ∨ X.env.scope.names.lookup x = some .local := by first | exact .inl rfl | exact .inr rfl) : Tg X (α := α) (.Name x pos) (fun a ss => ss.set i (fr a)) :=
  ⟨_, pg_name hN hi hx hf, fun a v B F0 F H Gs ss σ Q A r q => q _ _ (A.set (s := fr a) (Same.refl H) (ext_refl A.ext.sub) priv_no ⟨v, rfl, r⟩ i)⟩
theorem tg_two {α β : Type} [Enc α] [Enc β] {t1 t2 : Expr} {k : Nat} {pos : Pos} {u1 : α → List Slot → List Slot} {u2 : β → List Slot → List Slot} (h1 : Tg X t1 u1) (h2 : Tg X t2 u2) (hc : X.calm = true := by rfl)
    (hs1 : (assignEach [t1, t2] X.env).map (·.2) = assign t1 X.env :: (assignEach [t2] X.env).map (·.2) := by rfl) (hs2 : (assignEach [t2] X.env).map (·.2) = assign t2 X.env :: (assignEach [] X.env).map (·.2) := by rfl)
    (hn : (assignEach [t1, t2] X.env).length = 2 := by rfl) (hst : (assignEach [t1, t2] X.env).findIdx? (·.1) = none := by rfl) :
    Tg X (.Tuple [t1, t2] k pos) (fun (x : α × β) ss => u2 x.2 (u1 x.1 ss)) := by
  obtain ⟨g1, p1, q1⟩ := h1
  obtain ⟨g2, p2, q2⟩ := h2
  refine ⟨_, pg_tup hc (pgs_cons p1 (pgs_cons p2 pgs_nil hs2) hs1) hn hst, fun a v B F0 F H Gs ss σ Q A r q => ?_⟩
  obtain ⟨p, v1, v2, rfl, hp, r1, r2⟩ := r
  refine ⟨p, [v1, v2], rfl, SqT.of (A.ext.sub _ _ hp), rfl, v1, [v2], rfl, q1 _ _ _ _ _ _ _ _ _ _ A r1 fun σ1 Gs1 A1 => ⟨v2, [], rfl, q2 _ _ _ _ _ _ _ _ _ _ A1 r2 fun σ2 Gs2 A2 => ⟨rfl, q σ2 Gs2 A2⟩⟩⟩
theorem s1_asg {α : Type} [Enc α] {u : α → List Slot → List Slot} {m : Res α} {e : Expr} {pos : Pos} (h : XK X W ss e m fr) (hg : Tg X tg u) (hs : swapsWithSole [tg] e pos.line X.env = pure false := by rfl) (hw : swappedStores [tg] e X.env = pure none := by rfl)
    (h1 : (assignEach [tg] X.env).map (·.2) = [assign tg X.env] := by rfl) : S1 X W ss (.Assign [tg] e pos) m (fun a => u a ss) := by
  obtain ⟨g, pg, qg⟩ := hg
  refine PS_imp (ps_asg h pg hs hw h1) fun D σ H ⟨B, F0, F, Gs, A, q⟩ => ⟨F, A.ext.sub, A.sl, wpS_R q A.base fun a q v H' F' G' s ex _ ⟨v', e1, r⟩ => ?_⟩
  cases e1
  exact qg a v B F0 F' H' Gs ss σ _ (A.grow s ex) r fun σ' Gs' A' => q σ' H' F' Gs' A'
def foldR {S α : Type} (f : S → α → Res S) : S → List α → Res S
  | s, [] => .ok s
  | s, a :: as => (f s a).bind fun s' => foldR f s' as
def loopO {S L R α : Type} (f : S → α → Res (Out S S R)) : S → List α → Res (Out S L R)
  | s, [] => .ok (.nx s)
  | s, a :: as => (f s a).bind fun o => match o with
    | .nx s' => loopO f s' as
    | .ct s' => loopO f s' as
    | .bk s' => .ok (.nx s')
    | .rt r => .ok (.rt r)
def B1 (X : Cx) (W : WX) {S L R : Type} (ss : List Slot) (st : Stmt) (M : Res (Out S L R)) (post : S → List Slot) (pl : L → List Slot) (kr : R → Slot) : Prop := PS X st (rdX X ss (wB X W M post pl kr))
theorem for_core {S L R α : Type} [Enc α] {iter : Expr} {body : List Stmt} {pos : Pos} {u : α → List Slot → List Slot} {m : Res (List α)} {f : S → α → Res (Out S S R)} {inv : S → List Slot} {s0 : S} {pl : L → List Slot} {kr : R → Slot}
    (hp : PassesOwn (model X.prog X.w) X.A X.env X.xe) (hc : X.calm = true) (hi : XIt X W ss tg iter m) (hg : Tg X tg u) (h0 : Wk ss (inv s0)) (hb : ∀ s a, SB X W (u a (inv s)) body (f s a) inv inv kr) (hs : ∀ x, foldedSetIterable iter X.env x = pure x) :
    B1 X W ss (.For tg iter body [] pos) (m.bind fun xs => loopO f s0 xs) inv pl kr := by
  obtain ⟨g, pg, qg⟩ := hg
  have hb' : PSs X body fun D σ H => ∃ s a, rdX X (u a (inv s)) (wB X W (f s a) inv inv kr) D σ H := ⟨fun pins s σ H D I ⟨s', a, q⟩ => (hb s' a).run pins s σ H D I q⟩
  refine PS_imp (ps_for hp hc hi pg hb' hs) fun D σ H ⟨B, F0, F, Gs, A, q⟩ => ⟨F, A.ext.sub, A.sl, wpS_R (wpS_bind q) A.base fun xs q J H1 F1 s1 ex1 it => ?_⟩
  have A1 := (A.grow s1 ex1).wk h0
  -- the walk's own frame: F1
  have up : ∀ {F2 H2 : Hp}, Ext F1 B F2 H2 → Ext F0 B F2 H2 := fun {F2 H2} ex => ⟨A1.ext.le.trans ex.le, ex.sub, fun b u z => (ex.new b u z).elim (A1.ext.new b u) .inr⟩
  have upA : ∀ {ss : List Slot} {σ : L2.St} {H2 F2 : Hp} {Gs : List Hp}, Asn X.K B F1 ss σ H2 F2 Gs → Asn X.K B F0 ss σ H2 F2 Gs := fun a => ⟨up a.ext, a.base, a.all, a.priv, a.dj⟩
  refine ⟨fun i n σ H => i + n = xs.length ∧ ∃ s F2 Gs2, Asn X.K B F1 (inv s) σ H F2 Gs2 ∧ wpS X W (loopO f s (xs.drop i)) B fun o => match o with
      | .nx s => NxOk X (inv s) D B F0
      | .rt r => RtOk X kr r D B F0
      | .bk l => BkOk X (pl l) D B F0
      | .ct l => CtOk X (pl l) D B F0, ⟨xs.length, by omega, s0, F1, Gs, ⟨ext_refl A1.ext.sub |> fun e => ⟨e.le, e.sub, fun _ _ h => .inl h⟩, A1.base, A1.all, A1.priv, A1.dj⟩, q⟩, fun i n σ H ⟨hn, s, F2, Gs2, A2, q2⟩ => ?_⟩
  by_cases hlt : i < xs.length
  · refine .inr ?_
    have hx : xs[i]? = some xs[i] := List.getElem?_eq_getElem hlt
    obtain ⟨hgo, hy⟩ := it.go i F2 H xs[i] A2.ext.le A2.ext.sub hx
    rw [List.drop_eq_getElem_cons hlt] at q2
    have q2 := wpS_bind (show wpS X W ((f s xs[i]).bind _) B _ from q2)
    refine ⟨hgo, fun σ' H' => ∃ s' F3 Gs3, Asn X.K B F1 (inv s') σ' H' F3 Gs3 ∧ wpS X W (loopO f s' (xs.drop (i + 1))) B fun o => match o with
      | .nx s => NxOk X (inv s) D B F0
      | .rt r => RtOk X kr r D B F0
      | .bk l => BkOk X (pl l) D B F0
      | .ct l => CtOk X (pl l) D B F0, fun σ' H' ⟨s', F3, Gs3, A3, q3⟩ => ⟨n - 1, by omega, by omega, s', F3, Gs3, A3, q3⟩, fun v H' y => ?_⟩
    obtain ⟨s3, F3, ex3, r3⟩ := hy v H' y
    refine qg xs[i] v B F1 F3 H' Gs2 (inv s) σ _ (A2.grow s3 ex3) r3 fun σ4 Gs4 A4 => ⟨s, xs[i], B, F1, F3, Gs4, A4, wpS_imp q2 fun o q5 => ?_⟩
    cases o with
    | nx s' => exact fun σ' H' F' Gs' A' => ⟨s', F', Gs', A', q5⟩
    | ct s' => exact fun σ' H' F' Gs' A' => ⟨s', F', Gs', A', q5⟩
    | bk s' => exact fun σ' H' F' Gs' A' => q5 σ' H' F' Gs' (upA A')
    | rt r => exact fun v H' F' G' a b c d => q5 v H' F' G' a (up b) c d
  · have e : xs.drop i = [] := List.drop_eq_nil_iff.mpr (by omega)
    rw [e] at q2
    exact .inl ⟨it.stop i F2 H A2.ext.le A2.ext.sub (by omega), q2 σ H F2 Gs2 (upA A2)⟩
theorem loopO_fold {S L R α : Type} (f : S → α → Res S) : ∀ (xs : List α) (s : S), loopO (L := L) (R := R) (fun s a => (f s a).bind fun s' => .ok (.nx s')) s xs = (foldR f s xs).bind fun s => .ok (.nx s)
  | [], s => rfl
  | a :: as, s => by
    show ((f s a).bind _).bind _ = ((f s a).bind _).bind _
    cases f s a with
    | ok s' => exact loopO_fold f as s'
    | exc x => rfl
    | stuck => rfl
theorem sb_of_sn {S L R : Type} {sts : List Stmt} {M : Res S} {post : S → List Slot} {pl : L → List Slot} {kr : R → Slot} (h : SN X W ss sts M post) : SB X W ss sts (M.bind fun s => .ok (.nx s)) post pl kr :=
  PSs_imp h fun D σ H ⟨B, F0, F, Gs, A, q⟩ => ⟨B, F0, F, Gs, A, wpS_imp (wpS_bind q) fun _ z => z⟩
theorem b1_for {S L R α : Type} [Enc α] {iter : Expr} {body : List Stmt} {pos : Pos} {u : α → List Slot → List Slot} {m : Res (List α)} {f : S → α → Res (Out S S R)} (inv : S → List Slot) (s0 : S) {pl : L → List Slot} {kr : R → Slot}
    (hi : XIt X W ss tg iter m) (hg : Tg X tg u) (hb : ∀ s a, SB X W (u a (inv s)) body (f s a) inv inv kr) (h0 : Wk ss (inv s0) := by exact Wk.refl _)
    (hp : PassesOwn (model X.prog X.w) X.A X.env X.xe := by exact passes_of rfl) (hc : X.calm = true := by rfl) (hs : ∀ x, foldedSetIterable iter X.env x = pure x := by intro _; rfl) :
    B1 X W ss (.For tg iter body [] pos) (m.bind fun xs => loopO f s0 xs) inv pl kr := for_core hp hc hi hg h0 hb hs
theorem s1_for {S α : Type} [Enc α] {iter : Expr} {body : List Stmt} {pos : Pos} {u : α → List Slot → List Slot} {m : Res (List α)} {f : S → α → Res S} (inv : S → List Slot) (s0 : S)
    (hi : XIt X W ss tg iter m) (hg : Tg X tg u) (hb : ∀ s a, SN X W (u a (inv s)) body (f s a) inv) (h0 : Wk ss (inv s0) := by exact Wk.refl _)
    (hp : PassesOwn (model X.prog X.w) X.A X.env X.xe := by exact passes_of rfl) (hc : X.calm = true := by rfl) (hs : ∀ x, foldedSetIterable iter X.env x = pure x := by intro _; rfl) :
    S1 X W ss (.For tg iter body [] pos) (m.bind fun xs => foldR f s0 xs) inv := by
  refine PS_imp (for_core (L := Empty) (R := Unit) (f := fun s a => (f s a).bind fun s' => .ok (.nx s')) (pl := fun x => nomatch x) (kr := fun _ => any) hp hc hi hg h0 (fun s a => sb_of_sn (hb s a)) hs) fun D σ H ⟨B, F0, F, Gs, A, q⟩ => ⟨B, F0, F, Gs, A, ?_⟩
  cases m with
  | ok xs =>
    show wpS X W (loopO _ s0 xs) B _
    rw [loopO_fold]
    have q : wpS X W (foldR f s0 xs) B _ := q
    cases e : foldR f s0 xs with
    | ok s => rw [e] at q; exact q
    | exc x => rw [e] at q; exact q
    | stuck => rw [e] at q; exact q
  | exc x => exact q
  | stuck => exact q
theorem sb_b1 {S S' L R : Type} {st : Stmt} {rest : List Stmt} {M1 : Res (Out S L R)} {k : S → Res (Out S' L R)} {mid : S → List Slot} {post : S' → List Slot} {pl : L → List Slot} {kr : R → Slot} (h1 : B1 X W ss st M1 mid pl kr) (h2 : ∀ s, SB X W (mid s) rest (k s) post pl kr) :
    SB X W ss (st :: rest) (M1.next k) post pl kr := by
  have h2' : PSs X rest fun D σ H => ∃ s, rdX X (mid s) (wB X W (k s) post pl kr) D σ H := ⟨fun pins s σ H D I ⟨a, q⟩ => (h2 a).run pins s σ H D I q⟩
  refine PSs_imp (pss_cons h1 h2') fun D σ H ⟨B, F0, F, Gs, A, q⟩ => ⟨B, F0, F, Gs, A, wpS_imp (wpS_bind q) fun o q => ?_⟩
  cases o with
  | nx s => exact fun σ' H' F' Gs' A' => ⟨s, B, F0, F', Gs', A', q⟩
  | rt r => exact q
  | bk l => exact q
  | ct l => exact q
def Res.tail {S R : Type} (M : Res (Out S Empty R)) (k : S → Res R) : Res R := M.bind fun o =>
  match o with
  | .nx s => k s
  | .rt r => .ok r
theorem st_b1 {S R : Type} {e : Bool} {st : Stmt} {rest : List Stmt} {M1 : Res (Out S Empty R)} {k : S → Res R} {mid : S → List Slot} {pl : Empty → List Slot} {kr : R → Slot} (h1 : B1 X W ss st M1 mid pl kr) (h2 : ∀ s, ST X W e (mid s) rest (k s) kr) :
    ST X W e ss (st :: rest) (M1.tail k) kr := by
  have h2' : PSs X rest fun D σ H => ∃ s, rdX X (mid s) (wT X W e (k s) kr) D σ H := ⟨fun pins s σ H D I ⟨a, q⟩ => (h2 a).run pins s σ H D I q⟩
  refine PSs_imp (pss_cons h1 h2') fun D σ H ⟨B, F0, F, Gs, A, z, q⟩ => ⟨B, F0, F, Gs, A, wpS_imp (wpS_bind q) fun o q => ?_⟩
  cases o with
  | nx s => exact fun σ' H' F' Gs' A' => ⟨s, B, F0, F', Gs', A', z, q⟩
  | rt r => exact q
  | bk l => exact nomatch l
  | ct l => exact nomatch l
theorem b1_if {S L R : Type} {c : Expr} {mc : Res Bool} {a b : List Stmt} {pos : Pos} {M1 M2 : Res (Out S L R)} {post : S → List Slot} {pl : L → List Slot} {kr : R → Slot} (hc : XT X W ss c mc) (ha : SB X W ss a M1 post pl kr) (hb : SB X W ss b M2 post pl kr) :
    B1 X W ss (.If c a b pos) (mc.bind fun t => if t then M1 else M2) post pl kr :=
  ifX (w := fun t => wB X W (if t then M1 else M2) post pl kr) hc ha hb fun D B F0 q => wpS_bind q
def whileO {S L R : Type} (c : S → Res Bool) (f : S → Res (Out S S R)) : Nat → S → Res (Out S L R)
  | 0, _ => .stuck
  | n + 1, s => (c s).bind fun b => if b then (f s).bind fun o => (match o with
    | .nx s' => whileO c f n s'
    | .ct s' => whileO c f n s'
    | .bk s' => .ok (.nx s')
    | .rt r => .ok (.rt r)) else .ok (.nx s)
def whileR {S : Type} (c : S → Res Bool) (f : S → Res S) : Nat → S → Res S
  | 0, _ => .stuck
  | n + 1, s => (c s).bind fun b => if b then (f s).bind (whileR c f n) else .ok s
end
end G

namespace G
open PySem PySem.Spec PyProof.Rows L2
theorem wipe_setc (i : Nat) (o : Option V) : ∀ (vs : List Nat) (σ : L2.St), wipe (σ.set i o) vs = if i ∈ vs then wipe σ vs else (wipe σ vs).set i o
  | [], σ => by simp [wipe]
  | v :: vs, σ => by
    show (wipe (σ.set i o) vs).set v none = if i ∈ v :: vs then (wipe σ vs).set v none else ((wipe σ vs).set v none).set i o
    rw [wipe_setc i o vs σ]
    by_cases h : i ∈ vs
    · rw [if_pos h, if_pos (List.mem_cons_of_mem _ h)]
    · rw [if_neg h]
      by_cases e : i = v
      · subst e
        rw [if_pos List.mem_cons_self, List.set_set]
      · rw [if_neg (by simp only [List.mem_cons, not_or]; exact ⟨e, h⟩), List.set_comm _ _ e]
theorem wipe_set {i : Nat} {o : Option V} {vs : List Nat} {σ : L2.St} (h : i ∈ vs) : wipe (σ.set i o) vs = wipe σ vs := by rw [wipe_setc, if_pos h]
theorem wipe_self : ∀ (vs ws : List Nat) (σ : L2.St), (∀ v ∈ ws, v ∈ vs) → wipe (wipe σ ws) vs = wipe σ vs
  | vs, [], σ, _ => rfl
  | vs, w :: ws, σ, h => by
    show wipe ((wipe σ ws).set w none) vs = wipe σ vs
    rw [wipe_set (h w List.mem_cons_self), wipe_self vs ws σ fun v m => h v (List.mem_cons_of_mem _ m)]
def wipeS (ss : List Slot) : List Nat → List Slot
  | [] => ss
  | v :: vs => (wipeS ss vs).set v any
theorem Sl.set {K : Frag} {F H : Hp} {s : Slot} {o : Option V} (x : s.P K F H o) : ∀ (i : Nat) {ss : List Slot} {σ : L2.St}, Sl K F H ss σ → Sl K F H (ss.set i s) (σ.set i o)
  | _, [], [], h => h
  | 0, _ :: _, _ :: _, ⟨_, y⟩ => ⟨x, y⟩
  | i + 1, _ :: _, _ :: _, ⟨z, y⟩ => ⟨z, Sl.set x i y⟩
  | _, [], _ :: _, h => h.elim
  | _, _ :: _, [], h => h.elim
theorem Sl.wipe {K : Frag} {F H : Hp} : ∀ (vs : List Nat) {ss : List Slot} {σ : L2.St}, Sl K F H ss σ → Sl K F H (wipeS ss vs) (L2.wipe σ vs)
  | [], _, _, h => h
  | v :: vs, _, _, h => Sl.set (s := any) (o := none) trivial v (Sl.wipe vs h)
abbrev WF : WX := fun _ _ _ _ => False
def TgC (X : Cx) (scope : Scope) (vs : List Nat) {α : Type} [Enc α] (tg : Expr) (u : α → List Slot → List Slot) : Prop :=
  ∃ g, (∀ (s : Shared) (H : Hp) (C : Addr) (cl : List (Str × Addr)) (fp : List Addr), PG (X.blk s H scope (compEnvC scope cl C X.env) fp) tg g) ∧
    ∀ (a : α) (v : V) (F H : Hp) (ss : List Slot) (σ : L2.St) (Q : L2.St → Hp → Prop), Sl X.K F H ss σ → Same F H → Enc.rep X.K F v a →
      (∀ σ', Sl X.K F H (u a ss) σ' → L2.wipe σ' vs = L2.wipe σ vs → Q σ' H) → g v σ H Q
section
variable {X : Cx} {W : WX} {ss : List Slot} {tg : Expr} {scope : Scope} {vs : List Nat}
theorem tc_name (i : Nat) {α : Type} [Enc α] {x : Str} {pos : Pos} (hN : X.N.Nodup) (hi : X.N[i]? = some x := by rfl) (hv : i ∈ vs := by decide)
    (hx : ∀ (s : Shared) (H : Hp) (C : Addr) (cl : List (Str × Addr)) (fp : List Addr), Loc (X.blk s H scope (compEnvC scope cl C X.env) fp).env.scope x := by intro _ _ _ _ _; first | exact Or.inl rfl | exact Or.inr rfl)
    (hf : ∀ (s : Shared) (H : Hp) (C : Addr) (cl : List (Str × Addr)) (fp : List Addr), (X.blk s H scope (compEnvC scope cl C X.env) fp).fn x = true ∨ (X.blk s H scope (compEnvC scope cl C X.env) fp).env.scope.names.lookup x = some .local := by intro _ _ _ _ _; first | exact .inl rfl | exact .inr rfl) :
    TgC X scope vs (α := α) (.Name x pos) (fun a ss => ss.set i (fr a)) :=
  ⟨gName i, fun s H C cl fp => pg_name (X := X.blk s H scope (compEnvC scope cl C X.env) fp) hN hi (hx s H C cl fp) (hf s H C cl fp), fun a v F H ss σ Q sl sf r q => q _ (sl.set (s := fr a) ⟨v, rfl, r⟩ i) (wipe_set hv)⟩
end
def lcR {α β : Type} (p : α → Res Bool) (g : α → Res β) : List α → Res (List β)
  | [] => .ok []
  | a :: as => match p a with
    | .ok true => (match g a with
      | .ok b => (lcR p g as).bind fun bs => .ok (b :: bs)
      | _ => .stuck)
    | .ok false => lcR p g as
    | _ => .stuck
def lcT {α β : Type} (p : α → Res Bool) (g : α → Res β) (xs : List α) : Res (List β) := guardR (decide (xs.length ≤ 1000000)) (lcR p g xs)
theorem lcR_ok {α β : Type} {p : α → Res Bool} {g : α → Res β} {g' : α → β} : ∀ {xs : List α}, (∀ a ∈ xs, p a = .ok true) → (∀ a ∈ xs, g a = .ok (g' a)) → lcR p g xs = .ok (xs.map g')
  | [], _, _ => rfl
  | a :: as, hp, hg => by
    unfold lcR
    rw [hp a List.mem_cons_self, hg a List.mem_cons_self, lcR_ok (fun b m => hp b (List.mem_cons_of_mem _ m)) (fun b m => hg b (List.mem_cons_of_mem _ m))]
    rfl
theorem lcR_filter {α β : Type} {p : α → Res Bool} {g : α → Res β} {p' : α → Bool} {g' : α → β} : ∀ {xs : List α}, (∀ a ∈ xs, p a = .ok (p' a)) → (∀ a ∈ xs, p' a = true → g a = .ok (g' a)) → lcR p g xs = .ok ((xs.filter p').map g')
  | [], _, _ => rfl
  | a :: as, hp, hg => by
    unfold lcR
    have ih := lcR_filter (p := p) (g := g) (p' := p') (g' := g') (xs := as) (fun b m => hp b (List.mem_cons_of_mem _ m)) (fun b m => hg b (List.mem_cons_of_mem _ m))
    rw [hp a List.mem_cons_self, ih]
    cases e : p' a with
    | true => rw [hg a List.mem_cons_self e]; simp [List.filter_cons, e]
    | false => simp [List.filter_cons, e]
section
variable {X : Cx} {W : WX} {ss : List Slot} {tg elt iter : Expr} {scope : Scope} {own : List (Str × Nat)} {pos : Pos}
theorem lc_read {α β : Type} [Enc α] [Enc β] {vs : List Nat} {u : α → List Slot → List Slot} {m : Res (List α)} {p : α → Res Bool} {gg : α → Res β} {g : TG}
    (qg : ∀ (a : α) (v : V) (F H : Hp) (ss : List Slot) (σ : L2.St) (Q : L2.St → Hp → Prop), Sl X.K F H ss σ → Same F H → Enc.rep X.K F v a → (∀ σ', Sl X.K F H (u a ss) σ' → L2.wipe σ' vs = L2.wipe σ vs → Q σ' H) → g v σ H Q)
    {σ : L2.St} {H : Hp} {Q : VK} {F : Hp} (sf : Same F H) (sl : Sl X.K F H ss σ)
    (q : wpR X W (m.bind fun xs => lcT p gg xs) σ H fun a => ∀ v H' F' G', Same H H' → Ext F H F' H' → Priv G' H F' H' → (ow a).P X.K F' G' (some v) → Q v H') :
    tLc (rdPI X W ss m) g (fun σ H Q => ∃ a, rT X WF (u a (wipeS ss vs)) (p a) σ H Q) (fun σ H Q => ∃ a, rK X WF (u a (wipeS ss vs)) (gg a) fr σ H Q) vs σ H Q := by
  refine ⟨F, sf, sl, wpR_imp (wpR_bind q) (Same.refl H) fun xs q J H1 F1 s1 ex1 it D nD => ?_⟩
  obtain ⟨hlen, q⟩ := wpR_guard q
  have hlen : xs.length ≤ 1000000 := of_decide_eq_true hlen
  have nF1 : F1 D = none := Same.free ex1.sub nD
  -- the whole comes out well
  obtain ⟨bs, ebs⟩ : ∃ bs, lcR p gg xs = .ok bs := by
    cases e : lcR p gg xs with
    | ok bs => exact ⟨bs, rfl⟩
    | stuck => rw [e] at q; exact q.elim
    | exc x =>
      exfalso
      have nx : ∀ (l : List α) (x : Exn), lcR p gg l ≠ .exc x := by
        intro l
        induction l with
        | nil => intro x h; cases h
        | cons a as ih =>
          intro x h
          unfold lcR at h
          split at h
          · split at h
            · cases e2 : lcR p gg as with
              | ok bs => rw [e2] at h; cases h
              | exc y => exact ih y e2
              | stuck => rw [e2] at h; cases h
            · cases h
          · exact ih x h
          · cases h
      exact nx xs x e
  rw [ebs] at q
  refine ⟨fun i n H => i + n = xs.length ∧ ∃ acc F2 done left, H D = some (.lst acc) ∧ acc.length ≤ i ∧ Same H1 H ∧ Ext F1 H1 F2 H ∧ F2 D = none ∧ All2 (fun v a => Enc.rep X.K F2 v a) acc done ∧ lcR p gg (xs.drop i) = .ok left ∧ bs = done ++ left,
    ⟨xs.length, by omega, [], F1, [], bs, upd_same, Nat.le_refl _, same_upd nD, ⟨Same.refl _, ex1.sub.trans (same_upd nD), fun _ _ h => .inl h⟩, nF1, trivial, ebs, rfl⟩, fun i n H2 ⟨hn, acc, F2, done, left, hD, hacc, s2, ex2, nF2, ra, el, eb⟩ => ?_⟩
  by_cases hlt : i < xs.length
  · refine .inr ?_
    have hx : xs[i]? = some xs[i] := List.getElem?_eq_getElem hlt
    obtain ⟨hgo, hy⟩ := it.go i F2 H2 xs[i] ex2.le ex2.sub hx
    rw [List.drop_eq_getElem_cons hlt] at el
    unfold lcR at el
    refine ⟨hgo, fun H' => ∃ acc F2 done left, H' D = some (.lst acc) ∧ acc.length ≤ i + 1 ∧ Same H1 H' ∧ Ext F1 H1 F2 H' ∧ F2 D = none ∧ All2 (fun v a => Enc.rep X.K F2 v a) acc done ∧ lcR p gg (xs.drop (i + 1)) = .ok left ∧ bs = done ++ left,
      fun H' x => ⟨n - 1, by omega, by omega, x⟩, fun v H' y => ?_⟩
    obtain ⟨s3, F3, ex3, r3⟩ := hy v H' y
    have keepD : ∀ {Fa Fb Ha Hb : Hp}, Fa D = none → Ext Fa Ha Fb Hb → Ha D = some (.lst acc) → Same Ha Hb → Fb D = none := fun {Fa Fb Ha Hb} n0 ex hh ss => by
      cases e : Fb D with
      | none => rfl
      | some w =>
        rcases ex.new D w e with z | z | z
        · rw [n0] at z; cases z
        · rw [hh] at z; cases z
        · have t := ex.sub _ _ e
          rw [ss _ _ hh] at t; cases t; cases z
    have nF3 := keepD nF2 ex3 hD s3
    have hD3 := s3 _ _ hD
    have slW : Sl X.K F3 H' (wipeS ss vs) (L2.wipe σ vs) := (sl.wipe vs).mono (ex1.le.trans (ex2.le.trans ex3.le)) (s1.trans (s2.trans s3))
    refine qg xs[i] v F3 H' (wipeS ss vs) (L2.wipe σ vs) _ slW ex3.sub r3 fun σ4 sl4 e4 => ⟨e4.trans (wipe_self vs vs σ fun _ m => m), xs[i], sl4.mono ex3.sub (Same.refl H'), ?_⟩
    cases ep : p xs[i] with
    | stuck => rw [ep] at el; cases el
    | exc x => rw [ep] at el; cases el
    | ok b =>
      rw [ep] at el
      intro H5 s5
      have ex5 : Ext F3 H' F3 H5 := ⟨Same.refl _, ex3.sub.trans s5, fun _ _ h => .inl h⟩
      have exF : Ext F1 H1 F3 H5 := ex2.trans s2 (ex3.trans s3 ex5)
      cases b with
      | false =>
        rw [if_neg Bool.false_ne_true]
        exact ⟨acc, F3, done, left, s5 _ _ hD3, Nat.le_succ_of_le hacc, s2.trans (s3.trans s5), exF, nF3, ra.mono ex3.le, el, eb⟩
      | true =>
        rw [if_pos rfl]
        refine ⟨xs[i], F3, ex5.sub, sl4.mono (Same.refl F3) s5, ?_⟩
        cases eg : gg xs[i] with
        | stuck => rw [eg] at el; cases el
        | exc x => rw [eg] at el; cases el
        | ok b =>
          rw [eg] at el
          intro y H6 F6 G6 s6 ex6 _ ⟨y', e6, r6⟩
          cases e6
          have hD5 := s5 _ _ hD3
          have nF6 := keepD nF3 ex6 hD5 s6
          have hD6 := s6 _ _ hD5
          obtain ⟨left', el'⟩ : ∃ l, lcR p gg (xs.drop (i + 1)) = .ok l := by
            cases e7 : lcR p gg (xs.drop (i + 1)) with
            | ok l => exact ⟨l, rfl⟩
            | exc x => rw [e7] at el; cases el
            | stuck => rw [e7] at el; cases el
          rw [el'] at el
          have el2 : b :: left' = left := by injection el
          have nD1 : H1 D = none := nD
          have sU : Same H1 (upd H6 D (.lst (acc ++ [y]))) := fun c w z => by
            rw [upd_ne (fun e => by rw [e, nD1] at z; cases z)]
            exact s6 _ _ (s5 _ _ (s3 _ _ (s2 _ _ z)))
          refine ⟨acc, hD6, Nat.lt_of_le_of_lt (by omega : acc.length ≤ 1000000) (by decide), acc ++ [y], F6, done ++ [b], left', upd_same, by rw [List.length_append, List.length_singleton]; omega, sU, ⟨exF.le.trans ex6.le, fun c w z => ?_, fun c w z => ?_⟩, nF6, All2.append (ra.mono (ex3.le.trans ex6.le)) ⟨r6, trivial⟩, el', by rw [eb, ← el2]; simp⟩
          · rw [upd_ne (fun e => by rw [e, nF6] at z; cases z)]
            exact ex6.sub _ _ z
          · rcases ex6.new c w z with z | z | z
            · exact exF.new c w z
            · exact .inr (.inl (Same.free (s2.trans (s3.trans s5)) z))
            · exact .inr (.inr z)
  · refine .inl ⟨it.stop i F2 H2 ex2.le ex2.sub (by omega), ?_⟩
    rw [List.drop_eq_nil_iff.mpr (by omega)] at el
    have e0 : ([] : List β) = left := by injection el
    subst e0
    rw [List.append_nil] at eb
    subst eb
    have nH : H D = none := Same.free s1 nD
    refine q (.ref D) H2 F2 (upd noHp D (.lst acc)) (s1.trans s2) (ex1.trans s1 ex2) (fun c w z => ?_) ⟨D, acc, rfl, upd_same, ra⟩
    by_cases e : c = D
    · subst e
      rw [upd_same] at z; cases z
      exact ⟨hD, nH, nF2, rfl⟩
    · rw [upd_ne e] at z; cases z
theorem xk_lc {α β : Type} [Enc α] [Enc β] {u : α → List Slot → List Slot} {m : Res (List α)} {gg : α → Res β} (hi : XIt X W ss tg iter m) (hg : TgC X scope (own.map (·.2)) tg u)
    (he : ∀ a s H C cl fp, XK (X.blk s H scope (compEnvC scope cl C X.env) fp) WF (u a (wipeS ss (own.map (·.2)))) elt (gg a) fr) (hN : X.N.Nodup) (ok : BlkOk X.N X.env.scope scope own) (hc : X.calm = true := by rfl) (hs : ∀ x, foldedSetIterable iter X.env x = pure x := by intro _; rfl) :
    XK X W ss (.ListComp elt [⟨tg, iter, [], 0⟩] scope pos) (m.bind fun xs => lcT (fun _ => .ok true) gg xs) ow := by
  obtain ⟨g, pg, qg⟩ := hg
  have he' : ∀ (s : Shared) (H : Hp) (C : Addr) (cl : List (Str × Addr)) (fp : List Addr), PE (X.blk s H scope (compEnvC scope cl C X.env) fp) elt (fun σ H Q => ∃ a, rK X WF (u a (wipeS ss (own.map (·.2)))) (gg a) fr σ H Q) := fun s H C cl fp =>
    ⟨fun pins s' σ H' Q I ⟨a, q⟩ => (he a s H C cl fp).run pins s' σ H' Q I q⟩
  have ht' : ∀ (s : Shared) (H : Hp) (C : Addr) (cl : List (Str × Addr)) (fp : List Addr), PTs (X.blk s H scope (compEnvC scope cl C X.env) fp) [] (fun σ H Q => ∃ a, rT X WF (u a (wipeS ss (own.map (·.2)))) ((fun _ => .ok true : α → Res Bool) a) σ H Q) := fun s H C cl fp =>
    ⟨fun pins s' σ H' Q I ⟨a, sl, q⟩ => pts_nil.run pins s' σ H' Q I (q H' (Same.refl H'))⟩
  exact PE_imp (pe_lc hc hN hi ok pg ht' he' hs) fun σ H Q ⟨F, sf, sl, q⟩ => lc_read qg sf sl q
theorem xk_lcIf {α β : Type} [Enc α] [Enc β] {cond : Expr} {u : α → List Slot → List Slot} {m : Res (List α)} {p : α → Res Bool} {gg : α → Res β} (hi : XIt X W ss tg iter m) (hg : TgC X scope (own.map (·.2)) tg u)
    (ht : ∀ a s H C cl fp, XT (X.blk s H scope (compEnvC scope cl C X.env) fp) WF (u a (wipeS ss (own.map (·.2)))) cond (p a))
    (he : ∀ a s H C cl fp, XK (X.blk s H scope (compEnvC scope cl C X.env) fp) WF (u a (wipeS ss (own.map (·.2)))) elt (gg a) fr) (hN : X.N.Nodup) (ok : BlkOk X.N X.env.scope scope own) (hc : X.calm = true := by rfl) (hs : ∀ x, foldedSetIterable iter X.env x = pure x := by intro _; rfl) :
    XK X W ss (.ListComp elt [⟨tg, iter, [cond], 0⟩] scope pos) (m.bind fun xs => lcT p gg xs) ow := by
  obtain ⟨g, pg, qg⟩ := hg
  have he' : ∀ (s : Shared) (H : Hp) (C : Addr) (cl : List (Str × Addr)) (fp : List Addr), PE (X.blk s H scope (compEnvC scope cl C X.env) fp) elt (fun σ H Q => ∃ a, rK X WF (u a (wipeS ss (own.map (·.2)))) (gg a) fr σ H Q) := fun s H C cl fp =>
    ⟨fun pins s' σ H' Q I ⟨a, q⟩ => (he a s H C cl fp).run pins s' σ H' Q I q⟩
  have ht0 : ∀ (s : Shared) (H : Hp) (C : Addr) (cl : List (Str × Addr)) (fp : List Addr), PT (X.blk s H scope (compEnvC scope cl C X.env) fp) cond (fun σ H Q => ∃ a, rT X WF (u a (wipeS ss (own.map (·.2)))) (p a) σ H Q) := fun s H C cl fp =>
    ⟨fun pins s' σ H' Q I ⟨a, q⟩ => (ht a s H C cl fp).run pins s' σ H' Q I q⟩
  exact PE_imp (pe_lc hc hN hi ok pg (fun s H C cl fp => pts_one (ht0 s H C cl fp)) he' hs) fun σ H Q ⟨F, sf, sl, q⟩ => lc_read qg sf sl q
theorem s1_lc (i : Nat) {α β : Type} [Enc α] [Enc β] {y : Str} {py spos : Pos} {u : α → List Slot → List Slot} {m : Res (List α)} {gg : α → Res β} (hi : XIt X W ss tg iter m) (hg : TgC X scope (own.map (·.2)) tg u)
    (he : ∀ a s H C cl fp, XK (X.blk s H scope (compEnvC scope cl C X.env) fp) WF (u a (wipeS ss (own.map (·.2)))) elt (gg a) fr) (hN : X.N.Nodup) (ok : BlkOk X.N X.env.scope scope own) (hsw : swapsWith (.ListComp elt [⟨tg, iter, [], 0⟩] scope pos) (some (.Name y py)) spos.line X.env = pure true)
    (hy : X.N[i]? = some y := by rfl) (hyl : X.env.scope.names.lookup y = some .local := by rfl) (hc : X.calm = true := by rfl) (hs : ∀ x, foldedSetIterable iter X.env x = pure x := by intro _; rfl) :
    S1 X W ss (.Assign [.Name y py] (.ListComp elt [⟨tg, iter, [], 0⟩] scope pos) spos) (m.bind fun xs => lcT (fun _ => .ok true) gg xs) (fun bs => ss.set i (ow bs)) := by
  obtain ⟨g, pg, qg⟩ := hg
  have he' : ∀ (s : Shared) (H : Hp) (C : Addr) (cl : List (Str × Addr)) (fp : List Addr), PE (X.blk s H scope (compEnvC scope cl C X.env) fp) elt (fun σ H Q => ∃ a, rK X WF (u a (wipeS ss (own.map (·.2)))) (gg a) fr σ H Q) := fun s H C cl fp =>
    ⟨fun pins s' σ H' Q I ⟨a, q⟩ => (he a s H C cl fp).run pins s' σ H' Q I q⟩
  have ht' : ∀ (s : Shared) (H : Hp) (C : Addr) (cl : List (Str × Addr)) (fp : List Addr), PTs (X.blk s H scope (compEnvC scope cl C X.env) fp) [] (fun σ H Q => ∃ a, rT X WF (u a (wipeS ss (own.map (·.2)))) ((fun _ => .ok true : α → Res Bool) a) σ H Q) := fun s H C cl fp =>
    ⟨fun pins s' σ H' Q I ⟨a, sl, q⟩ => pts_nil.run pins s' σ H' Q I (q H' (Same.refl H'))⟩
  refine PS_imp (ps_setLc hc hN hy hyl hsw hi ok pg ht' he' hs) fun D σ H ⟨B, F0, F, Gs, A, q⟩ => lc_read qg A.ext.sub A.sl (wpS_R q A.base fun a q v H' F' G' s ex pr k => ?_)
  exact q _ H' F' _ (A.set (s := ow a) s ex pr k i)
theorem s1_lcIf (i : Nat) {α β : Type} [Enc α] [Enc β] {y : Str} {py spos : Pos} {cond : Expr} {u : α → List Slot → List Slot} {m : Res (List α)} {p : α → Res Bool} {gg : α → Res β} (hi : XIt X W ss tg iter m) (hg : TgC X scope (own.map (·.2)) tg u)
    (ht : ∀ a s H C cl fp, XT (X.blk s H scope (compEnvC scope cl C X.env) fp) WF (u a (wipeS ss (own.map (·.2)))) cond (p a))
    (he : ∀ a s H C cl fp, XK (X.blk s H scope (compEnvC scope cl C X.env) fp) WF (u a (wipeS ss (own.map (·.2)))) elt (gg a) fr) (hN : X.N.Nodup) (ok : BlkOk X.N X.env.scope scope own) (hsw : swapsWith (.ListComp elt [⟨tg, iter, [cond], 0⟩] scope pos) (some (.Name y py)) spos.line X.env = pure true)
    (hy : X.N[i]? = some y := by rfl) (hyl : X.env.scope.names.lookup y = some .local := by rfl) (hc : X.calm = true := by rfl) (hs : ∀ x, foldedSetIterable iter X.env x = pure x := by intro _; rfl) :
    S1 X W ss (.Assign [.Name y py] (.ListComp elt [⟨tg, iter, [cond], 0⟩] scope pos) spos) (m.bind fun xs => lcT p gg xs) (fun bs => ss.set i (ow bs)) := by
  obtain ⟨g, pg, qg⟩ := hg
  have he' : ∀ (s : Shared) (H : Hp) (C : Addr) (cl : List (Str × Addr)) (fp : List Addr), PE (X.blk s H scope (compEnvC scope cl C X.env) fp) elt (fun σ H Q => ∃ a, rK X WF (u a (wipeS ss (own.map (·.2)))) (gg a) fr σ H Q) := fun s H C cl fp =>
    ⟨fun pins s' σ H' Q I ⟨a, q⟩ => (he a s H C cl fp).run pins s' σ H' Q I q⟩
  have ht0 : ∀ (s : Shared) (H : Hp) (C : Addr) (cl : List (Str × Addr)) (fp : List Addr), PT (X.blk s H scope (compEnvC scope cl C X.env) fp) cond (fun σ H Q => ∃ a, rT X WF (u a (wipeS ss (own.map (·.2)))) (p a) σ H Q) := fun s H C cl fp =>
    ⟨fun pins s' σ H' Q I ⟨a, q⟩ => (ht a s H C cl fp).run pins s' σ H' Q I q⟩
  refine PS_imp (ps_setLc hc hN hy hyl hsw hi ok pg (fun s H C cl fp => pts_one (ht0 s H C cl fp)) he' hs) fun D σ H ⟨B, F0, F, Gs, A, q⟩ => lc_read qg A.ext.sub A.sl (wpS_R q A.base fun a q v H' F' G' s ex pr k => ?_)
  exact q _ H' F' _ (A.set (s := ow a) s ex pr k i)
end
end G

namespace G
open PySem PySem.Spec PyProof.Rows L2
structure Bi (X : Cx) (r : R2) {α β γ : Type} [Enc α] [Enc β] [Enc γ] (g : α → β → Res γ) : Prop where
  op : Op2 X r g
  nx : ∀ a b, NoX (g a b)
section
variable {X : Cx} {W : WX} {ss : List Slot} {pos : Pos} {a b : Expr}
theorem x_bin {α β γ : Type} [Enc α] [Enc β] [Enc γ] {op : Operator} {r : R2} {g : α → β → Res γ} {m1 : Res α} {m2 : Res β} (hr : OpR X (binaryOp op) r) (bi : Bi X r g) (h1 : XI X W ss a m1) (h2 : XI X W ss b m2) :
    XI X W ss (.BinOp a op b pos) (m1.bind fun a => m2.bind fun b => g a b) := xi_bin hr bi.op bi.nx h1 h2
theorem x_cmp {α β γ : Type} [Enc α] [Enc β] [Enc γ] {op : CmpOp} {r : R2} {g : α → β → Res γ} {m1 : Res α} {m2 : Res β} (hr : OpR X (compareOp op) r) (bi : Bi X r g) (hm : behindInMarks op b = false) (h1 : XI X W ss a m1) (h2 : XI X W ss b m2) :
    XI X W ss (.Compare a [op] [b] pos) (m1.bind fun a => m2.bind fun b => g a b) := xi_cmp hr bi.op bi.nx hm h1 h2
theorem t_cmp {α β : Type} [Enc α] [Enc β] {op : CmpOp} {r : R2} {g : α → β → Res Bool} {m1 : Res α} {m2 : Res β} (hr : OpR X (compareOp op) r) (bi : Bi X r g) (hm : behindInMarks op b = false) (h1 : XI X W ss a m1) (h2 : XI X W ss b m2) :
    XT X W ss (.Compare a [op] [b] pos) (m1.bind fun a => m2.bind fun b => g a b) := xt_cmp hr bi.op bi.nx hm h1 h2
theorem b_add : Bi X (rI0 fun i j => .int (i + j)) (fun i j : Int => Res.ok (i + j)) := ⟨op2_I0 fun _ _ _ _ => rfl, fun _ _ => noX_ok⟩
theorem b_sub : Bi X (rI0 fun i j => .int (i - j)) (fun i j : Int => Res.ok (i - j)) := ⟨op2_I0 fun _ _ _ _ => rfl, fun _ _ => noX_ok⟩
def in64 (i : Int) : Bool := decide (-(2 ^ 64) < i) && decide (i < 2 ^ 64)
def mulR (i j : Int) : Res Int := guardR (in64 i || in64 j) (.ok (i * j))
theorem b_mul : Bi X (L2.rI CMul fun i j => .int (i * j)) mulR := ⟨op2_I (fun i j h => by
  unfold in64 at h
  simp only [Bool.or_eq_true, Bool.and_eq_true, decide_eq_true_eq] at h
  exact h) fun _ _ _ _ => rfl, fun _ _ => noX_guard⟩
theorem mulR_l {i j : Int} (h1 : -(2 ^ 64) < i) (h2 : i < 2 ^ 64) : mulR i j = .ok (i * j) := guardR_of (by unfold in64; rw [decide_eq_true h1, decide_eq_true h2]; rfl)
theorem mulR_r {i j : Int} (h1 : -(2 ^ 64) < j) (h2 : j < 2 ^ 64) : mulR i j = .ok (i * j) := guardR_of (by unfold in64; rw [decide_eq_true h1, decide_eq_true h2]; exact Bool.or_true _)
def divR (i j : Int) : Res Int := guardR (decide (0 < j) && decide (j < 10 ^ 70)) (.ok (i / j))
theorem b_div : Bi X (L2.rI CDivW fun i j => .int (i / j)) divR := ⟨op2_I (fun i j h => by
  simp only [Bool.and_eq_true, decide_eq_true_eq] at h
  refine wide_div (b := 250) h.1 ?_ (by decide) (by decide)
  have h2 := h.2
  have h1 := h.1
  omega) fun _ _ _ _ => rfl, fun _ _ => noX_guard⟩
theorem divR_of {i j : Int} (h1 : 0 < j) (h2 : j < 10 ^ 70) : divR i j = .ok (i / j) := guardR_of (by rw [decide_eq_true h1, decide_eq_true h2]; rfl)
def modR (i j : Int) : Res Int := guardR (decide (0 < j)) (.ok (i % j))
theorem b_mod : Bi X (L2.rI (fun _ j => 0 < j) fun i j => .int (i % j)) modR := ⟨op2_I (fun i j h => of_decide_eq_true h) fun _ _ _ _ => rfl, fun _ _ => noX_guard⟩
theorem modR_of {i j : Int} (h1 : 0 < j) : modR i j = .ok (i % j) := guardR_of (by simp [h1])
theorem xi_pow {i j : Int} {k1 k2 : Nat} {p1 p2 : Pos} (h : CPow i j) : XI X W ss (.BinOp (.Constant (.int i) k1 p1) .Pow (.Constant (.int j) k2 p2) pos) (.ok (i ^ j.toNat)) :=
  PE_imp (pe_op op_pow pe_int pe_int) fun σ H Q ⟨_, q⟩ => ⟨i, j, rfl, rfl, h, q _ H (Same.refl H) rfl⟩
theorem xi_neg {m : Res Int} (h : XI X W ss a m) : XI X W ss (.UnaryOp .USub a pos) (m.bind fun i => .ok (-i)) :=
  PE_imp (pe_un un_neg h) fun σ H Q ⟨sl, q⟩ => ⟨sl, wpR_imp (wpR_bind q) (Same.refl H) fun i q v H1 s1 r1 => ⟨i, r1, q _ H1 s1 rfl⟩⟩
theorem b_lt : Bi X (rI0 fun i j => .bl (decide (i < j))) (fun i j : Int => Res.ok (decide (i < j))) := ⟨op2_I0 fun _ _ _ _ => rfl, fun _ _ => noX_ok⟩
theorem b_le : Bi X (rI0 fun i j => .bl (decide (i ≤ j))) (fun i j : Int => Res.ok (decide (i ≤ j))) := ⟨op2_I0 fun _ _ _ _ => rfl, fun _ _ => noX_ok⟩
theorem b_gt : Bi X (rI0 fun i j => .bl (decide (i > j))) (fun i j : Int => Res.ok (decide (i > j))) := ⟨op2_I0 fun _ _ _ _ => rfl, fun _ _ => noX_ok⟩
theorem b_ge : Bi X (rI0 fun i j => .bl (decide (i ≥ j))) (fun i j : Int => Res.ok (decide (i ≥ j))) := ⟨op2_I0 fun _ _ _ _ => rfl, fun _ _ => noX_ok⟩
class Sca (α : Type) [Enc α] where
  v : α → V
  flat : ∀ {K : Frag} {H : Hp} {u : V} {a : α}, Enc.rep K H u a → u = v a
class ScaEq (α β : Type) [Enc α] [Enc β] [Sca α] [Sca β] where
  ok : ∀ (a : α) (b : β), scal (Sca.v a) (Sca.v b) = true
  eq : α → β → Bool
  iff : ∀ (a : α) (b : β), decide (Sca.v a = Sca.v b) = eq a b
instance : Sca Int := ⟨.int, fun h => h⟩
instance : Sca Bool := ⟨.bl, fun h => h⟩
instance : Sca Str := ⟨.str, fun h => h⟩
instance : Sca (Option Int) := ⟨fun o => match o with | none => .non | some i => .int i, fun {K H u o} h => by cases o with | none => exact h | some i => exact h.2⟩
instance : Sca (Option Str) := ⟨fun o => match o with | none => .non | some i => .str i, fun {K H u o} h => by cases o with | none => exact h | some i => exact h.2⟩
instance : ScaEq Int Int := ⟨fun _ _ => rfl, fun a b => decide (a = b), fun a b => by show decide (V.int a = V.int b) = _; by_cases e : a = b <;> simp [e]⟩
instance : ScaEq Bool Bool := ⟨fun _ _ => rfl, fun a b => decide (a = b), fun a b => by show decide (V.bl a = V.bl b) = _; by_cases e : a = b <;> simp [e]⟩
instance : ScaEq Str Str := ⟨fun _ _ => rfl, fun a b => decide (a = b), fun a b => by show decide (V.str a = V.str b) = _; by_cases e : a = b <;> simp [e]⟩
instance : ScaEq (Option Int) (Option Int) := ⟨fun a b => by cases a <;> cases b <;> rfl, fun a b => decide (a = b), fun a b => by
  cases a <;> cases b <;> first
    | rfl
    | (rename_i x y; show decide (V.int x = V.int y) = _; by_cases e : x = y <;> simp [e])⟩
instance : ScaEq Int (Option Int) := ⟨fun a b => by cases b <;> rfl, fun a b => decide (some a = b), fun a b => by
  cases b with
  | none => rfl
  | some y => show decide (V.int a = V.int y) = _; by_cases e : a = y <;> simp [e]⟩
instance : ScaEq (Option Int) Int := ⟨fun a b => by cases a <;> rfl, fun a b => decide (a = some b), fun a b => by
  cases a with
  | none => rfl
  | some y => show decide (V.int y = V.int b) = _; by_cases e : y = b <;> simp [e]⟩
instance : ScaEq (Option Str) (Option Str) := ⟨fun a b => by cases a <;> cases b <;> rfl, fun a b => decide (a = b), fun a b => by
  cases a <;> cases b <;> first
    | rfl
    | (rename_i x y; show decide (V.str x = V.str y) = _; by_cases e : x = y <;> simp [e])⟩
instance : ScaEq Str (Option Str) := ⟨fun a b => by cases b <;> rfl, fun a b => decide (some a = b), fun a b => by
  cases b with
  | none => rfl
  | some y => show decide (V.str a = V.str y) = _; by_cases e : a = y <;> simp [e]⟩
instance : ScaEq (Option Str) Str := ⟨fun a b => by cases a <;> rfl, fun a b => decide (a = some b), fun a b => by
  cases a with
  | none => rfl
  | some y => show decide (V.str y = V.str b) = _; by_cases e : y = b <;> simp [e]⟩
theorem b_eqS {α β : Type} [Enc α] [Enc β] [Sca α] [Sca β] [ScaEq α β] : Bi X rEq (fun (a : α) (b : β) => Res.ok (ScaEq.eq a b)) := ⟨fun a b v w H Q r1 r2 q => by
  rw [Sca.flat r1, Sca.flat r2]
  exact ⟨ScaEq.ok a b, by rw [ScaEq.iff]; exact q _ H (Same.refl H) rfl⟩, fun _ _ => noX_ok⟩
theorem b_neS {α β : Type} [Enc α] [Enc β] [Sca α] [Sca β] [ScaEq α β] : Bi X rNe (fun (a : α) (b : β) => Res.ok (!ScaEq.eq a b)) := ⟨fun a b v w H Q r1 r2 q => by
  rw [Sca.flat r1, Sca.flat r2]
  exact ⟨ScaEq.ok a b, by rw [ScaEq.iff]; exact q _ H (Same.refl H) rfl⟩, fun _ _ => noX_ok⟩
@[simp] theorem eqII (a b : Int) : ScaEq.eq a b = decide (a = b) := rfl
@[simp] theorem eqBB (a b : Bool) : ScaEq.eq a b = decide (a = b) := rfl
@[simp] theorem eqSS (a b : Str) : ScaEq.eq a b = decide (a = b) := rfl
@[simp] theorem eqOO (a b : Option Int) : ScaEq.eq a b = decide (a = b) := rfl
@[simp] theorem eqIO (a : Int) (b : Option Int) : ScaEq.eq a b = decide (some a = b) := rfl
@[simp] theorem eqOI (a : Option Int) (b : Int) : ScaEq.eq a b = decide (a = some b) := rfl
@[simp] theorem eqTT (a b : Option Str) : ScaEq.eq a b = decide (a = b) := rfl
@[simp] theorem eqST (a : Str) (b : Option Str) : ScaEq.eq a b = decide (some a = b) := rfl
@[simp] theorem eqTS (a : Option Str) (b : Str) : ScaEq.eq a b = decide (a = some b) := rfl
theorem xt_notN {α : Type} [Enc α] {m : Res (Option α)} {j : Nat} {p : Pos} (h : XI X W ss a m) : XT X W ss (.Compare a [.IsNot] [.Constant .none j p] pos) (m.bind fun o => .ok o.isSome) :=
  PT_imp (pt_cmp (pc_notN h)) fun σ H Q ⟨sl, q⟩ => ⟨sl, wpR_imp (wpR_bind q) (Same.refl H) fun o q v H1 s1 r1 => ⟨_, rfl, by
    cases o with
    | none => rw [show v = .non from r1]; exact q H1 s1
    | some x => rw [decide_eq_false r1.1]; exact q H1 s1⟩⟩
theorem xt_val {m : Res Bool} (h : XI X W ss a m) (he : ∀ whole, isTrue a X.env whole = (do let v ← whole; standAt a.pos; holding [v] (truthy v)) := by intro _; rfl) : XT X W ss a m :=
  PT_imp (pt_val h he) fun σ H Q ⟨sl, q⟩ => ⟨sl, wpR_imp q (Same.refl H) fun b q v H1 s1 r1 => ⟨b, r1, q H1 s1⟩⟩
theorem xt_not {m : Res Bool} (h : XT X W ss a m) : XT X W ss (.UnaryOp .Not a pos) (m.bind fun b => .ok (!b)) :=
  PT_imp (pt_not h) fun σ H Q ⟨sl, q⟩ => ⟨sl, wpR_imp (wpR_bind q) (Same.refl H) fun b q H1 s1 => q H1 s1⟩
def XW (X : Cx) (W : WX) (ss : List Slot) (e : Expr) (m : Res Bool) : Prop := PW X e (rT X W ss m)
theorem PW_imp {e : Expr} {t t' : TT} (h : PW X e t) (f : ∀ σ H Q, t' σ H Q → t σ H Q) : PW X e t' := ⟨fun wh pins s σ H Q I q => h.run wh pins s σ H Q I (f _ _ _ q)⟩
theorem xw_and1 {m : Res Bool} (h : XT X W ss a m) : XW X W ss (.BoolOp .And [a] pos) m := pw_and1 h
theorem xw_or1 {m : Res Bool} (h : XT X W ss a m) : XW X W ss (.BoolOp .Or [a] pos) m := pw_or1 h
theorem xw_and {rest : List Expr} {m m' : Res Bool} (h : XT X W ss a m) (h' : XW X W ss (.BoolOp .And (b :: rest) pos) m') : XW X W ss (.BoolOp .And (a :: b :: rest) pos) (m.bind fun t => if t then m' else .ok false) :=
  PW_imp (pw_and h h') fun σ H Q ⟨sl, q⟩ => ⟨sl, wpR_imp (wpR_bind q) (Same.refl H) fun t q H1 s1 => by
    cases t with
    | true => exact ⟨sl.mono s1 s1, wpR_imp q s1 fun b z H2 s2 => z H2 (s1.trans s2)⟩
    | false => exact q H1 s1⟩
theorem xw_or {rest : List Expr} {m m' : Res Bool} (h : XT X W ss a m) (h' : XW X W ss (.BoolOp .Or (b :: rest) pos) m') : XW X W ss (.BoolOp .Or (a :: b :: rest) pos) (m.bind fun t => if t then .ok true else m') :=
  PW_imp (pw_or h h') fun σ H Q ⟨sl, q⟩ => ⟨sl, wpR_imp (wpR_bind q) (Same.refl H) fun t q H1 s1 => by
    cases t with
    | false => exact ⟨sl.mono s1 s1, wpR_imp q s1 fun b z H2 s2 => z H2 (s1.trans s2)⟩
    | true => exact q H1 s1⟩
theorem xt_w {m : Res Bool} (h : XW X W ss a m) : XT X W ss a m := h.pt
theorem xi_one {op : BoolOp} {m : Res Bool} (h : XI X W ss a m) : XI X W ss (.BoolOp op [a] pos) m := pe_one h
theorem xi_and {rest : List Expr} {m m' : Res Bool} (h : XI X W ss a m) (h' : XI X W ss (.BoolOp .And (b :: rest) pos) m') : XI X W ss (.BoolOp .And (a :: b :: rest) pos) (m.bind fun t => if t then m' else .ok false) :=
  PE_imp (pe_and h h') fun σ H Q ⟨sl, q⟩ => ⟨sl, wpR_imp (wpR_bind q) (Same.refl H) fun t q v H1 s1 r1 => ⟨t, r1, by
    cases t with
    | true => exact ⟨sl.mono s1 s1, wpR_imp q s1 fun b z v' H2 s2 => z v' H2 (s1.trans s2)⟩
    | false => exact q _ H1 s1 rfl⟩⟩
theorem xi_or {rest : List Expr} {m m' : Res Bool} (h : XI X W ss a m) (h' : XI X W ss (.BoolOp .Or (b :: rest) pos) m') : XI X W ss (.BoolOp .Or (a :: b :: rest) pos) (m.bind fun t => if t then .ok true else m') :=
  PE_imp (pe_or h h') fun σ H Q ⟨sl, q⟩ => ⟨sl, wpR_imp (wpR_bind q) (Same.refl H) fun t q v H1 s1 r1 => ⟨t, r1, by
    cases t with
    | false => exact ⟨sl.mono s1 s1, wpR_imp q s1 fun b z v' H2 s2 => z v' H2 (s1.trans s2)⟩
    | true => exact q _ H1 s1 rfl⟩⟩
theorem xi_not {m : Res Bool} (h : XI X W ss a m) : XI X W ss (.UnaryOp .Not a pos) (m.bind fun b => .ok (!b)) :=
  PE_imp (pe_not h) fun σ H Q ⟨sl, q⟩ => ⟨sl, wpR_imp (wpR_bind q) (Same.refl H) fun b q v H1 s1 r1 => ⟨b, r1, q _ H1 s1 rfl⟩⟩
def unw {α : Type} (o : Option α) : Res α := match o with
  | some a => .ok a
  | none => .stuck
@[simp] theorem unw_some {α : Type} (a : α) : unw (some a) = .ok a := rfl
theorem xi_unw {α : Type} [Enc α] {m : Res (Option α)} (h : XI X W ss a m) : XI X W ss a (m.bind unw) :=
  PE_imp h fun σ H Q ⟨sl, q⟩ => ⟨sl, wpR_imp (wpR_bind q) (Same.refl H) fun o q v H1 s1 r1 => by
    cases o with
    | none => exact q.elim
    | some x => exact q v H1 s1 r1.2⟩
class NN (α : Type) [Enc α] : Prop where
  nn : ∀ {K : Frag} {H : Hp} {v : V} {a : α}, Enc.rep K H v a → v ≠ .non
instance : NN Int := ⟨fun h e => by rw [e] at h; cases h⟩
instance : NN Bool := ⟨fun h e => by rw [e] at h; cases h⟩
instance : NN Str := ⟨fun h e => by rw [e] at h; cases h⟩
instance {α : Type} [Enc α] : NN (List α) := ⟨fun ⟨_, _, e1, _⟩ e => by rw [e] at e1; cases e1⟩
instance {α : Type} [Enc α] : NN (Tup α) := ⟨fun ⟨_, _, e1, _⟩ e => by rw [e] at e1; cases e1⟩
instance {α β : Type} [Enc α] [Enc β] : NN (α × β) := ⟨fun ⟨_, _, _, e1, _⟩ e => by rw [e] at e1; cases e1⟩
instance {α β γ : Type} [Enc α] [Enc β] [Enc γ] : NN (T3 α β γ) := ⟨fun ⟨_, _, _, _, e1, _⟩ e => by rw [e] at e1; cases e1⟩
theorem xi_some {α : Type} [Enc α] [NN α] {m : Res α} (h : XI X W ss a m) : XI X W ss a (m.bind fun x => .ok (some x)) :=
  PE_imp h fun σ H Q ⟨sl, q⟩ => ⟨sl, wpR_imp (wpR_bind q) (Same.refl H) fun o q v H1 s1 r1 => q v H1 s1 ⟨NN.nn r1, r1⟩⟩
def idx {α : Type} (xs : List α) (i : Int) : Res α := match atI xs i with
  | some a => .ok a
  | none => .stuck
theorem idx_nat {α : Type} {xs : List α} {i : Nat} {a : α} (h : xs[i]? = some a) : idx xs (i : Int) = .ok a := by unfold idx; rw [atI_nat h]
theorem atI_all2 {α β : Type} {P : α → β → Prop} {xs : List α} {ys : List β} {i : Int} {b : β} (h : All2 P xs ys) (e : atI ys i = some b) : ∃ a, atI xs i = some a ∧ P a b := by
  unfold atI at e ⊢
  rw [h.length]
  cases q : ixN ys.length i with
  | none => rw [q] at e; cases e
  | some j =>
    rw [q] at e
    exact h.get e
theorem noX_idx {α : Type} {xs : List α} {i : Int} : NoX (idx xs i) := fun _ h => by
  unfold idx at h
  cases e : atI xs i with
  | none => rw [e] at h; cases h
  | some a => rw [e] at h; cases h
theorem okR_idx {α : Type} {xs : List α} {i : Int} {P : α → Prop} (h : okR (idx xs i) P) : ∃ a, atI xs i = some a ∧ P a := by
  unfold idx at h
  cases e : atI xs i with
  | none => rw [e] at h; exact h.elim
  | some a => rw [e] at h; exact ⟨a, rfl, h⟩
theorem o2_ixL {α : Type} [Enc α] : Op2 X (rIxL X.K) (fun (xs : List α) (i : Int) => idx xs i) := fun xs i v w H Q ⟨p, vs, e1, hp, r⟩ e2 q => by
  obtain ⟨a, ea, q⟩ := okR_idx q
  obtain ⟨u, hu, ru⟩ := atI_all2 r ea
  exact ⟨p, vs, i, u, e1, e2, SqL.of hp, hu, q u H (Same.refl H) ru⟩
theorem o2_ixS : Op2 X (rIxL X.K) (fun (xs : Scr) (i : Int) => idx xs.ns i) := fun xs i v w H Q ⟨p, e1, hp⟩ e2 q => by
  obtain ⟨a, ea, q⟩ := okR_idx q
  have r : All2 (fun v a => v = V.int a) (xs.ns.map V.int) xs.ns := All2.of_map
  obtain ⟨u, hu, ru⟩ := atI_all2 r ea
  exact ⟨p, _, i, u, e1, e2, hp, hu, q u H (Same.refl H) ru⟩
def strIx (x : Str) (i : Int) : Res Str := guardR (decide (x.length ≤ 1000000)) (match atI x.cps.toList i with
  | some c => .ok ⟨#[c]⟩
  | none => .stuck)
theorem o2_ixStr : Op2 X rIxS strIx := fun x i v w H Q e1 e2 q => by
  unfold strIx at q
  by_cases hl : x.length ≤ 1000000
  · rw [decide_eq_true hl, guardR_true] at q
    cases e : atI x.cps.toList i with
    | none => rw [e] at q; exact q.elim
    | some c => rw [e] at q; exact ⟨x, i, c, e1, e2, Nat.le_trans hl (by decide), e, q _ H (Same.refl H) rfl⟩
  · rw [decide_eq_false hl] at q; exact q.elim
theorem noX_strIx {x : Str} {i : Int} : NoX (strIx x i) := fun _ h => by
  unfold strIx guardR at h
  split at h
  · split at h <;> cases h
  · cases h
theorem x_ix {α β γ : Type} [Enc α] [Enc β] [Enc γ] {r : R2} {g : α → β → Res γ} {m1 : Res α} {m2 : Res β} (hr : IxR X r) (ho : Op2 X r g) (hg : ∀ a b, NoX (g a b)) (h1 : XI X W ss a m1) (h2 : XI X W ss b m2) (hs : PlainIx b := by exact fun _ _ => rfl) :
    XI X W ss (.Subscript a b pos) (m1.bind fun a => m2.bind fun b => g a b) := PE_imp (pe_ix hr h1 h2 hs) fun _ _ _ h => r_op2 ho hg h
theorem xi_ixL {α : Type} [Enc α] {m1 : Res (List α)} {m2 : Res Int} (h1 : XI X W ss a m1) (h2 : XI X W ss b m2) (hs : PlainIx b := by exact fun _ _ => rfl) : XI X W ss (.Subscript a b pos) (m1.bind fun xs => m2.bind fun i => idx xs i) := x_ix ix_list o2_ixL (fun _ _ => noX_idx) h1 h2 hs
theorem xi_ixS {m1 : Res Scr} {m2 : Res Int} (h1 : XI X W ss a m1) (h2 : XI X W ss b m2) (hs : PlainIx b := by exact fun _ _ => rfl) : XI X W ss (.Subscript a b pos) (m1.bind fun xs => m2.bind fun i => idx xs.ns i) := x_ix ix_list o2_ixS (fun _ _ => noX_idx) h1 h2 hs
theorem xi_ixStr {m1 : Res Str} {m2 : Res Int} (h1 : XI X W ss a m1) (h2 : XI X W ss b m2) (hs : PlainIx b := by exact fun _ _ => rfl) : XI X W ss (.Subscript a b pos) (m1.bind fun xs => m2.bind fun i => strIx xs i) := x_ix ix_str o2_ixStr (fun _ _ => noX_strIx) h1 h2 hs
theorem xi_c {α β : Type} [Enc α] [Enc β] {m : Res α} {i : Int} {k : Nat} {p : Pos} {f : α → β} (h : XI X W ss a m) (hf : ∀ (x : α) (v : V) (H : Hp), Enc.rep X.K H v x → ∃ p vs u, v = .ref p ∧ SqT X.K H p vs ∧ atI vs i = some u ∧ Enc.rep X.K H u (f x))
    (hs : PlainIx (.Constant (.int i) k p) := by exact fun _ _ => rfl) : XI X W ss (.Subscript a (.Constant (.int i) k p) pos) (m.bind fun x => .ok (f x)) :=
  PE_imp (pe_ix ix_tup h pe_int hs) fun σ H Q ⟨sl, q⟩ => ⟨sl, wpR_imp (wpR_bind q) (Same.refl H) fun x q v H1 s1 r1 => by
    obtain ⟨p, vs, u, e, hp, hu, ru⟩ := hf x v H1 r1
    exact ⟨p, vs, i, u, e, rfl, hp, hu, q u H1 s1 ru⟩⟩
theorem xi_p1 {α β : Type} [Enc α] [Enc β] {m : Res (α × β)} {k : Nat} {p : Pos} (h : XI X W ss a m) : XI X W ss (.Subscript a (.Constant (.int 0) k p) pos) (m.bind fun x => .ok x.1) :=
  xi_c h fun x v H ⟨p, v1, v2, e, hp, r1, r2⟩ => ⟨p, _, v1, e, SqT.of hp, rfl, r1⟩
theorem xi_p2 {α β : Type} [Enc α] [Enc β] {m : Res (α × β)} {k : Nat} {p : Pos} (h : XI X W ss a m) : XI X W ss (.Subscript a (.Constant (.int 1) k p) pos) (m.bind fun x => .ok x.2) :=
  xi_c h fun x v H ⟨p, v1, v2, e, hp, r1, r2⟩ => ⟨p, _, v2, e, SqT.of hp, rfl, r2⟩
end
end G

namespace G
open PySem PySem.Spec PyProof.Rows L2
section
variable {α : Type} (le : α → α → Bool)
def ins (a : α) : List α → List α
  | [] => [a]
  | b :: bs => if le a b then a :: b :: bs else b :: ins a bs
def srt : List α → List α
  | [] => []
  | a :: as => ins le a (srt as)
theorem ins_perm (a : α) : ∀ l : List α, (ins le a l).Perm (a :: l)
  | [] => .refl _
  | b :: bs => by
    unfold ins
    split
    · exact .refl _
    · exact ((ins_perm a bs).cons b).trans (.swap a b bs)
theorem srt_perm : ∀ l : List α, (srt le l).Perm l
  | [] => .refl _
  | a :: as => (ins_perm le a _).trans ((srt_perm as).cons a)
variable {le}
theorem ins_pw (tot : ∀ a b, le a b = true ∨ le b a = true) (tr : ∀ a b c, le a b = true → le b c = true → le a c = true) (a : α) : ∀ l : List α, l.Pairwise (fun x y => le x y = true) → (ins le a l).Pairwise (fun x y => le x y = true)
  | [], _ => List.pairwise_singleton _ _
  | b :: bs, h => by
    obtain ⟨h1, h2⟩ := List.pairwise_cons.mp h
    unfold ins
    split
    · rename_i e
      refine List.pairwise_cons.mpr ⟨fun x m => ?_, h⟩
      rcases List.mem_cons.mp m with q | q
      · rw [q]; exact e
      · exact tr _ _ _ e (h1 x q)
    · rename_i e
      refine List.pairwise_cons.mpr ⟨fun x m => ?_, ins_pw tot tr a bs h2⟩
      rcases List.mem_cons.mp ((ins_perm le a bs).mem_iff.mp m) with q | q
      · rw [q]
        rcases tot a b with z | z
        · exact absurd z e
        · exact z
      · exact h1 x q
theorem srt_pw (tot : ∀ a b, le a b = true ∨ le b a = true) (tr : ∀ a b c, le a b = true → le b c = true → le a c = true) : ∀ l : List α, (srt le l).Pairwise (fun x y => le x y = true)
  | [] => List.Pairwise.nil
  | a :: as => ins_pw tot tr a _ (srt_pw tot tr as)
theorem perm_sorted (anti : ∀ a b, le a b = true → le b a = true → a = b) : ∀ {l m : List α}, l.Perm m → l.Pairwise (fun x y => le x y = true) → m.Pairwise (fun x y => le x y = true) → l = m
  | [], m, p, _, _ => by rw [List.nil_perm.mp p]
  | a :: l, [], p, _, _ => absurd p (by simp)
  | a :: l, b :: m, p, h1, h2 => by
    obtain ⟨a1, a2⟩ := List.pairwise_cons.mp h1
    obtain ⟨b1, b2⟩ := List.pairwise_cons.mp h2
    have e : a = b := by
      have m1 : a ∈ b :: m := p.mem_iff.mp List.mem_cons_self
      have m2 : b ∈ a :: l := p.mem_iff.mpr List.mem_cons_self
      rcases List.mem_cons.mp m1 with z | z
      · exact z
      · rcases List.mem_cons.mp m2 with y | y
        · exact y.symm
        · exact anti a b (a1 b y) (b1 a z)
    subst e
    rw [perm_sorted anti (List.perm_cons a |>.mp p) a2 b2]
end
def leI (a b : Int) : Bool := decide (a ≤ b)
def leP (a b : Int × Int) : Bool := decide (a.1 < b.1) || (decide (a.1 = b.1) && decide (a.2 ≤ b.2))
theorem leI_iff {a b : Int} : leI a b = true ↔ a ≤ b := by unfold leI; exact decide_eq_true_iff
theorem leP_iff {a b : Int × Int} : leP a b = true ↔ a.1 < b.1 ∨ a.1 = b.1 ∧ a.2 ≤ b.2 := by unfold leP; simp
abbrev sortI : List Int → List Int := srt leI
abbrev sortP : List (Int × Int) → List (Int × Int) := srt leP
theorem sortI_perm (l : List Int) : (sortI l).Perm l := srt_perm _ l
theorem sortI_pw (l : List Int) : (sortI l).Pairwise (· ≤ ·) := (srt_pw (le := leI) (fun a b => by simp only [leI_iff]; omega) (fun a b c => by simp only [leI_iff]; omega) l).imp fun h => leI_iff.mp h
theorem sortI_uniq {l m : List Int} (p : l.Perm m) (h : l.Pairwise (· ≤ ·)) : l = sortI m :=
  perm_sorted (le := leI) (fun a b => by simp only [leI_iff]; omega) (p.trans (sortI_perm m).symm) (h.imp fun h => leI_iff.mpr h) ((sortI_pw m).imp fun h => leI_iff.mpr h)
theorem leP_anti (a b : Int × Int) (h1 : leP a b = true) (h2 : leP b a = true) : a = b := by
  obtain ⟨a1, a2⟩ := a
  obtain ⟨b1, b2⟩ := b
  simp only [leP_iff] at h1 h2
  have e1 : a1 = b1 := by omega
  have e2 : a2 = b2 := by omega
  rw [e1, e2]
theorem sortP_perm (l : List (Int × Int)) : (sortP l).Perm l := srt_perm _ l
theorem sortP_pw (l : List (Int × Int)) : (sortP l).Pairwise (fun a b => leP a b = true) := srt_pw (le := leP) (fun a b => by simp only [leP_iff]; omega) (fun a b c => by simp only [leP_iff]; omega) l
theorem sortP_uniq {l m : List (Int × Int)} (p : l.Perm m) (h : l.Pairwise (fun a b => leP a b = true)) : l = sortP m := perm_sorted (le := leP) leP_anti (p.trans (sortP_perm m).symm) h (sortP_pw m)
section
variable {X : Cx} {W : WX} {ss : List Slot} {pos : Pos} {a b e : Expr} {es : List Expr}
theorem new_owI {α : Type} [Enc α] [Imm α] {F H H1 : Hp} {p : Addr} {vs : List V} {as : List α} {K : Frag} {Q : VK} (sf : Same F H) (s1 : Same H H1) (hp : H1 p = none) (r : All2 (fun v a => Enc.rep K H1 v a) vs as)
    (q : ∀ v H' F' G', Same H H' → Ext F H F' H' → Priv G' H F' H' → (ow as).P K F' G' (some v) → Q v H') : Q (.ref p) (upd H1 p (.lst vs)) :=
  new_ow s1 (ext_imm sf s1) hp (All2.imp (fun _ _ z => Enc.mono (join_r (sf.trans s1) (tups_le H1)) (Imm.imm z)) r) q
def big (n : Nat) : Bool := decide (n ≤ 1000000)
theorem big_line {n : Nat} (h : big n = true) : n ≤ sizeLine := Nat.le_trans (of_decide_eq_true h) (by decide)
def catR {α : Type} (xs ys : List α) : Res (List α) := guardR (big (xs.length + ys.length)) (.ok (xs ++ ys))
theorem xk_cat {α : Type} [Enc α] [Imm α] {m m' : Res (List α)} (h : XI X W ss a m) (h' : XI X W ss b m') : XK X W ss (.BinOp a .Add b pos) (m.bind fun xs => m'.bind fun ys => catR xs ys) ow :=
  PE_imp (pe_op op_cat h h') fun σ H Q ⟨F, sf, sl, q⟩ => ⟨sl.mono sf (Same.refl H), wpR_imp (wpR_bind q) (Same.refl H) fun xs q v H1 s1 r1 => ⟨(sl.mono sf (Same.refl H)).mono s1 s1, wpR_imp (wpR_bind q) s1 fun ys q w H2 s2 r2 => by
    obtain ⟨g, q⟩ := wpR_guard q
    obtain ⟨p, vs, rfl, hp, rv⟩ := r1
    obtain ⟨p', ws, rfl, hp', rw'⟩ := r2
    exact ⟨p, p', vs, ws, rfl, rfl, s2 _ _ hp, hp', by rw [rv.length, rw'.length]; exact big_line g, fun o ho => new_owI sf (s1.trans s2) ho (All2.append (rv.mono s2) rw') q⟩⟩⟩
def repR {α : Type} (xs : List α) (k : Int) : Res (List α) := guardR (small62 k && big (xs.length * k.toNat)) (.ok (List.replicate k.toNat xs).flatten)
theorem all2_rep {α β : Type} {P : α → β → Prop} {xs : List α} {ys : List β} (h : All2 P xs ys) : ∀ n : Nat, All2 P (List.replicate n xs).flatten (List.replicate n ys).flatten
  | 0 => trivial
  | n + 1 => by
    rw [List.replicate_succ, List.replicate_succ, List.flatten_cons, List.flatten_cons]
    exact All2.append h (all2_rep h n)
theorem xk_rep {α : Type} [Enc α] [Imm α] {m : Res (List α)} {m' : Res Int} (h : XI X W ss a m) (h' : XI X W ss b m') : XK X W ss (.BinOp a .Mult b pos) (m.bind fun xs => m'.bind fun k => repR xs k) ow :=
  PE_imp (pe_op op_rep h h') fun σ H Q ⟨F, sf, sl, q⟩ => ⟨sl.mono sf (Same.refl H), wpR_imp (wpR_bind q) (Same.refl H) fun xs q v H1 s1 r1 => ⟨(sl.mono sf (Same.refl H)).mono s1 s1, wpR_imp (wpR_bind q) s1 fun k q w H2 s2 r2 => by
    obtain ⟨g, q⟩ := wpR_guard q
    rw [Bool.and_eq_true] at g
    obtain ⟨g1, g2⟩ := small62_of g.1
    obtain ⟨p, vs, rfl, hp, rv⟩ := r1
    exact ⟨p, k, vs, rfl, r2, s2 _ _ hp, by omega, by omega, by rw [rv.length]; exact big_line g.2, fun o ho => new_owI sf (s1.trans s2) ho (all2_rep (rv.mono s2) _) q⟩⟩⟩
def XO (X : Cx) (W : WX) (ss : List Slot) (e : Option Expr) (m : Res (Option Int)) : Prop := PO X e fun σ H Q => Sl X.K H H ss σ ∧ wpR X W m σ H fun o => ∀ H', Same H H' → Q o H'
theorem xo_some {m : Res Int} (h : XI X W ss e m) : XO X W ss (some e) (m.bind fun i => .ok (some i)) :=
  ⟨fun pins s σ H Q I ⟨sl, q⟩ => (po_some h).run pins s σ H Q I ⟨sl, wpR_imp (wpR_bind q) (Same.refl H) fun i q v H1 s1 r1 => ⟨i, r1, q H1 s1⟩⟩⟩
def cut {α : Type} (xs : List α) (lo hi : Option Int) : List α := (xs.drop (HT.sIx xs.length 0 lo)).take (HT.sIx xs.length xs.length hi - HT.sIx xs.length 0 lo)
theorem cut_all2 {α : Type} {P : V → α → Prop} {vs : List V} {xs : List α} (h : All2 P vs xs) (lo hi : Option Int) : All2 P (cutV vs lo hi) (cut xs lo hi) := by
  unfold cutV cut
  rw [h.length]
  exact (h.drop _).take _
theorem xk_sliceS {lo hi : Option Expr} {p2 : Pos} {m : Res Scr} {ml mh : Res (Option Int)} (h : XI X W ss a m) (hl : XO X W ss lo ml) (hh : XO X W ss hi mh) :
    XK X W ss (.Subscript a (.Slice lo hi none p2) pos) (m.bind fun xs => ml.bind fun l => mh.bind fun u => .ok (cut xs.ns l u)) ow :=
  PE_imp (pe_slice sl_list h hl hh) fun σ H Q ⟨F, sf, sl, q⟩ => ⟨sl.mono sf (Same.refl H), wpR_imp (wpR_bind q) (Same.refl H) fun xs q v H1 s1 r1 => ⟨(sl.mono sf (Same.refl H)).mono s1 s1, wpR_imp (wpR_bind q) s1 fun l q H2 s2 =>
    ⟨(sl.mono sf (Same.refl H)).mono (s1.trans s2) (s1.trans s2), wpR_imp (wpR_bind q) (s1.trans s2) fun u q H3 s3 => by
    obtain ⟨p, rfl, hp⟩ := r1
    exact ⟨p, _, rfl, (s2.trans s3).seq hp, fun o ho => new_owI sf (s1.trans (s2.trans s3)) ho (cut_all2 All2.of_map l u) q⟩⟩⟩⟩
def cutStr (z : Str) (lo hi : Option Int) : Res Str := guardR (big z.length) (.ok (cutS z lo hi))
structure Bc (X : Cx) (r : List V → Hp → VK → Prop) {A R : Type} [EncA A] [Enc R] (g : A → Res R) : Prop where
  op : ∀ (x : A) (vs : List V) (H : Hp) (Q : VK), EncA.rep X.K H vs x → okR (g x) (fun c => ∀ v' H', Same H H' → Enc.rep X.K H' v' c → Q v' H') → r vs H Q
  nx : ∀ x, NoX (g x)
theorem r_bc {A R : Type} [EncA A] [Enc R] {r : List V → Hp → VK → Prop} {g : A → Res R} {m : Res A} (bc : Bc X r g) {σ : L2.St} {H : Hp} {Q : VK} (h : rI X W ss (m.bind g) σ H Q) : tCB r (rA X W ss m) σ H Q := by
  obtain ⟨sl, q⟩ := h
  refine ⟨sl, wpR_imp (wpR_bind q) (Same.refl H) fun x q vs H1 s1 r1 => bc.op x vs H1 Q r1 ?_⟩
  unfold okR
  cases e : g x with
  | ok c => rw [e] at q; exact fun v' H' s3 r3 => q v' H' (s1.trans s3) r3
  | exc y => exact bc.nx x y e
  | stuck => rw [e] at q; exact q
theorem xi_bf {A R : Type} [EncA A] [Enc R] {x : Str} {id : String} {p : Pos} {r : List V → Hp → VK → Prop} {g : A → Res R} {m : Res A} (hc : CallR X (.builtin id) r) (bc : Bc X r g) (hm : X.mg x = none) (hv : bootBuiltins x = some (.builtin id)) (ha : XA X W ss (e :: es) m)
    (hg : Gl X x := by rfl) (hn : x ≠ "__name__" := by decide) (hdb : (x == ("__debug__" : Str)) = false := by decide)
    (he : starEach (e :: es) X.env = (false, eval e X.env) :: starEach es X.env := by rfl) (hpl : (backTo pos (starEach es X.env)).any (·.1) = false := by rfl) : XI X W ss (.Call (.Name x p) (e :: es) [] pos) (m.bind g) :=
  PE_imp (pe_callB hc hg hm hv ha hn hdb he hpl) fun _ _ _ h => r_bc bc h
theorem xi_bt {A R : Type} [EncA A] [Enc R] {x : Str} {T : String} {p : Pos} {r : List V → Hp → VK → Prop} {g : A → Res R} {m : Res A} (hc : CallR X (.type T) r) (bc : Bc X r g) (hm : X.mg x = none) (hv : bootBuiltins x = some (.type T)) (ha : XA X W ss (e :: es) m)
    (hg : Gl X x := by rfl) (hn : x ≠ "__name__" := by decide) (hdb : (x == ("__debug__" : Str)) = false := by decide)
    (he : starEach (e :: es) X.env = (false, eval e X.env) :: starEach es X.env := by rfl) (hpl : (backTo pos (starEach es X.env)).any (·.1) = false := by rfl) : XI X W ss (.Call (.Name x p) (e :: es) [] pos) (m.bind g) :=
  PE_imp (pe_callTy hc hg hm hv ha hn hdb he hpl) fun _ _ _ h => r_bc bc h
theorem c_lenL {α : Type} [Enc α] : Bc X (fun xs H Q => ∃ x n, xs = [x] ∧ LenV X.K x H n ∧ Q (.int n) H) (fun x : List α × Unit => Res.ok (x.1.length : Int)) :=
  ⟨fun x vs H Q ⟨v, r, e1, ⟨p, ws, e2, hp, rv⟩, e3⟩ q => by
    have e3 : r = [] := e3
    subst e1; subst e2; subst e3
    exact ⟨_, ws.length, rfl, .inl ⟨ws, SqL.of hp, rfl⟩, q _ H (Same.refl H) (by rw [rv.length]; rfl)⟩, fun _ => noX_ok⟩
theorem c_lenScr : Bc X (fun xs H Q => ∃ x n, xs = [x] ∧ LenV X.K x H n ∧ Q (.int n) H) (fun x : Scr × Unit => Res.ok (x.1.ns.length : Int)) :=
  ⟨fun x vs H Q ⟨v, r, e1, ⟨p, e2, hp⟩, e3⟩ q => by
    have e3 : r = [] := e3
    subst e1; subst e2; subst e3
    exact ⟨_, _, rfl, .inl ⟨_, hp, rfl⟩, q _ H (Same.refl H) (by rw [List.length_map]; rfl)⟩, fun _ => noX_ok⟩
def strLen (x : Str) : Res Int := guardR (big x.length) (.ok (x.length : Int))
theorem c_max : Bc X (fun xs H Q => ∃ i j, xs = [.int i, .int j] ∧ Q (.int (if j > i then j else i)) H) (fun x : Int × Int × Unit => Res.ok (max x.1 x.2.1)) :=
  ⟨fun x vs H Q ⟨v, r, e1, e2, v', r', e3, e4, e5⟩ q => by
    have e2 : v = .int x.1 := e2
    have e4 : v' = .int x.2.1 := e4
    have e5 : r' = [] := e5
    subst e1; subst e2; subst e3; subst e4; subst e5
    refine ⟨_, _, rfl, q _ H (Same.refl H) ?_⟩
    show V.int _ = V.int _
    rw [Int.max_def]
    congr 1
    split <;> split <;> omega, fun _ => noX_ok⟩
def strI (i : Int) : Res Str := guardR (decide (i.natAbs < 10 ^ 70)) (.ok (toString i))
theorem c_intB : Bc X (fun xs H Q => (∃ i, xs = [.int i] ∧ Q (.int i) H) ∨ ∃ k, xs = [.bl k] ∧ Q (.int (if k then 1 else 0)) H) (fun x : Bool × Unit => Res.ok (if x.1 then (1 : Int) else 0)) :=
  ⟨fun x vs H Q ⟨v, r, e1, e2, e3⟩ q => by
    have e2 : v = .bl x.1 := e2
    have e3 : r = [] := e3
    subst e1; subst e2; subst e3
    exact .inr ⟨x.1, rfl, q _ H (Same.refl H) rfl⟩, fun _ => noX_ok⟩
theorem xk_sortedI {m : Res (List Int × Unit)} {p : Pos} (ha : XA X W ss [a] m) (hm : X.mg "sorted" = none) (hg : Gl X "sorted" := by rfl) (he : starEach [a] X.env = (false, eval a X.env) :: starEach [] X.env := by rfl) :
    XK X W ss (.Call (.Name "sorted" p) [a] [] pos) (m.bind fun x => .ok (sortI x.1)) ow :=
  PE_imp (pe_callB cr_sortedI hg hm (by decide +kernel) ha (by decide) (by decide) he rfl) fun σ H Q ⟨F, sf, sl, q⟩ => ⟨sl.mono sf (Same.refl H), wpR_imp (wpR_bind q) (Same.refl H) fun x q vs H1 s1 ⟨v, r, e1, ⟨p, ws, e2, hp, rv⟩, e3⟩ => by
    have e3 : r = [] := e3
    subst e1; subst e2; subst e3
    have ew : ws = x.1.map V.int := All2.map_eq rv
    refine ⟨p, x.1, rfl, by rw [← ew]; exact SqL.of hp, fun ns' o h1 h2 ho => ?_⟩
    rw [sortI_uniq h1 h2]
    exact new_owI sf s1 ho All2.of_map q⟩
def pairAt (H : Hp) (v : V) : Int × Int := match v with
  | .ref t => (match H t with
    | some (.tup [.int i, .int j]) => (i, j)
    | _ => (0, 0))
  | _ => (0, 0)
theorem pairAt_ref {H : Hp} {t : Addr} {i j : Int} (h : H t = some (.tup [.int i, .int j])) : pairAt H (.ref t) = (i, j) := by simp [pairAt, h]
theorem pairs_of {K : Frag} {H : Hp} : ∀ {vs : List V} {xs : List (Int × Int)}, All2 (fun v a => Enc.rep K H v a) vs xs → (∀ v ∈ vs, ∃ t, v = V.ref t ∧ H t = some (.tup [.int (pairAt H v).1, .int (pairAt H v).2])) ∧ vs.map (pairAt H) = xs
  | [], [], _ => ⟨fun v m => (by cases m), rfl⟩
  | v :: vs, x :: xs, ⟨⟨t, v1, v2, e1, ht, r1, r2⟩, h2⟩ => by
    have r1 : v1 = .int x.1 := r1
    have r2 : v2 = .int x.2 := r2
    subst e1; subst r1; subst r2
    obtain ⟨i1, i2⟩ := pairs_of h2
    have e := pairAt_ref ht
    refine ⟨fun u m => ?_, by rw [List.map_cons, i2, e]⟩
    rcases List.mem_cons.mp m with q | q
    · rw [q, e]; exact ⟨t, rfl, ht⟩
    · exact i1 u q
  | [], _ :: _, h => h.elim
  | _ :: _, [], h => h.elim
theorem all2_of_map {K : Frag} {H : Hp} {k : V → Int × Int} : ∀ {vs : List V}, (∀ v ∈ vs, ∃ t, v = V.ref t ∧ H t = some (.tup [.int (k v).1, .int (k v).2])) → All2 (fun v a => Enc.rep K H v a) vs (vs.map k)
  | [], _ => trivial
  | v :: vs, h => by
    obtain ⟨t, e, ht⟩ := h v List.mem_cons_self
    exact ⟨⟨t, _, _, e, ht, rfl, rfl⟩, all2_of_map fun u m => h u (List.mem_cons_of_mem _ m)⟩
theorem xk_sortedP {m : Res (List (Int × Int) × Unit)} {p : Pos} (ha : XA X W ss [a] m) (hm : X.mg "sorted" = none) (hg : Gl X "sorted" := by rfl) (he : starEach [a] X.env = (false, eval a X.env) :: starEach [] X.env := by rfl) :
    XK X W ss (.Call (.Name "sorted" p) [a] [] pos) (m.bind fun x => .ok (sortP x.1)) ow :=
  PE_imp (pe_callB cr_sortedPO hg hm (by decide +kernel) ha (by decide) (by decide) he rfl) fun σ H Q ⟨F, sf, sl, q⟩ => ⟨sl.mono sf (Same.refl H), wpR_imp (wpR_bind q) (Same.refl H) fun x q vs H1 s1 ⟨v, r, e1, ⟨p, ws, e2, hp, rv⟩, e3⟩ => by
    have e3 : r = [] := e3
    subst e1; subst e2; subst e3
    obtain ⟨hk, ek⟩ := pairs_of rv
    refine ⟨p, ws, pairAt H1, rfl, SqL.of hp, hk, fun ys o h1 h2 ho => ?_⟩
    have hy : ∀ y ∈ ys, ∃ t, y = V.ref t ∧ H1 t = some (.tup [.int (pairAt H1 y).1, .int (pairAt H1 y).2]) := fun y m => hk y (h2.perm.mem_iff.mp m)
    have e : ys.map (pairAt H1) = sortP x.1 := by
      refine sortP_uniq (by rw [← ek]; exact h2.perm.map _) (List.pairwise_map.mpr (h1.imp fun {u v} z => ?_))
      have z := SrtO.lexB_no.mp z
      rw [leP_iff]
      omega
    rw [← e] at q
    exact new_owI sf s1 ho (all2_of_map hy) q⟩
theorem c_tuple {α : Type} [Enc α] : Bc X (fun xs H Q => ∃ p ys, xs = [.ref p] ∧ ((SqL X.K H p ys ∧ ∀ l, H l = none → Q (.ref l) (upd H l (.tup ys))) ∨ (SqT X.K H p ys ∧ Q (.ref p) H))) (fun x : List α × Unit => Res.ok (⟨x.1⟩ : Tup α)) :=
  ⟨fun x vs H Q ⟨v, r, e1, ⟨p, ws, e2, hp, rv⟩, e3⟩ q => by
    have e3 : r = [] := e3
    subst e1; subst e2; subst e3
    exact ⟨p, ws, rfl, .inl ⟨SqL.of hp, fun o ho => q _ _ (same_upd ho) ⟨o, ws, rfl, SqT.of upd_same, rv.mono (same_upd ho)⟩⟩⟩, fun _ => noX_ok⟩
def catS (x y : Str) : Res Str := guardR (big (x.length + y.length)) (.ok (x ++ y))
def joinR (x : Str) (ys : List Str) : Res Str := guardR (big ((ys.map (·.length)).sum + ys.length * x.length)) (.ok (Txt.join x ys))
theorem all3_ow {K : Frag} {F : Hp} {α : Type} [Enc α] {as : List α} {ss : List Slot} {Gs : List Hp} {σ : L2.St} {i : Nat} (h : All3 K F ss Gs σ) (hs : ss[i]? = some (ow as)) :
    ∃ G p vs, Gs[i]? = some G ∧ σ[i]? = some (some (.ref p)) ∧ G p = some (.lst vs) ∧ All2 (fun v a => Enc.rep K F v a) vs as := by
  obtain ⟨G, o, h1, h2, p, vs, e, g, r⟩ := h.get hs
  subst e
  exact ⟨G, p, vs, h1, h2, g, r⟩
theorem set_self {α : Type} : ∀ {l : List α} {i : Nat} {a : α}, l[i]? = some a → l.set i a = l
  | [], _, _, h => by simp at h
  | b :: l, 0, a, h => by have e : b = a := Option.some.inj h; rw [e]; rfl
  | b :: l, i + 1, a, h => by rw [List.set_cons_succ, set_self (l := l) (i := i) h]
theorem Asn.put {α : Type} [Enc α] {K : Frag} {B F0 H F : Hp} {ss : List Slot} {σ : L2.St} {Gs : List Hp} (A : Asn K B F0 ss σ H F Gs) {i : Nat} {G : Hp} {p : Addr} {vs vs' : List V} {as' : List α} (hG : Gs[i]? = some G) (hσ : σ[i]? = some (some (.ref p))) (hp : G p = some (.lst vs))
    (r : All2 (fun v a => Enc.rep K F v a) vs' as') : Asn K B F0 (ss.set i (ow as')) σ (upd H p (.lst vs')) F (Gs.set i (upd noHp p (.lst vs'))) := by
  have hm : G ∈ Gs := List.mem_of_getElem? hG
  obtain ⟨h1, h2, h3, h4⟩ := A.priv G hm _ _ hp
  have sF : Same F (upd H p (.lst vs')) := fun c u z => by
    rw [upd_ne (fun e => by rw [e, h3] at z; cases z)]
    exact A.ext.sub _ _ z
  refine ⟨⟨A.ext.le, sF, A.ext.new⟩, fun c u z => ?_, ?_, fun G' m c u z => ?_, ?_⟩
  · rw [upd_ne (fun e => by rw [e, h2] at z; cases z)]
    exact A.base _ _ z
  · have e := set_self hσ
    rw [← e]
    exact A.all.set (s := ow as') ⟨p, vs', rfl, upd_same, r⟩ i
  · -- where another own heap stands
    by_cases hi : G' = upd noHp p (.lst vs')
    · subst hi
      by_cases e : c = p
      · subst e
        rw [upd_same] at z; cases z
        exact ⟨upd_same, h2, h3, rfl⟩
      · rw [upd_ne e] at z; cases z
    · obtain ⟨j, hj⟩ := List.getElem?_of_mem m
      have hji : j ≠ i := fun e => by
        subst e
        have hlt : j < Gs.length := (List.getElem?_eq_some_iff.mp hG).1
        rw [List.getElem?_set_self hlt] at hj
        exact hi (Option.some.inj hj).symm
      rw [List.getElem?_set_ne (Ne.symm hji)] at hj
      have hd : Dj G' G := by
        have pw := A.dj
        have hj' := List.getElem?_eq_some_iff.mp hj
        have hG' := List.getElem?_eq_some_iff.mp hG
        rcases Nat.lt_or_gt_of_ne hji with z | z
        · have := List.pairwise_iff_getElem.mp pw j i hj'.1 hG'.1 z
          rw [hj'.2, hG'.2] at this
          exact this
        · have := List.pairwise_iff_getElem.mp pw i j hG'.1 hj'.1 z
          rw [hj'.2, hG'.2] at this
          exact fun a => (this a).symm
      have hcp : c ≠ p := fun e => by
        subst e
        rcases hd c with y | y
        · rw [y] at z; cases z
        · rw [y] at hp; cases hp
      obtain ⟨k1, k2, k3, k4⟩ := A.priv G' (List.mem_of_getElem? hj) c u z
      exact ⟨by rw [upd_ne hcp]; exact k1, k2, k3, k4⟩
  · refine pw_ix hG A.dj fun G' d c => ?_
    by_cases e : c = p
    · subst e
      rcases d c with y | y
      · rw [y] at hp; cases hp
      · exact .inr y
    · exact .inl (by rw [upd_ne e]; rfl)
where
  pw_ix {G G2 : Hp} {i : Nat} : ∀ {Gs : List Hp}, Gs[i]? = some G → Gs.Pairwise Dj → (∀ G', Dj G G' → Dj G2 G') → (Gs.set i G2).Pairwise Dj := by
    intro Gs hG pw hd
    refine List.pairwise_iff_getElem.mpr fun j k hj hk hjk => ?_
    rw [List.length_set] at hj hk
    have hi := List.getElem?_eq_some_iff.mp hG
    have base := List.pairwise_iff_getElem.mp pw
    rw [List.getElem_set, List.getElem_set]
    split
    · rename_i e1
      split
      · rename_i e2; omega
      · subst e1
        have := base i k hi.1 hk hjk
        rw [hi.2] at this
        exact hd _ this
    · split
      · rename_i e1 e2
        subst e2
        have := base j i hj hi.1 hjk
        rw [hi.2] at this
        exact fun a => (hd _ (fun c => (this c).symm) a).symm
      · exact base j k hj hk hjk
def appR {α : Type} (xs : List α) (a : α) : Res (List α) := guardR (big xs.length) (.ok (xs ++ [a]))
theorem s1_append (i : Nat) {α : Type} [Enc α] {as : List α} {m : Res α} {x : Str} {p apos cpos : Pos} (h : XK X W ss e m fr) (hs : ss[i]? = some (ow as) := by rfl) (hp : PE X (.Name x p) (tVar i) := by exact pv _)
    (hbase : attributeBase (.Name x p) "append" X.env (eval (.Name x p) X.env) = eval (.Name x p) X.env := by rfl)
    (hfew : ((backTo cpos (starEach [e] X.env)).all (fun x => !x.1) && (backToKw cpos (keywordEach [] X.env)).all (fun x => x.1.isSome)
      && decide (([e] : List Expr).length + ([] : List Keyword).length + (if ([] : List Keyword).isEmpty then 0 else 1) < 30)) = true := by rfl)
    (hline : (apos.endLine == cpos.line) = true := by rfl) (hst : starEach [e] X.env = (false, eval e X.env) :: starEach [] X.env := by rfl) (hplain : (backTo cpos (starEach [] X.env)).any (·.1) = false := by rfl)
    (hsw : swapsWith (.Call (.Attribute (.Name x p) "append" apos) [e] [] cpos) none pos.line X.env = pure false := by rfl) :
    S1 X W ss (.Expr (.Call (.Attribute (.Name x p) "append" apos) [e] [] cpos) pos) (m.bind fun a => appR as a) (fun as' => ss.set i (ow as')) := by
  have hx := pe_bm PySem.F.plainAttrs_list PySem.F.slot_list_append PySem.F.type_list_append mt_append hp (pa_cons h pa_nil hst) hbase hfew hline hst hplain
  refine PS_imp (ps_expr hx hsw) fun D σ H ⟨B, F0, F, Gs, A, q⟩ => ?_
  obtain ⟨G, p, vs, hG, hσ, hp, r⟩ := all3_ow A.all hs
  have hH := A.sub G (List.mem_of_getElem? hG) _ _ hp
  refine ⟨.ref p, hσ, .inl ⟨rfl, vs, SqL.of hH⟩, F, A.ext.sub, A.sl, wpS_R (wpS_bind q) A.base fun a q v H' F' G' s ex pr k => ?_⟩
  obtain ⟨v', e1, rv⟩ := k
  cases e1
  have A' := A.grow s ex
  unfold appR at q
  cases g : big as.length with
  | false => rw [g] at q; exact q.elim
  | true =>
    rw [g] at q
    refine ⟨p, vs, v, rfl, rfl, s _ _ hH, by rw [r.length]; exact Nat.lt_of_le_of_lt (of_decide_eq_true g) (by decide), ?_⟩
    exact q _ _ _ _ (A'.put hG hσ hp (All2.append (r.mono ex.le) ⟨rv, trivial⟩))
def extR {α : Type} (xs ys : List α) : Res (List α) := guardR (big (xs.length + ys.length)) (.ok (xs ++ ys))
theorem froz {w : Ends → Hp → Hp → Prop} (i : Nat) {α : Type} [Enc α] {as : List α} {sts : List Stmt} (h : PSs X sts (rdX X (ss.set i (fr as)) w)) (hs : ss[i]? = some (ow as)) : PSs X sts (rdX X ss w) := by
  refine PSs_imp h fun D σ H ⟨B, F0, F, Gs, A, q⟩ => ?_
  obtain ⟨G, p, vs, hG, hσ, hp, r⟩ := all3_ow A.all hs
  have hm := List.mem_of_getElem? hG
  have sG := A.sub G hm
  refine ⟨B, F0, join F G, Gs.set i noHp, ⟨⟨A.ext.le.trans join_l, join_le A.ext.sub sG, fun c u z => (join_or z).elim (A.ext.new c u) fun z => .inr (.inl (A.priv G hm c u z).2.1)⟩, A.base, ?_, fun G' m c u z => ?_, ?_⟩, q⟩
  · have e := set_self hσ
    rw [← e]
    exact (A.all.mono join_l).set (s := fr as) ⟨.ref p, rfl, p, vs, rfl, join_r A.ext.sub sG _ _ hp, r.mono join_l⟩ i
  · obtain ⟨j, hj⟩ := List.getElem?_of_mem m
    by_cases hji : j = i
    · subst hji
      have hlt : j < Gs.length := (List.getElem?_eq_some_iff.mp hG).1
      rw [List.getElem?_set_self hlt] at hj
      have e := Option.some.inj hj
      rw [← e] at z; cases z
    · rw [List.getElem?_set_ne (Ne.symm hji)] at hj
      obtain ⟨k1, k2, k3, k4⟩ := A.priv G' (List.mem_of_getElem? hj) c u z
      refine ⟨k1, k2, ?_, k4⟩
      have hj' := List.getElem?_eq_some_iff.mp hj
      have hG' := List.getElem?_eq_some_iff.mp hG
      have d : Dj G' G := by
        rcases Nat.lt_or_gt_of_ne hji with y | y
        · have := List.pairwise_iff_getElem.mp A.dj j i hj'.1 hG'.1 y
          rw [hj'.2, hG'.2] at this
          exact this
        · have := List.pairwise_iff_getElem.mp A.dj i j hG'.1 hj'.1 y
          rw [hj'.2, hG'.2] at this
          exact fun a => (this a).symm
      have gc : G c = none := (d c).elim (fun y => by rw [y] at z; cases z) id
      unfold join
      rw [k3]
      exact gc
  · exact pw_set i A.dj fun G' _ c => .inl rfl
theorem st_froz (i : Nat) {α R : Type} [Enc α] {as : List α} {e : Bool} {sts : List Stmt} {M : Res R} {kr : R → Slot} (h : ST X W e (ss.set i (fr as)) sts M kr) (hs : ss[i]? = some (ow as) := by rfl) : ST X W e ss sts M kr := froz i h hs
def TgL (X : Cx) {α : Type} [Enc α] (ts : List Expr) (n : Nat) (u : List α → List Slot → List Slot) : Prop :=
  ∃ g, PGs X ts g ∧ ∀ (as : List α) (vs : List V) (B F0 F H : Hp) (Gs : List Hp) (ss : List Slot) (σ : L2.St) (Q : L2.St → Hp → Prop), as.length = n → Asn X.K B F0 ss σ H F Gs → All2 (fun v a => Enc.rep X.K F v a) vs as →
    (∀ σ' Gs', Asn X.K B F0 (u as ss) σ' H F Gs' → Q σ' H) → g vs σ H Q
theorem tl_nil {α : Type} [Enc α] : TgL X (α := α) [] 0 (fun _ ss => ss) := ⟨_, pgs_nil, fun as vs B F0 F H Gs ss σ Q hl A r q => by
  cases as with
  | nil => cases vs with
    | nil => exact ⟨rfl, q σ Gs A⟩
    | cons v vs => exact r.elim
  | cons a as => cases hl⟩
theorem tl_cons {α : Type} [Enc α] [Inhabited α] {t : Expr} {ts : List Expr} {n : Nat} {u1 : α → List Slot → List Slot} {u2 : List α → List Slot → List Slot} (h1 : Tg X t u1) (h2 : TgL X ts n u2)
    (hs : (assignEach (t :: ts) X.env).map (·.2) = assign t X.env :: (assignEach ts X.env).map (·.2) := by rfl) : TgL X (t :: ts) (n + 1) (fun as ss => u2 as.tail (u1 (as.headD default) ss)) := by
  obtain ⟨g1, p1, q1⟩ := h1
  obtain ⟨g2, p2, q2⟩ := h2
  refine ⟨_, pgs_cons p1 p2 hs, fun as vs B F0 F H Gs ss σ Q hl A r q => ?_⟩
  cases as with
  | nil => cases hl
  | cons a as =>
    cases vs with
    | nil => exact r.elim
    | cons v vs => exact ⟨v, vs, rfl, q1 _ _ _ _ _ _ _ _ _ _ A r.1 fun σ1 Gs1 A1 => q2 as vs _ _ _ _ _ _ _ _ (Nat.succ.inj hl) A1 r.2 q⟩
theorem s1_unl {α : Type} [Enc α] {ts : List Expr} {n k : Nat} {tp : Pos} {u : List α → List Slot → List Slot} {m : Res (List α)} (h : XK X W ss e m fr) (hg : TgL X ts n u) (hc : X.calm = true := by rfl) (hn : (assignEach ts X.env).length = n := by rfl) (hst : (assignEach ts X.env).findIdx? (·.1) = none := by rfl)
    (hs : swapsWithSole [.Tuple ts k tp] e pos.line X.env = pure false := by rfl) (hw : swappedStores [.Tuple ts k tp] e X.env = pure none := by rfl) (h1 : (assignEach [.Tuple ts k tp] X.env).map (·.2) = [assign (.Tuple ts k tp) X.env] := by rfl) :
    S1 X W ss (.Assign [.Tuple ts k tp] e pos) (m.bind fun as => guardR (decide (as.length = n)) (.ok as)) (fun as => u as ss) := by
  obtain ⟨g, pg, qg⟩ := hg
  refine PS_imp (ps_asg h (pg_unl hc pg hn hst) hs hw h1) fun D σ H ⟨B, F0, F, Gs, A, q⟩ => ⟨F, A.ext.sub, A.sl, wpS_R (wpS_bind q) A.base fun as q v H' F' G' s ex _ ⟨v', e1, p, vs, e2, hp, r⟩ => ?_⟩
  cases e1
  cases hd : decide (as.length = n) with
  | false => rw [hd] at q; exact q.elim
  | true =>
    rw [hd] at q
    have hl := of_decide_eq_true hd
    exact ⟨p, vs, e2, SqL.of (ex.sub _ _ hp), by rw [r.length, hl], qg as vs B F0 F' H' Gs ss σ _ hl (A.grow s ex) r fun σ' Gs' A' => q σ' H' F' Gs' A'⟩
end
end G

namespace G
open PySem PySem.Spec PyProof.Rows L2
class Dat (α : Type) [Enc α] where
  py : α → PyData
  dp : ∀ {K : Frag} {H : Hp} {v : V} {a : α}, Enc.rep K H v a → Dp K H v (py a)
  lay : α → Bool
  dep : Nat
  layOk : ∀ {a : α}, lay a = true → (py a).canLay0 = true
  depOk : ∀ a : α, (py a).depth ≤ dep
instance : Dat Int := ⟨.int, fun h => by rw [show _ = V.int _ from h]; exact .int _, fun _ => true, 0, fun _ => by simp [PyData.canLay0], fun _ => by simp [PyData.depth]⟩
instance : Dat Bool := ⟨.bool, fun h => by rw [show _ = V.bl _ from h]; exact .bl _, fun _ => true, 0, fun _ => by simp [PyData.canLay0], fun _ => by simp [PyData.depth]⟩
instance : Dat Str := ⟨.str, fun h => by rw [show _ = V.str _ from h]; exact .str _, PyData.strOk, 0, fun h => by simpa [PyData.canLay0] using h, fun _ => by simp [PyData.depth]⟩
instance : Dat Unit := ⟨fun _ => .none, fun h => by rw [show _ = V.non from h]; exact .non, fun _ => true, 0, fun _ => by simp [PyData.canLay0], fun _ => by simp [PyData.depth]⟩
instance {α : Type} [Enc α] [Dat α] : Dat (Option α) where
  py := fun o => match o with | none => .none | some a => Dat.py a
  dp := fun {K H v o} h => by
    cases o with
    | none => rw [show v = V.non from h]; exact .non
    | some a => exact Dat.dp h.2
  lay := fun o => match o with | none => true | some a => Dat.lay a
  dep := Dat.dep α
  layOk := fun {o} h => by
    cases o with
    | none => simp [PyData.canLay0]
    | some a => exact Dat.layOk h
  depOk := fun o => by
    cases o with
    | none => simp [PyData.depth]
    | some a => exact Dat.depOk a
theorem dpAll {α : Type} [Enc α] [Dat α] {K : Frag} {H : Hp} : ∀ {vs : List V} {as : List α}, All2 (fun v a => Enc.rep K H v a) vs as → DpAll K H vs (as.map Dat.py)
  | [], [], _ => .nil
  | _ :: _, _ :: _, ⟨h, t⟩ => .cons (Dat.dp h) (dpAll t)
  | [], _ :: _, h => h.elim
  | _ :: _, [], h => h.elim
theorem layAll {α : Type} [Enc α] [Dat α] : ∀ {as : List α}, as.all Dat.lay = true → PyData.canLayAll0 (as.map Dat.py) = true
  | [], _ => by simp [PyData.canLayAll0]
  | a :: as, h => by
    rw [List.all_cons, Bool.and_eq_true] at h
    simp only [List.map_cons, PyData.canLayAll0, Bool.and_eq_true]
    exact ⟨Dat.layOk h.1, layAll h.2⟩
theorem depAll {α : Type} [Enc α] [Dat α] : ∀ as : List α, PyData.depthAll (as.map Dat.py) ≤ Dat.dep α
  | [] => by simp [PyData.depthAll]
  | a :: as => by
    simp only [List.map_cons, PyData.depthAll]
    exact Nat.max_le.mpr ⟨Dat.depOk a, depAll as⟩
instance {α : Type} [Enc α] [Dat α] : Dat (List α) where
  py := fun as => .list (as.map Dat.py)
  dp := fun ⟨p, vs, e, h, r⟩ => by rw [e]; exact .lst (SqL.of h) (dpAll r)
  lay := fun as => as.all Dat.lay
  dep := Dat.dep α + 1
  layOk := fun h => by simp only [PyData.canLay0]; exact layAll h
  depOk := fun as => by simp only [PyData.depth]; exact Nat.succ_le_succ (depAll as)
instance {α : Type} [Enc α] [Dat α] : Dat (Tup α) where
  py := fun as => .tuple (as.l.map Dat.py)
  dp := fun ⟨p, vs, e, h, r⟩ => by rw [e]; exact .tup h (dpAll r)
  lay := fun as => as.l.all Dat.lay
  dep := Dat.dep α + 1
  layOk := fun h => by simp only [PyData.canLay0]; exact layAll h
  depOk := fun as => by simp only [PyData.depth]; exact Nat.succ_le_succ (depAll as.l)
instance {α β : Type} [Enc α] [Enc β] [Dat α] [Dat β] : Dat (α × β) where
  py := fun x => .tuple [Dat.py x.1, Dat.py x.2]
  dp := fun ⟨p, v1, v2, e, h, r1, r2⟩ => by rw [e]; exact .tup (SqT.of h) (.cons (Dat.dp r1) (.cons (Dat.dp r2) .nil))
  lay := fun x => Dat.lay x.1 && Dat.lay x.2
  dep := max (Dat.dep α) (Dat.dep β) + 1
  layOk := fun h => by
    rw [Bool.and_eq_true] at h
    simp only [PyData.canLay0, PyData.canLayAll0, Bool.and_eq_true, and_true]
    exact ⟨Dat.layOk h.1, Dat.layOk h.2⟩
  depOk := fun x => by
    have h1 := Dat.depOk x.1
    have h2 := Dat.depOk x.2
    simp only [PyData.depth, PyData.depthAll]
    omega
instance {α β γ : Type} [Enc α] [Enc β] [Enc γ] [Dat α] [Dat β] [Dat γ] : Dat (T3 α β γ) where
  py := fun x => .tuple [Dat.py x.a, Dat.py x.b, Dat.py x.c]
  dp := fun ⟨p, v1, v2, v3, e, h, r1, r2, r3⟩ => by rw [e]; exact .tup (SqT.of h) (.cons (Dat.dp r1) (.cons (Dat.dp r2) (.cons (Dat.dp r3) .nil)))
  lay := fun x => Dat.lay x.a && (Dat.lay x.b && Dat.lay x.c)
  dep := max (Dat.dep α) (max (Dat.dep β) (Dat.dep γ)) + 1
  layOk := fun h => by
    rw [Bool.and_eq_true, Bool.and_eq_true] at h
    simp only [PyData.canLay0, PyData.canLayAll0, Bool.and_eq_true, and_true]
    exact ⟨Dat.layOk h.1, Dat.layOk h.2.1, Dat.layOk h.2.2⟩
  depOk := fun x => by
    have h1 := Dat.depOk x.a
    have h2 := Dat.depOk x.b
    have h3 := Dat.depOk x.c
    simp only [PyData.depth, PyData.depthAll]
    omega
instance : Dat Scr where
  py := fun x => .list (x.ns.map PyData.int)
  dp := fun {K H v x} ⟨p, e, h⟩ => by
    rw [e]
    refine .lst h ?_
    have go : ∀ ns : List Int, DpAll K H (ns.map V.int) (ns.map PyData.int) := fun ns => by
      induction ns with
      | nil => exact .nil
      | cons n ns ih => exact .cons (.int n) ih
    exact go x.ns
  lay := fun _ => true
  dep := 1
  layOk := fun {x} _ => by
    simp only [PyData.canLay0]
    have go : ∀ ns : List Int, PyData.canLayAll0 (ns.map PyData.int) = true := fun ns => by
      induction ns with
      | nil => simp [PyData.canLayAll0]
      | cons n ns ih => simp [PyData.canLayAll0, PyData.canLay0, ih]
    exact go x.ns
  depOk := fun x => by
    simp only [PyData.depth]
    have go : ∀ ns : List Int, PyData.depthAll (ns.map PyData.int) = 0 := fun ns => by
      induction ns with
      | nil => simp [PyData.depthAll]
      | cons n ns ih => simp [PyData.depthAll, PyData.depth, ih]
    rw [go x.ns]; exact Nat.le_refl _
theorem shaped_of {α : Type} [Enc α] [Dat α] {a : α} (h : Dat.lay a = true) (hd : Dat.dep α ≤ 64) : SeqAt.shaped (Dat.py a) = true := by
  unfold SeqAt.shaped
  rw [Dat.layOk h, decide_eq_true (Nat.le_trans (Dat.depOk a) hd)]
  rfl
def eqD {α β : Type} [Enc α] [Enc β] [Dat α] [Dat β] (a : α) (b : β) : Res Bool := guardR (Dat.lay a && Dat.lay b) (.ok (PyData.eqv (Dat.py a) (Dat.py b)))
def neD {α β : Type} [Enc α] [Enc β] [Dat α] [Dat β] (a : α) (b : β) : Res Bool := guardR (Dat.lay a && Dat.lay b) (.ok (!PyData.eqv (Dat.py a) (Dat.py b)))
section
variable {X : Cx} {W : WX} {ss : List Slot} {pos : Pos} {a b e : Expr} {es : List Expr}
def inD {α : Type} [Enc α] [Dat α] (a : α) (xs : List α) : Res Bool := guardR (Dat.lay a && Dat.lay xs) (.ok (xs.any fun z => PyData.eqv (Dat.py z) (Dat.py a)))
def ninD {α : Type} [Enc α] [Dat α] (a : α) (xs : List α) : Res Bool := guardR (Dat.lay a && Dat.lay xs) (.ok (!xs.any fun z => PyData.eqv (Dat.py z) (Dat.py a)))
end
class DatEq (α : Type) [Enc α] [Dat α] : Prop where
  iff : ∀ a b : α, PyData.eqv (Dat.py a) (Dat.py b) = true ↔ a = b
instance : DatEq Int := ⟨fun a b => by show (a == b) = true ↔ _; simp⟩
instance : DatEq Bool := ⟨fun a b => by show (a == b) = true ↔ _; simp⟩
instance : DatEq Str := ⟨fun a b => by show (a == b) = true ↔ _; simp⟩
instance : DatEq Unit := ⟨fun a b => by show true = true ↔ _; simp⟩
theorem eqvAll_iff {α : Type} [Enc α] [Dat α] [DatEq α] : ∀ as bs : List α, PyData.eqvAll (as.map Dat.py) (bs.map Dat.py) = true ↔ as = bs
  | [], [] => by simp [PyData.eqvAll]
  | a :: as, b :: bs => by
    simp only [List.map_cons, PyData.eqvAll, Bool.and_eq_true, DatEq.iff, eqvAll_iff as bs, List.cons.injEq]
  | [], _ :: _ => by simp [PyData.eqvAll]
  | _ :: _, [] => by simp [PyData.eqvAll]
instance {α : Type} [Enc α] [Dat α] [DatEq α] : DatEq (List α) := ⟨fun a b => by show PyData.eqvAll _ _ = true ↔ _; exact eqvAll_iff a b⟩
instance {α : Type} [Enc α] [Dat α] [DatEq α] : DatEq (Tup α) := ⟨fun a b => by
  show PyData.eqvAll _ _ = true ↔ _
  rw [eqvAll_iff]
  cases a; cases b; simp⟩
instance {α β : Type} [Enc α] [Enc β] [Dat α] [Dat β] [DatEq α] [DatEq β] : DatEq (α × β) := ⟨fun a b => by
  show PyData.eqvAll [_, _] [_, _] = true ↔ _
  cases a; cases b
  simp [PyData.eqvAll, DatEq.iff]⟩
instance {α β γ : Type} [Enc α] [Enc β] [Enc γ] [Dat α] [Dat β] [Dat γ] [DatEq α] [DatEq β] [DatEq γ] : DatEq (T3 α β γ) := ⟨fun a b => by
  show PyData.eqvAll [_, _, _] [_, _, _] = true ↔ _
  cases a; cases b
  simp [PyData.eqvAll, DatEq.iff]⟩
class NoStr (α : Type) [Enc α] [Dat α] : Prop where
  lay : ∀ a : α, Dat.lay a = true
instance : NoStr Int := ⟨fun _ => rfl⟩
instance : NoStr Bool := ⟨fun _ => rfl⟩
instance : NoStr Unit := ⟨fun _ => rfl⟩
instance {α : Type} [Enc α] [Dat α] [NoStr α] : NoStr (List α) := ⟨fun as => List.all_eq_true.mpr fun a _ => NoStr.lay a⟩
instance {α : Type} [Enc α] [Dat α] [NoStr α] : NoStr (Tup α) := ⟨fun as => List.all_eq_true.mpr fun a _ => NoStr.lay a⟩
instance {α : Type} [Enc α] [Dat α] [NoStr α] : NoStr (Option α) := ⟨fun o => by cases o with | none => rfl | some a => exact NoStr.lay a⟩
instance {α β : Type} [Enc α] [Enc β] [Dat α] [Dat β] [NoStr α] [NoStr β] : NoStr (α × β) := ⟨fun x => by show (Dat.lay _ && Dat.lay _) = true; rw [NoStr.lay, NoStr.lay]; rfl⟩
instance {α β γ : Type} [Enc α] [Enc β] [Enc γ] [Dat α] [Dat β] [Dat γ] [NoStr α] [NoStr β] [NoStr γ] : NoStr (T3 α β γ) := ⟨fun x => by show (Dat.lay _ && (Dat.lay _ && Dat.lay _)) = true; rw [NoStr.lay, NoStr.lay, NoStr.lay]; rfl⟩
section
variable {X : Cx} {W : WX} {ss : List Slot} {pos : Pos} {a b e : Expr} {es : List Expr}
class FlatS (α : Type) [Enc α] [Sca α] : Prop where
  flat : ∀ a : α, flatV (Sca.v a) = true
  iff : ∀ a b : α, eqV (Sca.v a) (Sca.v b) = true ↔ a = b
instance : FlatS Int := ⟨fun _ => rfl, fun a b => by show (a == b) = true ↔ _; simp⟩
instance : FlatS Str := ⟨fun _ => rfl, fun a b => by show (a == b) = true ↔ _; simp⟩
instance : FlatS Bool := ⟨fun _ => rfl, fun a b => by show (a == b) = true ↔ _; simp⟩
instance : FlatS (Option Int) := ⟨fun o => by cases o <;> rfl, fun a b => by
  cases a <;> cases b <;> first
    | (show true = true ↔ _; simp)
    | (show false = true ↔ _; simp)
    | (rename_i x y; show (x == y) = true ↔ _; simp)⟩
theorem all2_sca {α : Type} [Enc α] [Sca α] {K : Frag} {H : Hp} : ∀ {vs : List V} {as : List α}, All2 (fun v a => Enc.rep K H v a) vs as → vs = as.map Sca.v
  | [], [], _ => rfl
  | _ :: _, _ :: _, ⟨h, t⟩ => by rw [Sca.flat h, all2_sca t]; rfl
  | [], _ :: _, h => h.elim
  | _ :: _, [], h => h.elim
theorem inV_iff {α : Type} [Enc α] [Sca α] [FlatS α] [DecidableEq α] (a : α) (as : List α) : inV (Sca.v a) (as.map Sca.v) = decide (a ∈ as) := by
  unfold inV
  rw [List.any_map, Bool.eq_iff_iff, List.any_eq_true, decide_eq_true_iff]
  constructor
  · rintro ⟨z, m, h⟩; rw [← (FlatS.iff z a).mp h]; exact m
  · intro m; exact ⟨a, m, (FlatS.iff a a).mpr rfl⟩
theorem flat_all {α : Type} [Enc α] [Sca α] [FlatS α] (as : List α) : (as.map Sca.v).all flatV = true := by
  rw [List.all_map]; exact List.all_eq_true.mpr fun a _ => FlatS.flat a
theorem b_inL {α : Type} [Enc α] [Sca α] [FlatS α] [DecidableEq α] : Bi X (rIn X.K false) (fun (a : α) (xs : List α) => Res.ok (decide (a ∈ xs))) := ⟨fun a xs v w H Q r1 ⟨p, vs, e, hp, r⟩ q => by
  rw [Sca.flat r1]
  have ev := all2_sca r
  subst ev
  exact ⟨p, _, e, .inl (SqL.of hp), FlatS.flat a, flat_all xs, q _ H (Same.refl H) (by show V.bl (inV _ _) = V.bl _; rw [inV_iff])⟩, fun _ _ => noX_ok⟩
theorem b_ninL {α : Type} [Enc α] [Sca α] [FlatS α] [DecidableEq α] : Bi X (rIn X.K true) (fun (a : α) (xs : List α) => Res.ok (!decide (a ∈ xs))) := ⟨fun a xs v w H Q r1 ⟨p, vs, e, hp, r⟩ q => by
  rw [Sca.flat r1]
  have ev := all2_sca r
  subst ev
  exact ⟨p, _, e, .inl (SqL.of hp), FlatS.flat a, flat_all xs, q _ H (Same.refl H) (by show V.bl (!inV _ _) = V.bl _; rw [inV_iff])⟩, fun _ _ => noX_ok⟩
class HasTy (α : Type) [Enc α] where
  ty : String
  ok : ∀ {K : Frag} {H : Hp} {v : V} {a : α}, Enc.rep K H v a → TyX K H v (.type ty)
instance : HasTy Int := ⟨"int", fun h => by rw [show _ = V.int _ from h]; exact .base (.int _)⟩
instance : HasTy Bool := ⟨"bool", fun h => by rw [show _ = V.bl _ from h]; exact .base (.bl _)⟩
instance : HasTy Str := ⟨"str", fun h => by rw [show _ = V.str _ from h]; exact .base (.str _)⟩
instance : HasTy Unit := ⟨"NoneType", fun h => by rw [show _ = V.non from h]; exact .base .non⟩
instance {α : Type} [Enc α] : HasTy (List α) := ⟨"list", fun ⟨p, vs, e, h, _⟩ => by rw [e]; exact .base (.lst h)⟩
instance {α β : Type} [Enc α] [Enc β] : HasTy (α × β) := ⟨"tuple", fun ⟨p, v1, v2, e, h, _⟩ => by rw [e]; exact .base (.tup h)⟩
instance {α β γ : Type} [Enc α] [Enc β] [Enc γ] : HasTy (T3 α β γ) := ⟨"tuple", fun ⟨p, v1, v2, v3, e, h, _⟩ => by rw [e]; exact .base (.tup h)⟩
theorem tyT {K : Frag} {H : Hp} {p : Addr} {vs : List V} (h : SqT K H p vs) : TyX K H (.ref p) (.type "tuple") := by
  rcases h with (h | ⟨o, h⟩) | ⟨o, its, n, hk, hc, _⟩
  · exact .base (.tup h)
  · exact .fTuple h
  · exact .kTuple hk hc
instance {α : Type} [Enc α] : HasTy (Tup α) := ⟨"tuple", fun ⟨p, vs, e, h, _⟩ => by rw [e]; exact tyT h⟩
theorem xi_isi {α : Type} [Enc α] [HasTy α] {m : Res α} {T : Str} {TT : String} {r : Bool} {p q : Pos} (h : XI X W ss a m) (hb : PE X (.Name T q) (tC (.ty TT))) (hk : kitB (HasTy.ty α) TT = some r) (hm : X.mg "isinstance" = none) (hg : Gl X "isinstance" := by rfl)
    (he : starEach [a, .Name T q] X.env = (false, eval a X.env) :: starEach [.Name T q] X.env := by rfl) (he2 : starEach [.Name T q] X.env = (false, eval (.Name T q) X.env) :: starEach [] X.env := by rfl) (hpl : (backTo pos (starEach [.Name T q] X.env)).any (·.1) = false := by rfl) :
    XI X W ss (.Call (.Name "isinstance" p) [a, .Name T q] [] pos) (m.bind fun _ => .ok r) :=
  PE_imp (pe_callB call_isi hg hm (by decide +kernel) (pa_cons h (pa_cons hb pa_nil he2) he) (by decide) (by decide) he hpl) fun σ H Q ⟨sl, q⟩ => ⟨sl, wpR_imp (wpR_bind q) (Same.refl H) fun x q v H1 s1 r1 =>
    ⟨v, .ty TT, _, _, r, rfl, .ty TT, HasTy.ok r1, kit_ty hk, q _ H1 s1 rfl⟩⟩
theorem pe_ty {T : Str} {TT : String} {p : Pos} (hm : X.mg T = none) (hv : bootBuiltins T = some (.type TT)) (hg : Gl X T := by rfl) (hn : T ≠ "__name__" := by decide) (hd : (T == ("__debug__" : Str)) = false := by decide) : PE X (.Name T p) (tC (.ty TT)) := pe_bltn hg hm hv rfl hn hd
end
end G

namespace G
open PySem PySem.Spec PyProof.Rows L2
structure IsDef (K : Frag) (mg : Str → Option Value) (x : Str) (st : Stmt) : Prop where
  ex : ∃ f fd, Fun K x x st f fd ∧ mg x = some (.ref f)
structure Cal (P : Program) (w : World) (K : Frag) (mg : Str → Option Value) (base : Heap) (k : Nat) (x : Str) {A' A R : Type} [EncA A'] [EncA A] (c : A' → A) (g : A → Res R) (kr : R → Slot) : Prop where
  ex : ∃ f fd ps dvs ds, FnOk P w K mg base (L2.CX P w) k f fd ps (spOf K mg g kr) ∧ mg x = some (.ref f) ∧ PySem.W.keepIn K (.ref f) = true ∧ Binds K fd ps ds ∧ Vals dvs ds ∧ ∀ H vs a, EncA.rep K H vs a → EncA.rep K H (vs ++ dvs) (c a)
section
variable {P : Program} {w : World} {K : Frag} {mg : Str → Option Value} {base : Heap}
theorem cal_mk {x : Str} {st : Stmt} {N ps : List Str} {k : Nat} {A R : Type} [EncP A] {g : A → Res R} {kr : R → Slot} (D : IsDef K mg x st) (S : FnScope N ps (defScope st)) (hl : EncP.len A = ps.length)
    (hb : ∀ (kV doc pm : Value) (an : Option Addr) (cdv ct : Value) (us : List Value), us.length = ps.length → bindArgs (PySem.W.fnOf x x (defArgs st) (defBody st) (defScope st) .none kV doc pm an cdv ct) ⟨us, []⟩ = pure (ps.zip us))
    (hbody : ∀ (a : A) (f : Addr) (cdv : Value) (A' : Around) (outer : List Env) (s : Shared) (H : Hp) (E : L2.XK), Room k (A'.deeper (envOfC x (defScope st) s.heap.objs.size f cdv)) →
      ST (cxOf (L2.CX P w) P w K mg base N x (defScope st) f cdv A' outer s H E) (wE E) true (EncP.slots a ++ List.replicate (N.length - EncP.len A) any) (defBody st) (g a) kr) :
    Cal P w K mg base (k + 1) x (fun a : A => a) g kr := by
  obtain ⟨f, fd, F, hm⟩ := D.ex
  exact ⟨f, fd, ps, [], [], fn_ok F S hl fun a cdv A' outer s H E hr => hbody a f cdv A' outer s H E hr, hm, F.kp, F.binds hb, .nil, fun H vs a h => by rw [List.append_nil]; exact h⟩
theorem ST.slots {X : Cx} {W : WX} {R : Type} {e : Bool} {ss ss' : List Slot} {sts : List Stmt} {M : Res R} {kr : R → Slot} (h : ST X W e ss' sts M kr) (q : ss = ss') : ST X W e ss sts M kr := q ▸ h
end
section
variable {X : Cx} {W : WX} {ss : List Slot} {k j : Nat} {x : Str} {A' A R : Type} [EncA A'] [EncA A] {c : A' → A} {g : A → Res R} {kr : R → Slot} {p pos : Pos} {e : Expr} {es : List Expr}
theorem xi_cal [Enc R] [View kr] (C : Cal X.prog X.w X.K X.mg X.base j x c g kr) (hr : Room k X.A) (tk : Takes X W) {m : Res A'} (ha : XA X W ss (e :: es) m) (hj : j ≤ k := by decide) (hg : Gl X x := by rfl) (hdb : (x == ("__debug__" : Str)) = false := by decide)
    (he : starEach (e :: es) X.env = (false, eval e X.env) :: starEach es X.env := by rfl) (hpl : (backTo pos (starEach es X.env)).any (·.1) = false := by rfl) : XI X W ss (.Call (.Name x p) (e :: es) [] pos) (m.bind fun a => g (c a)) := by
  obtain ⟨f, fd, ps, dvs, ds, F, hm, hk, hb, hd, hf⟩ := C.ex
  exact xi_call F (hr.mono hj) hm hk ⟨dvs, ds, hb, hd, hf⟩ tk ha hg hdb he hpl
theorem xk_cal [KImm kr] (C : Cal X.prog X.w X.K X.mg X.base j x c g kr) (hr : Room k X.A) (tk : Takes X W) {m : Res A'} (ha : XA X W ss (e :: es) m) (hj : j ≤ k := by decide) (hg : Gl X x := by rfl) (hdb : (x == ("__debug__" : Str)) = false := by decide)
    (he : starEach (e :: es) X.env = (false, eval e X.env) :: starEach es X.env := by rfl) (hpl : (backTo pos (starEach es X.env)).any (·.1) = false := by rfl) : XK X W ss (.Call (.Name x p) (e :: es) [] pos) (m.bind fun a => g (c a)) kr := by
  obtain ⟨f, fd, ps, dvs, ds, F, hm, hk, hb, hd, hf⟩ := C.ex
  exact xk_call F (hr.mono hj) hm hk ⟨dvs, ds, hb, hd, hf⟩ tk ha hg hdb he hpl
theorem hu64 {A : Around} {k : Nat} (hr : Room k A) : A.units + 64 < cLine := hr.units
theorem hu65 {A : Around} {k : Nat} (hr : Room k A) : A.units + 65 < cLine := by have := hr.un; omega
theorem st_retOw (i : Nat) {α : Type} [Enc α] {as : List α} {ee : Bool} {rest : List Stmt} {x : Str} {rp pos : Pos} (hs : ss[i]? = some (ow as) := by rfl) (hp : PE X (.Name x rp) (tVar i) := by exact pv _) : ST X W ee ss (.Return (some (.Name x rp)) pos :: rest) (.ok as) ow := by
  have h : PS X (.Return (some (.Name x rp)) pos) (rdX X ss fun D B F0 => wpS X W (.ok as) B fun r => RtOk X ow r D B F0) := by
    refine PS_imp (ps_ret hp) fun D σ H ⟨B, F0, F, Gs, A, q⟩ => ?_
    obtain ⟨G, p, vs, hG, hσ, hp, r⟩ := all3_ow A.all hs
    exact ⟨.ref p, hσ, q _ H F G A.base A.ext (A.priv G (List.mem_of_getElem? hG)) ⟨p, vs, rfl, hp, r⟩⟩
  exact PSs_imp (rest_free h fun D D' σ H e1 _ _ ⟨B, F0, F, Gs, A, q⟩ => ⟨B, F0, F, Gs, A, wpS_imp q fun r q v H' F' G' a b c d => by rw [e1]; exact q v H' F' G' a b c d⟩)
    fun D σ H ⟨B, F0, F, Gs, A, _, q⟩ => ⟨B, F0, F, Gs, A, q⟩
end
theorem wk_nil : Wk [] [] := trivial
theorem wk_eq {s : Slot} {ss ts : List Slot} (h : Wk ss ts) : Wk (s :: ss) (s :: ts) := ⟨.inl rfl, h⟩
theorem wk_any {s : Slot} {ss ts : List Slot} (h : Wk ss ts) : Wk (s :: ss) (any :: ts) := ⟨.inr rfl, h⟩
def spLaw (K : Frag) : Sp := fun vs H Q _ => ∃ (a : Addr) (ns : List Int), vs = [.ref a] ∧ SqL K H a (ns.map V.int) ∧ ns.length ≤ 63 ∧ ∀ v H', v = .bl true → Q v H'
theorem law_ok {P : Program} {w : World} {K : Frag} {mg : Str → Option Value} {base : Heap} {k : Nat} {f : Addr} {fd : FuncData} {x : Str} {g : Scr × Unit → Res Bool} (F : FnOk P w K mg base (L2.CX P w) k f fd [x] (spOf K mg g fr)) (hg : ∀ ns : List Int, ns.length ≤ 63 → g (⟨ns⟩, ()) = .ok true) :
    FnOk P w K mg base (L2.CX P w) k f fd [x] (spLaw K) := F.imp fun vs H Q E ⟨a, ns, e, hS, hl, q⟩ => by
  subst e
  refine ⟨(⟨ns⟩, ()), H, ⟨.ref a, [], rfl, ⟨a, rfl, hS⟩, rfl⟩, Same.refl H, ?_⟩
  rw [hg ns hl]
  exact fun v H' F' G' _ _ _ ⟨v', e, r⟩ => q v H' (by cases e; exact r)
end G

namespace G
open PySem PySem.Spec PyProof.Rows L2
structure Dic (κ β : Type) where
  l : List (κ × β)
section
variable {κ β : Type} [DecidableEq κ]
def dget (d : Dic κ β) (k : κ) : Option β := (d.l.find? fun kv => decide (kv.1 = k)).map (·.2)
def dhas (d : Dic κ β) (k : κ) : Bool := d.l.any fun kv => decide (kv.1 = k)
def dput (d : Dic κ β) (k : κ) (v : β) : Dic κ β := ⟨if dhas d k then d.l.map (fun kv => if kv.1 = k then (kv.1, v) else kv) else d.l ++ [(k, v)]⟩
def dkeys (d : Dic κ β) : List κ := d.l.map (·.1)
theorem dget_isSome (d : Dic κ β) (k : κ) : (dget d k).isSome = dhas d k := by
  unfold dget dhas
  rw [Option.isSome_map, Bool.eq_iff_iff, List.find?_isSome, List.any_eq_true]
theorem dhas_keys (d : Dic κ β) (k : κ) : dhas d k = decide (k ∈ dkeys d) := by
  unfold dhas dkeys
  rw [Bool.eq_iff_iff, List.any_eq_true, decide_eq_true_iff, List.mem_map]
  constructor
  · rintro ⟨x, m, h⟩; exact ⟨x, m, of_decide_eq_true h⟩
  · rintro ⟨x, m, h⟩; exact ⟨x, m, decide_eq_true h⟩
theorem dkeys_put (d : Dic κ β) (k : κ) (v : β) : dkeys (dput d k v) = if k ∈ dkeys d then dkeys d else dkeys d ++ [k] := by
  unfold dput
  rw [dhas_keys]
  by_cases h : k ∈ dkeys d
  · rw [decide_eq_true h, if_pos rfl, if_pos h]
    unfold dkeys
    rw [List.map_map]
    refine List.map_congr_left fun x _ => ?_
    show (if x.1 = k then (x.1, v) else x).1 = x.1
    split <;> rfl
  · rw [decide_eq_false h, if_neg Bool.false_ne_true, if_neg h]
    unfold dkeys
    rw [List.map_append]; rfl
end
class DK (κ : Type) [Enc κ] [DecidableEq κ] where
  ho : List (κ × V) → HO
  notT : ∀ kvs, isT (ho kvs) = false
  mutH : ∀ kvs, Mut (some (ho kvs))
  get : ∀ {K : Frag} {H : Hp} {a : Addr} {kvs : List (κ × V)} {y : V} {k : κ}, Rd H a (ho kvs) → Enc.rep K H y k → DGet H a y (valV kvs k)
  put : ∀ {K : Frag} {H : Hp} {a : Addr} {kvs : List (κ × V)} {y v : V} {k : κ}, H a = some (ho kvs) → Enc.rep K H y k → kvs.length < sizeLine → DPut H a y v (upd H a (ho (putK kvs k v)))
  new : ∀ (X : Cx) (pos : Pos), PE X (.Dict [] [] pos) (fun _ H Q => ∀ p, H p = none → Q (.ref p) (upd H p (ho [])))
  list : ∀ (X : Cx), X.calm = true → CallR X (.type "list") (fun xs H Q => ∃ a kvs, xs = [.ref a] ∧ Rd H a (ho kvs) ∧ ∀ p vs, H p = none → All2 (fun v (kv : κ × V) => Enc.rep X.K H v kv.1) vs kvs → Q (.ref p) (upd H p (.lst vs)))
section
variable {κ κ' : Type} [DecidableEq κ] [DecidableEq κ'] {f : κ → κ'} (inj : ∀ a b, f a = f b → a = b)
include inj
theorem valV_map_key (kvs : List (κ × V)) (k : κ) : valV (kvs.map fun kv => (f kv.1, kv.2)) (f k) = valV kvs k := by
  induction kvs with
  | nil => rfl
  | cons p r ih =>
    rw [List.map_cons]
    by_cases e : p.1 = k
    · rw [valV_pos e, valV_pos (by show f p.1 = f k; rw [e])]
    · rw [valV_neg e, valV_neg (by show ¬ f p.1 = f k; exact fun z => e (inj _ _ z)), ih]
theorem putK_map_key (kvs : List (κ × V)) (k : κ) (v : V) : putK (kvs.map fun kv => (f kv.1, kv.2)) (f k) v = (putK kvs k v).map fun kv => (f kv.1, kv.2) := by
  unfold putK
  have e : ((kvs.map fun kv => (f kv.1, kv.2)).any fun kv => decide (kv.1 = f k)) = kvs.any fun kv => decide (kv.1 = k) := by
    rw [List.any_map]
    congr 1
    funext kv
    show decide (f kv.1 = f k) = decide (kv.1 = k)
    by_cases z : kv.1 = k
    · rw [decide_eq_true z, decide_eq_true (by rw [z])]
    · rw [decide_eq_false z, decide_eq_false fun y => z (inj _ _ y)]
  rw [e]
  split
  · rw [List.map_map, List.map_map]
    refine List.map_congr_left fun x _ => ?_
    show (if f x.1 = f k then (f x.1, v) else (f x.1, x.2)) = (f (if x.1 = k then (x.1, v) else x).1, (if x.1 = k then (x.1, v) else x).2)
    by_cases z : x.1 = k
    · rw [if_pos z, if_pos (by rw [z])]
    · rw [if_neg z, if_neg fun y => z (inj _ _ y)]
  · rw [List.map_append]; rfl
end
def hoK {κ : Type} (f : κ → Key) (kvs : List (κ × V)) : HO := .dK (kvs.map fun kv => (f kv.1, kv.2))
def hoT {κ : Type} (f : κ → List Key) (kvs : List (κ × V)) : HO := .dT (kvs.map fun kv => (f kv.1, kv.2))
theorem all2_keys {κ : Type} {P : V → κ → Prop} : ∀ {kvs : List (κ × V)} {g : κ → V}, (∀ k, P (g k) k) → All2 (fun v (kv : κ × V) => P v kv.1) (kvs.map fun kv => g kv.1) kvs
  | [], _, _ => trivial
  | _ :: _, _, h => ⟨h _, all2_keys h⟩
instance : DK Int where
  ho := hoK .inl
  notT := fun _ => rfl
  mutH := fun _ => trivial
  get := fun {K H a kvs y k} h r => by
    rw [show y = V.int k from r, ← valV_map_key (f := fun i : Int => (Sum.inl i : Key)) (fun a b e => Sum.inl.inj e) kvs k]
    exact .inl ⟨_, Sum.inl k, h, rfl, rfl⟩
  put := fun {K H a kvs y v k} h r hl => by
    have e := DPut.k (k := Sum.inl k) (v := v) h (by rw [List.length_map]; exact hl)
    rw [show y = V.int k from r]
    unfold hoK
    rw [← putK_map_key (f := fun i : Int => (Sum.inl i : Key)) (fun a b e => Sum.inl.inj e) kvs k v]
    exact e
  new := fun X pos => pe_dnewK
  list := fun X hc => by
    intro pins s σ H xs us Q I r ⟨a, kvs, e, h, q⟩
    refine call_listD hc pins s σ H xs us Q I r ⟨a, _, e, h, fun p hp => ?_⟩
    rw [List.map_map]
    exact q p _ hp (all2_keys (g := fun i => V.int i) fun _ => rfl)
instance : DK Str where
  ho := hoK .inr
  notT := fun _ => rfl
  mutH := fun _ => trivial
  get := fun {K H a kvs y k} h r => by
    rw [show y = V.str k from r, ← valV_map_key (f := fun i : Str => (Sum.inr i : Key)) (fun a b e => Sum.inr.inj e) kvs k]
    exact .inl ⟨_, Sum.inr k, h, rfl, rfl⟩
  put := fun {K H a kvs y v k} h r hl => by
    have e := DPut.k (k := Sum.inr k) (v := v) h (by rw [List.length_map]; exact hl)
    rw [show y = V.str k from r]
    unfold hoK
    rw [← putK_map_key (f := fun i : Str => (Sum.inr i : Key)) (fun a b e => Sum.inr.inj e) kvs k v]
    exact e
  new := fun X pos => pe_dnewK
  list := fun X hc => by
    intro pins s σ H xs us Q I r ⟨a, kvs, e, h, q⟩
    refine call_listD hc pins s σ H xs us Q I r ⟨a, _, e, h, fun p hp => ?_⟩
    rw [List.map_map]
    exact q p _ hp (all2_keys (g := fun i => V.str i) fun _ => rfl)
def key2 (x : Int × Int) : List Key := [.inl x.1, .inl x.2]
theorem key2_inj (a b : Int × Int) (e : key2 a = key2 b) : a = b := by
  unfold key2 at e
  injection e with e1 e2
  injection e2 with e2 _
  exact Prod.ext (Sum.inl.inj e1) (Sum.inl.inj e2)
theorem keys_all2 {K : Frag} {H : Hp} : ∀ {kvs : List ((Int × Int) × V)} {bs : List Addr}, IsKeys H (kvs.map fun kv => (key2 kv.1, kv.2)) bs → All2 (fun v (kv : (Int × Int) × V) => Enc.rep K H v kv.1) (bs.map V.ref) kvs
  | [], [], _ => trivial
  | kv :: kvs, b :: bs, h => by
    cases h with
    | cons h t => exact ⟨⟨b, _, _, rfl, h, rfl, rfl⟩, keys_all2 t⟩
  | [], _ :: _, h => by cases h
  | _ :: _, [], h => by cases h
instance : DK (Int × Int) where
  ho := hoT key2
  notT := fun _ => rfl
  mutH := fun _ => trivial
  get := fun {K H a kvs y k} h ⟨p, v1, v2, e, hp, r1, r2⟩ => by
    rw [e, ← valV_map_key key2_inj kvs k]
    have r1 : v1 = V.int k.1 := r1
    have r2 : v2 = V.int k.2 := r2
    exact .inr ⟨_, key2 k, p, h, rfl, by rw [hp, r1, r2]; rfl, rfl⟩
  put := fun {K H a kvs y v k} h ⟨p, v1, v2, e, hp, r1, r2⟩ hl => by
    have r1 : v1 = V.int k.1 := r1
    have r2 : v2 = V.int k.2 := r2
    have e2 := DPut.t (k := key2 k) (v := v) (b := p) h (by rw [hp, r1, r2]; rfl) (by rw [List.length_map]; exact hl)
    rw [e]
    unfold hoT
    rw [← putK_map_key key2_inj kvs k v]
    exact e2
  new := fun X pos => pe_dnewT
  list := fun X hc => by
    intro pins s σ H xs us Q I r ⟨a, kvs, e, h, q⟩
    exact call_list_dT hc pins s σ H xs us Q I r ⟨a, _, e, h, fun p bs hp hk => q p _ hp (keys_all2 hk)⟩
theorem rd_mono {H H' : Hp} {a : Addr} {u : HO} (s : Same H H') (h : Rd H a u) : Rd H' a u := h.elim (fun e => .inl (s _ _ e)) fun ⟨o, e⟩ => .inr ⟨o, s _ _ e⟩
abbrev RepD (K : Frag) (F : Hp) {κ β : Type} [Enc β] (kvs : List (κ × V)) (l : List (κ × β)) : Prop := All2 (fun (kv : κ × V) (x : κ × β) => kv.1 = x.1 ∧ Enc.rep K F kv.2 x.2) kvs l
theorem RepD.mono {K : Frag} {F F' : Hp} {κ β : Type} [Enc β] {kvs : List (κ × V)} {l : List (κ × β)} (s : Same F F') (h : RepD K F kvs l) : RepD K F' kvs l := All2.imp (fun _ _ x => ⟨x.1, Enc.mono s x.2⟩) h
instance {κ β : Type} [Enc κ] [DecidableEq κ] [DK κ] [Enc β] : Enc (Dic κ β) :=
  ⟨fun K H v d => ∃ p kvs, v = .ref p ∧ Rd H p (DK.ho kvs) ∧ RepD K H kvs d.l, fun s ⟨p, kvs, e, h, r⟩ => ⟨p, kvs, e, rd_mono s h, r.mono s⟩⟩
instance {κ β : Type} [Enc κ] [DecidableEq κ] [DK κ] [Enc β] : NN (Dic κ β) := ⟨fun ⟨_, _, e1, _⟩ e => by rw [e] at e1; cases e1⟩
def owd {κ β : Type} [Enc κ] [DecidableEq κ] [DK κ] [Enc β] (d : Dic κ β) : Slot :=
  ⟨fun K F G o => ∃ p kvs, o = some (.ref p) ∧ G p = some (DK.ho kvs) ∧ RepD K F kvs d.l, fun s t ⟨p, kvs, e, h, r⟩ => ⟨p, kvs, e, t _ _ h, r.mono s⟩⟩
section
variable {κ β : Type} [Enc κ] [DecidableEq κ] [DK κ] [Enc β]
instance : View (owd (κ := κ) (β := β)) := ⟨fun ⟨p, kvs, e, g, r⟩ => by cases e; exact ⟨p, kvs, rfl, .inl g, r⟩⟩
variable {X : Cx} {W : WX} {ss : List Slot} {pos : Pos} {a b e : Expr}
theorem Asn.putG {K : Frag} {B F0 H F : Hp} {ss : List Slot} {σ : L2.St} {Gs : List Hp} (A : Asn K B F0 ss σ H F Gs) {i : Nat} {G : Hp} {p : Addr} {o o' : HO} {s' : Slot} (hG : Gs[i]? = some G) (hσ : σ[i]? = some (some (.ref p))) (hp : G p = some o) (hT : isT o' = false)
    (r : s'.P K F (upd noHp p o') (some (.ref p))) : Asn K B F0 (ss.set i s') σ (upd H p o') F (Gs.set i (upd noHp p o')) := by
  have hm : G ∈ Gs := List.mem_of_getElem? hG
  obtain ⟨h1, h2, h3, h4⟩ := A.priv G hm _ _ hp
  have sF : Same F (upd H p o') := fun c u z => by
    rw [upd_ne (fun e => by rw [e, h3] at z; cases z)]
    exact A.ext.sub _ _ z
  refine ⟨⟨A.ext.le, sF, A.ext.new⟩, fun c u z => ?_, ?_, fun G' m c u z => ?_, ?_⟩
  · rw [upd_ne (fun e => by rw [e, h2] at z; cases z)]
    exact A.base _ _ z
  · have e := set_self hσ
    rw [← e]
    exact A.all.set (s := s') r i
  · by_cases hi : G' = upd noHp p o'
    · subst hi
      by_cases e : c = p
      · subst e
        rw [upd_same] at z; cases z
        exact ⟨upd_same, h2, h3, hT⟩
      · rw [upd_ne e] at z; cases z
    · obtain ⟨j, hj⟩ := List.getElem?_of_mem m
      have hji : j ≠ i := fun e => by
        subst e
        have hlt : j < Gs.length := (List.getElem?_eq_some_iff.mp hG).1
        rw [List.getElem?_set_self hlt] at hj
        exact hi (Option.some.inj hj).symm
      rw [List.getElem?_set_ne (Ne.symm hji)] at hj
      have hd : Dj G' G := by
        have pw := A.dj
        have hj' := List.getElem?_eq_some_iff.mp hj
        have hG' := List.getElem?_eq_some_iff.mp hG
        rcases Nat.lt_or_gt_of_ne hji with z | z
        · have := List.pairwise_iff_getElem.mp pw j i hj'.1 hG'.1 z
          rw [hj'.2, hG'.2] at this
          exact this
        · have := List.pairwise_iff_getElem.mp pw i j hG'.1 hj'.1 z
          rw [hj'.2, hG'.2] at this
          exact fun a => (this a).symm
      have hcp : c ≠ p := fun e => by
        subst e
        rcases hd c with y | y
        · rw [y] at z; cases z
        · rw [y] at hp; cases hp
      obtain ⟨k1, k2, k3, k4⟩ := A.priv G' (List.mem_of_getElem? hj) c u z
      exact ⟨by rw [upd_ne hcp]; exact k1, k2, k3, k4⟩
  · refine Asn.put.pw_ix hG A.dj fun G' d c => ?_
    by_cases e : c = p
    · subst e
      rcases d c with y | y
      · rw [y] at hp; cases hp
      · exact .inr y
    · exact .inl (by rw [upd_ne e]; rfl)
def dputR (d : Dic κ β) (k : κ) (v : β) : Res (Dic κ β) := guardR (big d.l.length) (.ok (dput d k v))
end
section
variable {κ β : Type} [Enc κ] [DecidableEq κ] [DK κ] [Enc β] {X : Cx} {W : WX} {ss : List Slot}
end
end G

namespace G
open PySem PySem.Spec PyProof.Rows L2
structure IsDefD (K : Frag) (mg : Str → Option Value) (x : Str) (st : Stmt) (dvs : List V) : Prop where
  ex : ∃ f fd, FunD K x x (defArgs st) (defBody st) (defScope st) dvs [] f fd ∧ mg x = some (.ref f)
section
variable {P : Program} {w : World} {K : Frag} {mg : Str → Option Value} {base : Heap}
def Bnd (x : Str) (st : Stmt) (ps : List Str) (m n j : Nat) : Prop := ∀ (T : Addr) (kV doc pm : Value) (an : Option Addr) (cdv ct : Value) (us its : List Value), us.length = n → its.length = m →
  ∃ k, bindArgs (PySem.W.fnOf x x (defArgs st) (defBody st) (defScope st) (.ref T) kV doc pm an cdv ct) ⟨us, []⟩ = seqItems? (.ref T) >>= k ∧ k (some its.toArray) = pure (ps.zip (us ++ its.drop j))
end
theorem isDef_mk {K : Frag} {mg : PySem.Str → Option Value} {h : Heap} {x : PySem.Str} {st : Stmt} {f : Addr} {oc : Value} {od an : Option Addr} {osl : Array (Option Value)} {kV doc pm cdv ct : Value} (X : K.In h) (G : h.Ns mainGlobals mg) (a : PySem.W.nsIn K mainGlobals x = some (some (.ref f)))
    (l : K.lookup f = some ⟨oc, od, .func (PySem.W.fnOf x x (defArgs st) (defBody st) (defScope st) .none kV doc pm an cdv ct), osl⟩) (c : PySem.W.codeIn K cdv x = true) (k : PySem.W.keepIn K (.ref f) = true) : IsDef K mg x st := ⟨f, _, fun_mk l c k, PySem.W.mg_of X G a⟩
end G

namespace G
open PySem PySem.Spec PyProof.Rows L2
structure Ow (α : Type) [Enc α] where
  own : Frag → Hp → Hp → V → α → Prop
  mF : ∀ {K : Frag} {F F' G : Hp} {v : V} {a : α}, Same F F' → own K F G v a → own K F' G v a
  mG : ∀ {K : Frag} {F G G' : Hp} {v : V} {a : α}, Same G G' → own K F G v a → own K F G' v a
  view : ∀ {K : Frag} {F G H : Hp} {v : V} {a : α}, own K F G v a → Same F H → Same G H → Enc.rep K H v a
def AllO {α : Type} (P : Hp → V → α → Prop) : List V → List Hp → List α → Prop
  | [], [], [] => True
  | v :: vs, G :: Gs, a :: as => P G v a ∧ AllO P vs Gs as
  | _, _, _ => False
section
variable {α : Type} {P R : Hp → V → α → Prop}
theorem AllO.imp (h : ∀ G v a, P G v a → R G v a) : ∀ {vs : List V} {Gs : List Hp} {as : List α}, AllO P vs Gs as → AllO R vs Gs as
  | [], [], [], _ => trivial
  | _ :: _, _ :: _, _ :: _, ⟨x, y⟩ => ⟨h _ _ _ x, AllO.imp h y⟩
  | [], _ :: _, _, x => x.elim
  | [], [], _ :: _, x => x.elim
  | _ :: _, [], _, x => x.elim
  | _ :: _, _ :: _, [], x => x.elim
theorem AllO.all2 {T : V → α → Prop} : ∀ {vs : List V} {Gs : List Hp} {as : List α}, AllO P vs Gs as → (∀ G ∈ Gs, ∀ v a, P G v a → T v a) → All2 T vs as
  | [], [], [], _, _ => trivial
  | _ :: _, _ :: _, _ :: _, ⟨x, y⟩, h => ⟨h _ List.mem_cons_self _ _ x, AllO.all2 y fun G m => h G (List.mem_cons_of_mem _ m)⟩
  | [], _ :: _, _, x, _ => x.elim
  | [], [], _ :: _, x, _ => x.elim
  | _ :: _, [], _, x, _ => x.elim
  | _ :: _, _ :: _, [], x, _ => x.elim
theorem AllO.length : ∀ {vs : List V} {Gs : List Hp} {as : List α}, AllO P vs Gs as → vs.length = as.length
  | [], [], [], _ => rfl
  | _ :: _, _ :: _, _ :: _, ⟨_, y⟩ => congrArg (· + 1) (AllO.length y)
  | [], _ :: _, _, x => x.elim
  | [], [], _ :: _, x => x.elim
  | _ :: _, [], _, x => x.elim
  | _ :: _, _ :: _, [], x => x.elim
theorem AllO.append : ∀ {vs vs' : List V} {Gs Gs' : List Hp} {as as' : List α}, AllO P vs Gs as → AllO P vs' Gs' as' → AllO P (vs ++ vs') (Gs ++ Gs') (as ++ as')
  | [], _, [], _, [], _, _, h => h
  | _ :: _, _, _ :: _, _, _ :: _, _, ⟨x, y⟩, h => ⟨x, AllO.append y h⟩
  | [], _, _ :: _, _, _, _, x, _ => x.elim
  | [], _, [], _, _ :: _, _, x, _ => x.elim
  | _ :: _, _, [], _, _, _, x, _ => x.elim
  | _ :: _, _, _ :: _, _, [], _, x, _ => x.elim
theorem AllO.get : ∀ {vs : List V} {Gs : List Hp} {as : List α} {i : Nat} {a : α}, AllO P vs Gs as → as[i]? = some a → ∃ v G, vs[i]? = some v ∧ Gs[i]? = some G ∧ P G v a
  | _ :: _, _ :: _, _ :: _, 0, b, ⟨x, _⟩, h => by
    have e : _ = b := Option.some.inj h
    subst e
    exact ⟨_, _, rfl, rfl, x⟩
  | _ :: vs, _ :: Gs, _ :: as, i + 1, b, ⟨_, y⟩, h => AllO.get (vs := vs) (Gs := Gs) (as := as) (i := i) y h
  | [], [], [], i, b, _, h => by simp at h
  | [], _ :: _, _, _, _, x, _ => x.elim
  | [], [], _ :: _, _, _, x, _ => x.elim
  | _ :: _, [], _, _, _, x, _ => x.elim
  | _ :: _, _ :: _, [], _, _, x, _ => x.elim
theorem AllO.set : ∀ (i : Nat) {vs : List V} {Gs : List Hp} {as : List α} {v : V} {G : Hp} {a : α}, AllO P vs Gs as → P G v a → AllO P (vs.set i v) (Gs.set i G) (as.set i a)
  | _, [], [], [], _, _, _, h, _ => h
  | 0, _ :: _, _ :: _, _ :: _, _, _, _, ⟨_, y⟩, h => ⟨h, y⟩
  | i + 1, _ :: _, _ :: _, _ :: _, _, _, _, ⟨x, y⟩, h => ⟨x, AllO.set i y h⟩
  | _, [], _ :: _, _, _, _, _, x, _ => x.elim
  | _, [], [], _ :: _, _, _, _, x, _ => x.elim
  | _, _ :: _, [], _, _, _, _, x, _ => x.elim
  | _, _ :: _, _ :: _, [], _, _, _, x, _ => x.elim
end
def fzO {α : Type} [Enc α] : Ow α := ⟨fun K F _ v a => Enc.rep K F v a, fun s h => Enc.mono s h, fun _ h => h, fun h s _ => Enc.mono s h⟩
def l1 {α : Type} [Enc α] : Ow (List α) := ⟨fun K F G v as => ∃ p vs, v = .ref p ∧ G p = some (.lst vs) ∧ All2 (fun v a => Enc.rep K F v a) vs as,
  fun s ⟨p, vs, e, g, r⟩ => ⟨p, vs, e, g, r.mono s⟩, fun s ⟨p, vs, e, g, r⟩ => ⟨p, vs, e, s _ _ g, r⟩, fun ⟨p, vs, e, g, r⟩ s t => ⟨p, vs, e, t _ _ g, r.mono s⟩⟩
def lsO {α : Type} [Enc α] (d : Ow α) : Ow (List α) := ⟨fun K F G v as => ∃ p vs Gs, v = .ref p ∧ G p = some (.lst vs) ∧ (∀ g ∈ Gs, Same g G ∧ g p = none) ∧ Gs.Pairwise Dj ∧ AllO (d.own K F) vs Gs as,
  fun s ⟨p, vs, Gs, e, g, h, w, r⟩ => ⟨p, vs, Gs, e, g, h, w, r.imp fun _ _ _ x => d.mF s x⟩,
  fun s ⟨p, vs, Gs, e, g, h, w, r⟩ => ⟨p, vs, Gs, e, s _ _ g, fun k m => ⟨(h k m).1.trans s, (h k m).2⟩, w, r⟩,
  fun ⟨p, vs, Gs, e, g, h, w, r⟩ s t => ⟨p, vs, e, t _ _ g, r.all2 fun k m v a x => d.view x s ((h k m).1.trans t)⟩⟩
def prO {α β : Type} [Enc α] [Enc β] (d : Ow α) (d' : Ow β) : Ow (α × β) := ⟨fun K F G v x => ∃ p v1 v2 G1 G2, v = .ref p ∧ F p = some (.tup [v1, v2]) ∧ Same G1 G ∧ Same G2 G ∧ Dj G1 G2 ∧ d.own K F G1 v1 x.1 ∧ d'.own K F G2 v2 x.2,
  fun s ⟨p, v1, v2, G1, G2, e, g, a, b, c, x, y⟩ => ⟨p, v1, v2, G1, G2, e, s _ _ g, a, b, c, d.mF s x, d'.mF s y⟩,
  fun s ⟨p, v1, v2, G1, G2, e, g, a, b, c, x, y⟩ => ⟨p, v1, v2, G1, G2, e, g, a.trans s, b.trans s, c, x, y⟩,
  fun ⟨p, v1, v2, G1, G2, e, g, a, b, c, x, y⟩ s t => ⟨p, v1, v2, e, s _ _ g, d.view x s (a.trans t), d'.view y s (b.trans t)⟩⟩
def os {α : Type} [Enc α] (d : Ow α) (a : α) : Slot := ⟨fun K F G o => ∃ v, o = some v ∧ d.own K F G v a, fun s t ⟨v, e, r⟩ => ⟨v, e, d.mG t (d.mF s r)⟩⟩
class ImmO {α : Type} [Enc α] (d : Ow α) : Prop where
  imm : ∀ {K : Frag} {F G : Hp} {v : V} {a : α}, d.own K F G v a → d.own K (tups F) G v a
instance {α : Type} [Enc α] [Imm α] : ImmO (fzO (α := α)) := ⟨fun h => Imm.imm h⟩
instance {α : Type} [Enc α] [Imm α] : ImmO (l1 (α := α)) := ⟨fun ⟨p, vs, e, g, r⟩ => ⟨p, vs, e, g, All2.imp (fun _ _ z => Imm.imm z) r⟩⟩
instance {α : Type} [Enc α] {d : Ow α} [ImmO d] : ImmO (lsO d) := ⟨fun ⟨p, vs, Gs, e, g, h, w, r⟩ => ⟨p, vs, Gs, e, g, h, w, r.imp fun _ _ _ x => ImmO.imm x⟩⟩
instance {α β : Type} [Enc α] [Enc β] {d : Ow α} {d' : Ow β} [ImmO d] [ImmO d'] : ImmO (prO d d') := ⟨fun ⟨p, v1, v2, G1, G2, e, g, a, b, c, x, y⟩ => ⟨p, v1, v2, G1, G2, e, tups_some g rfl, a, b, c, ImmO.imm x, ImmO.imm y⟩⟩
instance {α : Type} [Enc α] {d : Ow α} : View (os d) := ⟨fun ⟨v, e, r⟩ => by cases e; exact d.view r (Same.refl _) (Same.refl _)⟩
instance {α : Type} [Enc α] {d : Ow α} [ImmO d] : KImm (os d) := ⟨fun ⟨v, e, r⟩ => ⟨v, e, ImmO.imm r⟩⟩
def jl (n : Nat) : Slot := ⟨fun _ _ G o => ∃ p vs, o = some (.ref p) ∧ G p = some (.lst vs) ∧ vs.length = n, fun _ t ⟨p, vs, e, g, l⟩ => ⟨p, vs, e, t _ _ g, l⟩⟩
def jk {α : Type} [Enc α] (d : Ow α) (p : Addr) (vs : List V) (as : List α) (k : Nat) : Slot :=
  ⟨fun K F G o => o = some (.ref p) ∧ ∃ Gs, G p = some (.lst vs) ∧ (∀ g ∈ Gs, Same g G ∧ g p = none) ∧ Gs.Pairwise Dj ∧ AllO (d.own K F) (vs.drop k) Gs (as.drop k),
   fun s t ⟨e, Gs, g, h, w, r⟩ => ⟨e, Gs, t _ _ g, fun k m => ⟨(h k m).1.trans t, (h k m).2⟩, w, r.imp fun _ _ _ x => d.mF s x⟩⟩
def pin {α : Type} [Enc α] (G0 : Hp) (v0 : V) (d : Ow α) (a : α) : Slot :=
  ⟨fun K F G o => o = some v0 ∧ Same G0 G ∧ d.own K F G0 v0 a, fun s t ⟨e, g, r⟩ => ⟨e, g.trans t, d.mF s r⟩⟩
section
variable {X : Cx} {W : WX} {ss : List Slot} {st : Stmt} {rest : List Stmt} {e : Expr} {pos : Pos}
theorem XK.kd {α : Type} {m : Res α} {kd kd' : α → Slot} (h : XK X W ss e m kd) (f : ∀ a K F G o, (kd a).P K F G o → (kd' a).P K F G o) : XK X W ss e m kd' :=
  PE_imp h fun σ H Q ⟨F, a, sl, q⟩ => ⟨F, a, sl, wpR_imp q (Same.refl H) fun x q v H' F' G' s ex pr k => q v H' F' G' s ex pr (f _ _ _ _ _ k)⟩
def Vw : List Slot → List Slot → Prop
  | [], [] => True
  | s :: ss, t :: ts => (∀ K H o, s.P K H H o → t.P K H H o) ∧ Vw ss ts
  | _, _ => False
theorem pw_ix2 {G G2 : Hp} {i : Nat} {Gs : List Hp} (hG : Gs[i]? = some G) (pw : Gs.Pairwise Dj) (hd : ∀ G' ∈ Gs, Dj G G' → Dj G2 G') : (Gs.set i G2).Pairwise Dj := by
  refine List.pairwise_iff_getElem.mpr fun j k hj hk hjk => ?_
  rw [List.length_set] at hj hk
  have hi := List.getElem?_eq_some_iff.mp hG
  have base := List.pairwise_iff_getElem.mp pw
  rw [List.getElem_set, List.getElem_set]
  split
  · rename_i e1
    split
    · rename_i e2; omega
    · subst e1
      have := base i k hi.1 hk hjk
      rw [hi.2] at this
      exact hd _ (List.getElem_mem _) this
  · split
    · rename_i e1 e2
      subst e2
      have := base j i hj hi.1 hjk
      rw [hi.2] at this
      exact fun a => (hd _ (List.getElem_mem _) (fun c => (this c).symm) a).symm
    · exact base j k hj hk hjk
theorem dj_of {Gs : List Hp} {i j : Nat} {G G' : Hp} (pw : Gs.Pairwise Dj) (hi : Gs[i]? = some G) (hj : Gs[j]? = some G') (h : i ≠ j) : Dj G G' := by
  have hi := List.getElem?_eq_some_iff.mp hi
  have hj := List.getElem?_eq_some_iff.mp hj
  rcases Nat.lt_or_gt_of_ne h with z | z
  · have := List.pairwise_iff_getElem.mp pw i j hi.1 hj.1 z
    rw [hi.2, hj.2] at this
    exact this
  · have := List.pairwise_iff_getElem.mp pw j i hj.1 hi.1 z
    rw [hi.2, hj.2] at this
    exact fun a => (this a).symm
theorem mem_set_ix {Gs : List Hp} {i : Nat} {G2 G' : Hp} (hl : i < Gs.length) (m : G' ∈ Gs.set i G2) : G' = G2 ∨ ∃ j, j ≠ i ∧ Gs[j]? = some G' := by
  obtain ⟨j, hj⟩ := List.getElem?_of_mem m
  by_cases e : j = i
  · subst e
    rw [List.getElem?_set_self hl] at hj
    exact .inl (Option.some.inj hj).symm
  · rw [List.getElem?_set_ne (Ne.symm e)] at hj
    exact .inr ⟨j, e, hj⟩
def Fresh (B F H : Hp) (Gs : List Hp) (G' : Hp) : Prop := ∀ c u, G' c = some u → H c = some u ∧ isT u = false ∧ B c = none ∧ F c = none ∧ ∀ g ∈ Gs, g c = none
theorem Asn.chg {K : Frag} {B F0 H F H' G G2 : Hp} {ss : List Slot} {σ : L2.St} {Gs : List Hp} {i : Nat} {s : Slot} {o : Option V} (A : Asn K B F0 ss σ H F Gs) (hG : Gs[i]? = some G)
    (hk : ∀ c u, G c = none → H c = some u → H' c = some u) (h2 : ∀ c u, G2 c = some u → H' c = some u ∧ isT u = false ∧ (G c ≠ none ∨ (B c = none ∧ F c = none ∧ ∀ g ∈ Gs, g c = none)))
    (x : s.P K F G2 o) : Asn K B F0 (ss.set i s) (σ.set i o) H' F (Gs.set i G2) := by
  have hm : G ∈ Gs := List.mem_of_getElem? hG
  have hl := (List.getElem?_eq_some_iff.mp hG).1
  have nG : ∀ c w, G c = some w → B c = none ∧ F c = none := fun c w z => ⟨(A.priv G hm c w z).2.1, (A.priv G hm c w z).2.2.1⟩
  have out : ∀ {c u}, F c = some u → G c = none := fun {c u} z => by
    cases e : G c with
    | none => rfl
    | some w => rw [(nG c w e).2] at z; cases z
  have outB : ∀ {c u}, B c = some u → G c = none := fun {c u} z => by
    cases e : G c with
    | none => rfl
    | some w => rw [(nG c w e).1] at z; cases z
  refine ⟨⟨A.ext.le, fun c u z => hk c u (out z) (A.ext.sub _ _ z), A.ext.new⟩, fun c u z => hk c u (outB z) (A.base _ _ z), A.all.set x i, fun G' m c u z => ?_, ?_⟩
  · rcases mem_set_ix hl m with e | ⟨j, hji, hj⟩
    · subst e
      obtain ⟨a, b, d⟩ := h2 c u z
      rcases d with d | d
      · cases e : G c with
        | none => exact (d e).elim
        | some w => exact ⟨a, (nG c w e).1, (nG c w e).2, b⟩
      · exact ⟨a, d.1, d.2.1, b⟩
    · obtain ⟨k1, k2, k3, k4⟩ := A.priv G' (List.mem_of_getElem? hj) c u z
      have : G c = none := (dj_of A.dj hj hG hji c).elim (fun y => by rw [y] at z; cases z) id
      exact ⟨hk c u this k1, k2, k3, k4⟩
  · refine pw_ix2 hG A.dj fun G' m' d c => ?_
    cases e : G2 c with
    | none => exact .inl rfl
    | some u =>
      refine .inr ?_
      rcases (h2 c u e).2.2 with z | z
      · exact (d c).elim (fun y => (z y).elim) id
      · exact z.2.2 G' m'
theorem Asn.take {K : Frag} {B F0 H F G : Hp} {ss : List Slot} {σ : L2.St} {Gs : List Hp} {j : Nat} (A : Asn K B F0 ss σ H F Gs) (hG : Gs[j]? = some G) : Asn K B F0 (ss.set j any) σ H F (Gs.set j noHp) ∧ Fresh B F H (Gs.set j noHp) G := by
  have hm : G ∈ Gs := List.mem_of_getElem? hG
  have hl := (List.getElem?_eq_some_iff.mp hG).1
  refine ⟨⟨A.ext, A.base, ?_, fun G' m c u z => ?_, pw_set j A.dj fun _ _ _ => .inl rfl⟩, fun c u z => ?_⟩
  · have := A.all.any j
    refine all_set_any this
  · rcases mem_set_ix hl m with e | ⟨k, hk, hj⟩
    · subst e; cases z
    · exact A.priv G' (List.mem_of_getElem? hj) c u z
  · obtain ⟨k1, k2, k3, k4⟩ := A.priv G hm c u z
    refine ⟨k1, k4, k2, k3, fun g m => ?_⟩
    rcases mem_set_ix hl m with e | ⟨k, hk, hj⟩
    · subst e; rfl
    · exact (dj_of A.dj hG hj (Ne.symm hk) c).elim (fun y => by rw [y] at z; cases z) id
where
  all_set_any {K : Frag} {F : Hp} : ∀ {j : Nat} {ss : List Slot} {Gs : List Hp} {σ : L2.St}, All3 K F (ss.set j any) Gs σ → All3 K F (ss.set j any) (Gs.set j noHp) σ
    | _, [], [], [], h => h
    | 0, _ :: _, _ :: _, _ :: _, ⟨x, y⟩ => ⟨trivial, y⟩
    | j + 1, _ :: _, _ :: _, _ :: _, ⟨x, y⟩ => ⟨x, all_set_any (j := j) y⟩
    | _, [], _ :: _, _, h => by cases j <;> exact h.elim
    | _, [], [], _ :: _, h => by cases j <;> exact h.elim
    | 0, _ :: _, [], _, h => h.elim
    | _ + 1, _ :: _, [], _, h => h.elim
    | 0, _ :: _, _ :: _, [], h => h.elim
    | _ + 1, _ :: _, _ :: _, [], h => h.elim
theorem fresh_of {K : Frag} {B F0 H F H' F' G' : Hp} {ss : List Slot} {σ : L2.St} {Gs : List Hp} (A : Asn K B F0 ss σ H F Gs) (pr : Priv G' H F' H') : Fresh B F' H' Gs G' := fun c u z => by
  obtain ⟨k1, k2, k3, k4⟩ := pr c u z
  exact ⟨k1, k4, Same.free A.base k2, k3, fun g m => Same.free (A.sub g m) k2⟩
end
end G

namespace G
open PySem PySem.Spec PyProof.Rows L2
section
variable {X : Cx} {W : WX} {ss : List Slot} {st : Stmt} {rest : List Stmt} {e b tg : Expr} {pos : Pos}
def setI {α : Type} (xs : List α) (k : Int) (a : α) : List α := match ixN xs.length k with
  | some n => xs.set n a
  | none => xs
theorem pw_set_ix {G2 : Hp} : ∀ (j : Nat) {Gs : List Hp}, Gs.Pairwise Dj → (∀ k G', k ≠ j → Gs[k]? = some G' → Dj G2 G') → (Gs.set j G2).Pairwise Dj
  | _, [], _, _ => List.Pairwise.nil
  | 0, A :: Gs, h, d => List.pairwise_cons.mpr ⟨fun G' m => by
      obtain ⟨k, hk⟩ := List.getElem?_of_mem m
      exact d (k + 1) G' (by omega) hk, (List.pairwise_cons.mp h).2⟩
  | j + 1, A :: Gs, h, d => by
    obtain ⟨h1, h2⟩ := List.pairwise_cons.mp h
    refine List.pairwise_cons.mpr ⟨fun G' m => ?_, pw_set_ix j h2 fun k G' hk hG => d (k + 1) G' (by omega) hG⟩
    rcases List.mem_or_eq_of_mem_set m with z | z
    · exact h1 G' z
    · subst z
      exact fun a => (d 0 A (by omega) rfl a).symm
theorem Asn.two {K : Frag} {B F0 H F G G1 G2 : Hp} {ss : List Slot} {σ : L2.St} {Gs : List Hp} {i j : Nat} {s1 s2 : Slot} {o1 o2 : Option V} (A : Asn K B F0 ss σ H F Gs) (hij : i ≠ j) (hG : Gs[i]? = some G) (hσ : σ[i]? = some o1) (l1' : Same G1 G) (l2 : Same G2 G) (dj : Dj G1 G2)
    (x1 : s1.P K F G1 o1) (x2 : s2.P K F G2 o2) : Asn K B F0 ((ss.set i s1).set j s2) (σ.set j o2) H F ((Gs.set i G1).set j G2) := by
  have hm : G ∈ Gs := List.mem_of_getElem? hG
  have hl := (List.getElem?_eq_some_iff.mp hG).1
  have pr : ∀ {g c u}, Same g G → g c = some u → H c = some u ∧ B c = none ∧ F c = none ∧ isT u = false := fun {g c u} s z => A.priv G hm c u (s _ _ z)
  have dg : ∀ {g}, Same g G → ∀ G' ∈ Gs, Dj G G' → Dj g G' := fun {g} s G' _ d c => by
    cases e : g c with
    | none => exact .inl rfl
    | some u => exact .inr ((d c).elim (fun y => by rw [s _ _ e] at y; cases y) id)
  have A1 : All3 K F (ss.set i s1) (Gs.set i G1) (σ.set i o1) := A.all.set x1 i
  rw [set_self hσ] at A1
  refine ⟨A.ext, A.base, A1.set x2 j, fun G' m c u z => ?_, ?_⟩
  · rcases List.mem_or_eq_of_mem_set m with m | e
    · rcases List.mem_or_eq_of_mem_set m with m | e
      · exact A.priv G' m c u z
      · subst e; exact pr l1' z
    · subst e; exact pr l2 z
  · refine pw_set_ix j (pw_ix2 hG A.dj (dg l1')) fun k G' hk hG' => ?_
    by_cases e : k = i
    · subst e
      rw [List.getElem?_set_self hl] at hG'
      cases hG'
      exact fun x => (dj x).symm
    · rw [List.getElem?_set_ne (Ne.symm e)] at hG'
      exact dg l2 _ (List.mem_of_getElem? hG') (dj_of A.dj hG hG' (Ne.symm e))
theorem Asn.at {K : Frag} {B F0 H F : Hp} {ss : List Slot} {σ : L2.St} {Gs : List Hp} {i : Nat} {s t : Slot} (A : Asn K B F0 ss σ H F Gs) (hs : ss[i]? = some s) (h : ∀ G o, s.P K F G o → t.P K F G o) : Asn K B F0 (ss.set i t) σ H F Gs := by
  obtain ⟨G, o, hG, hσ, x⟩ := A.all.get hs
  have := A.all.set (h _ _ x) i
  rw [set_self hG, set_self hσ] at this
  exact ⟨A.ext, A.base, this, A.priv, A.dj⟩
end
end G

namespace G
open PySem PySem.Spec PyProof.Rows L2
section
variable {X : Cx} {W : WX} {ss : List Slot} {st : Stmt} {rest : List Stmt} {e b tg : Expr} {pos : Pos}
theorem Asn.clr {K : Frag} {B F0 H F G : Hp} {ss : List Slot} {σ : L2.St} {Gs : List Hp} {i : Nat} {p : Addr} {vs : List V} {s : Slot} (A : Asn K B F0 ss σ H F Gs) (hG : Gs[i]? = some G) (hσ : σ[i]? = some (some (.ref p))) (hp : G p = some (.lst vs)) (hx : s.P K F (upd noHp p (.lst [])) (some (.ref p))) :
    Asn K B F0 (ss.set i s) σ (upd H p (.lst [])) F (Gs.set i (upd noHp p (.lst []))) := by
  have := A.chg (s := s) (o := some (.ref p)) (G2 := upd noHp p (.lst [])) (H' := upd H p (.lst [])) hG (fun c u z h => by rw [upd_ne (fun e => by rw [e, hp] at z; cases z)]; exact h) (fun c u z => by
    by_cases e : c = p
    · subst e
      rw [upd_same] at z ⊢; cases z
      exact ⟨rfl, rfl, .inl (by rw [hp]; exact fun h => nomatch h)⟩
    · rw [upd_ne e] at z; cases z) hx
  rw [set_self hσ] at this
  exact this
end
end G

namespace G
open PySem PySem.Spec PyProof.Rows L2
section
variable {X : Cx} {W : WX} {ss : List Slot} {tg elt iter : Expr} {scope : Scope} {own : List (Str × Nat)} {pos : Pos}
end
end G

namespace G
open PySem PySem.Spec PyProof.Rows L2
section
variable {X : Cx} {W : WX} {ss : List Slot} {pos : Pos} {a b : Expr}
theorem s1_extI (i : Nat) {α : Type} [Enc α] [Imm α] {as : List α} {e : Expr} {m : Res (List α)} {x : Str} {p apos cpos : Pos} (h : XI X W ss e m) (hs : ss[i]? = some (ow as) := by rfl) (hp : PE X (.Name x p) (tVar i) := by exact pv _)
    (hbase : attributeBase (.Name x p) "extend" X.env (eval (.Name x p) X.env) = eval (.Name x p) X.env := by rfl)
    (hfew : ((backTo cpos (starEach [e] X.env)).all (fun x => !x.1) && (backToKw cpos (keywordEach [] X.env)).all (fun x => x.1.isSome)
      && decide (([e] : List Expr).length + ([] : List Keyword).length + (if ([] : List Keyword).isEmpty then 0 else 1) < 30)) = true := by rfl)
    (hline : (apos.endLine == cpos.line) = true := by rfl) (hst : starEach [e] X.env = (false, eval e X.env) :: starEach [] X.env := by rfl) (hplain : (backTo cpos (starEach [] X.env)).any (·.1) = false := by rfl)
    (hsw : swapsWith (.Call (.Attribute (.Name x p) "extend" apos) [e] [] cpos) none pos.line X.env = pure false := by rfl) :
    S1 X W ss (.Expr (.Call (.Attribute (.Name x p) "extend" apos) [e] [] cpos) pos) (m.bind fun ys => extR as ys) (fun as' => ss.set i (ow as')) := by
  have hx := pe_bm PySem.F.plainAttrs_list PySem.F.slot_list_extend PySem.F.type_list_extend mt_extend hp (pa_cons h pa_nil hst) hbase hfew hline hst hplain
  refine PS_imp (ps_expr hx hsw) fun D σ H ⟨B, F0, F, Gs, A, q⟩ => ?_
  obtain ⟨G, p, vs, hG, hσ, hp, r⟩ := all3_ow A.all hs
  have hH := A.sub G (List.mem_of_getElem? hG) _ _ hp
  refine ⟨.ref p, hσ, .inl ⟨rfl, vs, SqL.of hH⟩, A.sl.mono A.ext.sub (Same.refl H), wpS_R (wpS_bind q) A.base fun ys q v H' s ⟨p2, ws, e2, hp2, rv⟩ => ?_⟩
  have A' := A.grow (F' := join F (tups H')) s (ext_imm A.ext.sub s)
  unfold extR at q
  cases g : big (as.length + ys.length) with
  | false => rw [g] at q; exact q.elim
  | true =>
    rw [g] at q
    refine ⟨p, p2, vs, ws, rfl, by rw [e2], s _ _ hH, hp2, by rw [r.length, rv.length]; exact big_line g, ?_⟩
    exact q _ _ _ _ (A'.put hG hσ hp (All2.append (r.mono join_l) (All2.imp (fun _ _ z => Enc.mono (join_r (A.ext.sub.trans s) (tups_le H')) (Imm.imm z)) rv)))
end
end G

namespace G
open PySem PySem.Spec PyProof.Rows L2
section
variable {X : Cx} {W : WX} {ss : List Slot} {pos : Pos} {a b e : Expr} {es : List Expr}
structure Sm (X : Cx) (r : V → List V → Hp → VK → Prop) {A R : Type} [EncA A] [Enc R] (g : Str → A → Res R) : Prop where
  op : ∀ (z : Str) (x : A) (vs : List V) (H : Hp) (Q : VK), EncA.rep X.K H vs x → okR (g z x) (fun c => ∀ v' H', Same H H' → Enc.rep X.K H' v' c → Q v' H') → r (.str z) vs H Q
  nx : ∀ z x, NoX (g z x)
theorem c_sum : Bc X (rSum X.K) (fun x : List Int × Unit => Res.ok x.1.sum) := ⟨fun x vs H Q h q => by
  obtain ⟨xs, u⟩ := x
  obtain ⟨v, r, e1, ⟨p, ws, e2, hp, rv⟩, e3⟩ := h
  have e3 : r = [] := e3
  subst e1; subst e2; subst e3
  have ew : ws = xs.map V.int := All2.map_eq rv
  subst ew
  exact ⟨p, xs, rfl, SqL.of hp, q _ H (Same.refl H) rfl⟩, fun _ => noX_ok⟩
def maxL : List Int → Int
  | [] => 0
  | a :: as => as.foldl max a
def minL : List Int → Int
  | [] => 0
  | a :: as => as.foldl min a
end
end G

namespace G
open PySem PySem.Spec PyProof.Rows L2
class DKK (κ : Type) [Enc κ] [DecidableEq κ] [DK κ] where
  f : κ → Key
  inj : ∀ a b, f a = f b → a = b
  ho : ∀ kvs : List (κ × V), DK.ho kvs = hoK f kvs
  rep : ∀ {K : Frag} {H : Hp} {v : V} {k : κ}, Enc.rep K H v k → v = kV (f k)
instance : DKK Int := ⟨.inl, fun _ _ e => Sum.inl.inj e, fun _ => rfl, fun h => h⟩
instance : DKK Str := ⟨.inr, fun _ _ e => Sum.inr.inj e, fun _ => rfl, fun h => h⟩
def dofL {κ β : Type} [DecidableEq κ] (kvs : List (κ × β)) : Dic κ β := kvs.foldl (fun d kv => dput d kv.1 kv.2) ⟨[]⟩
section
variable {X : Cx} {W : WX} {ss : List Slot} {pos : Pos} {κ β : Type} [Enc κ] [DecidableEq κ] [DK κ] [DKK κ] [Enc β]
def XPP (X : Cx) (W : WX) (ss : List Slot) (pos : Pos) (keys : List (Option Expr)) (values : List Expr) (m : Res (List (κ × β))) : Prop :=
  ∃ trs, PPs X pos keys values trs ∧ ∀ σ H F Q, Same F H → Sl X.K F H ss σ → wpR X W m σ H (fun kvs => ∀ ps H' F', kvs.length = keys.length → Same H H' → Ext F H F' H' → All2 (fun (p : V × V) (kv : κ × β) => p.1 = kV (DKK.f kv.1) ∧ Enc.rep X.K F' p.2 kv.2) ps kvs → Q ps H') → tPairs trs σ H Q
end
end G

namespace G
open PySem PySem.Spec PyProof.Rows L2
section
variable {X : Cx} {W : WX} {ss : List Slot} {pos : Pos} {a b e : Expr} {es : List Expr}
def tListR (tr : L2.St → Hp → (Int → Int → Hp → Prop) → Prop) : TE := fun σ H Q => tr σ H fun a b H1 => -(2 ^ 62) ≤ a ∧ a < 2 ^ 62 ∧ -(2 ^ 62) ≤ b ∧ b < 2 ^ 62 ∧ (b - a).toNat ≤ 1000000 ∧ ∀ p, H1 p = none → Q (.ref p) (upd H1 p (.lst ((rangeL a (b - a).toNat).map V.int)))
def inS (x y : Str) : Bool := !(Builtin.Str.occurrences y x 0 y.length 1).isEmpty
def setR {α : Type} (xs : List α) (k : Int) (a : α) : Res (List α) := match ixN xs.length k with
  | some n => .ok (xs.set n a)
  | none => .stuck
theorem s1_setI (i : Nat) {α : Type} [Enc α] {as : List α} {m : Res α} {mk : Res Int} {x : Str} {p tpos : Pos} (h : XK X W ss e m fr) (hk : XI X W ss a mk) (hs : ss[i]? = some (ow as) := by rfl) (hp : PE X (.Name x p) (tVar i) := by exact pv _)
    (hg : PG X (.Subscript (.Name x p) a tpos) (gSub (tVar i) (rI X W ss mk) rSetL)) (hsw : swapsWithSole [.Subscript (.Name x p) a tpos] e pos.line X.env = pure false := by rfl) (hw : swappedStores [.Subscript (.Name x p) a tpos] e X.env = pure none := by rfl)
    (h1 : (assignEach [.Subscript (.Name x p) a tpos] X.env).map (·.2) = [assign (.Subscript (.Name x p) a tpos) X.env] := by rfl) :
    S1 X W ss (.Assign [.Subscript (.Name x p) a tpos] e pos) (m.bind fun v => mk.bind fun k => setR as k v) (fun as' => ss.set i (ow as')) := by
  refine PS_imp (ps_asg h hg hsw hw h1) fun D σ H ⟨B, F0, F, Gs, A, q⟩ => ⟨F, A.ext.sub, A.sl, wpS_R (wpS_bind q) A.base fun v q v' H1 F1 G1 s1 ex1 _ ⟨v2, e1, rv⟩ => ?_⟩
  cases e1
  have A1 := A.grow s1 ex1
  obtain ⟨G, p, vs, hG, hσ, hp, r⟩ := all3_ow A1.all hs
  refine ⟨.ref p, hσ, A1.sl.mono A1.ext.sub (Same.refl H1), wpS_R (wpS_bind q) A1.base fun k q y H2 s2 rk => ?_⟩
  have A2 := A1.grow s2 (F' := F1) ⟨Same.refl F1, A1.ext.sub.trans s2, fun _ _ h => .inl h⟩
  have hH := A2.sub G (List.mem_of_getElem? hG) _ _ hp
  unfold setR at q
  cases en : ixN as.length k with
  | none => rw [en] at q; exact q.elim
  | some n =>
    rw [en] at q
    refine ⟨p, vs, k, n, rfl, rk, hH, by rw [r.length]; exact en, ?_⟩
    exact q _ _ _ _ (A2.put hG hσ hp (r.set n rv))
end
end G

namespace G
open PySem PySem.Spec PyProof.Rows L2
inductive Dy where
  | non | bl (b : Bool) | int (i : Int) | str (s : Str) | lst (xs : List Dy) | tup (xs : List Dy) | dic | dc
instance : Inhabited Dy := ⟨.non⟩
mutual
def dyEq : Dy → Dy → Bool
  | .non, .non => true
  | .bl a, .bl b => decide (a = b)
  | .int a, .int b => decide (a = b)
  | .str a, .str b => decide (a = b)
  | .lst a, .lst b => dyEqs a b
  | .tup a, .tup b => dyEqs a b
  | .dic, .dic => true
  | .dc, .dc => true
  | _, _ => false
def dyEqs : List Dy → List Dy → Bool
  | [], [] => true
  | a :: as, b :: bs => dyEq a b && dyEqs as bs
  | _, _ => false
end
mutual
theorem dyEq_iff : ∀ a b : Dy, dyEq a b = true ↔ a = b
  | .non, b => by cases b <;> simp [dyEq]
  | .bl a, b => by cases b <;> simp [dyEq]
  | .int a, b => by cases b <;> simp [dyEq]
  | .str a, b => by cases b <;> simp [dyEq]
  | .dic, b => by cases b <;> simp [dyEq]
  | .dc, b => by cases b <;> simp [dyEq]
  | .lst a, .lst b => by simp only [dyEq, dyEqs_iff a b, Dy.lst.injEq]
  | .tup a, .tup b => by simp only [dyEq, dyEqs_iff a b, Dy.tup.injEq]
  | .lst a, .non => by simp [dyEq]
  | .lst a, .bl _ => by simp [dyEq]
  | .lst a, .int _ => by simp [dyEq]
  | .lst a, .str _ => by simp [dyEq]
  | .lst a, .tup _ => by simp [dyEq]
  | .lst a, .dic => by simp [dyEq]
  | .lst a, .dc => by simp [dyEq]
  | .tup a, .non => by simp [dyEq]
  | .tup a, .bl _ => by simp [dyEq]
  | .tup a, .int _ => by simp [dyEq]
  | .tup a, .str _ => by simp [dyEq]
  | .tup a, .lst _ => by simp [dyEq]
  | .tup a, .dic => by simp [dyEq]
  | .tup a, .dc => by simp [dyEq]
theorem dyEqs_iff : ∀ a b : List Dy, dyEqs a b = true ↔ a = b
  | [], [] => by simp [dyEqs]
  | [], _ :: _ => by simp [dyEqs]
  | _ :: _, [] => by simp [dyEqs]
  | a :: as, b :: bs => by simp only [dyEqs, Bool.and_eq_true, dyEq_iff a b, dyEqs_iff as bs, List.cons.injEq]
end
instance : DecidableEq Dy := fun a b => if h : dyEq a b = true then .isTrue ((dyEq_iff a b).mp h) else .isFalse fun e => h ((dyEq_iff a b).mpr e)
mutual
inductive DyR (K : Frag) (H : Hp) : V → Dy → Prop
  | non : DyR K H .non .non
  | bl (b : Bool) : DyR K H (.bl b) (.bl b)
  | int (i : Int) : DyR K H (.int i) (.int i)
  | str (x : Str) : DyR K H (.str x) (.str x)
  | lst {p : Addr} {vs : List V} {xs : List Dy} : H p = some (.lst vs) → DyA K H vs xs → DyR K H (.ref p) (.lst xs)
  | tup {p : Addr} {vs : List V} {xs : List Dy} : SqT K H p vs → DyA K H vs xs → DyR K H (.ref p) (.tup xs)
  | dic {p : Addr} : H p = some (.dK []) → DyR K H (.ref p) .dic
  | dc {p : Addr} {d : List (Key × V)} : H p = some (.dK d) → DyR K H (.ref p) .dc
inductive DyA (K : Frag) (H : Hp) : List V → List Dy → Prop
  | nil : DyA K H [] []
  | cons {v : V} {vs : List V} {d : Dy} {ds : List Dy} : DyR K H v d → DyA K H vs ds → DyA K H (v :: vs) (d :: ds)
end
mutual
theorem DyR.mono {K : Frag} {H H' : Hp} (s : Same H H') : ∀ {v : V} {d : Dy}, DyR K H v d → DyR K H' v d
  | _, _, .non => .non
  | _, _, .bl b => .bl b
  | _, _, .int i => .int i
  | _, _, .str x => .str x
  | _, _, .lst h r => .lst (s _ _ h) (DyA.mono s r)
  | _, _, .tup h r => .tup (seqT s h) (DyA.mono s r)
  | _, _, .dic h => .dic (s _ _ h)
  | _, _, .dc h => .dc (s _ _ h)
theorem DyA.mono {K : Frag} {H H' : Hp} (s : Same H H') : ∀ {vs : List V} {ds : List Dy}, DyA K H vs ds → DyA K H' vs ds
  | _, _, .nil => .nil
  | _, _, .cons h t => .cons (DyR.mono s h) (DyA.mono s t)
end
instance : Enc Dy := ⟨fun K H v d => DyR K H v d, fun s h => h.mono s⟩
theorem dya_all2 {K : Frag} {H : Hp} : ∀ {vs : List V} {ds : List Dy}, DyA K H vs ds → All2 (fun v (d : Dy) => Enc.rep K H v d) vs ds
  | _, _, .nil => trivial
  | _, _, .cons h t => ⟨h, dya_all2 t⟩
theorem all2_dya {α : Type} [Enc α] {f : α → Dy} {K : Frag} {H : Hp} (hf : ∀ v a, Enc.rep K H v a → DyR K H v (f a)) : ∀ {vs : List V} {as : List α}, All2 (fun v a => Enc.rep K H v a) vs as → DyA K H vs (as.map f)
  | [], [], _ => .nil
  | _ :: _, _ :: _, ⟨h, t⟩ => .cons (hf _ _ h) (all2_dya hf t)
  | [], _ :: _, h => h.elim
  | _ :: _, [], h => h.elim
class ToDy (α : Type) [Enc α] where
  dy : α → Dy
  rep : ∀ {K : Frag} {H : Hp} {v : V} {a : α}, Enc.rep K H v a → DyR K H v (dy a)
instance : ToDy Dy := ⟨id, fun h => h⟩
instance : ToDy Int := ⟨.int, fun h => by rw [show _ = V.int _ from h]; exact .int _⟩
instance : ToDy Bool := ⟨.bl, fun h => by rw [show _ = V.bl _ from h]; exact .bl _⟩
instance : ToDy Str := ⟨.str, fun h => by rw [show _ = V.str _ from h]; exact .str _⟩
instance : ToDy Unit := ⟨fun _ => .non, fun h => by rw [show _ = V.non from h]; exact .non⟩
instance {α : Type} [Enc α] [ToDy α] : ToDy (Option α) := ⟨fun o => match o with | none => .non | some a => ToDy.dy a, fun {K H v o} h => by
  cases o with
  | none => rw [show v = V.non from h]; exact .non
  | some a => exact ToDy.rep h.2⟩
instance {α : Type} [Enc α] [ToDy α] : ToDy (List α) := ⟨fun as => .lst (as.map ToDy.dy), fun ⟨p, vs, e, h, r⟩ => by rw [e]; exact .lst h (all2_dya (fun _ _ h => ToDy.rep h) r)⟩
instance {α : Type} [Enc α] [ToDy α] : ToDy (Tup α) := ⟨fun as => .tup (as.l.map ToDy.dy), fun ⟨p, vs, e, h, r⟩ => by rw [e]; exact .tup h (all2_dya (fun _ _ h => ToDy.rep h) r)⟩
instance {α β : Type} [Enc α] [Enc β] [ToDy α] [ToDy β] : ToDy (α × β) := ⟨fun x => .tup [ToDy.dy x.1, ToDy.dy x.2], fun ⟨p, v1, v2, e, h, r1, r2⟩ => by rw [e]; exact .tup (SqT.of h) (.cons (ToDy.rep r1) (.cons (ToDy.rep r2) .nil))⟩
instance {α β γ : Type} [Enc α] [Enc β] [Enc γ] [ToDy α] [ToDy β] [ToDy γ] : ToDy (T3 α β γ) := ⟨fun x => .tup [ToDy.dy x.a, ToDy.dy x.b, ToDy.dy x.c], fun ⟨p, v1, v2, v3, e, h, r1, r2, r3⟩ => by
  rw [e]; exact .tup (SqT.of h) (.cons (ToDy.rep r1) (.cons (ToDy.rep r2) (.cons (ToDy.rep r3) .nil)))⟩
def dyI : Dy → Res Int | .int i => .ok i | _ => .stuck
def dyB : Dy → Res Bool | .bl i => .ok i | _ => .stuck
def dyS : Dy → Res Str | .str i => .ok i | _ => .stuck
def dyL : Dy → Res (List Dy) | .lst xs => .ok xs | _ => .stuck
def dyT : Dy → Res (Tup Dy) | .tup xs => .ok ⟨xs⟩ | _ => .stuck
section
variable {X : Cx} {W : WX} {ss : List Slot} {pos : Pos} {a b e : Expr} {es : List Expr}
structure Cast {β : Type} [Enc β] (c : Dy → Res β) : Prop where
  rep : ∀ {K : Frag} {H : Hp} {v : V} {d : Dy} {b : β}, c d = .ok b → DyR K H v d → Enc.rep K H v b
  nox : ∀ d, NoX (c d)
def dyTy : Dy → String
  | .non => "NoneType"
  | .bl _ => "bool"
  | .int _ => "int"
  | .str _ => "str"
  | .lst _ => "list"
  | .tup _ => "tuple"
  | .dic => "dict"
  | .dc => "dict"
def dyIs (T : String) (d : Dy) : Bool := dyTy d == T || (dyTy d == "bool" && T == "int")
structure IsT (T : String) : Prop where
  ok : ∀ d, kitB (dyTy d) T = some (dyIs T d)
def tyNames : List String := ["NoneType", "bool", "int", "str", "list", "tuple", "dict"]
def dyNon : Dy → Bool | .non => true | _ => false
def dyLen : Dy → Res Int
  | .lst xs => .ok (xs.length : Int)
  | .tup xs => .ok (xs.length : Int)
  | .str x => strLen x
  | _ => .stuck
end
end G

namespace G
open PySem PySem.Spec PyProof.Rows L2
section
variable {X : Cx} {W : WX} {ss : List Slot} {pos : Pos} {a b c e : Expr} {es : List Expr}
def dyIx (d : Dy) (i : Int) : Res Dy := match d with
  | .lst xs => idx xs i
  | .tup xs => idx xs i
  | .str x => (strIx x i).bind fun s => .ok (.str s)
  | _ => .stuck
def rL (X : Cx) (W : WX) {α : Type} [Enc α] (ss : List Slot) (m : Res (List α)) : TE := fun σ H Q =>
  ∃ F, Same F H ∧ Sl X.K F H ss σ ∧ wpR X W m σ H fun as => ∀ p vs H' F', Same H H' → Ext F H F' H' → H' p = some (.lst vs) → All2 (fun v a => Enc.rep X.K F' v a) vs as → Q (.ref p) H'
def XL (X : Cx) (W : WX) {α : Type} [Enc α] (ss : List Slot) (e : Expr) (m : Res (List α)) : Prop := PE X e (rL X W ss m)
def tChain3 (r r' r'' : R2) (ta tb tc td : TE) : TE := fun σ H Q => ta σ H fun x H1 => tb σ H1 fun y H2 => r x y H2 fun z H3 => ∃ k, z = .bl k ∧ (if k = true then tc σ H3 fun w H4 => r' y w H4 fun z' H5 => ∃ k', z' = .bl k' ∧ (if k' = true then td σ H5 fun u H6 => r'' w u H6 Q else Q (.bl false) H5) else Q (.bl false) H3)
structure GInt (mg : Str → Option Value) (x : Str) (i : Int) : Prop where
  ex : ∃ t, mg x = some (.int i t)
structure GTup (K : Frag) (mg : Str → Option Value) (x : Str) {α : Type} [Enc α] (as : Tup α) : Prop where
  ex : ∃ p vs, mg x = some (.ref p) ∧ (∀ H, SqT K H p vs) ∧ ∀ H, All2 (fun v a => Enc.rep K H v a) vs as.l
theorem xi_gint {x : Str} {i : Int} (h : GInt X.mg x i) (hg : Gl X x := by rfl) (hd : (x == ("__debug__" : Str)) = false := by decide) : XI X W ss (.Name x pos) (.ok i) := by
  obtain ⟨t, hm⟩ := h.ex
  exact xi_const (pe_glob hg hm (v := .int i) ⟨t, rfl⟩ hd) fun _ _ => rfl
end
end G

namespace G
open PySem PySem.Spec PyProof.Rows L2
mutual
def dyPy : Dy → PyData
  | .non => .none
  | .bl b => .bool b
  | .int i => .int i
  | .str x => .str x
  | .lst xs => .list (dyPys xs)
  | .tup xs => .tuple (dyPys xs)
  | .dic => .dict []
  | .dc => .dict []
def dyPys : List Dy → List PyData
  | [] => []
  | a :: as => dyPy a :: dyPys as
end
mutual
def noDic : Dy → Bool
  | .lst xs => noDics xs
  | .tup xs => noDics xs
  | .dic => false
  | .dc => false
  | _ => true
def noDics : List Dy → Bool
  | [] => true
  | a :: as => noDic a && noDics as
end
mutual
def dyDep : Dy → Nat
  | .lst xs => dyDeps xs + 1
  | .tup xs => dyDeps xs + 1
  | .dic => 1
  | .dc => 61
  | _ => 0
def dyDeps : List Dy → Nat
  | [] => 0
  | a :: as => max (dyDep a) (dyDeps as)
end
mutual
theorem dy_dp {K : Frag} {H : Hp} : ∀ {d : Dy} {v : V}, noDic d = true → DyR K H v d → Dp K H v (dyPy d)
  | .non, _, _, h => by cases h; simp only [dyPy]; exact .non
  | .bl b, _, _, h => by cases h; simp only [dyPy]; exact .bl b
  | .int i, _, _, h => by cases h; simp only [dyPy]; exact .int i
  | .str x, _, _, h => by cases h; simp only [dyPy]; exact .str x
  | .lst xs, _, n, h => by
    cases h with
    | lst h r => simp only [dyPy]; simp only [noDic] at n; exact .lst (SqL.of h) (dy_dps n r)
  | .tup xs, _, n, h => by
    cases h with
    | tup h r => simp only [dyPy]; simp only [noDic] at n; exact .tup h (dy_dps n r)
  | .dic, _, n, _ => by simp [noDic] at n
  | .dc, _, n, _ => by simp [noDic] at n
theorem dy_dps {K : Frag} {H : Hp} : ∀ {ds : List Dy} {vs : List V}, noDics ds = true → DyA K H vs ds → DpAll K H vs (dyPys ds)
  | [], _, _, h => by cases h; simp only [dyPys]; exact .nil
  | d :: ds, _, n, h => by
    cases h with
    | cons h r =>
      simp only [noDics, Bool.and_eq_true] at n
      simp only [dyPys]
      exact .cons (dy_dp n.1 h) (dy_dps n.2 r)
end
section
variable {X : Cx} {pins : List (Addr × Obj)} {σ : L2.St} {H : Hp} {s : Shared}
open PySem.SeqAt (EqAt RcAt RcNeAt)
theorem vals_get {vs : List V} {us : List Value} (r : Vals vs us) {j : Nat} (h : j < us.length) : ∃ v, vs[j]? = some v ∧ RelV v us[j] := by
  have hl : j < vs.length := by rw [r.length]; exact h
  obtain ⟨u, hu, ru⟩ := r.get (List.getElem?_eq_getElem hl)
  rw [List.getElem?_eq_getElem h] at hu
  cases hu
  exact ⟨_, List.getElem?_eq_getElem hl, ru⟩
theorem dict0_any {P P' : Program} {w w' : World} {h : Heap} {a : Addr} (d : h.DictOf (mixKind P w) a []) : h.DictOf (mixKind P' w') a [] := by
  obtain ⟨o, es, ep, ho, ex, hd, hk, hp, nd⟩ := d
  have e : es.toList = [] := by cases h : es.toList with
    | nil => rfl
    | cons a l => rw [h] at hp; cases hp
  have e : es = #[] := by cases es; simpa using e
  subst e
  exact ⟨o, #[], ep, ho, ex, hd, by intro i h; simp at h, .nil, .nil⟩
def Alike (s : Shared) (n : Nat) (u u' : Value) : Prop := ∀ A : Around, A.units + n < cLine → EqAt A s u u' true
theorem alike_lists {n : Nat} {l l' : Addr} {vs vs' : List Value} (hl : s.heap.IsList l vs.toArray) (hl' : s.heap.IsList l' vs'.toArray) (hsz : vs.length = vs'.length) (h : ∀ j (h1 : j < vs.length) (h2 : j < vs'.length), Alike s n vs[j] vs'[j]) {A : Around} (hu : A.units + (n + 1) < cLine) :
    RcAt A s (.ref l) (.ref l') true ∧ RcNeAt A s (.ref l) (.ref l') false := by
  have he : ∀ j (h1 : j < vs.toArray.size) (h2 : j < vs'.toArray.size), EqAt A.in1 s vs.toArray[j] vs'.toArray[j] ((fun _ => true) j) := fun j h1 h2 => by
    have := h j (by simpa using h1) (by simpa using h2) A.in1 (by show A.units + 1 + n < cLine; omega)
    simpa using this
  have z : ((List.range vs.toArray.size).all fun _ => true) = true := List.all_eq_true.mpr fun _ _ => rfl
  refine ⟨?_, ?_⟩
  · have := RcAt.lists hl hl' (by simpa using hsz) (by omega) he
    rwa [z] at this
  · have := RcNeAt.lists hl hl' (by simpa using hsz) (by omega) he
    rwa [z] at this
theorem alike_tuples {n : Nat} {l l' : Addr} {vs vs' : List Value} (hl : s.heap.IsTuple l vs.toArray) (hl' : s.heap.IsTuple l' vs'.toArray) (hsz : vs.length = vs'.length) (h : ∀ j (h1 : j < vs.length) (h2 : j < vs'.length), Alike s n vs[j] vs'[j]) {A : Around} (hu : A.units + (n + 1) < cLine) :
    RcAt A s (.ref l) (.ref l') true ∧ RcNeAt A s (.ref l) (.ref l') false := by
  have he : ∀ j (h1 : j < vs.toArray.size) (h2 : j < vs'.toArray.size), EqAt A.in1 s vs.toArray[j] vs'.toArray[j] ((fun _ => true) j) := fun j h1 h2 => by
    have := h j (by simpa using h1) (by simpa using h2) A.in1 (by show A.units + 1 + n < cLine; omega)
    simpa using this
  have z : (((List.range (min vs.toArray.size vs'.toArray.size)).all fun _ => true) && vs.toArray.size == vs'.toArray.size) = true := by
    rw [List.all_eq_true.mpr fun _ _ => rfl]; simpa using hsz
  refine ⟨?_, ?_⟩
  · have := RcAt.tuples hl hl' (by omega) he
    rwa [z] at this
  · have := RcNeAt.tuples hl hl' (by omega) he
    rwa [z] at this
mutual
theorem dy_same (I : Inv X pins σ H s) : ∀ (d : Dy) (v v' : V) (u u' : Value) (n : Nat), DyR X.K H v d → DyR X.K H v' d → RelV v u → RelV v' u' → dyDep d ≤ n → n ≤ 60 → Alike s n u u'
  | .non, _, _, u, u', n, h, h', r, r', _, _ => by
    cases h; cases h'
    have r : u = .none := r
    have r' : u' = .none := r'
    subst r; subst r'; exact fun A _ => EqAt.same _
  | .bl b, _, _, u, u', n, h, h', r, r', _, _ => by
    cases h; cases h'
    have r : u = .bool b := r
    have r' : u' = .bool b := r'
    subst r; subst r'; exact fun A _ => EqAt.same _
  | .int i, _, _, u, u', n, h, h', r, r', _, _ => by
    cases h; cases h'
    obtain ⟨t, rfl⟩ := (show ∃ t, u = Value.int i t from r)
    obtain ⟨t', rfl⟩ := (show ∃ t, u' = Value.int i t from r')
    intro A _
    have := EqAt.int_int (A := A) (s := s) i t i t'
    rwa [show (i == i) = true from beq_self_eq_true i] at this
  | .str x, _, _, u, u', n, h, h', r, r', _, _ => by
    cases h; cases h'
    obtain ⟨t, rfl⟩ := (show ∃ t, u = Value.str x t from r)
    obtain ⟨t', rfl⟩ := (show ∃ t, u' = Value.str x t from r')
    intro A _
    have := EqAt.str_str (A := A) (s := s) x t x t'
    rwa [show (x == x) = true from beq_self_eq_true x] at this
  | .lst xs, _, _, u, u', n, h, h', r, r', hn, h6 => by
    intro A hu
    cases h with
    | @lst p vs _ h ha =>
    cases h' with
    | @lst p' vs' _ h' ha' =>
    cases r; cases r'
    by_cases e : p = p'
    · subst e; exact EqAt.same _
    · simp only [dyDep] at hn
      obtain ⟨m, rfl⟩ : ∃ m, n = m + 1 := ⟨n - 1, by omega⟩
      obtain ⟨its, r1, p1, _⟩ := I.list (SqL.of h)
      obtain ⟨its', r2, p2, _⟩ := I.list (SqL.of h')
      have l1 := (dya_all2 ha).length
      have l2 := (dya_all2 ha').length
      have l3 := r1.length
      have l4 := r2.length
      exact EqAt.of_refs e (alike_lists (n := m) p1.isList p2.isList (by omega) (fun j h1 h2 => by
        obtain ⟨v, hv, rv⟩ := vals_get r1 h1
        obtain ⟨v', hv', rv'⟩ := vals_get r2 h2
        exact dy_sames I xs vs vs' j v v' _ _ m ha ha' hv hv' rv rv' (by omega) (by omega)) hu).1
  | .tup xs, _, _, u, u', n, h, h', r, r', hn, h6 => by
    intro A hu
    cases h with
    | @tup p vs _ h ha =>
    cases h' with
    | @tup p' vs' _ h' ha' =>
    cases r; cases r'
    by_cases e : p = p'
    · subst e; exact EqAt.same _
    · simp only [dyDep] at hn
      obtain ⟨m, rfl⟩ : ∃ m, n = m + 1 := ⟨n - 1, by omega⟩
      obtain ⟨its, r1, p1, _⟩ := I.tuple h
      obtain ⟨its', r2, p2, _⟩ := I.tuple h'
      have l1 := (dya_all2 ha).length
      have l2 := (dya_all2 ha').length
      have l3 := r1.length
      have l4 := r2.length
      exact EqAt.of_refs e (alike_tuples (n := m) p1 p2 (by omega) (fun j h1 h2 => by
        obtain ⟨v, hv, rv⟩ := vals_get r1 h1
        obtain ⟨v', hv', rv'⟩ := vals_get r2 h2
        exact dy_sames I xs vs vs' j v v' _ _ m ha ha' hv hv' rv rv' (by omega) (by omega)) hu).1
  | .dic, _, _, u, u', n, h, h', r, r', hn, h6 => by
    intro A hu
    cases h with
    | @dic p h =>
    cases h' with
    | @dic p' h' =>
    cases r; cases r'
    by_cases e : p = p'
    · subst e; exact EqAt.same _
    · simp only [dyDep] at hn
      obtain ⟨_, y1, vs1, k1, d1⟩ := dk_of I.hok h
      obtain ⟨_, y2, vs2, k2, d2⟩ := dk_of I.hok h'
      have e1 : vs1 = [] := List.eq_nil_of_length_eq_zero (by rw [← k1.length]; rfl)
      have e2 : vs2 = [] := List.eq_nil_of_length_eq_zero (by rw [← k2.length]; rfl)
      subst e1; subst e2
      refine EqAt.of_refs e fun P w E Q q => ?_
      exact PySem.W.keq_eqIn (knd := mixKind P w) (r := true) y1 y2 (dict0_any d1) (dict0_any d2) (by omega) (fun _ => .nil) q
  | .dc, _, _, u, u', n, h, h', r, r', hn, h6 => by
    simp only [dyDep] at hn; omega
theorem dy_sames (I : Inv X pins σ H s) : ∀ (ds : List Dy) (vs vs' : List V) (j : Nat) (v v' : V) (u u' : Value) (n : Nat), DyA X.K H vs ds → DyA X.K H vs' ds → vs[j]? = some v → vs'[j]? = some v' → RelV v u → RelV v' u' → dyDeps ds ≤ n → n ≤ 60 → Alike s n u u'
  | [], _, _, j, v, v', u, u', n, h, h', e, e', r, r', hn, h6 => by cases h; simp at e
  | d :: ds, _, _, 0, v, v', u, u', n, h, h', e, e', r, r', hn, h6 => by
    cases h with
    | cons h _ =>
    cases h' with
    | cons h' _ =>
    simp only [dyDeps] at hn
    cases e; cases e'
    exact dy_same I d _ _ u u' n h h' r r' (by omega) h6
  | d :: ds, _, _, j + 1, v, v', u, u', n, h, h', e, e', r, r', hn, h6 => by
    cases h with
    | cons _ h =>
    cases h' with
    | cons _ h' =>
    simp only [dyDeps] at hn
    exact dy_sames I ds _ _ j v v' u u' n h h' e e' r r' (by omega) h6
end
end
section
variable {X : Cx}
def rSame (K : Frag) (eq : Bool) : R2 := fun x y H Q => ∃ d, DyR K H x d ∧ DyR K H y d ∧ dyDep d ≤ 60 ∧ Q (.bl eq) H
def eqDy (d e : Dy) : Res Bool := if d = e ∧ dyDep d ≤ 60 then .ok true else guardR (noDic d && noDic e && SeqAt.shaped (dyPy d) && SeqAt.shaped (dyPy e)) (.ok (PyData.eqv (dyPy d) (dyPy e)))
def neDy (d e : Dy) : Res Bool := if d = e ∧ dyDep d ≤ 60 then .ok false else guardR (noDic d && noDic e && SeqAt.shaped (dyPy d) && SeqAt.shaped (dyPy e)) (.ok (!PyData.eqv (dyPy d) (dyPy e)))
end
end G

namespace G
open PySem PySem.Spec PyProof.Rows L2
def repS (x : Str) (k : Int) : Str := ⟨((List.replicate k.toNat x.cps.toList).flatten).toArray⟩
def mulS (x : Str) (k : Int) : Res Str := guardR (decide (0 ≤ k) && decide (k ≤ 1000000) && big (x.length * k.toNat)) (.ok (repS x k))
structure I2 where
  a : Int
  b : Int
instance : Enc I2 := ⟨fun K H v x => ∃ p, v = .ref p ∧ SqT K H p [.int x.a, .int x.b], fun s ⟨p, e, h⟩ => ⟨p, e, seqT s h⟩⟩
def dyI2 : Dy → Res I2 | .tup [.int a, .int b] => .ok ⟨a, b⟩ | _ => .stuck
def rGeT (K : Frag) : R2 := fun x y H Q => ∃ (a b : Addr) (i j k l : Int), x = .ref a ∧ y = .ref b ∧ SqT K H a [.int i, .int j] ∧ SqT K H b [.int k, .int l] ∧ Q (.bl (leP (k, l) (i, j))) H
section
variable {X : Cx} {W : WX} {ss : List Slot} {pos : Pos} {a b c e : Expr} {es : List Expr}
end
theorem gint_mk {K : Frag} {mg : PySem.Str → Option Value} {h : Heap} {x : PySem.Str} {i : Int} {t : Tok} (X : K.In h) (G : h.Ns mainGlobals mg) (a : PySem.W.nsIn K mainGlobals x = some (some (.int i t))) : GInt mg x i := ⟨t, PySem.W.mg_of X G a⟩
end G

namespace G
open PySem PySem.Spec PyProof.Rows L2
section
variable {X : Cx}
variable {W : WX} {ss : List Slot} {pos : Pos} {a : Expr}
def listS (x : Str) : Res (List Str) := guardR (big x.length) (.ok (signsOf x))
end
end G

namespace G
open PySem PySem.Spec PyProof.Rows L2
def rangeC (lo c : Int) (n : Nat) : List Int := (List.range n).map fun (i : Nat) => lo + (i : Int) * c
def range3 (i j c : Int) : Res (List Int) := guardR (decide (c ≠ 0) && decide (c.natAbs < 1073741824) && Builtin.Range.small i j c && decide (0 ≤ Builtin.Range.rangeSize i j c)) (.ok (rangeC i c (Builtin.Range.rangeSize i j c).toNat))
section
variable {X : Cx} {W : WX} {ss : List Slot} {tg : Expr}
end
end G
namespace G
open PySem PySem.Spec PyProof.Rows L2
def cutC {α : Type} (xs : List α) (lo hi : Option Int) (c : Int) : List α :=
  (sliceRange (sliceBounds lo hi (some c) xs.length).1 (sliceBounds lo hi (some c) xs.length).2.1 (sliceBounds lo hi (some c) xs.length).2.2).filterMap (xs[·]?)
section
variable {X : Cx}
def tSlC (K : Frag) (c : Int) (te : TE) (tl th : TO) : TE := fun σ H Q => te σ H fun x H1 => tl σ H1 fun l H2 => th σ H2 fun u H3 => ∃ a xs, x = .ref a ∧ SqL K H3 a xs ∧ (cutC xs l u c).length ≤ sizeLine ∧ ∀ p, H3 p = none → Q (.ref p) (upd H3 p (.lst (cutC xs l u c)))
variable {W : WX} {ss : List Slot} {pos : Pos} {a : Expr}
end
end G
namespace G
open PySem PySem.Spec PyProof.Rows L2
section
variable {X : Cx} {W : WX} {ss : List Slot} {sts : List Stmt}
end
end G

namespace G
open PySem PySem.Spec PyProof.Rows L2
section
variable {X : Cx} {W : WX} {ss : List Slot}
end
end G

namespace G
open PySem PySem.Spec PyProof.Rows L2
abbrev ETab := List (Str × Bool)
def lookB : ETab → Str → Option Bool
  | [], _ => none
  | (k, b) :: r, n => if n = k then some b else lookB r n
def noX {α : Type} : Res α → Res α
  | .ok a => .ok a
  | .exc _ => .stuck
  | .stuck => .stuck
abbrev Hds (β : Type) := List (ETab × (Exn → Res β))
def pickR {β : Type} (x : Exn) : Hds β → Res β
  | [] => .exc x
  | (t, M) :: r => match lookB t x.cls with
    | none => .stuck
    | some true => noX (M x)
    | some false => pickR x r
def catchR {β : Type} (m : Res β) (hs : Hds β) : Res β := match m with
  | .ok b => .ok b
  | .exc x => pickR x hs
  | .stuck => .stuck
def Pay.isNo : Pay → Bool
  | .no => true
  | _ => false
def isE (t : ETab) (x : Exn) : Res Bool := if x.pay.isNo = true then (match lookB t x.cls with
  | some b => .ok b
  | none => .stuck) else .stuck
def vB : List Value := [.type "ValueError", .type "Exception", .type "BaseException", .type "object"]
structure Cl (K : Frag) (mg : PySem.Str → Option Value) (n : Str) (C : Addr) : Prop where
  g : mg n = some (.ref C)
  k : PySem.W.keepIn K (.ref C) = true
  b : PySem.W.subIn K (.ref C) (.type "BaseException") = some true
  t : PySem.W.typeIn K (.ref C) = some (.type "type")
  i : PySem.W.isClsIn K C = true
  e : ExcC K C
  s : PySem.W.subIn K (.ref C) (.ref C) = some true
def HasCl (K : Frag) (mg : PySem.Str → Option Value) (n : Str) : Prop := ∃ C, Cl K mg n C ∧ PySem.W.excIn K C vB "ValueError.__new__" = true
def CTab (K : Frag) (mg : PySem.Str → Option Value) (y : Str) (tab : ETab) : Prop := ∃ Y, mg y = some (.ref Y) ∧ ∀ n b, lookB tab n = some b → ∃ C, mg n = some (.ref C) ∧ PySem.W.exmOne K (.ref C) (.ref Y) = some b
def ITab (K : Frag) (mg : PySem.Str → Option Value) (y : Str) (tab : ETab) : Prop := ∃ (v : V) (cv : Value), (mg y = some cv ∨ mg y = none ∧ bootBuiltins y = some cv ∧ y ≠ "__name__") ∧ RelV v cv ∧ (∀ u, RelV v u → u = cv) ∧ ∀ n b, lookB tab n = some b → ∃ C, mg n = some (.ref C) ∧ ExcC K C ∧ PySem.W.kitOne K (.ref C) cv = some b
section
variable {X : Cx} {W : WX} {ss : List Slot} {rest : List Stmt}
def tRs (X : Cx) (W : WX) (n : Str) : TS := fun _ σ H => ∀ cls, X.mg n = some cls → W cls none σ H
theorem ps_rs {n m : Str} {j : Nat} {p p2 pos pos' : Pos} (c : HasCl X.K X.mg n) (tk : Takes X W) (hc : X.calm = true := by rfl) (hg : Gl X n := by rfl) (hdb : (n == ("__debug__" : Str)) = false := by decide) :
    PS X (.Raise (some (.Call (.Name n p) [.Constant (.str m) j p2] [] pos)) none pos') (tRs X W n) := by
  obtain ⟨C, c, cx⟩ := c
  exact PS_imp (ps_raise hc tk (pmk_own PySem.F.excBase_ValueError cx c.g c.k (raises_own c.b c.t) hg hdb)) fun D σ H q => q _ c.g
theorem rs_core {n m : Str} {j : Nat} {p p2 pos pos' : Pos} (c : HasCl X.K X.mg n) (tk : Takes X W) (hc : X.calm = true := by rfl) (hg : Gl X n := by rfl) (hdb : (n == ("__debug__" : Str)) = false := by decide) :
    PSs X (.Raise (some (.Call (.Name n p) [.Constant (.str m) j p2] [] pos)) none pos' :: rest) (tRs X W n) :=
  rest_free (ps_rs c tk hc hg hdb) fun _ _ _ _ _ _ _ q => q
theorem rs_wish {n : Str} {B σ H} (q : EXS X W B ⟨n, .no⟩) (s : Same B H) : tRs X W n D σ H := fun cls e => q σ cls none H e s rfl
theorem sn_raise {S : Type} {post : S → List Slot} {n m : Str} {j : Nat} {p p2 pos pos' : Pos} (c : HasCl X.K X.mg n) (tk : Takes X W) (hc : X.calm = true := by rfl) (hg : Gl X n := by rfl) (hdb : (n == ("__debug__" : Str)) = false := by decide) :
    SN X W ss (.Raise (some (.Call (.Name n p) [.Constant (.str m) j p2] [] pos)) none pos' :: rest) (.exc ⟨n, .no⟩ : Res S) post :=
  PSs_imp (rs_core c tk hc hg hdb) fun D σ H ⟨B, F0, F, Gs, A, q⟩ => rs_wish q A.base
def outOk (X : Cx) {S L R : Type} (post : S → List Slot) (pl : L → List Slot) (kr : R → Slot) (D : Ends) (B F0 : Hp) : Out S L R → Prop
  | .nx s => NxOk X (post s) D B F0
  | .rt r => RtOk X kr r D B F0
  | .bk l => BkOk X (pl l) D B F0
  | .ct l => CtOk X (pl l) D B F0
def rdE (X : Cx) (W : WX) (ss : List Slot) {S L R : Type} (M : Res (Out S L R)) (post : S → List Slot) (pl : L → List Slot) (kr : R → Slot) : TS := fun D σ H =>
  ∃ B F0 F Gs, Asn X.K B F0 ss σ H F Gs ∧ wpR X W M σ H (outOk X post pl kr D B F0)
abbrev wNo : WX := fun _ _ _ _ => False
inductive HX (X : Cx) (ss : List Slot) {S L R : Type} (post : S → List Slot) (pl : L → List Slot) (kr : R → Slot) : List ExceptHandler → Hds (Out S L R) → Prop
  | nil : HX X ss post pl kr [] []
  | cons {y : Str} {tab : ETab} {M : Exn → Res (Out S L R)} {b₀ : Stmt} {suite : List Stmt} {np pos' : Pos} {hds : List ExceptHandler} {hs : Hds (Out S L R)} (c : CTab X.K X.mg y tab) (hg : Gl X y) (hdb : (y == ("__debug__" : Str)) = false)
      (h : ∀ (x : Exn) (a : Addr) (oe : Obj) (pn : List (Addr × Obj)), SB (X.suite a ((a, oe) :: pn)) wNo ss (b₀ :: suite) (M x) post pl kr) (r : HX X ss post pl kr hds hs) :
      HX X ss post pl kr (.ExceptHandler (some (.Name y np)) none (b₀ :: suite) pos' :: hds) ((tab, M) :: hs)
def tsX (X : Cx) (ss : List Slot) {S L R : Type} (M : Exn → Res (Out S L R)) (post : S → List Slot) (pl : L → List Slot) (kr : R → Slot) : Addr → Value → Option Addr → TS := fun _ cls d D σ H =>
  ∃ x : Exn, X.mg x.cls = some cls ∧ ∃ B F0 F Gs, Asn X.K B F0 ss σ H F Gs ∧ wpS X wNo (M x) B (outOk X post pl kr D B F0)
def exS (a : Addr) : Slot := ⟨fun _ _ _ o => o = some (.ref a), fun _ _ h => h⟩
end
end G

namespace G
open PySem PySem.Spec PyProof.Rows L2
def dyCut (d : Dy) (l u : Option Int) : Res Dy := match d with
  | .tup xs => .ok (.tup (cut xs l u))
  | _ => .stuck
section
variable {X : Cx} {W : WX} {ss : List Slot} {a : Expr} {pos : Pos}
end
end G
namespace G
open PySem PySem.Spec PyProof.Rows L2
def rCatQ (K : PySem.W.Frag) : R2 := fun x y H Q => ∃ l b xs zs, x = .ref l ∧ y = .ref b ∧ SqL K H l xs ∧ SqL K H b zs ∧ xs.length + zs.length ≤ sizeLine ∧ ∀ p, H p = none → Q (.ref p) (upd H p (.lst (xs ++ zs)))
section
variable {X : Cx} {W : WX} {ss : List Slot} {a b : Expr} {pos : Pos}
end
end G
namespace G
open PySem PySem.Spec PyProof.Rows L2
section
variable {X : Cx} {CX : CXT} {k : Nat} {f : Addr} {fd : FuncData} {ps : List Str} {sp : Sp} {E : L2.St → L2.XK} {dvs : List V} {ds : List Value} {x : Str} {p pos : Pos}
end
section
variable {X : Cx} {W : WX} {ss : List Slot} {k j : Nat} {x : Str} {A R : Type} [EncA A] {c : Unit → A} {g : A → Res R} {kr : R → Slot} {p pos : Pos}
end
end G

namespace G
open PySem PySem.Spec PyProof.Rows L2
def wT3 (K : PySem.W.Frag) (c1 c2 c3 : Value) (ts : Addr → Value → Option Addr → TS) (D : Ends) : L2.WX := fun cls d σ H => PySem.W.exmAny K cls [c1, c2, c3] = some true ∧ ∀ a, H a = none → ts a cls d D σ H
structure Lies (X : Cx) (pins : List (Addr × Obj)) (σ : L2.St) (H : Hp) (B : Heap) (a : Addr) (cls : Value) (d : Option Addr) (sI s : Shared) : Prop where
  before : Inv X pins σ H sI
  low : ∀ b o, sI.heap.get? b = some o → b ∉ frs X.stack → B.get? b = some o
  grew : sI.heap.UpToSlots s.heap
  air : HandSPX.FlyingZ B (X.env :: X.outer) a (Zc cls d) s.heap
  fresh : H a = none
  sys : s.os = sI.os
  gen : AllBare s.gens
section
variable {X : Cx} {pins : List (Addr × Obj)} {σ : L2.St} {H : Hp} {B : Heap} {a : Addr} {cls : Value} {d : Option Addr} {sI s : Shared}
theorem Lies.inv (l : Lies X pins σ H B a cls d sI s) : Inv X pins σ H s := l.before.landed l.low l.air.1 l.grew l.sys l.gen
theorem Lies.obj (l : Lies X pins σ H B a cls d sI s) : ∃ oe, s.heap.get? a = some oe ∧ Zc cls d oe ∧ ∃ vs, oe.data = .fields vs := by
  obtain ⟨oe, vs, q1, q2, q3⟩ := l.air.there
  exact ⟨oe, q1, q2, vs, q3⟩
theorem Lies.out (l : Lies X pins σ H B a cls d sI s) : a ∉ frs (X.env :: X.outer) := by
  intro inside
  obtain ⟨oe, q1, _, vs, q3⟩ := l.obj
  obtain ⟨_, o2, w1, w2⟩ := l.air.2.2.1.mem inside
  cases q1.symm.trans w1
  exact w2 _ q3
theorem Lies.notL (l : Lies X pins σ H B a cls d sI s) (hf : X.env.frame = some X.env.locals) : a ≠ X.env.locals := by
  intro z
  refine l.out (List.mem_filterMap.mpr ⟨X.env, List.mem_cons_self, ?_⟩)
  rw [hf, z]
theorem Lies.ground (l : Lies X pins σ H B a cls d sI s) {o : Obj} (e : sI.heap.get? a = some o) (hs : X.stack = X.env :: X.outer) : False := by
  have := l.low a o e (by rw [hs]; exact l.out)
  rw [l.air.2.1] at this
  cases this
theorem Lies.young (l : Lies X pins σ H B a cls d sI s) (hs : X.stack = X.env :: X.outer) (hex : X.ex = []) : X.s_0.heap.get? a = none := by
  cases e : X.s_0.heap.get? a
  · rfl
  · rename_i o
    obtain ⟨o', q⟩ := l.before.base.there a o e (hex ▸ List.not_mem_nil)
    exact (l.ground q hs).elim
theorem Lies.away (l : Lies X pins σ H B a cls d sI s) (hs : X.stack = X.env :: X.outer) : ∀ p ∈ X.pn ++ pins, p.1 ≠ a := by
  intro p m z
  have q := (l.before.pin p m).1
  rw [z] at q
  exact l.ground q hs
theorem Lies.up (l : Lies X pins σ H B a cls d sI s) {h : Heap} (fl : HandSPX.FlyingZ B (X.env :: X.outer) a (Zc cls d) h) (g : s.heap.UpToSlots h) : Lies X pins σ H B a cls d sI { s with heap := h } :=
  ⟨l.before, l.low, l.grew.trans g, fl, l.fresh, l.sys, l.gen⟩
end
def T3Tab (K : Frag) (mg : PySem.Str → Option Value) (y1 y2 y3 : Str) (tab : ETab) : Prop := ∃ Y1 Y2 Y3, mg y1 = some (.ref Y1) ∧ mg y2 = some (.ref Y2) ∧ mg y3 = some (.ref Y3) ∧ ∀ n, lookB tab n = some true → ∃ C, mg n = some (.ref C) ∧ PySem.W.exmAny K (.ref C) [.ref Y1, .ref Y2, .ref Y3] = some true
def catch1 {β : Type} (m : Res β) (tab : ETab) (M : Res β) : Res β := match m with
  | .ok b => .ok b
  | .exc x => if lookB tab x.cls = some true then noX M else .stuck
  | .stuck => .stuck
def t3B (t1 t2 t3 : ETab) (p : Str × Bool) : Bool := !p.2 || (match lookB t1 p.1, lookB t2 p.1, lookB t3 p.1 with
  | some a, some b, some c => a || (b || c)
  | _, _, _ => false)
section
variable {X : Cx} {W : L2.WX} {ss : List Slot}
end
end G

namespace G
open PySem PySem.Spec PyProof.Rows L2
section
variable {X : Cx} {W : WX} {ss : List Slot} {pos : Pos} {a b e : Expr} {es : List Expr}
def indexS (x y : Str) : Res Int := match Builtin.Str.occurrences x y 0 x.length 1 with
  | i :: _ => .ok (i : Int)
  | [] => .stuck
theorem len_dK {X : Cx} : CallR X (.builtin "len") (fun xs H Q => ∃ (a : Addr) (kvs : List (Key × V)), xs = [V.ref a] ∧ Rd H a (.dK kvs) ∧ Q (.int kvs.length) H) := by
  rintro pins s σ H _ us Q I r ⟨a, kvs, rfl, rd, q⟩
  obtain ⟨u, rfl, ru⟩ := r.one
  cases ru
  exact d_len I rd fun t s' J => ⟨.int (kvs.length : Nat), H, J, ⟨t, rfl⟩, q⟩
theorem len_dT {X : Cx} : CallR X (.builtin "len") (fun xs H Q => ∃ (a : Addr) (kvs : List (List Key × V)), xs = [V.ref a] ∧ Rd H a (.dT kvs) ∧ Q (.int kvs.length) H) := by
  rintro pins s σ H _ us Q I r ⟨a, kvs, rfl, rd, q⟩
  obtain ⟨u, rfl, ru⟩ := r.one
  cases ru
  obtain ⟨small, mods, keys, rel, isD⟩ := dt_rd I.hok rd
  have same : kvs.length = keys.length := rel.length
  refine PySem.call_len_dictH mods isD (by rw [← same]; rw [sizeLine_eq] at small; omega) ?_
  rw [← same]
  exact ⟨.int (kvs.length : Nat), H, I.tok _, ⟨_, rfl⟩, q⟩
class DKL (κ : Type) [Enc κ] [DecidableEq κ] [DK κ] : Prop where
  len : ∀ (X : Cx), CallR X (.builtin "len") (fun xs H Q => ∃ (a : Addr) (kvs : List (κ × V)), xs = [V.ref a] ∧ Rd H a (DK.ho kvs) ∧ Q (.int kvs.length) H)
instance : DKL Int := ⟨fun X pins s σ H xs us Q I r ⟨a, kvs, e, h, q⟩ => len_dK pins s σ H xs us Q I r ⟨a, _, e, h, by rw [List.length_map]; exact q⟩⟩
instance : DKL Str := ⟨fun X pins s σ H xs us Q I r ⟨a, kvs, e, h, q⟩ => len_dK pins s σ H xs us Q I r ⟨a, _, e, h, by rw [List.length_map]; exact q⟩⟩
instance : DKL (Int × Int) := ⟨fun X pins s σ H xs us Q I r ⟨a, kvs, e, h, q⟩ => len_dT pins s σ H xs us Q I r ⟨a, _, e, h, by rw [List.length_map]; exact q⟩⟩
end
end G

namespace G
open PySem PySem.Spec PyProof.Rows L2
def t3O {α β γ : Type} [Enc α] [Enc β] [Enc γ] (d : Ow α) (d' : Ow β) (d'' : Ow γ) : Ow (T3 α β γ) := ⟨fun K F G v x => ∃ p v1 v2 v3 G1 G2 G3, v = .ref p ∧ F p = some (.tup [v1, v2, v3]) ∧ Same G1 G ∧ Same G2 G ∧ Same G3 G ∧ Dj G1 G2 ∧ Dj G1 G3 ∧ Dj G2 G3 ∧ d.own K F G1 v1 x.a ∧ d'.own K F G2 v2 x.b ∧ d''.own K F G3 v3 x.c,
  fun s ⟨p, v1, v2, v3, G1, G2, G3, e, g, a1, a2, a3, c1, c2, c3, x, y, z⟩ => ⟨p, v1, v2, v3, G1, G2, G3, e, s _ _ g, a1, a2, a3, c1, c2, c3, d.mF s x, d'.mF s y, d''.mF s z⟩,
  fun s ⟨p, v1, v2, v3, G1, G2, G3, e, g, a1, a2, a3, c1, c2, c3, x, y, z⟩ => ⟨p, v1, v2, v3, G1, G2, G3, e, g, a1.trans s, a2.trans s, a3.trans s, c1, c2, c3, x, y, z⟩,
  fun ⟨p, v1, v2, v3, G1, G2, G3, e, g, a1, a2, a3, c1, c2, c3, x, y, z⟩ s t => ⟨p, v1, v2, v3, e, s _ _ g, d.view x s (a1.trans t), d'.view y s (a2.trans t), d''.view z s (a3.trans t)⟩⟩
instance {α β γ : Type} [Enc α] [Enc β] [Enc γ] {d : Ow α} {d' : Ow β} {d'' : Ow γ} [ImmO d] [ImmO d'] [ImmO d''] : ImmO (t3O d d' d'') := ⟨fun ⟨p, v1, v2, v3, G1, G2, G3, e, g, a1, a2, a3, c1, c2, c3, x, y, z⟩ => ⟨p, v1, v2, v3, G1, G2, G3, e, tups_some g rfl, a1, a2, a3, c1, c2, c3, ImmO.imm x, ImmO.imm y, ImmO.imm z⟩⟩
def optO {α : Type} [Enc α] (d : Ow α) : Ow (Option α) := ⟨fun K F G v o => match o with
    | none => v = .non
    | some a => v ≠ .non ∧ d.own K F G v a,
  fun {K F F' G v o} s h => by
    cases o with
    | none => exact h
    | some a => exact ⟨h.1, d.mF s h.2⟩,
  fun {K F G G' v o} s h => by
    cases o with
    | none => exact h
    | some a => exact ⟨h.1, d.mG s h.2⟩,
  fun {K F G H v o} h s t => by
    cases o with
    | none => exact h
    | some a => exact ⟨h.1, d.view h.2 s t⟩⟩
instance {α : Type} [Enc α] {d : Ow α} [ImmO d] : ImmO (optO d) := ⟨fun {K F G v o} h => by
  cases o with
  | none => exact h
  | some a => exact ⟨h.1, ImmO.imm h.2⟩⟩
class NNO {α : Type} [Enc α] (d : Ow α) : Prop where
  nn : ∀ {K : Frag} {F G : Hp} {v : V} {a : α}, d.own K F G v a → v ≠ .non
instance {α β : Type} [Enc α] [Enc β] {d : Ow α} {d' : Ow β} : NNO (prO d d') := ⟨fun ⟨_, _, _, _, _, e, _⟩ z => by rw [e] at z; cases z⟩
instance {α β γ : Type} [Enc α] [Enc β] [Enc γ] {d : Ow α} {d' : Ow β} {d'' : Ow γ} : NNO (t3O d d' d'') := ⟨fun ⟨_, _, _, _, _, _, _, e, _⟩ z => by rw [e] at z; cases z⟩
structure PartO {τ α : Type} [Enc τ] [Enc α] (D : Ow τ) (n : Int) (get : τ → List α) (put : τ → List α → τ) : Prop where
  part : ∀ {K : Frag} {F G : Hp} {v : V} {a : τ}, D.own K F G v a → ∃ p q us ws, v = .ref p ∧ F p = some (.tup us) ∧ atI us n = some (.ref q) ∧ G q = some (.lst ws) ∧ All2 (fun v a => Enc.rep K F v a) ws (get a) ∧
    ∀ {F' G' : Hp} {ws' : List V} {as' : List α}, Same F F' → (∀ c u, c ≠ q → G c = some u → G' c = some u) → G' q = some (.lst ws') → All2 (fun v a => Enc.rep K F' v a) ws' as' → D.own K F' G' v (put a as')
section
variable {X : Cx} {W : WX} {ss : List Slot} {pos : Pos} {a b e : Expr} {es : List Expr} {rest : List Stmt}
end
end G

namespace G
open PySem PySem.Spec PyProof.Rows L2
structure Raw (α : Type) where
  v : V
  a : α
instance {α : Type} [Enc α] : Enc (Raw α) := ⟨fun K H v r => v = r.v ∧ Enc.rep K H v r.a, fun s ⟨e, r⟩ => ⟨e, Enc.mono s r⟩⟩
def rawZ {α : Type} : List V → List α → List (Raw α)
  | v :: vs, a :: as => ⟨v, a⟩ :: rawZ vs as
  | _, _ => []
section
variable {X : Cx} {W : WX} {ss : List Slot} {tg elt iter : Expr} {scope : Scope} {own : List (Str × Nat)} {pos : Pos}
def rdO (X : Cx) (W : WX) {α : Type} [Enc α] (d : Ow α) (ss : List Slot) (m : Res (List α)) : TI := fun σ H R =>
  ∃ F, Same F H ∧ Sl X.K F H ss σ ∧ wpR X W m σ H fun as => ∀ J H' F' G' p vs gs, Same H H' → Ext F H F' H' → Priv G' H F' H' → G' p = some (.lst vs) → (∀ g ∈ gs, Same g G' ∧ g p = none) → gs.Pairwise Dj → AllO (d.own X.K F') vs gs as → ItOk X.K J (rawZ vs as) (join F' G') → R J H'
end
end G

namespace G
open PySem PySem.Spec PyProof.Rows L2
def jq {α : Type} [Enc α] (d : Ow α) (o0 : Option V) (Gk : Hp) (vs : List V) (as : List α) (k : Nat) : Slot :=
  ⟨fun K F G o => o = o0 ∧ Same Gk G ∧ ∃ gs, (∀ g ∈ gs, Same g G ∧ Dj g Gk) ∧ gs.Pairwise Dj ∧ AllO (d.own K F) (vs.drop k) gs (as.drop k),
   fun s t ⟨e, h, gs, hg, pw, r⟩ => ⟨e, h.trans t, gs, fun g m => ⟨(hg g m).1.trans t, (hg g m).2⟩, pw, r.imp fun _ _ _ x => d.mF s x⟩⟩
theorem Asn.give {K : Frag} {B F0 H F g : Hp} {ss : List Slot} {σ : L2.St} {Gs : List Hp} {s : Slot} {o : Option V} (A : Asn K B F0 ss σ H F Gs) (fr : Fresh B F H Gs g) (j : Nat) (x : s.P K F g o) : Asn K B F0 (ss.set j s) (σ.set j o) H F (Gs.set j g) := by
  refine ⟨A.ext, A.base, A.all.set x j, fun G' m c u z => ?_, pw_set j A.dj fun G' m c => ?_⟩
  · rcases List.mem_or_eq_of_mem_set m with m | e
    · exact A.priv G' m c u z
    · subst e
      obtain ⟨k1, k2, k3, k4, _⟩ := fr c u z
      exact ⟨k1, k3, k4, k2⟩
  · cases e : g c with
    | none => exact .inl rfl
    | some u => exact .inr ((fr c u e).2.2.2.2 G' m)
section
variable {X : Cx} {W : WX} {ss : List Slot} {tg iter a b e : Expr} {es : List Expr} {rest : List Stmt} {pos : Pos}
def ItG (X : Cx) (ss : List Slot) (i : Nat) {α : Type} [Enc α] (d : Ow α) (as : List α) (se : Slot) (tI : TI) : Prop :=
  ∀ {B F0 F H : Hp} {σ : L2.St} {Gs : List Hp} {R : It → Hp → Prop}, Asn X.K B F0 ss σ H F Gs → (∀ J H1 F1 G Gk o vs gs, Same H H1 → Ext F H F1 H1 → Gs[i]? = some G → σ[i]? = some o → Same Gk G → (∀ g ∈ gs, Same g G ∧ Dj g Gk) → gs.Pairwise Dj → AllO (d.own X.K F1) vs gs as →
    (∀ F' G', Same F1 F' → Same Gk G' → se.P X.K F' G' o) → (∀ k F2 H2, Same F1 F2 → Same F2 H2 → Same Gk H2 → (∀ v, vs[k]? = some v → J.go k H2 ∧ ∀ v' H', J.yld k H2 v' H' → H' = H2 ∧ v' = v) ∧ (vs.length ≤ k → J.stop k H2)) → R J H1) → tI σ H R
def TgG (X : Cx) {α : Type} [Enc α] (d : Ow α) (u : α → List Slot → List Slot) (gT : TG) : Prop :=
  ∀ {a : α} {v : V} {g B F0 F H : Hp} {σ : L2.St} {Gs : List Hp} {ss : List Slot} {Q : L2.St → Hp → Prop}, Asn X.K B F0 ss σ H F Gs → Fresh B F H Gs g → d.own X.K F g v a → (∀ σ' Gs', Asn X.K B F0 (u a ss) σ' H F Gs' → Q σ' H) → gT v σ H Q
def jp {α : Type} [Enc α] (d : Ow α) (as : List α) : Slot :=
  ⟨fun K F G o => ∃ p vs w gs, o = some (.ref p) ∧ G p = some (.lst (vs ++ [w])) ∧ (∀ g ∈ gs, Same g G ∧ g p = none) ∧ gs.Pairwise Dj ∧ AllO (d.own K F) vs gs as,
   fun s t ⟨p, vs, w, gs, e, h, hg, pw, r⟩ => ⟨p, vs, w, gs, e, t _ _ h, fun g m => ⟨(hg g m).1.trans t, (hg g m).2⟩, pw, r.imp fun _ _ _ x => d.mF s x⟩⟩
end
end G

namespace G
open PySem PySem.Spec PyProof.Rows L2
section
variable {X : Cx} {W : WX} {ss : List Slot} {tg elt iter : Expr} {scope : Scope} {own : List (Str × Nat)} {pos : Pos}
end
def hold {α : Type} [Enc α] (d : Ow α) (p : Addr) (vs : List V) (as : List α) (k : Nat) : Slot :=
  ⟨fun K F G o => o = some (.ref p) ∧ G p = some (.lst vs) ∧ ∃ g1 g2, (∀ g ∈ g1 ++ g2, Same g G ∧ g p = none) ∧ (g1 ++ g2).Pairwise Dj ∧ AllO (d.own K F) (vs.take k) g1 (as.take k) ∧ AllO (d.own K F) (vs.drop (k + 1)) g2 (as.drop (k + 1)),
   fun s t ⟨e, h, g1, g2, hg, pw, r1, r2⟩ => ⟨e, t _ _ h, g1, g2, fun g m => ⟨(hg g m).1.trans t, (hg g m).2⟩, pw, r1.imp fun _ _ _ x => d.mF s x, r2.imp fun _ _ _ x => d.mF s x⟩⟩
section
variable {X : Cx} {W : WX} {ss : List Slot} {st : Stmt} {rest : List Stmt} {e : Expr} {pos : Pos}
end
end G

namespace G
open PySem PySem.Spec PyProof.Rows L2
section
variable {X : Cx} {W : WX} {ss : List Slot} {a : Expr} {pos : Pos}
end
end G

namespace G
open PySem PySem.Spec PyProof.Rows L2
section
variable {X : Cx} {W : WX} {ss : List Slot} {e : Expr}
end
structure T4 (α β γ δ : Type) where
  a : α
  b : β
  c : γ
  d : δ
instance {α β γ δ : Type} [Enc α] [Enc β] [Enc γ] [Enc δ] : Enc (T4 α β γ δ) :=
  ⟨fun K H v x => ∃ p v1 v2 v3 v4, v = .ref p ∧ H p = some (.tup [v1, v2, v3, v4]) ∧ Enc.rep K H v1 x.a ∧ Enc.rep K H v2 x.b ∧ Enc.rep K H v3 x.c ∧ Enc.rep K H v4 x.d,
   fun s ⟨p, v1, v2, v3, v4, e, h, r1, r2, r3, r4⟩ => ⟨p, v1, v2, v3, v4, e, s _ _ h, Enc.mono s r1, Enc.mono s r2, Enc.mono s r3, Enc.mono s r4⟩⟩
instance {α β γ δ : Type} [Enc α] [Enc β] [Enc γ] [Enc δ] [Imm α] [Imm β] [Imm γ] [Imm δ] : Imm (T4 α β γ δ) :=
  ⟨fun ⟨p, v1, v2, v3, v4, e, h, r1, r2, r3, r4⟩ => ⟨p, v1, v2, v3, v4, e, tups_some h rfl, Imm.imm r1, Imm.imm r2, Imm.imm r3, Imm.imm r4⟩⟩
instance {α β γ δ : Type} [Enc α] [Enc β] [Enc γ] [Enc δ] [ToDy α] [ToDy β] [ToDy γ] [ToDy δ] : ToDy (T4 α β γ δ) := ⟨fun x => .tup [ToDy.dy x.a, ToDy.dy x.b, ToDy.dy x.c, ToDy.dy x.d], fun ⟨p, v1, v2, v3, v4, e, h, r1, r2, r3, r4⟩ => by rw [e]; exact .tup (SqT.of h) (.cons (ToDy.rep r1) (.cons (ToDy.rep r2) (.cons (ToDy.rep r3) (.cons (ToDy.rep r4) .nil))))⟩
instance {α β γ δ : Type} [Enc α] [Enc β] [Enc γ] [Enc δ] : NN (T4 α β γ δ) := ⟨fun ⟨_, _, _, _, _, e1, _⟩ e => by rw [e] at e1; cases e1⟩
instance {α β γ δ : Type} [Enc α] [Enc β] [Enc γ] [Enc δ] [Dat α] [Dat β] [Dat γ] [Dat δ] : Dat (T4 α β γ δ) where
  py := fun x => .tuple [Dat.py x.a, Dat.py x.b, Dat.py x.c, Dat.py x.d]
  dp := fun ⟨p, v1, v2, v3, v4, e, h, r1, r2, r3, r4⟩ => by rw [e]; exact .tup (SqT.of h) (.cons (Dat.dp r1) (.cons (Dat.dp r2) (.cons (Dat.dp r3) (.cons (Dat.dp r4) .nil))))
  lay := fun x => (Dat.lay x.a && (Dat.lay x.b && (Dat.lay x.c && Dat.lay x.d)))
  dep := (max (Dat.dep α) (max (Dat.dep β) (max (Dat.dep γ) (Dat.dep δ)))) + 1
  layOk := fun h => by
    simp only [Bool.and_eq_true] at h
    simp only [PyData.canLay0, PyData.canLayAll0, Bool.and_eq_true, and_true]
    exact ⟨Dat.layOk h.1, Dat.layOk h.2.1, Dat.layOk h.2.2.1, Dat.layOk h.2.2.2⟩
  depOk := fun x => by
    have h1 := Dat.depOk x.a
    have h2 := Dat.depOk x.b
    have h3 := Dat.depOk x.c
    have h4 := Dat.depOk x.d
    simp only [PyData.depth, PyData.depthAll]
    omega
instance {α β γ δ : Type} [Enc α] [Enc β] [Enc γ] [Enc δ] [Dat α] [Dat β] [Dat γ] [Dat δ] [DatEq α] [DatEq β] [DatEq γ] [DatEq δ] : DatEq (T4 α β γ δ) := ⟨fun a b => by
  show PyData.eqvAll [_, _, _, _] [_, _, _, _] = true ↔ _
  cases a; cases b
  simp [PyData.eqvAll, DatEq.iff]⟩
instance {α β γ δ : Type} [Enc α] [Enc β] [Enc γ] [Enc δ] [Dat α] [Dat β] [Dat γ] [Dat δ] [NoStr α] [NoStr β] [NoStr γ] [NoStr δ] : NoStr (T4 α β γ δ) := ⟨fun x => by show (Dat.lay _ && (Dat.lay _ && (Dat.lay _ && Dat.lay _))) = true; rw [NoStr.lay, NoStr.lay, NoStr.lay, NoStr.lay]; rfl⟩
instance {α β γ δ : Type} [Enc α] [Enc β] [Enc γ] [Enc δ] : HasTy (T4 α β γ δ) := ⟨"tuple", fun ⟨p, v1, v2, v3, v4, e, h, _⟩ => by rw [e]; exact .base (.tup h)⟩
instance {α β γ δ : Type} [Inhabited α] [Inhabited β] [Inhabited γ] [Inhabited δ] : Inhabited (T4 α β γ δ) := ⟨⟨default, default, default, default⟩⟩
instance {α β γ δ : Type} [DecidableEq α] [DecidableEq β] [DecidableEq γ] [DecidableEq δ] : DecidableEq (T4 α β γ δ) := fun x y => if h : x.a = y.a ∧ x.b = y.b ∧ x.c = y.c ∧ x.d = y.d then .isTrue (by cases x; cases y; simp only at h; obtain ⟨h0, h1, h2, h3⟩ := h; subst_vars; rfl) else .isFalse fun e => h (by subst e; exact ⟨rfl, rfl, rfl, rfl⟩)
section
variable {X : Cx} {W : WX} {ss : List Slot} {pos : Pos} {kk : Nat} {e1 e2 e3 e4 a : Expr}
theorem xi_t4d {α β γ δ : Type} [Enc α] [Enc β] [Enc γ] [Enc δ] {m : Res (α × β × γ × δ × Unit)} (h : XA X W ss [e1, e2, e3, e4] m) : XI X W ss (.Tuple [e1, e2, e3, e4] kk pos) (m.bind fun x => .ok (⟨x.1, x.2.1, x.2.2.1, x.2.2.2.1⟩ : T4 α β γ δ)) := by
  refine PE_imp (pe_tup h) fun σ H Q ⟨sl, q⟩ => ⟨sl, wpR_imp (wpR_bind q) (Same.refl H) fun x q vs H1 s1 r1 => ?_⟩
  obtain ⟨v1, q1, rfl, h1, v2, q2, rfl, h2, v3, q3, rfl, h3, v4, q4, rfl, h4, hz⟩ := r1
  have hz : q4 = [] := hz
  subst hz
  refine ⟨smallLine (by simp), fun p hp => q _ _ (s1.trans (same_upd hp)) ⟨p, v1, v2, v3, v4, rfl, upd_same, Enc.mono (same_upd hp) h1, Enc.mono (same_upd hp) h2, Enc.mono (same_upd hp) h3, Enc.mono (same_upd hp) h4⟩⟩
theorem xi_t4_1 {α β γ δ : Type} [Enc α] [Enc β] [Enc γ] [Enc δ] {m : Res (T4 α β γ δ)} {k : Nat} {p : Pos} (h : XI X W ss a m) : XI X W ss (.Subscript a (.Constant (.int 0) k p) pos) (m.bind fun x => .ok x.a) :=
  xi_c h fun x v H ⟨p, v1, v2, v3, v4, e, hp, r1, r2, r3, r4⟩ => ⟨p, _, v1, e, SqT.of hp, rfl, r1⟩
theorem xi_t4_2 {α β γ δ : Type} [Enc α] [Enc β] [Enc γ] [Enc δ] {m : Res (T4 α β γ δ)} {k : Nat} {p : Pos} (h : XI X W ss a m) : XI X W ss (.Subscript a (.Constant (.int 1) k p) pos) (m.bind fun x => .ok x.b) :=
  xi_c h fun x v H ⟨p, v1, v2, v3, v4, e, hp, r1, r2, r3, r4⟩ => ⟨p, _, v2, e, SqT.of hp, rfl, r2⟩
theorem xi_t4_3 {α β γ δ : Type} [Enc α] [Enc β] [Enc γ] [Enc δ] {m : Res (T4 α β γ δ)} {k : Nat} {p : Pos} (h : XI X W ss a m) : XI X W ss (.Subscript a (.Constant (.int 2) k p) pos) (m.bind fun x => .ok x.c) :=
  xi_c h fun x v H ⟨p, v1, v2, v3, v4, e, hp, r1, r2, r3, r4⟩ => ⟨p, _, v3, e, SqT.of hp, rfl, r3⟩
theorem xi_t4_4 {α β γ δ : Type} [Enc α] [Enc β] [Enc γ] [Enc δ] {m : Res (T4 α β γ δ)} {k : Nat} {p : Pos} (h : XI X W ss a m) : XI X W ss (.Subscript a (.Constant (.int 3) k p) pos) (m.bind fun x => .ok x.d) :=
  xi_c h fun x v H ⟨p, v1, v2, v3, v4, e, hp, r1, r2, r3, r4⟩ => ⟨p, _, v4, e, SqT.of hp, rfl, r4⟩
theorem tg_four {α β γ δ : Type} [Enc α] [Enc β] [Enc γ] [Enc δ] {t1 t2 t3 t4 : Expr} {k : Nat} {u1 : α → List Slot → List Slot} {u2 : β → List Slot → List Slot} {u3 : γ → List Slot → List Slot} {u4 : δ → List Slot → List Slot} (h1 : Tg X t1 u1) (h2 : Tg X t2 u2) (h3 : Tg X t3 u3) (h4 : Tg X t4 u4) (hc : X.calm = true := by rfl)
    (hs1 : (assignEach [t1, t2, t3, t4] X.env).map (·.2) = assign t1 X.env :: (assignEach [t2, t3, t4] X.env).map (·.2) := by rfl)
    (hs2 : (assignEach [t2, t3, t4] X.env).map (·.2) = assign t2 X.env :: (assignEach [t3, t4] X.env).map (·.2) := by rfl)
    (hs3 : (assignEach [t3, t4] X.env).map (·.2) = assign t3 X.env :: (assignEach [t4] X.env).map (·.2) := by rfl)
    (hs4 : (assignEach [t4] X.env).map (·.2) = assign t4 X.env :: (assignEach [] X.env).map (·.2) := by rfl)
    (hn : (assignEach [t1, t2, t3, t4] X.env).length = 4 := by rfl) (hst : (assignEach [t1, t2, t3, t4] X.env).findIdx? (·.1) = none := by rfl) :
    Tg X (.Tuple [t1, t2, t3, t4] k pos) (fun (x : T4 α β γ δ) ss => u4 x.d (u3 x.c (u2 x.b (u1 x.a ss)))) := by
  obtain ⟨g1, p1, q1⟩ := h1
  obtain ⟨g2, p2, q2⟩ := h2
  obtain ⟨g3, p3, q3⟩ := h3
  obtain ⟨g4, p4, q4⟩ := h4
  refine ⟨_, pg_tup hc (pgs_cons p1 (pgs_cons p2 (pgs_cons p3 (pgs_cons p4 pgs_nil hs4) hs3) hs2) hs1) hn hst, fun a v B F0 F H Gs ss σ Q A r q => ?_⟩
  obtain ⟨p, v1, v2, v3, v4, rfl, hp, r1, r2, r3, r4⟩ := r
  refine ⟨p, [v1, v2, v3, v4], rfl, SqT.of (A.ext.sub _ _ hp), rfl, v1, [v2, v3, v4], rfl, q1 _ _ _ _ _ _ _ _ _ _ A r1 fun σ1 Gs1 A1 => ⟨v2, [v3, v4], rfl, q2 _ _ _ _ _ _ _ _ _ _ A1 r2 fun σ2 Gs2 A2 => ⟨v3, [v4], rfl, q3 _ _ _ _ _ _ _ _ _ _ A2 r3 fun σ3 Gs3 A3 => ⟨v4, [], rfl, q4 _ _ _ _ _ _ _ _ _ _ A3 r4 fun σ4 Gs4 A4 => ⟨rfl, q σ4 Gs4 A4⟩⟩⟩⟩⟩
theorem tc_four {α β γ δ : Type} [Enc α] [Enc β] [Enc γ] [Enc δ] {t1 t2 t3 t4 : Expr} {k : Nat} {scope : Scope} {vs : List Nat} {u1 : α → List Slot → List Slot} {u2 : β → List Slot → List Slot} {u3 : γ → List Slot → List Slot} {u4 : δ → List Slot → List Slot} (h1 : TgC X scope vs t1 u1) (h2 : TgC X scope vs t2 u2) (h3 : TgC X scope vs t3 u3) (h4 : TgC X scope vs t4 u4) (hc : X.calm = true := by rfl)
    (hs1 : ∀ env, (assignEach [t1, t2, t3, t4] env).map (·.2) = assign t1 env :: (assignEach [t2, t3, t4] env).map (·.2) := by intro _; rfl)
    (hs2 : ∀ env, (assignEach [t2, t3, t4] env).map (·.2) = assign t2 env :: (assignEach [t3, t4] env).map (·.2) := by intro _; rfl)
    (hs3 : ∀ env, (assignEach [t3, t4] env).map (·.2) = assign t3 env :: (assignEach [t4] env).map (·.2) := by intro _; rfl)
    (hs4 : ∀ env, (assignEach [t4] env).map (·.2) = assign t4 env :: (assignEach [] env).map (·.2) := by intro _; rfl)
    (hn : ∀ env, (assignEach [t1, t2, t3, t4] env).length = 4 := by intro _; rfl) (hst : ∀ env, (assignEach [t1, t2, t3, t4] env).findIdx? (·.1) = none := by intro _; rfl) :
    TgC X scope vs (.Tuple [t1, t2, t3, t4] k pos) (fun (x : T4 α β γ δ) ss => u4 x.d (u3 x.c (u2 x.b (u1 x.a ss)))) := by
  obtain ⟨g1, p1, q1⟩ := h1
  obtain ⟨g2, p2, q2⟩ := h2
  obtain ⟨g3, p3, q3⟩ := h3
  obtain ⟨g4, p4, q4⟩ := h4
  refine ⟨gTup X.K 4 (gCons g1 (gCons g2 (gCons g3 (gCons g4 gNil)))), fun s H C cl fp => pg_tup (X := X.blk s H scope (compEnvC scope cl C X.env) fp) hc (pgs_cons (p1 s H C cl fp) (pgs_cons (p2 s H C cl fp) (pgs_cons (p3 s H C cl fp) (pgs_cons (p4 s H C cl fp) pgs_nil (hs4 _)) (hs3 _)) (hs2 _)) (hs1 _)) (hn _) (hst _), fun a v F H ss σ Q A sf r q => ?_⟩
  obtain ⟨p, v1, v2, v3, v4, rfl, hp, r1, r2, r3, r4⟩ := r
  refine ⟨p, [v1, v2, v3, v4], rfl, SqT.of (sf _ _ hp), rfl, v1, [v2, v3, v4], rfl, q1 _ _ _ _ _ _ _ A sf r1 fun σ1 A1 e1 => ⟨v2, [v3, v4], rfl, q2 _ _ _ _ _ _ _ A1 sf r2 fun σ2 A2 e2 => ⟨v3, [v4], rfl, q3 _ _ _ _ _ _ _ A2 sf r3 fun σ3 A3 e3 => ⟨v4, [], rfl, q4 _ _ _ _ _ _ _ A3 sf r4 fun σ4 A4 e4 => ⟨rfl, q σ4 A4 (e4.trans (e3.trans (e2.trans e1)))⟩⟩⟩⟩⟩
end
structure T5 (α β γ δ ε : Type) where
  a : α
  b : β
  c : γ
  d : δ
  e : ε
instance {α β γ δ ε : Type} [Enc α] [Enc β] [Enc γ] [Enc δ] [Enc ε] : Enc (T5 α β γ δ ε) :=
  ⟨fun K H v x => ∃ p v1 v2 v3 v4 v5, v = .ref p ∧ H p = some (.tup [v1, v2, v3, v4, v5]) ∧ Enc.rep K H v1 x.a ∧ Enc.rep K H v2 x.b ∧ Enc.rep K H v3 x.c ∧ Enc.rep K H v4 x.d ∧ Enc.rep K H v5 x.e,
   fun s ⟨p, v1, v2, v3, v4, v5, e, h, r1, r2, r3, r4, r5⟩ => ⟨p, v1, v2, v3, v4, v5, e, s _ _ h, Enc.mono s r1, Enc.mono s r2, Enc.mono s r3, Enc.mono s r4, Enc.mono s r5⟩⟩
instance {α β γ δ ε : Type} [Enc α] [Enc β] [Enc γ] [Enc δ] [Enc ε] [Imm α] [Imm β] [Imm γ] [Imm δ] [Imm ε] : Imm (T5 α β γ δ ε) :=
  ⟨fun ⟨p, v1, v2, v3, v4, v5, e, h, r1, r2, r3, r4, r5⟩ => ⟨p, v1, v2, v3, v4, v5, e, tups_some h rfl, Imm.imm r1, Imm.imm r2, Imm.imm r3, Imm.imm r4, Imm.imm r5⟩⟩
instance {α β γ δ ε : Type} [Enc α] [Enc β] [Enc γ] [Enc δ] [Enc ε] [ToDy α] [ToDy β] [ToDy γ] [ToDy δ] [ToDy ε] : ToDy (T5 α β γ δ ε) := ⟨fun x => .tup [ToDy.dy x.a, ToDy.dy x.b, ToDy.dy x.c, ToDy.dy x.d, ToDy.dy x.e], fun ⟨p, v1, v2, v3, v4, v5, e, h, r1, r2, r3, r4, r5⟩ => by rw [e]; exact .tup (SqT.of h) (.cons (ToDy.rep r1) (.cons (ToDy.rep r2) (.cons (ToDy.rep r3) (.cons (ToDy.rep r4) (.cons (ToDy.rep r5) .nil)))))⟩
instance {α β γ δ ε : Type} [Enc α] [Enc β] [Enc γ] [Enc δ] [Enc ε] : NN (T5 α β γ δ ε) := ⟨fun ⟨_, _, _, _, _, _, e1, _⟩ e => by rw [e] at e1; cases e1⟩
instance {α β γ δ ε : Type} [Enc α] [Enc β] [Enc γ] [Enc δ] [Enc ε] [Dat α] [Dat β] [Dat γ] [Dat δ] [Dat ε] : Dat (T5 α β γ δ ε) where
  py := fun x => .tuple [Dat.py x.a, Dat.py x.b, Dat.py x.c, Dat.py x.d, Dat.py x.e]
  dp := fun ⟨p, v1, v2, v3, v4, v5, e, h, r1, r2, r3, r4, r5⟩ => by rw [e]; exact .tup (SqT.of h) (.cons (Dat.dp r1) (.cons (Dat.dp r2) (.cons (Dat.dp r3) (.cons (Dat.dp r4) (.cons (Dat.dp r5) .nil)))))
  lay := fun x => (Dat.lay x.a && (Dat.lay x.b && (Dat.lay x.c && (Dat.lay x.d && Dat.lay x.e))))
  dep := (max (Dat.dep α) (max (Dat.dep β) (max (Dat.dep γ) (max (Dat.dep δ) (Dat.dep ε))))) + 1
  layOk := fun h => by
    simp only [Bool.and_eq_true] at h
    simp only [PyData.canLay0, PyData.canLayAll0, Bool.and_eq_true, and_true]
    exact ⟨Dat.layOk h.1, Dat.layOk h.2.1, Dat.layOk h.2.2.1, Dat.layOk h.2.2.2.1, Dat.layOk h.2.2.2.2⟩
  depOk := fun x => by
    have h1 := Dat.depOk x.a
    have h2 := Dat.depOk x.b
    have h3 := Dat.depOk x.c
    have h4 := Dat.depOk x.d
    have h5 := Dat.depOk x.e
    simp only [PyData.depth, PyData.depthAll]
    omega
instance {α β γ δ ε : Type} [Enc α] [Enc β] [Enc γ] [Enc δ] [Enc ε] [Dat α] [Dat β] [Dat γ] [Dat δ] [Dat ε] [DatEq α] [DatEq β] [DatEq γ] [DatEq δ] [DatEq ε] : DatEq (T5 α β γ δ ε) := ⟨fun a b => by
  show PyData.eqvAll [_, _, _, _, _] [_, _, _, _, _] = true ↔ _
  cases a; cases b
  simp [PyData.eqvAll, DatEq.iff]⟩
instance {α β γ δ ε : Type} [Enc α] [Enc β] [Enc γ] [Enc δ] [Enc ε] [Dat α] [Dat β] [Dat γ] [Dat δ] [Dat ε] [NoStr α] [NoStr β] [NoStr γ] [NoStr δ] [NoStr ε] : NoStr (T5 α β γ δ ε) := ⟨fun x => by show (Dat.lay _ && (Dat.lay _ && (Dat.lay _ && (Dat.lay _ && Dat.lay _)))) = true; rw [NoStr.lay, NoStr.lay, NoStr.lay, NoStr.lay, NoStr.lay]; rfl⟩
instance {α β γ δ ε : Type} [Enc α] [Enc β] [Enc γ] [Enc δ] [Enc ε] : HasTy (T5 α β γ δ ε) := ⟨"tuple", fun ⟨p, v1, v2, v3, v4, v5, e, h, _⟩ => by rw [e]; exact .base (.tup h)⟩
instance {α β γ δ ε : Type} [Inhabited α] [Inhabited β] [Inhabited γ] [Inhabited δ] [Inhabited ε] : Inhabited (T5 α β γ δ ε) := ⟨⟨default, default, default, default, default⟩⟩
instance {α β γ δ ε : Type} [DecidableEq α] [DecidableEq β] [DecidableEq γ] [DecidableEq δ] [DecidableEq ε] : DecidableEq (T5 α β γ δ ε) := fun x y => if h : x.a = y.a ∧ x.b = y.b ∧ x.c = y.c ∧ x.d = y.d ∧ x.e = y.e then .isTrue (by cases x; cases y; simp only at h; obtain ⟨h0, h1, h2, h3, h4⟩ := h; subst_vars; rfl) else .isFalse fun e => h (by subst e; exact ⟨rfl, rfl, rfl, rfl, rfl⟩)
section
variable {X : Cx} {W : WX} {ss : List Slot} {pos : Pos} {kk : Nat} {e1 e2 e3 e4 e5 a : Expr}
end
end G

namespace G
open PySem PySem.Spec PyProof.Rows L2
structure CalK (P : Program) (w : World) (K : Frag) (mg : Str → Option Value) (base : Heap) (k : Nat) (x kx : Str) {A1 B A R : Type} [EncA A1] [Enc B] [EncA A] (c : A1 → B → A) (g : A → Res R) (kr : R → Slot) : Prop where
  ex : ∃ f fd ps n, FnOk P w K mg base (L2.CX P w) k f fd ps (spOf K mg g kr) ∧ mg x = some (.ref f) ∧ PySem.W.keepIn K (.ref f) = true ∧ KBn K fd ps n [kx] (fun us ws => us ++ ws) (fun vs zs => vs ++ zs) ∧
    (∀ H vs (a : A1), EncA.rep K H vs a → vs.length = n) ∧ ∀ H vs v (a : A1) (b : B), EncA.rep K H vs a → Enc.rep K H v b → EncA.rep K H (vs ++ [v]) (c a b)
def BndK (x : Str) (st : Stmt) (ps : List Str) (m n : Nat) (kx : Str) : Prop := ∀ (T : Addr) (kV doc pm : Value) (an : Option Addr) (cdv ct w : Value) (us its : List Value), us.length = n → its.length = m →
  ∃ k, bindArgs (PySem.W.fnOf x x (defArgs st) (defBody st) (defScope st) (.ref T) kV doc pm an cdv ct) ⟨us, [(kx, w)]⟩ = seqItems? (.ref T) >>= k ∧ k (some its.toArray) = pure (ps.zip (us ++ [w]))
section
variable {P : Program} {w : World} {K : Frag} {mg : Str → Option Value} {base : Heap}
end
section
variable {X : Cx} {CX : CXT} {k n : Nat} {f : Addr} {fd : FuncData} {ps ks : List Str} {sp : Sp} {E : L2.St → L2.XK} {x : Str} {p pos : Pos} {e : Expr} {es : List Expr} {kws : List Keyword} {t tk : TA} {g : List Value → List Value → List Value} {gV : List V → List V → List V}
end
section
variable {X : Cx} {W : WX} {ss : List Slot} {k j : Nat} {x kx : Str} {A1 B A R : Type} [EncA A1] [Enc B] [EncA A] {c : A1 → B → A} {g : A → Res R} {kr : R → Slot} {p pos kpos : Pos} {e ke : Expr} {es : List Expr}
end
end G

namespace G
open PySem PySem.Spec PyProof.Rows L2
def splitR (x y : Str) : Res (List Str) := guardR (!(y.length == 0) && big x.length) (.ok (Txt.split x y))
def partR (x y : Str) : Res (T3 Str Str Str) := guardR (!(y.length == 0) && big x.length) (.ok ⟨(Txt.partition x y).1, (Txt.partition x y).2.1, (Txt.partition x y).2.2⟩)
def intS (x : Str) : Res Int := match PySem.intText? x with
  | some n => guardR (decide (x.length ≤ 640)) (.ok n)
  | none => .stuck
section
variable {X : Cx} {W : WX} {ss : List Slot} {a e : Expr} {es : List Expr} {apos cpos pos : Pos}
end
section
variable {X : Cx} {W : WX} {ss : List Slot} {a : Expr} {pos : Pos}
end
structure GStr (mg : Str → Option Value) (x : Str) (i : Str) : Prop where
  ex : ∃ t, mg x = some (.str i t)
section
variable {X : Cx} {W : WX} {ss : List Slot} {pos : Pos}
end
end G

namespace G
open PySem PySem.Spec PyProof.Rows L2
def catT {α : Type} (x y : Tup α) : Res (Tup α) := guardR (big (x.l.length + y.l.length)) (.ok ⟨x.l ++ y.l⟩)
def repT {α : Type} (x : Tup α) (k : Int) : Res (Tup α) := guardR (!x.l.isEmpty && (decide (2 ≤ k) && (decide (k ≤ 1000) && decide (x.l.length ≤ 1000)))) (.ok ⟨(List.replicate k.toNat x.l).flatten⟩)
section
variable {X : Cx} {W : WX} {ss : List Slot} {pos : Pos} {a b : Expr}
end
end G

namespace PySem
namespace RowX
open PySem.W PySem.Calls PyProof.Rows PySem.HandSPX
def iA (p1 p2 : Pos) : Arguments := { posonlyargs := [], args := [{ arg := "self", annotation := none, pos := p1 }, { arg := "row", annotation := none, pos := p2 }], vararg := none, kwonlyargs := [], kw_defaults := [], kwarg := none, defaults := [] }
def iB (q1 q2 q3 q4 : Pos) : List Stmt := [.Assign [.Attribute (.Name "self" q1) "row" q2] (.Name "row" q3) q4]
def iS : Scope := { kind := .function, names := [(PySem.Str.ofString "self", .local), (PySem.Str.ofString "row", .local)], isGenerator := false, isCoroutine := false, more := [] }
structure RowTxt (K : Frag) (mg : Str → Option Value) (C fI : Addr) : Prop where
  gC : mg "NoText" = some (.ref C)
  cls : ∃ nm q N bs bm sn sub ab col dd k0 k1 k2 k3 k5, K.lookup C = some (excClassObj nm q C N bs bm true sn sub ab col dd k0 k1 k2 k3 k5 "ValueError.__new__") ∧ refsVE bm = true
  sa : findIn K (.ref C) "__setattr__" = some (some (.builtin "object.__setattr__"))
  ga : findIn K (.ref C) "__getattribute__" = some (some (.builtin "BaseException.__getattribute__"))
  gg : findIn K (.ref C) "__getattr__" = some none
  noN : findIn K (.ref C) "row" = some none
  iC : findIn K (.ref C) "__init__" = some (some (.ref fI))
  tC : typeIn K (.ref fI) = some (.type "function")
  kC : keepIn K (.ref C) = true
  exC : subIn K (.ref C) (.type "BaseException") = some true
  tyC : typeIn K (.ref C) = some (.type "type")
  hdC : hasDictIn K C = true
  te : exmOne K (.ref C) (.ref C) = some true
  fn : ∃ (oc : Value) (od : Option Addr) (doc pm : Value) (an : Option Addr) (cdv ct : Value) (osl : Array (Option Value)) (p1 p2 q1 q2 q3 q4 : Pos),
    K.lookup fI = some ⟨oc, od, .func (fnOf "__init__" "NoText.__init__" (iA p1 p2) (iB q1 q2 q3 q4) iS .none .none doc pm an cdv ct), osl⟩ ∧ codeIn K cdv "NoText.__init__" = true
structure InitEnd (h h' : Heap) (x C dx t1 : Addr) (v : Value) : Prop where
  keep : ∀ b o, b ≠ x → h.get? b = some o → h'.get? b = some o
  obj : h'.get? x = some { cls := .ref C, dict := some dx, data := .fields #[.ref t1, .none, .none, .none, .bool false, .none] }
  dbig : h.objs.size ≤ dx
  dne : dx ≠ x
  ns : h'.Ns1 dx (fun y => if y = "row" then some v else none)
structure OwnMade (h h' : Heap) (e C d : Addr) (v : Value) : Prop where
  keep : ∀ b o, h.get? b = some o → h'.get? b = some o
  new : h.objs.size ≤ e
  obj : ∃ oe vs, h'.get? e = some oe ∧ oe.cls = .ref C ∧ oe.dict = some d ∧ oe.data = .fields vs ∧ vs[1]? = some .none
  dbig : h.objs.size ≤ d
  dne : d ≠ e
  ns : h'.Ns1 d (fun y => if y = "row" then some v else none)
section
variable {prog : Program} {w : World} {A : Around} {E : Value → Shared → Prop} {R : Result → Shared → Prop} {s : Shared} {K : Frag} {mg : Str → Option Value} {C fI : Addr}
end
end RowX
end PySem
namespace L2
open PySem PySem.Spec PyProof.Rows
section
variable {X : Cx} {C fI : Addr}
def tMkRow (C : Addr) (ta : TA) : St → Hp → XK → Prop := fun σ H Q => ta σ H fun vs H1 => ∃ v, vs = [v] ∧ ∀ d, H1 d = none → Q (.ref C) (some d) (upd H1 d (.xd [(("row" : Str), v)]))
def tRaiseRow (C : Addr) (W : WX) (ta : TA) : TS := fun _ σ H => tMkRow C ta σ H fun cls d H' => W cls d σ H'
def tByRow (C : Addr) (a : Addr) (cls : Value) (d : Option Addr) (te : TE) : TE := fun σ H Q => te σ H fun x H1 => x = .ref a ∧ cls = .ref C ∧ ∃ (dd : Addr) (v : V), d = some dd ∧ H1 dd = some (.xd [(("row" : Str), v)]) ∧ Q v H1
end
end L2
namespace G
open PySem PySem.Spec PyProof.Rows L2
def HasRow (K : Frag) (mg : PySem.Str → Option Value) : Prop := ∃ C fI, PySem.RowX.RowTxt K mg C fI
theorem payRep_mono {p : Pay} {d : Option Addr} {H H' : Hp} (s : Same H H') (h : payRep p d H) : payRep p d H' := by
  cases p with
  | no => exact h
  | int i => obtain ⟨x, e, q⟩ := h; exact ⟨x, e, s _ _ q⟩
  | _ => obtain ⟨x, p, o, e, q, r⟩ := h; exact ⟨x, p, o, e, s _ _ q, s _ _ r⟩
theorem payRep_tups {p : Pay} {d : Option Addr} {H : Hp} (h : payRep p d H) : payRep p d (tups H) := by
  cases p with
  | no => exact h
  | int i => obtain ⟨x, e, q⟩ := h; exact ⟨x, e, tups_some q rfl⟩
  | _ => obtain ⟨x, p, o, e, q, r⟩ := h; exact ⟨x, p, o, e, tups_some q rfl, tups_some r rfl⟩
def exP (a : Addr) (p : Pay) (d : Option Addr) : Slot := ⟨fun _ F _ o => o = some (.ref a) ∧ payRep p d F, fun s _ h => ⟨h.1, payRep_mono s h.2⟩⟩
def isE2 (t : ETab) (x : Exn) : Res Bool := match lookB t x.cls with
  | some b => .ok b
  | none => .stuck
def lookBs : List ETab → Str → Option Bool
  | [], _ => some false
  | t :: r, n => match lookB t n with
    | some true => some true
    | some false => lookBs r n
    | none => none
def isE2s (ts : List ETab) (x : Exn) : Res Bool := match lookBs ts x.cls with
  | some b => .ok b
  | none => .stuck
def rowR (x : Exn) : Res Int := match x.pay with
  | .int i => if x.cls = "NoText" then .ok i else .stuck
  | _ => .stuck
section
variable {X : Cx} {W : WX} {ss : List Slot} {rest : List Stmt}
def dOk (d : Option Addr) (H : Hp) : Prop := match d with
  | none => True
  | some dd => ∃ fs, H dd = some (.xd fs)
def rIsX (K : Frag) (D a : Addr) (d : Option Addr) : List V → Hp → VK → Prop := fun xs H Q => ∃ (c : V) (cv : Value) (b : Bool), xs = [.ref a, c] ∧ (∀ u, RelV c u → u = cv) ∧ PySem.W.kitOne K (.ref D) cv = some b ∧ dOk d H ∧ Q (.bl b) H
def rIsXT (K : Frag) (D a : Addr) (d : Option Addr) : List V → Hp → VK → Prop := fun xs H Q => ∃ (p : Addr) (vs : List V) (cvs : List Value) (b : Bool), xs = [.ref a, .ref p] ∧ H p = some (.tup vs) ∧ (∀ us, Vals vs us → us = cvs) ∧ PySem.W.kitAny K (.ref D) cvs = some b ∧ dOk d H ∧ Q (.bl b) H
inductive ITs (X : Cx) : List Expr → List ETab → Prop
  | nil : ITs X [] []
  | cons {y : Str} {p : Pos} {tab : ETab} {es : List Expr} {ts : List ETab} (T : ITab X.K X.mg y tab) (hg : Gl X y) (hdb : (y == ("__debug__" : Str)) = false) (he : starEach (.Name y p :: es) X.env = (false, eval (.Name y p) X.env) :: starEach es X.env) (r : ITs X es ts) : ITs X (.Name y p :: es) (tab :: ts)
end
end G

namespace G
open PySem PySem.Spec PyProof.Rows L2
def slC {α A : Type} (kd : α → Slot) (sl : A → List Slot) (x : α × A) : List Slot := kd x.1 :: sl x.2
def slN (_ : Unit) : List Slot := []
section
variable (X : Cx) (W : WX)
def rAO {A : Type} (ss : List Slot) (m : Res A) (sl : A → List Slot) : TA := fun σ H Q =>
  ∃ F, Same F H ∧ Sl X.K F H ss σ ∧ wpR X W m σ H fun a => ∀ (vs : List V) H' F' Gs, Same H H' → Ext F H F' H' → (∀ G ∈ Gs, Priv G H F' H') → Gs.Pairwise Dj → All3 X.K F' (sl a) Gs (vs.map some) → Q vs H'
def XAO {A : Type} (ss : List Slot) (es : List Expr) (m : Res A) (sl : A → List Slot) : Prop := PA X es (rAO X W ss m sl)
end
section
variable {X : Cx} {W : WX} {ss : List Slot} {e : Expr} {es : List Expr}
end
def spO (K : Frag) (mg : Str → Option Value) {A R : Type} (sl : A → List Slot) (f : A → Res R) (kr : R → Slot) : Sp := fun vs H Q E => ∃ (a : A) (B F : Hp) (Gs : List Hp), All3 K F (sl a) Gs (vs.map some) ∧ Same F H ∧ Same B H ∧ (∀ G ∈ Gs, Priv G B F H) ∧ Gs.Pairwise Dj ∧
  match f a with
  | .ok r => ∀ v H' F' G', Same B H' → Ext F B F' H' → Priv G' B F' H' → (kr r).P K F' G' (some v) → Q v H'
  | .exc x => ∀ cls d H', mg x.cls = some cls → Same B H' → payRep x.pay d H' → E cls d H'
  | .stuck => False
theorem All3.len {K : Frag} {F : Hp} : ∀ {ss : List Slot} {Gs : List Hp} {σ : L2.St}, All3 K F ss Gs σ → ss.length = σ.length ∧ Gs.length = σ.length
  | [], [], [], _ => ⟨rfl, rfl⟩
  | _ :: _, _ :: _, _ :: _, h => ⟨congrArg (· + 1) (All3.len h.2).1, congrArg (· + 1) (All3.len h.2).2⟩
  | [], _ :: _, _, h => h.elim
  | [], [], _ :: _, h => h.elim
  | _ :: _, [], _, h => h.elim
  | _ :: _, _ :: _, [], h => h.elim
structure CalO (P : Program) (w : World) (K : Frag) (mg : Str → Option Value) (base : Heap) (k : Nat) (x : Str) {A R : Type} (sl : A → List Slot) (g : A → Res R) (kr : R → Slot) : Prop where
  ex : ∃ f fd ps, FnOk P w K mg base (L2.CX P w) k f fd ps (spO K mg sl g kr) ∧ mg x = some (.ref f) ∧ PySem.W.keepIn K (.ref f) = true ∧ Binds K fd ps []
section
variable {P : Program} {w : World} {K : Frag} {mg : Str → Option Value} {base : Heap}
end
section
variable {X : Cx} {W : WX} {ss : List Slot} {k j : Nat} {x : Str} {A R : Type} {sl : A → List Slot} {g : A → Res R} {kr : R → Slot} {p pos : Pos} {e : Expr} {es : List Expr}
end
end G

namespace G
open PySem PySem.Spec PyProof.Rows L2
section
variable {X : Cx} {W : WX} {ss : List Slot} {pos : Pos} {e e2 : Expr}
def insR {α : Type} (xs : List α) (k : Int) (a : α) : Res (List α) := guardR (big xs.length && (decide (0 ≤ k) && decide (k < 2 ^ 62))) (.ok (xs.take k.toNat ++ [a] ++ xs.drop k.toNat))
def popR {α : Type} (xs : List α) (k : Int) : Res (List α) := match ixN xs.length k with
  | some n => guardR (decide (-(2 ^ 62) ≤ k) && decide (k < 2 ^ 62)) (.ok (xs.eraseIdx n))
  | none => .stuck
theorem All2.erase {α β : Type} {P : α → β → Prop} : ∀ (i : Nat) {as : List α} {bs : List β}, All2 P as bs → All2 P (as.eraseIdx i) (bs.eraseIdx i)
  | _, [], [], _ => trivial
  | 0, _ :: _, _ :: _, ⟨_, y⟩ => y
  | i + 1, _ :: _, _ :: _, ⟨x, y⟩ => ⟨x, All2.erase i y⟩
  | _, [], _ :: _, x => x.elim
  | _, _ :: _, [], x => x.elim
end
end G

namespace G
open PySem PySem.Spec PyProof.Rows L2
def rGtT (K : Frag) : R2 := fun x y H Q => ∃ (a b : Addr) (i j k l : Int), x = .ref a ∧ y = .ref b ∧ SqT K H a [.int i, .int j] ∧ SqT K H b [.int k, .int l] ∧ Q (.bl (!leP (i, j) (k, l))) H
section
variable {X : Cx}
end
end G

namespace G
open PySem PySem.Spec PyProof.Rows L2
class Md where
  mg : PySem.Str → Option Value
def ExV (cls : Value) (d : Option Addr) (a : Addr) : HO := .ext fun h => ∃ (oe : Obj) (vs : Array Value), h.get? a = some oe ∧ Zc cls d oe ∧ oe.data = .fields vs
theorem exV_ok {P : Program} {w : World} {H : Hp} {h : Heap} {a : Addr} {cls : Value} {d : Option Addr} {oe : Obj} (e : h.get? a = some oe) (z : Zc cls d oe) (hv : ∃ vs, oe.data = .fields vs) : ObjOk P w H h a (ExV cls d a) :=
  ⟨by obtain ⟨vs, hv⟩ := hv; exact ⟨oe, vs, e, z, hv⟩, ⟨oe, e⟩, fun _ _ ⟨o, v, q, r⟩ k => ⟨o, v, k o q, r⟩⟩
theorem Inv.adopt {X : Cx} {pins : List (Addr × Obj)} {σ : L2.St} {H : Hp} {s : Shared} {a : Addr} {oe : Obj} {φ : Heap → Prop} (J : Inv X pins σ H s) (at_ : s.heap.get? a = some oe) (fresh : H a = none) (young : X.s_0.heap.get? a = none) (notL : a ≠ X.env.locals) (notC : ∀ v, oe.data ≠ .cell v)
    (away : ∀ p ∈ X.pn ++ pins, p.1 ≠ a) (ob : ObjOk X.prog X.w H s.heap a (.ext φ)) : Inv X pins σ (upd H a (.frz oe (.ext φ))) s where
  ok := J.ok
  os := J.os
  bare := J.bare
  base := ⟨J.base.keep, J.base.slot, fun b o e n hb => (upd_ne (fun z => (by rw [z, young] at e; cases e) : b ≠ a)).trans (J.base.free b o e n hb), J.base.there,
    fun b xs e => (upd_ne (ne_of_none (J.base.tups b xs e) fresh)).trans (J.base.tups b xs e), fun b o u e => (upd_ne (ne_of_none (J.base.frzs b o u e) fresh)).trans (J.base.frzs b o u e), fun b ps e => by
      obtain ⟨more, q⟩ := J.base.tbls b ps e
      exact ⟨more, (upd_ne (ne_of_none q fresh)).trans q⟩⟩
  loc := J.loc
  cell := J.cell
  free := (upd_ne (Ne.symm notL)).trans J.free
  freeC := fun x c e => (upd_ne (fun z => (by
    obtain ⟨_, ob, w1, w2⟩ := J.cell x c e
    rw [z, at_] at w1
    cases w1
    exact notC _ w2) : c ≠ a)).trans (J.freeC x c e)
  pin := fun p m => ⟨(J.pin p m).1, (upd_ne (away p m)).trans (J.pin p m).2.1, (J.pin p m).2.2⟩
  hok := fun b u e => by
    by_cases same : b = a
    · rw [same, upd_same] at e
      cases e
      rw [same]
      exact ⟨at_, ob⟩
    · rw [upd_ne same] at e
      exact (J.hok b u e).stay (fun _ _ _ q => q) (fun _ q => (upd_ne (ne_of_none q fresh)).trans q) fun _ _ q => (upd_ne (ne_of_none q fresh)).trans q
  len := J.len
section
variable {X : Cx} {pins : List (Addr × Obj)} {σ : L2.St} {H : Hp} {B : Heap} {a : Addr} {cls : Value} {d : Option Addr} {sI s : Shared}
theorem Lies.kept (l : Lies X pins σ H B a cls d sI s) (hs : X.stack = X.env :: X.outer) (hf : X.env.frame = some X.env.locals) (hex : X.ex = []) {oe : Obj} (z : Zc cls d oe) (hv : ∃ vs, oe.data = .fields vs) {σ' : L2.St} {s' : Shared} (J : Inv (X.suite a ((a, oe) :: (X.pn ++ pins))) [] σ' H s') (ok : X.Ok) :
    Inv X pins σ' (upd H a (.frz oe (ExV cls d a))) s' := by
  obtain ⟨q1, q2, q3, q4, q5⟩ := J.pin (a, oe) (.head _)
  exact Inv.adopt (J.unsuite ok) q1 q2 (l.young hs hex) q3 q5 (l.away hs) (exV_ok q1 z hv)
theorem Lies.on (l : Lies X pins σ H B a cls d sI s) (hs : X.stack = X.env :: X.outer) (hf : X.env.frame = some X.env.locals) {W : WX} (tk : Takes X W) (wish : W cls d σ H) {Q : Flow → Shared → Prop} :
    wpAny (model X.prog X.w) X.A (handleBy (.ref a) X.env []) Q X.xe s := by
  refine wpAny_handleBy_nil ?_
  obtain ⟨oe, vs, tb, ot, ts, f1, f2, f3, f4, f5⟩ := l.air.2.2.2
  have away : wpAny (model X.prog X.w) X.A (setFlight (.ref a) X.env.frame) (fun _ => wpAny (model X.prog X.w) X.A (throw (.ref a) : Sem Flow) Q X.xe) X.xe s := by
    rw [hf]
    refine HandSPX.setFlight_upZ l.air fun h noted g => wpAny_throw (tk _ _ ⟨a, B, sI, pins, σ, H, cls, d, rfl, l.before, l.low, l.grew.trans g, .inr (.inr ?_), l.fresh, l.sys, l.gen, wish⟩)
    rw [hs]
    exact noted
  unfold PySem.passOn
  refine wpAny_bind (wpAny_field f1 f3 f4 ?_)
  have no : ¬ ((Value.ref tb == Value.none) = true) := fun z => by simp at z
  rw [if_neg no]
  first
    | exact wpAny_bind (wpAny_pure (wpAny_bind away))
    | exact wpAny_bind away
end
def wKeep (K : PySem.W.Frag) (c : Value) (i j : Nat) (Wout : WX) (D : Ends) : WX := fun cls d σ H =>
  ∃ b, PySem.W.exmOne K cls c = some b ∧ (b = true → ∀ a oe, H a = none → D.nx (((σ.set i (some (.ref a))).set j (some (.ref a))).set i none) (upd H a (.frz oe (ExV cls d a)))) ∧ (b = false → Wout cls d σ H)
section
variable {X : Cx} {x n v : Str} {c : Value} {i j : Nat} {body : List Stmt} {np pos pos' ep vp ap : Pos} {tb : WX → TS} {Wout : WX}
end
end G

namespace G
open PySem PySem.Spec PyProof.Rows L2
def IsEx (u : HO) (cls : Value) (d : Option Addr) (a : Addr) : Prop := ∃ φ, u = .ext φ ∧ ∀ h, φ h → ∃ (oe : Obj) (vs : Array Value), h.get? a = some oe ∧ Zc cls d oe ∧ oe.data = .fields vs
instance [Md] : Enc Exn := ⟨fun _ H v x => ∃ (a C : Addr) (d : Option Addr) (oe : Obj) (u : HO), v = .ref a ∧ Md.mg x.cls = some (.ref C) ∧ H a = some (.frz oe u) ∧ IsEx u (.ref C) d a ∧ payRep x.pay d H,
  fun s ⟨a, C, d, oe, u, e, h, q, z, p⟩ => ⟨a, C, d, oe, u, e, h, s _ _ q, z, payRep_mono s p⟩⟩
instance [Md] : Imm Exn := ⟨fun ⟨a, C, d, oe, u, e, h, q, z, p⟩ => ⟨a, C, d, oe, u, e, h, tups_some q rfl, z, payRep_tups p⟩⟩
instance [Md] : NN Exn := ⟨fun ⟨a, C, d, oe, u, e, _⟩ z => by rw [z] at e; cases e⟩
section
variable [Md] {X : Cx} {W : WX} {ss : List Slot}
end
section
variable {X : Cx}
def rIsV (K : Frag) : List V → Hp → VK → Prop := fun xs H Q => ∃ (a D : Addr) (d : Option Addr) (oe : Obj) (u : HO) (c : V) (cv : Value) (b : Bool), xs = [.ref a, c] ∧ (H a = some (.frz oe u) ∧ IsEx u (.ref D) d a) ∧ ExcC K D ∧ (∀ u, RelV c u → u = cv) ∧ PySem.W.kitOne K (.ref D) cv = some b ∧ dOk d H ∧ Q (.bl b) H
def rIsVT (K : Frag) : List V → Hp → VK → Prop := fun xs H Q => ∃ (a D : Addr) (d : Option Addr) (oe : Obj) (u : HO) (p : Addr) (vs : List V) (cvs : List Value) (b : Bool), xs = [.ref a, .ref p] ∧ (H a = some (.frz oe u) ∧ IsEx u (.ref D) d a) ∧ ExcC K D ∧ H p = some (.tup vs) ∧ (∀ us, Vals vs us → us = cvs) ∧ PySem.W.kitAny K (.ref D) cvs = some b ∧ dOk d H ∧ Q (.bl b) H
end
section
variable [Md] {X : Cx} {W : WX} {ss : List Slot} {e1 : Expr}
end
section
variable {X : Cx} {W : WX} {ss : List Slot} {e1 e2 : Expr}
def rCountD (K : Frag) : V → List V → Hp → VK → Prop := fun x xs H Q => ∃ (a : Addr) (y : V) (d : PyData) (ds : List PyData), x = V.ref a ∧ xs = [y] ∧ Dp K H (V.ref a) (.list ds) ∧ Dp K H y d ∧
  SeqAt.shaped (.list ds) = true ∧ SeqAt.shaped d = true ∧ Q (.int (ds.countP fun z => PyData.eqv z d : Nat)) H
def countD {α : Type} [Enc α] [Dat α] (xs : List α) (a : α) : Res Int := guardR (Dat.lay a && Dat.lay xs) (.ok ((xs.countP fun z => PyData.eqv (Dat.py z) (Dat.py a) : Nat) : Int))
def indexD {α : Type} [Enc α] [Dat α] (xs : List α) (a : α) : Res Int := guardR (Dat.lay a && Dat.lay xs) (match xs.findIdx? fun z => PyData.eqv (Dat.py z) (Dat.py a) with
  | some j => .ok (j : Int)
  | none => .stuck)
theorem xi_indexD {α : Type} [Enc α] [Dat α] {m : Res (List α)} {ma : Res α} {apos cpos : Pos} (hu : X.A.units + 65 < cLine) (h : XI X W ss e1 m) (h2 : XI X W ss e2 ma) (hd : Dat.dep α + 1 ≤ 64 := by decide)
    (hbase : attributeBase e1 "index" X.env (eval e1 X.env) = eval e1 X.env := by rfl)
    (hfew : ((backTo cpos (starEach [e2] X.env)).all (fun x => !x.1) && (backToKw cpos (keywordEach [] X.env)).all (fun x => x.1.isSome)
      && decide (([e2] : List Expr).length + ([] : List Keyword).length + (if ([] : List Keyword).isEmpty then 0 else 1) < 30)) = true := by rfl)
    (hline : (apos.endLine == cpos.line) = true := by rfl) (hs : starEach [e2] X.env = (false, eval e2 X.env) :: starEach [] X.env := by rfl) (hplain : (backTo cpos (starEach [] X.env)).any (·.1) = false := by rfl) :
    XI X W ss (.Call (.Attribute e1 "index" apos) [e2] [] cpos) (m.bind fun xs => ma.bind fun a => indexD xs a) := by
  refine PE_imp (pe_bm PySem.F.plainAttrs_list PySem.F.slot_list_index PySem.F.type_list_index (mt_indexD hu) h (pa_cons h2 pa_nil hs) hbase hfew hline hs hplain) fun σ H Q ⟨sl, q⟩ => ⟨sl, wpR_imp (wpR_bind q) (Same.refl H) fun xs q v H1 s1 r1 => ?_⟩
  have r1' := r1
  obtain ⟨p, vs, rfl, hp, r⟩ := r1
  refine ⟨.inl ⟨rfl, vs, SqL.of hp⟩, sl.mono s1 s1, wpR_imp (wpR_bind q) s1 fun a q u H2 s2 r2 => ?_⟩
  unfold indexD at q
  cases g : (Dat.lay a && Dat.lay xs) with
  | false => rw [g] at q; exact q.elim
  | true =>
    rw [g] at q
    rw [Bool.and_eq_true] at g
    have q : wpR X W (match xs.findIdx? fun z => PyData.eqv (Dat.py z) (Dat.py a) with | some j => .ok (j : Int) | none => Res.stuck) σ H _ := q
    cases ef : xs.findIdx? fun z => PyData.eqv (Dat.py z) (Dat.py a) with
    | none => rw [ef] at q; exact q.elim
    | some j =>
      rw [ef] at q
      obtain ⟨hj, hz, hno⟩ := List.findIdx?_eq_some_iff_getElem.mp ef
      refine ⟨p, u, _, xs.map Dat.py, j, Dat.py xs[j], rfl, rfl, Dat.dp (Enc.mono s2 r1'), Dat.dp r2, shaped_of (a := xs) g.2 hd, shaped_of g.1 (Nat.le_of_succ_le hd), by rw [List.getElem?_map, List.getElem?_eq_getElem hj]; rfl, hz, fun m z' hm hz' => ?_, q _ H2 (s1.trans s2) rfl⟩
      have hml : m < xs.length := Nat.lt_trans hm hj
      rw [List.getElem?_map, List.getElem?_eq_getElem hml] at hz'
      have hz' : Dat.py xs[m] = z' := Option.some.inj hz'
      rw [← hz']
      exact Bool.eq_false_iff.mpr (hno m hm)
end
end G

namespace G
open PySem PySem.Spec PyProof.Rows L2
section
variable {κ β : Type} [Enc κ] [DecidableEq κ] [DK κ] [Enc β]
def fzd (d : Dic κ β) : Slot :=
  ⟨fun K F _ o => ∃ p kvs ob, o = some (.ref p) ∧ F p = some (.frz ob (DK.ho kvs)) ∧ RepD K F kvs d.l, fun s _ ⟨p, kvs, ob, e, h, r⟩ => ⟨p, kvs, ob, e, s _ _ h, r.mono s⟩⟩
instance : View (fzd (κ := κ) (β := β)) := ⟨fun ⟨p, kvs, ob, e, g, r⟩ => by cases e; exact ⟨p, kvs, rfl, .inr ⟨ob, g⟩, r⟩⟩
variable {X : Cx} {W : WX} {ss : List Slot}
end
class DKI (κ : Type) [Enc κ] [DecidableEq κ] [DK κ] where
  it : Addr → Obj → List (κ × V) → It
  pi : ∀ {X : Cx} {tg e : Expr} {j : Nat}, PE X e (tVar j) → PI X tg e (fun σ H R => ∃ d o kvs, σ[j]? = some (some (V.ref d)) ∧ H d = some (.frz o (DK.ho (κ := κ) kvs)) ∧ R (it d o kvs) H)
  go : ∀ {H : Hp} {d : Addr} {o : Obj} {kvs : List (κ × V)} {i : Nat}, H d = some (.frz o (DK.ho kvs)) → i < kvs.length → (it d o kvs).go i H
  yld : ∀ {K : Frag} {H H' : Hp} {d : Addr} {o : Obj} {kvs : List (κ × V)} {i : Nat} {v : V}, (it d o kvs).yld i H v H' → H' = H ∧ ∃ kv, kvs[i]? = some kv ∧ Enc.rep K H v kv.1
  stop : ∀ {H : Hp} {d : Addr} {o : Obj} {kvs : List (κ × V)} {i : Nat}, H d = some (.frz o (DK.ho kvs)) → kvs.length ≤ i → (it d o kvs).stop i H
theorem get_map {α γ : Type} {f : α → γ} {l : List α} {i : Nat} {b : γ} (h : (l.map f)[i]? = some b) : ∃ a, l[i]? = some a ∧ f a = b := by
  rw [List.getElem?_map] at h
  cases e : l[i]? with
  | none => rw [e] at h; cases h
  | some a => rw [e] at h; exact ⟨a, rfl, Option.some.inj h⟩
def kI (kvs : List (Int × V)) : List (Key × V) := kvs.map fun kv => (Sum.inl kv.1, kv.2)
def kS (kvs : List (Str × V)) : List (Key × V) := kvs.map fun kv => (Sum.inr kv.1, kv.2)
def kP (kvs : List ((Int × Int) × V)) : List (List Key × V) := kvs.map fun kv => (key2 kv.1, kv.2)
theorem kI_len (kvs : List (Int × V)) : (kI kvs).length = kvs.length := List.length_map _
theorem kS_len (kvs : List (Str × V)) : (kS kvs).length = kvs.length := List.length_map _
theorem kP_len (kvs : List ((Int × Int) × V)) : (kP kvs).length = kvs.length := List.length_map _
instance : DKI Int where
  it := fun d o kvs => Itk d o (kI kvs)
  pi := fun he => PI_imp (pi_keys he) fun σ H R ⟨d, o, kvs, e, h, q⟩ => ⟨.ref d, e, d, o, rfl, .inl ⟨kI kvs, h, q⟩⟩
  go := fun {_ _ _ kvs _} h hi => ⟨h, by rw [kI_len]; exact hi⟩
  yld := fun ⟨e, k, v, h, hx⟩ => by
    obtain ⟨kv, q, z⟩ := get_map h
    cases z
    exact ⟨e, kv, q, hx⟩
  stop := fun {_ _ _ kvs _} h hi => ⟨h, by rw [kI_len]; exact hi⟩
instance : DKI Str where
  it := fun d o kvs => Itk d o (kS kvs)
  pi := fun he => PI_imp (pi_keys he) fun σ H R ⟨d, o, kvs, e, h, q⟩ => ⟨.ref d, e, d, o, rfl, .inl ⟨kS kvs, h, q⟩⟩
  go := fun {_ _ _ kvs _} h hi => ⟨h, by rw [kS_len]; exact hi⟩
  yld := fun ⟨e, k, v, h, hx⟩ => by
    obtain ⟨kv, q, z⟩ := get_map h
    cases z
    exact ⟨e, kv, q, hx⟩
  stop := fun {_ _ _ kvs _} h hi => ⟨h, by rw [kS_len]; exact hi⟩
instance : DKI (Int × Int) where
  it := fun d o kvs => Itkt d o (kP kvs)
  pi := fun he => PI_imp (pi_keys he) fun σ H R ⟨d, o, kvs, e, h, q⟩ => ⟨.ref d, e, d, o, rfl, .inr ⟨kP kvs, h, q⟩⟩
  go := fun {_ _ _ kvs _} h hi => ⟨h, by rw [kP_len]; exact hi⟩
  yld := fun ⟨e, k, v, a, h, hx, ha⟩ => by
    obtain ⟨kv, q, z⟩ := get_map h
    cases z
    exact ⟨e, kv, q, a, .int kv.1.1, .int kv.1.2, hx, ha, rfl, rfl⟩
  stop := fun {_ _ _ kvs _} h hi => ⟨h, by rw [kP_len]; exact hi⟩
section
variable {κ β : Type} [Enc κ] [DecidableEq κ] [DK κ] [DKI κ] [Imm κ] [Enc β] {X : Cx} {W : WX} {ss : List Slot}
end
end G

namespace G
open PySem PySem.Spec PyProof.Rows L2
section
variable {X : Cx} {C fI : Addr}
end
section
variable [Md] {X : Cx} {W : WX} {ss : List Slot} {e1 : Expr}
end
end G

namespace PySem
namespace BdsX
open PySem.W PySem.Calls PyProof.Rows PySem.HandSPX
def iA (p1 p2 : Pos) : Arguments := { posonlyargs := [], args := [{ arg := "self", annotation := none, pos := p1 }, { arg := "boards", annotation := none, pos := p2 }], vararg := none, kwonlyargs := [], kw_defaults := [], kwarg := none, defaults := [] }
def iB (q1 q2 q3 q4 : Pos) : List Stmt := [.Assign [.Attribute (.Name "self" q1) "boards" q2] (.Name "boards" q3) q4]
def iS : Scope := { kind := .function, names := [(PySem.Str.ofString "self", .local), (PySem.Str.ofString "boards", .local)], isGenerator := false, isCoroutine := false, more := [] }
structure BdsTxt (K : Frag) (mg : Str → Option Value) (C fI : Addr) : Prop where
  gC : mg "Round" = some (.ref C)
  cls : ∃ nm q N bs bm sn sub ab col dd k0 k1 k2 k3 k5, K.lookup C = some (excClassObj nm q C N bs bm true sn sub ab col dd k0 k1 k2 k3 k5 "ValueError.__new__") ∧ refsVE bm = true
  sa : findIn K (.ref C) "__setattr__" = some (some (.builtin "object.__setattr__"))
  ga : findIn K (.ref C) "__getattribute__" = some (some (.builtin "BaseException.__getattribute__"))
  gg : findIn K (.ref C) "__getattr__" = some none
  noN : findIn K (.ref C) "boards" = some none
  iC : findIn K (.ref C) "__init__" = some (some (.ref fI))
  tC : typeIn K (.ref fI) = some (.type "function")
  kC : keepIn K (.ref C) = true
  exC : subIn K (.ref C) (.type "BaseException") = some true
  tyC : typeIn K (.ref C) = some (.type "type")
  hdC : hasDictIn K C = true
  te : exmOne K (.ref C) (.ref C) = some true
  fn : ∃ (oc : Value) (od : Option Addr) (doc pm : Value) (an : Option Addr) (cdv ct : Value) (osl : Array (Option Value)) (p1 p2 q1 q2 q3 q4 : Pos),
    K.lookup fI = some ⟨oc, od, .func (fnOf "__init__" "Round.__init__" (iA p1 p2) (iB q1 q2 q3 q4) iS .none .none doc pm an cdv ct), osl⟩ ∧ codeIn K cdv "Round.__init__" = true
structure InitEnd (h h' : Heap) (x C dx t1 : Addr) (v : Value) : Prop where
  keep : ∀ b o, b ≠ x → h.get? b = some o → h'.get? b = some o
  obj : h'.get? x = some { cls := .ref C, dict := some dx, data := .fields #[.ref t1, .none, .none, .none, .bool false, .none] }
  dbig : h.objs.size ≤ dx
  dne : dx ≠ x
  ns : h'.Ns1 dx (fun y => if y = "boards" then some v else none)
structure OwnMade (h h' : Heap) (e C d : Addr) (v : Value) : Prop where
  keep : ∀ b o, h.get? b = some o → h'.get? b = some o
  new : h.objs.size ≤ e
  obj : ∃ oe vs, h'.get? e = some oe ∧ oe.cls = .ref C ∧ oe.dict = some d ∧ oe.data = .fields vs ∧ vs[1]? = some .none
  dbig : h.objs.size ≤ d
  dne : d ≠ e
  ns : h'.Ns1 d (fun y => if y = "boards" then some v else none)
section
variable {prog : Program} {w : World} {A : Around} {E : Value → Shared → Prop} {R : Result → Shared → Prop} {s : Shared} {K : Frag} {mg : Str → Option Value} {C fI : Addr}
end
end BdsX
end PySem
namespace L2
open PySem PySem.Spec PyProof.Rows
section
variable {X : Cx} {C fI : Addr}
def tMkBds (C : Addr) (ta : TA) : St → Hp → XK → Prop := fun σ H Q => ta σ H fun vs H1 => ∃ v, vs = [v] ∧ ∀ d, H1 d = none → Q (.ref C) (some d) (upd H1 d (.xd [(("boards" : Str), v)]))
end
end L2

namespace G
open PySem PySem.Spec PyProof.Rows L2
def HasBds (K : Frag) (mg : PySem.Str → Option Value) : Prop := ∃ C fI, PySem.BdsX.BdsTxt K mg C fI
structure FzL where
  l : List Str
instance : Enc FzL := ⟨fun K H v x => ∃ p, v = .ref p ∧ SqL K H p (x.l.map V.str), fun s ⟨p, e, h⟩ => ⟨p, e, s.seq h⟩⟩
theorem dp_strs {K : Frag} {H : Hp} : ∀ xs : List Str, DpAll K H (xs.map V.str) (xs.map PyData.str)
  | [] => .nil
  | x :: xs => .cons (.str x) (dp_strs xs)
theorem lay_strs : ∀ {xs : List Str}, xs.all PyData.strOk = true → PyData.canLayAll0 (xs.map PyData.str) = true
  | [], _ => by simp [PyData.canLayAll0]
  | x :: xs, h => by
    rw [List.all_cons, Bool.and_eq_true] at h
    simp only [List.map_cons, PyData.canLayAll0, Bool.and_eq_true]
    exact ⟨by simpa [PyData.canLay0] using h.1, lay_strs h.2⟩
theorem dep_strs : ∀ xs : List Str, PyData.depthAll (xs.map PyData.str) ≤ 0
  | [] => by simp [PyData.depthAll]
  | x :: xs => by
    simp only [List.map_cons, PyData.depthAll]
    exact Nat.max_le.mpr ⟨by simp [PyData.depth], dep_strs xs⟩
instance : Dat FzL where
  py := fun x => .list (x.l.map .str)
  dp := fun ⟨p, e, h⟩ => by rw [e]; exact .lst h (dp_strs _)
  lay := fun x => x.l.all PyData.strOk
  dep := 1
  layOk := fun h => by simp only [PyData.canLay0]; exact lay_strs h
  depOk := fun x => by simp only [PyData.depth]; exact Nat.succ_le_succ (dep_strs x.l)
def boardsR (x : Exn) : Res FzL := match x.pay with
  | .strs xs => if x.cls = "Round" then .ok ⟨xs⟩ else .stuck
  | _ => .stuck
section
variable {X : Cx} {C fI : Addr}
end
section
variable [Md] {X : Cx} {W : WX} {ss : List Slot} {e1 : Expr}
end
end G

namespace G
open PySem PySem.Spec PyProof.Rows L2
inductive OrP where
  | pr (x : Int × Int)
  | dy (d : Dy)
instance : Inhabited OrP := ⟨.dy .non⟩
instance : Enc OrP := ⟨fun K H v o => match o with
    | .pr x => Enc.rep K H v x
    | .dy d => Enc.rep K H v d,
  fun {K H H' v o} s h => by
    cases o with
    | pr x => exact Enc.mono (α := Int × Int) s h
    | dy d => exact Enc.mono (α := Dy) s h⟩
instance : ToDy OrP := ⟨fun o => match o with
    | .pr x => ToDy.dy x
    | .dy d => d,
  fun {K H v o} h => by
    cases o with
    | pr x => exact ToDy.rep (α := Int × Int) h
    | dy d => exact h⟩
def prP : OrP → Res (Int × Int)
  | .pr x => .ok x
  | .dy _ => .stuck
section
variable {X : Cx} {W : WX} {ss : List Slot} {e : Expr}
end
end G
namespace G
open PySem PySem.Spec PyProof.Rows L2
section
variable {X : Cx} {W : WX} {ss : List Slot} {κ β : Type} [Enc κ] [DecidableEq κ] [DK κ] [Enc β]
end
end G

namespace G
open PySem PySem.Spec PyProof.Rows L2
section
variable {X : Cx}
def rInDT (neg : Bool) (K : Frag) : R2 := fun x y H Q => ∃ d ds, Dp K H x d ∧ Dp K H y (.tuple ds) ∧ SeqAt.shaped d = true ∧ SeqAt.shaped (.tuple ds) = true ∧ Q (.bl (neg != ds.any fun z => PyData.eqv z d)) H
end
def inDT {α : Type} [Enc α] [Dat α] (a : α) (xs : Tup α) : Res Bool := guardR (Dat.lay a && Dat.lay xs) (.ok (xs.l.any fun z => PyData.eqv (Dat.py z) (Dat.py a)))
def ninDT {α : Type} [Enc α] [Dat α] (a : α) (xs : Tup α) : Res Bool := guardR (Dat.lay a && Dat.lay xs) (.ok (!xs.l.any fun z => PyData.eqv (Dat.py z) (Dat.py a)))
section
variable {X : Cx} {W : WX} {ss : List Slot}
end
instance {α : Type} [Enc α] : NNO (l1 (α := α)) := ⟨fun ⟨_, _, e, _⟩ z => by rw [z] at e; cases e⟩
instance {α : Type} [Enc α] {d : Ow α} : NNO (lsO d) := ⟨fun ⟨_, _, _, e, _⟩ z => by rw [z] at e; cases e⟩
section
variable {X : Cx}
def rRemD (K : Frag) : V → List V → Hp → VK → Prop := fun x xs H Q => ∃ (l : Addr) (vs : List V) (y : V) (d : PyData) (ds : List PyData) (j : Nat), x = V.ref l ∧ xs = [y] ∧ H l = some (.lst vs) ∧ DpAll K H vs ds ∧ Dp K H y d ∧
  SeqAt.shaped (.list ds) = true ∧ SeqAt.shaped d = true ∧ SeqAt.dataPlace ds d = some j ∧ Q .non (upd H l (.lst (vs.eraseIdx j)))
end
def remR {α : Type} [Enc α] [Dat α] (xs : List α) (a : α) : Res (List α) := guardR (Dat.lay a && Dat.lay xs) (match xs.findIdx? fun z => PyData.eqv (Dat.py z) (Dat.py a) with
  | some j => .ok (xs.eraseIdx j)
  | none => .stuck)
section
variable {X : Cx} {W : WX} {ss : List Slot} {e : Expr} {pos : Pos}
end
end G

namespace G
open PySem PySem.Spec PyProof.Rows L2
section
variable {X : Cx} {W : WX} {ss : List Slot} {rest : List Stmt} {pos : Pos} {e : Expr}
end
def ltS (x y : Str) : Bool := PySem.W.dataLt (.str x) (.str y)
def minT (x : Str) (xs : List Str) : Str := xs.foldl (fun a y => if ltS y a then y else a) x
section
variable {X : Cx}
def rMinT (K : Frag) : List V → Hp → VK → Prop := fun vs H Q => ∃ (a : Addr) (x : Str) (xs : List Str), vs = [V.ref a] ∧ SqL K H a ((x :: xs).map V.str) ∧ Q (.str (minT x xs)) H
end
def minTL : List Str → Res Str
  | [] => .stuck
  | x :: xs => .ok (minT x xs)
section
variable {X : Cx} {W : WX} {ss : List Slot} {k : Nat} {a : Expr} {p pos : Pos}
end
end G

namespace G
open PySem PySem.Spec PyProof.Rows L2
section
variable {prog : Program} {w : World} {A : Around} {E : Value → Shared → Prop} {s : Shared} {a kS : Addr} {vs : List Value} {keys : Array Value} {e e1 : Nat} {P : PySem.Fin → Shared → Prop}
end
theorem FpOk.un {X : Cx} {pins : List (Addr × Obj)} {H H' : Hp} {b : Addr} (f : FpOk X pins H b) (n : H' b = none) : FpOk X pins H' b := ⟨n, f.2⟩
class Kpy (κ : Type) [Enc κ] where
  py : κ → PyData
  fit : κ → Bool
  dp : ∀ {K : Frag} {H : Hp} {v : V} {k : κ}, fit k = true → Enc.rep K H v k → Dp K H v (py k)
  dep : ∀ {k : κ}, fit k = true → (py k).depth ≤ 60
instance {κ : Type} [Enc κ] [Dat κ] : Kpy κ := ⟨Dat.py, fun _ => decide (Dat.dep κ ≤ 60), fun _ r => Dat.dp r, fun {k} h => Nat.le_trans (Dat.depOk k) (of_decide_eq_true h)⟩
instance : Kpy Dy := ⟨dyPy, fun d => noDic d && decide ((dyPy d).depth ≤ 60), fun h r => dy_dp (Bool.and_eq_true_iff.mp h).1 r, fun h => of_decide_eq_true (Bool.and_eq_true_iff.mp h).2⟩
theorem dyPys_map : ∀ xs : List Dy, dyPys xs = xs.map dyPy
  | [] => by simp [dyPys]
  | x :: xs => by simp [dyPys, dyPys_map xs]
instance : Kpy (Tup Dy) := ⟨fun t => .tuple (t.l.map dyPy), fun t => noDic (.tup t.l) && decide ((dyPy (.tup t.l)).depth ≤ 60), fun {K H v k} h ⟨p, vs, e, hp, r⟩ => by
  have q := dy_dp (K := K) (H := H) (v := v) (Bool.and_eq_true_iff.mp h).1 (by rw [e]; exact .tup hp (by have := all2_dya (f := id) (fun v a h => h) r; rwa [List.map_id] at this))
  rw [dyPy, dyPys_map] at q
  exact q, fun {k} h => by
  have q := of_decide_eq_true (Bool.and_eq_true_iff.mp h).2
  rw [dyPy, dyPys_map] at q
  exact q⟩
def mapR {α β : Type} (f : α → Res β) : List α → Res (List β)
  | [] => .ok []
  | a :: as => (f a).bind fun b => (mapR f as).bind fun bs => .ok (b :: bs)
def isTup1 : PyData → Bool
  | .tuple (_ :: _) => true
  | _ => false
def noTup : PyData → Bool
  | .tuple _ => false
  | .none => false
  | _ => true
def srtB (ds : List PyData) : Bool := (ds.all fun a => ds.all fun b => PySem.W.alike a b) && (ds.all isTup1 || ds.all noTup)
def srtK {α κ : Type} [Enc κ] [Kpy κ] (xs : List α) (ks : List κ) : List α := ((xs.zip ks).mergeSort (PySem.W.dataLe false fun q : α × κ => Kpy.py q.2)).map (·.1)
def sortK {α κ : Type} [Enc κ] [Kpy κ] (f : α → Res κ) (xs : List α) : Res (List α) := match mapR f xs with
  | .ok ks => guardR (ks.all Kpy.fit && srtB (ks.map Kpy.py)) (.ok (srtK xs ks))
  | _ => .stuck
section
variable {X : Cx} {W : WX} {ss : List Slot} {e : Expr}
def srtD {α : Type} [Enc α] [Kpy α] (xs : List α) : List α := xs.mergeSort (PySem.W.dataLe false fun a : α => Kpy.py a)
def sortD {α : Type} [Enc α] [Kpy α] (xs : List α) : Res (List α) := guardR (xs.all Kpy.fit && srtB (xs.map Kpy.py)) (.ok (srtD xs))
end
end G

namespace G
open PySem PySem.Spec PyProof.Rows L2
section
variable {X : Cx} {W : WX} {ss : List Slot} {pos : Pos}
end
end G

namespace L2
open PySem PySem.Spec PyProof.Rows
def rRepF (K : PySem.W.Frag) : R2 := fun x y H Q => ∃ l k xs, x = .ref l ∧ y = .int k ∧ SqT K H l xs ∧ xs ≠ [] ∧ -(2 ^ 63) ≤ k ∧ k ≤ 1 ∧ xs.length ≤ 1000 ∧ (k = 1 → Q x H) ∧ (k ≤ 0 → ∀ p, H p = none → Q (.ref p) (upd H p (.tup [])))
section
variable {X : Cx}
end
end L2
namespace G
open PySem PySem.Spec PyProof.Rows L2
section
variable {X : Cx} {W : WX} {ss : List Slot} {pos : Pos} {tg e : Expr}
def popL {α : Type} (xs : List α) : Res α := match xs.getLast? with
  | some a => .ok a
  | none => .stuck
theorem All2.dropLast {α β : Type} {P : α → β → Prop} {as : List α} {bs : List β} (h : All2 P as bs) : All2 P as.dropLast bs.dropLast := by
  rw [List.dropLast_eq_take, List.dropLast_eq_take, h.length]
  exact h.take _
def repA {α : Type} (x : Tup α) (k : Int) : Res (Tup α) := guardR (!x.l.isEmpty && (decide (-1000 ≤ k) && (decide (k ≤ 1000) && decide (x.l.length ≤ 1000)))) (.ok ⟨(List.replicate k.toNat x.l).flatten⟩)
def rNeNil (K : PySem.W.Frag) : R2 := fun x y H Q => ∃ p p' xs, x = .ref p ∧ y = .ref p' ∧ SqL K H p xs ∧ SqL K H p' [] ∧ Q (.bl (!xs.isEmpty)) H
def neNil {α β : Type} (a : List α) (b : List β) : Res Bool := guardR b.isEmpty (.ok (!a.isEmpty))
def shrR (i j : Int) : Res Int := guardR (decide (0 ≤ j)) (.ok (i / 2 ^ j.toNat))
end
end G

namespace G
open PySem PySem.Spec PyProof.Rows L2
section
variable {X : Cx}
def tellable : PyData → Bool
  | .int i => decide (i.natAbs.log2 < 1920)
  | .str x => decide ((reprText x).length ≤ sizeLine)
  | _ => true
def rRepr (K : Frag) : List V → Hp → VK → Prop := fun xs H Q => ∃ x d, xs = [x] ∧ Dp K H x d ∧ d.showable = true ∧ d.hasDict = false ∧ d.depth ≤ 60 ∧ tellable d = true ∧ d.shown.length ≤ sizeLine ∧ Q (.str d.shown) H
def reprD (d : Dy) : Res Str := guardR (noDic d && ((dyPy d).showable && (!(dyPy d).hasDict && (decide ((dyPy d).depth ≤ 60) && (tellable (dyPy d) && decide ((dyPy d).shown.length ≤ sizeLine)))))) (.ok (dyPy d).shown)
end
def intsD : List Dy → Option (List Int)
  | [] => some []
  | .int i :: ds => (intsD ds).map (i :: ·)
  | _ => none
def dyLI : Dy → Res (List Int)
  | .lst ds => match intsD ds with
    | some is => .ok is
    | none => .stuck
  | _ => .stuck
structure FnC (P : Program) (w : World) (K : Frag) (mg : Str → Option Value) (base : Heap) (CX : CXT) (f : Addr) (fd : FuncData) (ps : List Str) (sp : Sp) : Prop where
  go : ∀ (s : Shared) (H : Hp) (args : Args) (us : List Value) (vs : List V) (Q : VK) (E : L2.XK), Env0 P w K mg base callerA [] s H → BindsTo s fd args (ps.zip us) → Vals vs us → sp vs H Q E →
    codeAny (model P w) callerA (.call (.ref f) args) (CR CX [] P w H s Q E) s
theorem FnC.imp {P : Program} {w : World} {K : Frag} {mg : Str → Option Value} {base : Heap} {CX : CXT} {f : Addr} {fd : FuncData} {ps : List Str} {sp sp' : Sp} (F : FnC P w K mg base CX f fd ps sp) (h : ∀ vs H Q E, sp' vs H Q E → sp vs H Q E) : FnC P w K mg base CX f fd ps sp' :=
  ⟨fun s H args us vs Q E e b v q => F.go s H args us vs Q E e b v (h _ _ _ _ q)⟩
section
variable {P : Program} {w : World} {K : Frag} {mg : Str → Option Value} {base : Heap}
structure Top (K : Frag) (s : Shared) (a : Addr) (O : Obj) (xs : List V) (H : Hp) : Prop where
  one : ∀ b u, H b = some u → b = a ∧ K.lookup a = none ∧ u = .frz O (.lst xs)
  sq : SqL K H a xs
end
end G

namespace G
open PySem PySem.Spec PyProof.Rows L2
class EncF (α : Type) where
  rep : List Str → Frag → Hp → List (Str × V) → α → Prop
  mono : ∀ {ns : List Str} {K : Frag} {H H' : Hp} {l : List (Str × V)} {a : α}, Same H H' → rep ns K H l a → rep ns K H' l a
  len : ∀ {ns : List Str} {K : Frag} {H : Hp} {l : List (Str × V)} {a : α}, rep ns K H l a → l.length ≤ ns.length
  no : ∀ {ns : List Str} {K : Frag} {H : Hp} {l : List (Str × V)} {a : α}, rep ns K H l a → ∀ m, m ∉ ns → l.lookup m = none
theorem len_putF (f : Str) (v : V) : ∀ l : List (Str × V), (putF f v l).length ≤ l.length + 1
  | [] => Nat.le_refl _
  | (g, x) :: r => by
    show (if g = f then (g, v) :: r else (g, x) :: putF f v r).length ≤ _
    split
    · simp
    · have := len_putF f v r
      simp only [List.length_cons]; omega
instance : EncF Unit where
  rep := fun ns _ _ l _ => ns = [] ∧ l = []
  mono := fun _ h => h
  len := fun ⟨_, h⟩ => by rw [h]; exact Nat.zero_le _
  no := fun ⟨_, h⟩ m _ => by rw [h]; rfl
instance {α β : Type} [EncF α] [Enc β] : EncF (α × β) where
  rep := fun ns K H l x => ∃ f ns' l0 y, ns = f :: ns' ∧ l = putF f y l0 ∧ EncF.rep ns' K H l0 x.1 ∧ Enc.rep K H y x.2
  mono := fun s ⟨f, ns', l0, y, e, e2, h1, h2⟩ => ⟨f, ns', l0, y, e, e2, EncF.mono s h1, Enc.mono s h2⟩
  len := fun ⟨f, ns', l0, y, e, e2, h1, h2⟩ => by
    subst e; subst e2
    have a := len_putF f y l0
    have b := EncF.len h1
    rw [List.length_cons]; omega
  no := fun ⟨f, ns', l0, y, e, e2, h1, h2⟩ m hm => by
    subst e; subst e2
    rw [lookup_putF, if_neg (fun z => hm (by rw [z]; exact List.mem_cons_self))]
    exact EncF.no h1 m fun z => hm (List.mem_cons_of_mem _ z)
class ObN (nm : String) where
  fs : List Str
class ObC (nm : String) where
  C : Addr
structure Ob (nm : String) (α : Type) where
  v : α
instance {nm : String} {α : Type} [ObN nm] [ObC nm] [EncF α] : Enc (Ob nm α) where
  rep := fun K H v o => ∃ p dx l, v = .ref p ∧ H p = some (.ins (ObC.C nm) dx l) ∧ EncF.rep (ObN.fs nm) K H l o.v
  mono := fun s ⟨p, dx, l, e, h, r⟩ => ⟨p, dx, l, e, s _ _ h, EncF.mono s r⟩
structure ObOk (K : Frag) (nm : String) [ObN nm] [ObC nm] : Prop where
  cl : Cls K (ObC.C nm)
  na : ∀ f ∈ ObN.fs nm, NoAttr K (ObC.C nm) f
  sz : (ObN.fs nm).length ≤ 100
structure Sel {α β : Type} [EncF α] [Enc β] (ns : List Str) (f : Str) (g : α → β) : Prop where
  get : ∀ {K : Frag} {H : Hp} {l : List (Str × V)} {a : α}, EncF.rep ns K H l a → ∃ y, l.lookup f = some y ∧ Enc.rep K H y (g a)
  mem : f ∈ ns
section
variable {X : Cx} {W : WX} {ss : List Slot} {pos : Pos} {e : Expr}
end
section
variable {X : Cx} {CX : CXT} {k : Nat} {f C : Addr} {fd : FuncData} {ps : List Str} {sp : Sp} {dvs : List V} {ds : List Value} {E : L2.St → L2.XK} {x m : Str} {p pos apos : Pos} {e o : Expr} {es : List Expr} {ta : TE} {t : TA}
def tMethSD (C : Addr) (m : Str) (sp : Sp) (dvs : List V) (E : L2.St → L2.XK) (ta : TE) (t : TA) : TE := fun σ H Q => ta σ H fun x H1 => ∃ a dx fs, x = .ref a ∧ H1 a = some (.ins C dx fs) ∧ fs.lookup m = none ∧
  t σ H1 fun vs H2 => sp (x :: (vs ++ dvs)) H2 Q (E σ)
end
structure CalM (P : Program) (w : World) (K : Frag) (mg : Str → Option Value) (base : Heap) (k : Nat) (nm : String) [ObN nm] [ObC nm] (m : Str) {A' A R : Type} [EncA A'] [EncA A] (c : A' → A) (g : A → Res R) (kr : R → Slot) : Prop where
  ex : ∃ f fd ps dvs ds, FnOk P w K mg base (L2.CX P w) k f fd ps (spOf K mg g kr) ∧ Meth K (ObC.C nm) m f ∧ m ∉ ObN.fs nm ∧ Binds K fd ps ds ∧ Vals dvs ds ∧ ∀ H vs a, EncA.rep K H vs a → EncA.rep K H (vs ++ dvs) (c a)
structure IsMeth (K : Frag) (nm : String) [ObC nm] (qual m : Str) (st : Stmt) : Prop where
  ex : ∃ f fd, Fun K m qual st f fd ∧ Meth K (ObC.C nm) m f
section
variable {P : Program} {w : World} {K : Frag} {mg : Str → Option Value} {base : Heap}
end
section
variable {X : Cx} {W : WX} {ss : List Slot} {k j : Nat} {nm : String} [ObN nm] [ObC nm] {m : Str} {α A' A R : Type} [EncF α] [EncP A'] [EncA A] {c : Ob nm α × A' → A} {g : A → Res R} {kr : R → Slot} {p pos apos : Pos} {o e : Expr} {es : List Expr}
end
section
variable {X : Cx} {CX : CXT} {k : Nat} {f C : Addr} {fd : FuncData} {ps : List Str} {sp : Sp} {E : L2.St → L2.XK} {x : Str} {p pos : Pos} {e : Expr} {es : List Expr} {t : TA}
def tMakeSD (C : Addr) (sp : Sp) (E : L2.St → L2.XK) (t : TA) : TE := fun σ H Q => t σ H fun vs H1 => ∀ x dx, H1 x = none → H1 dx = none → dx ≠ x →
  sp (.ref x :: vs) (upd (upd H1 dx (.own x)) x (.ins C dx [])) (fun v H2 => v = .non ∧ Q (.ref x) H2) (E σ)
end
def nob (C : Addr) (p : Addr) (ns : List Str) {α : Type} [EncF α] (a : α) : Slot :=
  ⟨fun K F G o => o = some (.ref p) ∧ ∃ dx l, G p = some (.ins C dx l) ∧ EncF.rep ns K F l a, fun s t ⟨e, dx, l, h, r⟩ => ⟨e, dx, l, t _ _ h, EncF.mono s r⟩⟩
def iniK (C : Addr) (p : Addr) (ns : List Str) {α : Type} [EncF α] (a : α) : Slot :=
  ⟨fun K F G o => o = some .non ∧ ∃ dx l, G p = some (.ins C dx l) ∧ EncF.rep ns K F l a, fun s t ⟨e, dx, l, h, r⟩ => ⟨e, dx, l, t _ _ h, EncF.mono s r⟩⟩
section
variable {X : Cx} {W : WX} {ss : List Slot} {pos : Pos} {e : Expr}
end
def spI (K : Frag) (mg : Str → Option Value) (C : Addr) (ns : List Str) {A β : Type} [EncA A] [EncF β] (g : A → Res β) : Sp := fun vs H Q E => ∃ (a : A) (p dx : Addr) (us : List V) (B F : Hp), vs = .ref p :: us ∧ EncA.rep K F us a ∧ Same F B ∧ Same B H ∧
  H p = some (.ins C dx []) ∧ B p = none ∧
  match g a with
  | .ok b => ∀ H' F' dx' l, Same B H' → Ext F B F' H' → H' p = some (.ins C dx' l) → F' p = none → EncF.rep ns K F' l b → Q .non H'
  | .exc x => ∀ cls d H', mg x.cls = some cls → Same B H' → payRep x.pay d H' → E cls d H'
  | .stuck => False
section
variable {P : Program} {w : World} {K : Frag} {mg : Str → Option Value} {base : Heap}
end
structure CalI (P : Program) (w : World) (K : Frag) (mg : Str → Option Value) (base : Heap) (k : Nat) (nm : String) [ObN nm] [ObC nm] {A β : Type} [EncA A] [EncF β] (g : A → Res β) : Prop where
  ex : ∃ f fd ps, FnOk P w K mg base (L2.CX P w) k f fd ps (spI K mg (ObC.C nm) (ObN.fs nm) g) ∧ Mk K (ObC.C nm) f ∧ Binds K fd ps []
  gl : mg (PySem.Str.ofString nm) = some (.ref (ObC.C nm))
structure IsIni (K : Frag) (nm : String) [ObC nm] (qual : Str) (st : Stmt) : Prop where
  ex : ∃ f fd, Fun K "__init__" qual st f fd ∧ Mk K (ObC.C nm) f
section
variable {X : Cx} {W : WX} {ss : List Slot} {k j : Nat} {nm : String} [ObN nm] [ObC nm] {A β : Type} [EncA A] [EncF β] {g : A → Res β} {p pos : Pos} {e : Expr} {es : List Expr}
end
end G

namespace L2
open PySem PySem.Spec PyProof.Rows
section
variable {P : Program} {w : World} {A : Around} {E : Value → Shared → Prop} {s : Shared}
abbrev noneSet (w : World) : Obj := { cls := .type "set", dict := none, data := .set #[] 0 (.fresh 0 0 (!w.params.followText "set-order")) }
end
end L2

namespace L2
open PySem PySem.Spec PyProof.Rows
def rSetOfL (K : PySem.W.Frag) (w : World) : List V → Hp → VK → Prop := fun xs H Q => ∃ (l : Addr) (ns : List Int), xs = [V.ref l] ∧ SqL K H l (ns.map V.int) ∧ ns.length < 60 ∧
  ∀ (p : Addr) (n : Nat), H p = none → n ≤ ns.length → Q (.ref p) (upd H p (SetO w p (fun j => decide (j ∈ ns)) n))
end L2
namespace G
open PySem PySem.Spec PyProof.Rows L2
def onceI : List Int → List Int
  | [] => []
  | x :: xs => if x ∈ onceI xs then onceI xs else x :: onceI xs
def setI' (xs : List Int) : List Int := sortI (onceI xs)
section
variable {X : Cx} {W : WX} {ss : List Slot} {a : Expr} {pos q : Pos}
end
end G

namespace G
open PySem PySem.Spec PyProof.Rows L2
section
variable {P : Program} {w : World} {K : Frag} {mg : Str → Option Value} {base : Heap}
end
end G

namespace G
open PySem PySem.Spec PyProof.Rows L2
structure T6 (α β γ δ ε ζ : Type) where
  a : α
  b : β
  c : γ
  d : δ
  e : ε
  f : ζ
instance {α β γ δ ε ζ : Type} [Enc α] [Enc β] [Enc γ] [Enc δ] [Enc ε] [Enc ζ] : Enc (T6 α β γ δ ε ζ) :=
  ⟨fun K H v x => ∃ p v1 v2 v3 v4 v5 v6, v = .ref p ∧ H p = some (.tup [v1, v2, v3, v4, v5, v6]) ∧ Enc.rep K H v1 x.a ∧ Enc.rep K H v2 x.b ∧ Enc.rep K H v3 x.c ∧ Enc.rep K H v4 x.d ∧ Enc.rep K H v5 x.e ∧ Enc.rep K H v6 x.f,
   fun s ⟨p, v1, v2, v3, v4, v5, v6, e, h, r1, r2, r3, r4, r5, r6⟩ => ⟨p, v1, v2, v3, v4, v5, v6, e, s _ _ h, Enc.mono s r1, Enc.mono s r2, Enc.mono s r3, Enc.mono s r4, Enc.mono s r5, Enc.mono s r6⟩⟩
instance {α β γ δ ε ζ : Type} [Enc α] [Enc β] [Enc γ] [Enc δ] [Enc ε] [Enc ζ] [Imm α] [Imm β] [Imm γ] [Imm δ] [Imm ε] [Imm ζ] : Imm (T6 α β γ δ ε ζ) :=
  ⟨fun ⟨p, v1, v2, v3, v4, v5, v6, e, h, r1, r2, r3, r4, r5, r6⟩ => ⟨p, v1, v2, v3, v4, v5, v6, e, tups_some h rfl, Imm.imm r1, Imm.imm r2, Imm.imm r3, Imm.imm r4, Imm.imm r5, Imm.imm r6⟩⟩
instance {α β γ δ ε ζ : Type} [Inhabited α] [Inhabited β] [Inhabited γ] [Inhabited δ] [Inhabited ε] [Inhabited ζ] : Inhabited (T6 α β γ δ ε ζ) := ⟨⟨default, default, default, default, default, default⟩⟩
section
variable {X : Cx} {W : WX} {ss : List Slot} {pos : Pos} {kk : Nat} {e1 e2 e3 e4 e5 e6 a : Expr}
end
end G

namespace G
open PySem PySem.Spec PyProof.Rows L2
def inO (a : Option Int) (xs : List Int) : Bool := match a with
  | none => false
  | some i => decide (i ∈ xs)
section
variable {X : Cx}
end
end G

namespace G
open PySem PySem.Spec PyProof.Rows L2
section
variable {X : Cx} {W : WX} {ss : List Slot} {e : Expr}
end
end G

namespace G
open PySem PySem.Spec PyProof.Rows L2 L2H
structure FnQ (P : Program) (w : World) (K : PySem.W.Frag) (mg : Str → Option Value) (base : Heap) (CX : CXT) (k : Nat) (f : Addr) (fd : FuncData) (ps : List Str) (sp : Sp) : Prop where
  len : ∀ vs H Q E, sp vs H Q E → vs.length = ps.length
  run : ∀ (A : Around) (outer : List Env) (s : Shared) (H : Hp) (args : Args) (us : List Value) (vs : List V) (Q : VK) (E : L2.XK), RoomH k A → Env0 P w K mg base A outer s H → BindsTo s fd args (ps.zip us) → Vals vs us → sp vs H Q E →
    codeAny (model P w) A (.call (.ref f) args) (CR CX outer P w H s Q E) s
def cxQ (CX : CXT) (P : Program) (w : World) (K : PySem.W.Frag) (mg : Str → Option Value) (base : Heap) (N : List Str) (qual : Str) (scope : Scope) (f : Addr) (cd : Value) (A : Around) (outer : List Env) (s : Shared) (H : Hp) (E : L2.XK) : Cx :=
  { cxOf CX P w K mg base N qual scope f cd A outer s H E with calm := false }
section
variable {X : Cx} {CX : CXT} {k : Nat} {f C : Addr} {fd : FuncData} {ps : List Str} {sp : Sp} {E : L2.St → L2.XK} {x m : Str} {q pos apos : Pos} {e o : Expr} {es : List Expr} {ta : TE} {t : TA}
end
structure CalQ (P : Program) (w : World) (K : Frag) (mg : Str → Option Value) (base : Heap) (k : Nat) (x : Str) {A R : Type} [EncA A] (g : A → Res R) (kr : R → Slot) : Prop where
  ex : ∃ f fd ps, FnQ P w K mg base (L2.CX P w) k f fd ps (spOf K mg g kr) ∧ mg x = some (.ref f) ∧ PySem.W.keepIn K (.ref f) = true ∧ Binds K fd ps []
section
variable {P : Program} {w : World} {K : Frag} {mg : Str → Option Value} {base : Heap}
end
section
variable {X : Cx} {W : WX} {ss : List Slot} {k j : Nat} {x : Str} {A R : Type} [EncA A] {g : A → Res R} {kr : R → Slot} {p pos : Pos} {e : Expr} {es : List Expr}
end
end G
namespace G
open PySem PySem.Spec PyProof.Rows L2 L2H
end G

namespace G
open PySem PySem.Spec PyProof.Rows L2
structure FnG (P : Program) (w : World) (K : PySem.W.Frag) (mg : Str → Option Value) (base : Heap) (CX : CXT) (k : Nat) (f : Addr) (fd : FuncData) (ps : List Str) (sp : Sp) : Prop where
  len : ∀ vs H Q E, sp vs H Q E → vs.length = ps.length
  run : ∀ (A : Around) (outer : List Env) (s : Shared) (H : Hp) (args : Args) (us : List Value) (vs : List V) (Q : VK) (E : L2.XK), A.guards = some [] → Room k A → Env0 P w K mg base A outer s H → BindsTo s fd args (ps.zip us) → Vals vs us → sp vs H Q E →
    codeAny (model P w) A (.call (.ref f) args) (CR CX outer P w H s Q E) s
section
variable {X : Cx} {CX : CXT} {k : Nat} {f C : Addr} {fd : FuncData} {ps : List Str} {sp : Sp} {E : L2.St → L2.XK} {x m : Str} {q pos apos : Pos} {e o : Expr} {es : List Expr} {ta : TE} {t : TA}
end
structure CalG (P : Program) (w : World) (K : Frag) (mg : Str → Option Value) (base : Heap) (k : Nat) (x : Str) {A R : Type} [EncA A] (g : A → Res R) (kr : R → Slot) : Prop where
  ex : ∃ f fd ps, FnG P w K mg base (L2.CX P w) k f fd ps (spOf K mg g kr) ∧ mg x = some (.ref f) ∧ PySem.W.keepIn K (.ref f) = true ∧ Binds K fd ps []
section
variable {P : Program} {w : World} {K : Frag} {mg : Str → Option Value} {base : Heap}
end
section
variable {X : Cx} {W : WX} {ss : List Slot} {k j : Nat} {x : Str} {A R : Type} [EncA A] {g : A → Res R} {kr : R → Slot} {p pos : Pos} {e : Expr} {es : List Expr}
end
end G

namespace G
open PySem PySem.Spec PyProof.Rows L2
def inDy (a : Dy) (xs : List Dy) : Res Bool := guardR ((noDic a && noDics xs) && (SeqAt.shaped (dyPy a) && SeqAt.shaped (.list (dyPys xs)))) (.ok ((dyPys xs).any fun z => PyData.eqv z (dyPy a)))
def ninDy (a : Dy) (xs : List Dy) : Res Bool := guardR ((noDic a && noDics xs) && (SeqAt.shaped (dyPy a) && SeqAt.shaped (.list (dyPys xs)))) (.ok (!(dyPys xs).any fun z => PyData.eqv z (dyPy a)))
section
variable {X : Cx}
end
end G
namespace G
open PySem PySem.Spec PyProof.Rows L2
def castL {β : Type} (c : Dy → Res β) : List Dy → Res (List β)
  | [] => .ok []
  | d :: ds => (c d).bind fun b => (castL c ds).bind fun bs => .ok (b :: bs)
def dyLof {β : Type} (c : Dy → Res β) : Dy → Res (List β) | .lst xs => castL c xs | _ => .stuck
abbrev dyLL : Dy → Res (List (List Int)) := dyLof dyLI
end G

namespace G
open PySem PySem.Spec PyProof.Rows L2
structure OwF (α : Type) [EncF α] where
  own : List Str → Frag → Hp → Hp → List (Str × V) → α → Prop
  mF : ∀ {ns : List Str} {K : Frag} {F F' G : Hp} {l : List (Str × V)} {a : α}, Same F F' → own ns K F G l a → own ns K F' G l a
  mG : ∀ {ns : List Str} {K : Frag} {F G G' : Hp} {l : List (Str × V)} {a : α}, Same G G' → own ns K F G l a → own ns K F G' l a
  view : ∀ {ns : List Str} {K : Frag} {F G H : Hp} {l : List (Str × V)} {a : α}, own ns K F G l a → Same F H → Same G H → EncF.rep ns K H l a
def unF : OwF Unit := ⟨fun ns _ _ _ l _ => ns = [] ∧ l = [], fun _ h => h, fun _ h => h, fun h _ _ => h⟩
def coF {α β : Type} [EncF α] [Enc β] (d : OwF α) (d' : Ow β) : OwF (α × β) :=
  ⟨fun ns K F G l x => ∃ f ns' l0 y G1 G2, ns = f :: ns' ∧ l = putF f y l0 ∧ Same G1 G ∧ Same G2 G ∧ Dj G1 G2 ∧ d.own ns' K F G1 l0 x.1 ∧ d'.own K F G2 y x.2,
   fun s ⟨f, ns', l0, y, G1, G2, e, e2, a, b, c, h1, h2⟩ => ⟨f, ns', l0, y, G1, G2, e, e2, a, b, c, d.mF s h1, d'.mF s h2⟩,
   fun s ⟨f, ns', l0, y, G1, G2, e, e2, a, b, c, h1, h2⟩ => ⟨f, ns', l0, y, G1, G2, e, e2, a.trans s, b.trans s, c, h1, h2⟩,
   fun ⟨f, ns', l0, y, G1, G2, e, e2, a, b, c, h1, h2⟩ s t => ⟨f, ns', l0, y, e, e2, d.view h1 s (a.trans t), d'.view h2 s (b.trans t)⟩⟩
def obO {nm : String} [ObN nm] [ObC nm] {α : Type} [EncF α] (d : OwF α) : Ow (Ob nm α) :=
  ⟨fun K F G v o => ∃ p dx l G1, v = .ref p ∧ G p = some (.ins (ObC.C nm) dx l) ∧ Same G1 G ∧ G1 p = none ∧ d.own (ObN.fs nm) K F G1 l o.v,
   fun s ⟨p, dx, l, G1, e, h, a, b, r⟩ => ⟨p, dx, l, G1, e, h, a, b, d.mF s r⟩,
   fun s ⟨p, dx, l, G1, e, h, a, b, r⟩ => ⟨p, dx, l, G1, e, s _ _ h, a.trans s, b, r⟩,
   fun ⟨p, dx, l, G1, e, h, a, b, r⟩ s t => ⟨p, dx, l, e, t _ _ h, d.view r s (a.trans t)⟩⟩
class ImmF {α : Type} [EncF α] (d : OwF α) : Prop where
  imm : ∀ {ns : List Str} {K : Frag} {F G : Hp} {l : List (Str × V)} {a : α}, d.own ns K F G l a → d.own ns K (tups F) G l a
instance : ImmF unF := ⟨fun h => h⟩
instance {α β : Type} [EncF α] [Enc β] {d : OwF α} {d' : Ow β} [ImmF d] [ImmO d'] : ImmF (coF d d') :=
  ⟨fun ⟨f, ns', l0, y, G1, G2, e, e2, a, b, c, h1, h2⟩ => ⟨f, ns', l0, y, G1, G2, e, e2, a, b, c, ImmF.imm h1, ImmO.imm h2⟩⟩
instance {nm : String} [ObN nm] [ObC nm] {α : Type} [EncF α] {d : OwF α} [ImmF d] : ImmO (obO (nm := nm) d) := ⟨fun ⟨p, dx, l, G1, e, h, a, b, r⟩ => ⟨p, dx, l, G1, e, h, a, b, ImmF.imm r⟩⟩
instance {nm : String} [ObN nm] [ObC nm] {α : Type} [EncF α] {d : OwF α} : NNO (obO (nm := nm) d) := ⟨fun ⟨_, _, _, _, e, _⟩ z => by rw [e] at z; cases z⟩
def swp (G G2 N : Hp) : Hp := fun c => match N c with
  | some u => some u
  | none => match G2 c with
    | some _ => none
    | none => G c
structure SelO {α β : Type} [EncF α] [Enc β] (D : OwF α) (ns : List Str) (f : Str) (get : α → β) (put : α → β → α) (d' : Ow β) : Prop where
  sel : ∀ {K : Frag} {F G : Hp} {l : List (Str × V)} {a : α}, D.own ns K F G l a → ∃ y G2, l.lookup f = some y ∧ Same G2 G ∧ d'.own K F G2 y (get a) ∧
    ∀ {F' N : Hp} {y' : V} {b' : β}, Same F F' → d'.own K F' N y' b' → (∀ c, G c ≠ none → G2 c = none → N c = none) → D.own ns K F' (swp G G2 N) (putF f y' l) (put a b')
  mem : f ∈ ns
def po {α : Type} [Enc α] (v : V) (d : Ow α) (a : α) : Slot := ⟨fun K F G o => o = some v ∧ d.own K F G v a, fun s t ⟨e, r⟩ => ⟨e, d.mG t (d.mF s r)⟩⟩
structure OSl {α : Type} [Enc α] (d : Ow α) where
  S : α → Slot
  get : ∀ {K : Frag} {F G : Hp} {o : Option V} {a : α}, (S a).P K F G o → ∃ v, o = some v ∧ d.own K F G v a
  put : ∀ {K : Frag} {F F' G G' : Hp} {v : V} {a a' : α}, (S a).P K F G (some v) → d.own K F' G' v a' → (S a').P K F' G' (some v)
def osl {α : Type} [Enc α] (d : Ow α) : OSl d := ⟨os d, fun h => h, fun _ h => ⟨_, rfl, h⟩⟩
def osp {α : Type} [Enc α] (v : V) (d : Ow α) : OSl d := ⟨po v d, fun ⟨e, h⟩ => ⟨v, e, h⟩, fun ⟨e, _⟩ h => by cases e; exact ⟨rfl, h⟩⟩
instance {α : Type} [Enc α] {d : Ow α} {v : V} : View (po v d) := ⟨fun ⟨e, r⟩ => by cases e; exact d.view r (Same.refl _) (Same.refl _)⟩
theorem all3_osl {K : Frag} {F : Hp} {α : Type} [Enc α] {d : Ow α} (L : OSl d) {a : α} {ss : List Slot} {Gs : List Hp} {σ : L2.St} {i : Nat} (h : All3 K F ss Gs σ) (hs : ss[i]? = some (L.S a)) :
    ∃ G v, Gs[i]? = some G ∧ σ[i]? = some (some v) ∧ (L.S a).P K F G (some v) ∧ d.own K F G v a := by
  obtain ⟨G, o, h1, h2, r⟩ := h.get hs
  obtain ⟨v, e, q⟩ := L.get r
  subst e
  exact ⟨G, v, h1, h2, r, q⟩
section
variable {X : Cx} {W : WX} {ss : List Slot} {pos : Pos} {e a : Expr} {es : List Expr} {rest : List Stmt} {nm : String} [ObN nm] [ObC nm]
end
end G

namespace G
open PySem PySem.Spec PyProof.Rows L2
section
variable {X : Cx} {W : WX} {ss : List Slot} {k j : Nat} {nm : String} [ObN nm] [ObC nm] {m : Str} {α A' A R : Type} [EncF α] [EncP A'] [EncA A] {c : Ob nm α × A' → A} {g : A → Res R} {kr : R → Slot} {p pos apos : Pos} {o e : Expr} {es : List Expr}
end
section
variable {X : Cx} {CX : CXT} {k : Nat} {f C : Addr} {fd : FuncData} {ps : List Str} {sp : Sp} {dvs : List V} {ds : List Value} {E : L2.St → L2.XK} {x : Str} {p pos : Pos} {e : Expr} {es : List Expr} {t : TA}
def tMakeSV (C : Addr) (sp : Sp) (dvs : List V) (E : L2.St → L2.XK) (t : TA) : TE := fun σ H Q => t σ H fun vs H1 => ∀ x dx, H1 x = none → H1 dx = none → dx ≠ x →
  sp (.ref x :: (vs ++ dvs)) (upd (upd H1 dx (.own x)) x (.ins C dx [])) (fun v H2 => v = .non ∧ Q (.ref x) H2) (E σ)
end
def nobO (C : Addr) (p : Addr) (ns : List Str) {α : Type} [EncF α] (D : OwF α) (a : α) : Slot :=
  ⟨fun K F G o => o = some (.ref p) ∧ ∃ dx l G1, G p = some (.ins C dx l) ∧ Same G1 G ∧ G1 p = none ∧ D.own ns K F G1 l a, fun s t ⟨e, dx, l, G1, h, a, b, r⟩ => ⟨e, dx, l, G1, t _ _ h, a.trans t, b, D.mF s r⟩⟩
def iniO (C : Addr) (p : Addr) (ns : List Str) {α : Type} [EncF α] (D : OwF α) (a : α) : Slot :=
  ⟨fun K F G o => o = some .non ∧ ∃ dx l G1, G p = some (.ins C dx l) ∧ Same G1 G ∧ G1 p = none ∧ D.own ns K F G1 l a, fun s t ⟨e, dx, l, G1, h, a, b, r⟩ => ⟨e, dx, l, G1, t _ _ h, a.trans t, b, D.mF s r⟩⟩
section
variable {X : Cx} {W : WX} {ss : List Slot} {pos : Pos} {e : Expr}
end
def spIO (K : Frag) (mg : Str → Option Value) (C : Addr) (ns : List Str) {A β : Type} [EncA A] [EncF β] (D : OwF β) (g : A → Res β) : Sp := fun vs H Q E => ∃ (a : A) (p dx : Addr) (us : List V) (B F : Hp), vs = .ref p :: us ∧ EncA.rep K F us a ∧ Same F B ∧ Same B H ∧
  H p = some (.ins C dx []) ∧ B p = none ∧
  match g a with
  | .ok b => ∀ H' F' G' dx' l G1, Same B H' → Ext F B F' H' → Priv G' B F' H' → G' p = some (.ins C dx' l) → Same G1 G' → G1 p = none → D.own ns K F' G1 l b → Q .non H'
  | .exc x => ∀ cls d H', mg x.cls = some cls → Same B H' → payRep x.pay d H' → E cls d H'
  | .stuck => False
section
variable {P : Program} {w : World} {K : Frag} {mg : Str → Option Value} {base : Heap}
end
structure CalIO (P : Program) (w : World) (K : Frag) (mg : Str → Option Value) (base : Heap) (k : Nat) (nm : String) [ObN nm] [ObC nm] {A' A β : Type} [EncA A'] [EncA A] [EncF β] (D : OwF β) (c : A' → A) (g : A → Res β) : Prop where
  ex : ∃ f fd ps dvs ds, FnOk P w K mg base (L2.CX P w) k f fd ps (spIO K mg (ObC.C nm) (ObN.fs nm) D g) ∧ Mk K (ObC.C nm) f ∧ Binds K fd ps ds ∧ Vals dvs ds ∧ ∀ H vs a, EncA.rep K H vs a → EncA.rep K H (vs ++ dvs) (c a)
  gl : mg (PySem.Str.ofString nm) = some (.ref (ObC.C nm))
structure IsIniD (K : Frag) (nm : String) [ObC nm] (qual : Str) (st : Stmt) (dvs : List V) : Prop where
  ex : ∃ f fd, FunD K "__init__" qual (defArgs st) (defBody st) (defScope st) dvs [] f fd ∧ Mk K (ObC.C nm) f
def BndI (qual : Str) (st : Stmt) (ps : List Str) (m n j : Nat) : Prop := ∀ (T : Addr) (kV doc pm : Value) (an : Option Addr) (cdv ct : Value) (us its : List Value), us.length = n → its.length = m →
  ∃ k, bindArgs (PySem.W.fnOf "__init__" qual (defArgs st) (defBody st) (defScope st) (.ref T) kV doc pm an cdv ct) ⟨us, []⟩ = seqItems? (.ref T) >>= k ∧ k (some its.toArray) = pure (ps.zip (us ++ its.drop j))
section
variable {P : Program} {w : World} {K : Frag} {mg : Str → Option Value} {base : Heap}
end
section
variable {X : Cx} {W : WX} {ss : List Slot} {k j : Nat} {nm : String} [ObN nm] [ObC nm] {A' A β : Type} [EncA A'] [EncA A] [EncF β] {D : OwF β} {c : A' → A} {g : A → Res β} {p pos : Pos} {e : Expr} {es : List Expr}
end
end G

namespace G
open PySem PySem.Spec PyProof.Rows L2
def ex {α : Type} [Enc α] (v : V) (a : α) : Slot := ⟨fun K F _ o => o = some v ∧ Enc.rep K F v a, fun s _ ⟨e, r⟩ => ⟨e, Enc.mono s r⟩⟩
structure IoV {α : Type} [Enc α] (d : Ow α) where
  v : α
def OwnsAny (G : Hp) (Gs : List Hp) : Prop := ∀ c u, G c = some u → ∃ g ∈ Gs, g c = some u
class EncIO (A : Type) where
  Vs : Type
  Os : Type
  Ln : Type
  len : Nat
  vl : Vs → List V
  slX : Vs → A → List Slot
  sl : Vs → A → List Slot
  own : Frag → Hp → Hp → Vs → Os → Prop
  outs : Vs → List Slot → Os → Prop
  js : Ln → List Nat
  argR : Frag → Hp → List Slot → L2.St → Ln → List V → A → Prop
  tk : Ln → List Slot → List Slot
  pt : Ln → Os → List Slot → List Slot
  vll : ∀ u, (vl u).length = len
  sll : ∀ u a, (sl u a).length = len
  slXl : ∀ u a, (slX u a).length = len
  ownM : ∀ {K : Frag} {F F' G G' : Hp} {u : Vs} {o : Os}, Same F F' → Same G G' → own K F G u o → own K F' G' u o
  start : ∀ {K : Frag} {F H : Hp} {Gs : List Hp} {u : Vs} {a : A}, All3 K F (sl u a) Gs ((vl u).map some) → Same F H → (∀ G ∈ Gs, Same G H) → All3 K H (slX u a) (List.replicate len noHp) ((vl u).map some)
  exact : ∀ {K : Frag} {F : Hp} {Gs : List Hp} {u : Vs} {a : A} {ts : List Slot} {σ : L2.St}, All3 K F (slX u a ++ ts) Gs σ → ∃ Gl σl, Gs = Gs.take len ++ Gl ∧ σ = (vl u).map some ++ σl ∧ All3 K F ts Gl σl
  outG : ∀ {K : Frag} {F : Hp} {Gs : List Hp} {u : Vs} {ss : List Slot} {σ : L2.St} {o : Os}, outs u ss o → All3 K F ss Gs σ → Gs.Pairwise Dj → ∃ G, own K F G u o ∧ OwnsAny G Gs
  argM : ∀ {K : Frag} {F F' : Hp} {ss : List Slot} {σ : L2.St} {l : Ln} {vs : List V} {a : A}, Same F F' → argR K F ss σ l vs a → argR K F' ss σ l vs a
  argS : ∀ {K : Frag} {F : Hp} {ss : List Slot} {σ : L2.St} {l : Ln} {vs : List V} {a : A} {j : Nat} {s : Slot}, argR K F ss σ l vs a → j ∉ js l → argR K F (ss.set j s) σ l vs a
  take : ∀ {K : Frag} {B F0 H F : Hp} {ss : List Slot} {σ : L2.St} {Gs : List Hp} {l : Ln} {vs : List V} {a : A}, Asn K B F0 ss σ H F Gs → (js l).Nodup → argR K F ss σ l vs a →
    ∃ u Gc Gs', vs = vl u ∧ Asn K B F0 (tk l ss) σ H F Gs' ∧ (∀ G ∈ Gc, Fresh B F H Gs' G) ∧ Gc.Pairwise Dj ∧ All3 K F (sl u a) Gc (vs.map some) ∧ (∀ c, (∀ g ∈ Gs, g c = none) → (∀ g ∈ Gs', g c = none) ∧ ∀ g ∈ Gc, g c = none) ∧
      ∀ {H2 F2 G2 : Hp} {Gs2 : List Hp} {os : Os}, Asn K B F0 (tk l ss) σ H2 F2 Gs2 → own K F2 G2 u os → Fresh B F2 H2 Gs2 G2 → ∃ Gs3, Asn K B F0 (pt l os ss) σ H2 F2 Gs3 ∧ ∀ c, (∀ g ∈ Gs2, g c = none) → G2 c = none → ∀ g ∈ Gs3, g c = none
instance : EncIO Unit where
  Vs := Unit
  Os := Unit
  Ln := Unit
  len := 0
  vl := fun _ => []
  slX := fun _ _ => []
  sl := fun _ _ => []
  own := fun _ _ _ _ _ => True
  outs := fun _ _ _ => True
  js := fun _ => []
  argR := fun _ _ _ _ _ vs _ => vs = []
  tk := fun _ ss => ss
  pt := fun _ _ ss => ss
  vll := fun _ => rfl
  sll := fun _ _ => rfl
  slXl := fun _ _ => rfl
  ownM := fun _ _ _ => trivial
  start := fun _ _ _ => trivial
  exact := fun {K F Gs u a ts σ} h => ⟨Gs, σ, rfl, rfl, h⟩
  outG := fun _ _ _ => ⟨noHp, trivial, fun _ _ h => nomatch h⟩
  argM := fun _ h => h
  argS := fun h _ => h
  take := fun {K B F0 H F ss σ Gs l vs a} A _ h => ⟨(), [], Gs, h, A, (fun _ m => nomatch m), List.Pairwise.nil, by cases (show vs = [] from h); exact trivial, fun c h => ⟨h, fun _ m => nomatch m⟩, fun {H2 F2 G2 Gs2 os} A2 _ _ => ⟨Gs2, A2, fun c h _ => h⟩⟩
theorem all3_consInv {K : Frag} {F : Hp} {s : Slot} {ss : List Slot} {Gs : List Hp} {σ : L2.St} (h : All3 K F (s :: ss) Gs σ) : ∃ G Gs' o σ', Gs = G :: Gs' ∧ σ = o :: σ' ∧ s.P K F G o ∧ All3 K F ss Gs' σ' := by
  cases Gs with
  | nil => exact h.elim
  | cons G Gs =>
    cases σ with
    | nil => exact h.elim
    | cons o σ => exact ⟨G, Gs, o, σ, rfl, rfl, h.1, h.2⟩
theorem dj_any {G g : Hp} {Gs : List Hp} (d : ∀ g' ∈ Gs, Dj g g') (o : OwnsAny G Gs) : Dj g G := fun c => by
  cases e : G c with
  | none => exact .inr rfl
  | some u =>
    obtain ⟨g', m, e'⟩ := o c u e
    exact .inl ((d g' m c).elim id fun z => by rw [z] at e'; cases e')
instance ioFr {α A : Type} [Enc α] [T : EncIO A] : EncIO (α × A) where
  Vs := V × T.Vs
  Os := T.Os
  Ln := T.Ln
  len := T.len + 1
  vl := fun u => u.1 :: T.vl u.2
  slX := fun u a => ex u.1 a.1 :: T.slX u.2 a.2
  sl := fun u a => fr a.1 :: T.sl u.2 a.2
  own := fun K F G u o => T.own K F G u.2 o
  outs := fun u ss o => ∃ s ss', ss = s :: ss' ∧ T.outs u.2 ss' o
  js := T.js
  argR := fun K F ss σ l vs a => ∃ v vs', vs = v :: vs' ∧ Enc.rep K F v a.1 ∧ T.argR K F ss σ l vs' a.2
  tk := T.tk
  pt := T.pt
  vll := fun u => by rw [List.length_cons, T.vll]
  sll := fun u a => by rw [List.length_cons, T.sll]
  slXl := fun u a => by rw [List.length_cons, T.slXl]
  ownM := fun s t h => T.ownM s t h
  start := fun {K F H Gs u a} h s t => by
    obtain ⟨G, Gs', o, σ', e1, e2, h1, h2⟩ := all3_consInv h
    subst e1
    cases e2
    obtain ⟨v, e, r⟩ := h1
    cases e
    exact ⟨⟨rfl, Enc.mono s r⟩, T.start h2 s fun g m => t g (List.mem_cons_of_mem _ m)⟩
  exact := fun {K F Gs u a ts σ} h => by
    obtain ⟨G, Gs', o, σ', e1, e2, h1, h2⟩ := all3_consInv h
    obtain ⟨Gl, σl, q1, q2, q3⟩ := T.exact h2
    subst e1
    exact ⟨Gl, σl, by rw [List.take_succ_cons, List.cons_append, ← q1], by rw [e2, q2, h1.1]; rfl, q3⟩
  outG := fun {K F Gs u ss σ o} ⟨s, ss', e, h⟩ h2 d => by
    subst e
    obtain ⟨G, Gs', o2, σ', e1, e2, h3, h4⟩ := all3_consInv h2
    subst e1
    obtain ⟨G2, q1, q2⟩ := T.outG h h4 (List.pairwise_cons.mp d).2
    exact ⟨G2, q1, fun c u z => by
      obtain ⟨g, m, e⟩ := q2 c u z
      exact ⟨g, List.mem_cons_of_mem _ m, e⟩⟩
  argM := fun s ⟨v, vs', e, r, h⟩ => ⟨v, vs', e, Enc.mono s r, T.argM s h⟩
  argS := fun ⟨v, vs', e, r, h⟩ n => ⟨v, vs', e, r, T.argS h n⟩
  take := fun {K B F0 H F ss σ Gs l vs a} A nd ⟨v, vs', e, r, h⟩ => by
    subst e
    obtain ⟨u, Gc, Gs', e1, A1, f1, p1, a1, c1, back⟩ := T.take A nd h
    refine ⟨(v, u), noHp :: Gc, Gs', by rw [e1], A1, fun G m => ?_, List.pairwise_cons.mpr ⟨fun _ _ _ => .inl rfl, p1⟩, ⟨⟨v, rfl, r⟩, a1⟩, fun c h => ⟨(c1 c h).1, fun g m => ?_⟩, fun A2 o f2 => back A2 o f2⟩
    · rcases List.mem_cons.mp m with e | m
      · subst e; exact fun c u z => nomatch z
      · exact f1 G m
    · rcases List.mem_cons.mp m with e | m
      · subst e; rfl
      · exact (c1 c h).2 g m
instance ioIo {α A : Type} [Enc α] {d : Ow α} [T : EncIO A] : EncIO (IoV d × A) where
  Vs := V × T.Vs
  Os := α × T.Os
  Ln := (Nat × OSl d) × T.Ln
  len := T.len + 1
  vl := fun u => u.1 :: T.vl u.2
  slX := fun u a => ex u.1 a.1.v :: T.slX u.2 a.2
  sl := fun u a => po u.1 d a.1.v :: T.sl u.2 a.2
  own := fun K F G u o => ∃ G1 G2, Same G1 G ∧ Same G2 G ∧ Dj G1 G2 ∧ d.own K F G1 u.1 o.1 ∧ T.own K F G2 u.2 o.2
  outs := fun u ss o => ∃ ss', ss = po u.1 d o.1 :: ss' ∧ T.outs u.2 ss' o.2
  js := fun l => l.1.1 :: T.js l.2
  argR := fun K F ss σ l vs a => ∃ v vs', vs = v :: vs' ∧ ss[l.1.1]? = some (l.1.2.S a.1.v) ∧ σ[l.1.1]? = some (some v) ∧ T.argR K F ss σ l.2 vs' a.2
  tk := fun l ss => T.tk l.2 (ss.set l.1.1 any)
  pt := fun l o ss => (T.pt l.2 o.2 (ss.set l.1.1 any)).set l.1.1 (l.1.2.S o.1)
  vll := fun u => by rw [List.length_cons, T.vll]
  sll := fun u a => by rw [List.length_cons, T.sll]
  slXl := fun u a => by rw [List.length_cons, T.slXl]
  ownM := fun s t ⟨G1, G2, a, b, c, h1, h2⟩ => ⟨G1, G2, a.trans t, b.trans t, c, d.mF s h1, T.ownM s (Same.refl _) h2⟩
  start := fun {K F H Gs u a} h s t => by
    obtain ⟨G, Gs', o, σ', e1, e2, h1, h2⟩ := all3_consInv h
    subst e1
    cases e2
    exact ⟨⟨rfl, d.view h1.2 s (t G List.mem_cons_self)⟩, T.start h2 s fun g m => t g (List.mem_cons_of_mem _ m)⟩
  exact := fun {K F Gs u a ts σ} h => by
    obtain ⟨G, Gs', o, σ', e1, e2, h1, h2⟩ := all3_consInv h
    obtain ⟨Gl, σl, q1, q2, q3⟩ := T.exact h2
    subst e1
    exact ⟨Gl, σl, by rw [List.take_succ_cons, List.cons_append, ← q1], by rw [e2, q2, h1.1]; rfl, q3⟩
  outG := fun {K F Gs u ss σ o} ⟨ss', e, h⟩ h2 dj => by
    subst e
    obtain ⟨G, Gs', o2, σ', e1, e2, h3, h4⟩ := all3_consInv h2
    subst e1
    obtain ⟨d1, d2⟩ := List.pairwise_cons.mp dj
    obtain ⟨G2, q1, q2⟩ := T.outG h h4 d2
    have dd : Dj G G2 := dj_any d1 q2
    refine ⟨join G G2, ⟨G, G2, join_l, fun c u z => ?_, dd, h3.2, q1⟩, fun c u z => ?_⟩
    · unfold join
      rw [(dd c).elim id fun w => by rw [w] at z; cases z]; exact z
    · rcases join_or z with z | z
      · exact ⟨G, List.mem_cons_self, z⟩
      · obtain ⟨g, m, e⟩ := q2 c u z
        exact ⟨g, List.mem_cons_of_mem _ m, e⟩
  argM := fun s ⟨v, vs', e, r, r2, h⟩ => ⟨v, vs', e, r, r2, T.argM s h⟩
  argS := fun ⟨v, vs', e, r, r2, h⟩ n => ⟨v, vs', e, by rw [List.getElem?_set_ne (fun e => n (by rw [e]; exact List.mem_cons_self))]; exact r, r2, T.argS h fun m => n (List.mem_cons_of_mem _ m)⟩
  take := fun {K B F0 H F ss σ Gs l vs a} A nd ⟨v, vs', e, hs, hσ, h⟩ => by
    subst e
    obtain ⟨n1, n2⟩ := List.nodup_cons.mp nd
    obtain ⟨G, v', hG, hσ', hS, ho⟩ := all3_osl l.1.2 A.all hs
    have ev : v' = v := by rw [hσ] at hσ'; cases hσ'; rfl
    subst ev
    obtain ⟨A0, f0⟩ := A.take hG
    have hm := List.mem_of_getElem? hG
    obtain ⟨u, Gc, Gs', e1, A1, f1, p1, a1, c1, back⟩ := T.take A0 n2 (T.argS h n1)
    have inG : ∀ c, (∀ g ∈ Gs, g c = none) → ∀ g ∈ Gs.set l.1.1 noHp, g c = none := fun c h g m => by
      rcases List.mem_or_eq_of_mem_set m with m | e
      · exact h g m
      · subst e; rfl
    refine ⟨(v', u), G :: Gc, Gs', by rw [e1], A1, fun G' m => ?_, List.pairwise_cons.mpr ⟨fun g m c => ?_, p1⟩, ⟨⟨rfl, ho⟩, a1⟩, fun c h => ?_, fun {H2 F2 G2 Gs2 os} A2 o f2 => ?_⟩
    · rcases List.mem_cons.mp m with e | m
      · subst e
        intro c w z
        obtain ⟨k1, k2, k3, k4, k5⟩ := f0 c w z
        exact ⟨k1, k2, k3, k4, (c1 c k5).1⟩
      · exact f1 G' m
    · cases z : G c with
      | none => exact .inl rfl
      | some w => exact .inr ((c1 c (f0 c w z).2.2.2.2).2 g m)
    · refine ⟨(c1 c (inG c h)).1, fun g m => ?_⟩
      rcases List.mem_cons.mp m with e | m
      · subst e; exact h g hm
      · exact (c1 c (inG c h)).2 g m
    · obtain ⟨Ga, Gb, sa, sb, dab, oa, ob⟩ := o
      obtain ⟨Gs3, A3, c3⟩ := back A2 ob fun c w z => by
        obtain ⟨k1, k2, k3, k4, k5⟩ := f2 c w (sb _ _ z)
        exact ⟨k1, k2, k3, k4, k5⟩
      have f3 : Fresh B F2 H2 Gs3 Ga := fun c w z => by
        obtain ⟨k1, k2, k3, k4, k5⟩ := f2 c w (sa _ _ z)
        exact ⟨k1, k2, k3, k4, c3 c k5 ((dab c).elim (fun q => by rw [q] at z; cases z) id)⟩
      have A4 := A3.give f3 l.1.1 (l.1.2.put hS oa)
      rw [set_self hσ] at A4
      refine ⟨_, A4, fun c h1 h2 g m => ?_⟩
      rcases List.mem_or_eq_of_mem_set m with m | e
      · exact c3 c h1 (Same.free sb h2) g m
      · subst e; exact Same.free sa h2
def ioK {A R : Type} [EncIO A] (kr : R → Slot) (u : EncIO.Vs A) (r : R × EncIO.Os A) : Slot :=
  ⟨fun K F G o => ∃ G1 G2, Same G1 G ∧ Same G2 G ∧ Dj G1 G2 ∧ (kr r.1).P K F G1 o ∧ EncIO.own K F G2 u r.2, fun s t ⟨G1, G2, a, b, c, h1, h2⟩ => ⟨G1, G2, a.trans t, b.trans t, c, (kr r.1).mono s (Same.refl _) h1, EncIO.ownM s (Same.refl _) h2⟩⟩
def spM (K : Frag) (mg : Str → Option Value) {A R : Type} [EncIO A] (f : A → Res (R × EncIO.Os A)) (kr : R → Slot) : Sp := fun vs H Q E => ∃ (u : EncIO.Vs A) (a : A) (B F : Hp) (Gs : List Hp), vs = EncIO.vl u ∧ All3 K F (EncIO.sl u a) Gs (vs.map some) ∧ Same F H ∧ Same B H ∧ (∀ G ∈ Gs, Priv G B F H) ∧ Gs.Pairwise Dj ∧
  match f a with
  | .ok r => ∀ v H' F' G', Same B H' → Ext F B F' H' → Priv G' B F' H' → (ioK kr u r).P K F' G' (some v) → Q v H'
  | .exc x => ∀ cls d H', mg x.cls = some cls → Same H H' → payRep x.pay d H' → E cls d H'
  | .stuck => False
section
variable (X : Cx) (W : WX)
def wTM {A R : Type} [EncIO A] (e : Bool) (u : EncIO.Vs A) (a : A) (M : Res (R × EncIO.Os A)) (kr : R → Slot) : Ends → Hp → Hp → Prop := fun D B1 F1 => ∃ B F Gs, F1 = B1 ∧ Same F B1 ∧ Same B B1 ∧ (∀ G ∈ Gs, Priv G B F B1) ∧ Gs.Pairwise Dj ∧ All3 X.K F (EncIO.sl u a) Gs ((EncIO.vl u).map some) ∧
  (e = true → ∀ σ H, D.rt .non H → D.nx σ H) ∧ wpS X W M B1 fun r => RtOk X (ioK kr u) r D B F
def STM {A R : Type} [EncIO A] (e : Bool) (u : EncIO.Vs A) (a : A) (ss : List Slot) (st : List Stmt) (M : Res (R × EncIO.Os A)) (kr : R → Slot) : Prop := PSs X st (rdX X ss (wTM X W e u a M kr))
end
section
variable {X : Cx} {W : WX} {ss : List Slot} {st : Stmt} {rest : List Stmt} {A R : Type} [EncIO A] {u : EncIO.Vs A} {a : A} {kr : R → Slot}
inductive Sw : List Slot → List Slot → Prop
  | nil : Sw [] []
  | fr {α : Type} [Enc α] [Imm α] {x : α} {ss ts : List Slot} (h : Sw ss ts) : Sw (G.fr x :: ss) (G.fr x :: ts)
  | ow {α : Type} [Enc α] [Imm α] {x : List α} {ss ts : List Slot} (h : Sw ss ts) : Sw (G.ow x :: ss) (G.ow x :: ts)
  | any {s : Slot} {ss ts : List Slot} (h : Sw ss ts) : Sw (s :: ss) (G.any :: ts)
theorem Sw.all {K : Frag} {F1 F2 H1 : Hp} (s1 : Same F1 H1) (s2 : Same (tups H1) F2) {ss ts : List Slot} (h : Sw ss ts) : ∀ {Gs : List Hp} {σ : L2.St}, All3 K F1 ss Gs σ → All3 K F2 ts Gs σ := by
  induction h with
  | nil =>
    intro Gs σ h
    match Gs, σ, h with
    | [], [], _ => exact trivial
    | [], _ :: _, h => exact h.elim
    | _ :: _, _, h => exact h.elim
  | fr h ih =>
      intro Gs σ h
      obtain ⟨G, Gs', o, σ', e1, e2, ⟨v, e, r⟩, h2⟩ := all3_consInv h
      subst e1; subst e2
      exact ⟨⟨v, e, Enc.mono s2 (Imm.imm (Enc.mono s1 r))⟩, ih h2⟩
  | ow h ih =>
      intro Gs σ h
      obtain ⟨G, Gs', o, σ', e1, e2, ⟨p, vs, e, g, r⟩, h2⟩ := all3_consInv h
      subst e1; subst e2
      exact ⟨⟨p, vs, e, g, All2.imp (fun _ _ z => Enc.mono s2 (Imm.imm (Enc.mono s1 z))) r⟩, ih h2⟩
  | any h ih =>
      intro Gs σ h
      obtain ⟨G, Gs', o, σ', e1, e2, _, h2⟩ := all3_consInv h
      subst e1; subst e2
      exact ⟨trivial, ih h2⟩
theorem Sw.len {ss ts : List Slot} (h : Sw ss ts) : ss.length = ts.length := by
  induction h with
  | nil => rfl
  | fr h ih => rw [List.length_cons, List.length_cons, ih]
  | ow h ih => rw [List.length_cons, List.length_cons, ih]
  | any h ih => rw [List.length_cons, List.length_cons, ih]
theorem sm_take {e : Bool} {ls ts : List Slot} {sts : List Stmt} {M : Res (R × EncIO.Os A)} (h : ST X W e (EncIO.sl u a ++ ts) sts M (ioK kr u)) (sw : Sw ls ts) (hss : ss = EncIO.slX u a ++ ls := by rfl) : STM X W e u a ss sts (noX M) kr := by
  subst hss
  refine PSs_imp h fun D σ H ⟨B1, F0, F1, Gs1, A1, B, F, Gs, z1, sF, sB, pr, dj, z6, z7, q⟩ => ?_
  obtain ⟨Gl, σl, eG, eσ, al⟩ := EncIO.exact A1.all
  subst eσ
  have sub := A1.ext.sub
  have sFH : Same F H := sF.trans A1.base
  have nt : ∀ {c w}, H c = some w → isT w = false → tups H c = none := fun {c w} h1 h2 => by unfold tups; rw [h1]; simp [h2]
  refine ⟨B, F, join F (tups H), Gs ++ Gl, ⟨⟨join_l, join_le sFH (tups_le H), fun c w z => ?_⟩, sB.trans A1.base, ?_, fun G m c w z => ?_, ?_⟩, z7, ?_⟩
  · rcases join_or z with z | z
    · exact .inl z
    · exact .inr (.inr (tups_isT z))
  · exact All3.append (z6.mono join_l) (sw.all sub (join_r sFH (tups_le H)) al)
  · rcases List.mem_append.mp m with m | m
    · obtain ⟨k1, k2, k3, k4⟩ := pr G m c w z
      refine ⟨A1.base _ _ k1, k2, ?_, k4⟩
      unfold join; rw [k3]; exact nt (A1.base _ _ k1) k4
    · obtain ⟨k1, k2, k3, k4⟩ := A1.priv G (by rw [eG]; exact List.mem_append_right _ m) c w z
      refine ⟨k1, Same.free sB k2, ?_, k4⟩
      unfold join; rw [Same.free sF k2]; exact nt k1 k4
  · refine List.pairwise_append.mpr ⟨dj, ?_, fun g m g' m' c => ?_⟩
    · have := A1.dj
      rw [eG] at this
      exact (List.pairwise_append.mp this).2.1
    · cases z : g' c with
      | none => exact .inr rfl
      | some w =>
        have k2 := (A1.priv g' (by rw [eG]; exact List.mem_append_right _ m') c w z).2.1
        cases z2 : g c with
        | none => exact .inl rfl
        | some w2 => have := (pr g m c w2 z2).1; rw [k2] at this; cases this
  · revert q
    cases M with
    | ok r => exact fun q => q
    | exc x => exact fun q => q.elim
    | stuck => exact fun q => q.elim
theorem owns_priv {K : Frag} {B F0 H F G : Hp} {ss : List Slot} {σ : L2.St} {Gs : List Hp} (A : Asn K B F0 ss σ H F Gs) (o : OwnsAny G Gs) : Priv G B F H := fun c w z => by
  obtain ⟨g, m, e⟩ := o c w z
  exact A.priv g m c w e
theorem st_nilM {os : EncIO.Os A} (ho : EncIO.outs u ss os) : ST X W true ss [] (.ok ((), os)) (ioK (fr (α := Unit)) u) :=
  PSs_imp pss_nil fun D σ H ⟨B, F0, F, Gs, A, hD, q⟩ => by
    obtain ⟨G2, o2, own2⟩ := EncIO.outG ho A.all A.dj
    exact hD rfl σ H (q .non H F G2 A.base A.ext (owns_priv A own2) ⟨noHp, G2, fun _ _ h => (nomatch h), Same.refl _, fun _ => .inl rfl, ⟨_, rfl, rfl⟩, o2⟩)
end
section
variable {P : Program} {w : World} {K : Frag} {mg : Str → Option Value} {base : Heap}
theorem fn_okM {x qual : Str} {st : Stmt} {f : Addr} {fd : FuncData} {N ps : List Str} {k : Nat} {A R : Type} [EncIO A] {g : A → Res (R × EncIO.Os A)} {kr : R → Slot} (F : Fun K x qual st f fd) (S : FnScope N ps (defScope st)) (hl : EncIO.len A = ps.length)
    (hbody : ∀ (u : EncIO.Vs A) (a : A) (cdv : Value) (A' : Around) (outer : List Env) (s : Shared) (H : Hp) (E : L2.XK), Room k (A'.deeper (envOfC qual (defScope st) s.heap.objs.size f cdv)) →
      STM (cxOf (L2.CX P w) P w K mg base N qual (defScope st) f cdv A' outer s H E) (wE E) true u a (EncIO.slX u a ++ List.replicate (N.length - EncIO.len A) any) (defBody st) (g a) kr) :
    FnOk P w K mg base (L2.CX P w) (k + 1) f fd ps (spM K mg g kr) := by
  refine F.okX S (fun vs H Q E ⟨u, a, B, F0, Gs, e, _⟩ => by rw [e, EncIO.vll]; exact hl) fun cdv A' outer s H vs Q E hr ⟨u, a, B, F0, Gs, ev, r, sF, sB, pr, dj, q⟩ => ?_
  subst ev
  refine ⟨_, hbody u a cdv A' outer s H E hr, H, H, H, List.replicate (EncIO.len A) noHp ++ List.replicate (N.length - EncIO.len A) noHp, ⟨⟨Same.refl _, Same.refl _, fun _ _ h => .inl h⟩, Same.refl _, ?_, ?_, ?_⟩, B, F0, Gs, rfl, sF, sB, pr, dj, r, fun _ _ _ h => h, ?_⟩
  · have e : L2.start N (EncIO.vl u) = (EncIO.vl u).map some ++ List.replicate (N.length - EncIO.len A) none := by unfold L2.start; rw [EncIO.vll]
    rw [e]
    exact (EncIO.start r sF fun G m c w z => (pr G m c w z).1).append (all3_any _)
  · intro G m b w z
    rw [List.replicate_append_replicate] at m
    rw [(List.mem_replicate.mp m).2] at z
    cases z
  · rw [List.replicate_append_replicate]
    exact pw_no _
  · show wpS _ _ (g a) H _
    cases e : g a with
    | ok r' => rw [e] at q; exact fun v H' F' G' s1 ex pr k => q v H' F' G' s1 ex pr k
    | exc x => rw [e] at q; exact fun σ cls d H' h1 h2 h3 => q cls d H' h1 h2 h3
    | stuck => rw [e] at q; exact q
end
end G

namespace G
open PySem PySem.Spec PyProof.Rows L2
structure CalMu (P : Program) (w : World) (K : Frag) (mg : Str → Option Value) (base : Heap) (k : Nat) (nm : String) [ObN nm] [ObC nm] (m : Str) {A R : Type} [EncIO A] (g : A → Res (R × EncIO.Os A)) (kr : R → Slot) : Prop where
  ex : ∃ f fd ps, FnOk P w K mg base (L2.CX P w) k f fd ps (spM K mg g kr) ∧ Meth K (ObC.C nm) m f ∧ m ∉ ObN.fs nm ∧ Binds K fd ps []
structure CalFu (P : Program) (w : World) (K : Frag) (mg : Str → Option Value) (base : Heap) (k : Nat) (x : Str) {A R : Type} [EncIO A] (g : A → Res (R × EncIO.Os A)) (kr : R → Slot) : Prop where
  ex : ∃ f fd ps, FnOk P w K mg base (L2.CX P w) k f fd ps (spM K mg g kr) ∧ mg x = some (.ref f) ∧ PySem.W.keepIn K (.ref f) = true ∧ Binds K fd ps []
section
variable {P : Program} {w : World} {K : Frag} {mg : Str → Option Value} {base : Heap}
theorem cal_mkFu {x : Str} {st : Stmt} {N ps : List Str} {k : Nat} {A R : Type} [EncIO A] {g : A → Res (R × EncIO.Os A)} {kr : R → Slot} (D : IsDef K mg x st) (S : FnScope N ps (defScope st)) (hl : EncIO.len A = ps.length)
    (hb : ∀ (kV doc pm : Value) (an : Option Addr) (cdv ct : Value) (us : List Value), us.length = ps.length → bindArgs (PySem.W.fnOf x x (defArgs st) (defBody st) (defScope st) .none kV doc pm an cdv ct) ⟨us, []⟩ = pure (ps.zip us))
    (hbody : ∀ (u : EncIO.Vs A) (a : A) (f : Addr) (cdv : Value) (A' : Around) (outer : List Env) (s : Shared) (H : Hp) (E : L2.XK), Room k (A'.deeper (envOfC x (defScope st) s.heap.objs.size f cdv)) →
      STM (cxOf (L2.CX P w) P w K mg base N x (defScope st) f cdv A' outer s H E) (wE E) true u a (EncIO.slX u a ++ List.replicate (N.length - EncIO.len A) any) (defBody st) (g a) kr) :
    CalFu P w K mg base (k + 1) x g kr := by
  obtain ⟨f, fd, F, hm⟩ := D.ex
  exact ⟨f, fd, ps, fn_okM F S hl fun u a cdv A' outer s H E hr => hbody u a f cdv A' outer s H E hr, hm, F.kp, F.binds hb⟩
end
section
variable (X : Cx) (W : WX)
def rAL {A : Type} [EncIO A] (ss : List Slot) (l : EncIO.Ln A) (m : Res A) : TA := fun σ H Q =>
  ∃ F, Same F H ∧ Sl X.K F H ss σ ∧ wpR X W m σ H fun a => ∀ (vs : List V) H' F', Same H H' → Ext F H F' H' → EncIO.argR X.K F' ss σ l vs a → Q vs H'
def XAL {A : Type} [EncIO A] (ss : List Slot) (l : EncIO.Ln A) (es : List Expr) (m : Res A) : Prop := PA X es (rAL X W ss l m)
def rC {R T : Type} (ss : List Slot) (m : Res (R × T)) (post : T → List Slot) (kr : R → Slot) : TE := fun σ H Q => ∃ B F0 F Gs, Asn X.K B F0 ss σ H F Gs ∧
  wpR X W m σ H fun rt => ∀ v H' F' G' Gs', Asn X.K B F0 (post rt.2) σ H' F' Gs' → Fresh B F' H' Gs' G' → (kr rt.1).P X.K F' G' (some v) → Q v H'
def XC {R T : Type} (ss : List Slot) (e : Expr) (m : Res (R × T)) (post : T → List Slot) (kr : R → Slot) : Prop := PE X e (rC X W ss m post kr)
def rTC {T : Type} (ss : List Slot) (m : Res (Bool × T)) (post : T → List Slot) : TT := fun σ H Q => ∃ B F0 F Gs, Asn X.K B F0 ss σ H F Gs ∧
  wpR X W m σ H fun bt => ∀ H' F' Gs', Asn X.K B F0 (post bt.2) σ H' F' Gs' → Q bt.1 H'
def XTC {T : Type} (ss : List Slot) (e : Expr) (m : Res (Bool × T)) (post : T → List Slot) : Prop := PT X e (rTC X W ss m post)
end
open Classical in
noncomputable def less (H : Hp) (Gs : List Hp) : Hp := fun c => if ∃ g ∈ Gs, g c ≠ none then none else H c
theorem less_le {H : Hp} {Gs : List Hp} : Same (less H Gs) H := fun c u h => by
  unfold less at h
  split at h
  · cases h
  · exact h
theorem less_some {H : Hp} {Gs : List Hp} {c : Addr} {u : HO} (h : H c = some u) (n : ∀ g ∈ Gs, g c = none) : less H Gs c = some u := by
  unfold less
  rw [if_neg (fun ⟨g, m, z⟩ => z (n g m))]; exact h
theorem less_none {H : Hp} {Gs : List Hp} {c : Addr} {g : Hp} (m : g ∈ Gs) (z : g c ≠ none) : less H Gs c = none := by
  unfold less
  rw [if_pos ⟨g, m, z⟩]
section
variable {X : Cx} {W : WX} {ss : List Slot} {e a b : Expr} {es : List Expr} {st : Stmt} {rest : List Stmt} {pos : Pos}
theorem xal_nil : XAL X W ss () [] (.ok ()) := PA_imp pa_nil fun σ H Q ⟨F, a, sl, q⟩ => q [] H F (Same.refl H) ⟨Same.refl F, a, fun _ _ h => .inl h⟩ rfl
theorem xal_cons {α A : Type} [Enc α] [EncIO A] {l : EncIO.Ln A} {m : Res α} {r : Res A} (h : XK X W ss e m fr) (t : XAL X W ss l es r) (hs : starEach (e :: es) X.env = (false, eval e X.env) :: starEach es X.env := by rfl) :
    XAL (A := α × A) X W ss l (e :: es) (m.bind fun a => r.bind fun as => .ok (a, as)) := by
  refine PA_imp (pa_cons h t hs) fun σ H Q ⟨F, sf, sl, q⟩ => ⟨F, sf, sl, wpR_imp (wpR_bind q) (Same.refl H) fun a q v H1 F1 G1 s1 ex1 pr1 ⟨v', e1, k1⟩ => ⟨F1, ex1.sub, sl.mono ex1.le s1, wpR_imp (wpR_bind q) s1 fun as q vs H2 F2 s2 ex2 r2 => ?_⟩⟩
  cases e1
  exact q (v :: vs) H2 F2 (s1.trans s2) (ex1.trans s1 ex2) ⟨v, vs, rfl, Enc.mono ex2.le k1, r2⟩
theorem xal_io (j : Nat) {α A : Type} [Enc α] {d : Ow α} [EncIO A] (L : OSl d) {l : EncIO.Ln A} {x : α} {r : Res A} {n : Str} {p : Pos} (hx : ss[j]? = some (L.S x)) (t : XAL X W ss l es r) (hp : PE X (.Name n p) (tVar j) := by exact pv _) (hs : starEach (.Name n p :: es) X.env = (false, eval (.Name n p) X.env) :: starEach es X.env := by rfl) :
    XAL (A := IoV d × A) X W ss ((j, L), l) (.Name n p :: es) (r.bind fun as => .ok (⟨x⟩, as)) := by
  refine PA_imp (pa_cons hp t hs) fun σ H Q ⟨F, sf, sl, q⟩ => ?_
  obtain ⟨o, ho, hP⟩ := sl.get hx
  obtain ⟨v, e, r0⟩ := L.get hP
  subst e
  exact ⟨v, ho, F, sf, sl, wpR_imp (wpR_bind q) (Same.refl H) fun as q vs H2 F2 s2 ex2 r2 => q (v :: vs) H2 F2 s2 ex2 ⟨v, vs, rfl, hx, ho, r2⟩⟩
theorem Asn.callM {A R : Type} [EncIO A] {kr : R → Slot} {K : Frag} {mg : Str → Option Value} {g : A → Res (R × EncIO.Os A)} {l : EncIO.Ln A} {B F0 H F : Hp} {σ : L2.St} {Gs : List Hp} {vs : List V} {a : A} (A1 : Asn K B F0 ss σ H F Gs) (nd : (EncIO.js l).Nodup) (h : EncIO.argR K F ss σ l vs a) {Q : VK} {E : L2.XK}
    (q : match g a with
      | .ok r => ∀ v H' F' G' Gs', Same B H' → Asn K B F0 (EncIO.pt l r.2 ss) σ H' F' Gs' → Fresh B F' H' Gs' G' → (kr r.1).P K F' G' (some v) → Q v H'
      | .exc x => ∀ cls d H', mg x.cls = some cls → Same H H' → payRep x.pay d H' → E cls d H'
      | .stuck => False) : spM K mg g kr vs H Q E := by
  obtain ⟨u, Gc, Gs', ev, A2, f1, p1, a1, c1, back⟩ := EncIO.take A1 nd h
  subst ev
  have bn : ∀ {c w}, B c = some w → ∀ g ∈ Gc, g c = none := fun {c w} z g m => by
    cases e : g c with
    | none => rfl
    | some y => have := (f1 g m c y e).2.2.1; rw [z] at this; cases this
  refine ⟨u, a, less H Gc, F, Gc, rfl, a1, A2.ext.sub, less_le, fun G m c w z => ?_, p1, ?_⟩
  · obtain ⟨k1, k2, k3, k4, k5⟩ := f1 G m c w z
    exact ⟨k1, less_none m (by rw [z]; exact fun h => nomatch h), k4, k2⟩
  · cases eg : g a with
    | stuck => rw [eg] at q; exact q
    | exc x => rw [eg] at q; exact q
    | ok r =>
      rw [eg] at q
      intro v H' F' G' sB ex pr ⟨G1, G2, s1, s2, d12, k1, k2⟩
      have hB : Same B H' := fun c w z => sB _ _ (less_some (A2.base _ _ z) (bn z))
      have out : ∀ {g c w}, g ∈ Gs' → g c = some w → less H Gc c = some w := fun {g c w} m z => less_some (A2.sub g m _ _ z) fun g' m' => by
        cases e : g' c with
        | none => rfl
        | some y => have := (f1 g' m' c y e).2.2.2.2 g m; rw [z] at this; cases this
      have A3 : Asn K B F0 (EncIO.tk l ss) σ H' F' Gs' := by
        refine ⟨⟨A2.ext.le.trans ex.le, ex.sub, fun c w z => ?_⟩, hB, A2.all.mono ex.le, fun G m c w z => ?_, A2.dj⟩
        · rcases ex.new c w z with y | y | y
          · exact A2.ext.new c w y
          · refine .inr (.inl ?_)
            cases e : B c with
            | none => rfl
            | some b => rw [less_some (A2.base _ _ e) (bn e)] at y; cases y
          · exact .inr (.inr y)
        · obtain ⟨h1, h2, h3, h4⟩ := A2.priv G m c w z
          have hl := out m z
          refine ⟨sB _ _ hl, h2, ?_, h4⟩
          cases e : F' c with
          | none => rfl
          | some y =>
            rcases ex.new c y e with q1 | q1 | q1
            · rw [h3] at q1; cases q1
            · rw [hl] at q1; cases q1
            · have := ex.sub _ _ e
              rw [sB _ _ hl] at this; cases this
              rw [h4] at q1; cases q1
      have fr2 : Fresh B F' H' Gs' G' := fun c w z => by
        obtain ⟨h1, h2, h3, h4⟩ := pr c w z
        refine ⟨h1, h4, ?_, h3, fun g m => ?_⟩
        · cases e : B c with
          | none => rfl
          | some b => rw [less_some (A2.base _ _ e) (bn e)] at h2; cases h2
        · cases e : g c with
          | none => rfl
          | some y => rw [out m e] at h2; cases h2
      obtain ⟨Gs3, A4, c3⟩ := back A3 k2 fun c w z => fr2 c w (s2 _ _ z)
      refine q v H' F' G1 Gs3 hB A4 (fun c w z => ?_) k1
      obtain ⟨h1, h2, h3, h4, h5⟩ := fr2 c w (s1 _ _ z)
      exact ⟨h1, h2, h3, h4, c3 c h5 ((d12 c).elim (fun y => by rw [y] at z; cases z) id)⟩
section
variable {k j : Nat} {A R : Type} [EncIO A] {l : EncIO.Ln A} {g : A → Res (R × EncIO.Os A)} {kr : R → Slot} {x : Str} {p apos : Pos}
theorem xc_fn (C : CalFu X.prog X.w X.K X.mg X.base j x g kr) (hr : Room k X.A) (tk : Takes X W) {m : Res A} (ha : XAL X W ss l (e :: es) m) (nd : (EncIO.js l).Nodup := by decide) (hj : j ≤ k := by decide) (hg : Gl X x := by rfl) (hdb : (x == ("__debug__" : Str)) = false := by decide)
    (he : starEach (e :: es) X.env = (false, eval e X.env) :: starEach es X.env := by rfl) (hpl : (backTo pos (starEach es X.env)).any (·.1) = false := by rfl) : XC X W ss (.Call (.Name x p) (e :: es) [] pos) (m.bind fun a => g a) (fun os => EncIO.pt l os ss) kr := by
  obtain ⟨f, fd, ps, F, hm, hk, hb⟩ := C.ex
  refine PE_imp (pe_callSD (E := fun σ cls d H => W cls d σ H) F (hr.mono hj) hg hm hk hb .nil (fun σ => passAt tk σ) ha hdb he hpl) fun σ H Q ⟨B, F0, F, Gs, A, q⟩ => ⟨F, A.ext.sub, A.sl, wpR_imp (wpR_bind q) (Same.refl H) fun a q vs H1 F1 s1 ex1 r1 => ?_⟩
  have A1 := A.grow s1 ex1
  show spM _ _ _ _ (vs ++ []) _ _ _
  rw [List.append_nil]
  refine A1.callM nd r1 ?_
  cases eg : g a with
  | ok r => rw [eg] at q; exact fun v H' F' G' Gs' _ A2 f2 k2 => q v H' F' G' Gs' A2 f2 k2
  | exc y => rw [eg] at q; exact fun cls d H' h1 h2 h3 => q cls d H' h1 (s1.trans h2) h3
  | stuck => rw [eg] at q; exact q
variable {nm : String} [ObN nm] [ObC nm] {α : Type} [EncF α] {D : OwF α} {mm : Str} {gm : IoV (obO (nm := nm) D) × A → Res (R × (Ob nm α × EncIO.Os A))}
end
variable {R T : Type} {m : Res (R × T)} {post : T → List Slot} {kr : R → Slot}
theorem s1_doC (h : XC X W ss e m post kr) (hs : swapsWith e none pos.line X.env = pure false := by rfl) : S1 X W ss (.Expr e pos) m (fun rt => post rt.2) :=
  PS_imp (ps_expr h hs) fun D σ H ⟨B, F0, F, Gs, A, q⟩ => ⟨B, F0, F, Gs, A, wpS_R q A.base fun rt q v H' F' G' Gs' A' f k => q σ H' F' Gs' A'⟩
section
variable {S L R' : Type} {pn : S → List Slot} {pl : L → List Slot} {kr' : R' → Slot}
end
end
end G

namespace G
open PySem PySem.Spec PyProof.Rows L2
section
variable {X : Cx} {W : WX} {ss : List Slot} {pos : Pos} {e : Expr}
end
end G

namespace G
open PySem PySem.Spec PyProof.Rows L2
def osw {α : Type} [Enc α] : OSl (l1 (α := α)) := ⟨ow, fun ⟨p, vs, e, g, r⟩ => ⟨.ref p, e, p, vs, rfl, g, r⟩, fun _ ⟨p, vs, e, g, r⟩ => ⟨p, vs, by rw [e], g, r⟩⟩
section
variable {X : Cx} {W : WX} {ss : List Slot} {st : Stmt} {rest : List Stmt} {A R : Type} [EncIO A] {u : EncIO.Vs A} {a : A} {kr : R → Slot} {e : Expr} {pos : Pos}
theorem STM.slots {ee : Bool} {ss' : List Slot} {sts : List Stmt} {M : Res (R × EncIO.Os A)} (h : STM X W ee u a ss' sts M kr) (q : ss = ss') : STM X W ee u a ss sts M kr := q ▸ h
theorem STM.cast {ee : Bool} {sts : List Stmt} {M M' : Res (R × EncIO.Os A)} (h : STM X W ee u a ss sts M kr) (q : M' = M) : STM X W ee u a ss sts M' kr := q ▸ h
end
end G
namespace G
open PySem PySem.Spec PyProof.Rows L2
theorem Cal.as {P : Program} {w : World} {K : Frag} {mg : Str → Option Value} {base : Heap} {k : Nat} {x y : Str} {A' A R : Type} [EncA A'] [EncA A] {c : A' → A} {g : A → Res R} {kr : R → Slot} (h : mg y = mg x) (C : Cal P w K mg base k x c g kr) : Cal P w K mg base k y c g kr := by
  obtain ⟨f, fd, ps, dvs, ds, h1, h2, h3⟩ := C.ex
  exact ⟨f, fd, ps, dvs, ds, h1, h.trans h2, h3⟩
end G
namespace G
open PySem PySem.Spec PyProof.Rows L2
end G

namespace G
open PySem PySem.Spec PyProof.Rows L2
section
variable {X : Cx} {W : WX} {ss : List Slot} {e : Expr} {pos : Pos}
end
end G

namespace G
open PySem PySem.Spec PyProof.Rows L2
section
variable {X : Cx} {W : WX} {ss : List Slot} {a b c : Expr} {pos : Pos}
end
end G

namespace G
open PySem PySem.Spec PyProof.Rows L2
def t4O {α β γ δ : Type} [Enc α] [Enc β] [Enc γ] [Enc δ] (d : Ow α) (d' : Ow γ) : Ow (T4 α β γ δ) :=
  ⟨fun K F G v x => ∃ p v1 v2 v3 v4 G1 G3, v = .ref p ∧ F p = some (.tup [v1, v2, v3, v4]) ∧ Same G1 G ∧ Same G3 G ∧ Dj G1 G3 ∧ d.own K F G1 v1 x.a ∧ Enc.rep K F v2 x.b ∧ d'.own K F G3 v3 x.c ∧ Enc.rep K F v4 x.d,
  fun s ⟨p, v1, v2, v3, v4, G1, G3, e, g, a1, a3, c, x, y, z, u⟩ => ⟨p, v1, v2, v3, v4, G1, G3, e, s _ _ g, a1, a3, c, d.mF s x, Enc.mono s y, d'.mF s z, Enc.mono s u⟩,
  fun s ⟨p, v1, v2, v3, v4, G1, G3, e, g, a1, a3, c, x, y, z, u⟩ => ⟨p, v1, v2, v3, v4, G1, G3, e, g, a1.trans s, a3.trans s, c, x, y, z, u⟩,
  fun ⟨p, v1, v2, v3, v4, G1, G3, e, g, a1, a3, c, x, y, z, u⟩ s t => ⟨p, v1, v2, v3, v4, e, s _ _ g, d.view x s (a1.trans t), Enc.mono s y, d'.view z s (a3.trans t), Enc.mono s u⟩⟩
abbrev t4l {α β γ δ : Type} [Enc α] [Enc β] [Enc γ] [Enc δ] : Ow (T4 (List α) β (List γ) δ) := t4O l1 l1
section
variable {X : Cx} {W : WX} {ss : List Slot} {e1 e2 e3 e4 : Expr} {pos : Pos}
end
end G

namespace G
open PySem PySem.Spec PyProof.Rows L2
section
variable {X : Cx} {W : WX} {ss : List Slot} {st : Stmt}
end
end G

namespace G
open PySem PySem.Spec PyProof.Rows L2
section
variable {X : Cx} {W : WX} {ss : List Slot} {e : Expr}
end
end G
namespace G
open PySem PySem.Spec PyProof.Rows L2
class Bare (α : Type) [Enc α] : Prop where
  up : ∀ {K : Frag} {H H' : Hp} {v : V} {a : α}, Enc.rep K H v a → Enc.rep K H' v a
instance : Bare Str := ⟨fun h => h⟩
instance : Bare Int := ⟨fun h => h⟩
instance : Bare Bool := ⟨fun h => h⟩
section
variable {X : Cx} {W : WX} {ss : List Slot} {e b : Expr} {pos : Pos} {T : Type} {post : T → List Slot}
end
end G

namespace G
open PySem PySem.Spec PyProof.Rows L2
class Pw where
  prog : Program
  w : World
structure PwX [Pw] (X : Cx) : Prop where
  p : X.prog = Pw.prog
  w : X.w = Pw.w
instance {α β γ : Type} [DecidableEq α] [DecidableEq β] [DecidableEq γ] : DecidableEq (T3 α β γ) := fun a b => match a, b with
  | ⟨a1, a2, a3⟩, ⟨b1, b2, b3⟩ => if h : a1 = b1 ∧ a2 = b2 ∧ a3 = b3 then .isTrue (by rw [h.1, h.2.1, h.2.2]) else .isFalse fun q => h (by cases q; exact ⟨rfl, rfl, rfl⟩)
mutual
/-- v holds the key k -/
inductive KH (K : Frag) (H : Hp) : NestedKey → V → Prop
  | non : KH K H .none .non
  | bl (b : Bool) : KH K H (.num (if b = true then 1 else 0)) (.bl b)
  | int (i : Int) : KH K H (.num i) (.int i)
  | str (x : Str) : KH K H (.text x) (.str x)
  | tup {p : Addr} {vs : List V} {ks : List NestedKey} : SqT K H p vs → KHs K H ks vs → KH K H (.tup ks) (.ref p)
inductive KHs (K : Frag) (H : Hp) : List NestedKey → List V → Prop
  | nil : KHs K H [] []
  | cons {k : NestedKey} {v : V} {ks : List NestedKey} {vs : List V} : KH K H k v → KHs K H ks vs → KHs K H (k :: ks) (v :: vs)
end
mutual
theorem KH.is {X : Cx} {pins : List (Addr × Obj)} {σ : L2.St} {H : Hp} {s : Shared} (I : Inv X pins σ H s) : ∀ {k : NestedKey} {v : V} {u : Value}, KH X.K H k v → RelV v u → NestedIs s.heap k u
  | _, _, u, .non, r => by obtain rfl : u = Value.none := r; exact .none
  | _, _, u, .bl b, r => by obtain rfl : u = Value.bool b := r; exact .bool rfl
  | _, _, u, .int i, r => by obtain ⟨t, rfl⟩ : ∃ t, u = Value.int i t := r; exact .int i t
  | _, _, u, .str x, r => by obtain ⟨t, rfl⟩ : ∃ t, u = Value.str x t := r; exact .text x t
  | _, _, u, .tup (p := p) q h, r => by
    obtain rfl : u = Value.ref p := r
    obtain ⟨its, rv, ⟨o, ho, hc, n, hd⟩, _⟩ := I.tuple q
    exact .tup ho hc hd (by simpa using KHs.is I h rv)
theorem KHs.is {X : Cx} {pins : List (Addr × Obj)} {σ : L2.St} {H : Hp} {s : Shared} (I : Inv X pins σ H s) : ∀ {ks : List NestedKey} {vs : List V} {us : List Value}, KHs X.K H ks vs → Vals vs us → NestedAll s.heap ks us
  | _, _, _, .nil, r => by cases r; exact .nil
  | _, _, _, .cons a b, r => by
    cases r with
    | cons r1 r2 => exact .cons (KH.is I a r1) (KHs.is I b r2)
end
mutual
theorem KH.mono {K : Frag} {H H' : Hp} (s : Same H H') : ∀ {k : NestedKey} {v : V}, KH K H k v → KH K H' k v
  | _, _, .non => .non
  | _, _, .bl b => .bl b
  | _, _, .int i => .int i
  | _, _, .str x => .str x
  | _, _, .tup q h => .tup (seqT s q) (KHs.mono s h)
theorem KHs.mono {K : Frag} {H H' : Hp} (s : Same H H') : ∀ {ks : List NestedKey} {vs : List V}, KHs K H ks vs → KHs K H' ks vs
  | _, _, .nil => .nil
  | _, _, .cons a b => .cons (KH.mono s a) (KHs.mono s b)
end
class NKc (α : Type) [Enc α] where
  nk : α → NestedKey
  inj : ∀ a b, nk a = nk b → a = b
  dp : Nat
  dep : ∀ a, (nk a).depth ≤ dp
  kh : ∀ {K : Frag} {H : Hp} {v : V} {a : α}, Enc.rep K H v a → KH K H (nk a) v
class NKr (α : Type) [Enc α] : Prop where
  rf : ∀ {K : Frag} {H : Hp} {v : V} {a : α}, Enc.rep K H v a → ∃ b, v = .ref b
instance : NKc Int := ⟨.num, fun _ _ e => by injection e, 0, fun _ => by simp [NestedKey.depth], fun h => by rw [show _ = V.int _ from h]; exact .int _⟩
instance : NKc Str := ⟨.text, fun _ _ e => by injection e, 0, fun _ => by simp [NestedKey.depth], fun h => by rw [show _ = V.str _ from h]; exact .str _⟩
instance : NKc Bool := ⟨fun b => .num (if b = true then 1 else 0), fun a b e => by cases a <;> cases b <;> first | rfl | (injection e with e; exact absurd e (by decide)), 0, fun _ => by simp [NestedKey.depth], fun h => by rw [show _ = V.bl _ from h]; exact .bl _⟩
instance : NKc (Option Int) := ⟨fun o => match o with | some i => .num i | none => .none, fun a b e => by
  cases a <;> cases b
  · rfl
  · cases e
  · cases e
  · injection e with e; rw [e], 0, fun a => by cases a <;> simp [NestedKey.depth], fun {K H v a} h => by
  cases a with
  | none => rw [show v = V.non from h]; exact .non
  | some i => rw [show v = V.int i from h.2]; exact .int i⟩
instance {α β : Type} [Enc α] [Enc β] [NKc α] [NKc β] : NKc (α × β) where
  nk := fun x => .tup [NKc.nk x.1, NKc.nk x.2]
  inj := fun a b e => by
    injection e with e
    injection e with e1 e
    injection e with e2 _
    exact Prod.ext (NKc.inj _ _ e1) (NKc.inj _ _ e2)
  dp := max (NKc.dp α) (NKc.dp β) + 1
  dep := fun x => by
    have h1 := NKc.dep x.1
    have h2 := NKc.dep x.2
    simp only [NestedKey.depth, NestedKey.depthAll]
    omega
  kh := fun {K H v a} ⟨p, v1, v2, e, h, r1, r2⟩ => by rw [e]; exact .tup (SqT.of h) (.cons (NKc.kh r1) (.cons (NKc.kh r2) .nil))
instance {α β : Type} [Enc α] [Enc β] : NKr (α × β) := ⟨fun ⟨p, v1, v2, e, _⟩ => ⟨p, e⟩⟩
instance {α β γ : Type} [Enc α] [Enc β] [Enc γ] [NKc α] [NKc β] [NKc γ] : NKc (T3 α β γ) where
  nk := fun x => .tup [NKc.nk x.a, NKc.nk x.b, NKc.nk x.c]
  inj := fun a b e => by
    injection e with e
    injection e with e1 e
    injection e with e2 e
    injection e with e3 _
    cases a; cases b
    simp only at e1 e2 e3
    rw [NKc.inj _ _ e1, NKc.inj _ _ e2, NKc.inj _ _ e3]
  dp := max (NKc.dp α) (max (NKc.dp β) (NKc.dp γ)) + 1
  dep := fun x => by
    have h1 := NKc.dep x.a
    have h2 := NKc.dep x.b
    have h3 := NKc.dep x.c
    simp only [NestedKey.depth, NestedKey.depthAll]
    omega
  kh := fun {K H v a} ⟨p, v1, v2, v3, e, h, r1, r2, r3⟩ => by rw [e]; exact .tup (SqT.of h) (.cons (NKc.kh r1) (.cons (NKc.kh r2) (.cons (NKc.kh r3) .nil)))
instance {α β γ : Type} [Enc α] [Enc β] [Enc γ] : NKr (T3 α β γ) := ⟨fun ⟨p, _, _, _, e, _⟩ => ⟨p, e⟩⟩
instance {α β γ δ : Type} [Enc α] [Enc β] [Enc γ] [Enc δ] [NKc α] [NKc β] [NKc γ] [NKc δ] : NKc (T4 α β γ δ) where
  nk := fun x => .tup [NKc.nk x.a, NKc.nk x.b, NKc.nk x.c, NKc.nk x.d]
  inj := fun a b e => by
    injection e with e
    injection e with e1 e
    injection e with e2 e
    injection e with e3 e
    injection e with e4 _
    cases a; cases b
    simp only at e1 e2 e3 e4
    rw [NKc.inj _ _ e1, NKc.inj _ _ e2, NKc.inj _ _ e3, NKc.inj _ _ e4]
  dp := max (max (NKc.dp α) (NKc.dp β)) (max (NKc.dp γ) (NKc.dp δ)) + 1
  dep := fun x => by
    have h1 := NKc.dep x.a
    have h2 := NKc.dep x.b
    have h3 := NKc.dep x.c
    have h4 := NKc.dep x.d
    simp only [NestedKey.depth, NestedKey.depthAll]
    omega
  kh := fun {K H v a} ⟨p, v1, v2, v3, v4, e, h, r1, r2, r3, r4⟩ => by rw [e]; exact .tup (SqT.of h) (.cons (NKc.kh r1) (.cons (NKc.kh r2) (.cons (NKc.kh r3) (.cons (NKc.kh r4) .nil))))
instance {α β γ δ : Type} [Enc α] [Enc β] [Enc γ] [Enc δ] : NKr (T4 α β γ δ) := ⟨fun ⟨p, _, _, _, _, e, _⟩ => ⟨p, e⟩⟩
theorem nk_map_inj {α : Type} [Enc α] [NKc α] : ∀ {a b : List α}, a.map NKc.nk = b.map NKc.nk → a = b
  | [], [], _ => rfl
  | [], _ :: _, e => by cases e
  | _ :: _, [], e => by cases e
  | x :: a, y :: b, e => by
    rw [List.map_cons, List.map_cons] at e
    injection e with e1 e2
    rw [NKc.inj _ _ e1, nk_map_inj e2]
theorem nk_map_dep {α : Type} [Enc α] [NKc α] : ∀ a : List α, NestedKey.depthAll (a.map NKc.nk) ≤ NKc.dp α
  | [] => by simp [NestedKey.depthAll]
  | x :: a => by
    have h1 := NKc.dep x
    have h2 := nk_map_dep a
    simp only [List.map_cons, NestedKey.depthAll]
    omega
theorem nk_map_kh {α : Type} [Enc α] [NKc α] {K : Frag} {H : Hp} : ∀ {vs : List V} {a : List α}, All2 (fun v a => Enc.rep K H v a) vs a → KHs K H (a.map NKc.nk) vs
  | [], [], _ => .nil
  | _ :: _, _ :: _, ⟨x, y⟩ => .cons (NKc.kh x) (nk_map_kh y)
  | [], _ :: _, h => h.elim
  | _ :: _, [], h => h.elim
instance {α : Type} [Enc α] [NKc α] : NKc (Tup α) where
  nk := fun x => .tup (x.l.map NKc.nk)
  inj := fun a b e => by
    injection e with e
    have e := nk_map_inj e
    cases a; cases b
    cases e; rfl
  dp := NKc.dp α + 1
  dep := fun x => by
    have h := nk_map_dep x.l
    simp only [NestedKey.depth]
    omega
  kh := fun {K H v a} ⟨p, vs, e, h, r⟩ => by rw [e]; exact .tup h (nk_map_kh r)
instance {α : Type} [Enc α] : NKr (Tup α) := ⟨fun ⟨p, _, e, _⟩ => ⟨p, e⟩⟩

abbrev NKV := NestedKey × Addr × V
abbrev NRel : List NKV → List (NestedKey × Addr × Value) → Prop := Paired fun p q => (p.1 = q.1 ∧ p.2.1 = q.2.1) ∧ RelV p.2.2 q.2.2
def nIs (P : Program) (w : World) (a : Addr) (kvs : List NKV) (h : Heap) : Prop :=
  (kvs.length ≤ sizeLine ∧ (a == sysModules) = false) ∧ ∃ (o : Obj) (es : Array DictEntry) (ep : Nat) (xs : List (NestedKey × Addr × Value)), h.get? a = some o ∧ (o.ExactDict ∧ o.data = .dict es ep) ∧ NRel kvs xs ∧
    es.toList = xs.map (entryOfKey (nestedKind P w)) ∧ (xs.map (·.1)).Nodup
def hN (P : Program) (w : World) (a : Addr) (kvs : List NKV) : HO := .ext (nIs P w a kvs)
theorem nObj {P P' : Program} {w w' : World} {H : Hp} {h : Heap} {a : Addr} {kvs : List NKV} (x : nIs P w a kvs h) : ObjOk P' w' H h a (hN P w a kvs) := by
  obtain ⟨z, o, es, ep, xs, ho, q⟩ := id x
  exact ⟨x, ⟨o, ho⟩, fun h1 h2 ⟨z, o, es, ep, xs, ho, q⟩ k => ⟨z, o, es, ep, xs, k o ho, q⟩⟩
theorem nRd {X : Cx} {pins : List (Addr × Obj)} {σ : L2.St} {H : Hp} {s : Shared} {P : Program} {w : World} {a : Addr} {kvs : List NKV} (I : Inv X pins σ H s) (e : Rd H a (hN P w a kvs)) : nIs P w a kvs s.heap :=
  (show ObjOk X.prog X.w H s.heap a (hN P w a kvs) from rd_of I.hok e).1
def valN (kvs : List NKV) (k : NestedKey) : Option V := (kvs.find? fun x => decide (x.1 = k)).map fun x => x.2.2
def putN (kvs : List NKV) (k : NestedKey) (b : Addr) (v : V) : List NKV :=
  if (valN kvs k).isSome = true then kvs.map (fun x => if x.1 = k then (x.1, x.2.1, v) else x) else kvs ++ [(k, b, v)]
theorem valN_pos {x : NKV} {r : List NKV} {k : NestedKey} (e : x.1 = k) : valN (x :: r) k = some x.2.2 := by simp [valN, List.find?_cons, e]
theorem valN_neg {x : NKV} {r : List NKV} {k : NestedKey} (e : ¬ x.1 = k) : valN (x :: r) k = valN r k := by simp [valN, List.find?_cons, e]
theorem NRel.val {kvs : List NKV} {xs : List (NestedKey × Addr × Value)} (r : NRel kvs xs) (k : NestedKey) : RelO (valN kvs k) ((atKey xs k).map (·.2)) := by
  induction r with
  | nil => exact True.intro
  | @cons p q ps qs h t ih =>
    by_cases e : p.1 = k
    · rw [valN_pos e, show atKey (q :: qs) k = some q.2 by simp [atKey, List.find?_cons, h.1.1.symm.trans e]]
      exact h.2
    · rw [valN_neg e, show atKey (q :: qs) k = atKey qs k by simp [atKey, List.find?_cons, show ¬ q.1 = k from fun z => e (h.1.1.trans z)]]
      exact ih
theorem NRel.put {kvs : List NKV} {xs : List (NestedKey × Addr × Value)} (r : NRel kvs xs) (k : NestedKey) (b : Addr) {y : V} {u : Value} (ry : RelV y u) : NRel (putN kvs k b y) (storedH xs k b u) := by
  have e := (r.val k).isSome_eq
  rw [Option.isSome_map] at e
  unfold putN storedH
  rw [e]
  split
  · rename_i hc
    clear hc e
    induction r with
    | nil => exact .nil
    | @cons p q ps qs h t ih =>
      rw [List.map_cons, List.map_cons]
      refine .cons ?_ ih
      unfold putAt
      by_cases e : p.1 = k
      · rw [if_pos e, if_pos (h.1.1.symm.trans e)]; exact ⟨h.1, ry⟩
      · rw [if_neg e, if_neg (fun z => e (h.1.1.trans z))]; exact h
  · exact Paired.snoc r ⟨⟨rfl, rfl⟩, ry⟩
theorem putN_len (kvs : List NKV) (k : NestedKey) (b : Addr) (v : V) : (putN kvs k b v).length ≤ kvs.length + 1 := by
  unfold putN
  split
  · rw [List.length_map]; omega
  · rw [List.length_append]; exact Nat.le_refl _
def KeyN (K : Frag) (H : Hp) (k : NestedKey) (b : Addr) : Prop := KH K H k (.ref b) ∧ k.depth ≤ 8
theorem KeyN.mono {K : Frag} {H H' : Hp} {k : NestedKey} {b : Addr} (s : Same H H') (h : KeyN K H k b) : KeyN K H' k b := ⟨h.1.mono s, h.2⟩
section
variable {X : Cx} {pins : List (Addr × Obj)} {σ : L2.St} {H : Hp} {s : Shared} {a b : Addr} {k : NestedKey} {kvs : List NKV} {A : Around} {E : Value → Shared → Prop}
theorem nKey (I : Inv X pins σ H s) (h : KeyN X.K H k b) : (nestedKind X.prog X.w).is s.heap k b := ⟨KH.is I h.1 rfl, h.2⟩
theorem nDict (I : Inv X pins σ H s) (e : Rd H a (hN X.prog X.w a kvs)) (hk : ∀ x ∈ kvs, KeyN X.K H x.1 x.2.1) :
    (kvs.length ≤ sizeLine ∧ (a == sysModules) = false) ∧ ∃ xs, NRel kvs xs ∧ s.heap.DictOfH (nestedKind X.prog X.w) a xs := by
  obtain ⟨z, o, es, ep, xs, ho, ⟨hx, hd⟩, r, he, hn⟩ := nRd I e
  refine ⟨z, xs, r, o, es, ep, ho, hx, hd, he, fun x hx => ?_, hn⟩
  have all : ∀ {l : List NKV} {m : List (NestedKey × Addr × Value)}, NRel l m → (∀ x ∈ l, KeyN X.K H x.1 x.2.1) → ∀ x ∈ m, (nestedKind X.prog X.w).is s.heap x.1 x.2.1 := by
    intro l m q
    induction q with
    | nil => intro _ x hx; exact nomatch hx
    | @cons p q ps qs hq t ih =>
      intro hl x hx
      rcases List.mem_cons.mp hx with e | hx
      · subst e
        have := nKey I (hl p List.mem_cons_self)
        rw [hq.1.1, hq.1.2] at this
        exact this
      · exact ih (fun y hy => hl y (List.mem_cons_of_mem _ hy)) x hx
  exact all r hk x hx
theorem roomN (hu : A.units + 64 < cLine) : (nestedKind X.prog X.w).room A.in1 := by
  show A.units + 1 + 8 < cLine
  omega
structure NGet (X : Cx) (H : Hp) (a : Addr) (y : V) (r : Option V) : Prop where
  ex : ∃ kvs k b, Rd H a (hN X.prog X.w a kvs) ∧ (∀ x ∈ kvs, KeyN X.K H x.1 x.2.1) ∧ y = .ref b ∧ KeyN X.K H k b ∧ r = valN kvs k
variable {y v : V} {u r : Value} {o : Option V}
theorem n_getItem {Q : Value → Shared → Prop} (hu : A.units + 64 < cLine) (I : Inv X pins σ H s) (g : NGet X H a y (some v)) (ry : RelV y u) (h : ∀ w' s', Inv X pins σ H s' → RelV v w' → Q w' s') : wpAny (model X.prog X.w) A (getItem (.ref a) u) Q E s := by
  obtain ⟨kvs, k, b, e, hk, rfl, kb, l⟩ := g.ex
  obtain rfl : u = Value.ref b := ry
  obtain ⟨z, xs, rel, dd⟩ := nDict I e hk
  obtain ⟨w', hw, rw'⟩ := RelO.some_of (v := v) (o := (atKey xs k).map (·.2)) (by rw [l]; exact rel.val k)
  obtain ⟨p, hp, hp2⟩ := Option.map_eq_some_iff.mp hw
  exact wpAny_getItem_heap (roomN hu) (nKey I kb) dd hp (by rw [hp2]; exact h w' _ (I.tok _) rw')
theorem n_getD {d : V} {Q : Value → Shared → Prop} (hu : A.units + 64 < cLine) (I : Inv X pins σ H s) (g : NGet X H a y o) (ry : RelV y u) (rd : RelV d r) (h : ∀ w' s', Inv X pins σ H s' → RelV (o.getD d) w' → Q w' s') : wpAny (model X.prog X.w) A (call (.builtin "dict.get") [.ref a, u, r]) Q E s := by
  obtain ⟨kvs, k, b, e, hk, rfl, kb, rfl⟩ := g.ex
  obtain rfl : u = Value.ref b := ry
  obtain ⟨z, xs, rel, dd⟩ := nDict I e hk
  exact call_meetsIn PySem.F.slot_dict_get dd.typeIs PySem.F.entry_dict_get (PySem.F.args_dict_get_3 _ _ _) (meetsH_dict_get_default _ a b z.2 r) ⟨roomN hu, k, xs, nKey I kb, dd, h _ _ (I.tok _) ((rel.val k).getD rd)⟩
structure NPut (X : Cx) (H : Hp) (a : Addr) (y v : V) (H' : Hp) : Prop where
  ex : ∃ kvs k b, H a = some (hN X.prog X.w a kvs) ∧ (∀ x ∈ kvs, KeyN X.K H x.1 x.2.1) ∧ y = .ref b ∧ KeyN X.K H k b ∧ kvs.length < sizeLine ∧ H' = upd H a (hN X.prog X.w a (putN kvs k b v))
theorem n_setItem {H' : Hp} {Q : Unit → Shared → Prop} (hu : A.units + 64 < cLine) (I : Inv X pins σ H s) (g : NPut X H a y v H') (ry : RelV y u) (rv : RelV v r) (h : ∀ s', Inv X pins σ H' s' → Q () s') : wpAny (model X.prog X.w) A (setItem (.ref a) u r) Q E s := by
  obtain ⟨kvs, k, b, e, hk, rfl, kb, hl, rfl⟩ := g.ex
  obtain rfl : u = Value.ref b := ry
  obtain ⟨z, xs, rel, dd⟩ := nDict I (.inl e) hk
  refine wpAny_setItem_heap (hsz := by rw [← Paired.length rel]; exact z.1) (roomN hu) (nKey I kb) dd fun h' dd' hs => h _ ?_
  obtain ⟨q, es, ep, hq, h2, h3, h4, _, h5⟩ := dd'
  exact d_write I (by rw [e]; exact True.intro) hs ⟨q, hq⟩ (nObj ⟨⟨by have := putN_len kvs k b v; omega, z.2⟩, q, es, ep, _, hq, ⟨h2, h3⟩, rel.put k b rv, h4, h5⟩)
theorem nget_type (I : Inv X pins σ H s) (g : NGet X H a y o) : s.TypeIs (.ref a) "dict" := by
  obtain ⟨kvs, k, b, e, hk, _⟩ := g.ex
  obtain ⟨z, xs, rel, dd⟩ := nDict I e hk
  exact dd.typeIs
end
end G

namespace G
open PySem PySem.Spec PyProof.Rows L2
section
variable {X : Cx} {o i value : Expr} {pos pos' : Pos} {td ty tv : TE}
theorem pe_nget (hu : X.A.units + 64 < cLine) (ho : PE X o td) (hi : PE X i ty) (hs : NoSl i) : PE X (.Subscript o i pos) (fun σ H Q => td σ H fun x H1 => ty σ H1 fun y H2 => ∃ a v, x = .ref a ∧ NGet X H2 a y (some v) ∧ Q v H2) := by
  refine ⟨fun pins s σ H Q I h => subD_of PySem.F.slot_dict_getitem.lookup hs (thn (ho.run pins s σ H _ I h) fun u s1 q1 => ?_)⟩
  obtain ⟨x, H1, I1, rx, q1⟩ := q1
  refine thn (hi.run pins s1 σ H1 _ I1 q1) fun iv s2 q2 => ?_
  obtain ⟨y, H2, I2, ry, a, v, rfl, g, q2⟩ := q2
  obtain rfl : u = Value.ref a := rx
  exact ⟨nget_type I2 g, n_getItem hu I2 g ry fun w' s3 I3 rw' => ⟨v, H2, I3, rw', q2⟩⟩
theorem ps_nput (hu : X.A.units + 64 < cLine) (ho : PE X o td) (hi : PE X i ty) (hv : PE X value tv) (hs : swapsWith value (some (.Subscript o i pos')) pos.line X.env = pure false) :
    PS X (.Assign [.Subscript o i pos'] value pos) (fun D σ H => tv σ H fun v H1 => td σ H1 fun x H2 => ty σ H2 fun y H3 => ∃ a H4, x = .ref a ∧ NPut X H3 a y v H4 ∧ D.nx σ H4) := by
  refine ⟨fun pins s σ H D I h => wpAny_Assign_Subscript (thn (hv.run pins s σ H _ I h) fun r s1 q1 => ?_) hs⟩
  obtain ⟨v, H1, I1, rv, q1⟩ := q1
  refine thn (ho.run pins s1 σ H1 _ I1 q1) fun u s2 q2 => ?_
  obtain ⟨x, H2, I2, rx, q2⟩ := q2
  refine thn (hi.run pins s2 σ H2 _ I2 q2) fun iv s3 q3 => ?_
  obtain ⟨y, H3, I3, ry, a, H4, rfl, g, q3⟩ := q3
  obtain rfl : u = Value.ref a := rx
  exact n_setItem hu I3 g ry rv fun s4 I4 => ⟨σ, H4, I4, q3⟩
theorem nObj0 {P P' : Program} {w w' : World} {H : Hp} {h : Heap} (hb : sysModules < h.objs.size) : ObjOk P' w' H (h.push { cls := .type "dict", data := .dict #[] }) h.objs.size (hN P w h.objs.size []) :=
  nObj ⟨⟨Nat.zero_le _, beq_eq_false_iff_ne.mpr (Ne.symm (Nat.ne_of_lt hb))⟩, _, #[], 0, [], Heap.get?_push_size _ rfl, ⟨⟨rfl, rfl, rfl⟩, rfl⟩, .nil, rfl, List.nodup_nil⟩
theorem pe_nnew : PE X (.Dict [] [] pos) (fun _ H Q => ∀ p, H p = none → Q (.ref p) (upd H p (hN X.prog X.w p []))) := ⟨fun pins s σ H Q I h =>
  wpAny_Dict_empty ⟨.ref s.heap.objs.size, _, I.laid (a := s.heap.objs.size) (o := hN X.prog X.w s.heap.objs.size []) (t' := s.toks) (fun _ _ q => Heap.get?_push_of_some _ q) (Nat.le_refl _) (nObj0 I.big), rfl, h _ (I.hok.fresh (Nat.le_refl _))⟩⟩
theorem pe_none {k v : Expr} {tk tv : TE} (hu : X.A.units + 64 < cLine) (hk : PE X k tk) (hv : PE X v tv) :
    PE X (.Dict [some k] [v] pos) (fun σ H Q => ∀ p, H p = none → tk σ (upd H p (hN X.prog X.w p [])) fun x H1 => tv σ H1 fun y H2 => H2 p = some (hN X.prog X.w p []) ∧ ∃ b n, x = .ref b ∧ KeyN X.K H2 n b ∧ Q (.ref p) (upd H2 p (hN X.prog X.w p [(n, b, y)]))) := by
  refine ⟨fun pins s σ H Q I q => ?_⟩
  have hn := I.hok.fresh (Nat.le_refl s.heap.objs.size)
  have I1 := I.laid (a := s.heap.objs.size) (o := hN X.prog X.w s.heap.objs.size []) (h' := s.heap.push { cls := .type "dict", data := .dict #[] }) (t' := s.toks) (fun _ _ q => Heap.get?_push_of_some _ q) (Nat.le_refl _) (nObj0 I.big)
  have hl := pairTrees_length [some k] [v] X.env pos rfl rfl
  have h0 : pairTrees [some k] [v] X.env pos ≠ [] := fun z => by rw [z] at hl; cases hl
  rw [arm_eval_Dict, zip_pairTrees [some k] [v] X.env pos rfl rfl, dictDisplay_pairs _ h0 (by rw [hl]; show 1 < 17; decide)]
  refine wpAny_bind (wpAny_standAt (wpAny_bind (wpAny_subDictH (knd := nestedKind X.prog X.w) (Q := fun d s' => wpAny (model X.prog X.w) X.A (pure (Value.ref d)) (EP X pins σ Q) X.xe s') (by show X.A.units + 8 < cLine; omega) (by rw [hl]; show 1 ≤ 15; decide) ?_)))
  refine pairTrees_cons_walk (thn (hk.run pins _ σ _ _ I1 (q _ hn)) fun u s1 q1 => ?_)
  obtain ⟨x, H1, I1, rx, q1⟩ := q1
  refine thn (hv.run pins s1 σ H1 _ I1 q1) fun w2 s2 q2 => pairTrees_nil_walk ?_
  obtain ⟨y, H2, I2, ry, e, b, n, rfl, kb, q2⟩ := q2
  obtain rfl : u = Value.ref b := rx
  obtain ⟨z, xs, rel, dd⟩ := nDict I2 (.inl e) (fun _ h => nomatch h)
  cases rel
  refine ⟨[(n, b, w2)], ⟨rfl, rfl, nKey I2 kb, trivial⟩, dd, fun h' tk dd' hs => wpAny_pure ⟨.ref s.heap.objs.size, _, ?_, rfl, q2⟩⟩
  obtain ⟨ob, es, ep, hq, h2, h3, h4, _, h5⟩ := dd'
  exact d_write I2 (by rw [e]; exact True.intro) hs ⟨ob, hq⟩ (nObj ⟨⟨by show 1 ≤ sizeLine; decide, z.2⟩, ob, es, ep, _, hq, ⟨h2, h3⟩, .cons ⟨⟨rfl, rfl⟩, ry⟩ .nil, h4, h5⟩)
end
section
variable {κ β : Type} [Enc κ] [DecidableEq κ] [NKc κ] [Enc β]
abbrev RepN (K : Frag) (F : Hp) (kvs : List NKV) (l : List (κ × β)) : Prop := All2 (fun (x : NKV) (y : κ × β) => (x.1 = NKc.nk y.1 ∧ Enc.rep K F (V.ref x.2.1) y.1) ∧ Enc.rep K F x.2.2 y.2) kvs l
theorem RepN.mono {K : Frag} {F F' : Hp} {kvs : List NKV} {l : List (κ × β)} (s : Same F F') (h : RepN K F kvs l) : RepN K F' kvs l := All2.imp (fun _ _ x => ⟨⟨x.1.1, Enc.mono s x.1.2⟩, Enc.mono s x.2⟩) h
instance (priority := low) encN [Pw] : Enc (Dic κ β) :=
  ⟨fun K H v d => ∃ p kvs, v = .ref p ∧ Rd H p (hN Pw.prog Pw.w p kvs) ∧ RepN K H kvs d.l, fun s ⟨p, kvs, e, h, r⟩ => ⟨p, kvs, e, rd_mono s h, RepN.mono s r⟩⟩
def owN [Pw] (d : Dic κ β) : Slot := ⟨fun K F G o => ∃ p kvs, o = some (.ref p) ∧ G p = some (hN Pw.prog Pw.w p kvs) ∧ RepN K F kvs d.l, fun s t ⟨p, kvs, e, h, r⟩ => ⟨p, kvs, e, t _ _ h, RepN.mono s r⟩⟩
structure LDic (κ β : Type) where
  d : Dic κ β
instance encL [Pw] : Enc (LDic κ β) :=
  ⟨fun K H v x => ∃ p kvs ob, v = .ref p ∧ H p = some (.frz ob (hN Pw.prog Pw.w p kvs)) ∧ RepN K H kvs x.d.l, fun s ⟨p, kvs, ob, e, h, r⟩ => ⟨p, kvs, ob, e, s _ _ h, RepN.mono s r⟩⟩
instance [Pw] : NN (LDic κ β) := ⟨fun ⟨_, _, _, e1, _⟩ e => by rw [e] at e1; cases e1⟩
theorem hN_eq [Pw] {X : Cx} (hx : PwX X) (a : Addr) (kvs : List NKV) : hN Pw.prog Pw.w a kvs = hN X.prog X.w a kvs := by rw [hx.p, hx.w]
theorem repN_get {K : Frag} {F : Hp} {k : κ} : ∀ {kvs : List NKV} {l : List (κ × β)}, RepN K F kvs l → match dget ⟨l⟩ k with
    | some b => ∃ v, valN kvs (NKc.nk k) = some v ∧ Enc.rep K F v b
    | none => valN kvs (NKc.nk k) = none
  | [], [], _ => rfl
  | kv :: kvs, x :: l, ⟨⟨⟨h1, h2⟩, h3⟩, t⟩ => by
    unfold dget
    rw [List.find?_cons]
    by_cases e : x.1 = k
    · rw [decide_eq_true e]
      exact ⟨kv.2.2, valN_pos (h1.trans (by rw [e])), h3⟩
    · rw [decide_eq_false e, valN_neg (by rw [h1]; exact fun z => e (NKc.inj _ _ z))]
      exact repN_get t
  | [], _ :: _, h => h.elim
  | _ :: _, [], h => h.elim
theorem repN_has {K : Frag} {F : Hp} {k : κ} {kvs : List NKV} {d : Dic κ β} (h : RepN K F kvs d.l) : (valN kvs (NKc.nk k)).isSome = dhas d k := by
  have q := repN_get (k := k) h
  rw [← dget_isSome]
  cases e : dget ⟨d.l⟩ k with
  | some b =>
    rw [e] at q
    obtain ⟨v, z, _⟩ := q
    rw [z]
    rfl
  | none =>
    rw [e] at q
    have q : valN kvs (NKc.nk k) = Option.none := q
    rw [q]
    rfl
theorem repN_put {K : Frag} {F : Hp} {k : κ} {a : Addr} {v : V} {b : β} {kvs : List NKV} {d : Dic κ β} (h : RepN K F kvs d.l) (rk : Enc.rep K F (.ref a) k) (r : Enc.rep K F v b) : RepN K F (putN kvs (NKc.nk k) a v) (dput d k b).l := by
  unfold putN dput
  rw [repN_has h]
  split
  · have go : ∀ {kvs : List NKV} {l : List (κ × β)}, RepN K F kvs l → RepN K F (kvs.map fun x => if x.1 = NKc.nk k then (x.1, x.2.1, v) else x) (l.map fun kv => if kv.1 = k then (kv.1, b) else kv) := by
      intro kvs
      induction kvs with
      | nil =>
        intro l h
        cases l with
        | nil => trivial
        | cons x l => exact h.elim
      | cons kv kvs ih =>
        intro l h
        cases l with
        | nil => exact h.elim
        | cons x l =>
          obtain ⟨⟨⟨h1, h2⟩, h3⟩, t⟩ := h
          refine ⟨?_, ih t⟩
          by_cases e : x.1 = k
          · dsimp only
            rw [if_pos e, if_pos (h1.trans (by rw [e]))]; exact ⟨⟨h1, h2⟩, r⟩
          · dsimp only
            rw [if_neg e, if_neg (by rw [h1]; exact fun z => e (NKc.inj _ _ z))]; exact ⟨⟨h1, h2⟩, h3⟩
    exact go h
  · exact All2.append h ⟨⟨⟨rfl, rk⟩, r⟩, trivial⟩
theorem repN_keys {K : Frag} {F : Hp} (h8 : NKc.dp κ ≤ 8) : ∀ {kvs : List NKV} {l : List (κ × β)}, RepN K F kvs l → ∀ x ∈ kvs, KeyN K F x.1 x.2.1
  | kv :: kvs, y :: l, ⟨⟨⟨h1, h2⟩, _⟩, t⟩, x, m => by
    rcases List.mem_cons.mp m with e | m
    · rw [e, h1]
      exact ⟨NKc.kh h2, Nat.le_trans (NKc.dep y.1) h8⟩
    · exact repN_keys h8 t x m
  | [], [], _, _, m => nomatch m
  | [], _ :: _, h, _, _ => h.elim
  | _ :: _, [], h, _, _ => h.elim
theorem nget_of [Pw] [NKr κ] {X : Cx} (hx : PwX X) (h8 : NKc.dp κ ≤ 8) {H : Hp} {p : Addr} {kvs : List NKV} {d : Dic κ β} {k : κ} {y : V} (hp : Rd H p (hN Pw.prog Pw.w p kvs)) (r : RepN X.K H kvs d.l) (rk : Enc.rep X.K H y k) : NGet X H p y (valN kvs (NKc.nk k)) := by
  obtain ⟨b, rfl⟩ := NKr.rf rk
  exact ⟨kvs, _, b, by rw [← hN_eq hx]; exact hp, repN_keys h8 r, rfl, ⟨NKc.kh rk, Nat.le_trans (NKc.dep k) h8⟩, rfl⟩
instance [Pw] : View (owN (κ := κ) (β := β)) := ⟨fun ⟨p, kvs, e, g, r⟩ => by cases e; exact ⟨p, kvs, rfl, .inl g, r⟩⟩
instance [Pw] : NN (Dic κ β) := ⟨fun ⟨_, _, e1, _⟩ e => by rw [e] at e1; cases e1⟩
variable [Pw] [NKr κ] {X : Cx} {W : WX} {ss : List Slot} {pos : Pos} {a b e : Expr}
theorem own_new {σ : L2.St} {H F : Hp} {Q : VK} {d : Dic κ β} {kvs : List NKV} {p : Addr} {H1 F1 : Hp} (hx : PwX X) (s1 : Same H H1) (hp : H1 p = none) (ex : Ext F H F1 H1) (r : RepN X.K F1 kvs d.l)
    (q : ∀ v H' F' G', Same H H' → Ext F H F' H' → Priv G' H F' H' → (owN d).P X.K F' G' (some v) → Q v H') : Q (.ref p) (upd H1 p (hN X.prog X.w p kvs)) := by
  have hF : F1 p = none := Same.free ex.sub hp
  refine q _ _ F1 (upd noHp p (hN X.prog X.w p kvs)) (s1.trans (same_upd hp)) ⟨ex.le, ex.sub.trans (same_upd hp), ex.new⟩ (fun c u z => ?_) ⟨p, kvs, rfl, by rw [hN_eq hx]; exact upd_same, r⟩
  by_cases e : c = p
  · subst e; rw [upd_same] at z; cases z
    exact ⟨upd_same, Same.free s1 hp, hF, rfl⟩
  · rw [upd_ne e] at z; cases z
theorem xk_nnew (hx : PwX X := by exact ⟨rfl, rfl⟩) : XK X W ss (.Dict [] [] pos) (.ok (⟨[]⟩ : Dic κ β)) owN :=
  PE_imp pe_nnew fun σ H Q ⟨F, sf, sl, q⟩ p hp => own_new (σ := σ) (d := (⟨[]⟩ : Dic κ β)) hx (Same.refl H) hp (ext_refl sf) trivial q
theorem xi_owN (i : Nat) {d : Dic κ β} {x : Str} {pos : Pos} (hs : ss[i]? = some (owN d) := by rfl) (hp : PE X (.Name x pos) (tVar i) := by exact pv _) : XI X W ss (.Name x pos) (.ok d) := by
  refine PE_imp hp fun σ H Q ⟨sl, q⟩ => ?_
  obtain ⟨o, ho, p, vs, e, g, r⟩ := sl.get hs
  subst e
  exact ⟨.ref p, ho, q _ H (Same.refl H) ⟨p, vs, rfl, .inl g, r⟩⟩
variable {mk : Res κ} {md : Res (Dic κ β)}
theorem s1_nput (i : Nat) {d : Dic κ β} {m : Res β} {x : Str} {p tpos : Pos} (hu : X.A.units + 64 < cLine) (hv : XK X W ss e m fr) (hk : XK X W ss a mk fr) (hs : ss[i]? = some (owN d) := by rfl) (hx : PwX X := by exact ⟨rfl, rfl⟩) (h8 : NKc.dp κ ≤ 8 := by decide)
    (hp : PE X (.Name x p) (tVar i) := by exact pv _) (hsw : swapsWith e (some (.Subscript (.Name x p) a tpos)) pos.line X.env = pure false := by rfl) :
    S1 X W ss (.Assign [.Subscript (.Name x p) a tpos] e pos) (m.bind fun v => mk.bind fun k => dputR d k v) (fun d' => ss.set i (owN d')) := by
  refine PS_imp (ps_nput hu hp hk hv hsw) fun D σ H ⟨B, F0, F, Gs, A, q⟩ => ⟨F, A.ext.sub, A.sl, wpS_R (wpS_bind q) A.base fun b q v H1 F1 G1 s1 ex1 _ ⟨v', e1, rb⟩ => ?_⟩
  cases e1
  have A1 := A.grow s1 ex1
  obtain ⟨G, o, hG, hσ, p, kvs, e2, g, r⟩ := A1.all.get hs
  subst e2
  refine ⟨.ref p, hσ, F1, A1.ext.sub, A1.sl, wpS_R (wpS_bind q) A1.base fun k q y H2 F2 G2 s2 ex2 _ ⟨y', e3, rk⟩ => ?_⟩
  cases e3
  have A2 := A1.grow s2 ex2
  have hH := A2.sub G (List.mem_of_getElem? hG) _ _ g
  obtain ⟨bk, rfl⟩ := NKr.rf rk
  have r2 : RepN X.K F2 kvs d.l := RepN.mono ex2.le r
  have rb2 := Enc.mono ex2.le rb
  unfold dputR at q
  cases gd : big d.l.length with
  | false => rw [gd] at q; exact q.elim
  | true =>
    rw [gd] at q
    have rH : RepN X.K H2 kvs d.l := RepN.mono A2.ext.sub r2
    refine ⟨p, _, rfl, ⟨kvs, NKc.nk k, bk, by rw [← hN_eq hx]; exact hH, repN_keys h8 rH, rfl, ⟨NKc.kh (Enc.mono A2.ext.sub rk), Nat.le_trans (NKc.dep k) h8⟩, by rw [r.length]; exact Nat.lt_of_le_of_lt (of_decide_eq_true gd) (by decide), rfl⟩, ?_⟩
    rw [← hN_eq hx]
    exact q _ _ _ _ (A2.putG (s' := owN (dput d k b)) hG hσ g rfl ⟨p, _, rfl, upd_same, repN_put r2 rk rb2⟩)
end
section
variable {κ β : Type} [Enc κ] [DecidableEq κ] [NKc κ] [Enc β] [Pw] {X : Cx} {W : WX} {ss : List Slot}
end
end G

namespace G
open PySem PySem.Spec PyProof.Rows L2
section
variable {X : Cx} {pins : List (Addr × Obj)} {σ : L2.St} {H : Hp} {s : Shared} {d : Addr} {o : Obj} {P : Program} {w : World}
theorem frzN {kvs : List NKV} (I : Inv X pins σ H s) (h : H d = some (.frz o (hN P w d kvs))) :
    ((d == sysModules) = false ∧ s.heap.get? d = some o ∧ o.ExactDict) ∧ ∃ (es : Array DictEntry) (ep : Nat), (o.data = .dict es ep ∧ es.size = kvs.length) ∧
      ∀ (i : Nat) (kv : NKV), kvs[i]? = some kv → ∃ en : DictEntry, es[i]? = some en ∧ en.key = .ref kv.2.1 ∧ RelV kv.2.2 en.val := by
  obtain ⟨hd, y⟩ : ObjOk X.prog X.w H s.heap d (.frz o (hN P w d kvs)) := I.hok d _ h
  obtain ⟨⟨z, hs⟩, o', es, ep, xs, ho, ⟨hx, hdt⟩, r, he, _⟩ := nRd (P := P) (w := w) (a := d) (kvs := kvs) I (.inr ⟨o, h⟩)
  rw [hd] at ho
  cases ho
  refine ⟨⟨hs, hd, hx⟩, es, ep, ⟨hdt, ?_⟩, fun i kv e => ?_⟩
  · have l1 := size_of_entries he
    have l2 := Paired.length r
    omega
  · obtain ⟨b, hb, e1, e2⟩ := paired_get r e
    have q := entry_at he i
    rw [hb] at q
    exact ⟨_, q, by rw [e1.2]; rfl, e2⟩
end
def ItNk (P : Program) (w : World) (d : Addr) (o : Obj) (kvs : List NKV) : It :=
  ⟨fun i H => H d = some (.frz o (hN P w d kvs)) ∧ i < kvs.length, fun i H x H' => H' = H ∧ ∃ kv, kvs[i]? = some kv ∧ x = .ref kv.2.1, fun i H => H d = some (.frz o (hN P w d kvs)) ∧ kvs.length ≤ i⟩
def ItNv (P : Program) (w : World) (d : Addr) (o : Obj) (kvs : List NKV) : It :=
  ⟨fun i H => H d = some (.frz o (hN P w d kvs)) ∧ i < kvs.length, fun i H x H' => H' = H ∧ ∃ kv, kvs[i]? = some kv ∧ x = kv.2.2, fun i H => H d = some (.frz o (hN P w d kvs)) ∧ kvs.length ≤ i⟩
def ItNi (P : Program) (w : World) (d : Addr) (o : Obj) (kvs : List NKV) : It :=
  ⟨fun i H => H d = some (.frz o (hN P w d kvs)) ∧ i < kvs.length, fun i H x H' => ∃ T kv, kvs[i]? = some kv ∧ x = .ref T ∧ H T = none ∧ H' = upd H T (.tup [.ref kv.2.1, kv.2.2]), fun i H => H d = some (.frz o (hN P w d kvs)) ∧ kvs.length ≤ i⟩
section
variable {P P' : Program} {w w' : World} {K : PySem.W.Frag} {tg : Expr} {d : Addr} {o : Obj} {es : Array DictEntry} {ep : Nat} {kvs : List NKV}
theorem at_lt {α : Type} {l : List α} {i : Nat} (h : i < l.length) : ∃ a, l[i]? = some a := ⟨l[i], List.getElem?_eq_getElem h⟩
theorem turnNi {elts : List Expr} {kk : Nat} {tpos : Pos} (it : Addr) (hod : o.data = .dict es ep) : Turn P w K (.Tuple elts kk tpos) (ItNi P' w' d o kvs) [it] it (fun i h => ∃ ok ov, IsItemIter h it d i kvs.length ep ok ov) where
  mem := List.mem_singleton.mpr rfl
  obj := fun i h st b hb => by
    obtain rfl := List.mem_singleton.mp hb
    obtain ⟨ok, ov, e⟩ := st
    exact ⟨_, e, fun v z => nomatch z⟩
  keep := fun i h h' st k => let ⟨ok, ov, e⟩ := st; ⟨ok, ov, k it (List.mem_singleton.mpr rfl) _ e⟩
  item := fun X hP hw hK hc i pins s σ H E I hf st hg => by
    subst hP hw hK
    obtain ⟨⟨hs, hgd, hx⟩, es', ep', ⟨hdt, hsz⟩, ent⟩ := frzN I hg.1
    obtain ⟨rfl, rfl⟩ := dict_ep hod hdt
    obtain ⟨kv, hkv⟩ := at_lt hg.2
    obtain ⟨en, hen, hkey, hval⟩ := ent i kv hkv
    obtain ⟨hi, ee⟩ := Array.getElem?_eq_some_iff.mp hen
    obtain ⟨ok, ov, he⟩ := st
    rw [← hsz] at he
    have hlt : it < s.heap.objs.size := Heap.lt_size he
    refine wpAny_pyNext_items_item_raw he ⟨o, hgd, hx, hdt⟩ hi fun h' ho hT hz hk => ?_
    rw [ee] at ho hT
    refine ⟨_, rfl, wpAny_letOwnedTupleGo_items (s := { s with heap := h' }) ho fun h'' he' sb => ?_⟩
    have t2 : h''.get? s.heap.objs.size = some { cls := .type "tuple", data := .seq #[en.key, en.val] } := (sb.2 _ (Nat.ne_of_gt hlt)).trans hT
    have new : ObjOk X.prog X.w (upd H s.heap.objs.size (.tup [.ref kv.2.1, kv.2.2])) h'' s.heap.objs.size (.tup [.ref kv.2.1, kv.2.2]) :=
      ⟨by show 2 ≤ sizeLine; decide, [en.key, en.val], .cons hkey (.cons hval .nil), ⟨_, t2, rfl, _, rfl⟩⟩
    have J : Inv X pins σ (upd H s.heap.objs.size (.tup [.ref kv.2.1, kv.2.2])) { s with heap := h'' } :=
      I.turnedNew (t' := s.toks) (ch := [it]) (fun b ob hb e => (sb.2 b (by simpa using hb)).trans (hk b ob (by simpa using hb) e)) hf (Nat.le_refl _) new
    refine ⟨.ref s.heap.objs.size, _, J, rfl, ⟨_, kv, hkv, rfl, I.hok.fresh (Nat.le_refl _), rfl⟩, ⟨en.key, en.val, ?_⟩, fun b hb => ?_⟩
    · rw [← hsz]; exact he'
    · obtain rfl := List.mem_singleton.mp hb
      rw [upd_ne (Nat.ne_of_lt hlt)]
      exact (hf b hb).1
  done := fun X hP hw hK hc i pins s σ H E I hf st hg => by
    subst hP hw hK
    obtain ⟨f0, f1, f2, f3, f4, f5⟩ := hf it (List.mem_singleton.mpr rfl)
    obtain ⟨⟨hs, hgd, hx⟩, es', ep', ⟨hdt, hsz⟩, ent⟩ := frzN I hg.1
    obtain ⟨rfl, rfl⟩ := dict_ep hod hdt
    obtain ⟨ok, ov, he⟩ := st
    rw [← hsz] at he
    exact wpAny_pyNext_items_end_raw (I.ok.hd hc) he ⟨o, hgd, hx, hdt⟩ (by rw [hsz]; exact hg.2) fun h' eb => ⟨rfl, I.turned (t' := s.toks) (fun b ob hb e => eb b ob hb e) f0 f1 f3 f4 f5⟩
  self := fun A i s Q E st h => let ⟨_, _, e⟩ := st; PySem.W.kcp_self e h
end
section
variable {P : Program} {w : World} {X : Cx} {tg e : Expr} {td : TE} {apos cpos : Pos}
theorem pi_nitems {elts : List Expr} {kk : Nat} {tpos : Pos} (he : PE X e td) (hbase : attributeBase e "items" X.env (eval e X.env) = eval e X.env := by rfl) (hline : (apos.endLine == cpos.line) = true := by rfl) :
    PI X (.Tuple elts kk tpos) (.Call (.Attribute e "items" apos) [] [] cpos) (fun σ H R => td σ H fun x H1 => ∃ d o kvs, x = .ref d ∧ H1 d = some (.frz o (hN P w d kvs)) ∧ R (ItNi P w d o kvs) H1) := by
  refine ⟨fun pins s σ H R I h => wpAny_Call_method (T := "dict") (id := "dict.items") hbase rfl hline F.plainAttrs_dict F.slot_dict_items F.type_dict_items (thn (he.run pins s σ H _ I h) fun u s1 q1 => ?_)⟩
  obtain ⟨x, H1, I1, rx, d, o, kvs, rfl, hd, q⟩ := q1
  obtain rfl : u = Value.ref d := rx
  obtain ⟨⟨hs, hgd, hx⟩, es, ep, ⟨hdt, hsz⟩, ent⟩ := frzN I1 hd
  refine ⟨⟨o, hgd, hx.1⟩, fun b z => by cases z; exact ⟨o, hgd, hx.2.1⟩, ?_⟩
  have J : Inv X pins σ H1 { s1 with heap := s1.heap.push { cls := .type "dict_items", data := .fields #[.ref d] } } := I1.kept (t' := s1.toks) fun b ob q => Heap.get?_push_of_some _ q
  have fin : wpAny (model X.prog X.w) X.A (pyIter (.ref s1.heap.objs.size)) (PIE X pins σ (.Tuple elts kk tpos) R) X.xe { s1 with heap := s1.heap.push { cls := .type "dict_items", data := .fields #[.ref d] } } :=
    wpAny_pyIter_items_raw (d := d) ⟨_, Heap.get?_push_size _ rfl, rfl, rfl⟩ ⟨o, Heap.get?_push_of_some _ hgd, hx, hdt⟩ (pi_one (tk := s1.toks) J _ (turnNi _ hdt) ⟨.none, .none, by rw [← hsz]; exact Heap.get?_push_size _ rfl⟩ q)
  show wpAny _ _ (callWith cpos (.builtin "dict.items") [.ref d] [] []) _ X.xe s1
  exact method_meetsIn F.slot_dict_items F.entry_dict_items rfl (PySem.evalArgs_none ⟨rfl, ⟨o, hgd, hx.1⟩, F.args_dict_items_1 _, _, meets_dict_items_raw d hs, ⟨es, ep, o, hgd, hx, hdt⟩, fin⟩)
end
section
variable {κ β : Type} [Enc κ] [DecidableEq κ] [NKc κ] [Enc β] [Pw] {X : Cx} {W : WX} {ss : List Slot} {tg e : Expr} {m : Res (LDic κ β)} {apos cpos : Pos}
def dvals (d : Dic κ β) : List β := d.l.map (·.2)
theorem it_nitems {elts : List Expr} {kk : Nat} {tpos : Pos} (h : XK X W ss e m fr) (hbase : attributeBase e "items" X.env (eval e X.env) = eval e X.env := by rfl) (hline : (apos.endLine == cpos.line) = true := by rfl) :
    XIt X W ss (.Tuple elts kk tpos) (.Call (.Attribute e "items" apos) [] [] cpos) (m.bind fun x => .ok x.d.l) := by
  refine PI_imp (pi_nitems (P := Pw.prog) (w := Pw.w) h hbase hline) fun σ H R ⟨F, sf, sl, q⟩ => ⟨F, sf, sl, wpR_imp (wpR_bind q) (Same.refl H) fun x q v H1 F1 G1 s1 ex1 _ k1 => ?_⟩
  obtain ⟨v', e1, p, kvs, ob, rfl, g, r⟩ := k1
  cases e1
  refine ⟨p, ob, kvs, rfl, ex1.sub _ _ g, q _ H1 F1 s1 ex1 ⟨fun i F2 H2 y sa sb hy => ?_, fun i F2 H2 sa sb hi => ⟨sb _ _ (sa _ _ g), by rw [r.length]; exact hi⟩⟩⟩
  obtain ⟨kv, hkv, rk⟩ := r.get hy
  refine ⟨⟨sb _ _ (sa _ _ g), (List.getElem?_eq_some_iff.mp hkv).1⟩, fun v H' ⟨T, kv', hkv', ev, hT, eH⟩ => ?_⟩
  subst eH; subst ev
  obtain rfl : kv = kv' := Option.some.inj (hkv.symm.trans hkv')
  have sT : Same H2 (upd H2 T (.tup [.ref kv.2.1, kv.2.2])) := same_upd hT
  refine ⟨sT, upd F2 T (.tup [.ref kv.2.1, kv.2.2]), ⟨same_upd (Same.free sb hT), fun c u z => ?_, fun c u z => ?_⟩, ?_⟩
  · by_cases ec : c = T
    · rw [ec] at z ⊢; rw [upd_same] at z ⊢; exact z
    · rw [upd_ne ec] at z ⊢; exact sb _ _ z
  · by_cases ec : c = T
    · rw [ec, upd_same] at z; cases z; exact .inr (.inr rfl)
    · rw [upd_ne ec] at z; exact .inl z
  · have sF : Same F2 (upd F2 T (.tup [.ref kv.2.1, kv.2.2])) := same_upd (Same.free sb hT)
    exact ⟨T, _, _, rfl, upd_same, Enc.mono (sa.trans sF) rk.1.2, Enc.mono (sa.trans sF) rk.2⟩
theorem lockN {w : Ends → Hp → Hp → Prop} (i : Nat) {d : Dic κ β} {sts : List Stmt} (h : PSs X sts (rdX X (ss.set i (fr (⟨d⟩ : LDic κ β))) w)) (hs : ss[i]? = some (owN d)) : PSs X sts (rdX X ss w) := by
  refine ⟨fun pins s σ H D I ⟨B, F0, F, Gs, A, q⟩ => ?_⟩
  obtain ⟨G, o, hG, hσ, p, kvs, e, g, r⟩ := A.all.get hs
  subst e
  have mG := List.mem_of_getElem? hG
  obtain ⟨h1, h2, h3, h4⟩ := A.priv G mG _ _ g
  obtain ⟨ob, J⟩ := I.lock h1 True.intro
  have sF : Same F (upd F p (.frz ob (hN Pw.prog Pw.w p kvs))) := same_upd h3
  have other : ∀ {j : Nat} {G' : Hp}, j ≠ i → Gs[j]? = some G' → G' p = none := fun {j G'} hj e => (dj_of A.dj e hG hj p).elim id fun z => by rw [z] at g; cases g
  refine h.run pins s σ _ D J ⟨B, F0, upd F p (.frz ob (hN Pw.prog Pw.w p kvs)), Gs.set i noHp, ⟨⟨A.ext.le.trans sF, fun c u z => ?_, fun c u z => ?_⟩, fun c u z => ?_, ?_, fun G' m c u z => ?_, pw_set i A.dj fun G' _ c => .inl rfl⟩, q⟩
  · by_cases ec : c = p
    · rw [ec] at z ⊢
      rw [upd_same] at z ⊢
      exact z
    · rw [upd_ne ec] at z ⊢
      exact A.ext.sub _ _ z
  · by_cases ec : c = p
    · rw [ec]; exact .inr (.inl h2)
    · rw [upd_ne ec] at z; exact A.ext.new c u z
  · rw [upd_ne (fun ec => by rw [ec, h2] at z; cases z)]
    exact A.base _ _ z
  · have es := set_self hσ
    rw [← es]
    exact (A.all.mono sF).set (s := fr (⟨d⟩ : LDic κ β)) (G := noHp) (o := some (.ref p)) ⟨.ref p, rfl, p, kvs, ob, rfl, upd_same, RepN.mono sF r⟩ i
  · obtain ⟨j, hj⟩ := List.getElem?_of_mem m
    by_cases hji : j = i
    · subst hji
      rw [List.getElem?_set_self (List.getElem?_eq_some_iff.mp hG).1] at hj
      rw [← Option.some.inj hj] at z; cases z
    · rw [List.getElem?_set_ne (Ne.symm hji)] at hj
      have cp : c ≠ p := fun ec => by rw [ec, other hji hj] at z; cases z
      obtain ⟨k1, k2, k3, k4⟩ := A.priv G' (List.mem_of_getElem? hj) c u z
      exact ⟨(upd_ne cp).trans k1, k2, (upd_ne cp).trans k3, k4⟩
theorem st_lockN (i : Nat) {d : Dic κ β} {R : Type} {e : Bool} {sts : List Stmt} {M : Res R} {kr : R → Slot} (h : ST X W e (ss.set i (fr (⟨d⟩ : LDic κ β))) sts M kr) (hs : ss[i]? = some (owN d) := by rfl) : ST X W e ss sts M kr := lockN i h hs
theorem sn_lockN (i : Nat) {d : Dic κ β} {S : Type} {sts : List Stmt} {M : Res S} {post : S → List Slot} (h : SN X W (ss.set i (fr (⟨d⟩ : LDic κ β))) sts M post) (hs : ss[i]? = some (owN d) := by rfl) : SN X W ss sts M post := lockN i h hs
end
end G

namespace G
open PySem PySem.Spec PyProof.Rows L2
section
variable {X : Cx}
def mergeN (kvs more : List NKV) : List NKV := more.foldl (fun acc x => putN acc x.1 x.2.1 x.2.2) kvs
end
section
variable {κ β : Type} [Enc κ] [DecidableEq κ] [NKc κ] [Enc β] [Pw] {X : Cx} {W : WX} {ss : List Slot} {pos : Pos} {a b e : Expr} {md : Res (Dic κ β)}
theorem x_ngetD [NKr κ] {apos cpos : Pos} {mk : Res κ} {mx : Res β} (hu : X.A.units + 64 < cLine) (ho : XI X W ss e md) (h : XI X W ss a mk) (h' : XI X W ss b mx) (hx : PwX X := by exact ⟨rfl, rfl⟩) (h8 : NKc.dp κ ≤ 8 := by decide)
    (hbase : attributeBase e "get" X.env (eval e X.env) = eval e X.env := by rfl)
    (hfew : ((backTo cpos (starEach [a, b] X.env)).all (fun x => !x.1) && (backToKw cpos (keywordEach [] X.env)).all (fun x => x.1.isSome)
      && decide (([a, b] : List Expr).length + ([] : List Keyword).length + (if ([] : List Keyword).isEmpty then 0 else 1) < 30)) = true := by rfl)
    (hline : (apos.endLine == cpos.line) = true := by rfl) (htr : backTo cpos (starEach [a, b] X.env) = [(false, eval a X.env), (false, eval b X.env)] := by rfl) :
    XI X W ss (.Call (.Attribute e "get" apos) [a, b] [] cpos) (md.bind fun d => mk.bind fun k => mx.bind fun x => .ok ((dget d k).getD x)) := by
  refine ⟨fun pins s σ H Q I ⟨sl, q⟩ => ?_⟩
  refine wpAny_Call_method hbase hfew hline PySem.F.plainAttrs_dict PySem.F.slot_dict_get PySem.F.type_dict_get (thn (ho.run pins s σ H _ I ⟨sl, wpR_imp (wpR_bind q) (Same.refl H) fun d q v H1 s1 r1 => (⟨s1, d, r1, q⟩ : Same H H1 ∧ ∃ d : Dic κ β, Enc.rep X.K H1 v d ∧ wpR X W (mk.bind fun k => mx.bind fun x => .ok ((dget d k).getD x)) σ H fun a => ∀ v H', Same H H' → Enc.rep X.K H' v a → Q v H')⟩) fun u s1 q1 => ?_)
  obtain ⟨x, H1, I1, rx, sm1, d, ⟨p, kvs, rfl, hp, r⟩, q⟩ := q1
  obtain rfl : u = Value.ref p := rx
  obtain ⟨z, o, es, ep, xs, hho, ⟨hxx, hdt⟩, _⟩ := nRd I1 hp
  refine ⟨⟨o, hho, hxx.1⟩, fun b' z' => by cases z'; exact ⟨o, hho, hxx.2.1⟩, ?_⟩
  rw [htr]
  refine Calls.callWith_builtin rfl (Calls.evalArgs_plain (Calls.spliced_cons (thn (h.run pins s1 σ H1 _ I1 ⟨sl.mono sm1 sm1, wpR_imp (wpR_bind q) sm1 fun k q v H2 s2 rk => (⟨s2, k, rk, q⟩ : Same H1 H2 ∧ ∃ k : κ, Enc.rep X.K H2 v k ∧ wpR X W (mx.bind fun x => .ok ((dget d k).getD x)) σ H fun a => ∀ v H', Same H H' → Enc.rep X.K H' v a → Q v H')⟩) fun iv s2 q2 => ?_)))
  obtain ⟨y, H2, I2, ry, sm2, k, rk, q⟩ := q2
  refine Calls.spliced_cons (thn (h'.run pins s2 σ H2 _ I2 ⟨sl.mono (sm1.trans sm2) (sm1.trans sm2), wpR_imp (wpR_bind q) (sm1.trans sm2) fun x q v H3 s3 rx => (⟨s3, x, rx, q⟩ : Same H2 H3 ∧ ∃ x : β, Enc.rep X.K H3 v x ∧ ∀ v H', Same H H' → Enc.rep X.K H' v ((dget d k).getD x) → Q v H')⟩) fun fv s3 q3 => Calls.spliced_nil ?_)
  obtain ⟨zv, H3, I3, rz, sm3, dx, rdx, q⟩ := q3
  have s13 := sm2.trans sm3
  have r3 : RepN X.K H3 kvs d.l := RepN.mono s13 r
  refine n_getD hu I3 (nget_of hx h8 (rd_mono s13 hp) r3 (Enc.mono sm3 rk)) ry rz fun w' s4 I4 rw' => ⟨_, H3, I4, rw', q _ H3 (sm1.trans s13) ?_⟩
  have zz := repN_get (k := k) r3
  cases ed : dget ⟨d.l⟩ k with
  | none =>
    rw [ed] at zz
    have zz : valN kvs (NKc.nk k) = none := zz
    rw [zz]
    exact rdx
  | some y =>
    rw [ed] at zz
    obtain ⟨v, e1, e2⟩ := zz
    rw [e1]
    exact e2
end
end G

namespace G
open PySem PySem.Spec PyProof.Rows L2
section
variable {κ β : Type} [Enc κ] [DecidableEq κ] [NKc κ] [Enc β]
def ownL (K : Frag) (F G : Hp) (v : V) (as : List β) : Prop := ∃ q vs, v = .ref q ∧ G q = some (.lst vs) ∧ All2 (fun v a => Enc.rep K F v a) vs as
theorem ownL.mono {K : Frag} {F F' G G' : Hp} {v : V} {as : List β} (s : Same F F') (t : Same G G') (h : ownL K F G v as) : ownL K F' G' v as := let ⟨q, vs, e, g, r⟩ := h; ⟨q, vs, e, t _ _ g, r.mono s⟩
abbrev RepL (K : Frag) (F G : Hp) (kvs : List NKV) (l : List (κ × List β)) : Prop := All2 (fun (x : NKV) (y : κ × List β) => (x.1 = NKc.nk y.1 ∧ Enc.rep K F (V.ref x.2.1) y.1) ∧ ownL K F G x.2.2 y.2) kvs l
theorem RepL.mono {K : Frag} {F F' G G' : Hp} {kvs : List NKV} {l : List (κ × List β)} (s : Same F F') (t : Same G G') (h : RepL K F G kvs l) : RepL K F' G' kvs l := All2.imp (fun _ _ x => ⟨⟨x.1.1, Enc.mono s x.1.2⟩, x.2.mono s t⟩) h
theorem RepL.view {K : Frag} {F G H : Hp} {kvs : List NKV} {l : List (κ × List β)} (s : Same F H) (t : Same G H) (h : RepL K F G kvs l) : RepN K H kvs l :=
  All2.imp (fun _ _ x => ⟨⟨x.1.1, Enc.mono s x.1.2⟩, let ⟨q, vs, e, g, r⟩ := x.2; ⟨q, vs, e, t _ _ g, r.mono s⟩⟩) h
theorem RepL.keep {K : Frag} {F G G' : Hp} {kvs : List NKV} {l : List (κ × List β)} (t : ∀ q vs, G q = some (.lst vs) → G' q = some (.lst vs)) (h : RepL K F G kvs l) : RepL K F G' kvs l := All2.imp (fun _ _ x => ⟨x.1, let ⟨q, vs, e, g, r⟩ := x.2; ⟨q, vs, e, t _ _ g, r⟩⟩) h
def owL [Pw] (d : Dic κ (List β)) : Slot :=
  ⟨fun K F G o => ∃ (p : Addr) (kvs : List NKV), o = some (.ref p) ∧ (G p = some (hN Pw.prog Pw.w p kvs) ∧ (kvs.map fun x : NKV => x.2.2).Nodup ∧ (dkeys d).Nodup) ∧ RepL K F G kvs d.l, fun s t ⟨p, kvs, e, h, r⟩ => ⟨p, kvs, e, ⟨t _ _ h.1, h.2.1, h.2.2⟩, RepL.mono s t r⟩⟩
instance [Pw] : View (owL (κ := κ) (β := β)) := ⟨fun ⟨p, kvs, e, g, r⟩ => by cases e; exact ⟨p, kvs, rfl, .inl g.1, RepL.view (Same.refl _) (Same.refl _) r⟩⟩
theorem repL_get {K : Frag} {F G : Hp} {k : κ} : ∀ {kvs : List NKV} {l : List (κ × List β)}, RepL K F G kvs l → match dget ⟨l⟩ k with
    | some b => ∃ v, valN kvs (NKc.nk k) = some v ∧ v ∈ kvs.map (fun x => x.2.2) ∧ ownL K F G v b
    | none => valN kvs (NKc.nk k) = none
  | [], [], _ => rfl
  | kv :: kvs, x :: l, ⟨⟨⟨h1, h2⟩, h3⟩, t⟩ => by
    unfold dget
    rw [List.find?_cons]
    by_cases e : x.1 = k
    · rw [decide_eq_true e]
      exact ⟨kv.2.2, valN_pos (h1.trans (by rw [e])), List.mem_cons_self, h3⟩
    · rw [decide_eq_false e, valN_neg (by rw [h1]; exact fun z => e (NKc.inj _ _ z))]
      have ih := repL_get (k := k) t
      revert ih
      show (match dget ⟨l⟩ k with | some b => _ | none => _) → (match dget ⟨l⟩ k with | some b => _ | none => _)
      cases dget ⟨l⟩ k with
      | none => exact id
      | some b => exact fun ⟨v, a, m, r⟩ => ⟨v, a, List.mem_cons_of_mem _ m, r⟩
  | [], _ :: _, h => h.elim
  | _ :: _, [], h => h.elim
theorem repL_has {K : Frag} {F G : Hp} {k : κ} {kvs : List NKV} {d : Dic κ (List β)} (h : RepL K F G kvs d.l) : (valN kvs (NKc.nk k)).isSome = dhas d k := by
  have q := repL_get (k := k) h
  rw [← dget_isSome]
  cases e : dget ⟨d.l⟩ k with
  | some b => rw [e] at q; obtain ⟨v, z, _⟩ := q; rw [z]; rfl
  | none => rw [e] at q; have q : valN kvs (NKc.nk k) = Option.none := q; rw [q]; rfl
theorem repL_put {K : Frag} {F G : Hp} {k : κ} {a : Addr} {v : V} {b : List β} {kvs : List NKV} {d : Dic κ (List β)} (h : RepL K F G kvs d.l) (rk : Enc.rep K F (.ref a) k) (r : ownL K F G v b) : RepL K F G (putN kvs (NKc.nk k) a v) (dput d k b).l := by
  unfold putN dput
  rw [repL_has h]
  split
  · have go : ∀ {kvs : List NKV} {l : List (κ × List β)}, RepL K F G kvs l → RepL K F G (kvs.map fun x => if x.1 = NKc.nk k then (x.1, x.2.1, v) else x) (l.map fun kv => if kv.1 = k then (kv.1, b) else kv) := by
      intro kvs
      induction kvs with
      | nil =>
        intro l h
        cases l with
        | nil => trivial
        | cons x l => exact h.elim
      | cons kv kvs ih =>
        intro l h
        cases l with
        | nil => exact h.elim
        | cons x l =>
          obtain ⟨⟨⟨h1, h2⟩, h3⟩, t⟩ := h
          refine ⟨?_, ih t⟩
          by_cases e : x.1 = k
          · dsimp only
            rw [if_pos e, if_pos (h1.trans (by rw [e]))]; exact ⟨⟨h1, h2⟩, r⟩
          · dsimp only
            rw [if_neg e, if_neg (by rw [h1]; exact fun z => e (NKc.inj _ _ z))]; exact ⟨⟨h1, h2⟩, h3⟩
    exact go h
  · exact All2.append h ⟨⟨⟨rfl, rk⟩, r⟩, trivial⟩
theorem repL_chg {K : Frag} {F G : Hp} {k : κ} {q : Addr} {ws : List V} {b : List β} (r : All2 (fun v a => Enc.rep K F v a) ws b) : ∀ {kvs : List NKV} {l : List (κ × List β)}, RepL K F G kvs l → (l.map (·.1)).Nodup → (kvs.map fun x => x.2.2).Nodup → valN kvs (NKc.nk k) = some (.ref q) →
    RepL K F (upd G q (.lst ws)) kvs (l.map fun kv => if kv.1 = k then (kv.1, b) else kv)
  | [], [], _, _, _, _ => trivial
  | kv :: kvs, x :: l, ⟨⟨⟨h1, h2⟩, h3⟩, t⟩, nd, nv, hv => by
    have nd' := List.nodup_cons.mp nd
    have nv' := List.nodup_cons.mp nv
    have rest : ∀ {kvs : List NKV} {l : List (κ × List β)}, RepL K F G kvs l → (V.ref q ∉ kvs.map fun x => x.2.2) → (k ∉ l.map (·.1)) → RepL K F (upd G q (.lst ws)) kvs (l.map fun kv => if kv.1 = k then (kv.1, b) else kv) := by
      intro kvs
      induction kvs with
      | nil =>
        intro l h _ _
        cases l with
        | nil => trivial
        | cons _ _ => exact h.elim
      | cons y kvs ih =>
        intro l h n1 n2
        cases l with
        | nil => exact h.elim
        | cons z l =>
          obtain ⟨⟨a1, ⟨q', vs', e', g', r'⟩⟩, t⟩ := h
          refine ⟨?_, ih t (fun m => n1 (List.mem_cons_of_mem _ m)) fun m => n2 (List.mem_cons_of_mem _ m)⟩
          dsimp only
          rw [if_neg (fun e => n2 (by rw [← e]; exact List.mem_cons_self))]
          refine ⟨a1, q', vs', e', ?_, r'⟩
          rw [upd_ne (fun e => n1 (by rw [← e, ← e']; exact List.mem_cons_self))]
          exact g'
    by_cases e : x.1 = k
    · rw [valN_pos (h1.trans (by rw [e]))] at hv
      have ev : kv.2.2 = .ref q := Option.some.inj hv
      refine ⟨?_, rest t (by rw [← ev]; exact nv'.1) (by rw [← e]; exact nd'.1)⟩
      dsimp only
      rw [if_pos e]
      exact ⟨⟨h1, h2⟩, q, ws, ev, upd_same, r⟩
    · rw [valN_neg (by rw [h1]; exact fun z => e (NKc.inj _ _ z))] at hv
      refine ⟨?_, repL_chg r t nd'.2 nv'.2 hv⟩
      dsimp only
      rw [if_neg e]
      obtain ⟨q', vs', e', g', r'⟩ := h3
      refine ⟨⟨h1, h2⟩, q', vs', e', ?_, r'⟩
      have mq : V.ref q ∈ kvs.map fun x => x.2.2 := by
        unfold valN at hv
        obtain ⟨y, hy, ey⟩ := Option.map_eq_some_iff.mp hv
        exact List.mem_map.mpr ⟨y, List.mem_of_find?_eq_some hy, ey⟩
      rw [upd_ne (fun ec => nv'.1 (by
        show kv.2.2 ∈ _
        rw [e', ec]; exact mq))]
      exact g'
  | [], _ :: _, h, _, _, _ => h.elim
  | _ :: _, [], h, _, _, _ => h.elim
theorem repL_nodup {K : Frag} {F G : Hp} : ∀ {kvs : List NKV} {l : List (κ × List β)}, RepL K F G kvs l → (l.map (·.1)).Nodup → (kvs.map (·.1)).Nodup
  | [], [], _, _ => List.nodup_nil
  | kv :: kvs, x :: l, ⟨⟨⟨h1, _⟩, _⟩, t⟩, nd => by
    have nd' := List.nodup_cons.mp nd
    refine List.nodup_cons.mpr ⟨fun m => nd'.1 ?_, repL_nodup t nd'.2⟩
    have go : ∀ {kvs : List NKV} {l : List (κ × List β)}, RepL K F G kvs l → NKc.nk x.1 ∈ kvs.map (·.1) → x.1 ∈ l.map (·.1) := by
      intro kvs
      induction kvs with
      | nil => intro l h m; cases m
      | cons y kvs ih =>
        intro l h m
        cases l with
        | nil => exact h.elim
        | cons z l =>
          rcases List.mem_cons.mp m with e | m
          · have e2 : NKc.nk x.1 = NKc.nk z.1 := by rw [e, ← h.1.1.1]
            rw [NKc.inj _ _ e2]; exact List.mem_cons_self
          · exact List.mem_cons_of_mem _ (ih h.2 m)
    refine go t ?_
    rw [← h1]; exact m
  | [], _ :: _, h, _ => h.elim
  | _ :: _, [], h, _ => h.elim
theorem nodup_put (d : Dic κ (List β)) (k : κ) (v : List β) (h : (dkeys d).Nodup) : (dkeys (dput d k v)).Nodup := by
  rw [dkeys_put]
  split
  · exact h
  · rename_i n
    exact List.nodup_append.mpr ⟨h, by simp, fun x hx y hy => by rw [List.mem_singleton.mp hy]; exact fun e => n (by rw [← e]; exact hx)⟩
variable [Pw] [NKr κ] {X : Cx} {W : WX} {ss : List Slot} {pos : Pos} {a e : Expr} {mk : Res κ}
theorem xk_nnewL (hx : PwX X := by exact ⟨rfl, rfl⟩) : XK X W ss (.Dict [] [] pos) (.ok (⟨[]⟩ : Dic κ (List β))) owL :=
  PE_imp pe_nnew fun σ H Q ⟨F, sf, sl, q⟩ p hp => by
    refine q _ _ F (upd noHp p (hN X.prog X.w p [])) (same_upd hp) ⟨Same.refl F, sf.trans (same_upd hp), fun _ _ h => .inl h⟩ (fun c u z => ?_) ⟨p, [], rfl, ⟨by rw [hN_eq hx]; exact upd_same, List.nodup_nil, List.nodup_nil⟩, trivial⟩
    by_cases e : c = p
    · subst e; rw [upd_same] at z; cases z
      exact ⟨upd_same, hp, Same.free sf hp, rfl⟩
    · rw [upd_ne e] at z; cases z
theorem lockL {w : Ends → Hp → Hp → Prop} (i : Nat) {d : Dic κ (List β)} {sts : List Stmt} (h : PSs X sts (rdX X (ss.set i (fr (⟨d⟩ : LDic κ (List β)))) w)) (hs : ss[i]? = some (owL d)) : PSs X sts (rdX X ss w) := by
  refine ⟨fun pins s σ H D I ⟨B, F0, F, Gs, A, q⟩ => ?_⟩
  obtain ⟨G, o, hG, hσ, p, kvs, e, ⟨g, _, _⟩, r⟩ := A.all.get hs
  subst e
  have mG := List.mem_of_getElem? hG
  have sG := A.sub G mG
  obtain ⟨h1, h2, h3, h4⟩ := A.priv G mG _ _ g
  obtain ⟨ob, J⟩ := I.lock h1 True.intro
  have out : ∀ {c u}, F c = some u → G c = none := fun {c u} z => by
    cases ec : G c with
    | none => rfl
    | some w => rw [(A.priv G mG c w ec).2.2.1] at z; cases z
  have sF : Same F (upd (join F G) p (.frz ob (hN Pw.prog Pw.w p kvs))) := fun c u z => by
    rw [upd_ne (fun ec => by rw [ec, h3] at z; cases z)]
    exact join_l _ _ z
  have inG : ∀ {c u}, c ≠ p → G c = some u → upd (join F G) p (.frz ob (hN Pw.prog Pw.w p kvs)) c = some u := fun {c u} hc z => by
    rw [upd_ne hc]
    exact join_r A.ext.sub sG _ _ z
  have other : ∀ {j : Nat} {G' : Hp} {c : Addr} {u : HO}, j ≠ i → Gs[j]? = some G' → G' c = some u → G c = none := fun {j G' c u} hj e z => (dj_of A.dj e hG hj c).elim (fun y => by rw [y] at z; cases z) id
  refine h.run pins s σ _ D J ⟨B, F0, upd (join F G) p (.frz ob (hN Pw.prog Pw.w p kvs)), Gs.set i noHp, ⟨⟨A.ext.le.trans sF, fun c u z => ?_, fun c u z => ?_⟩, fun c u z => ?_, ?_, fun G' m c u z => ?_, pw_set i A.dj fun G' _ c => .inl rfl⟩, q⟩
  · by_cases ec : c = p
    · rw [ec] at z ⊢
      rw [upd_same] at z ⊢
      exact z
    · rw [upd_ne ec] at z ⊢
      exact join_le A.ext.sub sG _ _ z
  · by_cases ec : c = p
    · rw [ec]; exact .inr (.inl h2)
    · rw [upd_ne ec] at z
      rcases join_or z with z | z
      · exact A.ext.new c u z
      · exact .inr (.inl (A.priv G mG c u z).2.1)
  · rw [upd_ne (fun ec => by rw [ec, h2] at z; cases z)]
    exact A.base _ _ z
  · have es := set_self hσ
    rw [← es]
    refine (A.all.mono sF).set (s := fr (⟨d⟩ : LDic κ (List β))) (G := noHp) (o := some (.ref p)) ⟨.ref p, rfl, p, kvs, ob, rfl, upd_same, ?_⟩ i
    refine All2.imp (fun _ _ x => ⟨⟨x.1.1, Enc.mono sF x.1.2⟩, ?_⟩) r
    obtain ⟨qa, vs, e, gq, rr⟩ := x.2
    exact ⟨qa, vs, e, inG (fun ec => by rw [ec, g] at gq; cases gq) gq, rr.mono sF⟩
  · obtain ⟨j, hj⟩ := List.getElem?_of_mem m
    by_cases hji : j = i
    · subst hji
      rw [List.getElem?_set_self (List.getElem?_eq_some_iff.mp hG).1] at hj
      rw [← Option.some.inj hj] at z; cases z
    · rw [List.getElem?_set_ne (Ne.symm hji)] at hj
      have gc := other hji hj z
      have cp : c ≠ p := fun ec => by rw [ec, g] at gc; cases gc
      obtain ⟨k1, k2, k3, k4⟩ := A.priv G' (List.mem_of_getElem? hj) c u z
      refine ⟨(upd_ne cp).trans k1, k2, (upd_ne cp).trans ?_, k4⟩
      unfold join
      rw [k3]; exact gc
theorem sn_lockL (i : Nat) {d : Dic κ (List β)} {S : Type} {sts : List Stmt} {M : Res S} {post : S → List Slot} (h : SN X W (ss.set i (fr (⟨d⟩ : LDic κ (List β)))) sts M post) (hs : ss[i]? = some (owL d) := by rfl) : SN X W ss sts M post := lockL i h hs
end
section
variable {κ β : Type} [Enc κ] [DecidableEq κ] [NKc κ] [Enc β] [Pw] {X : Cx} {W : WX} {ss : List Slot} {pos : Pos} {a b e : Expr} {mk : Res κ} {md : Res (Dic κ β)}
end
end G

namespace G
open PySem PySem.Spec PyProof.Rows L2
def dofP {κ β : Type} [DecidableEq κ] (l : List (κ × β)) : Dic κ β := l.foldl (fun d x => dput d x.1 x.2) ⟨[]⟩
section
variable {κ β : Type} [Enc κ] [DecidableEq κ] [NKc κ] [NKr κ] [Enc β]
variable [Pw] {X : Cx} {W : WX} {ss : List Slot} {pos : Pos} {e : Expr}
end
section
variable {X : Cx} {W : WX} {ss : List Slot} {pos : Pos} {e : Expr} {α : Type} [Enc α]
def t3c {α β γ : Type} (x : T3 α β (Option γ)) : Res (T3 α β γ) := match x.c with
  | some c => .ok ⟨x.a, x.b, c⟩
  | none => .stuck
end
end G

namespace G
open PySem PySem.Spec PyProof.Rows L2
structure T0 where
structure T1 (α : Type) where
  a : α
instance : Enc T0 := ⟨fun K H v _ => ∃ p, v = .ref p ∧ SqT K H p [], fun s ⟨p, e, h⟩ => ⟨p, e, seqT s h⟩⟩
instance : Imm T0 := ⟨fun ⟨p, e, h⟩ => ⟨p, e, seqT_tups h⟩⟩
instance {α : Type} [Enc α] : Enc (T1 α) := ⟨fun K H v x => ∃ p v1, v = .ref p ∧ H p = some (.tup [v1]) ∧ Enc.rep K H v1 x.a, fun s ⟨p, v1, e, h, r⟩ => ⟨p, v1, e, s _ _ h, Enc.mono s r⟩⟩
instance {α : Type} [Enc α] [Imm α] : Imm (T1 α) := ⟨fun ⟨p, v1, e, h, r⟩ => ⟨p, v1, e, tups_some h rfl, Imm.imm r⟩⟩
class TV (τ : Type) [Enc τ] where
  n : Nat
  PV : Frag → Hp → List V → τ → Prop
  len : ∀ {K : Frag} {H : Hp} {vs : List V} {x : τ}, PV K H vs x → vs.length = n
  out : ∀ {K : Frag} {H : Hp} {v : V} {x : τ}, Enc.rep K H v x → ∃ p vs, v = .ref p ∧ SqT K H p vs ∧ PV K H vs x
  inn : ∀ {K : Frag} {H : Hp} {p : Addr} {vs : List V} {x : τ}, H p = some (.tup vs) → PV K H vs x → Enc.rep K H (.ref p) x
  up : ∀ {K : Frag} {H H' : Hp} {vs : List V} {x : τ}, Same H H' → PV K H vs x → PV K H' vs x
instance : TV T0 := ⟨0, fun _ _ vs _ => vs = [], fun h => by rw [h]; rfl, fun ⟨p, e, h⟩ => ⟨p, [], e, h, rfl⟩, fun h e => by subst e; exact ⟨_, rfl, SqT.of h⟩, fun _ h => h⟩
instance {α : Type} [Enc α] : TV (T1 α) := ⟨1, fun K H vs x => ∃ v1, vs = [v1] ∧ Enc.rep K H v1 x.a, fun ⟨v1, e, _⟩ => by rw [e]; rfl, fun ⟨p, v1, e, h, r⟩ => ⟨p, _, e, SqT.of h, v1, rfl, r⟩, fun h ⟨v1, e, r⟩ => by subst e; exact ⟨_, v1, rfl, h, r⟩, fun s ⟨v1, e, r⟩ => ⟨v1, e, Enc.mono s r⟩⟩
instance {α β : Type} [Enc α] [Enc β] : TV (α × β) := ⟨2, fun K H vs x => ∃ v1 v2, vs = [v1, v2] ∧ Enc.rep K H v1 x.1 ∧ Enc.rep K H v2 x.2, fun ⟨v1, v2, e, _⟩ => by rw [e]; rfl, fun ⟨p, v1, v2, e, h, r⟩ => ⟨p, _, e, SqT.of h, v1, v2, rfl, r⟩,
  fun h ⟨v1, v2, e, r⟩ => by subst e; exact ⟨_, v1, v2, rfl, h, r⟩, fun s ⟨v1, v2, e, r1, r2⟩ => ⟨v1, v2, e, Enc.mono s r1, Enc.mono s r2⟩⟩
instance {α β γ : Type} [Enc α] [Enc β] [Enc γ] : TV (T3 α β γ) := ⟨3, fun K H vs x => ∃ v1 v2 v3, vs = [v1, v2, v3] ∧ Enc.rep K H v1 x.a ∧ Enc.rep K H v2 x.b ∧ Enc.rep K H v3 x.c, fun ⟨v1, v2, v3, e, _⟩ => by rw [e]; rfl, fun ⟨p, v1, v2, v3, e, h, r⟩ => ⟨p, _, e, SqT.of h, v1, v2, v3, rfl, r⟩,
  fun h ⟨v1, v2, v3, e, r⟩ => by subst e; exact ⟨_, v1, v2, v3, rfl, h, r⟩, fun s ⟨v1, v2, v3, e, r1, r2, r3⟩ => ⟨v1, v2, v3, e, Enc.mono s r1, Enc.mono s r2, Enc.mono s r3⟩⟩
instance {α β γ δ : Type} [Enc α] [Enc β] [Enc γ] [Enc δ] : TV (T4 α β γ δ) := ⟨4, fun K H vs x => ∃ v1 v2 v3 v4, vs = [v1, v2, v3, v4] ∧ Enc.rep K H v1 x.a ∧ Enc.rep K H v2 x.b ∧ Enc.rep K H v3 x.c ∧ Enc.rep K H v4 x.d, fun ⟨v1, v2, v3, v4, e, _⟩ => by rw [e]; rfl,
  fun ⟨p, v1, v2, v3, v4, e, h, r⟩ => ⟨p, _, e, SqT.of h, v1, v2, v3, v4, rfl, r⟩, fun h ⟨v1, v2, v3, v4, e, r⟩ => by subst e; exact ⟨_, v1, v2, v3, v4, rfl, h, r⟩, fun s ⟨v1, v2, v3, v4, e, r1, r2, r3, r4⟩ => ⟨v1, v2, v3, v4, e, Enc.mono s r1, Enc.mono s r2, Enc.mono s r3, Enc.mono s r4⟩⟩
section
variable {X : Cx} {W : WX} {ss : List Slot} {pos : Pos} {a : Expr}
structure Cats {τ₁ τ₂ τ₃ : Type} [Enc τ₁] [Enc τ₂] [Enc τ₃] [TV τ₁] [TV τ₂] [TV τ₃] (f : τ₁ → τ₂ → τ₃) : Prop where
  pv : ∀ {K : Frag} {H : Hp} {vs ws : List V} {x : τ₁} {y : τ₂}, TV.PV K H vs x → TV.PV K H ws y → TV.PV K H (vs ++ ws) (f x y)
  p1 : TV.n τ₁ ≠ 0
  z2 : TV.n τ₂ = 0 → ∀ {K : Frag} {H : Hp} {v : V} {x : τ₁} (y : τ₂), Enc.rep K H v x → Enc.rep K H v (f x y)
  le : TV.n τ₁ + TV.n τ₂ ≤ 100
structure Slcs {τ₁ τ₂ : Type} [Enc τ₁] [Enc τ₂] [TV τ₁] [TV τ₂] (lo hi : Option Int) (f : τ₁ → τ₂) : Prop where
  pv : ∀ {K : Frag} {H : Hp} {vs : List V} {x : τ₁}, TV.PV K H vs x → TV.PV K H (cutV vs lo hi) (f x)
  nw : ¬ (HT.sIx (TV.n τ₁) 0 lo = 0 ∧ HT.sIx (TV.n τ₁) (TV.n τ₁) hi = TV.n τ₁)
end
def memB {α : Type} [DecidableEq α] (x : α) (l : List α) : Bool := decide (x ∈ l)
section
variable {α β γ δ : Type} [Enc α] [Enc β] [Enc γ] [Enc δ]
end
end G

namespace G
open PySem PySem.Spec PyProof.Rows L2
section
variable {X : Cx} {W : WX} {ss : List Slot} {pos : Pos} {a : Expr}
end
end G

namespace G
open PySem PySem.Spec PyProof.Rows L2
section
def pcmpB (a b : PyData × PyData) : Bool := PySem.W.alike a.1 b.1 && (!PyData.eqv a.1 b.1 || (PySem.W.alike a.2 b.2 && PyData.eqv a.2 b.2))
def firB (ps : List (PyData × PyData)) : Bool := ps.all fun a => ps.all fun b => pcmpB a b
noncomputable def firstKind (h : Heap) (ps : List (PyData × PyData)) : PyProof.Rows.KeyKind where
  toKeyOrd := listOrd itemOrd
  keyOf v := open Classical in if q : ∃ p, p ∈ ps ∧ ∃ as, Reads h v (.tuple [p.1, p.2]) as then some (PySem.W.keyToks q.choose.1) else none
  dflt := ([] : List (Int ⊕ List Nat))
section
variable {prog : Program} {w : World} {A : Around} {E : Value → Shared → Prop} {s : Shared}
end
end
def srtF {κ α : Type} [Enc κ] [Enc α] [Dat κ] [Dat α] (xs : List (κ × α)) : List (κ × α) := xs.mergeSort (PySem.W.dataLe false fun a : κ × α => Dat.py a.1)
def sortF {κ α : Type} [Enc κ] [Enc α] [Dat κ] [Dat α] (xs : List (κ × α)) : Res (List (κ × α)) := guardR (decide (Dat.dep κ ≤ 30) && (decide (Dat.dep α ≤ 30) && firB (xs.map fun x => (Dat.py x.1, Dat.py x.2)))) (.ok (srtF xs))
section
variable {X : Cx} {W : WX} {ss : List Slot} {e : Expr}
end
end G

namespace G
open PySem PySem.Spec PyProof.Rows L2
instance {α β : Type} [Enc α] [Enc β] : Enc (α ⊕ β) := ⟨fun K H v x => match x with
  | .inl a => Enc.rep K H v a
  | .inr b => Enc.rep K H v b, fun {K H H' v x} s h => by
    cases x with
    | inl a => exact Enc.mono (α := α) s h
    | inr b => exact Enc.mono (α := β) s h⟩
instance {α β : Type} [Enc α] [Enc β] [Imm α] [Imm β] : Imm (α ⊕ β) := ⟨fun {K H v x} h => by
  cases x with
  | inl a => exact Imm.imm (α := α) h
  | inr b => exact Imm.imm (α := β) h⟩
instance {α β : Type} [Enc α] [Enc β] [NN α] [NN β] : NN (α ⊕ β) := ⟨fun {K H v x} h => by
  cases x with
  | inl a => exact NN.nn (α := α) h
  | inr b => exact NN.nn (α := β) h⟩
instance {α β : Type} [Enc α] [Enc β] [Dat α] [Dat β] : Dat (α ⊕ β) where
  py := fun x => match x with | .inl a => Dat.py a | .inr b => Dat.py b
  dp := fun {K H v x} h => by
    cases x with
    | inl a => exact Dat.dp (α := α) h
    | inr b => exact Dat.dp (α := β) h
  lay := fun x => match x with | .inl a => Dat.lay a | .inr b => Dat.lay b
  dep := max (Dat.dep α) (Dat.dep β)
  layOk := fun {x} h => by
    cases x with
    | inl a => exact Dat.layOk (α := α) h
    | inr b => exact Dat.layOk (α := β) h
  depOk := fun x => by
    cases x with
    | inl a => exact Nat.le_trans (Dat.depOk a) (Nat.le_max_left _ _)
    | inr b => exact Nat.le_trans (Dat.depOk b) (Nat.le_max_right _ _)
def unl {α β : Type} : α ⊕ β → Res α
  | .inl a => .ok a
  | .inr _ => .stuck
def unr {α β : Type} : α ⊕ β → Res β
  | .inl _ => .stuck
  | .inr b => .ok b
section
variable {X : Cx} {W : WX} {ss : List Slot} {e : Expr} {α β : Type} [Enc α] [Enc β]
end
end G

namespace G
open PySem PySem.Spec PyProof.Rows L2
def orPl {α β : Type} : Option (List α ⊕ List β) → List α ⊕ List β
  | none => .inl []
  | some (.inl []) => .inl []
  | some (.inr []) => .inl []
  | some (.inl (x :: l)) => .inl (x :: l)
  | some (.inr (x :: l)) => .inr (x :: l)
section
variable {X : Cx} {W : WX} {ss : List Slot} {e b : Expr} {pos : Pos} {α β : Type} [Enc α] [Enc β]
def unlL {α β : Type} : List α ⊕ List β → Res (List α)
  | .inl l => .ok l
  | .inr [] => .ok []
  | .inr (_ :: _) => .stuck
def unrL {α β : Type} : List α ⊕ List β → Res (List β)
  | .inr l => .ok l
  | .inl [] => .ok []
  | .inl (_ :: _) => .stuck
end
end G

namespace G
open PySem PySem.Spec PyProof.Rows L2
def dyO : Dy → Res (Option Int)
  | .non => .ok none
  | .int i => .ok (some i)
  | _ => .stuck
def t4L : List Dy → Res (T4 Str (Option Int) (Option Int) Int)
  | [.str a, b, c, .int d] => (dyO b).bind fun b => (dyO c).bind fun c => .ok ⟨a, b, c, d⟩
  | _ => .stuck
def t3L : List Dy → Res (T3 Str (Option Int) (Option Int))
  | [.str a, b, c] => (dyO b).bind fun b => (dyO c).bind fun c => .ok ⟨a, b, c⟩
  | _ => .stuck
structure TupTo {τ : Type} [Enc τ] (c : List Dy → Res τ) : Prop where
  rep : ∀ {K : Frag} {F : Hp} {p : Addr} {vs : List V} {xs : List Dy} {y : τ}, c xs = .ok y → All2 (fun v (d : Dy) => Enc.rep K F v d) vs xs → F p = some (.tup vs) → Enc.rep K F (.ref p) y
  nox : ∀ xs, NoX (c xs)
section
variable {X : Cx} {W : WX} {ss : List Slot} {a : Expr} {pos : Pos}
end
end G

namespace G
open PySem PySem.Spec PyProof.Rows L2
def sumL {α β : Type} : List α ⊕ List β → List (α ⊕ β)
  | .inl l => l.map Sum.inl
  | .inr l => l.map Sum.inr
instance {α β : Type} [Enc α] [Enc β] [ToDy α] [ToDy β] : ToDy (α ⊕ β) := ⟨fun x => match x with
  | .inl a => ToDy.dy a
  | .inr b => ToDy.dy b, fun {K H v x} h => by
    cases x with
    | inl a => exact ToDy.rep (α := α) h
    | inr b => exact ToDy.rep (α := β) h⟩
section
variable {X : Cx} {W : WX} {ss : List Slot} {e a : Expr} {pos : Pos} {α β : Type} [Enc α] [Enc β]
structure It1 (τ : Type) [Enc τ] {γ : Type} [Enc γ] (i : Int) (f : τ → γ) : Prop where
  at1 : ∀ {K : Frag} {H : Hp} {v : V} {x : τ}, Enc.rep K H v x → ∃ p vs u, v = .ref p ∧ SqT K H p vs ∧ atI vs i = some u ∧ Enc.rep K H u (f x)
section
variable {γ δ ε : Type} [Enc γ] [Enc δ] [Enc ε]
end
end
end G

namespace G
open PySem PySem.Spec PyProof.Rows L2
def rLtD (K : Frag) : R2 := fun x y H Q => ∃ d d', Dp K H x d ∧ Dp K H y d' ∧ PySem.W.alike d d' = true ∧ d ≠ .none ∧ d.depth ≤ 60 ∧ Q (.bl (PySem.W.dataLt d d')) H
def ltD {α : Type} [Enc α] [Dat α] (a b : α) : Res Bool := guardR (decide (Dat.dep α ≤ 60) && PySem.W.alike (Dat.py a) (Dat.py b) && isTup1 (Dat.py a)) (.ok (PySem.W.dataLt (Dat.py a) (Dat.py b)))
section
variable {X : Cx}
end
end G

namespace G
open PySem PySem.Spec PyProof.Rows L2
section
variable {κ β : Type} [Enc κ] [DecidableEq κ] [DK κ] [Enc β]
variable {X : Cx} {W : WX} {ss : List Slot} {pos : Pos} {a b : Expr}
end
def opR {α : Type} : Option α → Res α
  | some a => .ok a
  | none => .stuck
def gsAt {α β : Type} : ((β × Option α) ⊕ T3 β (Option α) (Option α)) → Int → Res α
  | .inl y, i => if i = 1 then opR y.2 else .stuck
  | .inr y, i => if i = 1 then opR y.b else if i = 2 then opR y.c else .stuck
section
variable {α β : Type} [Enc α] [Enc β] {X : Cx} {W : WX} {ss : List Slot} {pos : Pos} {a b : Expr}
end
end G

namespace G
open PySem PySem.Spec PyProof.Rows L2
instance {α : Type} [Enc α] [Dat α] : Dat (T1 α) where
  py := fun x => .tuple [Dat.py x.a]
  dp := fun ⟨p, v1, e, h, r1⟩ => by rw [e]; exact .tup (SqT.of h) (.cons (Dat.dp r1) .nil)
  lay := fun x => Dat.lay x.a
  dep := Dat.dep α + 1
  layOk := fun h => by
    simp only [PyData.canLay0, PyData.canLayAll0, and_true, Bool.and_true]
    exact Dat.layOk h
  depOk := fun x => by
    have h1 := Dat.depOk x.a
    simp only [PyData.depth, PyData.depthAll]
    omega
instance {α : Type} [Enc α] : HasTy (T1 α) := ⟨"tuple", fun ⟨p, v1, e, h, _⟩ => by rw [e]; exact .base (.tup h)⟩
class TyEq (α β : Type) [Enc α] [Enc β] [HasTy α] [HasTy β] : Prop where
  eq : HasTy.ty α = HasTy.ty β
section
variable {α β γ δ ε : Type} [Enc α] [Enc β] [Enc γ] [Enc δ] [Enc ε]
instance : TyEq (List α) (List β) := ⟨rfl⟩
instance : TyEq (α × β) (T3 γ δ ε) := ⟨rfl⟩
instance : TyEq (α × β) (T1 γ) := ⟨rfl⟩
instance [HasTy α] [HasTy β] [TyEq α β] : HasTy (α ⊕ β) := ⟨HasTy.ty α, fun {K H v x} h => by
  cases x with
  | inl a => exact HasTy.ok (α := α) h
  | inr b =>
    rw [TyEq.eq (α := α) (β := β)]
    exact HasTy.ok (α := β) h⟩
end
section
variable {X : Cx} {W : WX} {ss : List Slot} {e a : Expr} {pos : Pos}
structure SlcT {τ α : Type} [Enc τ] [Enc α] [TV τ] (lo hi : Option Int) (f : τ → Tup α) : Prop where
  pv : ∀ {K : Frag} {H : Hp} {vs : List V} {x : τ}, TV.PV K H vs x → All2 (fun v a => Enc.rep K H v a) (cutV vs lo hi) (f x).l
  nw : ¬ (HT.sIx (TV.n τ) 0 lo = 0 ∧ HT.sIx (TV.n τ) (TV.n τ) hi = TV.n τ)
section
variable {α β : Type} [Enc α] [Enc β]
end
end
end G

namespace G
open PySem PySem.Spec PyProof.Rows L2
theorem SN.slots {X : Cx} {W : WX} {S : Type} {ss ss' : List Slot} {sts : List Stmt} {M : Res S} {post : S → List Slot} (h : SN X W ss' sts M post) (q : ss = ss') : SN X W ss sts M post := q ▸ h
theorem SB.slots {X : Cx} {W : WX} {S L R : Type} {ss ss' : List Slot} {sts : List Stmt} {M : Res (Out S L R)} {pn : S → List Slot} {pl : L → List Slot} {kr : R → Slot} (h : SB X W ss' sts M pn pl kr) (q : ss = ss') : SB X W ss sts M pn pl kr := q ▸ h
end G

namespace G
open PySem PySem.Spec PyProof.Rows L2
theorem tups2 (F : Hp) : Same (tups F) (tups (tups F)) := fun _ _ z => tups_some z (tups_isT z)
def rgO {α : Type} [Enc α] : Ow α := ⟨fun K F G v a => ∀ H, Same (tups F) H → Same G H → Enc.rep K H v a,
  fun s h H sF sG => h H ((tups_mono s).trans sF) sG, fun s h H sF sG => h H sF (s.trans sG), fun h s t => h _ ((tups_le _).trans s) t⟩
instance {α : Type} [Enc α] : ImmO (rgO (α := α)) := ⟨fun {K F G v a} h H sF sG => h H ((tups2 F).trans sF) sG⟩
class Cst {α β : Type} [Enc α] [Enc β] (f : α → β) : Prop where
  cst : ∀ {K : Frag} {H : Hp} {v : V} {a : α}, Enc.rep K H v a → Enc.rep K H v (f a)
instance {α : Type} [Enc α] : Cst (fun a : α => a) := ⟨id⟩
instance {α β : Type} [Enc α] [Enc β] : Cst (Sum.inl : α → α ⊕ β) := ⟨id⟩
instance {α β : Type} [Enc α] [Enc β] : Cst (Sum.inr : β → α ⊕ β) := ⟨id⟩
instance {α : Type} [Enc α] [NN α] : Cst (some : α → Option α) := ⟨fun h => ⟨NN.nn h, h⟩⟩
section
variable {X : Cx} {W : WX} {ss : List Slot} {e e2 : Expr} {pos : Pos} {rest : List Stmt}
end
section
variable {X : Cx} {W : WX} {ss : List Slot} {e e2 : Expr} {pos : Pos} {rest : List Stmt}
end
end G

namespace G
open PySem PySem.Spec PyProof.Rows L2
class Clr (β : Type) [Enc β] where
  ok : β → Bool
  clr : β → β
  len : β → Nat
  lst : ∀ {K : Frag} {H : Hp} {v : V} {b : β}, Enc.rep K H v b → ok b = true → ∃ q ws, v = .ref q ∧ H q = some (.lst ws) ∧ ws.length = len b
  emp : ∀ {K : Frag} {H : Hp} {q : Addr} {b : β}, H q = some (.lst []) → ok b = true → Enc.rep K H (.ref q) (clr b)
instance {α : Type} [Enc α] : Clr (List α) where
  ok := fun _ => true
  clr := fun _ => []
  len := List.length
  lst := fun ⟨q, ws, e, h, r⟩ _ => ⟨q, ws, e, h, r.length⟩
  emp := fun h _ => ⟨_, [], rfl, h, trivial⟩
instance {α β : Type} [Enc α] [Enc β] [Clr α] [Clr β] : Clr (α ⊕ β) where
  ok := fun x => match x with | .inl a => Clr.ok a | .inr b => Clr.ok b
  clr := fun x => match x with | .inl a => .inl (Clr.clr a) | .inr b => .inr (Clr.clr b)
  len := fun x => match x with | .inl a => Clr.len a | .inr b => Clr.len b
  lst := fun {K H v x} r h => by
    cases x with
    | inl a => exact Clr.lst (β := α) r h
    | inr b => exact Clr.lst (β := β) r h
  emp := fun {K H q x} r h => by
    cases x with
    | inl a => exact Clr.emp (β := α) r h
    | inr b => exact Clr.emp (β := β) r h
instance {α : Type} [Enc α] [Clr α] : Clr (Option α) where
  ok := fun x => match x with | none => false | some a => Clr.ok a
  clr := fun x => match x with | none => none | some a => some (Clr.clr a)
  len := fun x => match x with | none => 0 | some a => Clr.len a
  lst := fun {K H v x} r h => by
    cases x with
    | none => cases h
    | some a => exact Clr.lst (β := α) r.2 h
  emp := fun {K H q x} r h => by
    cases x with
    | none => cases h
    | some a => exact ⟨(fun z => by cases z), Clr.emp (β := α) r h⟩
def spoilR {β γ : Type} [Enc β] [Clr β] (b : β) (m : Res γ) : Res Unit := if Clr.ok b = true then m.bind fun _ => guardR (big (Clr.len b)) (.ok ()) else .stuck
section
variable {X : Cx} {W : WX} {ss : List Slot} {e e2 : Expr} {pos : Pos} {rest : List Stmt}
end
structure Pv where
  v : V
instance : Enc Pv := ⟨fun _ _ v a => v = a.v, fun _ h => h⟩
abbrev PvT (α : Type) := (α × Pv) ⊕ T3 α Pv Pv
def pvs {α : Type} (x : PvT α) : List Pv := x.elim (fun x => [x.2]) (fun x => [x.b, x.c])
def cps {α : Type} [Enc α] (o : V) (x : PvT α) (k : Nat) : Slot :=
  ⟨fun K F G o' => o' = some o ∧ Enc.rep K F o x ∧ ∀ m a, (pvs x)[m]? = some a → ∃ q ws, a.v = .ref q ∧ G q = some (.lst ws) ∧ (m < k → ws = []),
   fun s t ⟨e, r, h⟩ => ⟨e, Enc.mono s r, fun m a z => by
     obtain ⟨q, ws, h1, h2, h3⟩ := h m a z
     exact ⟨q, ws, h1, t _ _ h2, h3⟩⟩⟩
def clrR {α β : Type} [Enc β] [Clr β] (t : (α × β) ⊕ T3 α β β) : Res ((α × β) ⊕ T3 α β β) := match t with
  | .inl x => if Clr.ok x.2 = true then .ok (.inl (x.1, Clr.clr x.2)) else .stuck
  | .inr x => if Clr.ok x.b = true ∧ Clr.ok x.c = true then .ok (.inr ⟨x.a, Clr.clr x.b, Clr.clr x.c⟩) else .stuck
section
variable {X : Cx} {W : WX} {ss : List Slot} {pos : Pos}
def absI (i : Int) : Int := if i < 0 then -i else i
end
end G

namespace G
open PySem PySem.Spec PyProof.Rows L2
section
variable [Pw] {κ β : Type} [Enc κ] [DecidableEq κ] [NKc κ] [Enc β]
def dnO : Ow (Dic κ β) := ⟨fun K F G v d => ∃ p kvs, v = .ref p ∧ G p = some (hN Pw.prog Pw.w p kvs) ∧ RepN K F kvs d.l,
  fun s ⟨p, kvs, e, h, r⟩ => ⟨p, kvs, e, h, RepN.mono s r⟩, fun s ⟨p, kvs, e, h, r⟩ => ⟨p, kvs, e, s _ _ h, r⟩,
  fun ⟨p, kvs, e, h, r⟩ s t => ⟨p, kvs, e, .inl (t _ _ h), RepN.mono s r⟩⟩
def osn : OSl (dnO (κ := κ) (β := β)) := ⟨owN, fun ⟨p, kvs, e, h, r⟩ => ⟨.ref p, e, p, kvs, rfl, h, r⟩, fun _ ⟨p, kvs, e, h, r⟩ => ⟨p, kvs, by rw [e], h, r⟩⟩
end
section
variable {X : Cx} {W : WX} {ss : List Slot} {pos : Pos} {e a : Expr}
variable [Pw] {κ β : Type} [Enc κ] [DecidableEq κ] [NKc κ] [NKr κ] [Enc β]
end
end G

namespace G
open PySem PySem.Spec PyProof.Rows L2
instance {α β γ δ ε : Type} [Enc α] [Enc β] [Enc γ] [Enc δ] [Enc ε] : TV (T5 α β γ δ ε) := ⟨5, fun K H vs x => ∃ v1 v2 v3 v4 v5, vs = [v1, v2, v3, v4, v5] ∧ Enc.rep K H v1 x.a ∧ Enc.rep K H v2 x.b ∧ Enc.rep K H v3 x.c ∧ Enc.rep K H v4 x.d ∧ Enc.rep K H v5 x.e, fun ⟨v1, v2, v3, v4, v5, e, _⟩ => by rw [e]; rfl,
  fun ⟨p, v1, v2, v3, v4, v5, e, h, r⟩ => ⟨p, _, e, SqT.of h, v1, v2, v3, v4, v5, rfl, r⟩, fun h ⟨v1, v2, v3, v4, v5, e, r⟩ => by subst e; exact ⟨_, v1, v2, v3, v4, v5, rfl, h, r⟩, fun s ⟨v1, v2, v3, v4, v5, e, r1, r2, r3, r4, r5⟩ => ⟨v1, v2, v3, v4, v5, e, Enc.mono s r1, Enc.mono s r2, Enc.mono s r3, Enc.mono s r4, Enc.mono s r5⟩⟩
section
variable {α β γ δ ε : Type} [Enc α] [Enc β] [Enc γ] [Enc δ] [Enc ε]
end
def t3ix {α β : Type} (x : T3 α β β) (i : Int) : Res β := if i = 1 then .ok x.b else if i = 2 then .ok x.c else .stuck
section
variable {X : Cx} {W : WX} {ss : List Slot} {pos : Pos} {a b : Expr}
end
end G

namespace G
open PySem PySem.Spec PyProof.Rows L2
abbrev O3 (α β : Type) [Enc α] [Enc β] : Ow (T3 α (List β) (List β)) := t3O (fzO (α := α)) (l1 (α := β)) (l1 (α := β))
def alS {α β : Type} [Enc α] [Enc β] (n : Int) (u : V) (t : T3 α (List β) (List β)) : Slot :=
  ⟨fun K F G o => ∃ p us, o = some (.ref p) ∧ F p = some (.tup us) ∧ atI us n = some u ∧ (O3 α β).own K F G (.ref p) t,
   fun s t' ⟨p, us, e, g, a, h⟩ => ⟨p, us, e, s _ _ g, a, (O3 α β).mG t' ((O3 α β).mF s h)⟩⟩
def t3put {α β : Type} (t : T3 α (List β) (List β)) (n : Int) (l : List β) : T3 α (List β) (List β) := if n = 1 then ⟨t.a, l, t.c⟩ else ⟨t.a, t.b, l⟩
section
variable {X : Cx} {W : WX} {ss : List Slot} {pos : Pos} {rest : List Stmt} {α β : Type} [Enc α] [Enc β]
end
end G

namespace G
open PySem PySem.Spec PyProof.Rows L2
abbrev D5 := T5 Dy Dy Dy Dy Dy
def t5dy {α β γ δ ε : Type} [Enc α] [Enc β] [Enc γ] [Enc δ] [Enc ε] [ToDy α] [ToDy β] [ToDy γ] [ToDy δ] [ToDy ε] (x : T5 α β γ δ ε) : D5 := ⟨ToDy.dy x.a, ToDy.dy x.b, ToDy.dy x.c, ToDy.dy x.d, ToDy.dy x.e⟩
section
variable {α β γ δ ε : Type} [Enc α] [Enc β] [Enc γ] [Enc δ] [Enc ε] [ToDy α] [ToDy β] [ToDy γ] [ToDy δ] [ToDy ε]
variable {X : Cx} {W : WX} {ss : List Slot} {e : Expr}
end
end G

namespace G
open PySem PySem.Spec PyProof.Rows L2
def dyOI : Dy → Res (Option Int) | .non => .ok none | .int i => .ok (some i) | _ => .stuck
abbrev SP4 := T4 Str (Option Int) Bool Int
def sp4C (x : T4 Dy Dy Dy Dy) : Res SP4 := (dyS x.a).bind fun a => (dyOI x.b).bind fun b => (dyB x.c).bind fun c => (dyI x.d).bind fun d => .ok ⟨a, b, c, d⟩
section
variable {X : Cx} {W : WX} {ss : List Slot} {e : Expr}
end
end G

namespace G
open PySem PySem.Spec PyProof.Rows L2
section
variable {X : Cx} {pins : List (Addr × Obj)} {σ : L2.St} {H : Hp} {s : Shared}
theorem dic_at (I : Inv X pins σ H s) {p : Addr} (hp : H p = some (.dK [])) : ∃ o es n, s.heap.get? p = some o ∧ o.cls = .type "dict" ∧ o.data = .dict es n ∧ es.toList = [] ∧ (p == sysModules) = false := by
  obtain ⟨_, hne, vs, rel, o, es, ep, ho, hx, hdt, _, hpr, _⟩ := I.hok p _ hp
  cases rel
  refine ⟨o, es, ep, ho, hx.1, hdt, ?_, hne⟩
  cases q : es.toList with
  | nil => rfl
  | cons e es' => rw [q] at hpr; cases hpr
theorem most_nil {h : Heap} {n : Nat} : ReadAtMost h n [] := fun _ m => nomatch m
mutual
theorem dy_rk (I : Inv X pins σ H s) : ∀ (d : Dy) (v : V) (u : Value), dyDep d ≤ 60 → DyR X.K H v d → RelV v u → (dyPy d).showable = true → (dyPy d).shown.length ≤ sizeLine → ∃ as bs, Reads s.heap u (dyPy d) as ∧ ReadAtMost s.heap (dyPy d).depth bs ∧ ReprK X.prog X.w bs s.heap (dyPy d).depth u (dyPy d).shown
  | .non, _, _, _, h, r, _, _ => by
    cases h; cases r; simp only [dyPy, PyData.shown]; exact ⟨[], [], .none, most_nil, .of_is ReprIs.none _ _ _⟩
  | .bl b, _, _, _, h, r, _, _ => by
    cases h; cases r; simp only [dyPy, PyData.shown]; exact ⟨[], [], .bool b, most_nil, .of_is (ReprIs.bool b) _ _ _⟩
  | .int i, _, _, _, h, r, hs, _ => by
    cases h; obtain ⟨t, rfl⟩ := r
    simp only [dyPy, PyData.shown, PyData.showable] at hs ⊢
    exact ⟨[], [], .int i t, most_nil, .of_is (ReprIs.int t (by simpa using hs)) _ _ _⟩
  | .str x, _, _, _, h, r, _, hz => by
    cases h; obtain ⟨t, rfl⟩ := r
    simp only [dyPy, PyData.shown] at hz ⊢
    exact ⟨[], [], .str x t, most_nil, .of_is (ReprIs.str x t hz) _ _ _⟩
  | .lst xs, _, _, hd, h, r, hs, hz => by
    cases h with
    | @lst p _ _ hp ha =>
      cases r
      obtain ⟨its, rv, ⟨o, n, ho, hc, vsA, hd'⟩, _⟩ := I.list (SqL.of hp)
      simp only [dyDep] at hd
      simp only [dyPy, PyData.shown, PyData.showable, PyData.depth] at hs hz ⊢
      obtain ⟨as, bs, hr, hb, hk⟩ := dy_rks I xs _ its (by omega) ha rv hs fun t ht => Nat.le_trans (listText_mem_le ht) hz
      have rd : Reads s.heap (.ref p) (.list (dyPys xs)) (p :: as) := .list ho hc hd' hr
      have hna : p ∉ bs := not_mem_of_deeper rd (by simp only [PyData.depth]; omega) hb
      refine ⟨p :: as, p :: bs, rd, ?_, ?_⟩
      · have := ReadAtMost.cons rd (by simp only [PyData.depth]; omega) hb
        simpa only [PyData.depth] using this
      cases its with
      | nil =>
        have hr' : ReadsAll s.heap [] (dyPys xs) as := hr
        generalize hq : dyPys xs = ys at hr' ⊢
        cases hr'
        simp only [PyData.shownAll, listText_nil]
        exact ReprK.listEmpty ho hc hd'
      | cons x l => exact ReprK.list ho hc hd' hna (by simpa using hk.length_eq) fun i y e => hk.item i y (by simpa using e)
  | .tup xs, _, _, hd, h, r, hs, hz => by
    cases h with
    | tup hsq ha =>
      cases r
      obtain ⟨its, rv, ⟨o, ho, hc, n, hd'⟩, _⟩ := I.tuple hsq
      simp only [dyDep] at hd
      simp only [dyPy, PyData.shown, PyData.showable, PyData.depth] at hs hz ⊢
      obtain ⟨as, bs, hr, hb, hk⟩ := dy_rks I xs _ its (by omega) ha rv hs fun t ht => Nat.le_trans (tupleText_mem_le ht) hz
      have rd : Reads s.heap (.ref _) (.tuple (dyPys xs)) as := .tuple ho hc hd' hr
      have hna := not_mem_of_deeper rd (by simp only [PyData.depth]; omega) hb
      refine ⟨as, _ :: bs, rd, ?_, ReprK.tuple ho hc hd' hna hk⟩
      have := ReadAtMost.cons rd (by simp only [PyData.depth]; omega) hb
      simpa only [PyData.depth] using this
  | .dic, _, _, _, h, r, _, _ => by
    cases h with
    | @dic p hp =>
      cases r
      obtain ⟨o, es, n, ho, hc, hdt, ee, hne⟩ := dic_at I hp
      have rd : Reads s.heap (.ref p) (.dict []) (p :: [] ++ []) := .dict ho hc hdt (by rw [ee]; exact .nil) (by rw [ee]; exact .nil)
      simp only [dyPy]
      refine ⟨_, p :: [], rd, ?_, ?_⟩
      · have := ReadAtMost.cons (n := 0) rd (Nat.zero_le _) most_nil
        exact this
      · simp only [PyData.depth, PyData.shown, PyData.shownKv]
        exact ReprK.dict ho hc hdt hne List.not_mem_nil (by rw [ee]; exact .nil)
  | .dc, _, _, hd, _, _, _, _ => by simp [dyDep] at hd
theorem dy_rks (I : Inv X pins σ H s) : ∀ (ds : List Dy) (vs : List V) (us : List Value), dyDeps ds ≤ 60 → DyA X.K H vs ds → Vals vs us → PyData.showableAll (dyPys ds) = true → (∀ t ∈ PyData.shownAll (dyPys ds), t.length ≤ sizeLine) → ∃ as bs, ReadsAll s.heap us (dyPys ds) as ∧ ReadAtMost s.heap (PyData.depthAll (dyPys ds)) bs ∧ ReprAllK X.prog X.w bs s.heap (PyData.depthAll (dyPys ds)) us (PyData.shownAll (dyPys ds))
  | [], _, _, _, h, r, _, _ => by cases h; cases r; simp only [dyPys, PyData.shownAll]; exact ⟨[], [], .nil, most_nil, .nil⟩
  | d :: ds, _, _, hd, h, r, hs, hz => by
    cases h with
    | cons h1 h2 =>
      cases r with
      | cons r1 r2 =>
        simp only [dyDeps] at hd
        simp only [dyPys, PyData.showableAll, PyData.shownAll, PyData.depthAll, Bool.and_eq_true] at hs hz ⊢
        obtain ⟨as1, b1, q1, hb1, k1⟩ := dy_rk I d _ _ (by omega) h1 r1 hs.1 (hz _ List.mem_cons_self)
        obtain ⟨as2, b2, q2, hb2, k2⟩ := dy_rks I ds _ _ (by omega) h2 r2 hs.2 fun t ht => hz t (List.mem_cons_of_mem _ ht)
        refine ⟨as1 ++ as2, b1 ++ b2, .cons q1 q2, (hb1.mono (Nat.le_max_left _ _)).append (hb2.mono (Nat.le_max_right _ _)), ?_⟩
        exact .cons ((k1.more fun b hb => List.mem_append_left _ hb).level_le (Nat.le_max_left _ _)) (k2.more_le (fun b hb => List.mem_append_right _ hb) (Nat.le_max_right _ _))
end
end
section
variable {X : Cx}
def rReprX (K : Frag) : List V → Hp → VK → Prop := fun xs H Q => ∃ x d, xs = [x] ∧ DyR K H x d ∧ dyDep d ≤ 60 ∧ (dyPy d).showable = true ∧ (dyPy d).depth ≤ 60 ∧ tellable (dyPy d) = true ∧ (dyPy d).shown.length ≤ sizeLine ∧ Q (.str (dyPy d).shown) H
def reprX (d : Dy) : Res Str := guardR (decide (dyDep d ≤ 60) && ((dyPy d).showable && (decide ((dyPy d).depth ≤ 60) && (tellable (dyPy d) && decide ((dyPy d).shown.length ≤ sizeLine))))) (.ok (dyPy d).shown)
end
end G

namespace G
open PySem PySem.Spec PyProof.Rows L2
section
variable [Pw] {κ β : Type} [Enc κ] [DecidableEq κ] [NKc κ] [Enc β]
def dlO : Ow (Dic κ (List β)) := ⟨fun K F G v d => ∃ (p : Addr) (kvs : List NKV), v = .ref p ∧ (G p = some (hN Pw.prog Pw.w p kvs) ∧ (kvs.map fun x : NKV => x.2.2).Nodup ∧ (dkeys d).Nodup) ∧ RepL K F G kvs d.l,
  fun s ⟨p, kvs, e, h, r⟩ => ⟨p, kvs, e, h, RepL.mono s (Same.refl _) r⟩, fun s ⟨p, kvs, e, h, r⟩ => ⟨p, kvs, e, ⟨s _ _ h.1, h.2.1, h.2.2⟩, RepL.mono (Same.refl _) s r⟩,
  fun ⟨p, kvs, e, h, r⟩ s t => ⟨p, kvs, e, .inl (t _ _ h.1), RepL.view s t r⟩⟩
def osnL : OSl (dlO (κ := κ) (β := β)) := ⟨owL, fun ⟨p, kvs, e, h, r⟩ => ⟨.ref p, e, p, kvs, rfl, h, r⟩, fun _ ⟨p, kvs, e, h, r⟩ => ⟨p, kvs, by rw [e], h, r⟩⟩
def adS (v0 : V) (q : Addr) (d : Dic κ (List β)) (k : κ) (l : List β) : Slot :=
  ⟨fun K F G o => o = some v0 ∧ ∃ (p : Addr) (kvs : List NKV) (ws : List V), v0 = .ref p ∧ (G p = some (hN Pw.prog Pw.w p kvs) ∧ (kvs.map fun x : NKV => x.2.2).Nodup ∧ (dkeys d).Nodup) ∧ (G q = some (.lst ws) ∧ All2 (fun v a => Enc.rep K F v a) ws l) ∧
    ((valN kvs (NKc.nk k) = some (.ref q) ∧ dhas d k = true ∧ RepL K F G kvs (dput d k l).l) ∨ (dhas d k = false ∧ RepL K F G kvs d.l ∧ V.ref q ∉ kvs.map fun x : NKV => x.2.2)),
   fun s t ⟨e, p, kvs, ws, e0, h, ⟨hq, r⟩, c⟩ => ⟨e, p, kvs, ws, e0, ⟨t _ _ h.1, h.2.1, h.2.2⟩, ⟨t _ _ hq, r.mono s⟩, c.imp (fun ⟨a, b, r⟩ => ⟨a, b, RepL.mono s t r⟩) fun ⟨a, r, n⟩ => ⟨a, RepL.mono s t r, n⟩⟩⟩
end
section
variable {X : Cx} {o i b value : Expr} {pos : Pos} {td ty tz : TE}
theorem pe_ngetD {apos cpos : Pos} (hu : X.A.units + 64 < cLine) (ho : PE X o td) (hi : PE X i ty) (hb : PE X b tz)
    (hbase : attributeBase o "get" X.env (eval o X.env) = eval o X.env := by rfl)
    (hfew : ((backTo cpos (starEach [i, b] X.env)).all (fun x => !x.1) && (backToKw cpos (keywordEach [] X.env)).all (fun x => x.1.isSome)
      && decide (([i, b] : List Expr).length + ([] : List Keyword).length + (if ([] : List Keyword).isEmpty then 0 else 1) < 30)) = true := by rfl)
    (hline : (apos.endLine == cpos.line) = true := by rfl) (htr : backTo cpos (starEach [i, b] X.env) = [(false, eval i X.env), (false, eval b X.env)] := by rfl) :
    PE X (.Call (.Attribute o "get" apos) [i, b] [] cpos) (fun σ H Q => td σ H fun x H1 => ∃ p kvs, x = .ref p ∧ Rd H1 p (hN X.prog X.w p kvs) ∧ ty σ H1 fun y H2 => tz σ H2 fun z H3 => ∃ r, NGet X H3 p y r ∧ Q (r.getD z) H3) := by
  refine ⟨fun pins s σ H Q I h => ?_⟩
  refine wpAny_Call_method hbase hfew hline PySem.F.plainAttrs_dict PySem.F.slot_dict_get PySem.F.type_dict_get (thn (ho.run pins s σ H _ I h) fun u s1 q1 => ?_)
  obtain ⟨x, H1, I1, rx, p, kvs, rfl, hp, q⟩ := q1
  obtain rfl : u = Value.ref p := rx
  obtain ⟨z, o, es, ep, xs, hho, ⟨hxx, hdt⟩, _⟩ := nRd I1 hp
  refine ⟨⟨o, hho, hxx.1⟩, fun b' z' => by cases z'; exact ⟨o, hho, hxx.2.1⟩, ?_⟩
  rw [htr]
  refine Calls.callWith_builtin rfl (Calls.evalArgs_plain (Calls.spliced_cons (thn (hi.run pins s1 σ H1 _ I1 q) fun iv s2 q2 => ?_)))
  obtain ⟨y, H2, I2, ry, q⟩ := q2
  refine Calls.spliced_cons (thn (hb.run pins s2 σ H2 _ I2 q) fun fv s3 q3 => Calls.spliced_nil ?_)
  obtain ⟨zv, H3, I3, rz, r, g, q⟩ := q3
  exact n_getD hu I3 g ry rz fun w' s4 I4 rw' => ⟨_, H3, I4, rw', q⟩
end
section
variable {X : Cx} {W : WX} {ss : List Slot} {pos : Pos} {rest : List Stmt} {e a b : Expr}
variable [Pw] {κ β : Type} [Enc κ] [DecidableEq κ] [NKc κ] [NKr κ] [Enc β]
theorem repL_same {K : Frag} {F G : Hp} {k : κ} {l : List β} {d : Dic κ (List β)} (h : dget d k = some l) (nd : (dkeys d).Nodup) : (dput d k l).l = d.l := by
  have hh : dhas d k = true := by rw [← dget_isSome, h]; rfl
  unfold dput
  rw [if_pos hh]
  show d.l.map (fun kv => if kv.1 = k then (kv.1, l) else kv) = d.l
  have : ∀ m : List (κ × List β), (m.map (·.1)).Nodup → ((m.find? fun x => decide (x.1 = k)).map (·.2) = some l ∨ ∀ x ∈ m, x.1 ≠ k) → m.map (fun kv => if kv.1 = k then (kv.1, l) else kv) = m := by
    intro m
    induction m with
    | nil => intro _ _; rfl
    | cons x m ih =>
      intro n hf
      have n' := List.nodup_cons.mp n
      rw [List.map_cons]
      by_cases ex : x.1 = k
      · have hl : x.2 = l := by
          rcases hf with hf | hf
          · rw [List.find?_cons, decide_eq_true ex] at hf
            exact Option.some.inj hf
          · exact (hf x List.mem_cons_self ex).elim
        rw [if_pos ex, ih n'.2 (.inr fun y my ey => n'.1 (List.mem_map.mpr ⟨y, my, ey.trans ex.symm⟩)), ← hl]
      · rw [if_neg ex, ih n'.2 (hf.imp (fun hf => by rw [List.find?_cons, decide_eq_false ex] at hf; exact hf) fun hf y my => hf y (List.mem_cons_of_mem _ my))]
  exact this d.l nd (.inl (by unfold dget at h; exact h))
theorem repL_in {K : Frag} {F G : Hp} {x : NKV} : ∀ {kvs : List NKV} {l : List (κ × List β)}, RepL K F G kvs l → x ∈ kvs → ∃ q u, x.2.2 = .ref q ∧ G q = some u
  | [], _, _, m => nomatch m
  | _ :: _, [], h, _ => h.elim
  | z :: kvs, w :: l, h, m => by
    rcases List.mem_cons.mp m with ez | m
    · obtain ⟨q', vs', e', g', _⟩ := h.1.2
      exact ⟨q', _, by rw [ez]; exact e', g'⟩
    · exact repL_in h.2 m
theorem st_getOr (i j : Nat) {R : Type} {ee : Bool} {kr : R → Slot} {v0 : V} {d : Dic κ (List β)} {x y : Str} {p py apos cpos : Pos} {k : κ} {mx : Res (List β)} {kk : List β → Res R} (hu : X.A.units + 64 < cLine) (hk : XI X W ss a (.ok k)) (hb : XK X W ss b mx ow)
    (h2 : ∀ q l, ST X W ee ((ss.set i (adS v0 q d k l)).set j (fr (⟨.ref q⟩ : Pv))) rest (kk l) kr) (hs : ss[i]? = some (po v0 dlO d) := by rfl) (hx : PwX X := by exact ⟨rfl, rfl⟩) (h8 : NKc.dp κ ≤ 8 := by decide) (hp : PE X (.Name x p) (tVar i) := by exact pv _)
    (hN : X.N.Nodup) (hj : X.N[j]? = some y := by rfl) (hxl : Loc X.env.scope y := by first | exact Or.inl rfl | exact Or.inr rfl)
    (hbase : attributeBase (.Name x p) "get" X.env (eval (.Name x p) X.env) = eval (.Name x p) X.env := by rfl)
    (hfew : ((backTo cpos (starEach [a, b] X.env)).all (fun x => !x.1) && (backToKw cpos (keywordEach [] X.env)).all (fun x => x.1.isSome)
      && decide (([a, b] : List Expr).length + ([] : List Keyword).length + (if ([] : List Keyword).isEmpty then 0 else 1) < 30)) = true := by rfl)
    (hline : (apos.endLine == cpos.line) = true := by rfl) (htr : backTo cpos (starEach [a, b] X.env) = [(false, eval a X.env), (false, eval b X.env)] := by rfl)
    (hsw : swapsWith (.Call (.Attribute (.Name x p) "get" apos) [a, b] [] cpos) (some (.Name y py)) pos.line X.env = pure false := by rfl) (hf : X.fn y = true ∨ X.env.scope.names.lookup y = some .local := by first | exact .inl rfl | exact .inr rfl) :
    ST X W ee ss (.Assign [.Name y py] (.Call (.Attribute (.Name x p) "get" apos) [a, b] [] cpos) pos :: rest) (mx.bind fun l => (Res.ok ((dget d k).getD l)).bind kk) kr := by
  have hasg := ps_set (pos := pos) hN hj hxl (pe_ngetD hu hp hk hb hbase hfew hline htr) hsw hf
  have h2' : PSs X rest fun D σ H => ∃ q l, rdX X ((ss.set i (adS v0 q d k l)).set j (fr (⟨.ref q⟩ : Pv))) (wT X W ee (kk l) kr) D σ H := ⟨fun pins s σ H D I ⟨q, l, z⟩ => (h2 q l).run pins s σ H D I z⟩
  refine PSs_imp (pss_cons hasg h2') fun D σ H ⟨B, F0, F, Gs, A, e0, q⟩ => ?_
  obtain ⟨G, o, hG, hσ, e, pp, kvs, rfl, ⟨g, nv, nk⟩, r⟩ := A.all.get hs
  subst e
  have mG := List.mem_of_getElem? hG
  have hH := A.sub G mG _ _ g
  refine ⟨.ref pp, hσ, pp, kvs, rfl, .inl (by rw [← hN_eq hx]; exact hH), A.sl.mono A.ext.sub (Same.refl H), fun y1 H1 s1 rk => ?_⟩
  have A1 := A.grow s1 (F' := F) ⟨Same.refl F, A.ext.sub.trans s1, fun _ _ h => .inl h⟩
  refine ⟨F, A1.ext.sub, A1.sl, wpS_R (wpS_bind q) A1.base fun l q v H2 F2 G2 s2 ex2 pr2 ⟨pb, wb, e1, gb, rb⟩ => ?_⟩
  cases e1
  have A2 := A1.grow s2 ex2
  have sG := A2.sub G mG
  have r2 : RepL X.K F2 G kvs d.l := RepL.mono ex2.le (Same.refl G) r
  have rH : RepN X.K H2 kvs d.l := RepL.view A2.ext.sub sG r2
  refine ⟨_, nget_of hx h8 (.inl (sG _ _ g)) rH (Enc.mono s2 rk), ?_⟩
  have zz := repL_get (k := k) r2
  cases ed : dget ⟨d.l⟩ k with
  | some as =>
    have ed' : dget d k = some as := ed
    rw [ed] at zz
    obtain ⟨vq, hval, hmem, qa, ws, rfl, hqa, rq⟩ := zz
    rw [ed'] at q
    have A3 : Asn X.K B F0 (ss.set i (adS (.ref pp) qa d k as)) σ H2 F2 Gs := ⟨A2.ext, A2.base, by
      have := A2.all.set (s := adS (.ref pp) qa d k as) (G := G) (o := some (.ref pp)) ⟨rfl, pp, kvs, ws, rfl, ⟨g, nv, nk⟩, ⟨hqa, rq⟩, .inl ⟨hval, by rw [← dget_isSome, ed']; rfl, by rw [repL_same (K := X.K) (F := F2) (G := G) ed' nk]; exact r2⟩⟩ i
      rw [set_self hσ, set_self hG] at this
      exact this, A2.priv, A2.dj⟩
    have A4 := A3.set (s := fr (⟨.ref qa⟩ : Pv)) (o := some (.ref qa)) (G := noHp) (Same.refl H2) (ext_refl A2.ext.sub) priv_no ⟨_, rfl, rfl⟩ j
    rw [hval]
    exact ⟨qa, as, B, F0, F2, Gs.set j noHp, A4, e0, q⟩
  | none =>
    have ed' : dget d k = none := ed
    rw [ed] at zz
    have zz : valN kvs (NKc.nk k) = none := zz
    rw [ed'] at q
    have fr1 : Fresh B F2 H2 Gs G2 := fresh_of A1 pr2
    have dG : ∀ {c u}, G2 c = some u → G c = none := fun {c u} z => (fr1 c u z).2.2.2.2 G mG
    have nq : V.ref pb ∉ kvs.map fun x : NKV => x.2.2 := fun m => by
      obtain ⟨x, hx', ex'⟩ := List.mem_map.mp m
      obtain ⟨q', u, e', g'⟩ := repL_in r2 hx'
      rw [ex'] at e'
      cases e'
      rw [dG gb] at g'; cases g'
    have G2le : ∀ {c u}, G2 c = some u → join G G2 c = some u := fun {c u} z => by unfold join; rw [dG z]; exact z
    have A3 := A2.chg (s := adS (.ref pp) pb d k l) (o := some (.ref pp)) (H' := H2) (G2 := join G G2) hG (fun _ _ _ h => h)
      (fun c u z => by
        rcases join_or z with y | y
        · exact ⟨sG _ _ y, (A2.priv G mG c u y).2.2.2, .inl (by rw [y]; exact fun h => nomatch h)⟩
        · obtain ⟨a1, a2, a3⟩ := fr1 c u y
          exact ⟨a1, a2, .inr ⟨a3.1, a3.2.1, a3.2.2⟩⟩)
      ⟨rfl, pp, kvs, wb, rfl, ⟨join_l _ _ g, nv, nk⟩, ⟨G2le gb, rb⟩, .inr ⟨by rw [← dget_isSome, ed']; rfl, RepL.mono (Same.refl F2) join_l r2, nq⟩⟩
    rw [set_self hσ] at A3
    have A4 := A3.set (s := fr (⟨.ref pb⟩ : Pv)) (o := some (.ref pb)) (G := noHp) (Same.refl H2) (ext_refl A3.ext.sub) priv_no ⟨_, rfl, rfl⟩ j
    rw [zz]
    exact ⟨pb, l, B, F0, F2, _, A4, e0, q⟩
theorem xi_ad (i j : Nat) {v0 : V} {q : Addr} {d : Dic κ (List β)} {k : κ} {l : List β} {y : Str} (hs : ss[i]? = some (adS v0 q d k l) := by rfl) (hj : ss[j]? = some (fr (⟨.ref q⟩ : Pv)) := by rfl) (hp : PE X (.Name y pos) (tVar j) := by exact pv _) : XI X W ss (.Name y pos) (.ok l) := by
  refine PE_imp hp fun σ H Q ⟨sl, z⟩ => ?_
  obtain ⟨o, ho, e, p, kvs, ws, e0, h, ⟨hq, r⟩, c⟩ := sl.get hs
  obtain ⟨o', ho', v, e', ev⟩ := sl.get hj
  subst e'
  have ev : v = .ref q := ev
  subst ev
  exact ⟨.ref q, ho', z _ H (Same.refl H) ⟨q, ws, rfl, hq, r⟩⟩
theorem s1_setAd (i j : Nat) {v0 : V} {q : Addr} {d : Dic κ (List β)} {k : κ} {l : List β} {m : Res β} {mi : Res Int} {y : Str} {p tpos : Pos} (h : XK X W ss e m fr) (hk : XI X W ss a mi) (hs : ss[i]? = some (adS v0 q d k l) := by rfl) (hj : ss[j]? = some (fr (⟨.ref q⟩ : Pv)) := by rfl) (hp : PE X (.Name y p) (tVar j) := by exact pv _)
    (hg : PG X (.Subscript (.Name y p) a tpos) (gSub (tVar j) (rI X W ss mi) rSetL)) (hsw : swapsWithSole [.Subscript (.Name y p) a tpos] e pos.line X.env = pure false := by rfl) (hw : swappedStores [.Subscript (.Name y p) a tpos] e X.env = pure none := by rfl)
    (h1 : (assignEach [.Subscript (.Name y p) a tpos] X.env).map (·.2) = [assign (.Subscript (.Name y p) a tpos) X.env] := by rfl) :
    S1 X W ss (.Assign [.Subscript (.Name y p) a tpos] e pos) (m.bind fun v => mi.bind fun n => setR l n v) (fun l' => ss.set i (adS v0 q d k l')) := by
  refine PS_imp (ps_asg h hg hsw hw h1) fun D σ H ⟨B, F0, F, Gs, A, z⟩ => ⟨F, A.ext.sub, A.sl, wpS_R (wpS_bind z) A.base fun v z v' H1 F1 G1 s1 ex1 _ ⟨v2, e1, rv⟩ => ?_⟩
  cases e1
  have A1 := A.grow s1 ex1
  obtain ⟨G, o, hG, hσ, e0, pp, kvs, ws, rfl, ⟨g, nv, nk⟩, ⟨hq, r⟩, c⟩ := A1.all.get hs
  subst e0
  obtain ⟨G', o', hG', hσ', u, e', ev⟩ := A1.all.get hj
  subst e'
  have ev : u = .ref q := ev
  subst ev
  refine ⟨.ref q, hσ', A1.sl.mono A1.ext.sub (Same.refl H1), wpS_R (wpS_bind z) A1.base fun n z w H2 s2 rk => ?_⟩
  have A2 := A1.grow s2 (F' := F1) ⟨Same.refl F1, A1.ext.sub.trans s2, fun _ _ h => .inl h⟩
  have mG := List.mem_of_getElem? hG
  have hH := A2.sub G mG _ _ hq
  unfold setR at z
  cases en : ixN l.length n with
  | none => rw [en] at z; exact z.elim
  | some n' =>
    rw [en] at z
    refine ⟨q, ws, n, n', rfl, rk, hH, by rw [r.length]; exact en, ?_⟩
    have qp : pp ≠ q := fun ec => by rw [← ec, g] at hq; cases hq
    have r' : All2 (fun v a => Enc.rep X.K F1 v a) (ws.set n' v') (l.set n' v) := r.set n' rv
    have A3 := A2.chg (s := adS (.ref pp) q d k (l.set n' v)) (o := some (.ref pp)) (H' := upd H2 q (.lst (ws.set n' v'))) (G2 := upd G q (.lst (ws.set n' v'))) hG
      (fun c u z h => by rw [upd_ne (fun ec => by rw [ec, hq] at z; cases z)]; exact h)
      (fun c u z => by
        by_cases ec : c = q
        · subst ec
          rw [upd_same] at z ⊢
          cases z
          exact ⟨rfl, rfl, .inl (by rw [hq]; exact fun h => nomatch h)⟩
        · rw [upd_ne ec] at z ⊢
          exact ⟨A2.sub G mG _ _ z, (A2.priv G mG c u z).2.2.2, .inl (by rw [z]; exact fun h => nomatch h)⟩)
      ⟨rfl, pp, kvs, ws.set n' v', rfl, ⟨by rw [upd_ne qp]; exact g, nv, nk⟩, ⟨upd_same, r'⟩, by
        rcases c with ⟨c1, c2, c3⟩ | ⟨c1, c2, c3⟩
        · refine .inl ⟨c1, c2, ?_⟩
          have nd : ((dput d k l).l.map (·.1)).Nodup := nodup_put d k l nk
          have := repL_chg r' c3 nd nv c1
          have e2 : (dput d k (l.set n' v)).l = (dput d k l).l.map fun kv => if kv.1 = k then (kv.1, l.set n' v) else kv := by
            unfold dput
            rw [if_pos c2, if_pos c2]
            show d.l.map _ = (d.l.map _).map _
            rw [List.map_map]
            refine List.map_congr_left fun x _ => ?_
            show (if x.1 = k then (x.1, l.set n' v) else x) = (if (if x.1 = k then (x.1, l) else x).1 = k then ((if x.1 = k then (x.1, l) else x).1, l.set n' v) else (if x.1 = k then (x.1, l) else x))
            by_cases ex : x.1 = k
            · rw [if_pos ex, if_pos ex, if_pos ex]
            · rw [if_neg ex, if_neg ex, if_neg ex]
          rw [e2]; exact this
        · refine .inr ⟨c1, ?_, c3⟩
          have go : ∀ {kvs : List NKV} {l : List (κ × List β)}, RepL X.K F1 G kvs l → (V.ref q ∉ kvs.map fun x : NKV => x.2.2) → RepL X.K F1 (upd G q (.lst (ws.set n' v'))) kvs l := by
            intro kvs
            induction kvs with
            | nil =>
              intro l h _
              cases l with
              | nil => trivial
              | cons _ _ => exact h.elim
            | cons y kvs ih =>
              intro l h n1
              cases l with
              | nil => exact h.elim
              | cons z l =>
                obtain ⟨⟨a1, ⟨q', vs', e', g', r''⟩⟩, t⟩ := h
                refine ⟨⟨a1, q', vs', e', ?_, r''⟩, ih t fun m => n1 (List.mem_cons_of_mem _ m)⟩
                rw [upd_ne (fun e => n1 (by rw [← e, ← e']; exact List.mem_cons_self))]
                exact g'
          exact go c2 c3⟩
    rw [set_self hσ] at A3
    exact z _ _ _ _ A3
theorem s1_putAd (i j : Nat) {v0 : V} {q : Addr} {d : Dic κ (List β)} {k : κ} {l : List β} {x y : Str} {p py tpos : Pos} (hu : X.A.units + 64 < cLine) (hk : XI X W ss a (.ok k)) (hs : ss[i]? = some (adS v0 q d k l) := by rfl) (hj : ss[j]? = some (fr (⟨.ref q⟩ : Pv)) := by rfl) (hij : i ≠ j := by decide) (hx : PwX X := by exact ⟨rfl, rfl⟩) (h8 : NKc.dp κ ≤ 8 := by decide)
    [Imm κ] (hp : PE X (.Name x p) (tVar i) := by exact pv _) (hpy : PE X (.Name y py) (tVar j) := by exact pv _) (hsw : swapsWith (.Name y py) (some (.Subscript (.Name x p) a tpos)) pos.line X.env = pure false := by rfl) :
    S1 X W ss (.Assign [.Subscript (.Name x p) a tpos] (.Name y py) pos) (dputR d k l) (fun d' => (ss.set j any).set i (po v0 dlO d')) := by
  refine PS_imp (ps_nput hu hp (xk_imm hk) hpy hsw) fun D σ H ⟨B, F0, F, Gs, A, z⟩ => ?_
  obtain ⟨G, o, hG, hσ, e0, pp, kvs, ws, rfl, ⟨g, nv, nk⟩, ⟨hq, r⟩, c⟩ := A.all.get hs
  subst e0
  obtain ⟨G', o', hG', hσ', u, e', ev⟩ := A.all.get hj
  subst e'
  have ev : u = .ref q := ev
  subst ev
  refine ⟨.ref q, hσ', .ref pp, hσ, F, A.ext.sub, A.sl, fun y1 H1 F1 G1 s1 ex1 _ ⟨y', e1, rk⟩ => ?_⟩
  cases e1
  have A1 := A.grow s1 ex1
  have mG := List.mem_of_getElem? hG
  have sG := A1.sub G mG
  have hH := sG _ _ g
  obtain ⟨bk, rfl⟩ := NKr.rf rk
  have len : kvs.length = d.l.length := by
    rcases c with ⟨c1, c2, c3⟩ | ⟨c1, c2, c3⟩
    · rw [c3.length]
      unfold dput
      rw [if_pos c2, List.length_map]
    · exact c2.length
  have keys : ∀ x ∈ kvs, KeyN X.K H1 x.1 x.2.1 := by
    rcases c with ⟨c1, c2, c3⟩ | ⟨c1, c2, c3⟩
    · exact repN_keys h8 (RepL.view A1.ext.sub sG (RepL.mono ex1.le (Same.refl G) c3))
    · exact repN_keys h8 (RepL.view A1.ext.sub sG (RepL.mono ex1.le (Same.refl G) c2))
  unfold dputR at z
  cases gd : big d.l.length with
  | false => rw [gd] at z; exact z.elim
  | true =>
    rw [gd] at z
    refine ⟨pp, _, rfl, ⟨kvs, NKc.nk k, bk, by rw [← hN_eq hx]; exact hH, keys, rfl, ⟨NKc.kh (Enc.mono A1.ext.sub rk), Nat.le_trans (NKc.dep k) h8⟩, by rw [len]; exact Nat.lt_of_le_of_lt (of_decide_eq_true gd) (by decide), rfl⟩, ?_⟩
    rw [← hN_eq hx]
    have qp : q ≠ pp := fun ec => by rw [ec, g] at hq; cases hq
    have own' : dlO.own X.K F1 (upd G pp (hN Pw.prog Pw.w pp (putN kvs (NKc.nk k) bk (.ref q)))) (.ref pp) (dput d k l) := by
      have keep : ∀ c vs, G c = some (.lst vs) → upd G pp (hN Pw.prog Pw.w pp (putN kvs (NKc.nk k) bk (.ref q))) c = some (.lst vs) := fun c vs h => by
        rw [upd_ne (fun ec => by rw [ec, g] at h; cases h)]; exact h
      rcases c with ⟨c1, c2, c3⟩ | ⟨c1, c2, c3⟩
      · have nd1 : (kvs.map (·.1)).Nodup := repL_nodup c3 (nodup_put d k l nk)
        have same : putN kvs (NKc.nk k) bk (.ref q) = kvs := by
          unfold putN
          rw [if_pos (by rw [c1]; rfl)]
          have : ∀ m : List NKV, (m.map (·.1)).Nodup → (valN m (NKc.nk k) = some (.ref q) ∨ ∀ x ∈ m, x.1 ≠ NKc.nk k) → m.map (fun x => if x.1 = NKc.nk k then (x.1, x.2.1, V.ref q) else x) = m := by
            intro m
            induction m with
            | nil => intro _ _; rfl
            | cons x m ih =>
              intro n hf
              have n' := List.nodup_cons.mp n
              rw [List.map_cons]
              by_cases ex : x.1 = NKc.nk k
              · have hl : x.2.2 = V.ref q := by
                  rcases hf with hf | hf
                  · rw [valN_pos ex] at hf
                    exact Option.some.inj hf
                  · exact (hf x List.mem_cons_self ex).elim
                rw [if_pos ex, ih n'.2 (.inr fun y my ey => n'.1 (List.mem_map.mpr ⟨y, my, ey.trans ex.symm⟩)), ← hl]
              · rw [if_neg ex, ih n'.2 (hf.imp (fun hf => by rw [valN_neg ex] at hf; exact hf) fun hf y my => hf y (List.mem_cons_of_mem _ my))]
          exact this kvs nd1 (.inl c1)
        rw [same] at keep ⊢
        exact ⟨pp, kvs, rfl, ⟨upd_same, nv, nodup_put d k l nk⟩, RepL.keep keep (RepL.mono ex1.le (Same.refl G) c3)⟩
      · have hn : valN kvs (NKc.nk k) = none := by
          have := repL_has (k := k) c2
          rw [c1] at this
          cases hv : valN kvs (NKc.nk k) with
          | none => rfl
          | some v => rw [hv] at this; cases this
        refine ⟨pp, _, rfl, ⟨upd_same, ?_, nodup_put d k l nk⟩, repL_put (RepL.keep keep (RepL.mono ex1.le (Same.refl G) c2)) rk ⟨q, ws, rfl, keep _ _ hq, r.mono ex1.le⟩⟩
        unfold putN
        rw [if_neg (by rw [hn]; exact fun h => nomatch h), List.map_append]
        refine List.nodup_append.mpr ⟨nv, List.pairwise_singleton _ _, fun v hv w hw ee => c3 ?_⟩
        have ew : w = V.ref q := List.mem_singleton.mp hw
        rw [← ew, ← ee]; exact hv
    have A2 := A1.chg (s := po (.ref pp) dlO (dput d k l)) (o := some (.ref pp)) (H' := upd H1 pp (hN Pw.prog Pw.w pp (putN kvs (NKc.nk k) bk (.ref q)))) (G2 := upd G pp (hN Pw.prog Pw.w pp (putN kvs (NKc.nk k) bk (.ref q)))) hG
      (fun c u z h => by rw [upd_ne (fun ec => by rw [ec, g] at z; cases z)]; exact h)
      (fun c u z => by
        by_cases ec : c = pp
        · subst ec
          rw [upd_same] at z ⊢
          cases z
          exact ⟨rfl, rfl, .inl (by rw [g]; exact fun h => nomatch h)⟩
        · rw [upd_ne ec] at z ⊢
          exact ⟨sG _ _ z, (A1.priv G mG c u z).2.2.2, .inl (by rw [z]; exact fun h => nomatch h)⟩)
      ⟨rfl, own'⟩
    rw [set_self hσ] at A2
    have A3 : Asn X.K B F0 ((ss.set i (po (.ref pp) dlO (dput d k l))).set j any) σ _ F1 _ := ⟨A2.ext, A2.base, by
      have hj2 : (Gs.set i (upd G pp (hN Pw.prog Pw.w pp (putN kvs (NKc.nk k) bk (.ref q)))))[j]? = some G' := by rw [List.getElem?_set_ne hij]; exact hG'
      have := A2.all.set (s := any) (G := G') (o := some (.ref q)) trivial j
      rw [set_self hσ', set_self hj2] at this
      exact this, A2.priv, A2.dj⟩
    rw [List.set_comm _ _ hij] at A3
    exact z _ _ _ _ A3
end
end G

namespace G
open PySem PySem.Spec PyProof.Rows L2
instance {α : Type} [DecidableEq α] : DecidableEq (Tup α) := fun ⟨a⟩ ⟨b⟩ => if h : a = b then .isTrue (by rw [h]) else .isFalse fun e => h (by injection e)
section
variable {X : Cx} {W : WX} {ss : List Slot} {pos : Pos} {rest : List Stmt} {e a b : Expr}
variable [Pw] {κ β : Type} [Enc κ] [DecidableEq κ] [NKc κ] [NKr κ] [Enc β] {mk : Res κ}
theorem xk_noneL {m : Res (List β)} (hu : X.A.units + 64 < cLine) (hk : XI X W ss a mk) (hv : XK X W ss e m ow) [Imm κ] (hx : PwX X := by exact ⟨rfl, rfl⟩) (h8 : NKc.dp κ ≤ 8 := by decide) :
    XK X W ss (.Dict [some a] [e] pos) (mk.bind fun k => m.bind fun l => .ok (⟨[(k, l)]⟩ : Dic κ (List β))) owL :=
  PE_imp (pe_none hu hk hv) fun σ H Q ⟨F, sf, sl, q⟩ p hp => by
    have s0 : Same H (upd H p (hN X.prog X.w p [])) := same_upd hp
    have slH := sl.mono (sf.trans s0) s0
    refine ⟨slH, wpR_imp (wpR_bind q) s0 fun k q x H1 s1 rk => ⟨F, sf.trans (s0.trans s1), sl.mono (Same.refl F) (s0.trans s1), wpR_imp (wpR_bind q) (s0.trans s1) fun l q y H2 F2 G2 s2 ex2 pr2 ⟨pb, wb, e1, gb, rb⟩ => ?_⟩⟩
    cases e1
    have s3 := s0.trans (s1.trans s2)
    have s01 := s0.trans s1
    have e2 : H2 p = some (hN X.prog X.w p []) := s2 _ _ (s1 _ _ upd_same)
    obtain ⟨bk, rfl⟩ := NKr.rf rk
    have rk2 := Enc.mono s2 rk
    refine ⟨e2, bk, _, rfl, ⟨NKc.kh rk2, Nat.le_trans (NKc.dep k) h8⟩, ?_⟩
    have tp : tups H2 p = none := by unfold tups; rw [e2]; rfl
    have h1p : H1 p ≠ none := fun z => by rw [s1 _ _ upd_same] at z; cases z
    have g2p : G2 p = none := by
      cases eg : G2 p with
      | none => rfl
      | some u => exact (h1p (pr2 p u eg).2.1).elim
    have f2p : F2 p = none := by
      cases ef : F2 p with
      | none => rfl
      | some u =>
        rcases ex2.new p u ef with y | y | y
        · have := Same.free sf hp
          rw [this] at y; cases y
        · exact (h1p y).elim
        · have := ex2.sub _ _ ef
          rw [e2] at this
          cases this; cases y
    have jp : join F2 (tups H2) p = none := by unfold join; rw [f2p]; exact tp
    have pbp : pb ≠ p := fun ec => by rw [ec, g2p] at gb; cases gb
    refine q _ _ (join F2 (tups H2)) (upd G2 p (hN X.prog X.w p [(NKc.nk k, bk, .ref pb)])) ?_ ⟨ex2.le.trans join_l, ?_, fun c u z => ?_⟩ (fun c u z => ?_) ⟨p, [(NKc.nk k, bk, .ref pb)], rfl, ⟨by rw [hN_eq hx]; exact upd_same, List.pairwise_singleton _ _, List.pairwise_singleton _ _⟩, show All2 _ [_] [_] from ⟨⟨⟨rfl, ?_⟩, pb, wb, rfl, ?_, ?_⟩, trivial⟩⟩
    · exact fun c u z => by rw [upd_ne (fun ec => by rw [ec, hp] at z; cases z)]; exact s3 _ _ z
    · exact fun c u z => by rw [upd_ne (fun ec => by rw [ec, jp] at z; cases z)]; exact join_le ex2.sub (tups_le H2) _ _ z
    · rcases join_or z with z | z
      · rcases ex2.new c u z with y | y | y
        · exact .inl y
        · exact .inr (.inl (Same.free s01 y))
        · exact .inr (.inr y)
      · exact .inr (.inr (tups_isT z))
    · by_cases ec : c = p
      · subst ec; rw [upd_same] at z; cases z
        exact ⟨upd_same, hp, jp, rfl⟩
      · rw [upd_ne ec] at z
        obtain ⟨k1, k2, k3, k4⟩ := pr2 c u z
        refine ⟨by rw [upd_ne ec]; exact k1, Same.free s01 k2, ?_, k4⟩
        unfold join
        rw [k3]
        cases et : tups H2 c with
        | none => rfl
        | some w =>
          have h1 := tups_le H2 _ _ et
          rw [k1] at h1
          cases h1
          rw [tups_isT et] at k4; cases k4
    · exact Enc.mono (join_r ex2.sub (tups_le H2)) (Imm.imm rk2)
    · rw [upd_ne pbp]; exact gb
    · exact rb.mono join_l
theorem st_retItL (i : Nat) {d : Dic κ (List β)} {ee : Bool} {x : Str} {p ip : Pos} (hu : X.A.units + 64 < cLine) (hk : XI X W ss a mk) (hs : ss[i]? = some (owL d) := by rfl) (hx : PwX X := by exact ⟨rfl, rfl⟩) (h8 : NKc.dp κ ≤ 8 := by decide) (hp : PE X (.Name x p) (tVar i) := by exact pv _) (hsl : NoSl a := by exact fun _ _ => rfl) :
    ST X W ee ss (.Return (some (.Subscript (.Name x p) a ip)) pos :: rest) (mk.bind fun k => unw (dget d k)) ow := by
  have h : PS X (.Return (some (.Subscript (.Name x p) a ip)) pos) (rdX X ss fun D B F0 => wpS X W (mk.bind fun k => unw (dget d k)) B fun r => RtOk X ow r D B F0) := by
    refine PS_imp (ps_ret (pe_nget hu hp hk hsl)) fun D σ H ⟨B, F0, F, Gs, A, q⟩ => ?_
    obtain ⟨G, o, hG, hσ, pp, kvs, e, ⟨g, nv, nk⟩, r⟩ := A.all.get hs
    subst e
    have mG := List.mem_of_getElem? hG
    refine ⟨.ref pp, hσ, A.sl.mono A.ext.sub (Same.refl H), wpS_R (wpS_bind q) A.base fun k q y H1 s1 rk => ?_⟩
    have A1 := A.grow s1 (F' := F) ⟨Same.refl F, A.ext.sub.trans s1, fun _ _ h => .inl h⟩
    have sG := A1.sub G mG
    have rH : RepN X.K H1 kvs d.l := RepL.view A1.ext.sub sG r
    have ng := nget_of hx h8 (.inl (sG _ _ g)) rH rk
    have zz := repL_get (k := k) r
    cases ed : dget ⟨d.l⟩ k with
    | none => rw [show dget d k = none from ed] at q; exact q.elim
    | some as =>
      rw [show dget d k = some as from ed] at q
      rw [ed] at zz
      obtain ⟨vq, hval, hmem, qa, ws, rfl, hqa, rq⟩ := zz
      rw [hval] at ng
      exact ⟨pp, .ref qa, rfl, ng, q _ H1 F G A1.base A1.ext (A1.priv G mG) ⟨qa, ws, rfl, hqa, rq⟩⟩
  exact PSs_imp (rest_free h fun D D' σ H e1 _ _ ⟨B, F0, F, Gs, A, q⟩ => ⟨B, F0, F, Gs, A, wpS_imp q fun r q v H' F' G' a b c d => by rw [e1]; exact q v H' F' G' a b c d⟩)
    fun D σ H ⟨B, F0, F, Gs, A, _, q⟩ => ⟨B, F0, F, Gs, A, q⟩
theorem s1_movL (i j : Nat) {d : Dic κ (List β)} {x y : Str} {p py : Pos} (hN : X.N.Nodup) (hs : ss[j]? = some (owL d) := by rfl) (hi : X.N[i]? = some x := by rfl) (hx : Loc X.env.scope x := by first | exact Or.inl rfl | exact Or.inr rfl) (hp : PE X (.Name y py) (tVar j) := by exact pv _)
    (hsw : swapsWith (.Name y py) (some (.Name x p)) pos.line X.env = pure false := by rfl) (hf : X.fn x = true ∨ X.env.scope.names.lookup x = some .local := by first | exact .inl rfl | exact .inr rfl) :
    S1 X W ss (.Assign [.Name x p] (.Name y py) pos) (.ok d) (fun d' => (ss.set j any).set i (owL d')) :=
  PS_imp (ps_set hN hi hx hp hsw hf) fun D σ H ⟨B, F0, F, Gs, A, q⟩ => by
    obtain ⟨G, o, hG, hσ, pp, kvs, e, h, r⟩ := A.all.get hs
    subst e
    obtain ⟨A1, f1⟩ := A.take hG
    exact ⟨.ref pp, hσ, q _ H F _ (A1.give f1 i (s := owL d) (o := some (.ref pp)) ⟨pp, kvs, rfl, h, r⟩)⟩
end
end G

namespace G
open PySem PySem.Spec PyProof.Rows L2
section
variable {X : Cx} {W : WX} {ss : List Slot} {pos : Pos} {a : Expr}
end
end G

namespace G
open PySem PySem.Spec PyProof.Rows L2
section
variable {X : Cx} {W : WX} {ss : List Slot} {pos : Pos} {rest : List Stmt} {e a b : Expr}
variable [Pw] {κ β : Type} [Enc κ] [DecidableEq κ] [NKc κ] [NKr κ] [Enc β] {mk : Res κ}
theorem s1_movN (i j : Nat) {d : Dic κ β} {x y : Str} {p py : Pos} (hN : X.N.Nodup) (hs : ss[j]? = some (owN d) := by rfl) (hi : X.N[i]? = some x := by rfl) (hx : Loc X.env.scope x := by first | exact Or.inl rfl | exact Or.inr rfl) (hp : PE X (.Name y py) (tVar j) := by exact pv _)
    (hsw : swapsWith (.Name y py) (some (.Name x p)) pos.line X.env = pure false := by rfl) (hf : X.fn x = true ∨ X.env.scope.names.lookup x = some .local := by first | exact .inl rfl | exact .inr rfl) :
    S1 X W ss (.Assign [.Name x p] (.Name y py) pos) (.ok d) (fun d' => (ss.set j any).set i (owN d')) :=
  PS_imp (ps_set hN hi hx hp hsw hf) fun D σ H ⟨B, F0, F, Gs, A, q⟩ => by
    obtain ⟨G, o, hG, hσ, pp, kvs, e, h, r⟩ := A.all.get hs
    subst e
    obtain ⟨A1, f1⟩ := A.take hG
    exact ⟨.ref pp, hσ, q _ H F _ (A1.give f1 i (s := owN d) (o := some (.ref pp)) ⟨pp, kvs, rfl, h, r⟩)⟩
end
end G

namespace G
open PySem PySem.Spec PyProof.Rows L2
section
variable {X : Cx} {W : WX} {ss : List Slot} {pos : Pos} {e a b : Expr}
end
end G

namespace G
open PySem PySem.Spec PyProof.Rows L2
def Sat {α : Type} (m : Res α) (P : α → Prop) : Prop := ∃ a, m = .ok a ∧ P a
theorem Sat.ok {α : Type} {a : α} {P : α → Prop} (h : P a) : Sat (.ok a) P := ⟨a, rfl, h⟩
theorem Sat.bind {α β : Type} {m : Res α} {k : α → Res β} {P : α → Prop} {Q : β → Prop} (h : Sat m P) (hk : ∀ a, P a → Sat (k a) Q) : Sat (m.bind k) Q := by
  obtain ⟨a, e, p⟩ := h
  rw [e]
  exact hk a p
theorem Sat.imp {α : Type} {m : Res α} {P Q : α → Prop} (h : Sat m P) (f : ∀ a, P a → Q a) : Sat m Q := let ⟨a, e, p⟩ := h; ⟨a, e, f a p⟩
theorem Sat.and {α : Type} {m : Res α} {P Q : α → Prop} (h : Sat m P) (h' : Sat m Q) : Sat m (fun a => P a ∧ Q a) := by
  obtain ⟨a, e, p⟩ := h
  obtain ⟨b, e', q⟩ := h'
  rw [e] at e'
  injection e' with e'
  subst e'
  exact ⟨a, e, p, q⟩
theorem Sat.eq {α : Type} {m : Res α} {a : α} (h : Sat m (fun b => b = a)) : m = .ok a := by obtain ⟨b, e, q⟩ := h; rw [e, q]
theorem Sat.of_eq {α : Type} {m : Res α} {a : α} {P : α → Prop} (e : m = .ok a) (h : P a) : Sat m P := ⟨a, e, h⟩
theorem Sat.guard {α : Type} {c : Bool} {m : Res α} {P : α → Prop} (hc : c = true) (h : Sat m P) : Sat (guardR c m) P := by rw [hc]; exact h
theorem Sat.ite {α : Type} {c : Bool} {a b : Res α} {P : α → Prop} (h1 : c = true → Sat a P) (h2 : c = false → Sat b P) : Sat (if c = true then a else b) P := by
  cases c with
  | true => exact h1 rfl
  | false => exact h2 rfl
theorem Sat.idx {α : Type} {xs : List α} {i : Nat} {P : α → Prop} (hi : i < xs.length) (h : P xs[i]) : Sat (G.idx xs (i : Int)) P := ⟨_, idx_nat (List.getElem?_eq_getElem hi), h⟩
theorem idx_int {α : Type} {xs : List α} {i : Int} {a : α} (h0 : 0 ≤ i) (h : xs[i.toNat]? = some a) : G.idx xs i = .ok a := by
  have h2 := idx_nat (xs := xs) (i := i.toNat) h
  rw [Int.toNat_of_nonneg h0] at h2
  exact h2
theorem Sat.idxI {α : Type} {xs : List α} {i : Int} {P : α → Prop} (h0 : 0 ≤ i) (hi : i < xs.length) (h : ∀ a, xs[i.toNat]? = some a → P a) : Sat (G.idx xs i) P := by
  have hl : i.toNat < xs.length := by omega
  exact ⟨_, idx_int h0 (List.getElem?_eq_getElem hl), h _ (List.getElem?_eq_getElem hl)⟩
theorem Sat.foldR {S α : Type} {f : S → α → Res S} {xs : List α} {s0 : S} (I : Nat → S → Prop) (h0 : I 0 s0) (hs : ∀ i s a, xs[i]? = some a → I i s → Sat (f s a) (I (i + 1))) : Sat (G.foldR f s0 xs) (I xs.length) := by
  induction xs generalizing s0 I with
  | nil => exact .ok h0
  | cons a as ih =>
    refine Sat.bind (hs 0 s0 a rfl h0) fun s p => ?_
    exact ih (fun i s => I (i + 1) s) p fun i s b hb q => hs (i + 1) s b hb q
theorem Sat.lcT {α β : Type} {p : α → Res Bool} {g : α → Res β} {xs : List α} {p' : α → Bool} {g' : α → β} {P : List β → Prop} (hl : xs.length ≤ 1000000) (hp : ∀ a ∈ xs, p a = .ok (p' a)) (hg : ∀ a ∈ xs, p' a = true → g a = .ok (g' a)) (h : P ((xs.filter p').map g')) : Sat (G.lcT p g xs) P :=
  .guard (decide_eq_true hl) (.of_eq (lcR_filter hp hg) h)
theorem lcT_map {α β : Type} {g : α → Res β} {xs : List α} {g' : α → β} (hl : xs.length ≤ 1000000) (hg : ∀ a ∈ xs, g a = .ok (g' a)) : G.lcT (fun _ => .ok true) g xs = .ok (xs.map g') := by
  unfold G.lcT
  rw [decide_eq_true hl]
  exact lcR_ok (fun _ _ => rfl) hg
theorem Sat.mul {i j : Int} {P : Int → Prop} (h : (-(2 ^ 64) < i ∧ i < 2 ^ 64) ∨ (-(2 ^ 64) < j ∧ j < 2 ^ 64)) (p : P (i * j)) : Sat (mulR i j) P := by
  rcases h with ⟨a, b⟩ | ⟨a, b⟩
  · exact .of_eq (mulR_l a b) p
  · exact .of_eq (mulR_r a b) p
theorem appR_ok {α : Type} {xs : List α} {a : α} (h : xs.length ≤ 1000000) : appR xs a = .ok (xs ++ [a]) := guardR_of (decide_eq_true h)
theorem catR_ok {α : Type} {xs ys : List α} (h : xs.length + ys.length ≤ 1000000) : catR xs ys = .ok (xs ++ ys) := guardR_of (decide_eq_true h)
theorem extR_ok {α : Type} {xs ys : List α} (h : xs.length + ys.length ≤ 1000000) : extR xs ys = .ok (xs ++ ys) := guardR_of (decide_eq_true h)
theorem repR1_ok {α : Type} {a : α} {k : Int} (h0 : 0 ≤ k) (h : k ≤ 1000000) : repR [a] k = .ok (List.replicate k.toNat a) := by
  unfold repR small62 big
  have e : (List.replicate k.toNat [a]).flatten = List.replicate k.toNat a := by
    induction k.toNat with
    | zero => rfl
    | succ n ih => rw [List.replicate_succ, List.flatten_cons, ih, List.replicate_succ]; rfl
  rw [e]
  refine guardR_of ?_
  simp only [Bool.and_eq_true, decide_eq_true_eq, List.length_singleton]
  omega
theorem Sat.range {n : Int} {P : List Int → Prop} (h0 : 0 ≤ n) (h : n < 1000000) (p : P (rangeL 0 n.toNat)) : Sat (guardR (small62 n) (Res.ok (rangeL 0 n.toNat))) P := by
  refine .guard ?_ (.ok p)
  unfold small62
  simp only [Bool.and_eq_true, decide_eq_true_eq]
  omega
theorem range_ok {n : Int} (h0 : 0 ≤ n) (h : n < 1000000) : (guardR (small62 n) (Res.ok (rangeL 0 n.toNat))) = .ok (rangeL 0 n.toNat) := by
  refine guardR_of ?_
  unfold small62
  simp only [Bool.and_eq_true, decide_eq_true_eq]
  omega
end G

namespace G
open PySem PySem.Spec PyProof.Rows L2
theorem Sat.bassoc {α β γ : Type} {m : Res α} {f : α → Res β} {k : β → Res γ} {P : γ → Prop} (h : Sat (m.bind fun a => (f a).bind k) P) : Sat ((m.bind f).bind k) P := by rw [Res.bind_assoc]; exact h
theorem Sat.bok {α β : Type} {a : α} {k : α → Res β} {P : β → Prop} (h : Sat (k a) P) : Sat ((Res.ok a).bind k) P := h
theorem Sat.bite {α β : Type} {c : Bool} {a b : Res α} {k : α → Res β} {P : β → Prop} (h1 : c = true → Sat (a.bind k) P) (h2 : c = false → Sat (b.bind k) P) : Sat ((if c = true then a else b).bind k) P := by
  cases c with
  | true => exact h1 rfl
  | false => exact h2 rfl
theorem Sat.beq {α β : Type} {m : Res α} {a : α} {k : α → Res β} {P : β → Prop} (e : m = .ok a) (h : Sat (k a) P) : Sat (m.bind k) P := by rw [e]; exact h
theorem Sat.bmul {β : Type} {i j : Int} {k : Int → Res β} {P : β → Prop} (h : (-(2 ^ 64) < i ∧ i < 2 ^ 64) ∨ (-(2 ^ 64) < j ∧ j < 2 ^ 64)) (p : Sat (k (i * j)) P) : Sat ((mulR i j).bind k) P := by
  rcases h with ⟨a, b⟩ | ⟨a, b⟩
  · exact .beq (mulR_l a b) p
  · exact .beq (mulR_r a b) p
theorem Sat.bmod {β : Type} {i j : Int} {k : Int → Res β} {P : β → Prop} (h1 : 0 < j) (p : Sat (k (i % j)) P) : Sat ((modR i j).bind k) P := .beq (modR_of h1) p
theorem Sat.bdiv {β : Type} {i j : Int} {k : Int → Res β} {P : β → Prop} (h1 : 0 < j) (h2 : j < 10 ^ 70) (p : Sat (k (i / j)) P) : Sat ((divR i j).bind k) P := .beq (divR_of h1 h2) p
theorem Sat.bapp {α β : Type} {xs : List α} {a : α} {k : List α → Res β} {P : β → Prop} (h : xs.length ≤ 1000000) (p : Sat (k (xs ++ [a])) P) : Sat ((appR xs a).bind k) P := .beq (appR_ok h) p
theorem Sat.bidx {α β : Type} {xs : List α} {i : Int} {a : α} {k : α → Res β} {P : β → Prop} (h0 : 0 ≤ i) (h : xs[i.toNat]? = some a) (p : Sat (k a) P) : Sat ((G.idx xs i).bind k) P := .beq (idx_int h0 h) p
theorem Sat.brange {β : Type} {n : Int} {k : List Int → Res β} {P : β → Prop} (h0 : 0 ≤ n) (h : n < 1000000) (p : Sat (k (rangeL 0 n.toNat)) P) : Sat ((guardR (small62 n) (Res.ok (rangeL 0 n.toNat))).bind k) P := .beq (range_ok h0 h) p
theorem rangeL0 {n i : Nat} {a : Int} (h : (rangeL 0 n)[i]? = some a) : i < n ∧ a = (i : Int) := by
  have := rangeL_get h
  omega
theorem get_of {α : Type} {xs : List α} {i : Nat} (h : i < xs.length) : xs[i]? = some xs[i] := List.getElem?_eq_getElem h
end G
namespace G
open PySem PySem.Spec PyProof.Rows L2
theorem Sat.tail {S R : Type} {M : Res (Out S Empty R)} {k : S → Res R} {P : S → Prop} {Q : R → Prop} (h : Sat M (fun o => ∃ s, o = .nx s ∧ P s)) (hk : ∀ s, P s → Sat (k s) Q) : Sat (M.tail k) Q := by
  obtain ⟨o, e, s, e2, p⟩ := h
  subst e2
  unfold Res.tail
  rw [e]
  exact hk s p
theorem Sat.next {S S' L R : Type} {M : Res (Out S L R)} {k : S → Res (Out S' L R)} {P : S → Prop} {Q : Out S' L R → Prop} (h : Sat M (fun o => ∃ s, o = .nx s ∧ P s)) (hk : ∀ s, P s → Sat (k s) Q) : Sat (M.next k) Q := by
  obtain ⟨o, e, s, e2, p⟩ := h
  subst e2
  unfold Res.next
  rw [e]
  exact hk s p
theorem Sat.never {S L R : Type} {c : Res Bool} {a : Res (Out S L R)} {s : S} {P : S → Prop} (h : c = .ok false) (p : P s) : Sat (c.bind fun v => if v = true then a else .ok (.nx s)) (fun o => ∃ s, o = .nx s ∧ P s) := by
  rw [h]
  exact .ok ⟨s, rfl, p⟩
theorem Sat.nx {S L R : Type} {s : S} {P : S → Prop} (p : P s) : Sat (Res.ok (Out.nx s) : Res (Out S L R)) (fun o => ∃ s, o = .nx s ∧ P s) := .ok ⟨s, rfl, p⟩
end G

namespace G
open PySem PySem.Spec PyProof.Rows L2
def TieOk (n : Int) (t : Int × Int) : Prop := 0 ≤ t.1 ∧ t.1 < t.2 ∧ t.2 < n
structure WebOk (w : Int × Tup (Int × Int)) : Prop where
  n1 : 1 ≤ w.1
  n2 : w.1 ≤ 40
  len : w.2.l.length ≤ 200
  ok : ∀ t ∈ w.2.l, TieOk w.1 t
  nd : w.2.l.Nodup
  up : w.2.l.Pairwise fun a b => leP a b = true
def tied (ts : List (Int × Int)) (a b : Int) : Prop := (a, b) ∈ ts ∨ (b, a) ∈ ts
instance {ts : List (Int × Int)} {a b : Int} : Decidable (tied ts a b) := by unfold tied; exact inferInstance
theorem tied_symm {ts : List (Int × Int)} {a b : Int} : tied ts a b ↔ tied ts b a := Or.comm
theorem WebOk.tie {w : Int × Tup (Int × Int)} (h : WebOk w) {a b : Int} (t : tied w.2.l a b) : 0 ≤ a ∧ a < w.1 ∧ 0 ≤ b ∧ b < w.1 ∧ a ≠ b := by
  rcases t with t | t
  · have ⟨x, y, z⟩ := h.ok _ t
    have x : 0 ≤ a := x
    have y : a < b := y
    have z : b < w.1 := z
    omega
  · have ⟨x, y, z⟩ := h.ok _ t
    have x : 0 ≤ b := x
    have y : b < a := y
    have z : a < w.1 := z
    omega
def nbr (k : Int) (t : Int × Int) : List Int := (if t.1 = k then [t.2] else []) ++ (if t.2 = k then [t.1] else [])
def nbrs (ts : List (Int × Int)) (k : Int) : List Int := ts.flatMap (nbr k)
theorem mem_nbr {k m : Int} {t : Int × Int} : m ∈ nbr k t ↔ t = (k, m) ∨ t = (m, k) := by
  obtain ⟨a, b⟩ := t
  unfold nbr
  simp only [List.mem_append, Prod.mk.injEq]
  constructor
  · rintro (h | h)
    · split at h
      · rename_i e; left; exact ⟨e, (List.mem_singleton.mp h).symm⟩
      · cases h
    · split at h
      · rename_i e; right; exact ⟨(List.mem_singleton.mp h).symm, e⟩
      · cases h
  · rintro (⟨e1, e2⟩ | ⟨e1, e2⟩)
    · left; rw [if_pos e1, e2]; exact List.mem_singleton.mpr rfl
    · right; rw [if_pos e2, e1]; exact List.mem_singleton.mpr rfl
theorem mem_nbrs {ts : List (Int × Int)} {k m : Int} : m ∈ nbrs ts k ↔ tied ts k m := by
  unfold nbrs tied
  rw [List.mem_flatMap]
  constructor
  · rintro ⟨t, h, e⟩
    rcases mem_nbr.mp e with rfl | rfl
    · exact .inl h
    · exact .inr h
  · rintro (h | h)
    · exact ⟨_, h, mem_nbr.mpr (.inl rfl)⟩
    · exact ⟨_, h, mem_nbr.mpr (.inr rfl)⟩
theorem nbrs_nodup {n : Int} {k : Int} : ∀ {ts : List (Int × Int)}, ts.Nodup → (∀ t ∈ ts, TieOk n t) → (nbrs ts k).Nodup
  | [], _, _ => .nil
  | t :: ts, nd, ok => by
    obtain ⟨n1, n2⟩ := List.nodup_cons.mp nd
    have ih := nbrs_nodup (k := k) n2 fun x m => ok x (List.mem_cons_of_mem _ m)
    show (nbr k t ++ nbrs ts k).Nodup
    refine List.nodup_append.mpr ⟨?_, ih, fun x hx y hy e => ?_⟩
    · have ⟨x, y, z⟩ := ok t List.mem_cons_self
      unfold nbr
      by_cases h1 : t.1 = k
      · rw [if_pos h1, if_neg (by omega)]; simp
      · rw [if_neg h1]
        by_cases h2 : t.2 = k
        · rw [if_pos h2]; simp
        · rw [if_neg h2]; simp
    · subst e
      have ⟨a, b, c⟩ := ok t List.mem_cons_self
      rcases mem_nbr.mp hx with e | e <;> rcases mem_nbrs.mp hy with h | h
      · exact n1 (e ▸ h)
      · have ⟨d, e2, f⟩ := ok _ (List.mem_cons_of_mem _ h)
        subst e
        have b : k < x := b
        have e2 : x < k := e2
        omega
      · have ⟨d, e2, f⟩ := ok _ (List.mem_cons_of_mem _ h)
        subst e
        have b : x < k := b
        have e2 : k < x := e2
        omega
      · exact n1 (e ▸ h)
theorem nbrs_len {ts : List (Int × Int)} {k : Int} : (nbrs ts k).length ≤ 2 * ts.length := by
  induction ts with
  | nil => exact Nat.le_refl _
  | cons t ts ih =>
    have : (nbr k t).length ≤ 2 := by
      unfold nbr
      split <;> split <;> simp
    show (nbr k t ++ nbrs ts k).length ≤ _
    rw [List.length_append, List.length_cons]
    omega
theorem rise_ext : ∀ {l m : List Int}, l.Pairwise (· < ·) → m.Pairwise (· < ·) → (∀ x, x ∈ l ↔ x ∈ m) → l = m
  | [], [], _, _, _ => rfl
  | [], b :: m, _, _, h => by have := (h b).mpr List.mem_cons_self; cases this
  | a :: l, [], _, _, h => by have := (h a).mp List.mem_cons_self; cases this
  | a :: l, b :: m, h1, h2, h => by
    obtain ⟨p1, p2⟩ := List.pairwise_cons.mp h1
    obtain ⟨q1, q2⟩ := List.pairwise_cons.mp h2
    have e : a = b := by
      rcases List.mem_cons.mp ((h a).mp List.mem_cons_self) with e | e
      · exact e
      · rcases List.mem_cons.mp ((h b).mpr List.mem_cons_self) with e2 | e2
        · exact e2.symm
        · have := q1 a e
          have := p1 b e2
          omega
    subst e
    congr 1
    refine rise_ext p2 q2 fun x => ?_
    constructor
    · intro hx
      rcases List.mem_cons.mp ((h x).mp (List.mem_cons_of_mem _ hx)) with e | e
      · have := p1 x hx; omega
      · exact e
    · intro hx
      rcases List.mem_cons.mp ((h x).mpr (List.mem_cons_of_mem _ hx)) with e | e
      · have := q1 x hx; omega
      · exact e
theorem sortI_rise {l : List Int} (h : l.Nodup) : (sortI l).Pairwise (· < ·) := by
  have a := sortI_pw l
  have b : (sortI l).Nodup := (sortI_perm l).nodup_iff.mpr h
  exact a.imp₂ (fun x y h1 h2 => by omega) b
theorem mem_sortI {l : List Int} {x : Int} : x ∈ sortI l ↔ x ∈ l := (sortI_perm l).mem_iff
theorem rangeL_rise (n : Nat) : (rangeL 0 n).Pairwise (· < ·) := by
  unfold rangeL
  refine List.pairwise_map.mpr ?_
  exact List.pairwise_lt_range.imp fun h => by omega
theorem mem_rangeL {n : Nat} {x : Int} : x ∈ rangeL 0 n ↔ 0 ≤ x ∧ x < n := by
  unfold rangeL
  rw [List.mem_map]
  constructor
  · rintro ⟨i, h, rfl⟩
    have := List.mem_range.mp h
    omega
  · rintro ⟨a, b⟩
    exact ⟨x.toNat, List.mem_range.mpr (by omega), by omega⟩
def Rise (n : Int) (l : List Int) : Prop := l.Pairwise (· < ·) ∧ ∀ x ∈ l, 0 ≤ x ∧ x < n
def nextL (w : Int × Tup (Int × Int)) (k : Int) : List Int := (rangeL 0 w.1.toNat).filter fun m => decide (tied w.2.l k m)
theorem nextL_rise (w : Int × Tup (Int × Int)) (h : 0 ≤ w.1) (k : Int) : Rise w.1 (nextL w k) := ⟨(rangeL_rise _).filter _, fun x m => by
  have := mem_rangeL.mp (List.mem_filter.mp m).1
  omega⟩
theorem mem_nextL {w : Int × Tup (Int × Int)} (h : WebOk w) {k m : Int} : m ∈ nextL w k ↔ tied w.2.l k m := by
  unfold nextL
  rw [List.mem_filter, mem_rangeL, decide_eq_true_iff]
  constructor
  · exact fun h => h.2
  · intro t
    have := h.tie t
    have := h.n1
    exact ⟨by omega, t⟩
theorem sort_nbrs {w : Int × Tup (Int × Int)} (h : WebOk w) (k : Int) : sortI (nbrs w.2.l k) = nextL w k :=
  rise_ext (sortI_rise (nbrs_nodup h.nd h.ok)) (nextL_rise w (by have := h.n1; omega) k).1 fun x => by rw [mem_sortI, mem_nbrs, mem_nextL h]
theorem keys_len {κ β : Type} (d : Dic κ β) : (dkeys d).length = d.l.length := by unfold dkeys; rw [List.length_map]
theorem put_len {κ β : Type} [DecidableEq κ] (d : Dic κ β) (k : κ) (v : β) : (dput d k v).l.length ≤ d.l.length + 1 := by
  unfold dput
  split
  · show (List.map _ _).length ≤ _
    rw [List.length_map]; omega
  · show (d.l ++ _).length ≤ _
    rw [List.length_append]; exact Nat.le_refl _
theorem put_mem {κ β : Type} [DecidableEq κ] (d : Dic κ β) (k : κ) (v : β) (x : κ) : x ∈ dkeys (dput d k v) ↔ x = k ∨ x ∈ dkeys d := by
  rw [dkeys_put]
  split
  · rename_i h
    constructor
    · exact .inr
    · rintro (rfl | h') <;> assumption
  · rw [List.mem_append, List.mem_singleton]; exact Or.comm
theorem put_nodup {κ β : Type} [DecidableEq κ] (d : Dic κ β) (k : κ) (v : β) (h : (dkeys d).Nodup) : (dkeys (dput d k v)).Nodup := by
  rw [dkeys_put]
  split
  · exact h
  · rename_i hk
    exact List.nodup_append.mpr ⟨h, by simp, fun x hx y hy => by cases List.mem_singleton.mp hy; exact fun e => hk (e ▸ hx)⟩
theorem dputR_ok {κ β : Type} [DecidableEq κ] {d : Dic κ β} {k : κ} {v : β} (h : d.l.length ≤ 1000000) : dputR d k v = .ok (dput d k v) := guardR_of (decide_eq_true h)
structure Ties (n : Int) (i : Nat) (d : Dic (Int × Int) Bool) : Prop where
  len : d.l.length ≤ i
  ok : ∀ t ∈ dkeys d, TieOk n t
  nd : (dkeys d).Nodup
theorem Ties.nil (n : Int) : Ties n 0 ⟨[]⟩ := ⟨Nat.le_refl _, (fun t m => by cases m), .nil⟩
theorem Ties.le {n : Int} {i j : Nat} {d : Dic (Int × Int) Bool} (h : Ties n i d) (l : i ≤ j) : Ties n j d := ⟨Nat.le_trans h.len l, h.ok, h.nd⟩
theorem Ties.put {n : Int} {i : Nat} {d : Dic (Int × Int) Bool} (h : Ties n i d) {t : Int × Int} (ht : TieOk n t) : Ties n (i + 1) (dput d t true) :=
  ⟨Nat.le_trans (put_len _ _ _) (Nat.succ_le_succ h.len), fun x m => (put_mem _ _ _ _ |>.mp m).elim (fun e => e ▸ ht) (h.ok x), put_nodup _ _ _ h.nd⟩
theorem Ties.web {n : Int} {i : Nat} {d : Dic (Int × Int) Bool} (h : Ties n i d) (h1 : 1 ≤ n) (h2 : n ≤ 40) (hi : i ≤ 200) : WebOk (n, ⟨sortP (dkeys d)⟩) :=
  ⟨h1, h2, by
    show (sortP (dkeys d)).length ≤ 200
    rw [(sortP_perm _).length_eq, keys_len]
    exact Nat.le_trans h.len hi, fun t m => h.ok t ((sortP_perm _).mem_iff.mp m), (sortP_perm _).nodup_iff.mpr h.nd, sortP_pw _⟩
theorem cut_len {α : Type} (xs : List α) (lo hi : Nat) : (cut xs (some (lo : Int)) (some (hi : Int))).length ≤ hi - lo := by
  unfold cut
  rw [HT.sIx_nat, HT.sIx_nat, List.length_take]
  omega
theorem two {ds : List Int} (h : ds.length = 2) : ∃ a b, ds = [a, b] := by
  match ds, h with
  | [a, b], _ => exact ⟨a, b, rfl⟩
theorem three {ds : List Int} (h : ds.length = 3) : ∃ a b c, ds = [a, b, c] := by
  match ds, h with
  | [a, b, c], _ => exact ⟨a, b, c, rfl⟩
def Digits (sizes ds : List Int) : Prop := ds.length = sizes.length ∧ ∀ (i : Nat) (d z : Int), ds[i]? = some d → sizes[i]? = some z → 0 ≤ d ∧ d < z
theorem Digits.get {sizes ds : List Int} (h : Digits sizes ds) {i : Nat} {z : Int} (e : sizes[i]? = some z) : ∃ d, ds[i]? = some d ∧ 0 ≤ d ∧ d < z := by
  have hi : i < ds.length := by rw [h.1]; exact (List.getElem?_eq_some_iff.mp e).1
  exact ⟨_, List.getElem?_eq_getElem hi, h.2 i _ z (List.getElem?_eq_getElem hi) e⟩
end G

namespace G
open PySem PySem.Spec PyProof.Rows L2
def grow (okb : Int → Bool) : List Int → List Int → List Int
  | s, [] => s
  | s, a :: as => grow okb (if okb a = true ∧ a ∉ s then s ++ [a] else s) as
section
variable {okb : Int → Bool}
end
inductive Reach (nb : Int → List Int) (okb : Int → Bool) (k : Int) : Int → Prop
  | here : Reach nb okb k k
  | on {x y : Int} : Reach nb okb k x → y ∈ nb x → okb y = true → Reach nb okb k y
theorem nodup_len : ∀ (n : Nat) {l : List Int}, l.Nodup → (∀ x ∈ l, 0 ≤ x ∧ x < n) → l.length ≤ n
  | 0, l, _, h => by
    cases l with
    | nil => exact Nat.le_refl _
    | cons a l => have := h a List.mem_cons_self; omega
  | n + 1, l, nd, h => by
    have e := List.length_filter_le (fun x => decide (x ≠ (n : Int))) l
    have ih := nodup_len n (l := l.filter fun x => decide (x ≠ (n : Int))) (nd.filter _) fun x m => by
      obtain ⟨m1, m2⟩ := List.mem_filter.mp m
      have := h x m1
      have := of_decide_eq_true m2
      omega
    have : l.length ≤ (l.filter fun x => decide (x ≠ (n : Int))).length + 1 := by
      clear ih e h
      induction l with
      | nil => simp
      | cons a l ih =>
        obtain ⟨n1, n2⟩ := List.nodup_cons.mp nd
        by_cases ha : a = (n : Int)
        · have : l.filter (fun x => decide (x ≠ (n : Int))) = l := List.filter_eq_self.mpr fun x m => decide_eq_true fun e => n1 (by rw [ha, ← e]; exact m)
          rw [List.filter_cons, if_neg (by simp [ha]), this, List.length_cons]; omega
        · rw [List.filter_cons, if_pos (by simp [ha]), List.length_cons, List.length_cons]
          have := ih n2
          omega
    omega
def sgn (b : Str) (k : Int) : Str := ⟨#[b.cps.toList.getD k.toNat 0]⟩
end G

namespace G
open PySem PySem.Spec PyProof.Rows L2
theorem Reach.trans {nb : Int → List Int} {okb : Int → Bool} {a b c : Int} (h1 : G.Reach nb okb a b) (h2 : G.Reach nb okb b c) : G.Reach nb okb a c := by
  induction h2 with
  | here => exact h1
  | on _ m o ih => exact .on ih m o
theorem Reach.ok {nb : Int → List Int} {okb : Int → Bool} {a b : Int} (h : G.Reach nb okb a b) (ha : okb a = true) : okb b = true := by
  cases h with
  | here => exact ha
  | on _ _ o => exact o
theorem Reach.symm {nb : Int → List Int} {okb : Int → Bool} (hs : ∀ x y, y ∈ nb x → x ∈ nb y) {a b : Int} (ha : okb a = true) (h : G.Reach nb okb a b) : G.Reach nb okb b a := by
  induction h with
  | here => exact .here
  | on r m o ih => exact Reach.trans (.on .here (hs _ _ m) (Reach.ok r ha)) ih
theorem Reach.range {w : Int × Tup (Int × Int)} (h : WebOk w) {okb : Int → Bool} {k x : Int} (hk : 0 ≤ k ∧ k < w.1) (r : G.Reach (nextL w) okb k x) : 0 ≤ x ∧ x < w.1 := by
  cases r with
  | here => exact hk
  | on _ m _ => exact (nextL_rise w (by have := h.n1; omega) _).2 x m
theorem dhas_put {κ β : Type} [DecidableEq κ] (d : Dic κ β) (k : κ) (v : β) (x : κ) : dhas (dput d k v) x = (decide (x = k) || dhas d x) := by
  rw [dhas_keys, dhas_keys, Bool.eq_iff_iff, decide_eq_true_iff, put_mem, Bool.or_eq_true, decide_eq_true_iff, decide_eq_true_iff]
theorem dget_put {κ β : Type} [DecidableEq κ] (d : Dic κ β) (k : κ) (v : β) (x : κ) : dget (dput d k v) x = if x = k then some v else dget d x := by
  have hf : ∀ l : List (κ × β), (l.map fun kv => if kv.1 = k then (kv.1, v) else kv).find? (fun kv => decide (kv.1 = x)) = ((l.find? fun kv => decide (kv.1 = x)).map fun kv => if kv.1 = k then (kv.1, v) else kv) := by
    intro l
    induction l with
    | nil => rfl
    | cons a l ih =>
      rw [List.map_cons, List.find?_cons, List.find?_cons]
      have e : (if a.1 = k then (a.1, v) else a).1 = a.1 := by split <;> rfl
      rw [e]
      by_cases h : a.1 = x
      · rw [decide_eq_true h]; rfl
      · rw [decide_eq_false h]; exact ih
  unfold dput dget
  by_cases hk : dhas d k = true
  · rw [if_pos hk]
    show Option.map (fun z : κ × β => z.2) ((d.l.map fun kv => if kv.1 = k then (kv.1, v) else kv).find? fun kv => decide (kv.1 = x)) = _
    rw [hf, Option.map_map]
    by_cases e : x = k
    · subst e
      rw [if_pos rfl]
      have : (dget d x).isSome = true := by rw [dget_isSome]; exact hk
      unfold dget at this
      cases h : d.l.find? (fun kv => decide (kv.1 = x)) with
      | none => rw [h] at this; cases this
      | some kv =>
        have := List.find?_some h
        have : kv.1 = x := of_decide_eq_true this
        show some (if kv.1 = x then (kv.1, v) else kv).2 = _
        rw [if_pos this]
    · rw [if_neg e]
      cases h : d.l.find? (fun kv => decide (kv.1 = x)) with
      | none => rfl
      | some kv =>
        have hz := List.find?_some h
        have : kv.1 = x := of_decide_eq_true hz
        show some (if kv.1 = k then (kv.1, v) else kv).2 = some kv.2
        rw [if_neg (by rw [this]; exact e)]
  · rw [if_neg hk]
    show Option.map (fun z : κ × β => z.2) ((d.l ++ [(k, v)]).find? fun kv => decide (kv.1 = x)) = _
    rw [List.find?_append]
    by_cases e : x = k
    · subst e
      rw [if_pos rfl]
      have : (dget d x) = none := by
        have h := dget_isSome d x
        cases e : dget d x with
        | none => rfl
        | some _ => rw [e] at h; rw [← h] at hk; exact (hk rfl).elim
      unfold dget at this
      cases h : d.l.find? (fun kv => decide (kv.1 = x)) with
      | none =>
        rw [Option.none_or, List.find?_cons, decide_eq_true rfl]; rfl
      | some kv => rw [h] at this; cases this
    · rw [if_neg e]
      cases h : d.l.find? (fun kv => decide (kv.1 = x)) with
      | none =>
        rw [Option.none_or, List.find?_cons, decide_eq_false (fun h => e h.symm)]; rfl
      | some kv => rfl
noncomputable def PL (w : Int × Tup (Int × Int)) (ok : Int → Bool) (k : Int) : List Int := (rangeL 0 w.1.toNat).filter fun x => @decide (G.Reach (nextL w) ok k x) (Classical.propDecidable _)
section
variable {w : Int × Tup (Int × Int)} {ok : Int → Bool}
noncomputable def isrep (w : Int × Tup (Int × Int)) (ok : Int → Bool) (k : Int) : Bool := ok k && (PL w ok k).all fun x => decide (k ≤ x)
noncomputable def reps (w : Int × Tup (Int × Int)) (ok : Int → Bool) (i : Nat) : List Int := (rangeL 0 i).filter (isrep w ok)
noncomputable def PS (w : Int × Tup (Int × Int)) (ok : Int → Bool) : List (List Int) := (reps w ok w.1.toNat).map (PL w ok)
end
end G

namespace G
open PySem PySem.Spec PyProof.Rows L2
def cpOf (b : Str) (k : Int) : Nat := b.cps.toList.getD k.toNat 0
theorem sgn_eq {b : Str} {k : Int} {c : Nat} : sgn b k = ⟨#[c]⟩ ↔ cpOf b k = c := by
  unfold sgn cpOf
  constructor
  · intro h
    injection h with h
    have := congrArg (fun a : Array Nat => a.toList) h
    simpa using this
  · intro h; rw [h]
end G

namespace G
open PySem PySem.Spec PyProof.Rows L2
theorem loop_bad {α L R : Type} {f : Unit → α → Res (Out Unit Unit R)} (bad : α → Bool) (r : R) : ∀ {xs : List α}, (∀ a ∈ xs, f () a = .ok (if bad a then .rt r else .nx ())) → loopO (L := L) f () xs = .ok (if xs.any bad then .rt r else .nx ())
  | [], _ => rfl
  | a :: xs, h => by
    have h1 := h a List.mem_cons_self
    have ih := loop_bad (L := L) bad r (xs := xs) fun b m => h b (List.mem_cons_of_mem _ m)
    show (f () a).bind _ = _
    rw [h1, Res.okb, List.any_cons]
    cases bad a with
    | true => rfl
    | false => exact ih
end G

namespace G
open PySem PySem.Spec PyProof.Rows L2
def nextsL (w : Int × Tup (Int × Int)) : List (List Int) := (rangeL 0 w.1.toNat).map (nextL w)
def Chain (w : Int × Tup (Int × Int)) (b : Str) (k : Int) (l : List Int) : Prop := Rise w.1 l ∧ l.length ≤ 40 ∧ ∀ x, x ∈ l ↔ Reach (nextL w) (fun y => decide (sgn b y = sgn b k)) k x
def Breath (w : Int × Tup (Int × Int)) (b : Str) (ch l : List Int) : Prop := Rise w.1 l ∧ l.length ≤ 40 ∧ ∀ x, x ∈ l ↔ (∃ c ∈ ch, x ∈ nextL w c) ∧ sgn b x = PySem.Str.ofString "."
abbrev dotb (b : Str) : Int → Bool := fun y => decide (sgn b y = PySem.Str.ofString ".")
abbrev dot : Str := PySem.Str.ofString "."
abbrev xS : Str := PySem.Str.ofString "x"
abbrev oS : Str := PySem.Str.ofString "o"
def adj (w : Int × Tup (Int × Int)) (b : Str) (z : Str) (p : List Int) : Bool := p.any fun k => (nextL w k).any fun y => decide (sgn b y = z)
def handsOf (w : Int × Tup (Int × Int)) (b : Str) (p : List Int) : Str := Txt.join (PySem.Str.ofString "") ([xS, oS].filter fun z => adj w b z p)
def emp (w : Int × Tup (Int × Int)) (b : Str) : List Int := (rangeL 0 w.1.toNat).filter fun k => decide (sgn b k = dot)
theorem sgn_dot {b : Str} {k : Int} : sgn b k = dot ↔ cpOf b k = 46 := by
  have : dot = ⟨#[46]⟩ := by decide
  rw [this]; exact sgn_eq
def signOk (b : Str) : Prop := ∀ c ∈ b.cps.toList, c = 46 ∨ c = 120 ∨ c = 111
def putL (b : Str) (some' : List Int) (c : Nat) : Str := ⟨((rangeL 0 b.length).map fun k => if k ∈ some' then c else cpOf b k).toArray⟩
theorem rangeL_at {n : Nat} {k : Int} (h0 : 0 ≤ k) (h1 : k < n) : (rangeL 0 n)[k.toNat]? = some k := by
  have h : k.toNat < (rangeL 0 n).length := by rw [rangeL_len]; omega
  have := (rangeL0 (get_of h)).2
  rw [get_of h, this]
  congr 1; omega
theorem sgn_cp {b : Str} {k : Int} : sgn b k = ⟨#[cpOf b k]⟩ := rfl
theorem str1_inj {c d : Nat} : (⟨#[c]⟩ : Str) = ⟨#[d]⟩ ↔ c = d := by simp
theorem sgn_iff {b b' : Str} {k k' : Int} : sgn b k = sgn b' k' ↔ cpOf b k = cpOf b' k' := by rw [sgn_cp, sgn_cp, str1_inj]
theorem dot_eq : dot = ⟨#[46]⟩ := by decide
theorem xS_eq : xS = ⟨#[120]⟩ := by decide
theorem oS_eq : oS = ⟨#[111]⟩ := by decide
theorem signOk_at {b : Str} (h : signOk b) {k : Int} (h0 : 0 ≤ k) (h1 : k < b.length) : cpOf b k = 46 ∨ cpOf b k = 120 ∨ cpOf b k = 111 := by
  have hl : k.toNat < b.cps.toList.length := by rw [Array.length_toList]; show k.toNat < b.length; omega
  have : cpOf b k = b.cps.toList[k.toNat] := by unfold cpOf; rw [List.getD_eq_getElem?_getD, get_of hl]; rfl
  rw [this]
  exact h _ (List.getElem_mem hl)
def Breathes (w : Int × Tup (Int × Int)) (b : Str) (k : Int) : Prop := ∃ x, G.Reach (nextL w) (fun y => decide (sgn b y = sgn b k)) k x ∧ ∃ y ∈ nextL w x, sgn b y = dot
noncomputable def breathB (w : Int × Tup (Int × Int)) (b : Str) (k : Int) : Bool := @decide (Breathes w b k) (Classical.propDecidable _)
def Sound (w : Int × Tup (Int × Int)) (b : Str) : Prop := ∀ k, 0 ≤ k → k < w.1 → sgn b k ≠ dot → Breathes w b k
noncomputable def goneL (w : Int × Tup (Int × Int)) (b : Str) : List Int := (rangeL 0 w.1.toNat).filter fun k => !decide (sgn b k = dot) && !breathB w b k
noncomputable def clearedL (w : Int × Tup (Int × Int)) (b : Str) : Str := putL b (goneL w b) 46
def swap (c : Nat) : Nat := if c = 120 then 111 else if c = 111 then 120 else c
abbrev XD : Dic Str Str := dofL (((PySem.Str.ofString "x"), (PySem.Str.ofString "o")) :: (((PySem.Str.ofString "o"), (PySem.Str.ofString "x")) :: (((PySem.Str.ofString "."), (PySem.Str.ofString ".")) :: [])))
end G

namespace G
open PySem PySem.Spec PyProof.Rows L2
def shT (n : Int) (t : Int × Int) : Int × Int := (t.1 + n, t.2 + n)
def besW (w1 w2 : Int × Tup (Int × Int)) : Int × Tup (Int × Int) := (w1.1 + w2.1, ⟨w1.2.l ++ w2.2.l.map (shT w1.1)⟩)
section
variable {w1 w2 : Int × Tup (Int × Int)}
theorem mem_sh {n : Int} {ts : List (Int × Int)} {a b : Int} : (a, b) ∈ ts.map (shT n) ↔ (a - n, b - n) ∈ ts := by
  constructor
  · intro m
    obtain ⟨u, m, e⟩ := List.mem_map.mp m
    have e1 : u.1 + n = a := congrArg Prod.fst e
    have e2 : u.2 + n = b := congrArg Prod.snd e
    have : (a - n, b - n) = u := Prod.ext (by show a - n = _; omega) (by show b - n = _; omega)
    rw [this]; exact m
  · intro m
    refine List.mem_map.mpr ⟨_, m, Prod.ext ?_ ?_⟩
    · show a - n + n = a; omega
    · show b - n + n = b; omega
def mvL (n : Int) (l : List Int) : List Int := l.map fun x => x + n
variable (h1 : WebOk w1) (h2 : WebOk w2) (hU : WebOk (besW w1 w2))
include h1 h2 hU
variable {ok ok1 ok2 : Int → Bool} (o1 : ∀ x, 0 ≤ x → x < w1.1 → ok x = ok1 x) (o2 : ∀ x, 0 ≤ x → x < w2.1 → ok (x + w1.1) = ok2 x)
include o1 in
include o2 in
include o1 in
include o2 in
include o1 in
include o2 in
omit h1 h2 hU in
include o1 o2 in
end
section
variable {w1 w2 : Int × Tup (Int × Int)} (h1 : WebOk w1) (h2 : WebOk w2) (hU : WebOk (besW w1 w2)) {b1 b2 : Str} (l1 : b1.length = w1.1.toNat) (l2 : b2.length = w2.1.toNat)
include h1 h2 hU l1 l2
end
end G

namespace G
open PySem PySem.Spec PyProof.Rows L2
abbrev LI := List Int
theorem nodup_sub_len {α : Type} [DecidableEq α] : ∀ {l m : List α}, l.Nodup → (∀ x ∈ l, x ∈ m) → l.length ≤ m.length
  | [], _, _, _ => Nat.zero_le _
  | a :: l, m, nd, hs => by
    have ⟨h1, h2⟩ := List.nodup_cons.mp nd
    have ma := hs a List.mem_cons_self
    have := nodup_sub_len (l := l) (m := m.erase a) h2 fun x mx => by
      have ne : x ≠ a := fun e => by subst e; exact h1 mx
      exact (List.mem_erase_of_ne ne).mpr (hs x (List.mem_cons_of_mem _ mx))
    rw [List.length_erase_of_mem ma] at this
    have := List.length_pos_of_mem ma
    rw [List.length_cons]; omega
section
variable (CL YL : List LI) (SV BD : LI → LI → Bool)
def srv (c : LI) (Y : List LI) : Nat := (Y.filter (SV c)).length
def bwi (y : LI) (C : List LI) : Bool := !(CL.filter (BD y)).any fun c => !decide (c ∈ C)
theorem bwi_iff {CL : List LI} {BD : LI → LI → Bool} {y : LI} {C : List LI} : bwi CL BD y C = true ↔ ∀ c ∈ CL, BD y c = true → c ∈ C := by
  unfold bwi
  rw [Bool.not_eq_true', ← Bool.not_eq_true, List.any_eq_true]
  constructor
  · intro h c m e
    by_cases q : c ∈ C
    · exact q
    · exact (h ⟨c, List.mem_filter.mpr ⟨m, e⟩, by simp [q]⟩).elim
  · rintro h ⟨c, m, e⟩
    have := h c (List.mem_filter.mp m).1 (List.mem_filter.mp m).2
    simp [this] at e
structure Lets (C Y : List LI) : Prop where
  c : ∀ x ∈ C, x ∈ CL
  cn : C.Nodup
  y : ∀ x ∈ Y, x ∈ YL
  yn : Y.Nodup
  s : ∀ c ∈ C, 2 ≤ srv SV c Y
  b : ∀ y ∈ Y, bwi CL BD y C = true
structure Great (p : List LI × List LI) : Prop where
  c : p.1.Sublist CL
  y : p.2.Sublist YL
  lets : Lets CL YL SV BD p.1 p.2
  all : ∀ C Y, Lets CL YL SV BD C Y → (∀ x ∈ C, x ∈ p.1) ∧ ∀ x ∈ Y, x ∈ p.2
variable {CL YL SV BD}
theorem srv_mono {c : LI} {Y Z : List LI} (nd : Y.Nodup) (h : ∀ x ∈ Y, x ∈ Z) : srv SV c Y ≤ srv SV c Z := by
  unfold srv
  exact nodup_sub_len (nd.filter _) fun x m => List.mem_filter.mpr ⟨h x (List.mem_filter.mp m).1, (List.mem_filter.mp m).2⟩
def joinB (a b : List LI) : List LI := a ++ b.filter fun x => !decide (x ∈ a)
theorem mem_joinB {a b : List LI} {x : LI} : x ∈ joinB a b ↔ x ∈ a ∨ x ∈ b := by
  unfold joinB
  rw [List.mem_append, List.mem_filter]
  constructor
  · rintro (h | h)
    · exact .inl h
    · exact .inr h.1
  · rintro (h | h)
    · exact .inl h
    · by_cases m : x ∈ a
      · exact .inl m
      · exact .inr ⟨h, by simp [m]⟩
theorem joinB_nodup {a b : List LI} (ha : a.Nodup) (hb : b.Nodup) : (joinB a b).Nodup := by
  unfold joinB
  refine List.nodup_append.mpr ⟨ha, hb.filter _, fun x m y m' e => ?_⟩
  subst e
  have := (List.mem_filter.mp m').2
  simp [m] at this
theorem Lets.join {C Y C' Y' : List LI} (h : Lets CL YL SV BD C Y) (h' : Lets CL YL SV BD C' Y') : Lets CL YL SV BD (joinB C C') (joinB Y Y') where
  c := fun x m => (mem_joinB.mp m).elim (h.c x) (h'.c x)
  cn := joinB_nodup h.cn h'.cn
  y := fun x m => (mem_joinB.mp m).elim (h.y x) (h'.y x)
  yn := joinB_nodup h.yn h'.yn
  s := fun c m => by
    rcases mem_joinB.mp m with m | m
    · exact Nat.le_trans (h.s c m) (srv_mono h.yn fun x mx => mem_joinB.mpr (.inl mx))
    · exact Nat.le_trans (h'.s c m) (srv_mono h'.yn fun x mx => mem_joinB.mpr (.inr mx))
  b := fun y m => by
    rw [bwi_iff]
    intro c mc e
    rcases mem_joinB.mp m with m | m
    · exact mem_joinB.mpr (.inl (bwi_iff.mp (h.b y m) c mc e))
    · exact mem_joinB.mpr (.inr (bwi_iff.mp (h'.b y m) c mc e))
def stC (C Y : List LI) : List LI := C.filter fun c => decide (1 < srv SV c Y)
def stY (C Y : List LI) : List LI := Y.filter fun y => bwi CL BD y C
abbrev GS := Int × List LI × List LI
end
def someBad (ls th : List LI) (a : Int × LI) : Bool := !decide (a.2 ∈ ls) || decide (a.2 ∈ th.take a.1.toNat)
end G

namespace G
open PySem PySem.Spec PyProof.Rows L2
def EndsR {S L R : Type} (P : S → Prop) (Q : R → Prop) (o : Out S L R) : Prop := (∃ s, o = .nx s ∧ P s) ∨ ∃ r, o = .rt r ∧ Q r
end G

namespace G
open PySem PySem.Spec PyProof.Rows L2
structure IsPart (n : Nat) (r : List Int) : Prop where
  nd : r.Nodup
  rg : ∀ x ∈ r, 0 ≤ x ∧ x < n
structure IsOrd (n : Nat) (r : List Int) : Prop extends IsPart n r where
  len : r.length = n
theorem IsPart.le {n : Nat} {r : List Int} (h : IsPart n r) : r.length ≤ n := nodup_len n h.nd h.rg
theorem IsOrd.all {n : Nat} {r : List Int} (h : IsOrd n r) {x : Int} (h0 : 0 ≤ x) (h1 : x < n) : x ∈ r := by
  by_cases m : x ∈ r
  · exact m
  · have := nodup_len n (List.nodup_cons.mpr ⟨m, h.nd⟩) fun y my => (List.mem_cons.mp my).elim (fun e => by rw [e]; exact ⟨h0, h1⟩) (h.rg y)
    rw [List.length_cons, h.len] at this
    omega
def nameOf (r : List Int) (i : Int) : Int := r.getD i.toNat 0
theorem nameOf_get {r : List Int} {i : Int} (h1 : i.toNat < r.length) : r[i.toNat]? = some (nameOf r i) := by
  unfold nameOf
  rw [List.getD_eq_getElem?_getD, List.getElem?_eq_getElem h1]; rfl
theorem IsPart.inj {n : Nat} {r : List Int} (h : IsPart n r) {i j : Int} (hi : 0 ≤ i) (hi1 : i < r.length) (hj : 0 ≤ j) (hj1 : j < r.length) (e : nameOf r i = nameOf r j) : i = j := by
  have a := nameOf_get (r := r) (i := i) (by omega)
  have b := nameOf_get (r := r) (i := j) (by omega)
  rw [e, ← b] at a
  have := (List.getElem?_inj (by omega : i.toNat < r.length) h.nd).mp a
  omega
def callT (r : List Int) (t : Int × Int) : Int × Int := (min (nameOf r t.1) (nameOf r t.2), max (nameOf r t.1) (nameOf r t.2))
def callW (w : Int × Tup (Int × Int)) (r : List Int) : Int × Tup (Int × Int) := (w.1, ⟨sortP (w.2.l.map (callT r))⟩)
def FitK (ts ts' : List (Int × Int)) (r : List Int) (k : Nat) : Prop := ∀ a : Int, 0 ≤ a → a < k → ((a, (k : Int)) ∈ ts ↔ callT r (a, (k : Int)) ∈ ts')
def ext (n : Nat) : Nat → List Int → List (List Int)
  | 0, p => [p]
  | m + 1, p => ((rangeL 0 n).filter fun s => !decide (s ∈ p)).flatMap fun s => ext n m (p ++ [s])
instance instDecTupG {α : Type} [DecidableEq α] : DecidableEq (Tup α) := fun a b => if h : a.l = b.l then isTrue (by cases a; cases b; cases h; rfl) else isFalse (fun e => h (by rw [e]))
noncomputable def dec (P : Prop) : Bool := @decide P (Classical.propDecidable P)
end G

namespace G
open PySem PySem.Spec PyProof.Rows L2
def spotOf (r : List Int) (x : Int) : Int := (r.idxOf x : Nat)
def compO (o l : List Int) : List Int := l.map (nameOf o)
def invO (n : Nat) (l : List Int) : List Int := (rangeL 0 n).map (spotOf l)
def calB (b : Str) (r : List Int) : Str := ⟨((rangeL 0 b.length).map fun k => cpOf b (spotOf r k)).toArray⟩
noncomputable def autL (w : Int × Tup (Int × Int)) : List (List Int) := (ext w.1.toNat w.1.toNat []).filter fun r => dec (callW w r = w)
end G

namespace G
open PySem PySem.Spec PyProof.Rows L2
instance : DatEq (Option Int) := ⟨fun a b => by
  cases a <;> cases b
  · exact ⟨fun _ => rfl, fun _ => rfl⟩
  · exact ⟨fun h => (nomatch h), fun h => (nomatch h)⟩
  · exact ⟨fun h => (nomatch h), fun h => (nomatch h)⟩
  · rename_i i j
    show PyData.eqv (Dat.py i) (Dat.py j) = true ↔ _
    rw [DatEq.iff]; simp⟩
instance : DatEq (Option Str) := ⟨fun a b => by
  cases a <;> cases b
  · exact ⟨fun _ => rfl, fun _ => rfl⟩
  · exact ⟨fun h => (nomatch h), fun h => (nomatch h)⟩
  · exact ⟨fun h => (nomatch h), fun h => (nomatch h)⟩
  · rename_i i j
    show PyData.eqv (Dat.py i) (Dat.py j) = true ↔ _
    rw [DatEq.iff]; simp⟩
@[simp] theorem noX_ok' {α : Type} (a : α) : noX (Res.ok a) = .ok a := rfl
@[simp] theorem noX_exc' {α : Type} (x : Exn) : noX (Res.exc x : Res α) = .stuck := rfl
@[simp] theorem noX_stuck' {α : Type} : noX (Res.stuck : Res α) = .stuck := rfl
theorem Sat.noX {α : Type} {m : Res α} {P : α → Prop} (h : Sat m P) : Sat (noX m) P := by
  obtain ⟨a, e, p⟩ := h
  rw [e]; exact .ok p
end G
namespace G
open PySem PySem.Spec PyProof.Rows L2
end G

namespace K96
open PySem PySem.Spec PyProof.Rows L2 G
def topS (i : Nat) : Stmt := PySem.Challenge.pw_ringstones_k96_squares_of_two_rows.main.body.getD i (.Pass ⟨0, 0, 0, 0⟩)

section
variable [Pw]
section
variable [Md]
def m_next_to (web : (Int × (G.Tup (Int × Int)))) (k : Int) : Res (List Int) :=
  (Res.bind (Res.ok ([] : (List Int))) fun (found1 : (List Int)) => (Res.bind (foldR (fun (s2 : (List Int)) (a3 : (Int × Int)) => (Res.bind (if (ScaEq.eq a3.1 k) then (Res.bind (appR s2 a3.2) fun found5 => (Res.ok found5)) else (Res.ok s2)) fun s4 => (Res.bind (if (ScaEq.eq a3.2 k) then (Res.bind (appR s4 a3.1) fun found7 => (Res.ok found7)) else (Res.ok s4)) fun s6 => (Res.ok s6)))) found1 (web.2).l) fun s2 => (Res.ok (sortI s2))))
abbrev s_next_to : Stmt := topS 4
abbrev N_next_to : List Str := ["web", "k", "found", "one", "other"]
theorem S_next_to : FnScope N_next_to ["web", "k"] (defScope s_next_to) := ⟨rfl, rfl, rfl, by decide +kernel, rfl, by decide +kernel, by decide +kernel⟩
set_option maxHeartbeats 4000000 in
theorem cal_next_to {K : Frag} {base : Heap} (D : IsDef K Md.mg "next_to" s_next_to) (b_sorted : Md.mg "sorted" = none) :
    Cal Pw.prog Pw.w K Md.mg base 1 "next_to" (fun a : (Int × (G.Tup (Int × Int))) × Int × Unit => a) (fun a : (Int × (G.Tup (Int × Int))) × Int × Unit => m_next_to a.1 a.2.1) ow :=
  cal_mk (N := N_next_to) (ps := ["web", "k"]) D S_next_to rfl (fun _ _ _ _ _ _ us hl => match us, hl with | [_, _], _ => rfl) fun a f cdv A' outer s H E hr => by
    obtain ⟨web, k, _⟩ := a
    have S := S_next_to
    have tk := takes_of (X := cxOf (L2.CX Pw.prog Pw.w) Pw.prog Pw.w K Md.mg base N_next_to "next_to" (defScope s_next_to) f cdv A' outer s H E) (E := E) rfl rfl rfl rfl
    refine' ST.slots (ss' := [G.fr web, G.fr k, G.any, G.any, G.any]) (ST.cast ?h ?q) rfl
    (case h => exact (st_seq (s1_set 2 (xk_lst (xhk_nil (α := Int))) S.nd) fun (found1 : (List Int)) => (st_seq (s1_for (S := (List Int)) (fun (s2 : (List Int)) => [G.fr web, G.fr k, G.ow s2, G.any, G.any]) found1 (it_tup (xk_imm (xi_p2 (xi_fr 0)))) (tg_two (tg_name 3 S.nd) (tg_name 4 S.nd)) (fun s2 a3 => (sn_seq (s1_if (post := (fun (s4 : (List Int)) => [G.fr web, G.fr k, G.ow s4, G.fr a3.1, G.fr a3.2])) (t_cmp op_eq (b_eqS (α := Int) (β := Int)) (nomark _) (xi_fr 3) (xi_fr 1)) (sn_seq (s1_append 2 (xk_fr 4)) fun found5 => (sn_nil (s := found5) (wk_eq (wk_eq (wk_eq (wk_eq (wk_eq wk_nil))))))) (sn_nil (s := s2) (wk_eq (wk_eq (wk_eq (wk_eq (wk_eq wk_nil))))))) fun s4 => (sn_seq (s1_if (post := (fun (s6 : (List Int)) => [G.fr web, G.fr k, G.ow s6, G.fr a3.1, G.fr a3.2])) (t_cmp op_eq (b_eqS (α := Int) (β := Int)) (nomark _) (xi_fr 4) (xi_fr 1)) (sn_seq (s1_append 2 (xk_fr 3)) fun found7 => (sn_nil (s := found7) (wk_eq (wk_eq (wk_eq (wk_eq (wk_eq wk_nil))))))) (sn_nil (s := s4) (wk_eq (wk_eq (wk_eq (wk_eq (wk_eq wk_nil))))))) fun s6 => (sn_nil (s := s6) (wk_eq (wk_eq (wk_eq (wk_any (wk_any wk_nil))))))))) (wk_eq (wk_eq (wk_eq (wk_eq (wk_eq wk_nil)))))) fun s2 => (st_ret (xk_sortedI (xa_cons (xi_ow 2) xa_nil) b_sorted)))))
    (case q => first | (unfold m_next_to; simp only [Res.okb, Res.bind_assoc, memB]; done) | rfl)
def m_edge_behind (web : (Int × (G.Tup (Int × Int)))) (k : Int) : Res (List Int) :=
  (Res.bind (Res.ok ([] : (List Int))) fun (found1 : (List Int)) => (Res.bind (foldR (fun (s2 : (List Int)) (a3 : (Int × Int)) => (Res.bind (Res.bind (if (decide (a3.1 ≤ k)) then (if (decide (a3.2 > k)) then (Res.ok (!decide (a3.1 ∈ s2))) else (Res.ok false)) else (Res.ok false)) fun v6 => (if v6 then (Res.bind (appR s2 a3.1) fun found5 => (Res.ok found5)) else (Res.ok s2))) fun s4 => (Res.ok s4))) found1 (web.2).l) fun s2 => (Res.ok s2)))
abbrev s_edge_behind : Stmt := topS 7
abbrev N_edge_behind : List Str := ["web", "k", "found", "one", "other"]
theorem S_edge_behind : FnScope N_edge_behind ["web", "k"] (defScope s_edge_behind) := ⟨rfl, rfl, rfl, by decide +kernel, rfl, by decide +kernel, by decide +kernel⟩
set_option maxHeartbeats 4000000 in
theorem cal_edge_behind {K : Frag} {base : Heap} (D : IsDef K Md.mg "edge_behind" s_edge_behind)  :
    Cal Pw.prog Pw.w K Md.mg base 1 "edge_behind" (fun a : (Int × (G.Tup (Int × Int))) × Int × Unit => a) (fun a : (Int × (G.Tup (Int × Int))) × Int × Unit => m_edge_behind a.1 a.2.1) ow :=
  cal_mk (N := N_edge_behind) (ps := ["web", "k"]) D S_edge_behind rfl (fun _ _ _ _ _ _ us hl => match us, hl with | [_, _], _ => rfl) fun a f cdv A' outer s H E hr => by
    obtain ⟨web, k, _⟩ := a
    have S := S_edge_behind
    have tk := takes_of (X := cxOf (L2.CX Pw.prog Pw.w) Pw.prog Pw.w K Md.mg base N_edge_behind "edge_behind" (defScope s_edge_behind) f cdv A' outer s H E) (E := E) rfl rfl rfl rfl
    refine' ST.slots (ss' := [G.fr web, G.fr k, G.any, G.any, G.any]) (ST.cast ?h ?q) rfl
    (case h => exact (st_seq (s1_set 2 (xk_lst (xhk_nil (α := Int))) S.nd) fun (found1 : (List Int)) => (st_seq (s1_for (S := (List Int)) (fun (s2 : (List Int)) => [G.fr web, G.fr k, G.ow s2, G.any, G.any]) found1 (it_tup (xk_imm (xi_p2 (xi_fr 0)))) (tg_two (tg_name 3 S.nd) (tg_name 4 S.nd)) (fun s2 a3 => (sn_seq (s1_if (post := (fun (s4 : (List Int)) => [G.fr web, G.fr k, G.ow s4, G.fr a3.1, G.fr a3.2])) (xt_w (xw_and (t_cmp op_le b_le (nomark _) (xi_fr 3) (xi_fr 1)) (xw_and (t_cmp op_gt b_gt (nomark _) (xi_fr 4) (xi_fr 1)) (xw_and1 (t_cmp op_notIn_seq (b_ninL (α := Int)) (by with_unfolding_all rfl) (xi_fr 3) (xi_ow 2)))))) (sn_seq (s1_append 2 (xk_fr 3)) fun found5 => (sn_nil (s := found5) (wk_eq (wk_eq (wk_eq (wk_eq (wk_eq wk_nil))))))) (sn_nil (s := s2) (wk_eq (wk_eq (wk_eq (wk_eq (wk_eq wk_nil))))))) fun s4 => (sn_nil (s := s4) (wk_eq (wk_eq (wk_eq (wk_any (wk_any wk_nil)))))))) (wk_eq (wk_eq (wk_eq (wk_eq (wk_eq wk_nil)))))) fun s2 => (st_retOw 2))))
    (case q => first | (unfold m_edge_behind; simp only [Res.okb, Res.bind_assoc, memB]; done) | rfl)
def m_met (rows : (G.Tup (G.T4 Int PySem.Str Int Bool))) (near : (List Int)) (sign : PySem.Str) : Res (List Int) :=
  (Res.bind (Res.ok ([] : (List Int))) fun (found1 : (List Int)) => (Res.bind (foldR (fun (s2 : (List Int)) (a3 : (G.T4 Int PySem.Str Int Bool)) => (Res.bind (Res.bind (if (decide (a3.a ∈ near)) then (if (ScaEq.eq a3.b sign) then (Res.ok (!decide (a3.c ∈ s2))) else (Res.ok false)) else (Res.ok false)) fun v6 => (if v6 then (Res.bind (appR s2 a3.c) fun found5 => (Res.ok found5)) else (Res.ok s2))) fun s4 => (Res.ok s4))) found1 rows.l) fun s2 => (Res.ok s2)))
abbrev s_met : Stmt := topS 8
abbrev N_met : List Str := ["rows", "near", "sign", "found", "at", "other", "chain", "breathes"]
theorem S_met : FnScope N_met ["rows", "near", "sign"] (defScope s_met) := ⟨rfl, rfl, rfl, by decide +kernel, rfl, by decide +kernel, by decide +kernel⟩
set_option maxHeartbeats 4000000 in
theorem cal_met {K : Frag} {base : Heap} (D : IsDef K Md.mg "met" s_met)  :
    Cal Pw.prog Pw.w K Md.mg base 1 "met" (fun a : (G.Tup (G.T4 Int PySem.Str Int Bool)) × (List Int) × PySem.Str × Unit => a) (fun a : (G.Tup (G.T4 Int PySem.Str Int Bool)) × (List Int) × PySem.Str × Unit => m_met a.1 a.2.1 a.2.2.1) ow :=
  cal_mk (N := N_met) (ps := ["rows", "near", "sign"]) D S_met rfl (fun _ _ _ _ _ _ us hl => match us, hl with | [_, _, _], _ => rfl) fun a f cdv A' outer s H E hr => by
    obtain ⟨rows, near, sign, _⟩ := a
    have S := S_met
    have tk := takes_of (X := cxOf (L2.CX Pw.prog Pw.w) Pw.prog Pw.w K Md.mg base N_met "met" (defScope s_met) f cdv A' outer s H E) (E := E) rfl rfl rfl rfl
    refine' ST.slots (ss' := [G.fr rows, G.fr near, G.fr sign, G.any, G.any, G.any, G.any, G.any]) (ST.cast ?h ?q) rfl
    (case h => exact (st_seq (s1_set 3 (xk_lst (xhk_nil (α := Int))) S.nd) fun (found1 : (List Int)) => (st_seq (s1_for (S := (List Int)) (fun (s2 : (List Int)) => [G.fr rows, G.fr near, G.fr sign, G.ow s2, G.any, G.any, G.any, G.any]) found1 (it_tup (xk_fr 0)) (tg_four (tg_name 4 S.nd) (tg_name 5 S.nd) (tg_name 6 S.nd) (tg_name 7 S.nd)) (fun s2 a3 => (sn_seq (s1_if (post := (fun (s4 : (List Int)) => [G.fr rows, G.fr near, G.fr sign, G.ow s4, G.fr a3.a, G.fr a3.b, G.fr a3.c, G.fr a3.d])) (xt_w (xw_and (t_cmp op_in_seq (b_inL (α := Int)) (by with_unfolding_all rfl) (xi_fr 4) (xi_fr 1)) (xw_and (t_cmp op_eq (b_eqS (α := PySem.Str) (β := PySem.Str)) (nomark _) (xi_fr 5) (xi_fr 2)) (xw_and1 (t_cmp op_notIn_seq (b_ninL (α := Int)) (by with_unfolding_all rfl) (xi_fr 6) (xi_ow 3)))))) (sn_seq (s1_append 3 (xk_fr 6)) fun found5 => (sn_nil (s := found5) (wk_eq (wk_eq (wk_eq (wk_eq (wk_eq (wk_eq (wk_eq (wk_eq wk_nil)))))))))) (sn_nil (s := s2) (wk_eq (wk_eq (wk_eq (wk_eq (wk_eq (wk_eq (wk_eq (wk_eq wk_nil)))))))))) fun s4 => (sn_nil (s := s4) (wk_eq (wk_eq (wk_eq (wk_eq (wk_any (wk_any (wk_any (wk_any wk_nil))))))))))) (wk_eq (wk_eq (wk_eq (wk_eq (wk_eq (wk_eq (wk_eq (wk_eq wk_nil))))))))) fun s2 => (st_retOw 3))))
    (case q => first | (unfold m_met; simp only [Res.okb, Res.bind_assoc, memB]; done) | rfl)
def m_breathes_now (rows : (G.Tup (G.T4 Int PySem.Str Int Bool))) (near : (List Int)) (own : (List Int)) : Res Bool :=
  (Res.tail (S := Unit) (R := Bool) (loopO (fun (s1 : Unit) (a2 : (G.T4 Int PySem.Str Int Bool)) => ((Res.next (S := Unit) (Res.bind (if (decide (a2.a ∈ near)) then (Res.ok (ScaEq.eq a2.b (PySem.Str.ofString "."))) else (Res.ok false)) fun v4 => (if v4 then (Res.ok (Out.rt true)) else (Res.ok (Out.nx ())))) fun s3 => (Res.next (S := Unit) (Res.bind (if (decide (a2.c ∈ own)) then (Res.ok a2.d) else (Res.ok false)) fun v6 => (if v6 then (Res.ok (Out.rt true)) else (Res.ok (Out.nx ())))) fun s5 => (Res.ok (Out.nx ())))) : Res (Out (Unit) (Unit) Bool))) () rows.l) fun s1 => (Res.ok false))
abbrev s_breathes_now : Stmt := topS 9
abbrev N_breathes_now : List Str := ["rows", "near", "own", "at", "sign", "chain", "breathes"]
theorem S_breathes_now : FnScope N_breathes_now ["rows", "near", "own"] (defScope s_breathes_now) := ⟨rfl, rfl, rfl, by decide +kernel, rfl, by decide +kernel, by decide +kernel⟩
set_option maxHeartbeats 4000000 in
theorem cal_breathes_now {K : Frag} {base : Heap} (D : IsDef K Md.mg "breathes_now" s_breathes_now)  :
    Cal Pw.prog Pw.w K Md.mg base 1 "breathes_now" (fun a : (G.Tup (G.T4 Int PySem.Str Int Bool)) × (List Int) × (List Int) × Unit => a) (fun a : (G.Tup (G.T4 Int PySem.Str Int Bool)) × (List Int) × (List Int) × Unit => m_breathes_now a.1 a.2.1 a.2.2.1) fr :=
  cal_mk (N := N_breathes_now) (ps := ["rows", "near", "own"]) D S_breathes_now rfl (fun _ _ _ _ _ _ us hl => match us, hl with | [_, _, _], _ => rfl) fun a f cdv A' outer s H E hr => by
    obtain ⟨rows, near, own, _⟩ := a
    have S := S_breathes_now
    have tk := takes_of (X := cxOf (L2.CX Pw.prog Pw.w) Pw.prog Pw.w K Md.mg base N_breathes_now "breathes_now" (defScope s_breathes_now) f cdv A' outer s H E) (E := E) rfl rfl rfl rfl
    refine' ST.slots (ss' := [G.fr rows, G.fr near, G.fr own, G.any, G.any, G.any, G.any]) (ST.cast ?h ?q) rfl
    (case h => exact (st_b1 (S := Unit) (R := Bool) (pl := fun x => nomatch x) (b1_for (S := Unit) (R := Bool) (fun (s1 : Unit) => [G.fr rows, G.fr near, G.fr own, G.any, G.any, G.any, G.any]) () (it_tup (xk_fr 0)) (tg_four (tg_name 3 S.nd) (tg_name 4 S.nd) (tg_name 5 S.nd) (tg_name 6 S.nd)) (fun s1 a2 => (sb_b1 (S := Unit) (b1_if (post := (fun (s3 : Unit) => [G.fr rows, G.fr near, G.fr own, G.fr a2.a, G.fr a2.b, G.fr a2.c, G.fr a2.d])) (xt_w (xw_and (t_cmp op_in_seq (b_inL (α := Int)) (by with_unfolding_all rfl) (xi_fr 3) (xi_fr 1)) (xw_and1 (t_cmp op_eq (b_eqS (α := PySem.Str) (β := PySem.Str)) (nomark _) (xi_fr 4) xi_str)))) (sb_ret (xk_imm xi_bl)) (sb_nil (s := ()) (wk_eq (wk_eq (wk_eq (wk_eq (wk_eq (wk_eq (wk_eq wk_nil))))))))) fun s3 => (sb_b1 (S := Unit) (b1_if (post := (fun (s5 : Unit) => [G.fr rows, G.fr near, G.fr own, G.fr a2.a, G.fr a2.b, G.fr a2.c, G.fr a2.d])) (xt_w (xw_and (t_cmp op_in_seq (b_inL (α := Int)) (by with_unfolding_all rfl) (xi_fr 5) (xi_fr 2)) (xw_and1 (xt_val (xi_fr 6))))) (sb_ret (xk_imm xi_bl)) (sb_nil (s := ()) (wk_eq (wk_eq (wk_eq (wk_eq (wk_eq (wk_eq (wk_eq wk_nil))))))))) fun s5 => (sb_nil (s := ()) (wk_eq (wk_eq (wk_eq (wk_any (wk_any (wk_any (wk_any wk_nil))))))))))) (wk_eq (wk_eq (wk_eq (wk_eq (wk_eq (wk_eq (wk_eq wk_nil)))))))) fun s1 => (st_ret (xk_imm xi_bl))))
    (case q => first | (unfold m_breathes_now; simp only [Res.okb, Res.bind_assoc, memB]; done) | rfl)
def m_grown (rows : (G.Tup (G.T4 Int PySem.Str Int Bool))) (near : (List Int)) (k : Int) (sign : PySem.Str) : Res (List (G.T4 Int PySem.Str Int Bool)) :=
  (if (ScaEq.eq sign (PySem.Str.ofString ".")) then (Res.bind (Res.bind (m_met rows near (PySem.Str.ofString "x")) fun v2 => (Res.bind (m_met rows near (PySem.Str.ofString "o")) fun v3 => (catR v2 v3))) fun (touched1 : (List Int)) => (Res.bind (lcT (fun _ => Res.ok true) (fun a5 => (Res.bind (Res.bind (Res.bind (Res.bind (Res.bind (if a5.d then (Res.ok true) else (Res.ok (decide (a5.c ∈ touched1)))) fun v6 => (Res.ok (v6, ()))) fun v7 => (Res.ok (a5.c, v7))) fun v8 => (Res.ok (a5.b, v8))) fun v9 => (Res.ok (a5.a, v9))) fun v10 => (Res.ok (⟨v10.1, v10.2.1, v10.2.2.1, v10.2.2.2.1⟩ : (G.T4 Int PySem.Str Int Bool))))) rows.l) fun (found4 : (List (G.T4 Int PySem.Str Int Bool))) => (Res.bind (appR found4 (⟨k, (PySem.Str.ofString "."), (-(1 : Int)), true⟩ : (G.T4 Int PySem.Str Int Bool))) fun found11 => (Res.ok found11)))) else (Res.bind (m_met rows near sign) fun (own12 : (List Int)) => (Res.bind (m_breathes_now rows near own12) fun (lives13 : Bool) => (Res.bind (Res.ok ([] : (List (G.T4 Int PySem.Str Int Bool)))) fun (found14 : (List (G.T4 Int PySem.Str Int Bool))) => (Res.bind (foldR (fun (s15 : (List (G.T4 Int PySem.Str Int Bool))) (a16 : (G.T4 Int PySem.Str Int Bool)) => (Res.bind (if (decide (a16.c ∈ own12)) then (Res.bind (appR s15 (⟨a16.a, a16.b, (1000 : Int), lives13⟩ : (G.T4 Int PySem.Str Int Bool))) fun found18 => (Res.ok found18)) else (Res.bind (appR s15 (⟨a16.a, a16.b, a16.c, a16.d⟩ : (G.T4 Int PySem.Str Int Bool))) fun found19 => (Res.ok found19))) fun s17 => (Res.ok s17))) found14 rows.l) fun s15 => (Res.bind (appR s15 (⟨k, sign, (1000 : Int), lives13⟩ : (G.T4 Int PySem.Str Int Bool))) fun found20 => (Res.ok found20)))))))
abbrev s_grown : Stmt := topS 10
abbrev N_grown : List Str := ["rows", "near", "k", "sign", "touched", "at", "other", "chain", "breathes", "found", "own", "lives"]
theorem S_grown : FnScope N_grown ["rows", "near", "k", "sign"] (defScope s_grown) := ⟨rfl, rfl, rfl, by decide +kernel, rfl, by decide +kernel, by decide +kernel⟩
set_option maxHeartbeats 4000000 in
theorem cal_grown {K : Frag} {base : Heap} (D : IsDef K Md.mg "grown" s_grown) (c_met : Cal Pw.prog Pw.w K Md.mg base 1 "met" (fun a : (G.Tup (G.T4 Int PySem.Str Int Bool)) × (List Int) × PySem.Str × Unit => a) (fun a : (G.Tup (G.T4 Int PySem.Str Int Bool)) × (List Int) × PySem.Str × Unit => m_met a.1 a.2.1 a.2.2.1) ow) (c_breathes_now : Cal Pw.prog Pw.w K Md.mg base 1 "breathes_now" (fun a : (G.Tup (G.T4 Int PySem.Str Int Bool)) × (List Int) × (List Int) × Unit => a) (fun a : (G.Tup (G.T4 Int PySem.Str Int Bool)) × (List Int) × (List Int) × Unit => m_breathes_now a.1 a.2.1 a.2.2.1) fr) (g_FRESH : GInt Md.mg "FRESH" (1000 : Int)) :
    Cal Pw.prog Pw.w K Md.mg base 2 "grown" (fun a : (G.Tup (G.T4 Int PySem.Str Int Bool)) × (List Int) × Int × PySem.Str × Unit => a) (fun a : (G.Tup (G.T4 Int PySem.Str Int Bool)) × (List Int) × Int × PySem.Str × Unit => m_grown a.1 a.2.1 a.2.2.1 a.2.2.2.1) ow :=
  cal_mk (N := N_grown) (ps := ["rows", "near", "k", "sign"]) D S_grown rfl (fun _ _ _ _ _ _ us hl => match us, hl with | [_, _, _, _], _ => rfl) fun a f cdv A' outer s H E hr => by
    obtain ⟨rows, near, k, sign, _⟩ := a
    have S := S_grown
    have tk := takes_of (X := cxOf (L2.CX Pw.prog Pw.w) Pw.prog Pw.w K Md.mg base N_grown "grown" (defScope s_grown) f cdv A' outer s H E) (E := E) rfl rfl rfl rfl
    refine' ST.slots (ss' := [G.fr rows, G.fr near, G.fr k, G.fr sign, G.any, G.any, G.any, G.any, G.any, G.any, G.any, G.any]) (ST.cast ?h ?q) rfl
    (case h => exact (st_guard (t_cmp op_eq (b_eqS (α := PySem.Str) (β := PySem.Str)) (nomark _) (xi_fr 3) xi_str) (st_seq (s1_set 4 (xk_free (xk_cat (xi_cal c_met hr tk (xa_cons (xi_fr 0) (xa_cons (xi_fr 1) (xa_cons xi_str xa_nil)))) (xi_cal c_met hr tk (xa_cons (xi_fr 0) (xa_cons (xi_fr 1) (xa_cons xi_str xa_nil)))))) S.nd) fun (touched1 : (List Int)) => (st_seq (s1_lc 9 (own := [("at", 5), ("other", 6), ("chain", 7), ("breathes", 8)]) (it_tup (xk_fr 0)) (tc_four (tc_name 5 S.nd) (tc_name 6 S.nd) (tc_name 7 S.nd) (tc_name 8 S.nd)) (fun a5 _ _ _ _ _ => (xk_imm (xi_t4d (xa_cons (xi_fr 5) (xa_cons (xi_fr 6) (xa_cons (xi_fr 7) (xa_cons (xi_or (xi_fr 8) (xi_one (x_cmp op_in_seq (b_inL (α := Int)) (by with_unfolding_all rfl) (xi_fr 7) (xi_fr 4)))) xa_nil))))))) S.nd (blkOk_by (N := N_grown) (sc := defScope s_grown) (by decide +kernel)) (sw_true rfl rfl rfl (by decide +kernel))) fun (found4 : (List (G.T4 Int PySem.Str Int Bool))) => (st_seq (s1_append 9 (xk_imm (xi_t4d (xa_cons (xi_fr 2) (xa_cons xi_str (xa_cons (xi_neg xi_int) (xa_cons xi_bl xa_nil))))))) fun found11 => (st_retOw 9)))) (st_seq (s1_set 10 (xk_free (xk_cal c_met hr tk (xa_cons (xi_fr 0) (xa_cons (xi_fr 1) (xa_cons (xi_fr 3) xa_nil))))) S.nd) fun (own12 : (List Int)) => (st_seq (s1_set 11 (xk_imm (xi_cal c_breathes_now hr tk (xa_cons (xi_fr 0) (xa_cons (xi_fr 1) (xa_cons (xi_fr 10) xa_nil))))) S.nd) fun (lives13 : Bool) => (st_seq (s1_set 9 (xk_lst (xhk_nil (α := (G.T4 Int PySem.Str Int Bool)))) S.nd) fun (found14 : (List (G.T4 Int PySem.Str Int Bool))) => (st_seq (s1_for (S := (List (G.T4 Int PySem.Str Int Bool))) (fun (s15 : (List (G.T4 Int PySem.Str Int Bool))) => [G.fr rows, G.fr near, G.fr k, G.fr sign, G.any, G.any, G.any, G.any, G.any, G.ow s15, G.fr own12, G.fr lives13]) found14 (it_tup (xk_fr 0)) (tg_four (tg_name 5 S.nd) (tg_name 6 S.nd) (tg_name 7 S.nd) (tg_name 8 S.nd)) (fun s15 a16 => (sn_seq (s1_if (post := (fun (s17 : (List (G.T4 Int PySem.Str Int Bool))) => [G.fr rows, G.fr near, G.fr k, G.fr sign, G.any, G.fr a16.a, G.fr a16.b, G.fr a16.c, G.fr a16.d, G.ow s17, G.fr own12, G.fr lives13])) (t_cmp op_in_seq (b_inL (α := Int)) (by with_unfolding_all rfl) (xi_fr 7) (xi_fr 10)) (sn_seq (s1_append 9 (xk_imm (xi_t4d (xa_cons (xi_fr 5) (xa_cons (xi_fr 6) (xa_cons (xi_gint g_FRESH) (xa_cons (xi_fr 11) xa_nil))))))) fun found18 => (sn_nil (s := found18) (wk_eq (wk_eq (wk_eq (wk_eq (wk_eq (wk_eq (wk_eq (wk_eq (wk_eq (wk_eq (wk_eq (wk_eq wk_nil)))))))))))))) (sn_seq (s1_append 9 (xk_imm (xi_t4d (xa_cons (xi_fr 5) (xa_cons (xi_fr 6) (xa_cons (xi_fr 7) (xa_cons (xi_fr 8) xa_nil))))))) fun found19 => (sn_nil (s := found19) (wk_eq (wk_eq (wk_eq (wk_eq (wk_eq (wk_eq (wk_eq (wk_eq (wk_eq (wk_eq (wk_eq (wk_eq wk_nil))))))))))))))) fun s17 => (sn_nil (s := s17) (wk_eq (wk_eq (wk_eq (wk_eq (wk_eq (wk_any (wk_any (wk_any (wk_any (wk_eq (wk_eq (wk_eq wk_nil))))))))))))))) (wk_eq (wk_eq (wk_eq (wk_eq (wk_eq (wk_eq (wk_eq (wk_eq (wk_eq (wk_eq (wk_eq (wk_eq wk_nil))))))))))))) fun s15 => (st_seq (s1_append 9 (xk_imm (xi_t4d (xa_cons (xi_fr 2) (xa_cons (xi_fr 3) (xa_cons (xi_gint g_FRESH) (xa_cons (xi_fr 11) xa_nil))))))) fun found20 => (st_retOw 9))))))))
    (case q => first | (unfold m_grown; simp only [Res.okb, Res.bind_assoc, memB]; done) | rfl)
def m_kept_rows (rows : (List (G.T4 Int PySem.Str Int Bool))) (edge : (List Int)) : Res (Option (G.Tup (G.T4 Int PySem.Str Int Bool))) :=
  (Res.bind (lcT (fun a2 => (Res.ok (decide ((a2.a) ∈ edge)))) (fun a2 => (Res.ok a2)) rows) fun (kept1 : (List (G.T4 Int PySem.Str Int Bool))) => (Res.bind (Res.ok ([] : (List Int))) fun (numbers3 : (List Int)) => (Res.bind (foldR (fun (s4 : (List Int)) (a5 : (G.T4 Int PySem.Str Int Bool)) => (Res.bind (Res.bind (if (!ScaEq.eq a5.b (PySem.Str.ofString ".")) then (Res.ok (!decide (a5.c ∈ s4))) else (Res.ok false)) fun v8 => (if v8 then (Res.bind (appR s4 a5.c) fun numbers7 => (Res.ok numbers7)) else (Res.ok s4))) fun s6 => (Res.ok s6))) numbers3 kept1) fun s4 => (Res.tail (S := Unit) (R := (Option (G.Tup (G.T4 Int PySem.Str Int Bool)))) (loopO (fun (s9 : Unit) (a10 : (G.T4 Int PySem.Str Int Bool)) => ((Res.next (S := Unit) (Res.bind (if (!a10.d) then (Res.ok (!decide (a10.c ∈ s4))) else (Res.ok false)) fun v12 => (if v12 then (Res.ok (Out.rt (none : (Option (G.Tup (G.T4 Int PySem.Str Int Bool)))))) else (Res.ok (Out.nx ())))) fun s11 => (Res.ok (Out.nx ()))) : Res (Out (Unit) (Unit) (Option (G.Tup (G.T4 Int PySem.Str Int Bool)))))) () rows) fun s9 => (Res.bind (Res.ok ([] : (List (G.T4 Int PySem.Str Int Bool)))) fun (found13 : (List (G.T4 Int PySem.Str Int Bool))) => (Res.bind (foldR (fun (s14 : (List (G.T4 Int PySem.Str Int Bool))) (a15 : (G.T4 Int PySem.Str Int Bool)) => (Res.bind (Res.ok (-(1 : Int))) fun (number16 : Int) => (Res.bind (if (!ScaEq.eq a15.b (PySem.Str.ofString ".")) then (Res.bind (indexD s4 a15.c) fun (number18 : Int) => (Res.ok number18)) else (Res.ok number16)) fun s17 => (Res.bind (appR s14 (⟨a15.a, a15.b, s17, a15.d⟩ : (G.T4 Int PySem.Str Int Bool))) fun found19 => (Res.ok found19))))) found13 kept1) fun s14 => (Res.ok (some (⟨s14⟩ : (G.Tup (G.T4 Int PySem.Str Int Bool)))))))))))
abbrev s_kept_rows : Stmt := topS 11
abbrev N_kept_rows : List Str := ["rows", "edge", "kept", "numbers", "at", "sign", "chain", "breathes", "found", "number", "row"]
theorem S_kept_rows : FnScope N_kept_rows ["rows", "edge"] (defScope s_kept_rows) := ⟨rfl, rfl, rfl, by decide +kernel, rfl, by decide +kernel, by decide +kernel⟩
set_option maxHeartbeats 4000000 in
theorem cal_kept_rows {K : Frag} {base : Heap} (D : IsDef K Md.mg "kept_rows" s_kept_rows) (b_tuple : Md.mg "tuple" = none) :
    Cal Pw.prog Pw.w K Md.mg base 1 "kept_rows" (fun a : (List (G.T4 Int PySem.Str Int Bool)) × (List Int) × Unit => a) (fun a : (List (G.T4 Int PySem.Str Int Bool)) × (List Int) × Unit => m_kept_rows a.1 a.2.1) fr :=
  cal_mk (N := N_kept_rows) (ps := ["rows", "edge"]) D S_kept_rows rfl (fun _ _ _ _ _ _ us hl => match us, hl with | [_, _], _ => rfl) fun a f cdv A' outer s H E hr => by
    obtain ⟨rows, edge, _⟩ := a
    have S := S_kept_rows
    have tk := takes_of (X := cxOf (L2.CX Pw.prog Pw.w) Pw.prog Pw.w K Md.mg base N_kept_rows "kept_rows" (defScope s_kept_rows) f cdv A' outer s H E) (E := E) rfl rfl rfl rfl
    refine' ST.slots (ss' := [G.fr rows, G.fr edge, G.any, G.any, G.any, G.any, G.any, G.any, G.any, G.any, G.any]) (ST.cast ?h ?q) rfl
    (case h => exact (st_seq (s1_lcIf 2 (own := [("row", 10)]) (it_list (xk_fr 0)) (tc_name 10 S.nd) (fun a2 _ _ _ _ _ => (t_cmp op_in_seq (b_inL (α := Int)) (by with_unfolding_all rfl) (xi_t4_1 (xi_fr 10)) (xi_fr 1))) (fun a2 _ _ _ _ _ => (xk_fr 10)) S.nd (blkOk_by (N := N_kept_rows) (sc := defScope s_kept_rows) (by decide +kernel)) (sw_true rfl rfl rfl (by decide +kernel))) fun (kept1 : (List (G.T4 Int PySem.Str Int Bool))) => (st_seq (s1_set 3 (xk_lst (xhk_nil (α := Int))) S.nd) fun (numbers3 : (List Int)) => (st_froz (as := kept1) 2 (st_seq (s1_for (S := (List Int)) (fun (s4 : (List Int)) => [G.fr rows, G.fr edge, G.fr kept1, G.ow s4, G.any, G.any, G.any, G.any, G.any, G.any, G.any]) numbers3 (it_list (xk_fr 2)) (tg_four (tg_name 4 S.nd) (tg_name 5 S.nd) (tg_name 6 S.nd) (tg_name 7 S.nd)) (fun s4 a5 => (sn_seq (s1_if (post := (fun (s6 : (List Int)) => [G.fr rows, G.fr edge, G.fr kept1, G.ow s6, G.fr a5.a, G.fr a5.b, G.fr a5.c, G.fr a5.d, G.any, G.any, G.any])) (xt_w (xw_and (t_cmp op_ne (b_neS (α := PySem.Str) (β := PySem.Str)) (nomark _) (xi_fr 5) xi_str) (xw_and1 (t_cmp op_notIn_seq (b_ninL (α := Int)) (by with_unfolding_all rfl) (xi_fr 6) (xi_ow 3))))) (sn_seq (s1_append 3 (xk_fr 6)) fun numbers7 => (sn_nil (s := numbers7) (wk_eq (wk_eq (wk_eq (wk_eq (wk_eq (wk_eq (wk_eq (wk_eq (wk_eq (wk_eq (wk_eq wk_nil))))))))))))) (sn_nil (s := s4) (wk_eq (wk_eq (wk_eq (wk_eq (wk_eq (wk_eq (wk_eq (wk_eq (wk_eq (wk_eq (wk_eq wk_nil))))))))))))) fun s6 => (sn_nil (s := s6) (wk_eq (wk_eq (wk_eq (wk_eq (wk_any (wk_any (wk_any (wk_any (wk_eq (wk_eq (wk_eq wk_nil)))))))))))))) (wk_eq (wk_eq (wk_eq (wk_eq (wk_eq (wk_eq (wk_eq (wk_eq (wk_eq (wk_eq (wk_eq wk_nil)))))))))))) fun s4 => (st_b1 (S := Unit) (R := (Option (G.Tup (G.T4 Int PySem.Str Int Bool)))) (pl := fun x => nomatch x) (b1_for (S := Unit) (R := (Option (G.Tup (G.T4 Int PySem.Str Int Bool)))) (fun (s9 : Unit) => [G.fr rows, G.fr edge, G.fr kept1, G.ow s4, G.any, G.any, G.any, G.any, G.any, G.any, G.any]) () (it_list (xk_fr 0)) (tg_four (tg_name 4 S.nd) (tg_name 5 S.nd) (tg_name 6 S.nd) (tg_name 7 S.nd)) (fun s9 a10 => (sb_b1 (S := Unit) (b1_if (post := (fun (s11 : Unit) => [G.fr rows, G.fr edge, G.fr kept1, G.ow s4, G.fr a10.a, G.fr a10.b, G.fr a10.c, G.fr a10.d, G.any, G.any, G.any])) (xt_w (xw_and (xt_not (xt_val (xi_fr 7))) (xw_and1 (t_cmp op_notIn_seq (b_ninL (α := Int)) (by with_unfolding_all rfl) (xi_fr 6) (xi_ow 3))))) (sb_ret (xk_imm xi_none)) (sb_nil (s := ()) (wk_eq (wk_eq (wk_eq (wk_eq (wk_eq (wk_eq (wk_eq (wk_eq (wk_eq (wk_eq (wk_eq wk_nil))))))))))))) fun s11 => (sb_nil (s := ()) (wk_eq (wk_eq (wk_eq (wk_eq (wk_any (wk_any (wk_any (wk_any (wk_eq (wk_eq (wk_eq wk_nil)))))))))))))) (wk_eq (wk_eq (wk_eq (wk_eq (wk_eq (wk_eq (wk_eq (wk_eq (wk_eq (wk_eq (wk_eq wk_nil)))))))))))) fun s9 => (st_seq (s1_set 8 (xk_lst (xhk_nil (α := (G.T4 Int PySem.Str Int Bool)))) S.nd) fun (found13 : (List (G.T4 Int PySem.Str Int Bool))) => (st_seq (s1_for (S := (List (G.T4 Int PySem.Str Int Bool))) (fun (s14 : (List (G.T4 Int PySem.Str Int Bool))) => [G.fr rows, G.fr edge, G.fr kept1, G.ow s4, G.any, G.any, G.any, G.any, G.ow s14, G.any, G.any]) found13 (it_list (xk_fr 2)) (tg_four (tg_name 4 S.nd) (tg_name 5 S.nd) (tg_name 6 S.nd) (tg_name 7 S.nd)) (fun s14 a15 => (sn_seq (s1_set 9 (xk_imm (xi_neg xi_int)) S.nd) fun (number16 : Int) => (sn_seq (s1_if (post := (fun (s17 : Int) => [G.fr rows, G.fr edge, G.fr kept1, G.ow s4, G.fr a15.a, G.fr a15.b, G.fr a15.c, G.fr a15.d, G.ow s14, G.fr s17, G.any])) (t_cmp op_ne (b_neS (α := PySem.Str) (β := PySem.Str)) (nomark _) (xi_fr 5) xi_str) (sn_seq (s1_set 9 (xk_imm (xi_indexD (α := Int) (hu65 hr) (xi_ow 3) (xi_fr 6))) S.nd) fun (number18 : Int) => (sn_nil (s := number18) (wk_eq (wk_eq (wk_eq (wk_eq (wk_eq (wk_eq (wk_eq (wk_eq (wk_eq (wk_eq (wk_eq wk_nil))))))))))))) (sn_nil (s := number16) (wk_eq (wk_eq (wk_eq (wk_eq (wk_eq (wk_eq (wk_eq (wk_eq (wk_eq (wk_eq (wk_eq wk_nil))))))))))))) fun s17 => (sn_seq (s1_append 8 (xk_imm (xi_t4d (xa_cons (xi_fr 4) (xa_cons (xi_fr 5) (xa_cons (xi_fr 9) (xa_cons (xi_fr 7) xa_nil))))))) fun found19 => (sn_nil (s := found19) (wk_eq (wk_eq (wk_eq (wk_eq (wk_any (wk_any (wk_any (wk_any (wk_eq (wk_any (wk_eq wk_nil)))))))))))))))) (wk_eq (wk_eq (wk_eq (wk_eq (wk_eq (wk_eq (wk_eq (wk_eq (wk_eq (wk_eq (wk_eq wk_nil)))))))))))) fun s14 => (st_ret (xk_imm (xi_some (xi_bt call_tuple_of c_tuple b_tuple (by decide +kernel) (xa_cons (xi_ow 8) xa_nil)))))))))))))
    (case q => first | (unfold m_kept_rows; simp only [Res.okb, Res.bind_assoc, memB]; done) | rfl)
def m_added (counts : (G.Dic (G.Tup (G.T4 Int PySem.Str Int Bool)) (List Int))) (key : (G.Tup (G.T4 Int PySem.Str Int Bool))) (row : (List Int)) (more : Int) : Res (Unit × ((G.Dic (G.Tup (G.T4 Int PySem.Str Int Bool)) (List Int)) × Unit)) :=
  (noX (Res.bind (repR ((0 : Int) :: []) ((row.length : Int) + (1 : Int))) fun (l2 : (List Int)) => (Res.bind (Res.ok ((dget counts key).getD l2)) fun (sums1 : (List Int)) => (Res.bind (Res.bind (guardR (small62 (row.length : Int)) (Res.ok (rangeL 0 ((row.length : Int)).toNat))) fun v10 => (foldR (fun (s4 : (List Int)) (a5 : Int) => (Res.bind (Res.bind (Res.bind (idx s4 (a5 + more)) fun v6 => (Res.bind (idx row a5) fun v7 => (Res.ok (v6 + v7)))) fun v9 => (setR s4 (a5 + more) v9)) fun (sums8 : (List Int)) => (Res.ok sums8))) sums1 v10)) fun s4 => (Res.bind (dputR counts key s4) fun (counts11 : (G.Dic (G.Tup (G.T4 Int PySem.Str Int Bool)) (List Int))) => (Res.ok ((), (counts11, ()))))))))
abbrev s_added : Stmt := topS 12
abbrev N_added : List Str := ["counts", "key", "row", "more", "sums", "k"]
theorem S_added : FnScope N_added ["counts", "key", "row", "more"] (defScope s_added) := ⟨rfl, rfl, rfl, by decide +kernel, rfl, by decide +kernel, by decide +kernel⟩
set_option maxHeartbeats 4000000 in
theorem cal_added {K : Frag} {base : Heap} (D : IsDef K Md.mg "added" s_added) (b_len : Md.mg "len" = none) (b_range : Md.mg "range" = none) :
    CalFu (A := G.IoV (G.dlO (κ := G.Tup (G.T4 Int PySem.Str Int Bool)) (β := Int)) × (G.Tup (G.T4 Int PySem.Str Int Bool)) × (List Int) × Int × Unit) Pw.prog Pw.w K Md.mg base 1 "added" (fun a => m_added a.1.v a.2.1 a.2.2.1 a.2.2.2.1) fr :=
  cal_mkFu (N := N_added) (ps := ["counts", "key", "row", "more"]) D S_added rfl (fun _ _ _ _ _ _ us hl => match us, hl with | [_, _, _, _], _ => rfl) fun u a f cdv A' outer s H E hr => by
    obtain ⟨⟨counts⟩, key, row, more, _⟩ := a
    have S := S_added
    have tk := takes_of (X := cxOf (L2.CX Pw.prog Pw.w) Pw.prog Pw.w K Md.mg base N_added "added" (defScope s_added) f cdv A' outer s H E) (E := E) rfl rfl rfl rfl
    refine' STM.slots (ss' := [G.ex u.1 counts, G.ex u.2.1 key, G.ex u.2.2.1 row, G.ex u.2.2.2.1 more, G.any, G.any]) (STM.cast ?h ?q) rfl
    (case h => exact (sm_take (ls := [G.any, G.any]) (ts := [G.any, G.any]) (ST.slots (ss' := [G.po u.1 (G.dlO (κ := G.Tup (G.T4 Int PySem.Str Int Bool)) (β := Int)) counts, G.fr key, G.fr row, G.fr more, G.any, G.any]) (st_getOr 0 4 (hu64 hr) (xi_fr 1) (xk_rep (xi_of (xk_lst (xak_imm (xh_cons xi_int (xh_nil))))) (x_bin op_add b_add (xi_bf call_len c_lenL b_len PySem.boot_len (xa_cons (xi_fr 2) xa_nil)) xi_int)) (fun q3 sums1 => (st_seq (s1_for (S := (List Int)) (fun (s4 : (List Int)) => [G.adS u.1 q3 counts key s4, G.fr key, G.fr row, G.fr more, G.fr (⟨.ref q3⟩ : G.Pv), G.any]) sums1 (it_range1 (xa_cons (xi_bf call_len c_lenL b_len PySem.boot_len (xa_cons (xi_fr 2) xa_nil)) xa_nil) b_range) (tg_name 5 S.nd) (fun s4 a5 => (sn_seq (s1_setAd 0 4 (xk_imm (x_bin op_add b_add (xi_ixL (xi_ad 0 4) (x_bin op_add b_add (xi_fr 5) (xi_fr 3))) (xi_ixL (xi_fr 2) (xi_fr 5)))) (x_bin op_add b_add (xi_fr 5) (xi_fr 3)) (hg := pg_sub (pv 4) (x_bin op_add b_add (xi_fr 5) (xi_fr 3)) set_list)) fun (sums8 : (List Int)) => (sn_nil (s := sums8) (wk_eq (wk_eq (wk_eq (wk_eq (wk_eq (wk_any wk_nil))))))))) (wk_eq (wk_eq (wk_eq (wk_eq (wk_eq (wk_eq wk_nil))))))) fun s4 => (st_seq (s1_putAd 0 4 (hu64 hr) (xi_fr 1)) fun (counts11 : (G.Dic (G.Tup (G.T4 Int PySem.Str Int Bool)) (List Int))) => (st_nilM (A := G.IoV (G.dlO (κ := G.Tup (G.T4 Int PySem.Str Int Bool)) (β := Int)) × (G.Tup (G.T4 Int PySem.Str Int Bool)) × (List Int) × Int × Unit) (u := u) (os := (counts11, ())) ⟨_, rfl, ⟨_, _, rfl, ⟨_, _, rfl, ⟨_, _, rfl, trivial⟩⟩⟩⟩)))) (hN := S.nd)) rfl) (Sw.any (Sw.any Sw.nil))))
    (case q => first | (unfold m_added; simp only [Res.okb, Res.bind_assoc, memB]; done) | rfl)
def m_sound_by_stones (web : (Int × (G.Tup (Int × Int)))) : Res (List Int) :=
  (Res.bind (Res.bind (guardR (small62 (web.1)) (Res.ok (rangeL 0 ((web.1)).toNat))) fun v3 => (lcT (fun _ => Res.ok true) (fun a2 => (m_edge_behind web a2)) v3)) fun (edges1 : (List (List Int))) => (Res.bind (foldR (fun (s4 : Unit) (a5 : (List Int)) => (Res.bind (if (decide ((a5.length : Int) > (6 : Int))) then (Res.exc ⟨(PySem.Str.ofString "TooWide"), .no⟩) else (Res.ok ())) fun s6 => (Res.ok ()))) () edges1) fun s4 => (Res.bind (Res.ok (⟨[((⟨[]⟩ : (G.Tup (G.T4 Int PySem.Str Int Bool))), ((1 : Int) :: []))]⟩ : (G.Dic (G.Tup (G.T4 Int PySem.Str Int Bool)) (List Int)))) fun (counts7 : (G.Dic (G.Tup (G.T4 Int PySem.Str Int Bool)) (List Int))) => (Res.bind (Res.bind (guardR (small62 (web.1)) (Res.ok (rangeL 0 ((web.1)).toNat))) fun v26 => (foldR (fun (s8 : (G.Dic (G.Tup (G.T4 Int PySem.Str Int Bool)) (List Int))) (a9 : Int) => (Res.bind (m_next_to web a9) fun (near10 : (List Int)) => (Res.bind (Res.ok (⟨[]⟩ : (G.Dic (G.Tup (G.T4 Int PySem.Str Int Bool)) (List Int)))) fun (behind11 : (G.Dic (G.Tup (G.T4 Int PySem.Str Int Bool)) (List Int))) => (Res.bind (foldR (fun (s12 : (G.Dic (G.Tup (G.T4 Int PySem.Str Int Bool)) (List Int))) (a13 : ((G.Tup (G.T4 Int PySem.Str Int Bool)) × (List Int))) => (Res.bind (foldR (fun (s14 : (G.Dic (G.Tup (G.T4 Int PySem.Str Int Bool)) (List Int))) (a15 : PySem.Str) => (Res.bind (Res.bind (Res.bind (m_grown a13.1 near10 a9 a15) fun v18 => (Res.bind (Res.bind (idx edges1 a9) fun v17 => (Res.ok (v17, ()))) fun v19 => (Res.ok (v18, v19)))) fun a20 => (m_kept_rows a20.1 a20.2.1)) fun (key16 : (Option (G.Tup (G.T4 Int PySem.Str Int Bool)))) => (Res.bind (if (Option.isSome key16) then (Res.bind (Res.bind (unw key16) fun v22 => (m_added s14 v22 a13.2 (if (!ScaEq.eq a15 (PySem.Str.ofString ".")) then (1 : Int) else 0))) fun (r23 : Unit × ((G.Dic (G.Tup (G.T4 Int PySem.Str Int Bool)) (List Int)) × Unit)) => (Res.ok r23.2.1)) else (Res.ok s14)) fun s21 => (Res.ok s21)))) s12 (signsOf (PySem.Str.ofString ".xo"))) fun s14 => (Res.ok s14))) behind11 (⟨s8⟩ : (G.LDic (G.Tup (G.T4 Int PySem.Str Int Bool)) (List Int))).d.l) fun s12 => (Res.bind (Res.ok s12) fun (counts25 : (G.Dic (G.Tup (G.T4 Int PySem.Str Int Bool)) (List Int))) => (Res.ok counts25)))))) counts7 v26)) fun s8 => (unw (dget s8 (⟨[]⟩ : (G.Tup (G.T4 Int PySem.Str Int Bool)))))))))
abbrev s_sound_by_stones : Stmt := topS 13
abbrev N_sound_by_stones : List Str := ["web", "k", "edges", "edge", "counts", "near", "behind", "rows", "row", "sign", "key"]
theorem S_sound_by_stones : FnScope N_sound_by_stones ["web"] (defScope s_sound_by_stones) := ⟨rfl, rfl, rfl, by decide +kernel, rfl, by decide +kernel, by decide +kernel⟩
set_option maxHeartbeats 4000000 in
theorem cal_sound_by_stones {K : Frag} {base : Heap} (D : IsDef K Md.mg "sound_by_stones" s_sound_by_stones) (c_next_to : Cal Pw.prog Pw.w K Md.mg base 1 "next_to" (fun a : (Int × (G.Tup (Int × Int))) × Int × Unit => a) (fun a : (Int × (G.Tup (Int × Int))) × Int × Unit => m_next_to a.1 a.2.1) ow) (c_edge_behind : Cal Pw.prog Pw.w K Md.mg base 1 "edge_behind" (fun a : (Int × (G.Tup (Int × Int))) × Int × Unit => a) (fun a : (Int × (G.Tup (Int × Int))) × Int × Unit => m_edge_behind a.1 a.2.1) ow) (c_grown : Cal Pw.prog Pw.w K Md.mg base 2 "grown" (fun a : (G.Tup (G.T4 Int PySem.Str Int Bool)) × (List Int) × Int × PySem.Str × Unit => a) (fun a : (G.Tup (G.T4 Int PySem.Str Int Bool)) × (List Int) × Int × PySem.Str × Unit => m_grown a.1 a.2.1 a.2.2.1 a.2.2.2.1) ow) (c_kept_rows : Cal Pw.prog Pw.w K Md.mg base 1 "kept_rows" (fun a : (List (G.T4 Int PySem.Str Int Bool)) × (List Int) × Unit => a) (fun a : (List (G.T4 Int PySem.Str Int Bool)) × (List Int) × Unit => m_kept_rows a.1 a.2.1) fr) (c_added : CalFu (A := G.IoV (G.dlO (κ := G.Tup (G.T4 Int PySem.Str Int Bool)) (β := Int)) × (G.Tup (G.T4 Int PySem.Str Int Bool)) × (List Int) × Int × Unit) Pw.prog Pw.w K Md.mg base 1 "added" (fun a => m_added a.1.v a.2.1 a.2.2.1 a.2.2.2.1) fr) (b_range : Md.mg "range" = none) (b_len : Md.mg "len" = none) (b_int : Md.mg "int" = none) (x_TooWide : HasCl K Md.mg "TooWide") :
    Cal Pw.prog Pw.w K Md.mg base 3 "sound_by_stones" (fun a : (Int × (G.Tup (Int × Int))) × Unit => a) (fun a : (Int × (G.Tup (Int × Int))) × Unit => m_sound_by_stones a.1) ow :=
  cal_mk (N := N_sound_by_stones) (ps := ["web"]) D S_sound_by_stones rfl (fun _ _ _ _ _ _ us hl => match us, hl with | [_], _ => rfl) fun a f cdv A' outer s H E hr => by
    obtain ⟨web, _⟩ := a
    have S := S_sound_by_stones
    have tk := takes_of (X := cxOf (L2.CX Pw.prog Pw.w) Pw.prog Pw.w K Md.mg base N_sound_by_stones "sound_by_stones" (defScope s_sound_by_stones) f cdv A' outer s H E) (E := E) rfl rfl rfl rfl
    refine' ST.slots (ss' := [G.fr web, G.any, G.any, G.any, G.any, G.any, G.any, G.any, G.any, G.any, G.any]) (ST.cast ?h ?q) rfl
    (case h => exact (st_seq (s1_lc 2 (own := [("k", 1)]) (it_range1 (xa_cons (xi_p1 (xi_fr 0)) xa_nil) b_range) (tc_name 1 S.nd) (fun a2 _ _ _ _ _ => (xk_free (xk_cal c_edge_behind hr takes0 (xa_cons (xi_fr 0) (xa_cons (xi_fr 1) xa_nil))))) S.nd (blkOk_by (N := N_sound_by_stones) (sc := defScope s_sound_by_stones) (by decide +kernel)) (sw_true rfl rfl rfl (by decide +kernel))) fun (edges1 : (List (List Int))) => (st_froz (as := edges1) 2 (st_seq (s1_for (S := Unit) (fun (s4 : Unit) => [G.fr web, G.any, G.fr edges1, G.any, G.any, G.any, G.any, G.any, G.any, G.any, G.any]) () (it_list (xk_fr 2)) (tg_name 3 S.nd) (fun s4 a5 => (sn_seq (s1_if (post := (fun (s6 : Unit) => [G.fr web, G.any, G.fr edges1, G.fr a5, G.any, G.any, G.any, G.any, G.any, G.any, G.any])) (t_cmp op_gt b_gt (nomark _) (xi_bf call_len c_lenL b_len PySem.boot_len (xa_cons (xi_fr 3) xa_nil)) xi_int) (sn_raise x_TooWide tk) (sn_nil (s := ()) (wk_eq (wk_eq (wk_eq (wk_eq (wk_eq (wk_eq (wk_eq (wk_eq (wk_eq (wk_eq (wk_eq wk_nil))))))))))))) fun s6 => (sn_nil (s := ()) (wk_eq (wk_eq (wk_eq (wk_any (wk_eq (wk_eq (wk_eq (wk_eq (wk_eq (wk_eq (wk_eq wk_nil)))))))))))))) (wk_eq (wk_eq (wk_eq (wk_eq (wk_eq (wk_eq (wk_eq (wk_eq (wk_eq (wk_eq (wk_eq wk_nil)))))))))))) fun s4 => (st_seq (s1_set 4 (xk_noneL (hu64 hr) (xi_tup (xh_nil)) (xk_lst (xak_imm (xh_cons xi_int (xh_nil))))) S.nd) fun (counts7 : (G.Dic (G.Tup (G.T4 Int PySem.Str Int Bool)) (List Int))) => (st_seq (s1_for (S := (G.Dic (G.Tup (G.T4 Int PySem.Str Int Bool)) (List Int))) (fun (s8 : (G.Dic (G.Tup (G.T4 Int PySem.Str Int Bool)) (List Int))) => [G.fr web, G.any, G.fr edges1, G.any, G.owL s8, G.any, G.any, G.any, G.any, G.any, G.any]) counts7 (it_range1 (xa_cons (xi_p1 (xi_fr 0)) xa_nil) b_range) (tg_name 1 S.nd) (fun s8 a9 => (sn_seq (s1_set 5 (xk_free (xk_cal c_next_to hr tk (xa_cons (xi_fr 0) (xa_cons (xi_fr 1) xa_nil)))) S.nd) fun (near10 : (List Int)) => (sn_seq (s1_set 6 (xk_nnewL (κ := (G.Tup (G.T4 Int PySem.Str Int Bool))) (β := Int)) S.nd) fun (behind11 : (G.Dic (G.Tup (G.T4 Int PySem.Str Int Bool)) (List Int))) => (sn_lockL 4 (sn_seq (s1_for (S := (G.Dic (G.Tup (G.T4 Int PySem.Str Int Bool)) (List Int))) (fun (s12 : (G.Dic (G.Tup (G.T4 Int PySem.Str Int Bool)) (List Int))) => [G.fr web, G.fr a9, G.fr edges1, G.any, G.fr (⟨s8⟩ : (G.LDic (G.Tup (G.T4 Int PySem.Str Int Bool)) (List Int))), G.fr near10, G.owL s12, G.any, G.any, G.any, G.any]) behind11 (it_nitems (xk_fr 4)) (tg_two (tg_name 7 S.nd) (tg_name 8 S.nd)) (fun s12 a13 => (sn_seq (s1_for (S := (G.Dic (G.Tup (G.T4 Int PySem.Str Int Bool)) (List Int))) (fun (s14 : (G.Dic (G.Tup (G.T4 Int PySem.Str Int Bool)) (List Int))) => [G.fr web, G.fr a9, G.fr edges1, G.any, G.fr (⟨s8⟩ : (G.LDic (G.Tup (G.T4 Int PySem.Str Int Bool)) (List Int))), G.fr near10, G.owL s14, G.fr a13.1, G.fr a13.2, G.any, G.any]) s12 (it_str xi_str) (tg_name 9 S.nd) (fun s14 a15 => (sn_seq (s1_set 10 (xk_imm (xi_cal c_kept_rows hr tk (xa_cons (xi_cal c_grown hr tk (xa_cons (xi_fr 7) (xa_cons (xi_fr 5) (xa_cons (xi_fr 1) (xa_cons (xi_fr 9) xa_nil))))) (xa_cons (xi_ixL (xi_fr 2) (xi_fr 1)) xa_nil)))) S.nd) fun (key16 : (Option (G.Tup (G.T4 Int PySem.Str Int Bool)))) => (sn_seq (s1_if (post := (fun (s21 : (G.Dic (G.Tup (G.T4 Int PySem.Str Int Bool)) (List Int))) => [G.fr web, G.fr a9, G.fr edges1, G.any, G.fr (⟨s8⟩ : (G.LDic (G.Tup (G.T4 Int PySem.Str Int Bool)) (List Int))), G.fr near10, G.owL s21, G.fr a13.1, G.fr a13.2, G.fr a15, G.fr key16])) (xt_notN (xi_fr 10)) (sn_seq (s1_doC (post := (fun (t24 : ((G.Dic (G.Tup (G.T4 Int PySem.Str Int Bool)) (List Int)) × Unit)) => [G.fr web, G.fr a9, G.fr edges1, G.any, G.fr (⟨s8⟩ : (G.LDic (G.Tup (G.T4 Int PySem.Str Int Bool)) (List Int))), G.fr near10, G.owL t24.1, G.fr a13.1, G.fr a13.2, G.fr a15, G.fr key16])) (xc_fn c_added hr tk (xal_io 6 G.osnL rfl (xal_cons (xk_imm (xi_unw (xi_fr 10))) (xal_cons (xk_fr 8) (xal_cons (xk_imm (xi_bt call_int1 c_intB b_int (by decide +kernel) (xa_cons (x_cmp op_ne (b_neS (α := PySem.Str) (β := PySem.Str)) (nomark _) (xi_fr 9) xi_str) xa_nil))) xal_nil)))) (nd := (by decide : List.Nodup ([6] : List Nat))))) fun (r23 : Unit × ((G.Dic (G.Tup (G.T4 Int PySem.Str Int Bool)) (List Int)) × Unit)) => (sn_nil (s := r23.2.1) (wk_eq (wk_eq (wk_eq (wk_eq (wk_eq (wk_eq (wk_eq (wk_eq (wk_eq (wk_eq (wk_eq wk_nil))))))))))))) (sn_nil (s := s14) (wk_eq (wk_eq (wk_eq (wk_eq (wk_eq (wk_eq (wk_eq (wk_eq (wk_eq (wk_eq (wk_eq wk_nil))))))))))))) fun s21 => (sn_nil (s := s21) (wk_eq (wk_eq (wk_eq (wk_eq (wk_eq (wk_eq (wk_eq (wk_eq (wk_eq (wk_any (wk_any wk_nil))))))))))))))) (wk_eq (wk_eq (wk_eq (wk_eq (wk_eq (wk_eq (wk_eq (wk_eq (wk_eq (wk_eq (wk_eq wk_nil)))))))))))) fun s14 => (sn_nil (s := s14) (wk_eq (wk_eq (wk_eq (wk_eq (wk_eq (wk_eq (wk_eq (wk_any (wk_any (wk_eq (wk_eq wk_nil)))))))))))))) (wk_eq (wk_eq (wk_eq (wk_eq (wk_eq (wk_eq (wk_eq (wk_eq (wk_eq (wk_eq (wk_eq wk_nil)))))))))))) fun s12 => (sn_seq (s1_movL 4 6 S.nd) fun (counts25 : (G.Dic (G.Tup (G.T4 Int PySem.Str Int Bool)) (List Int))) => (sn_nil (s := counts25) (wk_eq (wk_any (wk_eq (wk_eq (wk_eq (wk_any (wk_eq (wk_eq (wk_eq (wk_eq (wk_eq wk_nil)))))))))))))))))) (wk_eq (wk_eq (wk_eq (wk_eq (wk_eq (wk_eq (wk_eq (wk_eq (wk_eq (wk_eq (wk_eq wk_nil)))))))))))) fun s8 => (st_retItL 4 (hu64 hr) (xi_tup (xh_nil)))))))))
    (case q => first | (unfold m_sound_by_stones; simp only [Res.okb, Res.bind_assoc, memB]; done) | rfl)
def m_sound_many (web : (Int × (G.Tup (Int × Int)))) : Res Int :=
  (Res.bind (m_sound_by_stones web) fun v1 => (Res.ok (List.sum v1)))
abbrev s_sound_many : Stmt := topS 14
abbrev N_sound_many : List Str := ["web"]
theorem S_sound_many : FnScope N_sound_many ["web"] (defScope s_sound_many) := ⟨rfl, rfl, rfl, by decide +kernel, rfl, by decide +kernel, by decide +kernel⟩
set_option maxHeartbeats 4000000 in
theorem cal_sound_many {K : Frag} {base : Heap} (D : IsDef K Md.mg "sound_many" s_sound_many) (c_sound_by_stones : Cal Pw.prog Pw.w K Md.mg base 3 "sound_by_stones" (fun a : (Int × (G.Tup (Int × Int))) × Unit => a) (fun a : (Int × (G.Tup (Int × Int))) × Unit => m_sound_by_stones a.1) ow) (b_sum : Md.mg "sum" = none) :
    Cal Pw.prog Pw.w K Md.mg base 4 "sound_many" (fun a : (Int × (G.Tup (Int × Int))) × Unit => a) (fun a : (Int × (G.Tup (Int × Int))) × Unit => m_sound_many a.1) fr :=
  cal_mk (N := N_sound_many) (ps := ["web"]) D S_sound_many rfl (fun _ _ _ _ _ _ us hl => match us, hl with | [_], _ => rfl) fun a f cdv A' outer s H E hr => by
    obtain ⟨web, _⟩ := a
    have S := S_sound_many
    have tk := takes_of (X := cxOf (L2.CX Pw.prog Pw.w) Pw.prog Pw.w K Md.mg base N_sound_many "sound_many" (defScope s_sound_many) f cdv A' outer s H E) (E := E) rfl rfl rfl rfl
    refine' ST.slots (ss' := [G.fr web]) (ST.cast ?h ?q) rfl
    (case h => exact (st_ret (xk_imm (xi_bf (cr_sum rfl) c_sum b_sum (by decide +kernel) (xa_cons (xi_cal c_sound_by_stones hr tk (xa_cons (xi_fr 0) xa_nil)) xa_nil)))))
    (case q => first | (unfold m_sound_many; simp only [Res.okb, Res.bind_assoc, memB]; done) | rfl)
def m_l_cell_at (l_script : G.Scr) (l_k : Int) : Res Int :=
  (if (decide (l_k < (l_script.ns.length : Int))) then (idx l_script.ns l_k) else (Res.ok (0 : Int)))
abbrev s__law_cell_at : Stmt := topS 16
abbrev N__law_cell_at : List Str := ["_law_script", "_law_k"]
theorem S__law_cell_at : FnScope N__law_cell_at ["_law_script", "_law_k"] (defScope s__law_cell_at) := ⟨rfl, rfl, rfl, by decide +kernel, rfl, by decide +kernel, by decide +kernel⟩
set_option maxHeartbeats 4000000 in
theorem cal__law_cell_at {K : Frag} {base : Heap} (D : IsDef K Md.mg "_law_cell_at" s__law_cell_at) (b_len : Md.mg "len" = none) :
    Cal Pw.prog Pw.w K Md.mg base 1 "_law_cell_at" (fun a : G.Scr × Int × Unit => a) (fun a : G.Scr × Int × Unit => m_l_cell_at a.1 a.2.1) fr :=
  cal_mk (N := N__law_cell_at) (ps := ["_law_script", "_law_k"]) D S__law_cell_at rfl (fun _ _ _ _ _ _ us hl => match us, hl with | [_, _], _ => rfl) fun a f cdv A' outer s H E hr => by
    obtain ⟨l_script, l_k, _⟩ := a
    have S := S__law_cell_at
    have tk := takes_of (X := cxOf (L2.CX Pw.prog Pw.w) Pw.prog Pw.w K Md.mg base N__law_cell_at "_law_cell_at" (defScope s__law_cell_at) f cdv A' outer s H E) (E := E) rfl rfl rfl rfl
    refine' ST.slots (ss' := [G.fr l_script, G.fr l_k]) (ST.cast ?h ?q) rfl
    (case h => exact (st_guard (t_cmp op_lt b_lt (nomark _) (xi_fr 1) (xi_bf call_len c_lenScr b_len PySem.boot_len (xa_cons (xi_fr 0) xa_nil))) (st_ret (xk_imm (xi_ixS (xi_fr 0) (xi_fr 1)))) (st_ret (xk_imm xi_int))))
    (case q => first | (unfold m_l_cell_at; simp only [Res.okb, Res.bind_assoc, memB]; done) | rfl)
def m_l_numbers (l_cell : Int) (l_sizes : (List Int)) : Res (List Int) :=
  (Res.bind (Res.ok (max l_cell ((-(1 : Int)) - l_cell))) fun (l_number1 : Int) => (Res.bind (Res.ok l_number1) fun (l_left2 : Int) => (Res.bind (Res.ok ([] : (List Int))) fun (l_found3 : (List Int)) => (Res.bind (Res.bind (guardR (small62 (l_sizes.length : Int)) (Res.ok (rangeL 0 ((l_sizes.length : Int)).toNat))) fun v35 => (foldR (fun (s4 : (List Int) × Int) (a5 : Int) => (Res.bind (Res.bind (if (decide (l_number1 ≥ ((10 : Int) ^ (18 : Int).toNat))) then (Res.ok (decide (s4.2 > (0 : Int)))) else (Res.ok false)) fun v34 => (if v34 then (Res.bind (Res.bind (Res.bind (idx l_sizes a5) fun v8 => (modR s4.2 v8)) fun v9 => (appR s4.1 v9)) fun l_found7 => (Res.bind (Res.bind (idx l_sizes a5) fun v11 => (divR s4.2 v11)) fun (l_left10 : Int) => (Res.ok (l_found7, l_left10)))) else (Res.bind (Res.bind (Res.bind (Res.bind (Res.bind (Res.bind (Res.bind (mulR (101 : Int) a5) fun v18 => (mulR v18 a5)) fun v19 => (Res.ok (l_number1 + v19))) fun v20 => (Res.ok (v20 + a5))) fun v21 => (modR v21 (2147483647 : Int))) fun v22 => (mulR v22 (48271 : Int))) fun v23 => (modR v23 (2147483647 : Int))) fun (l_one12 : Int) => (Res.bind (Res.bind (Res.bind (Res.bind (mulR l_one12 l_one12) fun v27 => (modR v27 (2147483629 : Int))) fun v28 => (mulR v28 (48271 : Int))) fun v29 => (modR v29 (2147483647 : Int))) fun (l_one24 : Int) => (Res.bind (Res.bind (Res.bind (divR l_one24 (16 : Int)) fun v31 => (Res.bind (idx l_sizes a5) fun v32 => (modR v31 v32))) fun v33 => (appR s4.1 v33)) fun l_found30 => (Res.ok (l_found30, s4.2))))))) fun s6 => (Res.ok (s6.1, s6.2)))) (l_found3, l_left2) v35)) fun s4 => (Res.ok s4.1)))))
abbrev s__law_numbers : Stmt := topS 17
abbrev N__law_numbers : List Str := ["_law_cell", "_law_sizes", "_law_number", "_law_left", "_law_found", "_law_k", "_law_one"]
theorem S__law_numbers : FnScope N__law_numbers ["_law_cell", "_law_sizes"] (defScope s__law_numbers) := ⟨rfl, rfl, rfl, by decide +kernel, rfl, by decide +kernel, by decide +kernel⟩
set_option maxHeartbeats 4000000 in
theorem cal__law_numbers {K : Frag} {base : Heap} (D : IsDef K Md.mg "_law_numbers" s__law_numbers) (b_max : Md.mg "max" = none) (b_len : Md.mg "len" = none) (b_range : Md.mg "range" = none) :
    Cal Pw.prog Pw.w K Md.mg base 1 "_law_numbers" (fun a : Int × (List Int) × Unit => a) (fun a : Int × (List Int) × Unit => m_l_numbers a.1 a.2.1) ow :=
  cal_mk (N := N__law_numbers) (ps := ["_law_cell", "_law_sizes"]) D S__law_numbers rfl (fun _ _ _ _ _ _ us hl => match us, hl with | [_, _], _ => rfl) fun a f cdv A' outer s H E hr => by
    obtain ⟨l_cell, l_sizes, _⟩ := a
    have S := S__law_numbers
    have tk := takes_of (X := cxOf (L2.CX Pw.prog Pw.w) Pw.prog Pw.w K Md.mg base N__law_numbers "_law_numbers" (defScope s__law_numbers) f cdv A' outer s H E) (E := E) rfl rfl rfl rfl
    refine' ST.slots (ss' := [G.fr l_cell, G.fr l_sizes, G.any, G.any, G.any, G.any, G.any]) (ST.cast ?h ?q) rfl
    (case h => exact (st_seq (s1_set 2 (xk_imm (xi_bf (call_max2 rfl) c_max b_max (by decide +kernel) (xa_cons (xi_fr 0) (xa_cons (x_bin op_sub b_sub (xi_neg xi_int) (xi_fr 0)) xa_nil)))) S.nd) fun (l_number1 : Int) => (st_seq (s1_set 3 (xk_fr 2) S.nd) fun (l_left2 : Int) => (st_seq (s1_set 4 (xk_lst (xhk_nil (α := Int))) S.nd) fun (l_found3 : (List Int)) => (st_seq (s1_for (S := (List Int) × Int) (fun (s4 : (List Int) × Int) => [G.fr l_cell, G.fr l_sizes, G.fr l_number1, G.fr s4.2, G.ow s4.1, G.any, G.any]) (l_found3, l_left2) (it_range1 (xa_cons (xi_bf call_len c_lenL b_len PySem.boot_len (xa_cons (xi_fr 1) xa_nil)) xa_nil) b_range) (tg_name 5 S.nd) (fun s4 a5 => (sn_seq (s1_if (post := (fun (s6 : (List Int) × Int) => [G.fr l_cell, G.fr l_sizes, G.fr l_number1, G.fr s6.2, G.ow s6.1, G.fr a5, G.any])) (xt_w (xw_and (t_cmp op_ge b_ge (nomark _) (xi_fr 2) (xi_pow (by unfold CPow; decide))) (xw_and1 (t_cmp op_gt b_gt (nomark _) (xi_fr 3) xi_int)))) (sn_seq (s1_append 4 (xk_imm (x_bin op_mod b_mod (xi_fr 3) (xi_ixL (xi_fr 1) (xi_fr 5))))) fun l_found7 => (sn_seq (s1_set 3 (xk_imm (x_bin op_fdivW b_div (xi_fr 3) (xi_ixL (xi_fr 1) (xi_fr 5)))) S.nd) fun (l_left10 : Int) => (sn_nil (s := (l_found7, l_left10)) (wk_eq (wk_eq (wk_eq (wk_eq (wk_eq (wk_eq (wk_eq wk_nil)))))))))) (sn_seq (s1_set 6 (xk_imm (x_bin op_mod b_mod (x_bin op_mul b_mul (x_bin op_mod b_mod (x_bin op_add b_add (x_bin op_add b_add (xi_fr 2) (x_bin op_mul b_mul (x_bin op_mul b_mul xi_int (xi_fr 5)) (xi_fr 5))) (xi_fr 5)) xi_int) xi_int) xi_int)) S.nd) fun (l_one12 : Int) => (sn_seq (s1_set 6 (xk_imm (x_bin op_mod b_mod (x_bin op_mul b_mul (x_bin op_mod b_mod (x_bin op_mul b_mul (xi_fr 6) (xi_fr 6)) xi_int) xi_int) xi_int)) S.nd) fun (l_one24 : Int) => (sn_seq (s1_append 4 (xk_imm (x_bin op_mod b_mod (x_bin op_fdivW b_div (xi_fr 6) xi_int) (xi_ixL (xi_fr 1) (xi_fr 5))))) fun l_found30 => (sn_nil (s := (l_found30, s4.2)) (wk_eq (wk_eq (wk_eq (wk_eq (wk_eq (wk_eq (wk_any wk_nil)))))))))))) fun s6 => (sn_nil (s := (s6.1, s6.2)) (wk_eq (wk_eq (wk_eq (wk_eq (wk_eq (wk_any (wk_eq wk_nil)))))))))) (wk_eq (wk_eq (wk_eq (wk_eq (wk_eq (wk_eq (wk_eq wk_nil)))))))) fun s4 => (st_retOw 4))))))
    (case q => first | (unfold m_l_numbers; simp only [Res.okb, Res.bind_assoc, memB]; done) | rfl)
def m_l_whole (l_found : Int) : Res Bool :=
  (if true then (Res.ok (!false)) else (Res.ok false))
abbrev s__law_whole : Stmt := topS 18
abbrev N__law_whole : List Str := ["_law_found"]
theorem S__law_whole : FnScope N__law_whole ["_law_found"] (defScope s__law_whole) := ⟨rfl, rfl, rfl, by decide +kernel, rfl, by decide +kernel, by decide +kernel⟩
set_option maxHeartbeats 4000000 in
theorem cal__law_whole {K : Frag} {base : Heap} (D : IsDef K Md.mg "_law_whole" s__law_whole) (b_isinstance : Md.mg "isinstance" = none) (b_int : Md.mg "int" = none) (b_bool : Md.mg "bool" = none) :
    Cal Pw.prog Pw.w K Md.mg base 1 "_law_whole" (fun a : Int × Unit => a) (fun a : Int × Unit => m_l_whole a.1) fr :=
  cal_mk (N := N__law_whole) (ps := ["_law_found"]) D S__law_whole rfl (fun _ _ _ _ _ _ us hl => match us, hl with | [_], _ => rfl) fun a f cdv A' outer s H E hr => by
    obtain ⟨l_found, _⟩ := a
    have S := S__law_whole
    have tk := takes_of (X := cxOf (L2.CX Pw.prog Pw.w) Pw.prog Pw.w K Md.mg base N__law_whole "_law_whole" (defScope s__law_whole) f cdv A' outer s H E) (E := E) rfl rfl rfl rfl
    refine' ST.slots (ss' := [G.fr l_found]) (ST.cast ?h ?q) rfl
    (case h => exact (st_ret (xk_imm (xi_and (xi_isi (α := Int) (TT := "int") (r := true) (xi_fr 0) (pe_ty b_int (by decide +kernel)) (by decide +kernel) b_isinstance) (xi_one (xi_not (xi_isi (α := Int) (TT := "bool") (r := false) (xi_fr 0) (pe_ty b_bool (by decide +kernel)) (by decide +kernel) b_isinstance)))))))
    (case q => first | (unfold m_l_whole; simp only [Res.okb, Res.bind_assoc, memB]; done) | rfl)
def m_l_row (l_found : (List Int)) (l_due : (List Int)) : Res Bool :=
  (Res.bind (if (!true) then (Res.ok true) else (Res.ok (!ScaEq.eq (l_found.length : Int) (l_due.length : Int)))) fun v11 => (if v11 then (Res.ok false) else (Res.tail (S := Unit) (R := Bool) (Res.bind (guardR (small62 (l_due.length : Int)) (Res.ok (rangeL 0 ((l_due.length : Int)).toNat))) fun v10 => (loopO (fun (s1 : Unit) (a2 : Int) => ((Res.next (S := Unit) (Res.bind (Res.bind (Res.bind (Res.bind (idx l_found a2) fun _ => (Res.ok true)) fun v3 => (Res.ok (!v3))) fun v7 => (if v7 then (Res.ok true) else (Res.bind (Res.bind (idx l_found a2) fun _ => (Res.ok false)) fun v6 => (if v6 then (Res.ok true) else (Res.bind (idx l_found a2) fun v4 => (Res.bind (idx l_due a2) fun v5 => (Res.ok (!ScaEq.eq v4 v5)))))))) fun v9 => (if v9 then (Res.ok (Out.rt false)) else (Res.ok (Out.nx ())))) fun s8 => (Res.ok (Out.nx ()))) : Res (Out (Unit) (Unit) Bool))) () v10)) fun s1 => (Res.ok true))))
abbrev s__law_row : Stmt := topS 19
abbrev N__law_row : List Str := ["_law_found", "_law_due", "_law_k"]
theorem S__law_row : FnScope N__law_row ["_law_found", "_law_due"] (defScope s__law_row) := ⟨rfl, rfl, rfl, by decide +kernel, rfl, by decide +kernel, by decide +kernel⟩
set_option maxHeartbeats 4000000 in
theorem cal__law_row {K : Frag} {base : Heap} (D : IsDef K Md.mg "_law_row" s__law_row) (b_isinstance : Md.mg "isinstance" = none) (b_list : Md.mg "list" = none) (b_len : Md.mg "len" = none) (b_range : Md.mg "range" = none) (b_int : Md.mg "int" = none) (b_bool : Md.mg "bool" = none) :
    Cal Pw.prog Pw.w K Md.mg base 1 "_law_row" (fun a : (List Int) × (List Int) × Unit => a) (fun a : (List Int) × (List Int) × Unit => m_l_row a.1 a.2.1) fr :=
  cal_mk (N := N__law_row) (ps := ["_law_found", "_law_due"]) D S__law_row rfl (fun _ _ _ _ _ _ us hl => match us, hl with | [_, _], _ => rfl) fun a f cdv A' outer s H E hr => by
    obtain ⟨l_found, l_due, _⟩ := a
    have S := S__law_row
    have tk := takes_of (X := cxOf (L2.CX Pw.prog Pw.w) Pw.prog Pw.w K Md.mg base N__law_row "_law_row" (defScope s__law_row) f cdv A' outer s H E) (E := E) rfl rfl rfl rfl
    refine' ST.slots (ss' := [G.fr l_found, G.fr l_due, G.any]) (ST.cast ?h ?q) rfl
    (case h => exact (st_guard (xt_w (xw_or (xt_not (xt_val (xi_isi (α := (List Int)) (TT := "list") (r := true) (xi_fr 0) (pe_ty b_list (by decide +kernel)) (by decide +kernel) b_isinstance))) (xw_or1 (t_cmp op_ne (b_neS (α := Int) (β := Int)) (nomark _) (xi_bf call_len c_lenL b_len PySem.boot_len (xa_cons (xi_fr 0) xa_nil)) (xi_bf call_len c_lenL b_len PySem.boot_len (xa_cons (xi_fr 1) xa_nil)))))) (st_ret (xk_imm xi_bl)) (st_b1 (S := Unit) (R := Bool) (pl := fun x => nomatch x) (b1_for (S := Unit) (R := Bool) (fun (s1 : Unit) => [G.fr l_found, G.fr l_due, G.any]) () (it_range1 (xa_cons (xi_bf call_len c_lenL b_len PySem.boot_len (xa_cons (xi_fr 1) xa_nil)) xa_nil) b_range) (tg_name 2 S.nd) (fun s1 a2 => (sb_b1 (S := Unit) (b1_if (post := (fun (s8 : Unit) => [G.fr l_found, G.fr l_due, G.fr a2])) (xt_w (xw_or (xt_not (xt_val (xi_isi (α := Int) (TT := "int") (r := true) (xi_ixL (xi_fr 0) (xi_fr 2)) (pe_ty b_int (by decide +kernel)) (by decide +kernel) b_isinstance))) (xw_or (xt_val (xi_isi (α := Int) (TT := "bool") (r := false) (xi_ixL (xi_fr 0) (xi_fr 2)) (pe_ty b_bool (by decide +kernel)) (by decide +kernel) b_isinstance)) (xw_or1 (t_cmp op_ne (b_neS (α := Int) (β := Int)) (nomark _) (xi_ixL (xi_fr 0) (xi_fr 2)) (xi_ixL (xi_fr 1) (xi_fr 2))))))) (sb_ret (xk_imm xi_bl)) (sb_nil (s := ()) (wk_eq (wk_eq (wk_eq wk_nil))))) fun s8 => (sb_nil (s := ()) (wk_eq (wk_eq (wk_any wk_nil)))))) (wk_eq (wk_eq (wk_eq wk_nil)))) fun s1 => (st_ret (xk_imm xi_bl)))))
    (case q => first | (unfold m_l_row; simp only [Res.okb, Res.bind_assoc, memB]; done) | rfl)
def m_l_product (l_one : (List Int)) (l_other : (List Int)) : Res (List Int) :=
  (Res.bind (repR ((0 : Int) :: []) (((l_one.length : Int) + (l_other.length : Int)) - (1 : Int))) fun (l_found1 : (List Int)) => (Res.bind (Res.bind (guardR (small62 (l_one.length : Int)) (Res.ok (rangeL 0 ((l_one.length : Int)).toNat))) fun v13 => (foldR (fun (s2 : (List Int)) (a3 : Int) => (Res.bind (Res.bind (guardR (small62 (l_other.length : Int)) (Res.ok (rangeL 0 ((l_other.length : Int)).toNat))) fun v12 => (foldR (fun (s4 : (List Int)) (a5 : Int) => (Res.bind (Res.bind (Res.bind (idx s4 (a3 + a5)) fun v8 => (Res.bind (Res.bind (idx l_one a3) fun v6 => (Res.bind (idx l_other a5) fun v7 => (mulR v6 v7))) fun v9 => (Res.ok (v8 + v9)))) fun v11 => (setR s4 (a3 + a5) v11)) fun (l_found10 : (List Int)) => (Res.ok l_found10))) s2 v12)) fun s4 => (Res.ok s4))) l_found1 v13)) fun s2 => (Res.ok s2)))
abbrev s__law_product : Stmt := topS 20
abbrev N__law_product : List Str := ["_law_one", "_law_other", "_law_found", "_law_k", "_law_at"]
theorem S__law_product : FnScope N__law_product ["_law_one", "_law_other"] (defScope s__law_product) := ⟨rfl, rfl, rfl, by decide +kernel, rfl, by decide +kernel, by decide +kernel⟩
set_option maxHeartbeats 4000000 in
theorem cal__law_product {K : Frag} {base : Heap} (D : IsDef K Md.mg "_law_product" s__law_product) (b_len : Md.mg "len" = none) (b_range : Md.mg "range" = none) :
    Cal Pw.prog Pw.w K Md.mg base 1 "_law_product" (fun a : (List Int) × (List Int) × Unit => a) (fun a : (List Int) × (List Int) × Unit => m_l_product a.1 a.2.1) ow :=
  cal_mk (N := N__law_product) (ps := ["_law_one", "_law_other"]) D S__law_product rfl (fun _ _ _ _ _ _ us hl => match us, hl with | [_, _], _ => rfl) fun a f cdv A' outer s H E hr => by
    obtain ⟨l_one, l_other, _⟩ := a
    have S := S__law_product
    have tk := takes_of (X := cxOf (L2.CX Pw.prog Pw.w) Pw.prog Pw.w K Md.mg base N__law_product "_law_product" (defScope s__law_product) f cdv A' outer s H E) (E := E) rfl rfl rfl rfl
    refine' ST.slots (ss' := [G.fr l_one, G.fr l_other, G.any, G.any, G.any]) (ST.cast ?h ?q) rfl
    (case h => exact (st_seq (s1_set 2 (xk_rep (xi_of (xk_lst (xak_imm (xh_cons xi_int (xh_nil))))) (x_bin op_sub b_sub (x_bin op_add b_add (xi_bf call_len c_lenL b_len PySem.boot_len (xa_cons (xi_fr 0) xa_nil)) (xi_bf call_len c_lenL b_len PySem.boot_len (xa_cons (xi_fr 1) xa_nil))) xi_int)) S.nd) fun (l_found1 : (List Int)) => (st_seq (s1_for (S := (List Int)) (fun (s2 : (List Int)) => [G.fr l_one, G.fr l_other, G.ow s2, G.any, G.any]) l_found1 (it_range1 (xa_cons (xi_bf call_len c_lenL b_len PySem.boot_len (xa_cons (xi_fr 0) xa_nil)) xa_nil) b_range) (tg_name 3 S.nd) (fun s2 a3 => (sn_seq (s1_for (S := (List Int)) (fun (s4 : (List Int)) => [G.fr l_one, G.fr l_other, G.ow s4, G.fr a3, G.any]) s2 (it_range1 (xa_cons (xi_bf call_len c_lenL b_len PySem.boot_len (xa_cons (xi_fr 1) xa_nil)) xa_nil) b_range) (tg_name 4 S.nd) (fun s4 a5 => (sn_seq (s1_setI 2 (xk_imm (x_bin op_add b_add (xi_ixL (xi_ow 2) (x_bin op_add b_add (xi_fr 3) (xi_fr 4))) (x_bin op_mul b_mul (xi_ixL (xi_fr 0) (xi_fr 3)) (xi_ixL (xi_fr 1) (xi_fr 4))))) (x_bin op_add b_add (xi_fr 3) (xi_fr 4)) (hg := pg_sub (pv 2) (x_bin op_add b_add (xi_fr 3) (xi_fr 4)) set_list)) fun (l_found10 : (List Int)) => (sn_nil (s := l_found10) (wk_eq (wk_eq (wk_eq (wk_eq (wk_any wk_nil)))))))) (wk_eq (wk_eq (wk_eq (wk_eq (wk_eq wk_nil)))))) fun s4 => (sn_nil (s := s4) (wk_eq (wk_eq (wk_eq (wk_any (wk_eq wk_nil)))))))) (wk_eq (wk_eq (wk_eq (wk_eq (wk_eq wk_nil)))))) fun s2 => (st_retOw 2))))
    (case q => first | (unfold m_l_product; simp only [Res.okb, Res.bind_assoc, memB]; done) | rfl)
def m_l_sum (l_one : (List Int)) (l_other : (List Int)) : Res (List Int) :=
  (Res.bind (repR ((0 : Int) :: []) (max (l_one.length : Int) (l_other.length : Int))) fun (l_found1 : (List Int)) => (Res.bind (foldR (fun (s2 : (List Int)) (a3 : (List Int)) => (Res.bind (Res.bind (guardR (small62 (a3.length : Int)) (Res.ok (rangeL 0 ((a3.length : Int)).toNat))) fun v10 => (foldR (fun (s4 : (List Int)) (a5 : Int) => (Res.bind (Res.bind (Res.bind (idx s4 a5) fun v6 => (Res.bind (idx a3 a5) fun v7 => (Res.ok (v6 + v7)))) fun v9 => (setR s4 a5 v9)) fun (l_found8 : (List Int)) => (Res.ok l_found8))) s2 v10)) fun s4 => (Res.ok s4))) l_found1 (l_one :: (l_other :: []))) fun s2 => (Res.ok s2)))
abbrev s__law_sum : Stmt := topS 21
abbrev N__law_sum : List Str := ["_law_one", "_law_other", "_law_found", "_law_row_here", "_law_k"]
theorem S__law_sum : FnScope N__law_sum ["_law_one", "_law_other"] (defScope s__law_sum) := ⟨rfl, rfl, rfl, by decide +kernel, rfl, by decide +kernel, by decide +kernel⟩
set_option maxHeartbeats 4000000 in
theorem cal__law_sum {K : Frag} {base : Heap} (D : IsDef K Md.mg "_law_sum" s__law_sum) (b_len : Md.mg "len" = none) (b_max : Md.mg "max" = none) (b_range : Md.mg "range" = none) :
    Cal Pw.prog Pw.w K Md.mg base 1 "_law_sum" (fun a : (List Int) × (List Int) × Unit => a) (fun a : (List Int) × (List Int) × Unit => m_l_sum a.1 a.2.1) ow :=
  cal_mk (N := N__law_sum) (ps := ["_law_one", "_law_other"]) D S__law_sum rfl (fun _ _ _ _ _ _ us hl => match us, hl with | [_, _], _ => rfl) fun a f cdv A' outer s H E hr => by
    obtain ⟨l_one, l_other, _⟩ := a
    have S := S__law_sum
    have tk := takes_of (X := cxOf (L2.CX Pw.prog Pw.w) Pw.prog Pw.w K Md.mg base N__law_sum "_law_sum" (defScope s__law_sum) f cdv A' outer s H E) (E := E) rfl rfl rfl rfl
    refine' ST.slots (ss' := [G.fr l_one, G.fr l_other, G.any, G.any, G.any]) (ST.cast ?h ?q) rfl
    (case h => exact (st_seq (s1_set 2 (xk_rep (xi_of (xk_lst (xak_imm (xh_cons xi_int (xh_nil))))) (xi_bf (call_max2 rfl) c_max b_max (by decide +kernel) (xa_cons (xi_bf call_len c_lenL b_len PySem.boot_len (xa_cons (xi_fr 0) xa_nil)) (xa_cons (xi_bf call_len c_lenL b_len PySem.boot_len (xa_cons (xi_fr 1) xa_nil)) xa_nil)))) S.nd) fun (l_found1 : (List Int)) => (st_seq (s1_for (S := (List Int)) (fun (s2 : (List Int)) => [G.fr l_one, G.fr l_other, G.ow s2, G.any, G.any]) l_found1 (it_list (xk_free (xk_lst (xhk_cons (xk_fr 0) (xhk_cons (xk_fr 1) (xhk_nil)))))) (tg_name 3 S.nd) (fun s2 a3 => (sn_seq (s1_for (S := (List Int)) (fun (s4 : (List Int)) => [G.fr l_one, G.fr l_other, G.ow s4, G.fr a3, G.any]) s2 (it_range1 (xa_cons (xi_bf call_len c_lenL b_len PySem.boot_len (xa_cons (xi_fr 3) xa_nil)) xa_nil) b_range) (tg_name 4 S.nd) (fun s4 a5 => (sn_seq (s1_setI 2 (xk_imm (x_bin op_add b_add (xi_ixL (xi_ow 2) (xi_fr 4)) (xi_ixL (xi_fr 3) (xi_fr 4)))) (xi_fr 4) (hg := pg_sub (pv 2) (xi_fr 4) set_list)) fun (l_found8 : (List Int)) => (sn_nil (s := l_found8) (wk_eq (wk_eq (wk_eq (wk_eq (wk_any wk_nil)))))))) (wk_eq (wk_eq (wk_eq (wk_eq (wk_eq wk_nil)))))) fun s4 => (sn_nil (s := s4) (wk_eq (wk_eq (wk_eq (wk_any (wk_eq wk_nil)))))))) (wk_eq (wk_eq (wk_eq (wk_eq (wk_eq wk_nil)))))) fun s2 => (st_retOw 2))))
    (case q => first | (unfold m_l_sum; simp only [Res.okb, Res.bind_assoc, memB]; done) | rfl)
def m_l_next (l_state : (G.T4 PySem.Str PySem.Str Bool Bool)) (l_over : PySem.Str) (l_under : PySem.Str) : Res (Option (G.T4 PySem.Str PySem.Str Bool Bool)) :=
  (Res.bind (Res.ok l_state) fun (p1 : (G.T4 PySem.Str PySem.Str Bool Bool)) => (Res.bind (Res.bind (if p1.c then (Res.ok true) else (Res.ok (ScaEq.eq l_over (PySem.Str.ofString ".")))) fun v4 => (Res.bind (Res.bind (if p1.d then (Res.ok true) else (Res.ok (ScaEq.eq l_under (PySem.Str.ofString ".")))) fun v3 => (Res.ok (v3 :: []))) fun v5 => (Res.ok (v4 :: v5)))) fun (l_lives2 : (List Bool)) => (Res.bind (Res.ok ((ScaEq.eq l_over p1.a) :: ((ScaEq.eq l_under p1.b) :: []))) fun (l_on6 : (List Bool)) => (Res.bind (if (ScaEq.eq p1.a p1.b) then (Res.bind (Res.bind (Res.bind (idx l_lives2 (0 : Int)) fun v9 => (if v9 then (Res.ok true) else (idx l_lives2 (1 : Int)))) fun v12 => (Res.bind (Res.bind (Res.bind (idx l_lives2 (0 : Int)) fun v10 => (if v10 then (Res.ok true) else (idx l_lives2 (1 : Int)))) fun v11 => (Res.ok (v11 :: []))) fun v13 => (Res.ok (v12 :: v13)))) fun (l_lives8 : (List Bool)) => (Res.bind (Res.bind (Res.bind (idx l_on6 (0 : Int)) fun v15 => (if v15 then (Res.ok true) else (idx l_on6 (1 : Int)))) fun v18 => (Res.bind (Res.bind (Res.bind (idx l_on6 (0 : Int)) fun v16 => (if v16 then (Res.ok true) else (idx l_on6 (1 : Int)))) fun v17 => (Res.ok (v17 :: []))) fun v19 => (Res.ok (v18 :: v19)))) fun (l_on14 : (List Bool)) => (Res.ok (l_lives8, l_on14)))) else (Res.ok (l_lives2, l_on6))) fun s7 => (Res.tail (S := Unit) (R := (Option (G.T4 PySem.Str PySem.Str Bool Bool))) (Res.bind (guardR (small62 (2 : Int)) (Res.ok (rangeL 0 ((2 : Int)).toNat))) fun v29 => (loopO (fun (s20 : Unit) (a21 : Int) => ((Res.next (S := Unit) (Res.bind (Res.bind (Res.bind (idx (p1.a :: (p1.b :: [])) a21) fun v22 => (Res.ok (!ScaEq.eq v22 (PySem.Str.ofString ".")))) fun v26 => (if v26 then (Res.bind (Res.bind (idx s7.1 a21) fun v23 => (Res.ok (!v23))) fun v25 => (if v25 then (Res.bind (idx s7.2 a21) fun v24 => (Res.ok (!v24))) else (Res.ok false))) else (Res.ok false))) fun v28 => (if v28 then (Res.ok (Out.rt (none : (Option (G.T4 PySem.Str PySem.Str Bool Bool))))) else (Res.ok (Out.nx ())))) fun s27 => (Res.ok (Out.nx ()))) : Res (Out (Unit) (Unit) (Option (G.T4 PySem.Str PySem.Str Bool Bool))))) () v29)) fun s20 => (Res.bind (if (ScaEq.eq l_over (PySem.Str.ofString ".")) then (Res.ok true) else (Res.ok (ScaEq.eq l_under (PySem.Str.ofString ".")))) fun (l_near30 : Bool) => (Res.bind (Res.bind (if l_near30 then (Res.ok true) else (Res.ok (ScaEq.eq p1.a (PySem.Str.ofString ".")))) fun v33 => (Res.bind (Res.bind (if l_near30 then (Res.ok true) else (Res.ok (ScaEq.eq p1.b (PySem.Str.ofString ".")))) fun v32 => (Res.ok (v32 :: []))) fun v34 => (Res.ok (v33 :: v34)))) fun (l_later31 : (List Bool)) => (Res.bind (if (ScaEq.eq l_over p1.a) then (Res.bind (Res.bind (Res.bind (idx l_later31 (0 : Int)) fun v36 => (if v36 then (Res.ok true) else (idx s7.1 (0 : Int)))) fun v38 => (setR l_later31 (0 : Int) v38)) fun (l_later37 : (List Bool)) => (Res.ok l_later37)) else (Res.ok l_later31)) fun s35 => (Res.bind (if (ScaEq.eq l_under p1.b) then (Res.bind (Res.bind (Res.bind (idx s35 (1 : Int)) fun v40 => (if v40 then (Res.ok true) else (idx s7.1 (1 : Int)))) fun v42 => (setR s35 (1 : Int) v42)) fun (l_later41 : (List Bool)) => (Res.ok l_later41)) else (Res.ok s35)) fun s39 => (Res.bind (if (ScaEq.eq l_over l_under) then (Res.bind (Res.bind (Res.bind (idx s39 (0 : Int)) fun v45 => (if v45 then (Res.ok true) else (idx s39 (1 : Int)))) fun v48 => (Res.bind (Res.bind (Res.bind (idx s39 (0 : Int)) fun v46 => (if v46 then (Res.ok true) else (idx s39 (1 : Int)))) fun v47 => (Res.ok (v47 :: []))) fun v49 => (Res.ok (v48 :: v49)))) fun (l_later44 : (List Bool)) => (Res.ok l_later44)) else (Res.ok s39)) fun s43 => (Res.bind (Res.bind (Res.bind (Res.bind (Res.bind (idx s43 (0 : Int)) fun v51 => (Res.bind (Res.bind (idx s43 (1 : Int)) fun v50 => (Res.ok (v50, ()))) fun v52 => (Res.ok (v51, v52)))) fun v53 => (Res.ok (l_under, v53))) fun v54 => (Res.ok (l_over, v54))) fun v55 => (Res.ok (⟨v55.1, v55.2.1, v55.2.2.1, v55.2.2.2.1⟩ : (G.T4 PySem.Str PySem.Str Bool Bool)))) fun v56 => (Res.ok (some v56)))))))))))))
abbrev s__law_next : Stmt := topS 22
abbrev N__law_next : List Str := ["_law_state", "_law_over", "_law_under", "_law_above", "_law_below", "_law_one", "_law_other", "_law_lives", "_law_on", "_law_k", "_law_near", "_law_later"]
theorem S__law_next : FnScope N__law_next ["_law_state", "_law_over", "_law_under"] (defScope s__law_next) := ⟨rfl, rfl, rfl, by decide +kernel, rfl, by decide +kernel, by decide +kernel⟩
set_option maxHeartbeats 4000000 in
theorem cal__law_next {K : Frag} {base : Heap} (D : IsDef K Md.mg "_law_next" s__law_next) (b_range : Md.mg "range" = none) :
    Cal Pw.prog Pw.w K Md.mg base 1 "_law_next" (fun a : (G.T4 PySem.Str PySem.Str Bool Bool) × PySem.Str × PySem.Str × Unit => a) (fun a : (G.T4 PySem.Str PySem.Str Bool Bool) × PySem.Str × PySem.Str × Unit => m_l_next a.1 a.2.1 a.2.2.1) fr :=
  cal_mk (N := N__law_next) (ps := ["_law_state", "_law_over", "_law_under"]) D S__law_next rfl (fun _ _ _ _ _ _ us hl => match us, hl with | [_, _, _], _ => rfl) fun a f cdv A' outer s H E hr => by
    obtain ⟨l_state, l_over, l_under, _⟩ := a
    have S := S__law_next
    have tk := takes_of (X := cxOf (L2.CX Pw.prog Pw.w) Pw.prog Pw.w K Md.mg base N__law_next "_law_next" (defScope s__law_next) f cdv A' outer s H E) (E := E) rfl rfl rfl rfl
    refine' ST.slots (ss' := [G.fr l_state, G.fr l_over, G.fr l_under, G.any, G.any, G.any, G.any, G.any, G.any, G.any, G.any, G.any]) (ST.cast ?h ?q) rfl
    (case h => exact (st_seq (s1_asg (xk_fr 0) (tg_four (tg_name 3 S.nd) (tg_name 4 S.nd) (tg_name 5 S.nd) (tg_name 6 S.nd))) fun (p1 : (G.T4 PySem.Str PySem.Str Bool Bool)) => (st_seq (s1_set 7 (xk_free (xk_lst (xak_imm (xh_cons (xi_or (xi_fr 5) (xi_one (x_cmp op_eq (b_eqS (α := PySem.Str) (β := PySem.Str)) (nomark _) (xi_fr 1) xi_str))) (xh_cons (xi_or (xi_fr 6) (xi_one (x_cmp op_eq (b_eqS (α := PySem.Str) (β := PySem.Str)) (nomark _) (xi_fr 2) xi_str))) (xh_nil)))))) S.nd) fun (l_lives2 : (List Bool)) => (st_seq (s1_set 8 (xk_free (xk_lst (xak_imm (xh_cons (x_cmp op_eq (b_eqS (α := PySem.Str) (β := PySem.Str)) (nomark _) (xi_fr 1) (xi_fr 3)) (xh_cons (x_cmp op_eq (b_eqS (α := PySem.Str) (β := PySem.Str)) (nomark _) (xi_fr 2) (xi_fr 4)) (xh_nil)))))) S.nd) fun (l_on6 : (List Bool)) => (st_seq (s1_if (post := (fun (s7 : (List Bool) × (List Bool)) => [G.fr l_state, G.fr l_over, G.fr l_under, G.fr p1.a, G.fr p1.b, G.fr p1.c, G.fr p1.d, G.fr s7.1, G.fr s7.2, G.any, G.any, G.any])) (t_cmp op_eq (b_eqS (α := PySem.Str) (β := PySem.Str)) (nomark _) (xi_fr 3) (xi_fr 4)) (sn_seq (s1_set 7 (xk_free (xk_lst (xak_imm (xh_cons (xi_or (xi_ixL (xi_fr 7) xi_int) (xi_one (xi_ixL (xi_fr 7) xi_int))) (xh_cons (xi_or (xi_ixL (xi_fr 7) xi_int) (xi_one (xi_ixL (xi_fr 7) xi_int))) (xh_nil)))))) S.nd) fun (l_lives8 : (List Bool)) => (sn_seq (s1_set 8 (xk_free (xk_lst (xak_imm (xh_cons (xi_or (xi_ixL (xi_fr 8) xi_int) (xi_one (xi_ixL (xi_fr 8) xi_int))) (xh_cons (xi_or (xi_ixL (xi_fr 8) xi_int) (xi_one (xi_ixL (xi_fr 8) xi_int))) (xh_nil)))))) S.nd) fun (l_on14 : (List Bool)) => (sn_nil (s := (l_lives8, l_on14)) (wk_eq (wk_eq (wk_eq (wk_eq (wk_eq (wk_eq (wk_eq (wk_eq (wk_eq (wk_eq (wk_eq (wk_eq wk_nil))))))))))))))) (sn_nil (s := (l_lives2, l_on6)) (wk_eq (wk_eq (wk_eq (wk_eq (wk_eq (wk_eq (wk_eq (wk_eq (wk_eq (wk_eq (wk_eq (wk_eq wk_nil)))))))))))))) fun s7 => (st_b1 (S := Unit) (R := (Option (G.T4 PySem.Str PySem.Str Bool Bool))) (pl := fun x => nomatch x) (b1_for (S := Unit) (R := (Option (G.T4 PySem.Str PySem.Str Bool Bool))) (fun (s20 : Unit) => [G.fr l_state, G.fr l_over, G.fr l_under, G.fr p1.a, G.fr p1.b, G.fr p1.c, G.fr p1.d, G.fr s7.1, G.fr s7.2, G.any, G.any, G.any]) () (it_range1 (xa_cons xi_int xa_nil) b_range) (tg_name 9 S.nd) (fun s20 a21 => (sb_b1 (S := Unit) (b1_if (post := (fun (s27 : Unit) => [G.fr l_state, G.fr l_over, G.fr l_under, G.fr p1.a, G.fr p1.b, G.fr p1.c, G.fr p1.d, G.fr s7.1, G.fr s7.2, G.fr a21, G.any, G.any])) (xt_w (xw_and (t_cmp op_ne (b_neS (α := PySem.Str) (β := PySem.Str)) (nomark _) (xi_ixL (xi_of (xk_lst (xak_imm (xh_cons (xi_fr 3) (xh_cons (xi_fr 4) (xh_nil)))))) (xi_fr 9)) xi_str) (xw_and (xt_not (xt_val (xi_ixL (xi_fr 7) (xi_fr 9)))) (xw_and1 (xt_not (xt_val (xi_ixL (xi_fr 8) (xi_fr 9)))))))) (sb_ret (xk_imm xi_none)) (sb_nil (s := ()) (wk_eq (wk_eq (wk_eq (wk_eq (wk_eq (wk_eq (wk_eq (wk_eq (wk_eq (wk_eq (wk_eq (wk_eq wk_nil)))))))))))))) fun s27 => (sb_nil (s := ()) (wk_eq (wk_eq (wk_eq (wk_eq (wk_eq (wk_eq (wk_eq (wk_eq (wk_eq (wk_any (wk_eq (wk_eq wk_nil))))))))))))))) (wk_eq (wk_eq (wk_eq (wk_eq (wk_eq (wk_eq (wk_eq (wk_eq (wk_eq (wk_eq (wk_eq (wk_eq wk_nil))))))))))))) fun s20 => (st_seq (s1_set 10 (xk_imm (xi_or (x_cmp op_eq (b_eqS (α := PySem.Str) (β := PySem.Str)) (nomark _) (xi_fr 1) xi_str) (xi_one (x_cmp op_eq (b_eqS (α := PySem.Str) (β := PySem.Str)) (nomark _) (xi_fr 2) xi_str)))) S.nd) fun (l_near30 : Bool) => (st_seq (s1_set 11 (xk_lst (xak_imm (xh_cons (xi_or (xi_fr 10) (xi_one (x_cmp op_eq (b_eqS (α := PySem.Str) (β := PySem.Str)) (nomark _) (xi_fr 3) xi_str))) (xh_cons (xi_or (xi_fr 10) (xi_one (x_cmp op_eq (b_eqS (α := PySem.Str) (β := PySem.Str)) (nomark _) (xi_fr 4) xi_str))) (xh_nil))))) S.nd) fun (l_later31 : (List Bool)) => (st_seq (s1_if (post := (fun (s35 : (List Bool)) => [G.fr l_state, G.fr l_over, G.fr l_under, G.fr p1.a, G.fr p1.b, G.fr p1.c, G.fr p1.d, G.fr s7.1, G.fr s7.2, G.any, G.fr l_near30, G.ow s35])) (t_cmp op_eq (b_eqS (α := PySem.Str) (β := PySem.Str)) (nomark _) (xi_fr 1) (xi_fr 3)) (sn_seq (s1_setI 11 (xk_imm (xi_or (xi_ixL (xi_ow 11) xi_int) (xi_one (xi_ixL (xi_fr 7) xi_int)))) xi_int (hg := pg_sub (pv 11) xi_int set_list)) fun (l_later37 : (List Bool)) => (sn_nil (s := l_later37) (wk_eq (wk_eq (wk_eq (wk_eq (wk_eq (wk_eq (wk_eq (wk_eq (wk_eq (wk_eq (wk_eq (wk_eq wk_nil)))))))))))))) (sn_nil (s := l_later31) (wk_eq (wk_eq (wk_eq (wk_eq (wk_eq (wk_eq (wk_eq (wk_eq (wk_eq (wk_eq (wk_eq (wk_eq wk_nil)))))))))))))) fun s35 => (st_seq (s1_if (post := (fun (s39 : (List Bool)) => [G.fr l_state, G.fr l_over, G.fr l_under, G.fr p1.a, G.fr p1.b, G.fr p1.c, G.fr p1.d, G.fr s7.1, G.fr s7.2, G.any, G.fr l_near30, G.ow s39])) (t_cmp op_eq (b_eqS (α := PySem.Str) (β := PySem.Str)) (nomark _) (xi_fr 2) (xi_fr 4)) (sn_seq (s1_setI 11 (xk_imm (xi_or (xi_ixL (xi_ow 11) xi_int) (xi_one (xi_ixL (xi_fr 7) xi_int)))) xi_int (hg := pg_sub (pv 11) xi_int set_list)) fun (l_later41 : (List Bool)) => (sn_nil (s := l_later41) (wk_eq (wk_eq (wk_eq (wk_eq (wk_eq (wk_eq (wk_eq (wk_eq (wk_eq (wk_eq (wk_eq (wk_eq wk_nil)))))))))))))) (sn_nil (s := s35) (wk_eq (wk_eq (wk_eq (wk_eq (wk_eq (wk_eq (wk_eq (wk_eq (wk_eq (wk_eq (wk_eq (wk_eq wk_nil)))))))))))))) fun s39 => (st_seq (s1_if (post := (fun (s43 : (List Bool)) => [G.fr l_state, G.fr l_over, G.fr l_under, G.fr p1.a, G.fr p1.b, G.fr p1.c, G.fr p1.d, G.fr s7.1, G.fr s7.2, G.any, G.fr l_near30, G.ow s43])) (t_cmp op_eq (b_eqS (α := PySem.Str) (β := PySem.Str)) (nomark _) (xi_fr 1) (xi_fr 2)) (sn_seq (s1_set 11 (xk_lst (xak_imm (xh_cons (xi_or (xi_ixL (xi_ow 11) xi_int) (xi_one (xi_ixL (xi_ow 11) xi_int))) (xh_cons (xi_or (xi_ixL (xi_ow 11) xi_int) (xi_one (xi_ixL (xi_ow 11) xi_int))) (xh_nil))))) S.nd) fun (l_later44 : (List Bool)) => (sn_nil (s := l_later44) (wk_eq (wk_eq (wk_eq (wk_eq (wk_eq (wk_eq (wk_eq (wk_eq (wk_eq (wk_eq (wk_eq (wk_eq wk_nil)))))))))))))) (sn_nil (s := s39) (wk_eq (wk_eq (wk_eq (wk_eq (wk_eq (wk_eq (wk_eq (wk_eq (wk_eq (wk_eq (wk_eq (wk_eq wk_nil)))))))))))))) fun s43 => (st_ret (xk_imm (xi_some (xi_t4d (xa_cons (xi_fr 1) (xa_cons (xi_fr 2) (xa_cons (xi_ixL (xi_ow 11) xi_int) (xa_cons (xi_ixL (xi_ow 11) xi_int) xa_nil)))))))))))))))))))
    (case q => first | (unfold m_l_next; simp only [Res.okb, Res.bind_assoc, memB]; done) | rfl)
def m_l_columns (l_many : Int) : Res (List Int) :=
  (Res.bind (Res.bind (guardR (small62 (9 : Int)) (Res.ok (rangeL 0 ((9 : Int)).toNat))) fun v9 => (lcT (fun _ => Res.ok true) (fun a2 => (Res.bind (Res.bind (Res.bind (divR a2 (3 : Int)) fun v3 => (strIx (PySem.Str.ofString ".xo") v3)) fun v6 => (Res.bind (Res.bind (Res.bind (modR a2 (3 : Int)) fun v4 => (strIx (PySem.Str.ofString ".xo") v4)) fun v5 => (Res.ok (v5, ()))) fun v7 => (Res.ok (v6, v7)))) fun v8 => (Res.ok (v8.1, v8.2.1)))) v9)) fun (l_pairs1 : (List (PySem.Str × PySem.Str))) => (Res.bind (Res.ok (⟨[]⟩ : (G.Dic (G.T4 PySem.Str PySem.Str Bool Bool) (List Int)))) fun (l_counts10 : (G.Dic (G.T4 PySem.Str PySem.Str Bool Bool) (List Int))) => (Res.bind (foldR (fun (s11 : (G.Dic (G.T4 PySem.Str PySem.Str Bool Bool) (List Int))) (a12 : (PySem.Str × PySem.Str)) => (Res.bind (if (ScaEq.eq a12.1 (PySem.Str.ofString ".")) then (Res.ok true) else (Res.ok (ScaEq.eq a12.2 (PySem.Str.ofString ".")))) fun (l_lives13 : Bool) => (Res.bind (Res.bind (Res.bind (repR ((0 : Int) :: []) ((if (!ScaEq.eq a12.1 (PySem.Str.ofString ".")) then (1 : Int) else 0) + (if (!ScaEq.eq a12.2 (PySem.Str.ofString ".")) then (1 : Int) else 0))) fun v14 => (catR v14 ((1 : Int) :: []))) fun v16 => (dputR s11 (⟨a12.1, a12.2, l_lives13, l_lives13⟩ : (G.T4 PySem.Str PySem.Str Bool Bool)) v16)) fun (l_counts15 : (G.Dic (G.T4 PySem.Str PySem.Str Bool Bool) (List Int))) => (Res.ok l_counts15)))) l_counts10 l_pairs1) fun s11 => (Res.bind (Res.bind (guardR (small62 (l_many - (1 : Int))) (Res.ok (rangeL 0 ((l_many - (1 : Int))).toNat))) fun v35 => (foldR (fun (s17 : (G.Dic (G.T4 PySem.Str PySem.Str Bool Bool) (List Int))) (a18 : Int) => (Res.bind (Res.ok (⟨[]⟩ : (G.Dic (G.T4 PySem.Str PySem.Str Bool Bool) (List Int)))) fun (l_behind19 : (G.Dic (G.T4 PySem.Str PySem.Str Bool Bool) (List Int))) => (Res.bind (foldR (fun (s20 : (G.Dic (G.T4 PySem.Str PySem.Str Bool Bool) (List Int))) (a21 : ((G.T4 PySem.Str PySem.Str Bool Bool) × (List Int))) => (Res.bind (foldR (fun (s22 : (G.Dic (G.T4 PySem.Str PySem.Str Bool Bool) (List Int))) (a23 : (PySem.Str × PySem.Str)) => (Res.bind (m_l_next a21.1 a23.1 a23.2) fun (l_there24 : (Option (G.T4 PySem.Str PySem.Str Bool Bool))) => (Res.bind (if (Option.isSome l_there24) then (Res.bind (Res.bind (repR ((0 : Int) :: []) ((if (!ScaEq.eq a23.1 (PySem.Str.ofString ".")) then (1 : Int) else 0) + (if (!ScaEq.eq a23.2 (PySem.Str.ofString ".")) then (1 : Int) else 0))) fun v27 => (catR v27 a21.2)) fun (l_longer26 : (List Int)) => (Res.bind (Res.bind (Res.bind (Res.bind (Res.bind (unw l_there24) fun v28 => (Res.ok ((dget s22 v28).getD ((0 : Int) :: [])))) fun v29 => (Res.ok (v29, (l_longer26, ())))) fun a30 => (m_l_sum a30.1 a30.2.1)) fun v32 => (Res.bind (unw l_there24) fun v33 => (dputR s22 v33 v32))) fun (l_behind31 : (G.Dic (G.T4 PySem.Str PySem.Str Bool Bool) (List Int))) => (Res.ok l_behind31))) else (Res.ok s22)) fun s25 => (Res.ok s25)))) s20 l_pairs1) fun s22 => (Res.ok s22))) l_behind19 (⟨s17⟩ : (G.LDic (G.T4 PySem.Str PySem.Str Bool Bool) (List Int))).d.l) fun s20 => (Res.bind (Res.ok s20) fun (l_counts34 : (G.Dic (G.T4 PySem.Str PySem.Str Bool Bool) (List Int))) => (Res.ok l_counts34))))) s11 v35)) fun s17 => (Res.bind (Res.bind (Res.bind (mulR (2 : Int) l_many) fun v37 => (Res.ok (v37 + (1 : Int)))) fun v38 => (repR ((0 : Int) :: []) v38)) fun (l_found36 : (List Int)) => (Res.bind (foldR (fun (s39 : (List Int)) (a40 : ((G.T4 PySem.Str PySem.Str Bool Bool) × (List Int))) => (Res.bind (Res.bind (Res.bind (if (ScaEq.eq (a40.1.a) (PySem.Str.ofString ".")) then (Res.ok true) else (Res.ok (a40.1.c))) fun v41 => (if v41 then (if (ScaEq.eq (a40.1.b) (PySem.Str.ofString ".")) then (Res.ok true) else (Res.ok (a40.1.d))) else (Res.ok false))) fun v44 => (if v44 then (Res.bind (m_l_sum s39 a40.2) fun (l_found43 : (List Int)) => (Res.ok l_found43)) else (Res.ok s39))) fun s42 => (Res.ok s42))) l_found36 (⟨s17⟩ : (G.LDic (G.T4 PySem.Str PySem.Str Bool Bool) (List Int))).d.l) fun s39 => (Res.ok s39)))))))
abbrev s__law_columns : Stmt := topS 23
abbrev N__law_columns : List Str := ["_law_many", "_law_k", "_law_pairs", "_law_counts", "_law_over", "_law_under", "_law_lives", "_law_behind", "_law_state", "_law_row_here", "_law_there", "_law_longer", "_law_found"]
theorem S__law_columns : FnScope N__law_columns ["_law_many"] (defScope s__law_columns) := ⟨rfl, rfl, rfl, by decide +kernel, rfl, by decide +kernel, by decide +kernel⟩
set_option maxHeartbeats 4000000 in
theorem cal__law_columns {K : Frag} {base : Heap} (D : IsDef K Md.mg "_law_columns" s__law_columns) (c__law_sum : Cal Pw.prog Pw.w K Md.mg base 1 "_law_sum" (fun a : (List Int) × (List Int) × Unit => a) (fun a : (List Int) × (List Int) × Unit => m_l_sum a.1 a.2.1) ow) (c__law_next : Cal Pw.prog Pw.w K Md.mg base 1 "_law_next" (fun a : (G.T4 PySem.Str PySem.Str Bool Bool) × PySem.Str × PySem.Str × Unit => a) (fun a : (G.T4 PySem.Str PySem.Str Bool Bool) × PySem.Str × PySem.Str × Unit => m_l_next a.1 a.2.1 a.2.2.1) fr) (b_range : Md.mg "range" = none) (b_int : Md.mg "int" = none) :
    Cal Pw.prog Pw.w K Md.mg base 2 "_law_columns" (fun a : Int × Unit => a) (fun a : Int × Unit => m_l_columns a.1) fr :=
  cal_mk (N := N__law_columns) (ps := ["_law_many"]) D S__law_columns rfl (fun _ _ _ _ _ _ us hl => match us, hl with | [_], _ => rfl) fun a f cdv A' outer s H E hr => by
    obtain ⟨l_many, _⟩ := a
    have S := S__law_columns
    have tk := takes_of (X := cxOf (L2.CX Pw.prog Pw.w) Pw.prog Pw.w K Md.mg base N__law_columns "_law_columns" (defScope s__law_columns) f cdv A' outer s H E) (E := E) rfl rfl rfl rfl
    refine' ST.slots (ss' := [G.fr l_many, G.any, G.any, G.any, G.any, G.any, G.any, G.any, G.any, G.any, G.any, G.any, G.any]) (ST.cast ?h ?q) rfl
    (case h => exact (st_seq (s1_lc 2 (own := [("_law_k", 1)]) (it_range1 (xa_cons xi_int xa_nil) b_range) (tc_name 1 S.nd) (fun a2 _ _ _ _ _ => (xk_imm (xi_pair (xa_cons (xi_ixStr xi_str (x_bin op_fdivW b_div (xi_fr 1) xi_int)) (xa_cons (xi_ixStr xi_str (x_bin op_mod b_mod (xi_fr 1) xi_int)) xa_nil))))) S.nd (blkOk_by (N := N__law_columns) (sc := defScope s__law_columns) (by decide +kernel)) (sw_true rfl rfl rfl (by decide +kernel))) fun (l_pairs1 : (List (PySem.Str × PySem.Str))) => (st_seq (s1_set 3 (xk_nnew (κ := (G.T4 PySem.Str PySem.Str Bool Bool)) (β := (List Int))) S.nd) fun (l_counts10 : (G.Dic (G.T4 PySem.Str PySem.Str Bool Bool) (List Int))) => (st_froz (as := l_pairs1) 2 (st_seq (s1_for (S := (G.Dic (G.T4 PySem.Str PySem.Str Bool Bool) (List Int))) (fun (s11 : (G.Dic (G.T4 PySem.Str PySem.Str Bool Bool) (List Int))) => [G.fr l_many, G.any, G.fr l_pairs1, G.owN s11, G.any, G.any, G.any, G.any, G.any, G.any, G.any, G.any, G.any]) l_counts10 (it_list (xk_fr 2)) (tg_two (tg_name 4 S.nd) (tg_name 5 S.nd)) (fun s11 a12 => (sn_seq (s1_set 6 (xk_imm (xi_or (x_cmp op_eq (b_eqS (α := PySem.Str) (β := PySem.Str)) (nomark _) (xi_fr 4) xi_str) (xi_one (x_cmp op_eq (b_eqS (α := PySem.Str) (β := PySem.Str)) (nomark _) (xi_fr 5) xi_str)))) S.nd) fun (l_lives13 : Bool) => (sn_seq (s1_nput 3 (hu64 hr) (xk_free (xk_cat (xi_of (xk_rep (xi_of (xk_lst (xak_imm (xh_cons xi_int (xh_nil))))) (x_bin op_add b_add (xi_bt call_int1 c_intB b_int (by decide +kernel) (xa_cons (x_cmp op_ne (b_neS (α := PySem.Str) (β := PySem.Str)) (nomark _) (xi_fr 4) xi_str) xa_nil)) (xi_bt call_int1 c_intB b_int (by decide +kernel) (xa_cons (x_cmp op_ne (b_neS (α := PySem.Str) (β := PySem.Str)) (nomark _) (xi_fr 5) xi_str) xa_nil))))) (xi_of (xk_lst (xak_imm (xh_cons xi_int (xh_nil))))))) (xk_imm (xi_t4d (xa_cons (xi_fr 4) (xa_cons (xi_fr 5) (xa_cons (xi_fr 6) (xa_cons (xi_fr 6) xa_nil))))))) fun (l_counts15 : (G.Dic (G.T4 PySem.Str PySem.Str Bool Bool) (List Int))) => (sn_nil (s := l_counts15) (wk_eq (wk_eq (wk_eq (wk_eq (wk_any (wk_any (wk_any (wk_eq (wk_eq (wk_eq (wk_eq (wk_eq (wk_eq wk_nil))))))))))))))))) (wk_eq (wk_eq (wk_eq (wk_eq (wk_eq (wk_eq (wk_eq (wk_eq (wk_eq (wk_eq (wk_eq (wk_eq (wk_eq wk_nil)))))))))))))) fun s11 => (st_seq (s1_for (S := (G.Dic (G.T4 PySem.Str PySem.Str Bool Bool) (List Int))) (fun (s17 : (G.Dic (G.T4 PySem.Str PySem.Str Bool Bool) (List Int))) => [G.fr l_many, G.any, G.fr l_pairs1, G.owN s17, G.any, G.any, G.any, G.any, G.any, G.any, G.any, G.any, G.any]) s11 (it_range1 (xa_cons (x_bin op_sub b_sub (xi_fr 0) xi_int) xa_nil) b_range) (tg_name 1 S.nd) (fun s17 a18 => (sn_seq (s1_set 7 (xk_nnew (κ := (G.T4 PySem.Str PySem.Str Bool Bool)) (β := (List Int))) S.nd) fun (l_behind19 : (G.Dic (G.T4 PySem.Str PySem.Str Bool Bool) (List Int))) => (sn_lockN 3 (sn_seq (s1_for (S := (G.Dic (G.T4 PySem.Str PySem.Str Bool Bool) (List Int))) (fun (s20 : (G.Dic (G.T4 PySem.Str PySem.Str Bool Bool) (List Int))) => [G.fr l_many, G.fr a18, G.fr l_pairs1, G.fr (⟨s17⟩ : (G.LDic (G.T4 PySem.Str PySem.Str Bool Bool) (List Int))), G.any, G.any, G.any, G.owN s20, G.any, G.any, G.any, G.any, G.any]) l_behind19 (it_nitems (xk_fr 3)) (tg_two (tg_name 8 S.nd) (tg_name 9 S.nd)) (fun s20 a21 => (sn_seq (s1_for (S := (G.Dic (G.T4 PySem.Str PySem.Str Bool Bool) (List Int))) (fun (s22 : (G.Dic (G.T4 PySem.Str PySem.Str Bool Bool) (List Int))) => [G.fr l_many, G.fr a18, G.fr l_pairs1, G.fr (⟨s17⟩ : (G.LDic (G.T4 PySem.Str PySem.Str Bool Bool) (List Int))), G.any, G.any, G.any, G.owN s22, G.fr a21.1, G.fr a21.2, G.any, G.any, G.any]) s20 (it_list (xk_fr 2)) (tg_two (tg_name 4 S.nd) (tg_name 5 S.nd)) (fun s22 a23 => (sn_seq (s1_set 10 (xk_imm (xi_cal c__law_next hr tk (xa_cons (xi_fr 8) (xa_cons (xi_fr 4) (xa_cons (xi_fr 5) xa_nil))))) S.nd) fun (l_there24 : (Option (G.T4 PySem.Str PySem.Str Bool Bool))) => (sn_seq (s1_if (post := (fun (s25 : (G.Dic (G.T4 PySem.Str PySem.Str Bool Bool) (List Int))) => [G.fr l_many, G.fr a18, G.fr l_pairs1, G.fr (⟨s17⟩ : (G.LDic (G.T4 PySem.Str PySem.Str Bool Bool) (List Int))), G.fr a23.1, G.fr a23.2, G.any, G.owN s25, G.fr a21.1, G.fr a21.2, G.fr l_there24, G.any, G.any])) (xt_notN (xi_fr 10)) (sn_seq (s1_set 11 (xk_free (xk_cat (xi_of (xk_rep (xi_of (xk_lst (xak_imm (xh_cons xi_int (xh_nil))))) (x_bin op_add b_add (xi_bt call_int1 c_intB b_int (by decide +kernel) (xa_cons (x_cmp op_ne (b_neS (α := PySem.Str) (β := PySem.Str)) (nomark _) (xi_fr 4) xi_str) xa_nil)) (xi_bt call_int1 c_intB b_int (by decide +kernel) (xa_cons (x_cmp op_ne (b_neS (α := PySem.Str) (β := PySem.Str)) (nomark _) (xi_fr 5) xi_str) xa_nil))))) (xi_fr 9))) S.nd) fun (l_longer26 : (List Int)) => (sn_seq (s1_nput 7 (hu64 hr) (xk_free (xk_cal c__law_sum hr tk (xa_cons (x_ngetD (hu64 hr) (xi_owN 7) (xi_unw (xi_fr 10)) (xi_of (xk_lst (xak_imm (xh_cons xi_int (xh_nil)))))) (xa_cons (xi_fr 11) xa_nil)))) (xk_imm (xi_unw (xi_fr 10)))) fun (l_behind31 : (G.Dic (G.T4 PySem.Str PySem.Str Bool Bool) (List Int))) => (sn_nil (s := l_behind31) (wk_eq (wk_eq (wk_eq (wk_eq (wk_eq (wk_eq (wk_eq (wk_eq (wk_eq (wk_eq (wk_eq (wk_any (wk_eq wk_nil)))))))))))))))) (sn_nil (s := s22) (wk_eq (wk_eq (wk_eq (wk_eq (wk_eq (wk_eq (wk_eq (wk_eq (wk_eq (wk_eq (wk_eq (wk_eq (wk_eq wk_nil))))))))))))))) fun s25 => (sn_nil (s := s25) (wk_eq (wk_eq (wk_eq (wk_eq (wk_any (wk_any (wk_eq (wk_eq (wk_eq (wk_eq (wk_any (wk_eq (wk_eq wk_nil))))))))))))))))) (wk_eq (wk_eq (wk_eq (wk_eq (wk_eq (wk_eq (wk_eq (wk_eq (wk_eq (wk_eq (wk_eq (wk_eq (wk_eq wk_nil)))))))))))))) fun s22 => (sn_nil (s := s22) (wk_eq (wk_eq (wk_eq (wk_eq (wk_eq (wk_eq (wk_eq (wk_eq (wk_any (wk_any (wk_eq (wk_eq (wk_eq wk_nil)))))))))))))))) (wk_eq (wk_eq (wk_eq (wk_eq (wk_eq (wk_eq (wk_eq (wk_eq (wk_eq (wk_eq (wk_eq (wk_eq (wk_eq wk_nil)))))))))))))) fun s20 => (sn_seq (s1_movN 3 7 S.nd) fun (l_counts34 : (G.Dic (G.T4 PySem.Str PySem.Str Bool Bool) (List Int))) => (sn_nil (s := l_counts34) (wk_eq (wk_any (wk_eq (wk_eq (wk_eq (wk_eq (wk_eq (wk_eq (wk_eq (wk_eq (wk_eq (wk_eq (wk_eq wk_nil))))))))))))))))))) (wk_eq (wk_eq (wk_eq (wk_eq (wk_eq (wk_eq (wk_eq (wk_eq (wk_eq (wk_eq (wk_eq (wk_eq (wk_eq wk_nil)))))))))))))) fun s17 => (st_seq (s1_set 12 (xk_free (xk_rep (xi_of (xk_lst (xak_imm (xh_cons xi_int (xh_nil))))) (x_bin op_add b_add (x_bin op_mul b_mul xi_int (xi_fr 0)) xi_int))) S.nd) fun (l_found36 : (List Int)) => (st_lockN 3 (st_seq (s1_for (S := (List Int)) (fun (s39 : (List Int)) => [G.fr l_many, G.any, G.fr l_pairs1, G.fr (⟨s17⟩ : (G.LDic (G.T4 PySem.Str PySem.Str Bool Bool) (List Int))), G.any, G.any, G.any, G.any, G.any, G.any, G.any, G.any, G.fr s39]) l_found36 (it_nitems (xk_fr 3)) (tg_two (tg_name 8 S.nd) (tg_name 9 S.nd)) (fun s39 a40 => (sn_seq (s1_if (post := (fun (s42 : (List Int)) => [G.fr l_many, G.any, G.fr l_pairs1, G.fr (⟨s17⟩ : (G.LDic (G.T4 PySem.Str PySem.Str Bool Bool) (List Int))), G.any, G.any, G.any, G.any, G.fr a40.1, G.fr a40.2, G.any, G.any, G.fr s42])) (xt_w (xw_and (xt_w (xw_or (t_cmp op_eq (b_eqS (α := PySem.Str) (β := PySem.Str)) (nomark _) (xi_t4_1 (xi_fr 8)) xi_str) (xw_or1 (xt_val (xi_t4_3 (xi_fr 8)))))) (xw_and1 (xt_w (xw_or (t_cmp op_eq (b_eqS (α := PySem.Str) (β := PySem.Str)) (nomark _) (xi_t4_2 (xi_fr 8)) xi_str) (xw_or1 (xt_val (xi_t4_4 (xi_fr 8))))))))) (sn_seq (s1_set 12 (xk_free (xk_cal c__law_sum hr tk (xa_cons (xi_fr 12) (xa_cons (xi_fr 9) xa_nil)))) S.nd) fun (l_found43 : (List Int)) => (sn_nil (s := l_found43) (wk_eq (wk_eq (wk_eq (wk_eq (wk_eq (wk_eq (wk_eq (wk_eq (wk_eq (wk_eq (wk_eq (wk_eq (wk_eq wk_nil))))))))))))))) (sn_nil (s := s39) (wk_eq (wk_eq (wk_eq (wk_eq (wk_eq (wk_eq (wk_eq (wk_eq (wk_eq (wk_eq (wk_eq (wk_eq (wk_eq wk_nil))))))))))))))) fun s42 => (sn_nil (s := s42) (wk_eq (wk_eq (wk_eq (wk_eq (wk_eq (wk_eq (wk_eq (wk_eq (wk_any (wk_any (wk_eq (wk_eq (wk_eq wk_nil)))))))))))))))) (wk_eq (wk_eq (wk_eq (wk_eq (wk_eq (wk_eq (wk_eq (wk_eq (wk_eq (wk_eq (wk_eq (wk_eq (wk_eq wk_nil)))))))))))))) fun s39 => (st_ret (xk_fr 12)))))))))))
    (case q => first | (unfold m_l_columns; simp only [Res.okb, Res.bind_assoc, memB]; done) | rfl)
def m_l_ties (l_at : Int) (l_many : Int) (l_way : Int) : Res (List (Int × Int)) :=
  (Res.bind (Res.bind (Res.bind (guardR (small62 l_many) (Res.ok (rangeL 0 (l_many).toNat))) fun v4 => (lcT (fun _ => Res.ok true) (fun a2 => (Res.bind (mulR (2 : Int) a2) fun v3 => (Res.ok (l_at + v3)))) v4)) fun v11 => (Res.bind (Res.bind (Res.bind (guardR (small62 l_many) (Res.ok (rangeL 0 (l_many).toNat))) fun v9 => (lcT (fun _ => Res.ok true) (fun a5 => (Res.bind (Res.bind (mulR (2 : Int) a5) fun v7 => (Res.ok (l_at + v7))) fun v8 => (Res.ok (v8 + (1 : Int))))) v9)) fun v10 => (Res.ok (v10 :: []))) fun v12 => (Res.ok (v11 :: v12)))) fun (l_names1 : (List (List Int))) => (Res.bind (Res.bind (if (ScaEq.eq l_way (1 : Int)) then (Res.ok (decide (l_many ≤ (4 : Int)))) else (Res.ok false)) fun v22 => (if v22 then (Res.bind (Res.bind (Res.bind (guardR (small62 l_many) (Res.ok (rangeL 0 (l_many).toNat))) fun v16 => (lcT (fun _ => Res.ok true) (fun a15 => (Res.ok (l_at + a15))) v16)) fun v20 => (Res.bind (Res.bind (Res.bind (guardR (small62 l_many) (Res.ok (rangeL 0 (l_many).toNat))) fun v18 => (lcT (fun _ => Res.ok true) (fun a17 => (Res.ok ((l_at + l_many) + a17))) v18)) fun v19 => (Res.ok (v19 :: []))) fun v21 => (Res.ok (v20 :: v21)))) fun (l_names14 : (List (List Int))) => (Res.ok l_names14)) else (Res.ok l_names1))) fun s13 => (Res.bind (Res.bind (guardR (small62 l_many) (Res.ok (rangeL 0 (l_many).toNat))) fun v31 => (lcT (fun _ => Res.ok true) (fun a24 => (Res.bind (Res.bind (Res.bind (idx s13 (0 : Int)) fun v25 => (idx v25 a24)) fun v28 => (Res.bind (Res.bind (Res.bind (idx s13 (1 : Int)) fun v26 => (idx v26 a24)) fun v27 => (Res.ok (v27, ()))) fun v29 => (Res.ok (v28, v29)))) fun v30 => (Res.ok (v30.1, v30.2.1)))) v31)) fun (l_ties_here23 : (List (Int × Int))) => (Res.bind (foldR (fun (s32 : (List (Int × Int))) (a33 : (List Int)) => (Res.bind (Res.bind (Res.bind (guardR (small62 (l_many - (1 : Int))) (Res.ok (rangeL 0 ((l_many - (1 : Int))).toNat))) fun v40 => (lcT (fun _ => Res.ok true) (fun a35 => (Res.bind (Res.bind (idx a33 a35) fun v37 => (Res.bind (Res.bind (idx a33 (a35 + (1 : Int))) fun v36 => (Res.ok (v36, ()))) fun v38 => (Res.ok (v37, v38)))) fun v39 => (Res.ok (v39.1, v39.2.1)))) v40)) fun v41 => (extR s32 v41)) fun l_ties_here34 => (Res.ok l_ties_here34))) l_ties_here23 s13) fun s32 => (Res.ok s32)))))
abbrev s__law_ties : Stmt := topS 24
abbrev N__law_ties : List Str := ["_law_at", "_law_many", "_law_way", "_law_names", "_law_ties_here", "_law_row_here", "_law_k"]
theorem S__law_ties : FnScope N__law_ties ["_law_at", "_law_many", "_law_way"] (defScope s__law_ties) := ⟨rfl, rfl, rfl, by decide +kernel, rfl, by decide +kernel, by decide +kernel⟩
set_option maxHeartbeats 4000000 in
theorem cal__law_ties {K : Frag} {base : Heap} (D : IsDef K Md.mg "_law_ties" s__law_ties) (b_range : Md.mg "range" = none) :
    Cal Pw.prog Pw.w K Md.mg base 1 "_law_ties" (fun a : Int × Int × Int × Unit => a) (fun a : Int × Int × Int × Unit => m_l_ties a.1 a.2.1 a.2.2.1) ow :=
  cal_mk (N := N__law_ties) (ps := ["_law_at", "_law_many", "_law_way"]) D S__law_ties rfl (fun _ _ _ _ _ _ us hl => match us, hl with | [_, _, _], _ => rfl) fun a f cdv A' outer s H E hr => by
    obtain ⟨l_at, l_many, l_way, _⟩ := a
    have S := S__law_ties
    have tk := takes_of (X := cxOf (L2.CX Pw.prog Pw.w) Pw.prog Pw.w K Md.mg base N__law_ties "_law_ties" (defScope s__law_ties) f cdv A' outer s H E) (E := E) rfl rfl rfl rfl
    refine' ST.slots (ss' := [G.fr l_at, G.fr l_many, G.fr l_way, G.any, G.any, G.any, G.any]) (ST.cast ?h ?q) rfl
    (case h => exact (st_seq (s1_set 3 (xk_free (xk_lst (xhk_cons (xk_free (xk_lc (own := [("_law_k", 6)]) (it_range1 (xa_cons (xi_fr 1) xa_nil) b_range) (tc_name 6 S.nd) (fun a2 _ _ _ _ _ => (xk_imm (x_bin op_add b_add (xi_fr 0) (x_bin op_mul b_mul xi_int (xi_fr 6))))) S.nd (blkOk_by (N := N__law_ties) (sc := defScope s__law_ties) (by decide +kernel)))) (xhk_cons (xk_free (xk_lc (own := [("_law_k", 6)]) (it_range1 (xa_cons (xi_fr 1) xa_nil) b_range) (tc_name 6 S.nd) (fun a5 _ _ _ _ _ => (xk_imm (x_bin op_add b_add (x_bin op_add b_add (xi_fr 0) (x_bin op_mul b_mul xi_int (xi_fr 6))) xi_int))) S.nd (blkOk_by (N := N__law_ties) (sc := defScope s__law_ties) (by decide +kernel)))) (xhk_nil))))) S.nd) fun (l_names1 : (List (List Int))) => (st_seq (s1_if (post := (fun (s13 : (List (List Int))) => [G.fr l_at, G.fr l_many, G.fr l_way, G.fr s13, G.any, G.any, G.any])) (xt_w (xw_and (t_cmp op_eq (b_eqS (α := Int) (β := Int)) (nomark _) (xi_fr 2) xi_int) (xw_and1 (t_cmp op_le b_le (nomark _) (xi_fr 1) xi_int)))) (sn_seq (s1_set 3 (xk_free (xk_lst (xhk_cons (xk_free (xk_lc (own := [("_law_k", 6)]) (it_range1 (xa_cons (xi_fr 1) xa_nil) b_range) (tc_name 6 S.nd) (fun a15 _ _ _ _ _ => (xk_imm (x_bin op_add b_add (xi_fr 0) (xi_fr 6)))) S.nd (blkOk_by (N := N__law_ties) (sc := defScope s__law_ties) (by decide +kernel)))) (xhk_cons (xk_free (xk_lc (own := [("_law_k", 6)]) (it_range1 (xa_cons (xi_fr 1) xa_nil) b_range) (tc_name 6 S.nd) (fun a17 _ _ _ _ _ => (xk_imm (x_bin op_add b_add (x_bin op_add b_add (xi_fr 0) (xi_fr 1)) (xi_fr 6)))) S.nd (blkOk_by (N := N__law_ties) (sc := defScope s__law_ties) (by decide +kernel)))) (xhk_nil))))) S.nd) fun (l_names14 : (List (List Int))) => (sn_nil (s := l_names14) (wk_eq (wk_eq (wk_eq (wk_eq (wk_eq (wk_eq (wk_eq wk_nil))))))))) (sn_nil (s := l_names1) (wk_eq (wk_eq (wk_eq (wk_eq (wk_eq (wk_eq (wk_eq wk_nil))))))))) fun s13 => (st_seq (s1_lc 4 (own := [("_law_k", 6)]) (it_range1 (xa_cons (xi_fr 1) xa_nil) b_range) (tc_name 6 S.nd) (fun a24 _ _ _ _ _ => (xk_imm (xi_pair (xa_cons (xi_ixL (xi_ixL (xi_fr 3) xi_int) (xi_fr 6)) (xa_cons (xi_ixL (xi_ixL (xi_fr 3) xi_int) (xi_fr 6)) xa_nil))))) S.nd (blkOk_by (N := N__law_ties) (sc := defScope s__law_ties) (by decide +kernel)) (sw_true rfl rfl rfl (by decide +kernel))) fun (l_ties_here23 : (List (Int × Int))) => (st_seq (s1_for (S := (List (Int × Int))) (fun (s32 : (List (Int × Int))) => [G.fr l_at, G.fr l_many, G.fr l_way, G.fr s13, G.ow s32, G.any, G.any]) l_ties_here23 (it_list (xk_fr 3)) (tg_name 5 S.nd) (fun s32 a33 => (sn_seq (s1_extI 4 (xi_of (xk_lc (own := [("_law_k", 6)]) (it_range1 (xa_cons (x_bin op_sub b_sub (xi_fr 1) xi_int) xa_nil) b_range) (tc_name 6 S.nd) (fun a35 _ _ _ _ _ => (xk_imm (xi_pair (xa_cons (xi_ixL (xi_fr 5) (xi_fr 6)) (xa_cons (xi_ixL (xi_fr 5) (x_bin op_add b_add (xi_fr 6) xi_int)) xa_nil))))) S.nd (blkOk_by (N := N__law_ties) (sc := defScope s__law_ties) (by decide +kernel))))) fun l_ties_here34 => (sn_nil (s := l_ties_here34) (wk_eq (wk_eq (wk_eq (wk_eq (wk_eq (wk_any (wk_eq wk_nil)))))))))) (wk_eq (wk_eq (wk_eq (wk_eq (wk_eq (wk_eq (wk_eq wk_nil)))))))) fun s32 => (st_retOw 4))))))
    (case q => first | (unfold m_l_ties; simp only [Res.okb, Res.bind_assoc, memB]; done) | rfl)
def m_law (l_script : G.Scr) : Res Bool :=
  (Res.bind (Res.bind (Res.bind (m_l_cell_at l_script (0 : Int)) fun v2 => (Res.ok (v2, (((3 : Int) :: ((420 : Int) :: ((2 : Int) :: []))), ())))) fun a3 => (m_l_numbers a3.1 a3.2.1)) fun (l_digits1 : (List Int)) => (Res.bind (Res.bind (Res.bind (Res.bind (Res.bind (Res.bind (idx l_digits1 (1 : Int)) fun v6 => (Res.bind (Res.bind (idx l_digits1 (0 : Int)) fun v5 => (idx ((4 : Int) :: ((7 : Int) :: ((20 : Int) :: []))) v5)) fun v7 => (modR v6 v7))) fun v8 => (Res.ok ((1 : Int) + v8))) fun v10 => (Res.bind (Res.bind (idx l_digits1 (2 : Int)) fun v9 => (Res.ok (v9, ()))) fun v11 => (Res.ok (v10, v11)))) fun v12 => (Res.ok (v12.1, v12.2.1))) fun v13 => (Res.ok (v13 :: []))) fun (l_sizes4 : (List (Int × Int))) => (Res.bind (Res.bind (idx l_sizes4 (0 : Int)) fun v16 => (Res.ok (v16.1))) fun (l_columns_here14 : Int) => (Res.bind (foldR (fun (s17 : (List (Int × Int)) × Int) (a18 : Int) => (Res.bind (Res.bind (m_l_numbers a18 ((6 : Int) :: ((2 : Int) :: []))) fun v20 => (guardR (decide (v20.length = 2)) (Res.ok v20))) fun p19 => (Res.bind (if (decide (((s17.2 + (p19.headD default)) + (1 : Int)) ≤ (20 : Int))) then (Res.bind (appR s17.1 (((p19.headD default) + (1 : Int)), (p19.tail.headD default))) fun l_sizes22 => (Res.bind (Res.ok ((s17.2 + (p19.headD default)) + (1 : Int))) fun (l_columns_here23 : Int) => (Res.ok (l_sizes22, l_columns_here23)))) else (Res.ok (s17.1, s17.2))) fun s21 => (Res.ok (s21.1, s21.2))))) (l_sizes4, l_columns_here14) (cut l_script.ns (some (1 : Int)) (some (63 : Int)))) fun s17 => (Res.bind (Res.ok ([] : (List (Int × Int)))) fun (l_ties_here24 : (List (Int × Int))) => (Res.bind (Res.ok ((1 : Int) :: [])) fun (l_due25 : (List Int)) => (Res.bind (Res.ok (0 : Int)) fun (l_at26 : Int) => (Res.bind (foldR (fun (s27 : (List Int) × (List (Int × Int)) × Int) (a28 : (Int × Int)) => (Res.bind (Res.bind (Res.bind (Res.bind (m_l_columns a28.1) fun v30 => (Res.ok (v30, ()))) fun v31 => (Res.ok (s27.1, v31))) fun a32 => (m_l_product a32.1 a32.2.1)) fun (l_due29 : (List Int)) => (Res.bind (Res.bind (m_l_ties s27.2.2 a28.1 a28.2) fun v34 => (extR s27.2.1 v34)) fun l_ties_here33 => (Res.bind (Res.bind (mulR (2 : Int) a28.1) fun v36 => (Res.ok (s27.2.2 + v36))) fun (l_at35 : Int) => (Res.ok (l_due29, l_ties_here33, l_at35)))))) (l_due25, l_ties_here24, l_at26) s17.1) fun s27 => (Res.bind (Res.ok (s27.2.2, (⟨(sortP s27.2.1)⟩ : (G.Tup (Int × Int))))) fun (l_web37 : (Int × (G.Tup (Int × Int)))) => (Res.bind (m_sound_many l_web37) fun (l_told38 : Int) => (Res.bind (Res.bind (Res.bind (m_l_whole l_told38) fun v39 => (Res.ok (!v39))) fun v43 => (if v43 then (Res.ok true) else (if (!ScaEq.eq l_told38 (List.sum s27.1)) then (Res.ok true) else (Res.bind (Res.bind (Res.bind (m_sound_by_stones l_web37) fun v40 => (Res.ok (v40, (s27.1, ())))) fun a41 => (m_l_row a41.1 a41.2.1)) fun v42 => (Res.ok (!v42)))))) fun v54 => (if v54 then (Res.ok false) else (Res.bind (Res.bind (Res.bind (guardR (small62 (6 : Int)) (Res.ok (rangeL 0 ((6 : Int)).toNat))) fun v46 => (lcT (fun _ => Res.ok true) (fun a45 => (Res.ok (a45, (a45 + (3 : Int))))) v46)) fun v50 => (Res.bind (Res.bind (guardR (small62 (9 : Int)) (Res.ok (rangeL 0 ((9 : Int)).toNat))) fun v49 => (lcT (fun a47 => (Res.bind (modR a47 (3 : Int)) fun v48 => (Res.ok (decide (v48 < (2 : Int)))))) (fun a47 => (Res.ok (a47, (a47 + (1 : Int))))) v49)) fun v51 => (catR v50 v51))) fun (l_rows44 : (List (Int × Int))) => (Res.bind (m_sound_many ((9 : Int), (⟨(sortP l_rows44)⟩ : (G.Tup (Int × Int))))) fun (l_other52 : Int) => (Res.bind (m_l_whole l_other52) fun v53 => (if v53 then (Res.ok (ScaEq.eq l_other52 (12675 : Int))) else (Res.ok false)))))))))))))))))
abbrev s_law : Stmt := topS 25
abbrev N_law : List Str := ["_law_script", "_law_digits", "_law_sizes", "_law_columns_here", "_law_cell", "_law_size", "_law_way", "_law_ties_here", "_law_due", "_law_at", "_law_web", "_law_told", "_law_rows", "_law_other", "_law_k"]
theorem S_law : FnScope N_law ["_law_script"] (defScope s_law) := ⟨rfl, rfl, rfl, by decide +kernel, rfl, by decide +kernel, by decide +kernel⟩
set_option maxHeartbeats 4000000 in
theorem fn_law {K : Frag} {base : Heap} {f : Addr} {fd : FuncData} (F : Fun K "law" "law" s_law f fd) (c_sound_by_stones : Cal Pw.prog Pw.w K Md.mg base 3 "sound_by_stones" (fun a : (Int × (G.Tup (Int × Int))) × Unit => a) (fun a : (Int × (G.Tup (Int × Int))) × Unit => m_sound_by_stones a.1) ow) (c_sound_many : Cal Pw.prog Pw.w K Md.mg base 4 "sound_many" (fun a : (Int × (G.Tup (Int × Int))) × Unit => a) (fun a : (Int × (G.Tup (Int × Int))) × Unit => m_sound_many a.1) fr) (c__law_cell_at : Cal Pw.prog Pw.w K Md.mg base 1 "_law_cell_at" (fun a : G.Scr × Int × Unit => a) (fun a : G.Scr × Int × Unit => m_l_cell_at a.1 a.2.1) fr) (c__law_numbers : Cal Pw.prog Pw.w K Md.mg base 1 "_law_numbers" (fun a : Int × (List Int) × Unit => a) (fun a : Int × (List Int) × Unit => m_l_numbers a.1 a.2.1) ow) (c__law_whole : Cal Pw.prog Pw.w K Md.mg base 1 "_law_whole" (fun a : Int × Unit => a) (fun a : Int × Unit => m_l_whole a.1) fr) (c__law_row : Cal Pw.prog Pw.w K Md.mg base 1 "_law_row" (fun a : (List Int) × (List Int) × Unit => a) (fun a : (List Int) × (List Int) × Unit => m_l_row a.1 a.2.1) fr) (c__law_product : Cal Pw.prog Pw.w K Md.mg base 1 "_law_product" (fun a : (List Int) × (List Int) × Unit => a) (fun a : (List Int) × (List Int) × Unit => m_l_product a.1 a.2.1) ow) (c__law_columns : Cal Pw.prog Pw.w K Md.mg base 2 "_law_columns" (fun a : Int × Unit => a) (fun a : Int × Unit => m_l_columns a.1) fr) (c__law_ties : Cal Pw.prog Pw.w K Md.mg base 1 "_law_ties" (fun a : Int × Int × Int × Unit => a) (fun a : Int × Int × Int × Unit => m_l_ties a.1 a.2.1 a.2.2.1) ow) (b_sorted : Md.mg "sorted" = none) (b_tuple : Md.mg "tuple" = none) (b_sum : Md.mg "sum" = none) (b_range : Md.mg "range" = none) :
    FnOk Pw.prog Pw.w K Md.mg base (L2.CX Pw.prog Pw.w) 5 f fd ["_law_script"] (spOf K Md.mg (fun a : G.Scr × Unit => m_law a.1) fr) :=
  fn_ok (N := N_law) F S_law rfl fun a cdv A' outer s H E hr => by
    obtain ⟨l_script, _⟩ := a
    have S := S_law
    have tk := takes_of (X := cxOf (L2.CX Pw.prog Pw.w) Pw.prog Pw.w K Md.mg base N_law "law" (defScope s_law) f cdv A' outer s H E) (E := E) rfl rfl rfl rfl
    refine' ST.slots (ss' := [G.fr l_script, G.any, G.any, G.any, G.any, G.any, G.any, G.any, G.any, G.any, G.any, G.any, G.any, G.any, G.any]) (ST.cast ?h ?q) rfl
    (case h => exact (st_seq (s1_set 1 (xk_free (xk_cal c__law_numbers hr tk (xa_cons (xi_cal c__law_cell_at hr tk (xa_cons (xi_fr 0) (xa_cons xi_int xa_nil))) (xa_cons (xi_of (xk_lst (xak_imm (xh_cons xi_int (xh_cons xi_int (xh_cons xi_int (xh_nil))))))) xa_nil)))) S.nd) fun (l_digits1 : (List Int)) => (st_seq (s1_set 2 (xk_lst (xak_imm (xh_cons (xi_pair (xa_cons (x_bin op_add b_add xi_int (x_bin op_mod b_mod (xi_ixL (xi_fr 1) xi_int) (xi_ixL (xi_of (xk_lst (xak_imm (xh_cons xi_int (xh_cons xi_int (xh_cons xi_int (xh_nil))))))) (xi_ixL (xi_fr 1) xi_int)))) (xa_cons (xi_ixL (xi_fr 1) xi_int) xa_nil))) (xh_nil)))) S.nd) fun (l_sizes4 : (List (Int × Int))) => (st_seq (s1_set 3 (xk_imm (xi_p1 (xi_ixL (xi_ow 2) xi_int))) S.nd) fun (l_columns_here14 : Int) => (st_seq (s1_for (S := (List (Int × Int)) × Int) (fun (s17 : (List (Int × Int)) × Int) => [G.fr l_script, G.fr l_digits1, G.ow s17.1, G.fr s17.2, G.any, G.any, G.any, G.any, G.any, G.any, G.any, G.any, G.any, G.any, G.any]) (l_sizes4, l_columns_here14) (it_list (xk_free (xk_sliceS (xi_fr 0) (xo_some xi_int) (xo_some xi_int)))) (tg_name 4 S.nd) (fun s17 a18 => (sn_seq (s1_unl (xk_free (xk_cal c__law_numbers hr tk (xa_cons (xi_fr 4) (xa_cons (xi_of (xk_lst (xak_imm (xh_cons xi_int (xh_cons xi_int (xh_nil)))))) xa_nil)))) (tl_cons (tg_name 5 S.nd) (tl_cons (tg_name 6 S.nd) tl_nil))) fun p19 => (sn_seq (s1_if (post := (fun (s21 : (List (Int × Int)) × Int) => [G.fr l_script, G.fr l_digits1, G.ow s21.1, G.fr s21.2, G.fr a18, G.fr (p19.headD default), G.fr (p19.tail.headD default), G.any, G.any, G.any, G.any, G.any, G.any, G.any, G.any])) (t_cmp op_le b_le (nomark _) (x_bin op_add b_add (x_bin op_add b_add (xi_fr 3) (xi_fr 5)) xi_int) xi_int) (sn_seq (s1_append 2 (xk_imm (xi_pair (xa_cons (x_bin op_add b_add (xi_fr 5) xi_int) (xa_cons (xi_fr 6) xa_nil))))) fun l_sizes22 => (sn_seq (s1_set 3 (xk_imm (x_bin op_add b_add (x_bin op_add b_add (xi_fr 3) (xi_fr 5)) xi_int)) S.nd) fun (l_columns_here23 : Int) => (sn_nil (s := (l_sizes22, l_columns_here23)) (wk_eq (wk_eq (wk_eq (wk_eq (wk_eq (wk_eq (wk_eq (wk_eq (wk_eq (wk_eq (wk_eq (wk_eq (wk_eq (wk_eq (wk_eq wk_nil)))))))))))))))))) (sn_nil (s := (s17.1, s17.2)) (wk_eq (wk_eq (wk_eq (wk_eq (wk_eq (wk_eq (wk_eq (wk_eq (wk_eq (wk_eq (wk_eq (wk_eq (wk_eq (wk_eq (wk_eq wk_nil))))))))))))))))) fun s21 => (sn_nil (s := (s21.1, s21.2)) (wk_eq (wk_eq (wk_eq (wk_eq (wk_any (wk_any (wk_any (wk_eq (wk_eq (wk_eq (wk_eq (wk_eq (wk_eq (wk_eq (wk_eq wk_nil))))))))))))))))))) (wk_eq (wk_eq (wk_eq (wk_eq (wk_eq (wk_eq (wk_eq (wk_eq (wk_eq (wk_eq (wk_eq (wk_eq (wk_eq (wk_eq (wk_eq wk_nil)))))))))))))))) fun s17 => (st_seq (s1_set 7 (xk_lst (xhk_nil (α := (Int × Int)))) S.nd) fun (l_ties_here24 : (List (Int × Int))) => (st_seq (s1_set 8 (xk_free (xk_lst (xak_imm (xh_cons xi_int (xh_nil))))) S.nd) fun (l_due25 : (List Int)) => (st_seq (s1_set 9 (xk_imm xi_int) S.nd) fun (l_at26 : Int) => (st_froz (as := s17.1) 2 (st_seq (s1_for (S := (List Int) × (List (Int × Int)) × Int) (fun (s27 : (List Int) × (List (Int × Int)) × Int) => [G.fr l_script, G.fr l_digits1, G.fr s17.1, G.fr s17.2, G.any, G.any, G.any, G.ow s27.2.1, G.fr s27.1, G.fr s27.2.2, G.any, G.any, G.any, G.any, G.any]) (l_due25, l_ties_here24, l_at26) (it_list (xk_fr 2)) (tg_two (tg_name 5 S.nd) (tg_name 6 S.nd)) (fun s27 a28 => (sn_seq (s1_set 8 (xk_free (xk_cal c__law_product hr tk (xa_cons (xi_fr 8) (xa_cons (xi_cal c__law_columns hr tk (xa_cons (xi_fr 5) xa_nil)) xa_nil)))) S.nd) fun (l_due29 : (List Int)) => (sn_seq (s1_extI 7 (xi_cal c__law_ties hr tk (xa_cons (xi_fr 9) (xa_cons (xi_fr 5) (xa_cons (xi_fr 6) xa_nil))))) fun l_ties_here33 => (sn_seq (s1_set 9 (xk_imm (x_bin op_add b_add (xi_fr 9) (x_bin op_mul b_mul xi_int (xi_fr 5)))) S.nd) fun (l_at35 : Int) => (sn_nil (s := (l_due29, l_ties_here33, l_at35)) (wk_eq (wk_eq (wk_eq (wk_eq (wk_eq (wk_any (wk_any (wk_eq (wk_eq (wk_eq (wk_eq (wk_eq (wk_eq (wk_eq (wk_eq wk_nil)))))))))))))))))))) (wk_eq (wk_eq (wk_eq (wk_eq (wk_eq (wk_eq (wk_eq (wk_eq (wk_eq (wk_eq (wk_eq (wk_eq (wk_eq (wk_eq (wk_eq wk_nil)))))))))))))))) fun s27 => (st_seq (s1_set 10 (xk_imm (xi_pair (xa_cons (xi_fr 9) (xa_cons (xi_bt call_tuple_of c_tuple b_tuple (by decide +kernel) (xa_cons (xi_of (xk_sortedP (xa_cons (xi_ow 7) xa_nil) b_sorted)) xa_nil)) xa_nil)))) S.nd) fun (l_web37 : (Int × (G.Tup (Int × Int)))) => (st_seq (s1_set 11 (xk_imm (xi_cal c_sound_many hr tk (xa_cons (xi_fr 10) xa_nil))) S.nd) fun (l_told38 : Int) => (st_guard (xt_w (xw_or (xt_not (xt_val (xi_cal c__law_whole hr tk (xa_cons (xi_fr 11) xa_nil)))) (xw_or (t_cmp op_ne (b_neS (α := Int) (β := Int)) (nomark _) (xi_fr 11) (xi_bf (cr_sum rfl) c_sum b_sum (by decide +kernel) (xa_cons (xi_fr 8) xa_nil))) (xw_or1 (xt_not (xt_val (xi_cal c__law_row hr tk (xa_cons (xi_cal c_sound_by_stones hr tk (xa_cons (xi_fr 10) xa_nil)) (xa_cons (xi_fr 8) xa_nil))))))))) (st_ret (xk_imm xi_bl)) (st_seq (s1_set 12 (xk_free (xk_cat (xi_of (xk_lc (own := [("_law_k", 14)]) (it_range1 (xa_cons xi_int xa_nil) b_range) (tc_name 14 S.nd) (fun a45 _ _ _ _ _ => (xk_imm (xi_pair (xa_cons (xi_fr 14) (xa_cons (x_bin op_add b_add (xi_fr 14) xi_int) xa_nil))))) S.nd (blkOk_by (N := N_law) (sc := defScope s_law) (by decide +kernel)))) (xi_of (xk_lcIf (own := [("_law_k", 14)]) (it_range1 (xa_cons xi_int xa_nil) b_range) (tc_name 14 S.nd) (fun a47 _ _ _ _ _ => (t_cmp op_lt b_lt (nomark _) (x_bin op_mod b_mod (xi_fr 14) xi_int) xi_int)) (fun a47 _ _ _ _ _ => (xk_imm (xi_pair (xa_cons (xi_fr 14) (xa_cons (x_bin op_add b_add (xi_fr 14) xi_int) xa_nil))))) S.nd (blkOk_by (N := N_law) (sc := defScope s_law) (by decide +kernel)))))) S.nd) fun (l_rows44 : (List (Int × Int))) => (st_seq (s1_set 13 (xk_imm (xi_cal c_sound_many hr tk (xa_cons (xi_pair (xa_cons xi_int (xa_cons (xi_bt call_tuple_of c_tuple b_tuple (by decide +kernel) (xa_cons (xi_of (xk_sortedP (xa_cons (xi_fr 12) xa_nil) b_sorted)) xa_nil)) xa_nil))) xa_nil))) S.nd) fun (l_other52 : Int) => (st_ret (xk_imm (xi_and (xi_cal c__law_whole hr tk (xa_cons (xi_fr 13) xa_nil)) (xi_one (x_cmp op_eq (b_eqS (α := Int) (β := Int)) (nomark _) (xi_fr 13) xi_int))))))))))))))))))))
    (case q => first | (unfold m_law; simp only [Res.okb, Res.bind_assoc, memB]; done) | rfl)
end
end
theorem all_mk {l : PySem.W.OpenLaw} {w : World} {K : Frag} {h : Heap} {mg : PySem.Str → Option Value} {fa : Addr} (X : K.In h) (G : h.Ns mainGlobals mg) (hfa : mg "law" = some (.ref fa)) (hg : ∀ ns : List Int, ns.length ≤ 63 → m_law ⟨ns⟩ = .ok true) {od0 an0 : Option Addr} {sl0 : Array (Option Value)} {oc0 kV0 dc0 pm0 cd0 ct0 : Value} {f0 : Addr} {od1 an1 : Option Addr} {sl1 : Array (Option Value)} {oc1 kV1 dc1 pm1 cd1 ct1 : Value} {f1 : Addr} {od2 an2 : Option Addr} {sl2 : Array (Option Value)} {oc2 kV2 dc2 pm2 cd2 ct2 : Value} {f2 : Addr} {od3 an3 : Option Addr} {sl3 : Array (Option Value)} {oc3 kV3 dc3 pm3 cd3 ct3 : Value} {f3 : Addr} {od4 an4 : Option Addr} {sl4 : Array (Option Value)} {oc4 kV4 dc4 pm4 cd4 ct4 : Value} {f4 : Addr} {od5 an5 : Option Addr} {sl5 : Array (Option Value)} {oc5 kV5 dc5 pm5 cd5 ct5 : Value} {f5 : Addr} {od6 an6 : Option Addr} {sl6 : Array (Option Value)} {oc6 kV6 dc6 pm6 cd6 ct6 : Value} {f6 : Addr} {od7 an7 : Option Addr} {sl7 : Array (Option Value)} {oc7 kV7 dc7 pm7 cd7 ct7 : Value} {f7 : Addr} {od8 an8 : Option Addr} {sl8 : Array (Option Value)} {oc8 kV8 dc8 pm8 cd8 ct8 : Value} {f8 : Addr} {od9 an9 : Option Addr} {sl9 : Array (Option Value)} {oc9 kV9 dc9 pm9 cd9 ct9 : Value} {f9 : Addr} {od10 an10 : Option Addr} {sl10 : Array (Option Value)} {oc10 kV10 dc10 pm10 cd10 ct10 : Value} {f10 : Addr} {od11 an11 : Option Addr} {sl11 : Array (Option Value)} {oc11 kV11 dc11 pm11 cd11 ct11 : Value} {f11 : Addr} {od12 an12 : Option Addr} {sl12 : Array (Option Value)} {oc12 kV12 dc12 pm12 cd12 ct12 : Value} {f12 : Addr} {od13 an13 : Option Addr} {sl13 : Array (Option Value)} {oc13 kV13 dc13 pm13 cd13 ct13 : Value} {f13 : Addr} {od14 an14 : Option Addr} {sl14 : Array (Option Value)} {oc14 kV14 dc14 pm14 cd14 ct14 : Value} {f14 : Addr} {od15 an15 : Option Addr} {sl15 : Array (Option Value)} {oc15 kV15 dc15 pm15 cd15 ct15 : Value} {f15 : Addr} {od16 an16 : Option Addr} {sl16 : Array (Option Value)} {oc16 kV16 dc16 pm16 cd16 ct16 : Value} {f16 : Addr} {od17 an17 : Option Addr} {sl17 : Array (Option Value)} {oc17 kV17 dc17 pm17 cd17 ct17 : Value} {f17 : Addr} {od18 an18 : Option Addr} {sl18 : Array (Option Value)} {oc18 kV18 dc18 pm18 cd18 ct18 : Value} {f18 : Addr} {gt0 : Tok} {C_TooWide : Addr}
    (a0 : PySem.W.nsIn K mainGlobals "next_to" = some (some (.ref f0))) (l0 : K.lookup f0 = some ⟨oc0, od0, .func (PySem.W.fnOf "next_to" "next_to" (defArgs s_next_to) (defBody s_next_to) (defScope s_next_to) .none kV0 dc0 pm0 an0 cd0 ct0), sl0⟩) (c0 : PySem.W.codeIn K cd0 "next_to" = true) (k0 : PySem.W.keepIn K (.ref f0) = true)
    (a1 : PySem.W.nsIn K mainGlobals "edge_behind" = some (some (.ref f1))) (l1 : K.lookup f1 = some ⟨oc1, od1, .func (PySem.W.fnOf "edge_behind" "edge_behind" (defArgs s_edge_behind) (defBody s_edge_behind) (defScope s_edge_behind) .none kV1 dc1 pm1 an1 cd1 ct1), sl1⟩) (c1 : PySem.W.codeIn K cd1 "edge_behind" = true) (k1 : PySem.W.keepIn K (.ref f1) = true)
    (a2 : PySem.W.nsIn K mainGlobals "met" = some (some (.ref f2))) (l2 : K.lookup f2 = some ⟨oc2, od2, .func (PySem.W.fnOf "met" "met" (defArgs s_met) (defBody s_met) (defScope s_met) .none kV2 dc2 pm2 an2 cd2 ct2), sl2⟩) (c2 : PySem.W.codeIn K cd2 "met" = true) (k2 : PySem.W.keepIn K (.ref f2) = true)
    (a3 : PySem.W.nsIn K mainGlobals "breathes_now" = some (some (.ref f3))) (l3 : K.lookup f3 = some ⟨oc3, od3, .func (PySem.W.fnOf "breathes_now" "breathes_now" (defArgs s_breathes_now) (defBody s_breathes_now) (defScope s_breathes_now) .none kV3 dc3 pm3 an3 cd3 ct3), sl3⟩) (c3 : PySem.W.codeIn K cd3 "breathes_now" = true) (k3 : PySem.W.keepIn K (.ref f3) = true)
    (a4 : PySem.W.nsIn K mainGlobals "grown" = some (some (.ref f4))) (l4 : K.lookup f4 = some ⟨oc4, od4, .func (PySem.W.fnOf "grown" "grown" (defArgs s_grown) (defBody s_grown) (defScope s_grown) .none kV4 dc4 pm4 an4 cd4 ct4), sl4⟩) (c4 : PySem.W.codeIn K cd4 "grown" = true) (k4 : PySem.W.keepIn K (.ref f4) = true)
    (a5 : PySem.W.nsIn K mainGlobals "kept_rows" = some (some (.ref f5))) (l5 : K.lookup f5 = some ⟨oc5, od5, .func (PySem.W.fnOf "kept_rows" "kept_rows" (defArgs s_kept_rows) (defBody s_kept_rows) (defScope s_kept_rows) .none kV5 dc5 pm5 an5 cd5 ct5), sl5⟩) (c5 : PySem.W.codeIn K cd5 "kept_rows" = true) (k5 : PySem.W.keepIn K (.ref f5) = true)
    (a6 : PySem.W.nsIn K mainGlobals "added" = some (some (.ref f6))) (l6 : K.lookup f6 = some ⟨oc6, od6, .func (PySem.W.fnOf "added" "added" (defArgs s_added) (defBody s_added) (defScope s_added) .none kV6 dc6 pm6 an6 cd6 ct6), sl6⟩) (c6 : PySem.W.codeIn K cd6 "added" = true) (k6 : PySem.W.keepIn K (.ref f6) = true)
    (a7 : PySem.W.nsIn K mainGlobals "sound_by_stones" = some (some (.ref f7))) (l7 : K.lookup f7 = some ⟨oc7, od7, .func (PySem.W.fnOf "sound_by_stones" "sound_by_stones" (defArgs s_sound_by_stones) (defBody s_sound_by_stones) (defScope s_sound_by_stones) .none kV7 dc7 pm7 an7 cd7 ct7), sl7⟩) (c7 : PySem.W.codeIn K cd7 "sound_by_stones" = true) (k7 : PySem.W.keepIn K (.ref f7) = true)
    (a8 : PySem.W.nsIn K mainGlobals "sound_many" = some (some (.ref f8))) (l8 : K.lookup f8 = some ⟨oc8, od8, .func (PySem.W.fnOf "sound_many" "sound_many" (defArgs s_sound_many) (defBody s_sound_many) (defScope s_sound_many) .none kV8 dc8 pm8 an8 cd8 ct8), sl8⟩) (c8 : PySem.W.codeIn K cd8 "sound_many" = true) (k8 : PySem.W.keepIn K (.ref f8) = true)
    (a9 : PySem.W.nsIn K mainGlobals "_law_cell_at" = some (some (.ref f9))) (l9 : K.lookup f9 = some ⟨oc9, od9, .func (PySem.W.fnOf "_law_cell_at" "_law_cell_at" (defArgs s__law_cell_at) (defBody s__law_cell_at) (defScope s__law_cell_at) .none kV9 dc9 pm9 an9 cd9 ct9), sl9⟩) (c9 : PySem.W.codeIn K cd9 "_law_cell_at" = true) (k9 : PySem.W.keepIn K (.ref f9) = true)
    (a10 : PySem.W.nsIn K mainGlobals "_law_numbers" = some (some (.ref f10))) (l10 : K.lookup f10 = some ⟨oc10, od10, .func (PySem.W.fnOf "_law_numbers" "_law_numbers" (defArgs s__law_numbers) (defBody s__law_numbers) (defScope s__law_numbers) .none kV10 dc10 pm10 an10 cd10 ct10), sl10⟩) (c10 : PySem.W.codeIn K cd10 "_law_numbers" = true) (k10 : PySem.W.keepIn K (.ref f10) = true)
    (a11 : PySem.W.nsIn K mainGlobals "_law_whole" = some (some (.ref f11))) (l11 : K.lookup f11 = some ⟨oc11, od11, .func (PySem.W.fnOf "_law_whole" "_law_whole" (defArgs s__law_whole) (defBody s__law_whole) (defScope s__law_whole) .none kV11 dc11 pm11 an11 cd11 ct11), sl11⟩) (c11 : PySem.W.codeIn K cd11 "_law_whole" = true) (k11 : PySem.W.keepIn K (.ref f11) = true)
    (a12 : PySem.W.nsIn K mainGlobals "_law_row" = some (some (.ref f12))) (l12 : K.lookup f12 = some ⟨oc12, od12, .func (PySem.W.fnOf "_law_row" "_law_row" (defArgs s__law_row) (defBody s__law_row) (defScope s__law_row) .none kV12 dc12 pm12 an12 cd12 ct12), sl12⟩) (c12 : PySem.W.codeIn K cd12 "_law_row" = true) (k12 : PySem.W.keepIn K (.ref f12) = true)
    (a13 : PySem.W.nsIn K mainGlobals "_law_product" = some (some (.ref f13))) (l13 : K.lookup f13 = some ⟨oc13, od13, .func (PySem.W.fnOf "_law_product" "_law_product" (defArgs s__law_product) (defBody s__law_product) (defScope s__law_product) .none kV13 dc13 pm13 an13 cd13 ct13), sl13⟩) (c13 : PySem.W.codeIn K cd13 "_law_product" = true) (k13 : PySem.W.keepIn K (.ref f13) = true)
    (a14 : PySem.W.nsIn K mainGlobals "_law_sum" = some (some (.ref f14))) (l14 : K.lookup f14 = some ⟨oc14, od14, .func (PySem.W.fnOf "_law_sum" "_law_sum" (defArgs s__law_sum) (defBody s__law_sum) (defScope s__law_sum) .none kV14 dc14 pm14 an14 cd14 ct14), sl14⟩) (c14 : PySem.W.codeIn K cd14 "_law_sum" = true) (k14 : PySem.W.keepIn K (.ref f14) = true)
    (a15 : PySem.W.nsIn K mainGlobals "_law_next" = some (some (.ref f15))) (l15 : K.lookup f15 = some ⟨oc15, od15, .func (PySem.W.fnOf "_law_next" "_law_next" (defArgs s__law_next) (defBody s__law_next) (defScope s__law_next) .none kV15 dc15 pm15 an15 cd15 ct15), sl15⟩) (c15 : PySem.W.codeIn K cd15 "_law_next" = true) (k15 : PySem.W.keepIn K (.ref f15) = true)
    (a16 : PySem.W.nsIn K mainGlobals "_law_columns" = some (some (.ref f16))) (l16 : K.lookup f16 = some ⟨oc16, od16, .func (PySem.W.fnOf "_law_columns" "_law_columns" (defArgs s__law_columns) (defBody s__law_columns) (defScope s__law_columns) .none kV16 dc16 pm16 an16 cd16 ct16), sl16⟩) (c16 : PySem.W.codeIn K cd16 "_law_columns" = true) (k16 : PySem.W.keepIn K (.ref f16) = true)
    (a17 : PySem.W.nsIn K mainGlobals "_law_ties" = some (some (.ref f17))) (l17 : K.lookup f17 = some ⟨oc17, od17, .func (PySem.W.fnOf "_law_ties" "_law_ties" (defArgs s__law_ties) (defBody s__law_ties) (defScope s__law_ties) .none kV17 dc17 pm17 an17 cd17 ct17), sl17⟩) (c17 : PySem.W.codeIn K cd17 "_law_ties" = true) (k17 : PySem.W.keepIn K (.ref f17) = true)
    (a18 : PySem.W.nsIn K mainGlobals "law" = some (some (.ref f18))) (l18 : K.lookup f18 = some ⟨oc18, od18, .func (PySem.W.fnOf "law" "law" (defArgs s_law) (defBody s_law) (defScope s_law) .none kV18 dc18 pm18 an18 cd18 ct18), sl18⟩) (c18 : PySem.W.codeIn K cd18 "law" = true) (k18 : PySem.W.keepIn K (.ref f18) = true)
    (z_sorted : PySem.W.nsIn K mainGlobals "sorted" = some none)
    (z_tuple : PySem.W.nsIn K mainGlobals "tuple" = some none)
    (z_len : PySem.W.nsIn K mainGlobals "len" = some none)
    (z_range : PySem.W.nsIn K mainGlobals "range" = some none)
    (z_int : PySem.W.nsIn K mainGlobals "int" = some none)
    (z_sum : PySem.W.nsIn K mainGlobals "sum" = some none)
    (z_max : PySem.W.nsIn K mainGlobals "max" = some none)
    (z_isinstance : PySem.W.nsIn K mainGlobals "isinstance" = some none)
    (z_bool : PySem.W.nsIn K mainGlobals "bool" = some none)
    (z_list : PySem.W.nsIn K mainGlobals "list" = some none)
    (ga0 : PySem.W.nsIn K mainGlobals "FRESH" = some (some (.int 1000 gt0)))
    (xa_TooWide : PySem.W.nsIn K mainGlobals "TooWide" = some (some (.ref C_TooWide)))
    (xk_TooWide : PySem.W.keepIn K (.ref C_TooWide) = true)
    (xb_TooWide : PySem.W.subIn K (.ref C_TooWide) (.type "BaseException") = some true)
    (xt_TooWide : PySem.W.typeIn K (.ref C_TooWide) = some (.type "type"))
    (xi_TooWide : PySem.W.isClsIn K C_TooWide = true)
    (xg_TooWide : PySem.W.findIn K (.ref C_TooWide) "__getattribute__" = some (some (.builtin "BaseException.__getattribute__")))
    (xr_TooWide : PySem.W.findIn K (.ref C_TooWide) "__getattr__" = some none)
    (xd_TooWide : PySem.W.hasDictIn K C_TooWide = true)
    (xc_TooWide : PySem.W.findIn K (.ref C_TooWide) "__class__" = some (some (.builtin "object.__class__")))
    (xm_TooWide : PySem.W.mroIn K C_TooWide (.type "object") = some true)
    (xs_TooWide : PySem.W.subIn K (.ref C_TooWide) (.ref C_TooWide) = some true)
    (xx_TooWide : PySem.W.excIn K C_TooWide vB "ValueError.__new__" = true)
    (xn : PySem.W.specialIn K (.builtin "object.__class__") "__get__" = some (some (.builtin "getset_descriptor.__get__")))
    (xz : PySem.W.takesIn K (.builtin "object.__class__") = some true)
    : ∃ fd : FuncData, (∀ (s : Shared) (v : Value), BindsTo s fd ⟨[v], []⟩ [("_law_script", v)]) ∧ ∀ base : Heap, K.In base → base.Ns mainGlobals mg → FnOk l.prog w K mg base (L2.CX l.prog w) 5 fa fd ["_law_script"] (spLaw K) := by
  have e := hfa.symm.trans (PySem.W.mg_of X G a18)
  cases e
  letI : Md := ⟨mg⟩
  letI : Pw := ⟨l.prog, w⟩
  have b_sorted := PySem.W.mg_none_of X G z_sorted
  have b_tuple := PySem.W.mg_none_of X G z_tuple
  have b_len := PySem.W.mg_none_of X G z_len
  have b_range := PySem.W.mg_none_of X G z_range
  have b_int := PySem.W.mg_none_of X G z_int
  have b_sum := PySem.W.mg_none_of X G z_sum
  have b_max := PySem.W.mg_none_of X G z_max
  have b_isinstance := PySem.W.mg_none_of X G z_isinstance
  have b_bool := PySem.W.mg_none_of X G z_bool
  have b_list := PySem.W.mg_none_of X G z_list
  have cl_TooWide : Cl K mg "TooWide" C_TooWide := ⟨PySem.W.mg_of X G xa_TooWide, xk_TooWide, xb_TooWide, xt_TooWide, xi_TooWide, ⟨xg_TooWide, xr_TooWide, xb_TooWide, xd_TooWide, xc_TooWide, xn, xz, xm_TooWide⟩, xs_TooWide⟩
  have x_TooWide : HasCl K mg "TooWide" := ⟨C_TooWide, cl_TooWide, xx_TooWide⟩
  have g_FRESH := gint_mk X G ga0
  have d_next_to := isDef_mk (st := s_next_to) X G a0 l0 c0 k0
  have d_edge_behind := isDef_mk (st := s_edge_behind) X G a1 l1 c1 k1
  have d_met := isDef_mk (st := s_met) X G a2 l2 c2 k2
  have d_breathes_now := isDef_mk (st := s_breathes_now) X G a3 l3 c3 k3
  have d_grown := isDef_mk (st := s_grown) X G a4 l4 c4 k4
  have d_kept_rows := isDef_mk (st := s_kept_rows) X G a5 l5 c5 k5
  have d_added := isDef_mk (st := s_added) X G a6 l6 c6 k6
  have d_sound_by_stones := isDef_mk (st := s_sound_by_stones) X G a7 l7 c7 k7
  have d_sound_many := isDef_mk (st := s_sound_many) X G a8 l8 c8 k8
  have d__law_cell_at := isDef_mk (st := s__law_cell_at) X G a9 l9 c9 k9
  have d__law_numbers := isDef_mk (st := s__law_numbers) X G a10 l10 c10 k10
  have d__law_whole := isDef_mk (st := s__law_whole) X G a11 l11 c11 k11
  have d__law_row := isDef_mk (st := s__law_row) X G a12 l12 c12 k12
  have d__law_product := isDef_mk (st := s__law_product) X G a13 l13 c13 k13
  have d__law_sum := isDef_mk (st := s__law_sum) X G a14 l14 c14 k14
  have d__law_next := isDef_mk (st := s__law_next) X G a15 l15 c15 k15
  have d__law_columns := isDef_mk (st := s__law_columns) X G a16 l16 c16 k16
  have d__law_ties := isDef_mk (st := s__law_ties) X G a17 l17 c17 k17
  refine ⟨PySem.W.fnOf "law" "law" (defArgs s_law) (defBody s_law) (defScope s_law) .none kV18 dc18 pm18 an18 cd18 ct18, fun s v => .of_eq rfl, fun base _ _ => ?_⟩
  have c_next_to := cal_next_to (base := base) d_next_to  b_sorted  
  have c_edge_behind := cal_edge_behind (base := base) d_edge_behind    
  have c_met := cal_met (base := base) d_met    
  have c_breathes_now := cal_breathes_now (base := base) d_breathes_now    
  have c_grown := cal_grown (base := base) d_grown c_met c_breathes_now  g_FRESH 
  have c_kept_rows := cal_kept_rows (base := base) d_kept_rows  b_tuple  
  have c_added := cal_added (base := base) d_added  b_len b_range  
  have c_sound_by_stones := cal_sound_by_stones (base := base) d_sound_by_stones c_next_to c_edge_behind c_grown c_kept_rows c_added b_range b_len b_int  x_TooWide
  have c_sound_many := cal_sound_many (base := base) d_sound_many c_sound_by_stones b_sum  
  have c__law_cell_at := cal__law_cell_at (base := base) d__law_cell_at  b_len  
  have c__law_numbers := cal__law_numbers (base := base) d__law_numbers  b_max b_len b_range  
  have c__law_whole := cal__law_whole (base := base) d__law_whole  b_isinstance b_int b_bool  
  have c__law_row := cal__law_row (base := base) d__law_row  b_isinstance b_list b_len b_range b_int b_bool  
  have c__law_product := cal__law_product (base := base) d__law_product  b_len b_range  
  have c__law_sum := cal__law_sum (base := base) d__law_sum  b_len b_max b_range  
  have c__law_next := cal__law_next (base := base) d__law_next  b_range  
  have c__law_columns := cal__law_columns (base := base) d__law_columns c__law_sum c__law_next b_range b_int  
  have c__law_ties := cal__law_ties (base := base) d__law_ties  b_range  
  exact law_ok (fn_law (fun_mk (st := s_law) l18 c18 k18) c_sound_by_stones c_sound_many c__law_cell_at c__law_numbers c__law_whole c__law_row c__law_product c__law_columns c__law_ties b_sorted b_tuple b_sum b_range  ) hg
end K96

namespace K96
open PySem PySem.Spec PyProof.Rows L2 G
theorem numbers (c : Int) (sizes : List Int) (hl : sizes.length ≤ 100000) (hs : ∀ z ∈ sizes, 0 < z ∧ z < 10 ^ 70) : Sat (m_l_numbers c sizes) (Digits sizes) := by
  unfold m_l_numbers
  refine .bok (.bok (.bok (.bassoc (.brange (by omega) (by omega) ?_))))
  rw [Int.toNat_natCast]
  refine .bind (P := fun s => Digits sizes s.1) ?_ fun s p => .ok p
  refine (Sat.foldR (fun i s => s.1.length = i ∧ ∀ (j : Nat) (d z : Int), s.1[j]? = some d → sizes[j]? = some z → 0 ≤ d ∧ d < z) ⟨rfl, fun j d z h => by cases h⟩ ?_).imp fun s ⟨a, b⟩ => ⟨by rw [a, rangeL_len], b⟩
  intro i s a ha ⟨l, p⟩
  obtain ⟨hi, rfl⟩ := rangeL0 ha
  obtain ⟨z, hz⟩ : ∃ z, sizes[i]? = some z := ⟨_, get_of hi⟩
  have hz0 := hs z (List.mem_of_getElem? hz)
  have fin : ∀ (x : Int) (y : Int), Sat (Res.ok ((s.1 ++ [x % z]), y)) (fun s : List Int × Int => s.1.length = i + 1 ∧ ∀ (j : Nat) (d z : Int), s.1[j]? = some d → sizes[j]? = some z → 0 ≤ d ∧ d < z) := by
    intro x y
    refine .ok ⟨by rw [List.length_append, l]; rfl, fun j d z' hd hz' => ?_⟩
    by_cases hj : j < s.1.length
    · rw [List.getElem?_append_left hj] at hd
      exact p j d z' hd hz'
    · rw [List.getElem?_append_right (by omega)] at hd
      have : j = i := by
        have := (List.getElem?_eq_some_iff.mp hd).1
        rw [List.length_singleton] at this
        omega
      subst this
      rw [l, Nat.sub_self] at hd
      injection hd with hd
      rw [hz] at hz'
      injection hz' with hz'
      subst hz' hd
      exact ⟨Int.emod_nonneg _ (by omega), Int.emod_lt_of_pos _ hz0.1⟩
  have gz : sizes[(i : Int).toNat]? = some z := by rw [Int.toNat_natCast]; exact hz
  have B1 : ∀ x : Int, -(2 ^ 64) < x % 2147483647 ∧ x % 2147483647 < 2 ^ 64 := fun x => by omega
  repeat' first
    | with_reducible refine Sat.bassoc ?_
    | with_reducible refine Sat.bok ?_
    | with_reducible refine Sat.bite (fun _ => ?_) (fun _ => ?_)
    | with_reducible refine Sat.bidx (by omega) gz ?_
    | with_reducible refine Sat.bmul (by first | exact .inl (by omega) | exact .inr (by omega) | exact .inl (B1 _)) ?_
    | with_reducible refine Sat.bmod (by first | exact hz0.1 | omega) ?_
    | with_reducible refine Sat.bdiv (by first | exact hz0.1 | omega) (by first | exact hz0.2 | omega) ?_
    | with_reducible refine Sat.bapp (by omega) ?_
    | exact fin _ _
theorem nextTo (w : Int × Tup (Int × Int)) (h : WebOk w) (k : Int) : m_next_to w k = .ok (nextL w k) := by
  refine Sat.eq ?_
  unfold m_next_to
  have hl := h.len
  refine .bok ?_
  refine .bind (Sat.foldR (fun i s => s = nbrs (w.2.l.take i) k) (by rw [List.take_zero]; rfl) ?_) fun s e => ?_
  · rintro i s t ht rfl
    have hi := (List.getElem?_eq_some_iff.mp ht).1
    have hb := nbrs_len (ts := w.2.l.take i) (k := k)
    rw [List.length_take] at hb
    have e : nbrs (w.2.l.take (i + 1)) k = nbrs (w.2.l.take i) k ++ nbr k t := by
      unfold nbrs
      rw [List.take_succ, ht, List.flatMap_append]
      simp
    rw [e]
    unfold nbr
    by_cases h1 : t.1 = k <;> by_cases h2 : t.2 = k
    · rw [eqII, eqII, decide_eq_true h1, decide_eq_true h2, if_pos h1, if_pos h2]
      refine .bassoc (.bapp (by omega) (.bok (.bassoc (.bapp (by rw [List.length_append, List.length_singleton]; omega) (.bok (.ok ?_))))))
      rw [List.append_assoc]
    · rw [eqII, eqII, decide_eq_true h1, decide_eq_false h2, if_pos h1, if_neg h2, List.append_nil]
      exact .bassoc (.bapp (by omega) (.bok (.bok (.ok rfl))))
    · rw [eqII, eqII, decide_eq_false h1, decide_eq_true h2, if_neg h1, if_pos h2, List.nil_append]
      exact .bok (.bassoc (.bapp (by omega) (.bok (.ok rfl))))
    · rw [eqII, eqII, decide_eq_false h1, decide_eq_false h2, if_neg h1, if_neg h2, List.append_nil, List.append_nil]
      exact .bok (.bok (.ok rfl))
  · subst e
    rw [List.take_length]
    exact .ok (sort_nbrs h k)
inductive Con (T : Int → Int → Prop) (f : Int → Nat) (k : Int) (a : Int) : Int → Prop
  | here : Con T f k a a
  | on {x y : Int} : Con T f k a x → T x y → x < k → y < k → f x = f y → Con T f k a y
section
variable {T : Int → Int → Prop} {f : Int → Nat} {k a b c : Int}
theorem Con.sg (h : Con T f k a b) : f a = f b := by
  induction h with
  | here => rfl
  | on _ _ _ _ e ih => exact ih.trans e
theorem Con.trans (h : Con T f k a b) (g : Con T f k b c) : Con T f k a c := by
  induction g with
  | here => exact h
  | on _ t l1 l2 e ih => exact .on ih t l1 l2 e
theorem Con.symm (ts : ∀ {x y}, T x y → T y x) (h : Con T f k a b) : Con T f k b a := by
  induction h with
  | here => exact .here
  | on _ t l1 l2 e ih => exact Con.trans (.on .here (ts t) l2 l1 e.symm) ih
theorem Con.lt (h : Con T f k a b) (l : a < k) : b < k := by
  cases h with
  | here => exact l
  | on _ _ _ l2 _ => exact l2
theorem Con.up {k' : Int} (l : k ≤ k') (h : Con T f k a b) : Con T f k' a b := by
  induction h with
  | here => exact .here
  | on _ t l1 l2 e ih => exact .on ih t (by omega) (by omega) e
theorem Con.out (h : Con T f k a b) (l : k ≤ a) : b = a := by
  induction h with
  | here => rfl
  | on _ t l1 l2 e ih => omega
theorem Con.out2 (h : Con T f k a b) (l : k ≤ b) : a = b := by
  cases h with
  | here => rfl
  | on _ _ _ l2 _ => omega
def Jn (T : Int → Int → Prop) (f : Int → Nat) (k a : Int) : Prop := a = k ∨ ∃ m, T m k ∧ m < k ∧ f m = f k ∧ Con T f k m a
theorem Jn.go (h : Jn T f k a) (g : Con T f k a b) : Jn T f k b := by
  rcases h with rfl | ⟨m, t, l, e, cm⟩
  · exact .inl (g.out (Int.le_refl _))
  · exact .inr ⟨m, t, l, e, cm.trans g⟩
theorem Jn.con (h : Jn T f k a) : Con T f (k + 1) k a ∨ (∀ x y, T x y → T y x) → (∀ x y, T x y → T y x) → Con T f (k + 1) k a := by
  intro _ ts
  rcases h with rfl | ⟨m, t, l, e, cm⟩
  · exact .here
  · exact (Con.on .here (ts _ _ t) (by omega) (by omega) e.symm).trans (cm.up (by omega))
theorem con_succ (ts : ∀ x y, T x y → T y x) : Con T f (k + 1) a c ↔ Con T f k a c ∨ (Jn T f k a ∧ Jn T f k c) := by
  constructor
  · intro h
    induction h with
    | here => exact .inl .here
    | @on x y _ t l1 l2 e ih =>
      by_cases xk : x = k
      · subst xk
        have ja : Jn T f x a := by
          rcases ih with ih | ih
          · exact .inl (ih.out2 (Int.le_refl _))
          · exact ih.1
        by_cases yk : y = x
        · subst yk; exact .inr ⟨ja, .inl rfl⟩
        · exact .inr ⟨ja, .inr ⟨y, ts _ _ t, by omega, e.symm, .here⟩⟩
      · by_cases yk : y = k
        · subst yk
          refine .inr ⟨?_, .inl rfl⟩
          rcases ih with ih | ih
          · exact .inr ⟨x, t, by omega, e, ih.symm fun {_ _} => ts _ _⟩
          · exact ih.1
        · rcases ih with ih | ih
          · exact .inl (.on ih t (by omega) (by omega) e)
          · exact .inr ⟨ih.1, ih.2.go (.on .here t (by omega) (by omega) e)⟩
  · rintro (h | ⟨h1, h2⟩)
    · exact h.up (by omega)
    · exact (Con.symm (fun {_ _} => ts _ _) (h1.con (.inr ts) ts)).trans (h2.con (.inr ts) ts)
def Br (T : Int → Int → Prop) (f : Int → Nat) (k a : Int) : Prop := ∃ c m, Con T f k a c ∧ c < k ∧ T c m ∧ m < k ∧ f m = 46
theorem Br.go (ts : ∀ x y, T x y → T y x) (h : Br T f k a) (g : Con T f k a b) : Br T f k b := by
  obtain ⟨c, m, h1, h2⟩ := h
  exact ⟨c, m, (g.symm fun {_ _} => ts _ _).trans h1, h2⟩
theorem Br.up {k' : Int} (l : k ≤ k') (h : Br T f k a) : Br T f k' a := by
  obtain ⟨c, m, h1, h2, h3, h4, h5⟩ := h
  exact ⟨c, m, h1.up l, by omega, h3, by omega, h5⟩
theorem jn_dot (hk : f k = 46) (ha : f a ≠ 46) : ¬ Jn T f k a := by
  rintro (rfl | ⟨m, t, l, e, cm⟩)
  · exact ha hk
  · exact ha (by rw [← cm.sg, e, hk])
theorem con_dot (ts : ∀ x y, T x y → T y x) (hk : f k = 46) (ha : f a ≠ 46) : Con T f (k + 1) a c ↔ Con T f k a c := by
  rw [con_succ ts]
  exact ⟨fun h => h.elim id fun h => absurd h.1 (jn_dot hk ha), .inl⟩
theorem br_dot (ts : ∀ x y, T x y → T y x) (hk : f k = 46) (ha : f a ≠ 46) (la : a < k) : Br T f (k + 1) a ↔ Br T f k a ∨ ∃ c, Con T f k a c ∧ T c k := by
  constructor
  · rintro ⟨c, m, h1, h2, h3, h4, h5⟩
    have h1 := (con_dot ts hk ha).mp h1
    have lc := h1.lt la
    by_cases e : m = k
    · subst e; exact .inr ⟨c, h1, h3⟩
    · exact .inl ⟨c, m, h1, lc, h3, by omega, h5⟩
  · rintro (h | ⟨c, h1, h3⟩)
    · exact h.up (by omega)
    · have lc := h1.lt la
      exact ⟨c, k, h1.up (by omega), by omega, h3, by omega, hk⟩
theorem br_far (ts : ∀ x y, T x y → T y x) (hk : f k ≠ 46) (ha : ¬ Jn T f k a) (la : a < k) : Br T f (k + 1) a ↔ Br T f k a := by
  constructor
  · rintro ⟨c, m, h1, h2, h3, h4, h5⟩
    have h1 := ((con_succ ts).mp h1).resolve_right fun h => ha h.1
    have lc := h1.lt la
    have : m ≠ k := fun e => hk (e ▸ h5)
    exact ⟨c, m, h1, lc, h3, by omega, h5⟩
  · exact Br.up (by omega)
theorem br_join (ts : ∀ x y, T x y → T y x) (hk : f k ≠ 46) (ha : Jn T f k a) : Br T f (k + 1) a ↔ (∃ m, T m k ∧ m < k ∧ f m = 46) ∨ ∃ m, T m k ∧ m < k ∧ f m = f k ∧ Br T f k m := by
  constructor
  · rintro ⟨c, m, h1, h2, h3, h4, h5⟩
    have mk : m ≠ k := fun e => hk (e ▸ h5)
    have jc : Jn T f k c := by
      rcases (con_succ ts).mp h1 with h | h
      · exact ha.go h
      · exact h.2
    rcases jc with rfl | ⟨x, t, l, e, cm⟩
    · exact .inl ⟨m, ts _ _ h3, by omega, h5⟩
    · exact .inr ⟨x, t, l, e, c, m, cm, cm.lt l, h3, by omega, h5⟩
  · rintro (⟨m, t, l, e⟩ | ⟨m, t, l, e, c, y, h1, h2, h3, h4, h5⟩)
    · exact ⟨k, m, (con_succ ts).mpr (.inr ⟨ha, .inl rfl⟩), by omega, ts _ _ t, by omega, e⟩
    · exact ⟨c, y, (con_succ ts).mpr (.inr ⟨ha, .inr ⟨m, t, l, e, h1⟩⟩), by omega, h3, by omega, h5⟩
def Eg (T : Int → Int → Prop) (k a : Int) : Prop := 0 ≤ a ∧ a < k ∧ ∃ c, k ≤ c ∧ T a c
theorem never (f : Int → Nat) {n : Int} {ok : Int → Bool} {nb : Int → List Int} (hnb : ∀ x y, y ∈ nb x ↔ T x y) (t0 : ∀ x y, T x y → 0 ≤ x) (hok : ∀ y, ok y = decide (f y = f a)) (la : a < k) (nbr : ¬ Br T f k a) (ne : ∀ c, Eg T k c → ¬ Con T f k a c) :
    ¬ ∃ x, G.Reach nb ok a x ∧ ∃ y ∈ nb x, f y = 46 := by
  have key : ∀ x, G.Reach nb ok a x → Con T f k a x ∧ x < k := by
    intro x r
    induction r with
    | here => exact ⟨.here, la⟩
    | @on x y r m o ih =>
      have t := (hnb x y).mp m
      have ly : y < k := by
        refine Classical.byContradiction fun h => ne x ⟨t0 _ _ t, ih.2, y, by omega, t⟩ ih.1
      have o := o
      rw [hok, decide_eq_true_eq] at o
      exact ⟨.on ih.1 t ih.2 ly (by rw [← ih.1.sg, o]), ly⟩
  rintro ⟨x, r, y, m, e⟩
  have t := (hnb x y).mp m
  obtain ⟨cx, lx⟩ := key x r
  have ly : y < k := by
    refine Classical.byContradiction fun h => ne x ⟨t0 _ _ t, lx, y, by omega, t⟩ cx
  exact nbr ⟨x, y, cx, lx, t, ly, e⟩
end
def okD {α : Type} (d : α) (m : Res α) : α := match m with
  | .ok a => a
  | _ => d
theorem okD_ok {α : Type} {d a : α} {m : Res α} (h : m = .ok a) : okD d m = a := by rw [h]; rfl
abbrev Rw := G.T4 Int PySem.Str Int Bool
abbrev Ky := G.Tup Rw
theorem met_is {rows : List Rw} (hl : rows.length ≤ 1000) (near : List Int) (z : Str) : Sat (m_met ⟨rows⟩ near z) (fun l => l.length ≤ rows.length ∧ ∀ x, x ∈ l ↔ ∃ r ∈ rows, r.a ∈ near ∧ r.b = z ∧ r.c = x) := by
  unfold m_met
  refine .bok (.bind (Sat.foldR (fun i s => s.length ≤ i ∧ ∀ x, x ∈ s ↔ ∃ r ∈ rows.take i, r.a ∈ near ∧ r.b = z ∧ r.c = x) ⟨Nat.le_refl _, fun x => by simp⟩ ?_) fun s ⟨h1, h2⟩ => .ok ⟨h1, by rw [List.take_length] at h2; exact h2⟩)
  rintro i s r hr ⟨h1, h2⟩
  have hi : i < rows.length := (List.getElem?_eq_some_iff.mp hr).1
  have tk : ∀ {P : Rw → Prop}, (∃ y ∈ rows.take (i + 1), P y) ↔ (∃ y ∈ rows.take i, P y) ∨ P r := fun {P} => by
    rw [List.take_succ, hr]
    constructor
    · rintro ⟨y, m, p⟩
      rcases List.mem_append.mp m with m | m
      · exact .inl ⟨y, m, p⟩
      · exact .inr (by rw [← (List.mem_singleton.mp m : y = r)]; exact p)
    · rintro (⟨y, m, p⟩ | p)
      · exact ⟨y, List.mem_append_left _ m, p⟩
      · exact ⟨r, List.mem_append_right _ (List.mem_singleton.mpr rfl), p⟩
  by_cases c1 : r.a ∈ near
  · by_cases c2 : r.b = z
    · by_cases c3 : r.c ∈ s
      · rw [decide_eq_true c1, eqSS, decide_eq_true c2, decide_eq_true c3]
        refine .bok ?_
        refine .bok (.ok ⟨by omega, fun x => ?_⟩)
        rw [h2, tk]
        refine ⟨.inl, fun h => h.elim id fun ⟨_, _, e⟩ => ?_⟩
        rw [← h2, ← e]; exact c3
      · rw [decide_eq_true c1, eqSS, decide_eq_true c2, decide_eq_false c3]
        refine .bassoc (.bok (.bassoc (.bapp (by omega) (.bok (.ok ⟨by rw [List.length_append, List.length_singleton]; omega, fun x => ?_⟩)))))
        rw [List.mem_append, h2, tk, List.mem_singleton]
        exact ⟨fun h => h.imp id fun e => ⟨c1, c2, e.symm⟩, fun h => h.imp id fun ⟨_, _, e⟩ => e.symm⟩
    · rw [decide_eq_true c1, eqSS, decide_eq_false c2]
      refine .bok (.bok (.ok ⟨by omega, fun x => ?_⟩))
      rw [h2, tk]
      exact ⟨.inl, fun h => h.elim id fun ⟨_, e, _⟩ => absurd e c2⟩
  · rw [decide_eq_false c1]
    refine .bok (.bok (.ok ⟨by omega, fun x => ?_⟩))
    rw [h2, tk]
    exact ⟨.inl, fun h => h.elim id fun ⟨e, _, _⟩ => absurd e c1⟩
theorem now_is (rows : List Rw) (near own : List Int) : m_breathes_now ⟨rows⟩ near own = .ok (rows.any fun r => (decide (r.a ∈ near) && decide (r.b = dot)) || (decide (r.c ∈ own) && r.d)) := by
  unfold m_breathes_now
  have : ∀ rs : List Rw, loopO (L := Empty) (fun (s1 : Unit) (a2 : Rw) => ((Res.next (S := Unit) (Res.bind (if (decide (a2.a ∈ near)) then (Res.ok (ScaEq.eq a2.b (PySem.Str.ofString "."))) else (Res.ok false)) fun v4 => (if v4 then (Res.ok (Out.rt true)) else (Res.ok (Out.nx ())))) fun s3 => (Res.next (S := Unit) (Res.bind (if (decide (a2.c ∈ own)) then (Res.ok a2.d) else (Res.ok false)) fun v6 => (if v6 then (Res.ok (Out.rt true)) else (Res.ok (Out.nx ())))) fun s5 => (Res.ok (Out.nx ())))) : Res (Out (Unit) (Unit) Bool))) () rs = .ok (if (rs.any fun r => (decide (r.a ∈ near) && decide (r.b = dot)) || (decide (r.c ∈ own) && r.d)) = true then .rt true else .nx ()) := by
    intro rs
    refine loop_bad (fun r : Rw => (decide (r.a ∈ near) && decide (r.b = dot)) || (decide (r.c ∈ own) && r.d)) true fun r _ => ?_
    rw [eqSS]
    cases decide (r.a ∈ near) <;> cases decide (r.b = dot) <;> cases decide (r.c ∈ own) <;> cases r.d <;> rfl
  rw [this]
  cases (rows.any fun r => (decide (r.a ∈ near) && decide (r.b = dot)) || (decide (r.c ∈ own) && r.d)) <;> rfl
theorem grown_dot {rows : List Rw} (hl : rows.length ≤ 1000) (near : List Int) (k : Int) : Sat (m_grown ⟨rows⟩ near k dot) (fun g => ∃ t : List Int, (∀ x, x ∈ t ↔ ∃ r ∈ rows, r.a ∈ near ∧ (r.b = xS ∨ r.b = oS) ∧ r.c = x) ∧
    g = rows.map (fun r => (⟨r.a, r.b, r.c, r.d || decide (r.c ∈ t)⟩ : Rw)) ++ [⟨k, dot, -1, true⟩]) := by
  unfold m_grown
  rw [if_pos (by decide)]
  obtain ⟨x, ex, lx, hx⟩ := met_is hl near xS
  obtain ⟨o, eo, lo, ho⟩ := met_is hl near oS
  rw [ex, eo]
  refine .bassoc (.bok (.bassoc (.bok ?_)))
  rw [catR_ok (by omega)]
  refine .bok ?_
  rw [lcT_map (g' := fun r : Rw => (⟨r.a, r.b, r.c, r.d || decide (r.c ∈ x ++ o)⟩ : Rw)) (by show rows.length ≤ _; omega) (fun r _ => by
    cases hd : r.d
    · simp only [Bool.false_eq_true, if_false, Res.okb, Bool.false_or]
    · simp only [if_true, Res.okb, Bool.true_or])]
  refine .bok (.bapp (by rw [List.length_map]; show rows.length ≤ _; omega) (.ok ⟨x ++ o, fun y => ?_, rfl⟩))
  rw [List.mem_append, hx, ho]
  constructor
  · rintro (⟨r, m, h1, h2, h3⟩ | ⟨r, m, h1, h2, h3⟩)
    · exact ⟨r, m, h1, .inl h2, h3⟩
    · exact ⟨r, m, h1, .inr h2, h3⟩
  · rintro ⟨r, m, h1, h2 | h2, h3⟩
    · exact .inl ⟨r, m, h1, h2, h3⟩
    · exact .inr ⟨r, m, h1, h2, h3⟩
theorem grown_stone {rows : List Rw} (hl : rows.length ≤ 1000) (near : List Int) (k : Int) {z : Str} (hz : z ≠ dot) : Sat (m_grown ⟨rows⟩ near k z) (fun g => ∃ (t : List Int) (v : Bool), (∀ x, x ∈ t ↔ ∃ r ∈ rows, r.a ∈ near ∧ r.b = z ∧ r.c = x) ∧
    (v = true ↔ ∃ r ∈ rows, (r.a ∈ near ∧ r.b = dot) ∨ (r.c ∈ t ∧ r.d = true)) ∧
    g = rows.map (fun r => if r.c ∈ t then (⟨r.a, r.b, 1000, v⟩ : Rw) else r) ++ [⟨k, z, 1000, v⟩]) := by
  unfold m_grown
  rw [eqSS, decide_eq_false hz, if_neg (by decide)]
  obtain ⟨t, et, lt, ht⟩ := met_is hl near z
  rw [et]
  refine .bok ?_
  rw [now_is]
  refine .bok (.bok ?_)
  have e : ∀ v : Bool, Sat (foldR (fun (s15 : (List (G.T4 Int PySem.Str Int Bool))) (a16 : (G.T4 Int PySem.Str Int Bool)) => (Res.bind (if (decide (a16.c ∈ t)) then (Res.bind (appR s15 (⟨a16.a, a16.b, (1000 : Int), v⟩ : (G.T4 Int PySem.Str Int Bool))) fun found18 => (Res.ok found18)) else (Res.bind (appR s15 (⟨a16.a, a16.b, a16.c, a16.d⟩ : (G.T4 Int PySem.Str Int Bool))) fun found19 => (Res.ok found19))) fun s17 => (Res.ok s17))) [] rows) (fun s => s = rows.map (fun r => if r.c ∈ t then (⟨r.a, r.b, 1000, v⟩ : Rw) else r)) := by
    intro v
    refine (Sat.foldR (fun i s => s = (rows.take i).map (fun r => if r.c ∈ t then (⟨r.a, r.b, 1000, v⟩ : Rw) else r)) (by rw [List.take_zero]; rfl) ?_).imp fun s h => by rw [List.take_length] at h; exact h
    rintro i s r hr rfl
    have hi := (List.getElem?_eq_some_iff.mp hr).1
    have hlen : ((rows.take i).map (fun r => if r.c ∈ t then (⟨r.a, r.b, 1000, v⟩ : Rw) else r)).length ≤ 1000000 := by rw [List.length_map, List.length_take]; omega
    rw [List.take_succ, hr, List.map_append]
    by_cases c : r.c ∈ t
    · rw [decide_eq_true c]
      refine .bassoc (.bapp hlen (.bok (.ok ?_)))
      show _ = _ ++ [if r.c ∈ t then (⟨r.a, r.b, 1000, v⟩ : Rw) else r]
      rw [if_pos c]
    · rw [decide_eq_false c]
      refine .bassoc (.bapp hlen (.bok (.ok ?_)))
      show _ = _ ++ [if r.c ∈ t then (⟨r.a, r.b, 1000, v⟩ : Rw) else r]
      rw [if_neg c]
  refine .bind (e _) fun s hs => ?_
  subst hs
  refine .bapp (by rw [List.length_map]; omega) (.ok ⟨t, _, ht, ?_, rfl⟩)
  rw [List.any_eq_true]
  constructor
  · rintro ⟨r, m, h⟩
    refine ⟨r, m, ?_⟩
    simpa using h
  · rintro ⟨r, m, h⟩
    refine ⟨r, m, ?_⟩
    simpa using h
theorem index_is {xs : List Int} {x : Int} (h : x ∈ xs) : ∃ j : Nat, indexD xs x = .ok (j : Int) ∧ xs[j]? = some x := by
  unfold indexD
  rw [NoStr.lay, NoStr.lay]
  cases e : xs.findIdx? fun z => PyData.eqv (Dat.py z) (Dat.py x) with
  | none =>
    have := List.findIdx?_eq_none_iff.mp e x h
    rw [(DatEq.iff x x).mpr rfl] at this
    cases this
  | some j =>
    obtain ⟨hj, hz, _⟩ := List.findIdx?_eq_some_iff_getElem.mp e
    refine ⟨j, rfl, ?_⟩
    rw [List.getElem?_eq_getElem hj, (DatEq.iff _ _).mp hz]
def newc (ns : List Int) (r : Rw) : Int := if r.b = dot then -1 else okD 0 (indexD ns r.c)
def numsOf (l : List Rw) : List Int := l.foldl (fun s r => if r.b ≠ dot ∧ r.c ∉ s then s ++ [r.c] else s) []
theorem nums_snoc (l : List Rw) (r : Rw) : numsOf (l ++ [r]) = if r.b ≠ dot ∧ r.c ∉ numsOf l then numsOf l ++ [r.c] else numsOf l := by
  unfold numsOf
  rw [List.foldl_append]
  rfl
theorem kept_is {rows : List Rw} (hl : rows.length ≤ 1000) (edge : List Int) : Sat (m_kept_rows rows edge) (fun o => ∃ ns : List Int, ns.length ≤ rows.length ∧ ns = numsOf (rows.filter fun r => decide (r.a ∈ edge)) ∧ (∀ x, x ∈ ns ↔ ∃ r ∈ rows, r.a ∈ edge ∧ r.b ≠ dot ∧ r.c = x) ∧
    o = if rows.any (fun r => !r.d && !decide (r.c ∈ ns)) then none else some ⟨(rows.filter fun r => decide (r.a ∈ edge)).map fun r => (⟨r.a, r.b, newc ns r, r.d⟩ : Rw)⟩) := by
  unfold m_kept_rows
  refine .bind (.lcT (p' := fun r : Rw => decide (r.a ∈ edge)) (g' := fun r => r) (P := fun l => l = rows.filter fun r => decide (r.a ∈ edge)) (by omega) (fun _ _ => rfl) (fun _ _ _ => rfl) (by rw [List.map_id'])) fun kp ek => ?_
  subst ek
  have hk : (rows.filter fun r => decide (r.a ∈ edge)).length ≤ rows.length := List.length_filter_le _ _
  generalize hkp : (rows.filter fun r => decide (r.a ∈ edge)) = kp at hk
  have mk : ∀ r, r ∈ kp ↔ r ∈ rows ∧ r.a ∈ edge := fun r => by rw [← hkp, List.mem_filter, decide_eq_true_eq]
  refine .bok (.bind (Sat.foldR (fun i s => s.length ≤ i ∧ s = numsOf (kp.take i) ∧ ∀ x, x ∈ s ↔ ∃ r ∈ kp.take i, r.b ≠ dot ∧ r.c = x) ⟨Nat.le_refl _, rfl, fun x => by simp⟩ ?_) fun ns ⟨h1, hnum, h2⟩ => ?_)
  · rintro i s r hr ⟨h1, hnum, h2⟩
    have hi := (List.getElem?_eq_some_iff.mp hr).1
    have tk : ∀ {P : Rw → Prop}, (∃ y ∈ kp.take (i + 1), P y) ↔ (∃ y ∈ kp.take i, P y) ∨ P r := fun {P} => by
      rw [List.take_succ, hr]
      constructor
      · rintro ⟨y, m, p⟩
        rcases List.mem_append.mp m with m | m
        · exact .inl ⟨y, m, p⟩
        · exact .inr (by rw [← (List.mem_singleton.mp m : y = r)]; exact p)
      · rintro (⟨y, m, p⟩ | p)
        · exact ⟨y, List.mem_append_left _ m, p⟩
        · exact ⟨r, List.mem_append_right _ (List.mem_singleton.mpr rfl), p⟩
    have tn : numsOf (kp.take (i + 1)) = if r.b ≠ dot ∧ r.c ∉ s then s ++ [r.c] else s := by
      rw [List.take_succ, hr]
      show numsOf (kp.take i ++ [r]) = _
      rw [nums_snoc, ← hnum]
    by_cases c2 : r.b = dot
    · rw [eqSS, decide_eq_true c2]
      refine .bassoc (.bok (.bok (.ok ⟨by omega, by rw [tn, if_neg (fun z => z.1 c2)], fun x => ?_⟩)))
      rw [h2, tk]
      exact ⟨.inl, fun h => h.elim id fun ⟨e, _⟩ => absurd c2 e⟩
    · by_cases c3 : r.c ∈ s
      · rw [eqSS, decide_eq_false c2, decide_eq_true c3]
        refine .bassoc (.bok (.bok (.ok ⟨by omega, by rw [tn, if_neg (fun z => z.2 c3)], fun x => ?_⟩)))
        rw [h2, tk]
        refine ⟨.inl, fun h => h.elim id fun ⟨_, e⟩ => ?_⟩
        rw [← h2, ← e]; exact c3
      · rw [eqSS, decide_eq_false c2, decide_eq_false c3]
        refine .bassoc (.bok (.bassoc (.bapp (by omega) (.bok (.ok ⟨by rw [List.length_append, List.length_singleton]; omega, by rw [tn, if_pos ⟨c2, c3⟩], fun x => ?_⟩)))))
        rw [List.mem_append, h2, tk, List.mem_singleton]
        exact ⟨fun h => h.imp id fun e => ⟨c2, e.symm⟩, fun h => h.imp id fun ⟨_, e⟩ => e.symm⟩
  rw [List.take_length] at h2 hnum
  have h3 : ∀ x, x ∈ ns ↔ ∃ r ∈ rows, r.a ∈ edge ∧ r.b ≠ dot ∧ r.c = x := fun x => by
    rw [h2]
    constructor
    · rintro ⟨r, m, h⟩; exact ⟨r, ((mk r).mp m).1, ((mk r).mp m).2, h⟩
    · rintro ⟨r, m, e, h⟩; exact ⟨r, (mk r).mpr ⟨m, e⟩, h⟩
  rw [loop_bad (fun r : Rw => !r.d && !decide (r.c ∈ ns)) none (xs := rows) fun r _ => by
    cases r.d <;> cases decide (r.c ∈ ns) <;> rfl]
  cases hany : rows.any fun r => !r.d && !decide (r.c ∈ ns) with
  | true =>
    rw [if_pos rfl]
    exact .ok ⟨ns, by omega, hnum, h3, by rw [if_pos hany]⟩
  | false =>
    rw [if_neg (by decide)]
    refine .bok (.bok (.bind (P := fun s => s = kp.map fun r => (⟨r.a, r.b, newc ns r, r.d⟩ : Rw)) ?_ fun s hs => .ok ⟨ns, by omega, hnum, h3, by rw [hany, if_neg (by decide), hs]⟩))
    refine (Sat.foldR (fun i s => s = (kp.take i).map fun r => (⟨r.a, r.b, newc ns r, r.d⟩ : Rw)) (by rw [List.take_zero]; rfl) ?_).imp fun s h => by rw [List.take_length] at h; exact h
    rintro i s r hr rfl
    have hi := (List.getElem?_eq_some_iff.mp hr).1
    have mr := List.mem_of_getElem? hr
    have hlen : ((kp.take i).map fun r => (⟨r.a, r.b, newc ns r, r.d⟩ : Rw)).length ≤ 1000000 := by rw [List.length_map, List.length_take]; omega
    rw [List.take_succ, hr, List.map_append]
    by_cases c2 : r.b = dot
    · rw [eqSS, decide_eq_true c2]
      refine .bok (.bok (.bapp hlen (.bok (.ok ?_))))
      show _ = _ ++ [(⟨r.a, r.b, newc ns r, r.d⟩ : Rw)]
      unfold newc
      rw [if_pos c2]
    · obtain ⟨j, e, _⟩ := index_is (xs := ns) (x := r.c) ((h2 r.c).mpr ⟨r, mr, c2, rfl⟩)
      rw [eqSS, decide_eq_false c2]
      refine .bok ?_
      rw [if_pos (by decide), e]
      refine .bassoc (.bok (.bok (.bapp hlen (.bok (.ok ?_)))))
      show _ = _ ++ [(⟨r.a, r.b, newc ns r, r.d⟩ : Rw)]
      unfold newc
      rw [if_neg c2, e]; rfl
abbrev TW (w : Int × Tup (Int × Int)) : Int → Int → Prop := tied w.2.l
def EL (w : Int × Tup (Int × Int)) (k : Int) : List Int := okD [] (m_edge_behind w k)
theorem edge_is {w : Int × Tup (Int × Int)} (h : WebOk w) (k : Int) : m_edge_behind w k = .ok (EL w k) ∧ (EL w k).length ≤ 200 ∧ (EL w k).Nodup ∧ ∀ a, a ∈ EL w k ↔ Eg (TW w) (k + 1) a := by
  have hlen := h.len
  have : Sat (m_edge_behind w k) (fun l => l.length ≤ w.2.l.length ∧ l.Nodup ∧ ∀ a, a ∈ l ↔ ∃ t ∈ w.2.l, t.1 = a ∧ t.1 ≤ k ∧ t.2 > k) := by
    unfold m_edge_behind
    refine .bok (.bind (Sat.foldR (fun i s => s.length ≤ i ∧ s.Nodup ∧ ∀ a, a ∈ s ↔ ∃ t ∈ w.2.l.take i, t.1 = a ∧ t.1 ≤ k ∧ t.2 > k) ⟨Nat.le_refl _, .nil, fun x => by simp⟩ ?_) fun s ⟨h1, hn, h2⟩ => .ok ⟨h1, hn, by rw [List.take_length] at h2; exact h2⟩)
    rintro i s r hr ⟨h1, hn, h2⟩
    have hi := (List.getElem?_eq_some_iff.mp hr).1
    have tk : ∀ {P : Int × Int → Prop}, (∃ y ∈ w.2.l.take (i + 1), P y) ↔ (∃ y ∈ w.2.l.take i, P y) ∨ P r := fun {P} => by
      rw [List.take_succ, hr]
      constructor
      · rintro ⟨y, m, p⟩
        rcases List.mem_append.mp m with m | m
        · exact .inl ⟨y, m, p⟩
        · exact .inr (by rw [← (List.mem_singleton.mp m : y = r)]; exact p)
      · rintro (⟨y, m, p⟩ | p)
        · exact ⟨y, List.mem_append_left _ m, p⟩
        · exact ⟨r, List.mem_append_right _ (List.mem_singleton.mpr rfl), p⟩
    by_cases c1 : r.1 ≤ k
    · by_cases c2 : r.2 > k
      · by_cases c3 : r.1 ∈ s
        · rw [decide_eq_true c1, decide_eq_true c2, decide_eq_true c3]
          refine .bassoc (.bok (.bok (.ok ⟨by omega, hn, fun x => ?_⟩)))
          rw [h2, tk]
          refine ⟨.inl, fun h => h.elim id fun ⟨e, _, _⟩ => ?_⟩
          rw [← h2, ← e]; exact c3
        · rw [decide_eq_true c1, decide_eq_true c2, decide_eq_false c3]
          refine .bassoc (.bok (.bassoc (.bapp (by omega) (.bok (.ok ⟨by rw [List.length_append, List.length_singleton]; omega, List.nodup_append.mpr ⟨hn, List.pairwise_singleton _ _, fun x mx y my e => c3 (by rw [← (List.mem_singleton.mp my : y = r.1), ← e]; exact mx)⟩, fun x => ?_⟩)))))
          rw [List.mem_append, h2, tk, List.mem_singleton]
          exact ⟨fun h => h.imp id fun e => ⟨e.symm, c1, c2⟩, fun h => h.imp id fun ⟨e, _, _⟩ => e.symm⟩
      · rw [decide_eq_true c1, decide_eq_false c2]
        refine .bassoc (.bok (.bok (.ok ⟨by omega, hn, fun x => ?_⟩)))
        rw [h2, tk]
        exact ⟨.inl, fun h => h.elim id fun ⟨_, _, e⟩ => absurd e c2⟩
    · rw [decide_eq_false c1]
      refine .bassoc (.bok (.bok (.ok ⟨by omega, hn, fun x => ?_⟩)))
      rw [h2, tk]
      exact ⟨.inl, fun h => h.elim id fun ⟨_, e, _⟩ => absurd e c1⟩
  obtain ⟨l, e, h1, hn, h2⟩ := this
  unfold EL
  rw [okD_ok e]
  refine ⟨e, by omega, hn, fun a => ?_⟩
  rw [h2]
  constructor
  · rintro ⟨t, m, rfl, l1, l2⟩
    have := h.ok t m
    exact ⟨this.1, by omega, t.2, by omega, .inl m⟩
  · rintro ⟨a0, a1, c, ck, t | t⟩
    · exact ⟨_, t, rfl, by omega, by show c > k; omega⟩
    · have := (h.ok _ t).2.1
      have : c < a := this
      omega
section
variable {w : Int × Tup (Int × Int)} {f : Int → Nat} {k : Int}
structure Ds (w : Int × Tup (Int × Int)) (f : Int → Nat) (k : Int) (D : Int → Prop) (t : Int) (rows : List Rw) : Prop where
  mem : ∀ a, (∃ r ∈ rows, r.a = a) ↔ D a
  up : (rows.map (·.a)).Pairwise (· < ·)
  sg : ∀ r ∈ rows, r.b = ⟨#[f r.a]⟩
  lt : ∀ r ∈ rows, 0 ≤ r.a ∧ r.a < k
  ch : ∀ r ∈ rows, f r.a ≠ 46 → 0 ≤ r.c ∧ r.c < t
  dt : ∀ r ∈ rows, f r.a = 46 → r.c = -1 ∧ r.d = true
  eq : ∀ r ∈ rows, ∀ r' ∈ rows, f r.a ≠ 46 → f r'.a ≠ 46 → (r.c = r'.c ↔ Con (TW w) f k r.a r'.a)
  br : ∀ r ∈ rows, f r.a ≠ 46 → (r.d = true ↔ Br (TW w) f k r.a)
def Al (w : Int × Tup (Int × Int)) (f : Int → Nat) (k : Int) : Prop := ∀ a, 0 ≤ a → a < k → f a ≠ 46 → Br (TW w) f k a ∨ ∃ c, Eg (TW w) k c ∧ Con (TW w) f k a c
theorem tsym : ∀ x y, TW w x y → TW w y x := fun _ _ => tied_symm.mp
theorem b_dot {z : Str} {c : Nat} (e : z = ⟨#[c]⟩) : z = dot ↔ c = 46 := by rw [e, dot_eq, str1_inj]
theorem Ds.len {D : Int → Prop} {t : Int} {rows : List Rw} (d : Ds w f k D t rows) (hk : k ≤ 40) : rows.length ≤ 40 := by
  have := nodup_len 40 (l := rows.map (·.a)) (show (rows.map (·.a)).Nodup from d.up.imp fun {a b} (h : a < b) => (by omega : a ≠ b)) fun x m => by
    obtain ⟨r, mr, e⟩ := List.mem_map.mp m
    have := d.lt r mr
    omega
  rwa [List.length_map] at this
theorem Ds.grow (h : WebOk w) (hf : ∀ a, 0 ≤ a → a < w.1 → f a = 46 ∨ f a = 120 ∨ f a = 111) (k0 : 0 ≤ k) (k1 : k < w.1) {rows : List Rw} (d : Ds w f k (Eg (TW w) k) 1000 rows) :
    Sat (m_grown ⟨rows⟩ (nextL w k) k ⟨#[f k]⟩) (Ds w f (k + 1) (fun a => Eg (TW w) k a ∨ a = k) 1001) := by
  have n2 := h.n2
  have hl := d.len (by omega)
  have nx : ∀ m, m ∈ nextL w k ↔ TW w m k := fun m => by rw [mem_nextL h]; exact tied_symm
  have row : ∀ m, TW w m k → m < k → ∃ r ∈ rows, r.a = m := fun m t l => (d.mem m).mpr ⟨(h.tie t).1, l, k, Int.le_refl _, t⟩
  have upk : ∀ {g : List Rw} {b : Str} {c : Int} {v : Bool}, g.map (·.a) = rows.map (·.a) → ((g ++ [(⟨k, b, c, v⟩ : Rw)]).map (·.a)).Pairwise (· < ·) := fun {g b c v} e => by
    rw [List.map_append, e]
    refine List.pairwise_append.mpr ⟨d.up, List.pairwise_singleton _ _, fun x mx y my => ?_⟩
    obtain ⟨r, mr, rfl⟩ := List.mem_map.mp mx
    have : y = k := List.mem_singleton.mp my
    have := d.lt r mr
    omega
  by_cases hk : f k = 46
  · rw [hk, ← dot_eq]
    obtain ⟨g, eg, t, ht, rfl⟩ := grown_dot (rows := rows) (by omega) (nextL w k) k
    refine ⟨_, eg, ?_⟩
    have tc : ∀ r ∈ rows, f r.a ≠ 46 → (r.c ∈ t ↔ ∃ c, Con (TW w) f k r.a c ∧ TW w c k) := by
      intro r mr hr
      rw [ht]
      constructor
      · rintro ⟨r', m', n', b', e'⟩
        have h' : f r'.a ≠ 46 := fun e => by
          have : r'.b = dot := (b_dot (d.sg r' m')).mpr e
          rw [this] at b'
          rcases b' with b' | b' <;> exact absurd b' (by decide)
        exact ⟨r'.a, (d.eq r mr r' m' hr h').mp e'.symm, (nx _).mp n'⟩
      · rintro ⟨c, cc, tc⟩
        obtain ⟨r', m', rfl⟩ := row c tc (cc.lt (d.lt r mr).2)
        have e1 : f r'.a = f r.a := cc.sg.symm
        have h' : f r'.a ≠ 46 := by rw [e1]; exact hr
        have l' := d.lt r' m'
        refine ⟨r', m', (nx _).mpr tc, ?_, ((d.eq r mr r' m' hr h').mpr cc).symm⟩
        rw [d.sg r' m', xS_eq, oS_eq, str1_inj, str1_inj]
        exact (hf _ l'.1 (by omega)).resolve_left h'
    have mg : ∀ x ∈ rows.map (fun r => (⟨r.a, r.b, r.c, r.d || decide (r.c ∈ t)⟩ : Rw)) ++ [⟨k, dot, -1, true⟩], (∃ r ∈ rows, x = ⟨r.a, r.b, r.c, r.d || decide (r.c ∈ t)⟩) ∨ x = ⟨k, dot, -1, true⟩ := fun x m => by
      rcases List.mem_append.mp m with m | m
      · obtain ⟨r, mr, e⟩ := List.mem_map.mp m
        exact .inl ⟨r, mr, e.symm⟩
      · exact .inr (List.mem_singleton.mp m)
    refine ⟨fun a => ?_, upk (by rw [List.map_map]; rfl), fun x m => ?_, fun x m => ?_, fun x m hx => ?_, fun x m hx => ?_, fun x m x' m' hx hx' => ?_, fun x m hx => ?_⟩
    · constructor
      · rintro ⟨x, m, rfl⟩
        rcases mg x m with ⟨r, mr, rfl⟩ | rfl
        · exact .inl ((d.mem _).mp ⟨r, mr, rfl⟩)
        · exact .inr rfl
      · rintro (e | rfl)
        · obtain ⟨r, mr, rfl⟩ := (d.mem a).mpr e
          exact ⟨_, List.mem_append_left _ (List.mem_map.mpr ⟨r, mr, rfl⟩), rfl⟩
        · exact ⟨_, List.mem_append_right _ (List.mem_singleton.mpr rfl), rfl⟩
    · rcases mg x m with ⟨r, mr, rfl⟩ | rfl
      · exact d.sg r mr
      · show dot = _; rw [hk, dot_eq]
    · rcases mg x m with ⟨r, mr, rfl⟩ | rfl
      · have := d.lt r mr
        show 0 ≤ r.a ∧ r.a < k + 1; omega
      · show 0 ≤ k ∧ k < k + 1; omega
    · rcases mg x m with ⟨r, mr, rfl⟩ | rfl
      · have := d.ch r mr hx
        show 0 ≤ r.c ∧ r.c < 1001; omega
      · exact absurd hk hx
    · rcases mg x m with ⟨r, mr, rfl⟩ | rfl
      · have := d.dt r mr hx
        exact ⟨this.1, by show (r.d || _) = true; rw [this.2]; rfl⟩
      · exact ⟨rfl, rfl⟩
    · rcases mg x m with ⟨r, mr, rfl⟩ | rfl
      · rcases mg x' m' with ⟨r', mr', rfl⟩ | rfl
        · show r.c = r'.c ↔ _
          rw [d.eq r mr r' mr' hx hx']
          exact (con_dot tsym hk hx).symm
        · exact absurd hk hx'
      · exact absurd hk hx
    · rcases mg x m with ⟨r, mr, rfl⟩ | rfl
      · show (r.d || decide (r.c ∈ t)) = true ↔ _
        have e1 : (r.d || decide (r.c ∈ t)) = true ↔ (r.d = true ∨ r.c ∈ t) := by rw [Bool.or_eq_true, decide_eq_true_eq]
        exact e1.trans ((or_congr (d.br r mr hx) (tc r mr hx)).trans (br_dot (T := TW w) tsym hk hx (d.lt r mr).2).symm)
      · exact absurd hk hx
  · obtain ⟨g, eg, t, v, ht, hv, rfl⟩ := grown_stone (rows := rows) (by omega) (nextL w k) k (z := ⟨#[f k]⟩) (fun e => hk ((b_dot rfl).mp e))
    refine ⟨_, eg, ?_⟩
    have tst : ∀ x ∈ t, 0 ≤ x := fun x m => by
      obtain ⟨r, mr, _, b, e⟩ := (ht x).mp m
      have : f r.a ≠ 46 := fun e => hk (by
        have b := b
        rw [d.sg r mr, str1_inj] at b
        rw [← b]; exact e)
      have := (d.ch r mr this).1
      omega
    have tc : ∀ r ∈ rows, f r.a ≠ 46 → (r.c ∈ t ↔ Jn (TW w) f k r.a) := by
      intro r mr hr
      have lr := d.lt r mr
      rw [ht]
      constructor
      · rintro ⟨r', m', n', b', e'⟩
        rw [d.sg r' m', str1_inj] at b'
        exact .inr ⟨r'.a, (nx _).mp n', (d.lt r' m').2, b', (d.eq r' m' r mr (by rw [b']; exact hk) hr).mp e'⟩
      · rintro (e | ⟨m, tm, lm, em, cm⟩)
        · omega
        · obtain ⟨r', m', rfl⟩ := row m tm lm
          exact ⟨r', m', (nx _).mpr tm, by rw [d.sg r' m', em], (d.eq r' m' r mr (by rw [em]; exact hk) hr).mpr cm⟩
    have td : ∀ r ∈ rows, f r.a = 46 → r.c ∉ t := fun r mr hr m => by
      have := tst _ m
      have := (d.dt r mr hr).1
      omega
    have vv : v = true ↔ (∃ m, TW w m k ∧ m < k ∧ f m = 46) ∨ ∃ m, TW w m k ∧ m < k ∧ f m = f k ∧ Br (TW w) f k m := by
      rw [hv]
      constructor
      · rintro ⟨r, mr, ⟨n', b'⟩ | ⟨c', d'⟩⟩
        · exact .inl ⟨r.a, (nx _).mp n', (d.lt r mr).2, (b_dot (d.sg r mr)).mp b'⟩
        · have hr : f r.a ≠ 46 := fun e => td r mr e c'
          rcases (tc r mr hr).mp c' with e | ⟨m, tm, lm, em, cm⟩
          · have := (d.lt r mr).2; omega
          · exact .inr ⟨m, tm, lm, em, ((d.br r mr hr).mp d').go tsym (cm.symm fun {_ _} => tsym _ _)⟩
      · rintro (⟨m, tm, lm, em⟩ | ⟨m, tm, lm, em, bm⟩)
        · obtain ⟨r, mr, rfl⟩ := row m tm lm
          exact ⟨r, mr, .inl ⟨(nx _).mpr tm, (b_dot (d.sg r mr)).mpr em⟩⟩
        · obtain ⟨r, mr, rfl⟩ := row m tm lm
          have hr : f r.a ≠ 46 := by rw [em]; exact hk
          exact ⟨r, mr, .inr ⟨(tc r mr hr).mpr (.inr ⟨r.a, tm, lm, em, .here⟩), (d.br r mr hr).mpr bm⟩⟩
    have mg : ∀ x ∈ rows.map (fun r => if r.c ∈ t then (⟨r.a, r.b, 1000, v⟩ : Rw) else r) ++ [⟨k, ⟨#[f k]⟩, 1000, v⟩], (∃ r ∈ rows, r.a = x.a ∧ r.b = x.b ∧ r.c ∉ t ∧ x = r) ∨ (∃ r ∈ rows, r.c ∈ t ∧ x = ⟨r.a, r.b, 1000, v⟩) ∨ x = ⟨k, ⟨#[f k]⟩, 1000, v⟩ := fun x m => by
      rcases List.mem_append.mp m with m | m
      · obtain ⟨r, mr, e⟩ := List.mem_map.mp m
        by_cases c : r.c ∈ t
        · rw [if_pos c] at e
          exact .inr (.inl ⟨r, mr, c, e.symm⟩)
        · rw [if_neg c] at e
          subst e
          exact .inl ⟨r, mr, rfl, rfl, c, rfl⟩
      · exact .inr (.inr (List.mem_singleton.mp m))
    have tw : ∀ x ∈ rows.map (fun r => if r.c ∈ t then (⟨r.a, r.b, 1000, v⟩ : Rw) else r) ++ [⟨k, ⟨#[f k]⟩, 1000, v⟩], f x.a ≠ 46 → (Jn (TW w) f k x.a ∧ x.c = 1000 ∧ x.d = v) ∨ (¬ Jn (TW w) f k x.a ∧ x ∈ rows) := fun x m hx => by
      rcases mg x m with ⟨r, mr, _, _, c, rfl⟩ | ⟨r, mr, c, rfl⟩ | rfl
      · exact .inr ⟨fun j => c ((tc x mr hx).mpr j), mr⟩
      · exact .inl ⟨(tc r mr hx).mp c, rfl, rfl⟩
      · exact .inl ⟨.inl rfl, rfl, rfl⟩
    refine ⟨fun a => ?_, upk (by rw [List.map_map]; exact List.map_congr_left fun r _ => by show (if r.c ∈ t then (⟨r.a, r.b, 1000, v⟩ : Rw) else r).a = r.a; split <;> rfl), fun x m => ?_, fun x m => ?_, fun x m hx => ?_, fun x m hx => ?_, fun x m x' m' hx hx' => ?_, fun x m hx => ?_⟩
    · constructor
      · rintro ⟨x, m, rfl⟩
        rcases mg x m with ⟨r, mr, _, _, c, rfl⟩ | ⟨r, mr, c, rfl⟩ | rfl
        · exact .inl ((d.mem _).mp ⟨x, mr, rfl⟩)
        · exact .inl ((d.mem _).mp ⟨r, mr, rfl⟩)
        · exact .inr rfl
      · rintro (e | rfl)
        · obtain ⟨r, mr, rfl⟩ := (d.mem a).mpr e
          refine ⟨_, List.mem_append_left _ (List.mem_map.mpr ⟨r, mr, rfl⟩), ?_⟩
          show (if r.c ∈ t then (⟨r.a, r.b, 1000, v⟩ : Rw) else r).a = r.a
          split <;> rfl
        · exact ⟨_, List.mem_append_right _ (List.mem_singleton.mpr rfl), rfl⟩
    · rcases mg x m with ⟨r, mr, _, _, c, rfl⟩ | ⟨r, mr, c, rfl⟩ | rfl
      · exact d.sg x mr
      · exact d.sg r mr
      · rfl
    · rcases mg x m with ⟨r, mr, _, _, c, rfl⟩ | ⟨r, mr, c, rfl⟩ | rfl
      · have := d.lt x mr; omega
      · have := d.lt r mr
        show 0 ≤ r.a ∧ r.a < k + 1; omega
      · show 0 ≤ k ∧ k < k + 1; omega
    · rcases tw x m hx with ⟨_, e, _⟩ | ⟨_, mr⟩
      · omega
      · have := d.ch x mr hx; omega
    · rcases mg x m with ⟨r, mr, _, _, c, rfl⟩ | ⟨r, mr, c, rfl⟩ | rfl
      · exact d.dt x mr hx
      · exact absurd c (td r mr hx)
      · exact absurd hx hk
    · rcases tw x m hx with ⟨j, e, _⟩ | ⟨j, mr⟩ <;> rcases tw x' m' hx' with ⟨j', e', _⟩ | ⟨j', mr'⟩
      · rw [e, e']
        exact ⟨fun _ => (con_succ tsym).mpr (.inr ⟨j, j'⟩), fun _ => rfl⟩
      · have := (d.ch x' mr' hx').2
        refine ⟨fun z => by omega, fun z => ?_⟩
        rcases (con_succ tsym).mp z with z | z
        · exact absurd (j.go z) j'
        · exact absurd z.2 j'
      · have := (d.ch x mr hx).2
        refine ⟨fun z => by omega, fun z => ?_⟩
        rcases (con_succ tsym).mp z with z | z
        · exact absurd (j'.go (z.symm fun {_ _} => tsym _ _)) j
        · exact absurd z.1 j
      · rw [d.eq x mr x' mr' hx hx', con_succ tsym]
        exact ⟨.inl, fun z => z.elim id fun z => absurd z.1 j⟩
    · rcases tw x m hx with ⟨j, _, e⟩ | ⟨j, mr⟩
      · rw [e, vv, br_join tsym hk j]
      · rw [d.br x mr hx, br_far tsym hk j (d.lt x mr).2]
end
theorem Ds.keep {w : Int × Tup (Int × Int)} {f : Int → Nat} {k : Int} (h : WebOk w) (k0 : 0 ≤ k) (k1 : k < w.1) (al : Al w f k) {g : List Rw} (d : Ds w f (k + 1) (fun a => Eg (TW w) k a ∨ a = k) 1001 g) :
    Sat (m_kept_rows g (EL w k)) (fun o => (o = none ∧ ¬ Al w f (k + 1)) ∨ ∃ rows : List Rw, o = some ⟨rows⟩ ∧ Ds w f (k + 1) (Eg (TW w) (k + 1)) 1000 rows ∧ Al w f (k + 1)) := by
  have n2 := h.n2
  have hl := d.len (by omega)
  obtain ⟨_, _, _, he⟩ := edge_is h k
  obtain ⟨o, eo, ns, ln, _, hns, rfl⟩ := kept_is (rows := g) (by omega) (EL w k)
  refine ⟨_, eo, ?_⟩
  have eg : ∀ c, Eg (TW w) (k + 1) c → Eg (TW w) k c ∨ c = k := fun c ⟨c0, c1, m, l, t⟩ => by
    by_cases e : c = k
    · exact .inr e
    · exact .inl ⟨c0, by omega, m, by omega, t⟩
  have row : ∀ c, Eg (TW w) (k + 1) c → ∃ r ∈ g, r.a = c := fun c e => (d.mem c).mpr (eg c e)
  have inn : ∀ r ∈ g, f r.a ≠ 46 → (r.c ∈ ns ↔ ∃ c, Eg (TW w) (k + 1) c ∧ Con (TW w) f (k + 1) r.a c) := by
    intro r mr hr
    rw [hns]
    constructor
    · rintro ⟨r', m', e', b', c'⟩
      have hr' : f r'.a ≠ 46 := fun e => b' ((b_dot (d.sg r' m')).mpr e)
      exact ⟨r'.a, (he _).mp e', (d.eq r mr r' m' hr hr').mp c'.symm⟩
    · rintro ⟨c, ec, cc⟩
      obtain ⟨r', m', rfl⟩ := row c ec
      have hr' : f r'.a ≠ 46 := by rw [← cc.sg]; exact hr
      exact ⟨r', m', (he _).mpr ec, fun e => hr' ((b_dot (d.sg r' m')).mp e), ((d.eq r mr r' m' hr hr').mpr cc).symm⟩
  cases hany : g.any (fun r => !r.d && !decide (r.c ∈ ns)) with
  | true =>
    rw [if_pos rfl]
    refine .inl ⟨rfl, fun A => ?_⟩
    obtain ⟨r, mr, hr⟩ := List.any_eq_true.mp hany
    simp only [Bool.and_eq_true, Bool.not_eq_true', decide_eq_false_iff_not] at hr
    have hs : f r.a ≠ 46 := fun e => by
      have := (d.dt r mr e).2
      rw [hr.1] at this; cases this
    rcases A r.a (d.lt r mr).1 (d.lt r mr).2 hs with b | b
    · have := (d.br r mr hs).mpr b
      rw [hr.1] at this; cases this
    · exact hr.2 ((inn r mr hs).mpr b)
  | false =>
    rw [if_neg (by decide)]
    have hall : ∀ r ∈ g, r.d = true ∨ r.c ∈ ns := fun r mr => by
      refine Classical.byContradiction fun no => ?_
      have := List.any_eq_false.mp hany r mr
      simp only [Bool.and_eq_true, Bool.not_eq_true', decide_eq_false_iff_not] at this
      refine this ⟨?_, fun m => no (.inr m)⟩
      cases e : r.d with
      | false => rfl
      | true => exact absurd (.inl e) no
    have stone : ∀ r ∈ g, f r.a ≠ 46 → Br (TW w) f (k + 1) r.a ∨ ∃ c, Eg (TW w) (k + 1) c ∧ Con (TW w) f (k + 1) r.a c := fun r mr hr => (hall r mr).imp (d.br r mr hr).mp (inn r mr hr).mp
    have A : Al w f (k + 1) := by
      intro a a0 a1 ha
      by_cases e : a = k
      · obtain ⟨r, mr, rfl⟩ := (d.mem a).mpr (.inr e)
        exact stone r mr ha
      · rcases al a a0 (by omega) ha with b | ⟨c, ec, cc⟩
        · exact .inl (b.up (by omega))
        · obtain ⟨r, mr, rfl⟩ := (d.mem c).mpr (.inl ec)
          have cc := cc.up (k' := k + 1) (by omega)
          rcases stone r mr (by rw [← cc.sg]; exact ha) with b | ⟨c', e', c2⟩
          · exact .inl (b.go tsym (cc.symm fun {_ _} => tsym _ _))
          · exact .inr ⟨c', e', cc.trans c2⟩
    refine .inr ⟨_, rfl, ?_, A⟩
    have mk : ∀ x ∈ (g.filter fun r => decide (r.a ∈ EL w k)).map (fun r => (⟨r.a, r.b, newc ns r, r.d⟩ : Rw)), ∃ r ∈ g, r.a ∈ EL w k ∧ x = ⟨r.a, r.b, newc ns r, r.d⟩ := fun x m => by
      obtain ⟨r, mr, e⟩ := List.mem_map.mp m
      have := List.mem_filter.mp mr
      exact ⟨r, this.1, of_decide_eq_true this.2, e.symm⟩
    have nw : ∀ r ∈ g, r.a ∈ EL w k → f r.a ≠ 46 → ∃ j : Nat, newc ns r = (j : Int) ∧ ns[j]? = some r.c := fun r mr er hr => by
      have nb : r.b ≠ dot := fun e => hr ((b_dot (d.sg r mr)).mp e)
      obtain ⟨j, e, g⟩ := index_is ((hns r.c).mpr ⟨r, mr, er, nb, rfl⟩)
      refine ⟨j, ?_, g⟩
      unfold newc
      rw [if_neg nb, e]; rfl
    refine ⟨fun a => ?_, ?_, fun x m => ?_, fun x m => ?_, fun x m hx => ?_, fun x m hx => ?_, fun x m x' m' hx hx' => ?_, fun x m hx => ?_⟩
    · constructor
      · rintro ⟨x, m, rfl⟩
        obtain ⟨r, mr, er, rfl⟩ := mk x m
        exact (he _).mp er
      · intro e
        obtain ⟨r, mr, rfl⟩ := row a e
        exact ⟨_, List.mem_map.mpr ⟨r, List.mem_filter.mpr ⟨mr, decide_eq_true ((he _).mpr e)⟩, rfl⟩, rfl⟩
    · rw [List.map_map]
      exact (d.up.sublist (List.Sublist.map _ List.filter_sublist) : ((g.filter fun r => decide (r.a ∈ EL w k)).map (·.a)).Pairwise (· < ·))
    · obtain ⟨r, mr, er, rfl⟩ := mk x m
      exact d.sg r mr
    · obtain ⟨r, mr, er, rfl⟩ := mk x m
      exact d.lt r mr
    · obtain ⟨r, mr, er, rfl⟩ := mk x m
      obtain ⟨j, e, g⟩ := nw r mr er hx
      have := (List.getElem?_eq_some_iff.mp g).1
      show 0 ≤ newc ns r ∧ newc ns r < 1000
      omega
    · obtain ⟨r, mr, er, rfl⟩ := mk x m
      refine ⟨?_, (d.dt r mr hx).2⟩
      show newc ns r = -1
      unfold newc
      rw [if_pos ((b_dot (d.sg r mr)).mpr hx)]
    · obtain ⟨r, mr, er, rfl⟩ := mk x m
      obtain ⟨r', mr', er', rfl⟩ := mk x' m'
      obtain ⟨j, e, g⟩ := nw r mr er hx
      obtain ⟨j', e', g'⟩ := nw r' mr' er' hx'
      rw [← d.eq r mr r' mr' hx hx']
      show newc ns r = newc ns r' ↔ _
      constructor
      · intro z
        have : j = j' := by omega
        subst this
        rw [g] at g'
        exact Option.some.inj g'
      · intro z
        have nb : r.b ≠ dot := fun e => hx ((b_dot (d.sg r mr)).mp e)
        have nb' : r'.b ≠ dot := fun e => hx' ((b_dot (d.sg r' mr')).mp e)
        unfold newc
        rw [if_neg nb, if_neg nb', z]
    · obtain ⟨r, mr, er, rfl⟩ := mk x m
      exact d.br r mr hx
def stepK (w : Int × Tup (Int × Int)) (k : Int) (key : Ky) (c : Nat) : Option Ky := okD none ((m_grown key (nextL w k) k ⟨#[c]⟩).bind fun g => m_kept_rows g (EL w k))
def runK (w : Int × Tup (Int × Int)) (f : Int → Nat) : Nat → Option Ky
  | 0 => some ⟨[]⟩
  | k + 1 => (runK w f k).bind fun key => stepK w k key (f k)
section
variable {w : Int × Tup (Int × Int)} {f : Int → Nat}
theorem step_is (h : WebOk w) (hf : ∀ a, 0 ≤ a → a < w.1 → f a = 46 ∨ f a = 120 ∨ f a = 111) {k : Int} (k0 : 0 ≤ k) (k1 : k < w.1) (al : Al w f k) {key : Ky} (d : Ds w f k (Eg (TW w) k) 1000 key.l) :
    Sat (m_grown key (nextL w k) k ⟨#[f k]⟩) (fun g => m_kept_rows g (EL w k) = .ok (stepK w k key (f k))) ∧
    ((stepK w k key (f k) = none ∧ ¬ Al w f (k + 1)) ∨ ∃ rows : List Rw, stepK w k key (f k) = some ⟨rows⟩ ∧ Ds w f (k + 1) (Eg (TW w) (k + 1)) 1000 rows ∧ Al w f (k + 1)) := by
  obtain ⟨g, eg, dg⟩ := d.grow h hf k0 k1
  obtain ⟨o, eo, ho⟩ := dg.keep h k0 k1 al
  have e : stepK w k key (f k) = o := by
    unfold stepK
    have eg : m_grown key (nextL w k) k ⟨#[f k]⟩ = .ok g := eg
    rw [eg, Res.okb, okD_ok eo]
  rw [e]
  exact ⟨⟨g, eg, eo⟩, ho⟩
theorem run_is (h : WebOk w) (hf : ∀ a, 0 ≤ a → a < w.1 → f a = 46 ∨ f a = 120 ∨ f a = 111) : ∀ k : Nat, (k : Int) ≤ w.1 → (∃ key, runK w f k = some key ∧ Ds w f k (Eg (TW w) k) 1000 key.l ∧ Al w f k) ∨ (runK w f k = none ∧ ∃ j : Int, 0 ≤ j ∧ j ≤ k ∧ ¬ Al w f j)
  | 0, _ => .inl ⟨⟨[]⟩, rfl, ⟨(fun a => ⟨(fun ⟨_, m, _⟩ => by cases m), fun e => by have := e.1; have := e.2.1; omega⟩), .nil, (fun _ m => by cases m), (fun _ m => by cases m), (fun _ m => by cases m), (fun _ m => by cases m), (fun _ m => by cases m), (fun _ m => by cases m)⟩, fun a a0 a1 => by omega⟩
  | k + 1, hk => by
    have e1 : ((k + 1 : Nat) : Int) = (k : Int) + 1 := by omega
    rcases run_is h hf k (by omega) with ⟨key, e, d, al⟩ | ⟨e, j, j0, j1, nj⟩
    · have es : runK w f (k + 1) = stepK w k key (f k) := by show (runK w f k).bind _ = _; rw [e]; rfl
      rw [es, e1]
      rcases (step_is h hf (by omega) (by omega) al d).2 with ⟨e2, na⟩ | ⟨rows, e2, d2, al2⟩
      · exact .inr ⟨e2, _, by omega, Int.le_refl _, na⟩
      · exact .inl ⟨⟨rows⟩, e2, d2, al2⟩
    · refine .inr ⟨?_, j, j0, by omega, nj⟩
      show (runK w f k).bind _ = _
      rw [e]; rfl
end
theorem cp_range {w : Int × Tup (Int × Int)} {b : Str} (hb : b.length = w.1.toNat) (hs : signOk b) : ∀ a, 0 ≤ a → a < w.1 → cpOf b a = 46 ∨ cpOf b a = 120 ∨ cpOf b a = 111 := fun a a0 a1 => signOk_at hs a0 (by omega)
theorem run_end {w : Int × Tup (Int × Int)} (h : WebOk w) {b : Str} (hb : b.length = w.1.toNat) (hs : signOk b) : (Sound w b ∧ runK w (cpOf b) w.1.toNat = some ⟨[]⟩) ∨ (¬ Sound w b ∧ runK w (cpOf b) w.1.toNat = none) := by
  have n1 := h.n1
  have e0 : ((w.1.toNat : Nat) : Int) = w.1 := by omega
  have t0 : ∀ x y, TW w x y → 0 ≤ x := fun x y t => (h.tie t).1
  have hnb : ∀ x y, y ∈ nextL w x ↔ TW w x y := fun x y => mem_nextL h
  rcases run_is h (cp_range hb hs) w.1.toNat (by omega) with ⟨key, e, d, al⟩ | ⟨e, j, j0, j1, nj⟩
  · rw [e0] at d al
    have no : ∀ c, ¬ Eg (TW w) w.1 c := fun c ⟨_, _, m, l, t⟩ => by have := h.tie t; omega
    have ek : key = ⟨[]⟩ := by
      obtain ⟨l⟩ := key
      cases l with
      | nil => rfl
      | cons r l => exact absurd ((d.mem r.a).mp ⟨r, List.mem_cons_self, rfl⟩) (no _)
    refine .inl ⟨fun a a0 a1 ha => ?_, by rw [e, ek]⟩
    have ha : cpOf b a ≠ 46 := fun e => ha (sgn_dot.mpr e)
    rcases al a a0 a1 ha with ⟨c, m, cc, lc, t, lm, em⟩ | ⟨c, ec, _⟩
    · refine ⟨c, ?_, m, (hnb _ _).mpr t, sgn_dot.mpr em⟩
      clear t lc ha a0 a1
      induction cc with
      | here => exact .here
      | @on x y c0 t _ _ e ih => exact .on ih ((hnb _ _).mpr t) (by rw [decide_eq_true_eq, sgn_iff, ← e, c0.sg])
    · exact absurd ec (no c)
  · refine .inr ⟨fun S => nj fun a a0 a1 ha => Classical.byContradiction fun no => ?_, e⟩
    have hd : sgn b a ≠ dot := fun e => ha (sgn_dot.mp e)
    have n1' : ¬ Br (TW w) (cpOf b) j a := fun x => no (.inl x)
    have n2' : ∀ c, Eg (TW w) j c → ¬ Con (TW w) (cpOf b) j a c := fun c e1 e2 => no (.inr ⟨c, e1, e2⟩)
    obtain ⟨x, r, y, my, ey⟩ := S a a0 (by omega) hd
    exact never (T := TW w) (cpOf b) (n := w.1) hnb t0 (ok := fun y => decide (sgn b y = sgn b a)) (fun y => by
      have : (sgn b y = sgn b a) ↔ (cpOf b y = cpOf b a) := sgn_iff
      by_cases e : cpOf b y = cpOf b a
      · rw [decide_eq_true e, decide_eq_true (this.mpr e)]
      · rw [decide_eq_false e, decide_eq_false (fun z => e (this.mp z))]) a1 n1' n2' ⟨x, r, y, my, sgn_dot.mp ey⟩
def canon : List (Str × Bool) → List Rw → Prop
  | _, [] => True
  | tbl, r :: rs => (r.b = dot ∧ r.c = -1 ∧ r.d = true ∧ canon tbl rs) ∨ (∃ j : Nat, r.c = (j : Int) ∧ tbl[j]? = some (r.b, r.d) ∧ canon tbl rs) ∨ (r.c = (tbl.length : Int) ∧ (r.b = xS ∨ r.b = oS) ∧ canon (tbl ++ [(r.b, r.d)]) rs)
def fours : List (Str × Bool) := [(xS, true), (xS, false), (oS, true), (oS, false)]
def genR : List Int → List (Str × Bool) → List (List Rw)
  | [], _ => [[]]
  | a :: as, tbl => ((genR as tbl).map fun l => (⟨a, dot, -1, true⟩ : Rw) :: l) ++ ((List.range tbl.length).flatMap fun j => (genR as tbl).map fun l => (⟨a, (tbl.getD j (dot, true)).1, (j : Int), (tbl.getD j (dot, true)).2⟩ : Rw) :: l) ++
      fours.flatMap fun sb => (genR as (tbl ++ [sb])).map fun l => (⟨a, sb.1, (tbl.length : Int), sb.2⟩ : Rw) :: l
theorem canon_gen : ∀ {rs : List Rw} {tbl : List (Str × Bool)}, canon tbl rs → rs ∈ genR (rs.map (·.a)) tbl
  | [], _, _ => List.mem_singleton.mpr rfl
  | r :: rs, tbl, h => by
    rw [List.map_cons]
    unfold genR
    obtain ⟨ra, rb, rc, rd⟩ := r
    rcases h with ⟨e1, e2, e3, t⟩ | ⟨j, e1, e2, t⟩ | ⟨e1, e2, t⟩
    · have e1 : rb = dot := e1
      have e2 : rc = -1 := e2
      have e3 : rd = true := e3
      subst e1 e2 e3
      exact List.mem_append_left _ (List.mem_append_left _ (List.mem_map.mpr ⟨rs, canon_gen t, rfl⟩))
    · have e1 : rc = (j : Int) := e1
      have e2 : tbl[j]? = some (rb, rd) := e2
      have hj := (List.getElem?_eq_some_iff.mp e2).1
      subst e1
      refine List.mem_append_left _ (List.mem_append_right _ (List.mem_flatMap.mpr ⟨j, List.mem_range.mpr hj, List.mem_map.mpr ⟨rs, canon_gen t, ?_⟩⟩))
      rw [List.getD_eq_getElem?_getD, e2]
      rfl
    · have e1 : rc = (tbl.length : Int) := e1
      have e2 : rb = xS ∨ rb = oS := e2
      subst e1
      refine List.mem_append_right _ (List.mem_flatMap.mpr ⟨(rb, rd), ?_, List.mem_map.mpr ⟨rs, canon_gen t, rfl⟩⟩)
      unfold fours
      rcases e2 with rfl | rfl <;> cases rd <;> simp
def cntR : Nat → Nat → Nat
  | 0, _ => 1
  | n + 1, b => cntR n b + b * cntR n b + 4 * cntR n (b + 1)
theorem gen_len : ∀ (as : List Int) (tbl : List (Str × Bool)), (genR as tbl).length = cntR as.length tbl.length
  | [], _ => rfl
  | a :: as, tbl => by
    unfold genR
    have fl : ∀ (c : Nat) (g : Nat → List Rw → List Rw) (L : List (List Rw)), ((List.range c).flatMap fun j => L.map (g j)).length = c * L.length := by
      intro c g L
      induction c with
      | zero => rw [Nat.zero_mul]; rfl
      | succ c ih => rw [List.range_succ, List.flatMap_append, List.length_append, ih, List.flatMap_singleton, List.length_map, Nat.succ_mul]
    rw [List.length_append, List.length_append, List.length_map, fl tbl.length (fun j l => (⟨a, (tbl.getD j (dot, true)).1, (j : Int), (tbl.getD j (dot, true)).2⟩ : Rw) :: l) (genR as tbl), gen_len as tbl]
    show _ + (fours.flatMap _).length = cntR (as.length + 1) tbl.length
    unfold fours
    simp only [List.flatMap_cons, List.flatMap_nil, List.length_append, List.length_map, List.length_nil]
    rw [gen_len as, gen_len as, gen_len as, gen_len as]
    simp only [List.length_append, List.length_cons, List.length_nil, Nat.zero_add]
    show _ = cntR as.length tbl.length + tbl.length * cntR as.length tbl.length + 4 * cntR as.length (tbl.length + 1)
    omega
theorem cnt6 : ∀ n, n ≤ 6 → cntR n 0 ≤ 900000 := by decide +kernel
theorem index_uniq {xs : List Int} (nd : xs.Nodup) {j : Nat} {x : Int} (h : xs[j]? = some x) : okD 0 (indexD xs x) = (j : Int) := by
  obtain ⟨i, e, g⟩ := index_is (List.mem_of_getElem? h)
  rw [e]
  show (i : Int) = j
  have h1 := List.getElem?_eq_some_iff.mp h
  have g1 := List.getElem?_eq_some_iff.mp g
  have := (List.getElem_inj nd).mp (g1.2.trans h1.2.symm)
  omega
theorem nums_nodup (l : List Rw) : (numsOf l).Nodup := by
  have : ∀ (l : List Rw) (s : List Int), s.Nodup → (l.foldl (fun s r => if r.b ≠ dot ∧ r.c ∉ s then s ++ [r.c] else s) s).Nodup := by
    intro l
    induction l with
    | nil => intro s h; exact h
    | cons r l ih =>
      intro s h
      rw [List.foldl_cons]
      refine ih _ ?_
      by_cases c : r.b ≠ dot ∧ r.c ∉ s
      · rw [if_pos c]
        exact List.nodup_append.mpr ⟨h, List.pairwise_singleton _ _, fun x mx y my e => c.2 (by rw [← (List.mem_singleton.mp my : y = r.c), ← e]; exact mx)⟩
      · rw [if_neg c]; exact h
  exact this l [] .nil
theorem nums_pre (l m : List Rw) : ∃ t, numsOf (l ++ m) = numsOf l ++ t := by
  have : ∀ (m : List Rw) (s : List Int), ∃ t, m.foldl (fun s r => if r.b ≠ dot ∧ r.c ∉ s then s ++ [r.c] else s) s = s ++ t := by
    intro m
    induction m with
    | nil => intro s; exact ⟨[], (List.append_nil _).symm⟩
    | cons r m ih =>
      intro s
      rw [List.foldl_cons]
      by_cases c : r.b ≠ dot ∧ r.c ∉ s
      · rw [if_pos c]
        obtain ⟨t, e⟩ := ih (s ++ [r.c])
        exact ⟨[r.c] ++ t, by rw [e, List.append_assoc]⟩
      · rw [if_neg c]
        exact ih s
  unfold numsOf
  rw [List.foldl_append]
  exact this m _
theorem canon_new {kp : List Rw} (hb : ∀ r ∈ kp, r.b = dot ∨ r.b = xS ∨ r.b = oS) (hd : ∀ r ∈ kp, r.b = dot → r.d = true) (hs : ∀ r ∈ kp, ∀ r' ∈ kp, r.b ≠ dot → r'.b ≠ dot → r.c = r'.c → r.b = r'.b ∧ r.d = r'.d) :
    ∀ {m l : List Rw}, l ++ m = kp → ∀ tbl : List (Str × Bool), tbl.length = (numsOf l).length → (∀ (j : Nat) (c : Int), (numsOf l)[j]? = some c → ∀ r ∈ kp, r.b ≠ dot → r.c = c → tbl[j]? = some (r.b, r.d)) → canon tbl (m.map fun r => (⟨r.a, r.b, newc (numsOf kp) r, r.d⟩ : Rw))
  | [], _, _, _, _, _ => trivial
  | r :: m, l, e, tbl, ht, hc => by
    have mr : r ∈ kp := by rw [← e]; exact List.mem_append_right _ List.mem_cons_self
    have e' : (l ++ [r]) ++ m = kp := by rw [List.append_assoc]; exact e
    rw [List.map_cons]
    by_cases b : r.b = dot
    · refine .inl ⟨b, ?_, hd r mr b, ?_⟩
      · show newc (numsOf kp) r = -1
        unfold newc
        rw [if_pos b]
      · have en : numsOf (l ++ [r]) = numsOf l := by rw [nums_snoc, if_neg (fun z => z.1 b)]
        exact canon_new hb hd hs e' tbl (by rw [en]; exact ht) (by rw [en]; exact hc)
    · have nk : newc (numsOf kp) r = okD 0 (indexD (numsOf kp) r.c) := by unfold newc; rw [if_neg b]
      by_cases q : r.c ∈ numsOf l
      · obtain ⟨j, hj, ej⟩ := List.getElem_of_mem q
        have gj : (numsOf l)[j]? = some r.c := by rw [List.getElem?_eq_getElem hj, ej]
        have en : numsOf (l ++ [r]) = numsOf l := by rw [nums_snoc, if_neg (fun z => z.2 q)]
        refine .inr (.inl ⟨j, ?_, hc j r.c gj r mr b rfl, canon_new hb hd hs e' tbl (by rw [en]; exact ht) (by rw [en]; exact hc)⟩)
        show newc (numsOf kp) r = _
        rw [nk]
        refine index_uniq (nums_nodup kp) ?_
        obtain ⟨t, et⟩ := nums_pre l (r :: m)
        rw [e] at et
        rw [et, List.getElem?_append_left hj]
        exact gj
      · have en : numsOf (l ++ [r]) = numsOf l ++ [r.c] := by rw [nums_snoc, if_pos ⟨b, q⟩]
        refine .inr (.inr ⟨?_, (hb r mr).resolve_left b, canon_new hb hd hs e' (tbl ++ [(r.b, r.d)]) (by rw [en, List.length_append, List.length_append, ht]; rfl) fun j c hj r' mr' b' ec => ?_⟩)
        · show newc (numsOf kp) r = _
          rw [nk, ht]
          refine index_uniq (nums_nodup kp) ?_
          obtain ⟨t, et⟩ := nums_pre (l ++ [r]) m
          rw [e', en] at et
          rw [et, List.append_assoc, List.getElem?_append_right (Nat.le_refl _), Nat.sub_self]
          rfl
        · rw [en] at hj
          by_cases lj : j < (numsOf l).length
          · rw [List.getElem?_append_left lj] at hj
            rw [List.getElem?_append_left (by omega)]
            exact hc j c hj r' mr' b' ec
          · rw [List.getElem?_append_right (by omega)] at hj
            have j0 : j - (numsOf l).length = 0 := by
              have := (List.getElem?_eq_some_iff.mp hj).1
              rw [List.length_singleton] at this
              omega
            rw [j0] at hj
            have ec2 : r.c = c := Option.some.inj hj
            rw [List.getElem?_append_right (by omega), ht, j0]
            have := hs r mr r' mr' b b' (by rw [ec2, ec])
            show some (r.b, r.d) = _
            rw [this.1, this.2]
theorem keep_canon {w : Int × Tup (Int × Int)} {f : Int → Nat} {k : Int} (h : WebOk w) (hf : ∀ a, 0 ≤ a → a < w.1 → f a = 46 ∨ f a = 120 ∨ f a = 111) (k1 : k < w.1) {D : Int → Prop} {g : List Rw} (d : Ds w f (k + 1) D 1001 g) {rows : List Rw} (e : m_kept_rows g (EL w k) = .ok (some ⟨rows⟩)) : canon [] rows := by
  have n2 := h.n2
  have hl := d.len (by omega)
  obtain ⟨o, eo, ns, ln, hn, hns, rfl⟩ := kept_is (rows := g) (by omega) (EL w k)
  rw [eo] at e
  have e := Res.ok.inj e
  by_cases c : (g.any fun r => !r.d && !decide (r.c ∈ ns)) = true
  · rw [if_pos c] at e; cases e
  · rw [if_neg c] at e
    have e : (⟨(g.filter fun r => decide (r.a ∈ EL w k)).map fun r => (⟨r.a, r.b, newc ns r, r.d⟩ : Rw)⟩ : Ky) = ⟨rows⟩ := Option.some.inj e
    injection e with e
    rw [← e, hn]
    have mg : ∀ r ∈ g.filter fun r => decide (r.a ∈ EL w k), r ∈ g := fun r m => (List.mem_filter.mp m).1
    have st : ∀ r ∈ g, r.b ≠ dot → f r.a ≠ 46 := fun r m b z => b ((b_dot (d.sg r m)).mpr z)
    refine canon_new (l := []) (fun r m => ?_) (fun r m b => (d.dt r (mg r m) ((b_dot (d.sg r (mg r m))).mp b)).2) (fun r m r' m' b b' ec => ?_) rfl [] rfl (fun j c hj => by cases hj)
    · have := d.lt r (mg r m)
      rw [d.sg r (mg r m), dot_eq, xS_eq, oS_eq, str1_inj, str1_inj, str1_inj]
      exact hf r.a this.1 (by omega)
    · have s1 := st r (mg r m) b
      have s2 := st r' (mg r' m') b'
      have cn := (d.eq r (mg r m) r' (mg r' m') s1 s2).mp ec
      refine ⟨by rw [d.sg r (mg r m), d.sg r' (mg r' m'), cn.sg], ?_⟩
      rw [Bool.eq_iff_iff, d.br r (mg r m) s1, d.br r' (mg r' m') s2]
      exact ⟨fun z => z.go tsym cn, fun z => z.go tsym (cn.symm fun {_ _} => tsym _ _)⟩
theorem run_canon {w : Int × Tup (Int × Int)} {f : Int → Nat} (h : WebOk w) (hf : ∀ a, 0 ≤ a → a < w.1 → f a = 46 ∨ f a = 120 ∨ f a = 111) {k : Nat} (hk : (k : Int) < w.1) {key : Ky} (e : runK w f (k + 1) = some key) : canon [] key.l ∧ key.l.map (·.a) = sortI (EL w k) := by
  have n2 := h.n2
  obtain ⟨key2, e2, d2, _⟩ := (run_is h hf (k + 1) (by omega)).resolve_right fun z => by rw [e] at z; cases z.1
  rw [e] at e2
  cases e2
  obtain ⟨_, _, nd, he⟩ := edge_is h k
  refine ⟨?_, ?_⟩
  · cases e1 : runK w f k with
    | none =>
      have : runK w f (k + 1) = (runK w f k).bind fun key => stepK w k key (f k) := rfl
      rw [this, e1] at e; cases e
    | some key1 =>
      have es : runK w f (k + 1) = stepK w k key1 (f k) := by show (runK w f k).bind _ = _; rw [e1]; rfl
      obtain ⟨key3, e3, d, al⟩ := (run_is h hf k (by omega)).resolve_right fun z => by rw [e1] at z; cases z.1
      rw [e1] at e3
      cases e3
      obtain ⟨g, eg, dg⟩ := d.grow h hf (by omega) hk
      obtain ⟨⟨g', eg', ek⟩, _⟩ := step_is h hf (by omega) hk al d
      have eg : m_grown key1 (nextL w k) k ⟨#[f k]⟩ = .ok g := eg
      rw [eg] at eg'
      cases eg'
      rw [← es, e] at ek
      obtain ⟨l⟩ := key
      exact keep_canon h hf hk dg ek
  · refine rise_ext d2.up (sortI_rise nd) fun x => ?_
    rw [mem_sortI, he, List.mem_map]
    have : ((k : Int) + 1) = ((k + 1 : Nat) : Int) := by omega
    rw [this, ← d2.mem x]
def PX : Nat → List (List Nat)
  | 0 => [[]]
  | k + 1 => (PX k).flatMap fun p => [46, 120, 111].map fun c => p ++ [c]
def pairs (k : Nat) : List (List Nat × Nat) := (PX k).flatMap fun p => [46, 120, 111].map fun c => (p, c)
theorem px_succ (k : Nat) : PX (k + 1) = (pairs k).map fun x => x.1 ++ [x.2] := by
  show ((PX k).flatMap fun p => [46, 120, 111].map fun c => p ++ [c]) = ((PX k).flatMap fun p => [46, 120, 111].map fun c => (p, c)).map fun x => x.1 ++ [x.2]
  rw [List.map_flatMap]
  rfl
theorem mem_pairs {k : Nat} {x : List Nat × Nat} : x ∈ pairs k ↔ x.1 ∈ PX k ∧ (x.2 = 46 ∨ x.2 = 120 ∨ x.2 = 111) := by
  unfold pairs
  rw [List.mem_flatMap]
  constructor
  · rintro ⟨p, m, h⟩
    obtain ⟨c, mc, e⟩ := List.mem_map.mp h
    subst e
    refine ⟨m, ?_⟩
    simpa using mc
  · rintro ⟨m, h⟩
    exact ⟨x.1, m, List.mem_map.mpr ⟨x.2, by simpa using h, rfl⟩⟩
theorem px_mem : ∀ {k : Nat} {p : List Nat}, p ∈ PX k ↔ p.length = k ∧ ∀ c ∈ p, c = 46 ∨ c = 120 ∨ c = 111
  | 0, p => by
    show p ∈ [[]] ↔ _
    rw [List.mem_singleton]
    exact ⟨fun e => by subst e; exact ⟨rfl, fun c m => by cases m⟩, fun e => List.length_eq_zero_iff.mp e.1⟩
  | k + 1, p => by
    rw [px_succ, List.mem_map]
    constructor
    · rintro ⟨x, m, rfl⟩
      obtain ⟨m1, m2⟩ := mem_pairs.mp m
      obtain ⟨l, h⟩ := px_mem.mp m1
      refine ⟨by rw [List.length_append, l]; rfl, fun c mc => ?_⟩
      rcases List.mem_append.mp mc with mc | mc
      · exact h c mc
      · rw [List.mem_singleton.mp mc]; exact m2
    · rintro ⟨l, h⟩
      have hne : p ≠ [] := fun e => by subst e; cases l
      refine ⟨(p.dropLast, p.getLast hne), mem_pairs.mpr ⟨px_mem.mpr ⟨by rw [List.length_dropLast, l]; rfl, fun c m => h c (List.dropLast_subset _ m)⟩, h _ (List.getLast_mem hne)⟩, List.dropLast_concat_getLast hne⟩
def fp (p : List Nat) : Int → Nat := fun j => p.getD j.toNat 46
def stn (p : List Nat) : Nat := p.countP fun c => decide (c ≠ 46)
theorem runK_congr {w : Int × Tup (Int × Int)} {f f' : Int → Nat} : ∀ {k : Nat}, (∀ j : Nat, j < k → f j = f' j) → runK w f k = runK w f' k
  | 0, _ => rfl
  | k + 1, h => by
    show (runK w f k).bind _ = (runK w f' k).bind _
    rw [runK_congr (k := k) fun j l => h j (by omega), h k (by omega)]
def rn (w : Int × Tup (Int × Int)) (p : List Nat) : Option Ky := runK w (fp p) p.length
def nx (w : Int × Tup (Int × Int)) (k : Nat) (x : List Nat × Nat) : Option Ky := (rn w x.1).bind fun key => stepK w k key x.2
theorem fp_low {p q : List Nat} {j : Nat} (h : j < p.length) : fp (p ++ q) j = fp p j := by
  unfold fp
  rw [Int.toNat_natCast, List.getD_eq_getElem?_getD, List.getD_eq_getElem?_getD, List.getElem?_append_left h]
theorem fp_at {p : List Nat} {c : Nat} : fp (p ++ [c]) (p.length : Int) = c := by
  unfold fp
  rw [Int.toNat_natCast, List.getD_eq_getElem?_getD, List.getElem?_append_right (Nat.le_refl _), Nat.sub_self]
  rfl
theorem rn_snoc {w : Int × Tup (Int × Int)} {k : Nat} {x : List Nat × Nat} (h : x.1.length = k) : rn w (x.1 ++ [x.2]) = nx w k x := by
  subst h
  unfold rn nx
  rw [List.length_append]
  show (runK w (fp (x.1 ++ [x.2])) x.1.length).bind (fun key => stepK w x.1.length key (fp (x.1 ++ [x.2]) x.1.length)) = _
  rw [fp_at, runK_congr (f' := fp x.1) fun j l => fp_low l]
  rfl
theorem fp_ok {k : Nat} {p : List Nat} (h : p ∈ PX k) (c : Nat) (hc : c = 46 ∨ c = 120 ∨ c = 111) (a : Int) : fp (p ++ [c]) a = 46 ∨ fp (p ++ [c]) a = 120 ∨ fp (p ++ [c]) a = 111 := by
  unfold fp
  rw [List.getD_eq_getElem?_getD]
  cases e : (p ++ [c])[a.toNat]? with
  | none => exact .inl rfl
  | some d =>
    rcases List.mem_append.mp (List.mem_of_getElem? e) with m | m
    · exact (px_mem.mp h).2 d m
    · rw [show (some d).getD 46 = d from rfl, List.mem_singleton.mp m]; exact hc
theorem stn_snoc (p : List Nat) (c : Nat) : stn (p ++ [c]) = stn p + (if c = 46 then 0 else 1) := by
  unfold stn
  rw [List.countP_append]
  by_cases e : c = 46
  · subst e; rfl
  · rw [if_neg e]
    have : [c].countP (fun c => decide (c ≠ 46)) = 1 := by
      rw [List.countP_cons, List.countP_nil, if_pos (decide_eq_true e)]
    rw [this]
theorem stn_le (p : List Nat) : stn p ≤ p.length := List.countP_le_length
theorem px_len : ∀ k : Nat, (PX k).length = 3 ^ k
  | 0 => rfl
  | k + 1 => by
    have : ∀ l : List (List Nat), (l.flatMap fun p => [46, 120, 111].map fun c => p ++ [c]).length = 3 * l.length := by
      intro l
      induction l with
      | nil => rfl
      | cons a l ih => rw [List.flatMap_cons, List.length_append, ih, List.length_cons]; simp; omega
    show ((PX k).flatMap fun p => [46, 120, 111].map fun c => p ++ [c]).length = _
    rw [this, px_len k, Nat.pow_succ]; omega
theorem countP_split {α : Type} {l : List α} {p q r : α → Bool} (h : ∀ x ∈ l, (p x = true ↔ q x = true ∨ r x = true) ∧ ¬ (q x = true ∧ r x = true)) : l.countP p = l.countP q + l.countP r := by
  induction l with
  | nil => rfl
  | cons a l ih =>
    rw [List.countP_cons, List.countP_cons, List.countP_cons, ih fun x m => h x (List.mem_cons_of_mem _ m)]
    obtain ⟨h1, h2⟩ := h a List.mem_cons_self
    cases ep : p a <;> cases eq : q a <;> cases er : r a <;> rw [ep, eq, er] at h1 <;> rw [eq, er] at h2 <;> simp at h1 h2 ⊢ <;> omega
theorem countP_eq {α : Type} {l : List α} {p q : α → Bool} (h : ∀ x ∈ l, (p x = true ↔ q x = true)) : l.countP p = l.countP q := by
  induction l with
  | nil => rfl
  | cons a l ih =>
    rw [List.countP_cons, List.countP_cons, ih fun x m => h x (List.mem_cons_of_mem _ m), (Bool.eq_iff_iff.mpr (h a List.mem_cons_self) : p a = q a)]
theorem countP_none {α : Type} {l : List α} {p : α → Bool} (h : ∀ x ∈ l, ¬ p x = true) : l.countP p = 0 := List.countP_eq_zero.mpr h
theorem countP_pairs {c : Nat} (hc : c = 46 ∨ c = 120 ∨ c = 111) (q : List Nat → Bool) (l : List (List Nat)) : (l.flatMap fun p => [46, 120, 111].map fun c => (p, c)).countP (fun x => q x.1 && decide (x.2 = c)) = l.countP q := by
  induction l with
  | nil => rfl
  | cons a l ih =>
    rw [List.flatMap_cons, List.countP_append, ih, List.countP_cons]
    have : ([46, 120, 111].map fun c => (a, c)).countP (fun x : List Nat × Nat => q x.1 && decide (x.2 = c)) = if q a = true then 1 else 0 := by
      show [(a, 46), (a, 120), (a, 111)].countP _ = _
      rw [List.countP_cons, List.countP_cons, List.countP_cons, List.countP_nil]
      rcases hc with rfl | rfl | rfl <;> cases q a <;> simp
    rw [this]; omega
theorem setR_ok {xs : List Int} {i : Int} {a : Int} (h0 : 0 ≤ i) (h : i < xs.length) : setR xs i a = .ok (xs.set i.toNat a) := by
  unfold setR
  have : ixN xs.length i = some i.toNat := by unfold ixN; rw [if_pos h0, if_pos h]
  rw [this]
theorem getD_set {xs : List Int} {i j : Nat} {a : Int} (h : i < xs.length) : (xs.set i a).getD j 0 = if j = i then a else xs.getD j 0 := by
  rw [List.getD_eq_getElem?_getD, List.getD_eq_getElem?_getD, List.getElem?_set]
  by_cases e : i = j
  · subst e; rw [if_pos rfl, if_pos rfl, if_pos h]; rfl
  · rw [if_neg e, if_neg (fun z => e z.symm)]
theorem idx_getD {xs : List Int} {i : Int} (h0 : 0 ≤ i) (h : i < xs.length) : idx xs i = .ok (xs.getD i.toNat 0) := by
  refine idx_int h0 ?_
  rw [List.getD_eq_getElem?_getD, List.getElem?_eq_getElem (show i.toNat < xs.length by omega)]; rfl
theorem Sat.noX {α : Type} {m : Res α} {P : α → Prop} (h : Sat m P) : Sat (noX m) P := by
  obtain ⟨a, e, p⟩ := h
  rw [e]
  exact ⟨a, rfl, p⟩
theorem added_is {d : Dic Ky (List Int)} {key : Ky} {row : List Int} {m : Nat} (hm : m ≤ 1) (hr : row.length ≤ 100) (hd : d.l.length ≤ 1000000) (hl : ∀ l, dget d key = some l → l.length = row.length + 1) :
    Sat (m_added d key row (m : Int)) (fun r => ∃ s : List Int, r = ((), (dput d key s, ())) ∧ s.length = row.length + 1 ∧ ∀ j, s.getD j 0 = ((dget d key).getD []).getD j 0 + if m ≤ j then row.getD (j - m) 0 else 0) := by
  unfold m_added
  refine Sat.noX ?_
  rw [repR1_ok (by omega) (by omega)]
  refine .bok (.bok ?_)
  have len0 : ((dget d key).getD (List.replicate ((row.length : Int) + 1).toNat (0 : Int))).length = row.length + 1 := by
    cases e : dget d key with
    | none => show (List.replicate _ _).length = _; rw [List.length_replicate]; omega
    | some l => exact hl l e
  have g0 : ∀ j, ((dget d key).getD (List.replicate ((row.length : Int) + 1).toNat (0 : Int))).getD j 0 = ((dget d key).getD []).getD j 0 := fun j => by
    cases e : dget d key with
    | none =>
      show (List.replicate _ _).getD j 0 = ([] : List Int).getD j 0
      rw [List.getD_eq_getElem?_getD, List.getElem?_replicate]
      split <;> rfl
    | some l => rfl
  generalize ((dget d key).getD (List.replicate ((row.length : Int) + 1).toNat (0 : Int))) = s0 at len0 g0
  refine .bassoc (.brange (by omega) (by omega) ?_)
  refine .bind (Sat.foldR (fun i s => s.length = row.length + 1 ∧ ∀ j, s.getD j 0 = ((dget d key).getD []).getD j 0 + if m ≤ j ∧ j < m + i then row.getD (j - m) 0 else 0) ⟨len0, fun j => by rw [g0, if_neg (by omega)]; omega⟩ ?_) fun s ⟨h1, h2⟩ => ?_
  · rintro i s a ha ⟨h1, h2⟩
    obtain ⟨hi, rfl⟩ := rangeL0 ha
    rw [idx_getD (by omega) (by omega), idx_getD (by omega) (by omega)]
    refine .bassoc (.bassoc (.bok (.bassoc (.bok (.bok ?_)))))
    rw [setR_ok (by omega) (by omega)]
    refine .bok (.ok ⟨by rw [List.length_set]; exact h1, fun j => ?_⟩)
    rw [getD_set (by omega)]
    have e1 : ((i : Int) + (m : Int)).toNat = i + m := by omega
    rw [e1]
    by_cases e : j = i + m
    · subst e
      rw [if_pos rfl, h2, if_neg (by omega), if_pos (by omega), Int.toNat_natCast, show i + m - m = i by omega]
      omega
    · rw [if_neg e, h2]
      congr 1
      by_cases c : m ≤ j ∧ j < m + i
      · rw [if_pos c, if_pos ⟨c.1, by omega⟩]
      · rw [if_neg c, if_neg (by omega)]
  · rw [dputR_ok hd]
    refine .bok (.ok ⟨s, rfl, h1, fun j => ?_⟩)
    rw [h2, rangeL_len]
    congr 1
    by_cases c : m ≤ j
    · by_cases c2 : j < m + (row.length : Int).toNat
      · rw [if_pos ⟨c, c2⟩, if_pos c]
      · rw [if_neg (fun z => c2 z.2), if_pos c, List.getD_eq_getElem?_getD, List.getElem?_eq_none (by omega)]; rfl
    · rw [if_neg (fun z => c z.1), if_neg c]
abbrev DK := G.Dic Ky (List Int)
def vl (d : DK) (key : Ky) (s : Nat) : Int := ((dget d key).getD []).getD s 0
def st1 (c : Nat) : Nat := if c = 46 then 0 else 1
structure Lv (w : Int × Tup (Int × Int)) (k : Nat) (d : DK) : Prop where
  kn : (dkeys d).Nodup
  ln : ∀ key l, dget d key = some l → l.length = k + 1
  vv : ∀ key s, vl d key s = (((PX k).countP fun p => decide (rn w p = some key) && decide (stn p = s) : Nat) : Int)
  hs : ∀ key, dhas d key = true ↔ ∃ p ∈ PX k, rn w p = some key
structure Inv (w : Int × Tup (Int × Int)) (k : Nat) (d : DK) (done : List Nat × Nat → Bool) : Prop where
  kn : (dkeys d).Nodup
  ln : ∀ key l, dget d key = some l → l.length = k + 2
  vv : ∀ key s, vl d key s = (((pairs k).countP fun x => done x && (decide (nx w k x = some key) && decide (stn x.1 + st1 x.2 = s)) : Nat) : Int)
  hs : ∀ key, dhas d key = true ↔ ∃ x ∈ pairs k, done x = true ∧ nx w k x = some key
def Few (w : Int × Tup (Int × Int)) : Prop := ∀ k : Nat, (k : Int) ≤ w.1 → ∃ L : List Ky, L.length ≤ 900000 ∧ ∀ p ∈ PX k, ∀ key, rn w p = some key → key ∈ L
theorem Inv.congr {w : Int × Tup (Int × Int)} {k : Nat} {d : DK} {p q : List Nat × Nat → Bool} (I : Inv w k d p) (h : ∀ x ∈ pairs k, p x = q x) : Inv w k d q :=
  ⟨I.kn, I.ln, fun key s => by rw [I.vv]; congr 1; exact countP_eq fun x m => by rw [h x m], fun key => by
    rw [I.hs]
    exact ⟨fun ⟨x, m, a, b⟩ => ⟨x, m, by rw [← h x m]; exact a, b⟩, fun ⟨x, m, a, b⟩ => ⟨x, m, by rw [h x m]; exact a, b⟩⟩⟩
theorem nx_rn {w : Int × Tup (Int × Int)} {k : Nat} {x : List Nat × Nat} (m : x ∈ pairs k) : rn w (x.1 ++ [x.2]) = nx w k x := rn_snoc (px_mem.mp (mem_pairs.mp m).1).1
theorem Inv.small {w : Int × Tup (Int × Int)} (F : Few w) {k : Nat} (hk : (k : Int) < w.1) {d : DK} {done : List Nat × Nat → Bool} (I : Inv w k d done) : d.l.length ≤ 900000 := by
  obtain ⟨L, hL, hm⟩ := F (k + 1) (by omega)
  rw [← keys_len]
  refine Nat.le_trans (nodup_sub_len I.kn fun key m => ?_) hL
  have : dhas d key = true := by rw [dhas_keys]; exact decide_eq_true m
  obtain ⟨x, mx, _, e⟩ := (I.hs key).mp this
  exact hm _ (by rw [px_succ]; exact List.mem_map.mpr ⟨x, mx, rfl⟩) key (by rw [nx_rn mx]; exact e)
theorem Inv.step {w : Int × Tup (Int × Int)} (h : WebOk w) (F : Few w) {k : Nat} (hk : (k : Int) < w.1) {d : DK} {done : List Nat × Nat → Bool} (I : Inv w k d done) {key : Ky} {row : List Int} (hr : row.length = k + 1)
    (hv : ∀ s, row.getD s 0 = (((PX k).countP fun p => decide (rn w p = some key) && decide (stn p = s) : Nat) : Int)) {p0 : List Nat} (hp : p0 ∈ PX k) (hp2 : rn w p0 = some key) {c : Nat} (hc : c = 46 ∨ c = 120 ∨ c = 111)
    (fresh : ∀ x ∈ pairs k, rn w x.1 = some key → x.2 = c → done x = false) {es : List (List Int)} (he : idx es (k : Int) = .ok (EL w k)) :
    Sat (Res.bind (Res.bind (Res.bind (m_grown key (nextL w k) (k : Int) ⟨#[c]⟩) fun v18 => (Res.bind (Res.bind (idx es (k : Int)) fun v17 => (Res.ok (v17, ()))) fun v19 => (Res.ok (v18, v19)))) fun a20 => (m_kept_rows a20.1 a20.2.1)) fun (key16 : (Option (G.Tup (G.T4 Int PySem.Str Int Bool)))) => (Res.bind (if (Option.isSome key16) then (Res.bind (Res.bind (unw key16) fun v22 => (m_added d v22 row (if (!ScaEq.eq (⟨#[c]⟩ : Str) (PySem.Str.ofString ".")) then (1 : Int) else 0))) fun (r23 : Unit × ((G.Dic (G.Tup (G.T4 Int PySem.Str Int Bool)) (List Int)) × Unit)) => (Res.ok r23.2.1)) else (Res.ok d)) fun s21 => (Res.ok s21)))
      fun d' => Inv w k d' (fun x => done x || (decide (rn w x.1 = some key) && decide (x.2 = c))) := by
  have n2 := h.n2
  have lp := (px_mem.mp hp).1
  have hfc := fun a (_ : 0 ≤ a) (_ : a < w.1) => fp_ok hp c hc a
  have rk : runK w (fp (p0 ++ [c])) k = some key := by
    rw [runK_congr (f' := fp p0) fun j l => fp_low (by omega)]
    rw [← hp2]; unfold rn; rw [lp]
  have fc : fp (p0 ++ [c]) (k : Int) = c := by rw [← lp]; exact fp_at
  obtain ⟨key1, e1, ds, al⟩ := (run_is h hfc k (by omega)).resolve_right fun z => by rw [rk] at z; cases z.1
  rw [rk] at e1
  cases e1
  have st := step_is h hfc (by omega) hk al ds
  rw [fc] at st
  obtain ⟨⟨g, eg, ek⟩, _⟩ := st
  rw [eg, he]
  refine .bassoc (.bassoc (.bok (.bassoc (.bassoc (.bok (.bok (.bok ?_)))))))
  show Sat ((m_kept_rows g (EL w k)).bind _) _
  rw [ek]
  refine .bok ?_
  have nxk : ∀ x ∈ pairs k, rn w x.1 = some key → x.2 = c → nx w k x = stepK w k key c := fun x m e1 e2 => by
    unfold nx
    rw [e1, e2]; rfl
  cases es : stepK w k key c with
  | none =>
    refine .bok (.ok ⟨I.kn, I.ln, fun κ s => ?_, fun κ => ?_⟩)
    · rw [I.vv]
      congr 1
      refine countP_eq fun x m => ?_
      simp only [Bool.and_eq_true, Bool.or_eq_true, decide_eq_true_eq]
      refine ⟨fun ⟨a, b⟩ => ⟨.inl a, b⟩, fun ⟨a, b⟩ => ⟨a.elim id fun z => ?_, b⟩⟩
      have := nxk x m z.1 z.2
      rw [es, b.1] at this; cases this
    · rw [I.hs]
      constructor
      · rintro ⟨x, m, a, b⟩
        exact ⟨x, m, by rw [a]; rfl, b⟩
      · rintro ⟨x, m, a, b⟩
        refine ⟨x, m, ?_, b⟩
        simp only [Bool.and_eq_true, Bool.or_eq_true, decide_eq_true_eq] at a
        refine a.elim id fun z => ?_
        have := nxk x m z.1 z.2
        rw [es, b] at this; cases this
  | some k2 =>
    rw [if_pos (show Option.isSome (some k2) = true from rfl), show unw (some k2) = .ok k2 from rfl]
    refine .bassoc (.bassoc (.bok ?_))
    have em : (if (!ScaEq.eq (⟨#[c]⟩ : Str) (PySem.Str.ofString ".")) then (1 : Int) else 0) = ((st1 c : Nat) : Int) := by
      rw [eqSS]
      unfold st1
      have : (⟨#[c]⟩ : Str) = PySem.Str.ofString "." ↔ c = 46 := b_dot rfl
      by_cases e : c = 46
      · rw [decide_eq_true (this.mpr e), if_pos e]; rfl
      · rw [decide_eq_false (fun z => e (this.mp z)), if_neg e]; rfl
    rw [em]
    have m1 : st1 c ≤ 1 := by unfold st1; split <;> omega
    refine .bind (added_is m1 (by omega) (by have := I.small F hk; omega) (fun l e => by rw [I.ln _ _ e, hr])) fun r ⟨s, er, sl, sv⟩ => ?_
    subst er
    refine .bok (.ok ⟨put_nodup _ _ _ I.kn, fun κ l e => ?_, fun κ j => ?_, fun κ => ?_⟩)
    · rw [dget_put] at e
      by_cases ek : κ = k2
      · rw [if_pos ek] at e
        rw [← Option.some.inj e, sl, hr]
      · rw [if_neg ek] at e
        exact I.ln _ _ e
    · have sp : (pairs k).countP (fun x => (done x || (decide (rn w x.1 = some key) && decide (x.2 = c))) && (decide (nx w k x = some κ) && decide (stn x.1 + st1 x.2 = j))) =
          (pairs k).countP (fun x => done x && (decide (nx w k x = some κ) && decide (stn x.1 + st1 x.2 = j))) + (pairs k).countP (fun x => (decide (rn w x.1 = some key) && (decide (k2 = κ) && decide (stn x.1 + st1 c = j))) && decide (x.2 = c)) := by
        refine countP_split fun x m => ⟨?_, ?_⟩
        · simp only [Bool.and_eq_true, Bool.or_eq_true, decide_eq_true_eq]
          constructor
          · rintro ⟨a | ⟨a1, a2⟩, b1, b2⟩
            · exact .inl ⟨a, b1, b2⟩
            · have := nxk x m a1 a2
              rw [es, b1] at this
              exact .inr ⟨⟨a1, (Option.some.inj this).symm, by rw [← a2]; exact b2⟩, a2⟩
          · rintro (⟨a, b⟩ | ⟨⟨a1, a3, a4⟩, a2⟩)
            · exact ⟨.inl a, b⟩
            · refine ⟨.inr ⟨a1, a2⟩, ?_, by rw [a2]; exact a4⟩
              rw [nxk x m a1 a2, es, a3]
        · simp only [Bool.and_eq_true, decide_eq_true_eq]
          rintro ⟨⟨a, _⟩, ⟨b1, _⟩, b2⟩
          rw [fresh x m b1 b2] at a; cases a
      rw [sp, Int.natCast_add, ← I.vv]
      have e2 : (pairs k).countP (fun x => (decide (rn w x.1 = some key) && (decide (k2 = κ) && decide (stn x.1 + st1 c = j))) && decide (x.2 = c)) = (PX k).countP fun p => decide (rn w p = some key) && (decide (k2 = κ) && decide (stn p + st1 c = j)) := countP_pairs hc (fun p => decide (rn w p = some key) && (decide (k2 = κ) && decide (stn p + st1 c = j))) (PX k)
      rw [e2]
      unfold vl
      rw [dget_put]
      by_cases ek : κ = k2
      · subst ek
        rw [if_pos rfl]
        show s.getD j 0 = _
        rw [sv]
        congr 1
        by_cases l : st1 c ≤ j
        · rw [if_pos l, hv]
          congr 1
          refine countP_eq fun p _ => ?_
          simp only [Bool.and_eq_true, decide_eq_true_eq]
          exact and_congr_right fun _ => ⟨fun e => ⟨trivial, by omega⟩, fun e => by omega⟩
        · rw [if_neg l, countP_none fun p _ => ?_]
          · rfl
          · simp only [Bool.and_eq_true, decide_eq_true_eq]
            rintro ⟨_, _, e⟩
            omega
      · rw [if_neg ek, countP_none fun p _ => ?_]
        · show _ = _ + 0
          omega
        · simp only [Bool.and_eq_true, decide_eq_true_eq]
          rintro ⟨_, e, _⟩
          exact ek e.symm
    · rw [dhas_put, Bool.or_eq_true, decide_eq_true_eq, I.hs]
      constructor
      · rintro (e | ⟨x, m, a, b⟩)
        · have mx : (p0, c) ∈ pairs k := mem_pairs.mpr ⟨hp, hc⟩
          refine ⟨(p0, c), mx, by simp only [Bool.or_eq_true, Bool.and_eq_true, decide_eq_true_eq]; exact .inr ⟨hp2, trivial⟩, ?_⟩
          rw [nxk _ mx hp2 rfl, es, e]
        · exact ⟨x, m, by rw [a]; rfl, b⟩
      · rintro ⟨x, m, a, b⟩
        simp only [Bool.and_eq_true, Bool.or_eq_true, decide_eq_true_eq] at a
        rcases a with a | ⟨a1, a2⟩
        · exact .inr ⟨x, m, a, b⟩
        · have := nxk x m a1 a2
          rw [es, b] at this
          exact .inl (Option.some.inj this)
theorem signs_xo : signsOf (PySem.Str.ofString ".xo") = [⟨#[46]⟩, ⟨#[120]⟩, ⟨#[111]⟩] := by decide +kernel
theorem get_mem {d : DK} {key : Ky} {row : List Int} (kn : (dkeys d).Nodup) (m : (key, row) ∈ d.l) : dget d key = some row := by
  unfold dget
  have : ∀ l : List (Ky × List Int), (l.map (·.1)).Nodup → (key, row) ∈ l → (l.find? fun kv => decide (kv.1 = key)).map (·.2) = some row := by
    intro l
    induction l with
    | nil => intro _ m; cases m
    | cons a l ih =>
      intro n m
      have n := List.nodup_cons.mp n
      rw [List.find?_cons]
      by_cases e : a.1 = key
      · rw [decide_eq_true e]
        rcases List.mem_cons.mp m with m | m
        · rw [← m]; rfl
        · exact absurd (List.mem_map.mpr ⟨_, m, e.symm⟩) n.1
      · rw [decide_eq_false e]
        rcases List.mem_cons.mp m with m | m
        · exact absurd (by rw [← m]) e
        · exact ih n.2 m
  exact this d.l kn m
def DN (w : Int × Tup (Int × Int)) (l : List (Ky × List Int)) (x : List Nat × Nat) : Bool := l.any fun e => decide (rn w x.1 = some e.1)
theorem dn_iff {w : Int × Tup (Int × Int)} {l : List (Ky × List Int)} {x : List Nat × Nat} : DN w l x = true ↔ ∃ e ∈ l, rn w x.1 = some e.1 := by
  unfold DN
  rw [List.any_eq_true]
  exact ⟨fun ⟨e, m, h⟩ => ⟨e, m, of_decide_eq_true h⟩, fun ⟨e, m, h⟩ => ⟨e, m, decide_eq_true h⟩⟩
theorem Lv.next {w : Int × Tup (Int × Int)} (h : WebOk w) (F : Few w) {k : Nat} (hk : (k : Int) < w.1) {d : DK} (L : Lv w k d) {es : List (List Int)} (he : idx es (k : Int) = .ok (EL w k)) :
    Sat (foldR (fun (s12 : (G.Dic (G.Tup (G.T4 Int PySem.Str Int Bool)) (List Int))) (a13 : ((G.Tup (G.T4 Int PySem.Str Int Bool)) × (List Int))) => (Res.bind (foldR (fun (s14 : (G.Dic (G.Tup (G.T4 Int PySem.Str Int Bool)) (List Int))) (a15 : PySem.Str) => (Res.bind (Res.bind (Res.bind (m_grown a13.1 (nextL w k) (k : Int) a15) fun v18 => (Res.bind (Res.bind (idx es (k : Int)) fun v17 => (Res.ok (v17, ()))) fun v19 => (Res.ok (v18, v19)))) fun a20 => (m_kept_rows a20.1 a20.2.1)) fun (key16 : (Option (G.Tup (G.T4 Int PySem.Str Int Bool)))) => (Res.bind (if (Option.isSome key16) then (Res.bind (Res.bind (unw key16) fun v22 => (m_added s14 v22 a13.2 (if (!ScaEq.eq a15 (PySem.Str.ofString ".")) then (1 : Int) else 0))) fun (r23 : Unit × ((G.Dic (G.Tup (G.T4 Int PySem.Str Int Bool)) (List Int)) × Unit)) => (Res.ok r23.2.1)) else (Res.ok s14)) fun s21 => (Res.ok s21)))) s12 (signsOf (PySem.Str.ofString ".xo"))) fun s14 => (Res.ok s14))) ⟨[]⟩ d.l) (Lv w (k + 1)) := by
  have n2 := h.n2
  have I0 : Inv w k ⟨[]⟩ (DN w (d.l.take 0)) := ⟨.nil, (fun key l e => by cases e), fun key s => by
    rw [countP_none fun x m => by
      simp only [Bool.and_eq_true, dn_iff]
      rintro ⟨⟨e, m, _⟩, _⟩
      cases m]
    rfl, fun key => ⟨(fun e => by cases e), (fun ⟨x, m, a, b⟩ => by
      obtain ⟨e, m, _⟩ := dn_iff.mp a
      cases m)⟩⟩
  refine (Sat.foldR (fun i s => Inv w k s (DN w (d.l.take i))) I0 ?_).imp fun s I => ?_
  · rintro i s ⟨key, row⟩ hx I
    have mx := List.mem_of_getElem? hx
    have eg := get_mem L.kn mx
    have hr : row.length = k + 1 := L.ln _ _ eg
    have hv : ∀ s, row.getD s 0 = (((PX k).countP fun p => decide (rn w p = some key) && decide (stn p = s) : Nat) : Int) := fun s => by
      rw [← L.vv]; unfold vl; rw [eg]; rfl
    obtain ⟨p0, hp, hp2⟩ := (L.hs key).mp (by rw [← dget_isSome, eg]; rfl)
    have hi := (List.getElem?_eq_some_iff.mp hx).1
    have notin : ∀ e ∈ d.l.take i, e.1 ≠ key := fun e me ek => by
      obtain ⟨j, hj, ej⟩ := List.getElem_of_mem me
      rw [List.length_take] at hj
      rw [List.getElem_take] at ej
      have kn := L.kn
      unfold dkeys at kn
      have a1 : (d.l.map (·.1))[j]'(by rw [List.length_map]; omega) = key := by rw [List.getElem_map, ej, ek]
      have a2 : (d.l.map (·.1))[i]'(by rw [List.length_map]; exact hi) = key := by
        rw [List.getElem_map]
        have := (List.getElem?_eq_some_iff.mp hx).2
        rw [this]
      have := (List.getElem_inj kn).mp (a1.trans a2.symm)
      omega
    have fr0 : ∀ x : List Nat × Nat, rn w x.1 = some key → DN w (d.l.take i) x = false := fun x e => Bool.eq_false_iff.mpr fun z => by
      obtain ⟨e', m', h'⟩ := dn_iff.mp z
      exact notin e' m' (by rw [e] at h'; exact (Option.some.inj h').symm)
    rw [signs_xo]
    refine .bind (P := fun s => Inv w k s (DN w (d.l.take (i + 1)))) ?_ fun s I => .ok I
    refine .bind (I.step h F hk hr hv hp hp2 (c := 46) (.inl rfl) (fun x m e1 e2 => fr0 x e1) he) fun s1 I1 => ?_
    refine .bind (I1.step h F hk hr hv hp hp2 (c := 120) (.inr (.inl rfl)) (fun x m e1 e2 => by rw [fr0 x e1, e2]; simp) he) fun s2 I2 => ?_
    refine .bind (I2.step h F hk hr hv hp hp2 (c := 111) (.inr (.inr rfl)) (fun x m e1 e2 => by rw [fr0 x e1, e2]; simp) he) fun s3 I3 => .ok (I3.congr fun x m => ?_)
    rw [Bool.eq_iff_iff]
    simp only [Bool.and_eq_true, Bool.or_eq_true, decide_eq_true_eq, dn_iff]
    rw [List.take_succ, hx]
    constructor
    · rintro (((⟨e, m, h⟩ | ⟨h, _⟩) | ⟨h, _⟩) | ⟨h, _⟩)
      · exact ⟨e, List.mem_append_left _ m, h⟩
      · exact ⟨(key, row), List.mem_append_right _ (List.mem_singleton.mpr rfl), h⟩
      · exact ⟨(key, row), List.mem_append_right _ (List.mem_singleton.mpr rfl), h⟩
      · exact ⟨(key, row), List.mem_append_right _ (List.mem_singleton.mpr rfl), h⟩
    · rintro ⟨e, me, h⟩
      rcases List.mem_append.mp me with me | me
      · exact .inl (.inl (.inl ⟨e, me, h⟩))
      · have : e = (key, row) := List.mem_singleton.mp me
        rw [this] at h
        rcases (mem_pairs.mp m).2 with c | c | c
        · exact .inl (.inl (.inr ⟨h, c⟩))
        · exact .inl (.inr ⟨h, c⟩)
        · exact .inr ⟨h, c⟩
  · rw [List.take_length] at I
    have dn : ∀ x ∈ pairs k, ∀ key, nx w k x = some key → ∃ e ∈ d.l, rn w x.1 = some e.1 := fun x m key e => by
      unfold nx at e
      cases er : rn w x.1 with
      | none => rw [er] at e; cases e
      | some k1 =>
        have := (L.hs k1).mpr ⟨x.1, (mem_pairs.mp m).1, er⟩
        rw [dhas_keys] at this
        obtain ⟨y, my, ey⟩ := List.mem_map.mp (of_decide_eq_true this)
        exact ⟨y, my, by rw [ey]⟩
    refine ⟨I.kn, I.ln, fun key s => ?_, fun key => ?_⟩
    · rw [I.vv, px_succ, List.countP_map]
      congr 1
      refine countP_eq fun x m => ?_
      show _ ↔ (decide (rn w (x.1 ++ [x.2]) = some key) && decide (stn (x.1 ++ [x.2]) = s)) = true
      rw [nx_rn m, stn_snoc]
      simp only [Bool.and_eq_true, decide_eq_true_eq, dn_iff]
      exact ⟨fun z => z.2, fun z => ⟨dn x m key z.1, z⟩⟩
    · rw [I.hs, px_succ]
      constructor
      · rintro ⟨x, m, _, e⟩
        exact ⟨_, List.mem_map.mpr ⟨x, m, rfl⟩, by rw [nx_rn m]; exact e⟩
      · rintro ⟨p, mp, e⟩
        obtain ⟨x, m, rfl⟩ := List.mem_map.mp mp
        rw [nx_rn m] at e
        exact ⟨x, m, dn_iff.mpr (dn x m key e), e⟩
noncomputable def sdB (w : Int × Tup (Int × Int)) (b : Str) : Bool := @decide (Sound w b) (Classical.propDecidable _)
theorem sdB_iff {w : Int × Tup (Int × Int)} {b : Str} : sdB w b = true ↔ Sound w b := by unfold sdB; exact @decide_eq_true_iff _ (Classical.propDecidable _)
noncomputable def SC (w : Int × Tup (Int × Int)) : List Int := (List.range (w.1.toNat + 1)).map fun s => (((PX w.1.toNat).countP fun p => sdB w ⟨p.toArray⟩ && decide (stn p = s) : Nat) : Int)
theorem sounds_is {w : Int × Tup (Int × Int)} (h : WebOk w) (F : Few w) (E : ∀ k : Int, 0 ≤ k → k < w.1 → (EL w k).length ≤ 6) : m_sound_by_stones w = .ok (SC w) := by
  have n1 := h.n1
  have n2 := h.n2
  refine Sat.eq ?_
  unfold m_sound_by_stones
  refine .bassoc (.brange (by omega) (by omega) ?_)
  rw [lcT_map (g' := EL w) (by rw [rangeL_len]; omega) (fun k _ => (edge_is h k).1)]
  refine .bok ?_
  refine .bind (P := fun _ => True) ?_ fun _ _ => ?_
  · refine (Sat.foldR (fun _ _ => True) trivial ?_)
    intro i s a ha _
    obtain ⟨k, mk, rfl⟩ := List.mem_map.mp (List.mem_of_getElem? ha)
    have mk := mem_rangeL.mp mk
    have := E k mk.1 (by omega)
    rw [decide_eq_false (by omega), if_neg (by decide)]
    exact .ok trivial
  have L0 : Lv w 0 (⟨[((⟨[]⟩ : Ky), ((1 : Int) :: []))]⟩ : DK) := by
    refine ⟨List.pairwise_singleton _ _, fun key l e => ?_, fun key s => ?_, fun key => ?_⟩
    · unfold dget at e
      rw [List.find?_cons] at e
      split at e
      · cases e; rfl
      · cases e
    · rw [show PX 0 = [[]] from rfl, List.countP_cons, List.countP_nil]
      have er : rn w [] = some ⟨[]⟩ := rfl
      rw [er, show stn [] = 0 from rfl]
      unfold vl dget
      rw [List.find?_cons]
      by_cases ek : (⟨[]⟩ : Ky) = key
      · rw [decide_eq_true ek, ← ek]
        cases s with
        | zero => rfl
        | succ s => rfl
      · rw [decide_eq_false ek, decide_eq_false (fun z => ek (Option.some.inj z))]
        rfl
    · unfold dhas
      show (decide _ || false) = true ↔ _
      rw [Bool.or_false, decide_eq_true_eq]
      constructor
      · intro e
        exact ⟨[], List.mem_singleton.mpr rfl, by rw [← e]; rfl⟩
      · rintro ⟨p, m, e⟩
        rw [List.mem_singleton.mp m] at e
        exact Option.some.inj e
  refine .bok (.bassoc (.brange (by omega) (by omega) ?_))
  refine .bind (Sat.foldR (fun i s => Lv w i s) L0 ?_) fun d L => ?_
  · rintro i s k hk L
    obtain ⟨hi, rfl⟩ := rangeL0 hk
    rw [nextTo w h]
    refine .bok (.bok (.bind (Lv.next h F (by omega) L ?_) fun s L => .bok (.ok L)))
    refine idx_int (by omega) ?_
    rw [Int.toNat_natCast, List.getElem?_map, show (rangeL 0 w.1.toNat)[i]? = some (i : Int) from hk]
    rfl
  · rw [rangeL_len] at L
    have fe : ∀ p ∈ PX w.1.toNat, rn w p = runK w (cpOf ⟨p.toArray⟩) w.1.toNat := fun p m => by
      unfold rn
      rw [(px_mem.mp m).1]
      refine runK_congr fun j hj => ?_
      have : p[j]? = some (p[j]'(by rw [(px_mem.mp m).1]; exact hj)) := List.getElem?_eq_getElem _
      unfold fp cpOf
      rw [Int.toNat_natCast, List.getD_eq_getElem?_getD, List.getD_eq_getElem?_getD]
      show (p[j]?).getD 46 = ((p.toArray).toList[j]?).getD 0
      rw [List.toList_toArray, this]; rfl
    have sg : ∀ p ∈ PX w.1.toNat, (Str.mk p.toArray).length = w.1.toNat ∧ signOk ⟨p.toArray⟩ := fun p m => ⟨by
      rw [← (px_mem.mp m).1]
      show p.toArray.size = _
      rw [List.size_toArray], fun c mc => (px_mem.mp m).2 c (by simpa using mc)⟩
    have sd : ∀ p ∈ PX w.1.toNat, rn w p = some ⟨[]⟩ ↔ Sound w ⟨p.toArray⟩ := fun p m => by
      rw [fe p m]
      rcases run_end h (sg p m).1 (sg p m).2 with ⟨a, b⟩ | ⟨a, b⟩
      · exact ⟨fun _ => a, fun _ => b⟩
      · exact ⟨(fun z => by rw [b] at z; cases z), fun z => absurd z a⟩
    have he : dhas d ⟨[]⟩ = true := (L.hs ⟨[]⟩).mpr ⟨List.replicate w.1.toNat 46, px_mem.mpr ⟨List.length_replicate, fun c m => .inl (List.eq_of_mem_replicate m)⟩, by
      rw [sd _ (px_mem.mpr ⟨List.length_replicate, fun c m => .inl (List.eq_of_mem_replicate m)⟩)]
      intro k k0 k1 hd
      refine absurd (sgn_dot.mpr ?_) hd
      unfold cpOf
      show ((List.replicate w.1.toNat 46).toArray.toList).getD k.toNat 0 = 46
      rw [List.toList_toArray, List.getD_eq_getElem?_getD, List.getElem?_replicate, if_pos (by omega)]; rfl⟩
    obtain ⟨l, el⟩ := Option.isSome_iff_exists.mp (by rw [dget_isSome]; exact he : (dget d (⟨[]⟩ : Ky)).isSome = true)
    rw [el]
    refine .ok ?_
    have ll := L.ln _ _ el
    unfold SC
    refine List.ext_getElem (by rw [List.length_map, List.length_range]; exact ll) fun s h1 h2 => ?_
    have := L.vv ⟨[]⟩ s
    unfold vl at this
    rw [el] at this
    rw [List.getElem_map, List.getElem_range]
    have e1 : l[s] = l.getD s 0 := by rw [List.getD_eq_getElem?_getD, List.getElem?_eq_getElem h1]; rfl
    rw [e1]
    refine Eq.trans this ?_
    congr 1
    refine countP_eq fun p m => ?_
    simp only [Bool.and_eq_true, decide_eq_true_eq]
    rw [sd p m, sdB_iff]
theorem few_edges {w : Int × Tup (Int × Int)} (h : WebOk w) (E : ∀ k : Int, 0 ≤ k → k < w.1 → (EL w k).length ≤ 6) : Few w := fun k hk => by
  cases k with
  | zero =>
    refine ⟨[⟨[]⟩], by decide, fun p m key e => ?_⟩
    rw [show p = [] from List.mem_singleton.mp m] at e
    rw [List.mem_singleton]
    exact (Option.some.inj e).symm
  | succ k =>
    have hk1 : (k : Int) < w.1 := by omega
    refine ⟨(genR (sortI (EL w k)) []).map fun l => (⟨l⟩ : Ky), ?_, fun p m key e => ?_⟩
    · rw [List.length_map, gen_len]
      refine cnt6 _ ?_
      rw [(sortI_perm _).length_eq]
      exact E k (by omega) hk1
    · rw [px_succ] at m
      obtain ⟨x, mx, rfl⟩ := List.mem_map.mp m
      obtain ⟨m1, m2⟩ := mem_pairs.mp mx
      have lx := (px_mem.mp m1).1
      unfold rn at e
      rw [List.length_append, lx] at e
      have := run_canon h (fun a _ _ => fp_ok m1 x.2 m2 a) hk1 e
      exact List.mem_map.mpr ⟨key.l, by rw [← this.2]; exact canon_gen this.1, rfl⟩
theorem wide_is {w : Int × Tup (Int × Int)} (h : WebOk w) (E : ∀ k : Int, 0 ≤ k → k < w.1 → (EL w k).length ≤ 6) : m_sound_by_stones w = .ok (SC w) := sounds_is h (few_edges h E) E
theorem nodup_back {α : Type} [DecidableEq α] {l m : List α} (hl : l.Nodup) (h : ∀ x ∈ l, x ∈ m) (e : m.length ≤ l.length) : ∀ x ∈ m, x ∈ l := fun x mx => by
  refine Classical.byContradiction fun no => ?_
  have := nodup_sub_len (l := x :: l) (m := m) (List.nodup_cons.mpr ⟨no, hl⟩) fun y my => (List.mem_cons.mp my).elim (fun e => e ▸ mx) (h y)
  rw [List.length_cons] at this
  omega
theorem countP_same {α : Type} [DecidableEq α] {l m : List α} (hl : l.Nodup) (hm : m.Nodup) (h : ∀ x, x ∈ l ↔ x ∈ m) (p : α → Bool) : l.countP p = m.countP p := by
  rw [List.countP_eq_length_filter, List.countP_eq_length_filter]
  refine Nat.le_antisymm (nodup_sub_len (hl.filter _) fun x mx => ?_) (nodup_sub_len (hm.filter _) fun x mx => ?_)
  · rw [List.mem_filter] at mx ⊢
    exact ⟨(h x).mp mx.1, mx.2⟩
  · rw [List.mem_filter] at mx ⊢
    exact ⟨(h x).mpr mx.1, mx.2⟩
theorem nodup_mapI {α β : Type} {f : α → β} : ∀ {l : List α}, l.Nodup → (∀ x ∈ l, ∀ y ∈ l, f x = f y → x = y) → (l.map f).Nodup
  | [], _, _ => .nil
  | a :: l, n, h => by
    have n := List.nodup_cons.mp n
    rw [List.map_cons]
    refine List.nodup_cons.mpr ⟨fun m => ?_, nodup_mapI n.2 fun x mx y my => h x (List.mem_cons_of_mem _ mx) y (List.mem_cons_of_mem _ my)⟩
    obtain ⟨b, mb, e⟩ := List.mem_map.mp m
    exact n.1 (h b (List.mem_cons_of_mem _ mb) a List.mem_cons_self e ▸ mb)
theorem nodup_flat {α β : Type} {f : α → List β} : ∀ {l : List α}, l.Nodup → (∀ x ∈ l, (f x).Nodup) → (∀ x ∈ l, ∀ y ∈ l, ∀ z, z ∈ f x → z ∈ f y → x = y) → (l.flatMap f).Nodup
  | [], _, _, _ => .nil
  | a :: l, n, h1, h2 => by
    have n := List.nodup_cons.mp n
    rw [List.flatMap_cons]
    refine List.nodup_append.mpr ⟨h1 a List.mem_cons_self, nodup_flat n.2 (fun x mx => h1 x (List.mem_cons_of_mem _ mx)) fun x mx y my => h2 x (List.mem_cons_of_mem _ mx) y (List.mem_cons_of_mem _ my), fun u mu v mv e => ?_⟩
    subst e
    obtain ⟨b, mb, hb⟩ := List.mem_flatMap.mp mv
    have := h2 a List.mem_cons_self b (List.mem_cons_of_mem _ mb) u mu hb
    exact n.1 (this ▸ mb)
theorem px_nodup : ∀ k : Nat, (PX k).Nodup
  | 0 => List.pairwise_singleton _ _
  | k + 1 => by
    show ((PX k).flatMap fun p => [46, 120, 111].map fun c => p ++ [c]).Nodup
    refine nodup_flat (px_nodup k) (fun p _ => nodup_mapI (by decide) fun x _ y _ e => ?_) fun p mp q mq z hz hz' => ?_
    · have := List.append_cancel_left e
      exact (List.cons.inj this).1
    · obtain ⟨c, _, rfl⟩ := List.mem_map.mp hz
      obtain ⟨d, _, e⟩ := List.mem_map.mp hz'
      exact ((List.append_inj' e rfl).1).symm
structure Two (W w v : Int × Tup (Int × Int)) (f g : Int → Int) : Prop where
  hW : WebOk W
  hw : WebOk w
  hv : WebOk v
  n : W.1 = w.1 + v.1
  r1 : ∀ k, 0 ≤ k → k < w.1 → 0 ≤ f k ∧ f k < W.1
  r2 : ∀ k, 0 ≤ k → k < v.1 → 0 ≤ g k ∧ g k < W.1
  i1 : ∀ a b, 0 ≤ a → a < w.1 → 0 ≤ b → b < w.1 → f a = f b → a = b
  i2 : ∀ a b, 0 ≤ a → a < v.1 → 0 ≤ b → b < v.1 → g a = g b → a = b
  dj : ∀ a b, 0 ≤ a → a < w.1 → 0 ≤ b → b < v.1 → f a ≠ g b
  t1 : ∀ a y, 0 ≤ a → a < w.1 → (tied W.2.l (f a) y ↔ ∃ b, y = f b ∧ tied w.2.l a b)
  t2 : ∀ a y, 0 ≤ a → a < v.1 → (tied W.2.l (g a) y ↔ ∃ b, y = g b ∧ tied v.2.l a b)
theorem br_part {W w : Int × Tup (Int × Int)} {f : Int → Int} (hW : WebOk W) (hw : WebOk w) (t : ∀ a y, 0 ≤ a → a < w.1 → (tied W.2.l (f a) y ↔ ∃ b, y = f b ∧ tied w.2.l a b)) {B b : Str} (hb : ∀ k, 0 ≤ k → k < w.1 → cpOf B (f k) = cpOf b k) {k : Int} (k0 : 0 ≤ k) (k1 : k < w.1) :
    Breathes W B (f k) ↔ Breathes w b k := by
  constructor
  · rintro ⟨x, r, y, my, hy⟩
    have key : ∀ x, G.Reach (nextL W) (fun y => decide (sgn B y = sgn B (f k))) (f k) x → ∃ a, (0 ≤ a ∧ a < w.1) ∧ x = f a ∧ G.Reach (nextL w) (fun y => decide (sgn b y = sgn b k)) k a := by
      intro x r
      induction r with
      | here => exact ⟨k, ⟨k0, k1⟩, rfl, .here⟩
      | on r m o ih =>
        obtain ⟨a, ra, rfl, ga⟩ := ih
        obtain ⟨c, rfl, tc⟩ := (t a _ ra.1 ra.2).mp ((mem_nextL hW).mp m)
        have rc := hw.tie tc
        refine ⟨c, ⟨rc.2.2.1, rc.2.2.2.1⟩, rfl, .on ga ((mem_nextL hw).mpr tc) ?_⟩
        have o := of_decide_eq_true o
        rw [sgn_iff, hb c rc.2.2.1 rc.2.2.2.1, hb k k0 k1] at o
        exact decide_eq_true (sgn_iff.mpr o)
    obtain ⟨a, ra, rfl, ga⟩ := key x r
    obtain ⟨c, rfl, tc⟩ := (t a _ ra.1 ra.2).mp ((mem_nextL hW).mp my)
    have rc := hw.tie tc
    refine ⟨a, ga, c, (mem_nextL hw).mpr tc, ?_⟩
    rw [sgn_dot, hb c rc.2.2.1 rc.2.2.2.1] at hy
    exact sgn_dot.mpr hy
  · rintro ⟨x, r, y, my, hy⟩
    have key : ∀ x, G.Reach (nextL w) (fun y => decide (sgn b y = sgn b k)) k x → (0 ≤ x ∧ x < w.1) ∧ G.Reach (nextL W) (fun y => decide (sgn B y = sgn B (f k))) (f k) (f x) := by
      intro x r
      induction r with
      | here => exact ⟨⟨k0, k1⟩, .here⟩
      | @on x y r m o ih =>
        have tc := (mem_nextL hw).mp m
        have rc := hw.tie tc
        refine ⟨⟨rc.2.2.1, rc.2.2.2.1⟩, .on ih.2 ((mem_nextL hW).mpr ((t x _ ih.1.1 ih.1.2).mpr ⟨y, rfl, tc⟩)) ?_⟩
        have o := of_decide_eq_true o
        rw [sgn_iff] at o
        exact decide_eq_true (sgn_iff.mpr (by rw [hb y rc.2.2.1 rc.2.2.2.1, hb k k0 k1]; exact o))
    obtain ⟨rx, gx⟩ := key x r
    have tc := (mem_nextL hw).mp my
    have rc := hw.tie tc
    refine ⟨f x, gx, f y, (mem_nextL hW).mpr ((t x _ rx.1 rx.2).mpr ⟨y, rfl, tc⟩), ?_⟩
    rw [sgn_dot, hb y rc.2.2.1 rc.2.2.2.1]
    exact sgn_dot.mp hy
theorem cp_p (p : List Nat) (k : Int) : cpOf ⟨p.toArray⟩ k = p.getD k.toNat 0 := by
  unfold cpOf
  show (p.toArray.toList).getD k.toNat 0 = _
  rw [List.toList_toArray]
def prt (n : Nat) (f : Int → Int) (p : List Nat) : List Nat := (rangeL 0 n).map fun k => p.getD (f k).toNat 0
theorem prt_at {n : Nat} {f : Int → Int} {p : List Nat} {k : Int} (k0 : 0 ≤ k) (k1 : k < n) : (prt n f p).getD k.toNat 0 = p.getD (f k).toNat 0 := by
  unfold prt
  rw [List.getD_eq_getElem?_getD, List.getElem?_map, rangeL_at k0 k1]
  rfl
theorem px_at {n : Nat} {p : List Nat} (h : p ∈ PX n) {k : Int} (k0 : 0 ≤ k) (k1 : k < n) : p.getD k.toNat 0 ∈ p := by
  have := (px_mem.mp h).1
  rw [List.getD_eq_getElem?_getD, List.getElem?_eq_getElem (show k.toNat < p.length by omega)]
  exact List.getElem_mem _
theorem stn_range {n : Nat} {p : List Nat} (h : p.length = n) : stn p = (rangeL 0 n).countP fun k => decide (p.getD k.toNat 0 ≠ 46) := by
  have : p = (rangeL 0 n).map fun k => p.getD k.toNat 0 := by
    refine List.ext_getElem (by rw [List.length_map, rangeL_len, h]) fun i h1 h2 => ?_
    rw [List.getElem_map]
    have : (rangeL 0 n)[i]'(by rw [rangeL_len]; omega) = (i : Int) := by
      have := rangeL_at (n := n) (k := (i : Int)) (by omega) (by omega)
      rw [Int.toNat_natCast] at this
      exact (List.getElem?_eq_some_iff.mp this).2
    rw [this, Int.toNat_natCast, List.getD_eq_getElem?_getD, List.getElem?_eq_getElem h1]; rfl
  unfold stn
  conv => lhs; rw [this]
  rw [List.countP_map]
  rfl
section
variable {W w v : Int × Tup (Int × Int)} {f g : Int → Int} (T : Two W w v f g)
include T
theorem Two.cover : ∀ x, x ∈ rangeL 0 W.1.toNat ↔ x ∈ (rangeL 0 w.1.toNat).map f ++ (rangeL 0 v.1.toNat).map g := by
  have a1 := T.hW.n1
  have a2 := T.hw.n1
  have a3 := T.hv.n1
  have n := T.n
  have nd : ((rangeL 0 w.1.toNat).map f ++ (rangeL 0 v.1.toNat).map g).Nodup := by
    refine List.nodup_append.mpr ⟨nodup_mapI ((rangeL_rise _).imp fun h => by omega) fun x mx y my e => ?_, nodup_mapI ((rangeL_rise _).imp fun h => by omega) fun x mx y my e => ?_, fun x mx y my e => ?_⟩
    · have mx := mem_rangeL.mp mx
      have my := mem_rangeL.mp my
      exact T.i1 x y mx.1 (by omega) my.1 (by omega) e
    · have mx := mem_rangeL.mp mx
      have my := mem_rangeL.mp my
      exact T.i2 x y mx.1 (by omega) my.1 (by omega) e
    · obtain ⟨a, ma, rfl⟩ := List.mem_map.mp mx
      obtain ⟨b, mb, rfl⟩ := List.mem_map.mp my
      have ma := mem_rangeL.mp ma
      have mb := mem_rangeL.mp mb
      exact T.dj a b ma.1 (by omega) mb.1 (by omega) e
  have sub : ∀ x ∈ (rangeL 0 w.1.toNat).map f ++ (rangeL 0 v.1.toNat).map g, x ∈ rangeL 0 W.1.toNat := fun x m => by
    rcases List.mem_append.mp m with m | m
    · obtain ⟨a, ma, rfl⟩ := List.mem_map.mp m
      have ma := mem_rangeL.mp ma
      have := T.r1 a ma.1 (by omega)
      exact mem_rangeL.mpr ⟨this.1, by omega⟩
    · obtain ⟨a, ma, rfl⟩ := List.mem_map.mp m
      have ma := mem_rangeL.mp ma
      have := T.r2 a ma.1 (by omega)
      exact mem_rangeL.mpr ⟨this.1, by omega⟩
  exact fun x => ⟨nodup_back nd sub (by rw [List.length_append, List.length_map, List.length_map, rangeL_len, rangeL_len, rangeL_len]; omega) x, sub x⟩
theorem Two.nd : ((rangeL 0 w.1.toNat).map f ++ (rangeL 0 v.1.toNat).map g).Nodup := by
  refine List.nodup_append.mpr ⟨nodup_mapI ((rangeL_rise _).imp fun h => by omega) fun x mx y my e => ?_, nodup_mapI ((rangeL_rise _).imp fun h => by omega) fun x mx y my e => ?_, fun x mx y my e => ?_⟩
  · have mx := mem_rangeL.mp mx
    have my := mem_rangeL.mp my
    exact T.i1 x y mx.1 (by omega) my.1 (by omega) e
  · have mx := mem_rangeL.mp mx
    have my := mem_rangeL.mp my
    exact T.i2 x y mx.1 (by omega) my.1 (by omega) e
  · obtain ⟨a, ma, rfl⟩ := List.mem_map.mp mx
    obtain ⟨b, mb, rfl⟩ := List.mem_map.mp my
    have ma := mem_rangeL.mp ma
    have mb := mem_rangeL.mp mb
    exact T.dj a b ma.1 (by omega) mb.1 (by omega) e
theorem Two.sound {p : List Nat} : Sound W ⟨p.toArray⟩ ↔ Sound w ⟨(prt w.1.toNat f p).toArray⟩ ∧ Sound v ⟨(prt v.1.toNat g p).toArray⟩ := by
  have a2 := T.hw.n1
  have a3 := T.hv.n1
  have c1 : ∀ k, 0 ≤ k → k < w.1 → cpOf ⟨p.toArray⟩ (f k) = cpOf ⟨(prt w.1.toNat f p).toArray⟩ k := fun k k0 k1 => by
    rw [cp_p, cp_p, prt_at k0 (by omega)]
  have c2 : ∀ k, 0 ≤ k → k < v.1 → cpOf ⟨p.toArray⟩ (g k) = cpOf ⟨(prt v.1.toNat g p).toArray⟩ k := fun k k0 k1 => by
    rw [cp_p, cp_p, prt_at k0 (by omega)]
  constructor
  · intro S
    refine ⟨fun k k0 k1 hd => (br_part T.hW T.hw T.t1 c1 k0 k1).mp (S (f k) (T.r1 k k0 k1).1 (T.r1 k k0 k1).2 fun e => hd ?_), fun k k0 k1 hd => (br_part T.hW T.hv T.t2 c2 k0 k1).mp (S (g k) (T.r2 k k0 k1).1 (T.r2 k k0 k1).2 fun e => hd ?_)⟩
    · rw [sgn_dot, ← c1 k k0 k1]; exact sgn_dot.mp e
    · rw [sgn_dot, ← c2 k k0 k1]; exact sgn_dot.mp e
  · rintro ⟨S1, S2⟩ x x0 x1 hd
    rcases List.mem_append.mp ((T.cover x).mp (mem_rangeL.mpr ⟨x0, by omega⟩)) with m | m
    · obtain ⟨a, ma, rfl⟩ := List.mem_map.mp m
      have ma := mem_rangeL.mp ma
      refine (br_part T.hW T.hw T.t1 c1 ma.1 (by omega)).mpr (S1 a ma.1 (by omega) fun e => hd ?_)
      rw [sgn_dot, c1 a ma.1 (by omega)]; exact sgn_dot.mp e
    · obtain ⟨a, ma, rfl⟩ := List.mem_map.mp m
      have ma := mem_rangeL.mp ma
      refine (br_part T.hW T.hv T.t2 c2 ma.1 (by omega)).mpr (S2 a ma.1 (by omega) fun e => hd ?_)
      rw [sgn_dot, c2 a ma.1 (by omega)]; exact sgn_dot.mp e
theorem Two.stones {p : List Nat} (h : p ∈ PX W.1.toNat) : stn p = stn (prt w.1.toNat f p) + stn (prt v.1.toNat g p) := by
  have l1 : (prt w.1.toNat f p).length = w.1.toNat := by unfold prt; rw [List.length_map, rangeL_len]
  have l2 : (prt v.1.toNat g p).length = v.1.toNat := by unfold prt; rw [List.length_map, rangeL_len]
  rw [stn_range (px_mem.mp h).1, stn_range l1, stn_range l2, countP_same ((rangeL_rise _).imp fun h => by omega) T.nd T.cover, List.countP_append, List.countP_map, List.countP_map]
  congr 1
  · refine countP_eq fun k m => ?_
    have m := mem_rangeL.mp m
    rw [prt_at m.1 m.2]
    exact Iff.rfl
  · refine countP_eq fun k m => ?_
    have m := mem_rangeL.mp m
    rw [prt_at m.1 m.2]
    exact Iff.rfl
theorem Two.boards (P : List Nat × List Nat → Bool) : ((PX W.1.toNat).countP fun p => P (prt w.1.toNat f p, prt v.1.toNat g p)) = ((PX w.1.toNat).flatMap fun p => (PX v.1.toNat).map fun q => (p, q)).countP P := by
  have a1 := T.hW.n1
  have a2 := T.hw.n1
  have a3 := T.hv.n1
  have n := T.n
  have pin : ∀ {m : Nat} {h : Int → Int} {p : List Nat}, p ∈ PX W.1.toNat → (∀ k, 0 ≤ k → k < (m : Int) → 0 ≤ h k ∧ h k < W.1) → prt m h p ∈ PX m := fun {m h p} mp hr => by
    refine px_mem.mpr ⟨by unfold prt; rw [List.length_map, rangeL_len], fun c mc => ?_⟩
    unfold prt at mc
    obtain ⟨k, mk, rfl⟩ := List.mem_map.mp mc
    have mk := mem_rangeL.mp mk
    have := hr k mk.1 mk.2
    exact (px_mem.mp mp).2 _ (px_at mp this.1 (by omega))
  have n1 : ((PX W.1.toNat).map fun p => (prt w.1.toNat f p, prt v.1.toNat g p)).Nodup := by
    refine nodup_mapI (px_nodup _) fun p mp q mq e => ?_
    have e1 := congrArg Prod.fst e
    have e2 := congrArg Prod.snd e
    have lp := (px_mem.mp mp).1
    have lq := (px_mem.mp mq).1
    refine List.ext_getElem (by omega) fun i h1 h2 => ?_
    have gd : p.getD (i : Int).toNat 0 = q.getD (i : Int).toNat 0 := by
      rcases List.mem_append.mp ((T.cover i).mp (mem_rangeL.mpr ⟨by omega, by omega⟩)) with m | m
      · obtain ⟨a, ma, ea⟩ := List.mem_map.mp m
        have ma := mem_rangeL.mp ma
        rw [← ea, ← prt_at ma.1 ma.2, ← prt_at ma.1 ma.2]
        exact congrArg (fun l : List Nat => l.getD a.toNat 0) e1
      · obtain ⟨a, ma, ea⟩ := List.mem_map.mp m
        have ma := mem_rangeL.mp ma
        rw [← ea, ← prt_at ma.1 ma.2, ← prt_at ma.1 ma.2]
        exact congrArg (fun l : List Nat => l.getD a.toNat 0) e2
    rw [Int.toNat_natCast, List.getD_eq_getElem?_getD, List.getD_eq_getElem?_getD, List.getElem?_eq_getElem h1, List.getElem?_eq_getElem h2] at gd
    exact gd
  have n2 : ((PX w.1.toNat).flatMap fun p => (PX v.1.toNat).map fun q => (p, q)).Nodup := by
    refine nodup_flat (px_nodup _) (fun p _ => nodup_mapI (px_nodup _) fun x _ y _ e => (congrArg Prod.snd e : x = y)) fun p _ q _ z hz hz' => ?_
    obtain ⟨x, _, rfl⟩ := List.mem_map.mp hz
    obtain ⟨y, _, e⟩ := List.mem_map.mp hz'
    exact (congrArg Prod.fst e).symm
  have sub : ∀ z ∈ (PX W.1.toNat).map fun p => (prt w.1.toNat f p, prt v.1.toNat g p), z ∈ (PX w.1.toNat).flatMap fun p => (PX v.1.toNat).map fun q => (p, q) := fun z mz => by
    obtain ⟨p, mp, rfl⟩ := List.mem_map.mp mz
    exact List.mem_flatMap.mpr ⟨_, pin mp fun k k0 k1 => T.r1 k k0 (by omega), List.mem_map.mpr ⟨_, pin mp fun k k0 k1 => T.r2 k k0 (by omega), rfl⟩⟩
  have len : ∀ (l : List (List Nat)) (m : List (List Nat)), (l.flatMap fun p => m.map fun q => (p, q)).length = l.length * m.length := by
    intro l m
    induction l with
    | nil => simp
    | cons a l ih => rw [List.flatMap_cons, List.length_append, ih, List.length_map, List.length_cons, Nat.succ_mul, Nat.add_comm]
  have := countP_same n1 n2 (fun z => ⟨sub z, nodup_back n1 sub (by
    rw [len, List.length_map, px_len, px_len, px_len, ← Nat.pow_add, show w.1.toNat + v.1.toNat = W.1.toNat by omega]
    exact Nat.le_refl _) z⟩) P
  rw [← this, List.countP_map]
  rfl
end
def prs (l m : List (List Nat)) : List (List Nat × List Nat) := l.flatMap fun p => m.map fun q => (p, q)
theorem count_mul (P Q : List Nat → Bool) (l m : List (List Nat)) : (prs l m).countP (fun z => P z.1 && Q z.2) = l.countP P * m.countP Q := by
  unfold prs
  induction l with
  | nil => rw [List.countP_nil, Nat.zero_mul]; rfl
  | cons a l ih =>
    rw [List.flatMap_cons, List.countP_append, ih, List.countP_cons, List.countP_map]
    have : m.countP ((fun z : List Nat × List Nat => P z.1 && Q z.2) ∘ fun q => (a, q)) = if P a = true then m.countP Q else 0 := by
      by_cases e : P a = true
      · rw [if_pos e]
        refine countP_eq fun q _ => ?_
        show (P a && Q q) = true ↔ _
        rw [e, Bool.true_and]
      · rw [if_neg e]
        refine countP_none fun q _ => ?_
        show ¬ (P a && Q q) = true
        rw [Bool.eq_false_iff.mpr e, Bool.false_and]
        decide
    rw [this]
    by_cases e : P a = true
    · rw [if_pos e, if_pos e, Nat.add_mul, Nat.one_mul, Nat.add_comm]
    · rw [if_neg e, if_neg e, Nat.add_zero, Nat.zero_add]
def cntL (l : List (List Nat)) (A : List Nat → Bool) (s : Nat) : Nat := l.countP fun p => A p && decide (stn p = s)
def rowL (n : Nat) (l : List (List Nat)) (A : List Nat → Bool) : List Int := (List.range (n + 1)).map fun s => ((cntL l A s : Nat) : Int)
theorem rowL_len (n : Nat) (l : List (List Nat)) (A : List Nat → Bool) : (rowL n l A).length = n + 1 := by unfold rowL; rw [List.length_map, List.length_range]
theorem rowL_at {n : Nat} {l : List (List Nat)} {A : List Nat → Bool} {s : Nat} (h : s ≤ n) : idx (rowL n l A) (s : Int) = .ok ((cntL l A s : Nat) : Int) := by
  refine idx_nat ?_
  unfold rowL
  rw [List.getElem?_map, List.getElem?_range (by omega)]
  rfl
def prodL (n : Nat) (l m : List (List Nat)) (A B : List Nat → Bool) : List Int := (List.range (n + 1)).map fun s => (((prs l m).countP fun z => (A z.1 && B z.2) && decide (stn z.1 + stn z.2 = s) : Nat) : Int)
theorem product_is {n1 n2 : Nat} {l m : List (List Nat)} (A B : List Nat → Bool) (hl : ∀ p ∈ l, stn p ≤ n1) (hm : ∀ p ∈ m, stn p ≤ n2) (b1 : n1 ≤ 1000) (b2 : n2 ≤ 1000) (bl : l.length < 2 ^ 64) :
    m_l_product (rowL n1 l A) (rowL n2 m B) = .ok (prodL (n1 + n2) l m A B) := by
  refine Sat.eq ?_
  unfold m_l_product
  rw [rowL_len, rowL_len, repR1_ok (by omega) (by omega)]
  refine .bok (.bassoc (.brange (by omega) (by omega) ?_))
  have mp : ∀ z ∈ prs l m, stn z.1 ≤ n1 ∧ stn z.2 ≤ n2 := fun z mz => by
    obtain ⟨p, mp, hz⟩ := List.mem_flatMap.mp mz
    obtain ⟨q, mq, rfl⟩ := List.mem_map.mp hz
    exact ⟨hl p mp, hm q mq⟩
  refine .bind (Sat.foldR (fun i s => s.length = n1 + n2 + 1 ∧ ∀ t, s.getD t 0 = (((prs l m).countP fun z => (A z.1 && B z.2) && (decide (stn z.1 + stn z.2 = t) && decide (stn z.1 < i)) : Nat) : Int)) ⟨by rw [List.length_replicate]; omega, fun t => ?_⟩ ?_) fun s ⟨h1, h2⟩ => .ok ?_
  · rw [countP_none fun z _ => by simp, List.getD_eq_getElem?_getD, List.getElem?_replicate]
    split <;> rfl
  · rintro i s a ha ⟨h1, h2⟩
    obtain ⟨hi, rfl⟩ := rangeL0 ha
    refine .bassoc (.brange (by omega) (by omega) ?_)
    refine .bind (Sat.foldR (fun j s => s.length = n1 + n2 + 1 ∧ ∀ t, s.getD t 0 = (((prs l m).countP fun z => (A z.1 && B z.2) && (decide (stn z.1 + stn z.2 = t) && decide (stn z.1 < i ∨ (stn z.1 = i ∧ stn z.2 < j))) : Nat) : Int)) ⟨h1, fun t => ?_⟩ ?_) fun s ⟨h3, h4⟩ => .ok ⟨h3, fun t => ?_⟩
    · rw [h2]
      congr 1
      refine countP_eq fun z _ => ?_
      simp only [Bool.and_eq_true, decide_eq_true_eq]
      exact and_congr_right fun _ => and_congr_right fun _ => by omega
    · rintro j s a ha ⟨h3, h4⟩
      obtain ⟨hj, rfl⟩ := rangeL0 ha
      rw [idx_getD (by omega) (by omega), rowL_at (by omega), rowL_at (by omega)]
      have c1 : cntL l A i ≤ l.length := List.countP_le_length
      refine .bassoc (.bassoc (.bok (.bassoc (.bassoc (.bok (.bassoc (.bok ?_)))))))
      refine .bmul (.inl ⟨by omega, by omega⟩) (.bok (.bok ?_))
      rw [setR_ok (by omega) (by omega)]
      refine .bok (.ok ⟨by rw [List.length_set]; exact h3, fun t => ?_⟩)
      have e1 : ((i : Int) + (j : Int)).toNat = i + j := by omega
      have sp : ((prs l m).countP fun z => (A z.1 && B z.2) && (decide (stn z.1 + stn z.2 = t) && decide (stn z.1 < i ∨ (stn z.1 = i ∧ stn z.2 < j + 1)))) = ((prs l m).countP fun z => (A z.1 && B z.2) && (decide (stn z.1 + stn z.2 = t) && decide (stn z.1 < i ∨ (stn z.1 = i ∧ stn z.2 < j)))) +
          ((prs l m).countP fun z => decide (i + j = t) && ((A z.1 && decide (stn z.1 = i)) && (B z.2 && decide (stn z.2 = j)))) := by
        refine countP_split fun z _ => ⟨?_, ?_⟩
        · simp only [Bool.and_eq_true, decide_eq_true_eq]
          constructor
          · rintro ⟨⟨a, b⟩, c, d⟩
            by_cases e : stn z.1 = i ∧ stn z.2 = j
            · exact .inr ⟨by omega, ⟨a, e.1⟩, b, e.2⟩
            · exact .inl ⟨⟨a, b⟩, c, by omega⟩
          · rintro (⟨⟨a, b⟩, c, d⟩ | ⟨c, ⟨a, d⟩, b, e⟩)
            · exact ⟨⟨a, b⟩, c, by omega⟩
            · exact ⟨⟨a, b⟩, by omega, .inr ⟨d, by omega⟩⟩
        · simp only [Bool.and_eq_true, decide_eq_true_eq]
          rintro ⟨⟨_, _, a⟩, _, ⟨_, b⟩, _, c⟩
          omega
      rw [getD_set (by omega), e1, sp, Int.natCast_add, ← h4]
      by_cases e : t = i + j
      · subst e
        rw [if_pos rfl]
        congr 1
        have : ((prs l m).countP fun z => decide (i + j = i + j) && ((A z.1 && decide (stn z.1 = i)) && (B z.2 && decide (stn z.2 = j)))) = cntL l A i * cntL m B j := by
          refine Eq.trans (countP_eq fun z _ => ?_) (count_mul (fun p => A p && decide (stn p = i)) (fun p => B p && decide (stn p = j)) l m)
          rw [decide_eq_true rfl, Bool.true_and]
        rw [this, Int.natCast_mul]
      · rw [if_neg e, countP_none fun z _ => by
          rw [decide_eq_false (show ¬ i + j = t by omega), Bool.false_and]; decide]
        show _ = _ + 0
        omega
    · rw [h4, rangeL_len]
      congr 1
      refine countP_eq fun z mz => ?_
      have := mp z mz
      simp only [Bool.and_eq_true, decide_eq_true_eq]
      exact and_congr_right fun _ => and_congr_right fun _ => by omega
  · unfold prodL
    refine List.ext_getElem (by rw [List.length_map, List.length_range]; exact h1) fun s' i1 i2 => ?_
    rw [List.getElem_map, List.getElem_range]
    have e1 : s[s'] = s.getD s' 0 := by rw [List.getD_eq_getElem?_getD, List.getElem?_eq_getElem i1]; rfl
    rw [e1, h2, rangeL_len]
    congr 1
    refine countP_eq fun z mz => ?_
    have := mp z mz
    simp only [Bool.and_eq_true, decide_eq_true_eq]
    exact and_congr_right fun _ => ⟨fun h => h.1, fun h => ⟨h, by omega⟩⟩
theorem SC_row (w : Int × Tup (Int × Int)) : SC w = rowL w.1.toNat (PX w.1.toNat) (fun p => sdB w ⟨p.toArray⟩) := rfl
theorem stn_px {n : Nat} {p : List Nat} (h : p ∈ PX n) : stn p ≤ n := by
  have := stn_le p
  rw [(px_mem.mp h).1] at this
  exact this
theorem sum_add (f g : Nat → Int) : ∀ l : List Nat, (l.map fun s => f s + g s).sum = (l.map f).sum + (l.map g).sum
  | [] => rfl
  | a :: l => by
    rw [List.map_cons, List.map_cons, List.map_cons, List.sum_cons, List.sum_cons, List.sum_cons, sum_add f g l]
    omega
theorem sum_one (c : Nat) : ∀ N : Nat, ((List.range N).map fun s => if c = s then (1 : Int) else 0).sum = if c < N then 1 else 0
  | 0 => by rw [if_neg (by omega)]; rfl
  | N + 1 => by
    rw [List.range_succ, List.map_append, List.sum_append, sum_one c N]
    show _ + (((if c = N then (1 : Int) else 0) :: []).sum) = _
    rw [List.sum_cons, List.sum_nil]
    by_cases e : c = N
    · rw [if_neg (by omega), if_pos e, if_pos (by omega)]; rfl
    · by_cases e2 : c < N
      · rw [if_pos e2, if_neg e, if_pos (by omega)]; rfl
      · rw [if_neg e2, if_neg e, if_neg (by omega)]; rfl
theorem sum_zero : ∀ l : List Nat, (l.map fun _ => (0 : Int)).sum = 0
  | [] => rfl
  | a :: l => by rw [List.map_cons, List.sum_cons, sum_zero l]; rfl
theorem sum_rowL {n : Nat} (A : List Nat → Bool) : ∀ {l : List (List Nat)}, (∀ p ∈ l, stn p ≤ n) → (rowL n l A).sum = ((l.countP A : Nat) : Int)
  | [], _ => by
    show ((List.range (n + 1)).map fun s => ((List.countP _ ([] : List (List Nat)) : Nat) : Int)).sum = _
    simp only [List.countP_nil]
    exact sum_zero _
  | p :: l, h => by
    have ih := sum_rowL A (l := l) fun q m => h q (List.mem_cons_of_mem _ m)
    have hp := h p List.mem_cons_self
    have e : rowL n (p :: l) A = (List.range (n + 1)).map fun s => ((cntL l A s : Nat) : Int) + (if A p = true then (if stn p = s then (1 : Int) else 0) else 0) := by
      unfold rowL cntL
      refine List.map_congr_left fun s _ => ?_
      rw [List.countP_cons]
      by_cases a : A p = true
      · by_cases c : stn p = s
        · rw [if_pos (by rw [a, decide_eq_true c]; rfl), if_pos a, if_pos c]; rfl
        · rw [if_neg (by rw [a, decide_eq_false c]; decide), if_pos a, if_neg c]; rfl
      · rw [if_neg (by rw [Bool.eq_false_iff.mpr a, Bool.false_and]; decide), if_neg a]; rfl
    rw [e, sum_add]
    show (rowL n l A).sum + _ = _
    rw [ih, List.countP_cons]
    by_cases a : A p = true
    · simp only [if_pos a]
      rw [sum_one, if_pos (by omega)]; rfl
    · simp only [if_neg a]
      rw [sum_zero]; rfl
theorem Two.row {W w v : Int × Tup (Int × Int)} {f g : Int → Int} (T : Two W w v f g) : SC W = prodL (w.1.toNat + v.1.toNat) (PX w.1.toNat) (PX v.1.toNat) (fun p => sdB w ⟨p.toArray⟩) (fun p => sdB v ⟨p.toArray⟩) := by
  have a2 := T.hw.n1
  have a3 := T.hv.n1
  have n := T.n
  unfold SC prodL
  rw [show w.1.toNat + v.1.toNat = W.1.toNat by omega]
  refine List.map_congr_left fun s _ => ?_
  congr 1
  rw [show prs (PX w.1.toNat) (PX v.1.toNat) = (PX w.1.toNat).flatMap fun p => (PX v.1.toNat).map fun q => (p, q) from rfl, ← T.boards]
  refine countP_eq fun p mp => ?_
  simp only [Bool.and_eq_true, decide_eq_true_eq]
  rw [sdB_iff, sdB_iff, sdB_iff, T.sound, T.stones mp]
theorem Two.product {W w v : Int × Tup (Int × Int)} {f g : Int → Int} (T : Two W w v f g) : m_l_product (SC w) (SC v) = .ok (SC W) := by
  have a2 := T.hw.n1
  have a3 := T.hw.n2
  have a4 := T.hv.n2
  rw [T.row, SC_row, SC_row]
  refine product_is _ _ (fun p m => stn_px m) (fun p m => stn_px m) (by omega) (by omega) ?_
  rw [px_len]
  exact Nat.lt_of_le_of_lt (Nat.pow_le_pow_right (by decide) (show w.1.toNat ≤ 40 by omega)) (by decide)
theorem Two.sum {W w v : Int × Tup (Int × Int)} {f g : Int → Int} (T : Two W w v f g) : (SC W).sum = (SC w).sum * (SC v).sum := by
  rw [SC_row, SC_row, SC_row, sum_rowL _ (fun p m => stn_px m), sum_rowL _ (fun p m => stn_px m), sum_rowL _ (fun p m => stn_px m), ← Int.natCast_mul, ← count_mul]
  congr 1
  rw [show prs (PX w.1.toNat) (PX v.1.toNat) = (PX w.1.toNat).flatMap fun p => (PX v.1.toNat).map fun q => (p, q) from rfl, ← T.boards]
  refine countP_eq fun p mp => ?_
  simp only [Bool.and_eq_true]
  rw [sdB_iff, sdB_iff, sdB_iff, T.sound]
theorem sc_len (w : Int × Tup (Int × Int)) : (SC w).length = w.1.toNat + 1 := by unfold SC; rw [List.length_map, List.length_range]
theorem row_same {l : List Int} (hl : l.length ≤ 100000) : m_l_row l l = .ok true := by
  unfold m_l_row
  rw [show (if (!true) = true then (Res.ok true : Res Bool) else (Res.ok (!ScaEq.eq (l.length : Int) (l.length : Int)))) = .ok false from by rw [eqII, decide_eq_true rfl]; rfl]
  rw [Res.okb, if_neg (by decide), range_ok (by omega) (by omega), Res.okb, loop_bad (fun _ => false) false fun k m => ?_]
  · rw [List.any_eq_false.mpr (fun _ _ => by decide)]; rfl
  · have mk := mem_rangeL.mp m
    have : idx l k = .ok (l.getD k.toNat 0) := idx_getD mk.1 (by omega)
    rw [this]
    simp only [Res.okb, eqII, decide_true, Bool.not_true, Bool.false_eq_true, if_false]
    rfl
structure Iso (W w : Int × Tup (Int × Int)) (f : Int → Int) : Prop where
  hW : WebOk W
  hw : WebOk w
  n : W.1 = w.1
  r : ∀ k, 0 ≤ k → k < w.1 → 0 ≤ f k ∧ f k < W.1
  i : ∀ a b, 0 ≤ a → a < w.1 → 0 ≤ b → b < w.1 → f a = f b → a = b
  t : ∀ a y, 0 ≤ a → a < w.1 → (tied W.2.l (f a) y ↔ ∃ b, y = f b ∧ tied w.2.l a b)
section
variable {W w : Int × Tup (Int × Int)} {f : Int → Int} (T : Iso W w f)
include T
theorem Iso.nd : ((rangeL 0 w.1.toNat).map f).Nodup := nodup_mapI ((rangeL_rise _).imp fun h => by omega) fun x mx y my e => by
  have n1 := T.hw.n1
  have mx := mem_rangeL.mp mx
  have my := mem_rangeL.mp my
  exact T.i x y mx.1 (by omega) my.1 (by omega) e
theorem Iso.cover : ∀ x, x ∈ rangeL 0 W.1.toNat ↔ x ∈ (rangeL 0 w.1.toNat).map f := by
  have n1 := T.hw.n1
  have n := T.n
  have sub : ∀ x ∈ (rangeL 0 w.1.toNat).map f, x ∈ rangeL 0 W.1.toNat := fun x m => by
    obtain ⟨a, ma, rfl⟩ := List.mem_map.mp m
    have ma := mem_rangeL.mp ma
    have := T.r a ma.1 (by omega)
    exact mem_rangeL.mpr ⟨this.1, by omega⟩
  exact fun x => ⟨nodup_back T.nd sub (by rw [List.length_map, rangeL_len, rangeL_len]; omega) x, sub x⟩
theorem Iso.sound {p : List Nat} : Sound W ⟨p.toArray⟩ ↔ Sound w ⟨(prt w.1.toNat f p).toArray⟩ := by
  have a2 := T.hw.n1
  have c1 : ∀ k, 0 ≤ k → k < w.1 → cpOf ⟨p.toArray⟩ (f k) = cpOf ⟨(prt w.1.toNat f p).toArray⟩ k := fun k k0 k1 => by
    rw [cp_p, cp_p, prt_at k0 (by omega)]
  constructor
  · intro S k k0 k1 hd
    refine (br_part T.hW T.hw T.t c1 k0 k1).mp (S (f k) (T.r k k0 k1).1 (T.r k k0 k1).2 fun e => hd ?_)
    rw [sgn_dot, ← c1 k k0 k1]; exact sgn_dot.mp e
  · intro S1 x x0 x1 hd
    obtain ⟨a, ma, rfl⟩ := List.mem_map.mp ((T.cover x).mp (mem_rangeL.mpr ⟨x0, by omega⟩))
    have ma := mem_rangeL.mp ma
    refine (br_part T.hW T.hw T.t c1 ma.1 (by omega)).mpr (S1 a ma.1 (by omega) fun e => hd ?_)
    rw [sgn_dot, c1 a ma.1 (by omega)]; exact sgn_dot.mp e
theorem Iso.stones {p : List Nat} (h : p ∈ PX W.1.toNat) : stn p = stn (prt w.1.toNat f p) := by
  have l1 : (prt w.1.toNat f p).length = w.1.toNat := by unfold prt; rw [List.length_map, rangeL_len]
  rw [stn_range (px_mem.mp h).1, stn_range l1, countP_same ((rangeL_rise _).imp fun h => by omega) T.nd T.cover, List.countP_map]
  refine countP_eq fun k m => ?_
  have m := mem_rangeL.mp m
  rw [prt_at m.1 m.2]
  exact Iff.rfl
theorem Iso.boards (P : List Nat → Bool) : ((PX W.1.toNat).countP fun p => P (prt w.1.toNat f p)) = (PX w.1.toNat).countP P := by
  have a1 := T.hW.n1
  have a2 := T.hw.n1
  have n := T.n
  have n1 : ((PX W.1.toNat).map fun p => prt w.1.toNat f p).Nodup := by
    refine nodup_mapI (px_nodup _) fun p mp q mq e => ?_
    have lp := (px_mem.mp mp).1
    have lq := (px_mem.mp mq).1
    refine List.ext_getElem (by omega) fun i h1 h2 => ?_
    have gd : p.getD (i : Int).toNat 0 = q.getD (i : Int).toNat 0 := by
      obtain ⟨a, ma, ea⟩ := List.mem_map.mp ((T.cover i).mp (mem_rangeL.mpr ⟨by omega, by omega⟩))
      have ma := mem_rangeL.mp ma
      rw [← ea, ← prt_at ma.1 ma.2, ← prt_at ma.1 ma.2]
      exact congrArg (fun l : List Nat => l.getD a.toNat 0) e
    rw [Int.toNat_natCast, List.getD_eq_getElem?_getD, List.getD_eq_getElem?_getD, List.getElem?_eq_getElem h1, List.getElem?_eq_getElem h2] at gd
    exact gd
  have sub : ∀ z ∈ (PX W.1.toNat).map fun p => prt w.1.toNat f p, z ∈ PX w.1.toNat := fun z mz => by
    obtain ⟨p, mp, rfl⟩ := List.mem_map.mp mz
    refine px_mem.mpr ⟨by unfold prt; rw [List.length_map, rangeL_len], fun c mc => ?_⟩
    unfold prt at mc
    obtain ⟨k, mk, rfl⟩ := List.mem_map.mp mc
    have mk := mem_rangeL.mp mk
    have := T.r k mk.1 (by omega)
    exact (px_mem.mp mp).2 _ (px_at mp this.1 (by omega))
  have := countP_same n1 (px_nodup _) (fun z => ⟨sub z, nodup_back n1 sub (by
    rw [List.length_map, px_len, px_len, show w.1.toNat = W.1.toNat by omega]
    exact Nat.le_refl _) z⟩) P
  rw [← this, List.countP_map]
  rfl
theorem Iso.row : SC W = SC w := by
  have n := T.n
  unfold SC
  rw [show w.1.toNat = W.1.toNat by omega]
  refine List.map_congr_left fun s _ => ?_
  congr 1
  have := T.boards fun q => sdB w ⟨q.toArray⟩ && decide (stn q = s)
  rw [show w.1.toNat = W.1.toNat by omega] at this
  rw [← this]
  refine countP_eq fun p mp => ?_
  have s1 := T.sound (p := p)
  have s2 := T.stones mp
  rw [show w.1.toNat = W.1.toNat by omega] at s1 s2
  simp only [Bool.and_eq_true, decide_eq_true_eq]
  rw [sdB_iff, sdB_iff, s1, s2]
end
theorem cell0 (sc : Scr) : Sat (m_l_cell_at sc 0) (fun _ => True) := by
  unfold m_l_cell_at
  exact .ite (fun h => .idxI (by decide) (of_decide_eq_true h) fun _ _ => trivial) fun _ => .ok trivial
abbrev SG := G.T4 PySem.Str PySem.Str Bool Bool
def nxB (a b : Str) (c d o46 u46 oa ub ab ou a46 b46 : Bool) (o u : Str) : Option SG :=
  let l0 := c || o46
  let l1 := d || u46
  let m0 := if ab then l0 || l1 else l0
  let m1 := if ab then l0 || l1 else l1
  let n0 := if ab then oa || ub else oa
  let n1 := if ab then oa || ub else ub
  if (!a46 && (!m0 && !n0)) || (!b46 && (!m1 && !n1)) then none
  else
    let near := o46 || u46
    let t0 := (near || a46) || (oa && m0)
    let t1 := (near || b46) || (ub && m1)
    some ⟨o, u, if ou then t0 || t1 else t0, if ou then t0 || t1 else t1⟩
theorem orR (a x : Bool) : (if a = true then (Res.ok true : Res Bool) else Res.ok x) = Res.ok (a || x) := by cases a <;> rfl
theorem next_is (st : SG) (o u : Str) : m_l_next st o u = .ok (nxB st.a st.b st.c st.d (decide (o = dot)) (decide (u = dot)) (decide (o = st.a)) (decide (u = st.b)) (decide (st.a = st.b)) (decide (o = u)) (decide (st.a = dot)) (decide (st.b = dot)) o u) := by
  obtain ⟨a, b, c, d⟩ := st
  unfold m_l_next
  have i0 : ∀ x y : Bool, idx (x :: (y :: [])) (0 : Int) = .ok x := fun _ _ => rfl
  have i1 : ∀ x y : Bool, idx (x :: (y :: [])) (1 : Int) = .ok y := fun _ _ => rfl
  have j0 : ∀ x y : Str, idx (x :: (y :: [])) (0 : Int) = .ok x := fun _ _ => rfl
  have j1 : ∀ x y : Str, idx (x :: (y :: [])) (1 : Int) = .ok y := fun _ _ => rfl
  have s0 : ∀ x y z : Bool, setR (x :: (y :: [])) (0 : Int) z = .ok (z :: (y :: [])) := fun _ _ _ => rfl
  have s1 : ∀ x y z : Bool, setR (x :: (y :: [])) (1 : Int) z = .ok (x :: (z :: [])) := fun _ _ _ => rfl
  have rg : guardR (small62 (2 : Int)) (Res.ok (rangeL 0 ((2 : Int)).toNat)) = .ok [0, 1] := by rfl
  simp only [Res.okb, orR, i0, i1, eqSS, rg]
  have hdot : PySem.Str.ofString "." = dot := rfl
  rw [hdot]
  have lp : ∀ (xs ys : List Bool) (x0 x1 y0 y1 : Bool), xs = [x0, x1] → ys = [y0, y1] → (loopO (L := Empty) (fun (s20 : Unit) (a21 : Int) => ((Res.next (S := Unit) (Res.bind (Res.bind (Res.bind (idx (a :: (b :: [])) a21) fun v22 => (Res.ok (!decide (v22 = dot)))) fun v26 => (if v26 then (Res.bind (Res.bind (idx xs a21) fun v23 => (Res.ok (!v23))) fun v25 => (if v25 then (Res.bind (idx ys a21) fun v24 => (Res.ok (!v24))) else (Res.ok false))) else (Res.ok false))) fun v28 => (if v28 then (Res.ok (Out.rt (none : (Option (G.T4 PySem.Str PySem.Str Bool Bool))))) else (Res.ok (Out.nx ())))) fun s27 => (Res.ok (Out.nx ()))) : Res (Out (Unit) (Unit) (Option (G.T4 PySem.Str PySem.Str Bool Bool))))) () [0, 1]) = .ok (if ((!decide (a = dot) && (!x0 && !y0)) || (!decide (b = dot) && (!x1 && !y1))) = true then .rt none else .nx ()) := by
    intro xs ys x0 x1 y0 y1 e1 e2
    subst e1 e2
    have := loop_bad (L := Empty) (f := fun (s20 : Unit) (a21 : Int) => ((Res.next (S := Unit) (Res.bind (Res.bind (Res.bind (idx (a :: (b :: [])) a21) fun v22 => (Res.ok (!decide (v22 = dot)))) fun v26 => (if v26 then (Res.bind (Res.bind (idx [x0, x1] a21) fun v23 => (Res.ok (!v23))) fun v25 => (if v25 then (Res.bind (idx [y0, y1] a21) fun v24 => (Res.ok (!v24))) else (Res.ok false))) else (Res.ok false))) fun v28 => (if v28 then (Res.ok (Out.rt (none : (Option (G.T4 PySem.Str PySem.Str Bool Bool))))) else (Res.ok (Out.nx ())))) fun s27 => (Res.ok (Out.nx ()))) : Res (Out (Unit) (Unit) (Option (G.T4 PySem.Str PySem.Str Bool Bool))))) (fun k : Int => if k = 0 then (!decide (a = dot) && (!x0 && !y0)) else (!decide (b = dot) && (!x1 && !y1))) none (xs := [0, 1]) (fun k mk => by
      simp only [List.mem_cons, List.not_mem_nil, or_false] at mk
      rcases mk with rfl | rfl
      · simp only [j0, i0, Res.okb]
        cases decide (a = dot) <;> cases x0 <;> cases y0 <;> rfl
      · simp only [j1, i1, Res.okb]
        cases decide (b = dot) <;> cases x1 <;> cases y1 <;> rfl)
    rw [this]
    simp
  have tl : ∀ (X : Bool) (K : Unit → Res (Option (G.T4 PySem.Str PySem.Str Bool Bool))), Res.tail (S := Unit) (R := (Option (G.T4 PySem.Str PySem.Str Bool Bool))) (Res.ok (if X = true then (Out.rt none) else (Out.nx ()))) K = if X = true then .ok none else K () := fun X K => by cases X <;> rfl
  have io : ∀ (X : Bool) (A B : Option (G.T4 PySem.Str PySem.Str Bool Bool)), (if X = true then Res.ok A else Res.ok B) = Res.ok (if X = true then A else B) := fun X A B => by cases X <;> rfl
  rcases Bool.eq_false_or_eq_true (decide (a = b)) with hab | hab <;> rcases Bool.eq_false_or_eq_true (decide (o = a)) with hoa | hoa <;> rcases Bool.eq_false_or_eq_true (decide (u = b)) with hub | hub <;> rcases Bool.eq_false_or_eq_true (decide (o = u)) with hou | hou <;>
    (simp only [hab, hoa, hub, hou, Bool.false_eq_true, if_false, if_true, Res.okb]
     rw [lp _ _ _ _ _ _ rfl rfl, tl]
     simp only [Res.okb, i0, i1, orR, s0, s1, if_true, Bool.false_eq_true, if_false]
     rw [io]
     unfold nxB
     simp only [Bool.false_eq_true, if_false, if_true, Bool.false_and, Bool.true_and, Bool.or_false])
def gT (a b : Int) : Prop := 0 ≤ a ∧ 0 ≤ b ∧ (b = a + 2 ∨ a = b + 2 ∨ (b = a + 1 ∧ a % 2 = 0) ∨ (a = b + 1 ∧ b % 2 = 0))
theorem gts : ∀ x y, gT x y → gT y x := fun x y h => ⟨h.2.1, h.1, by rcases h.2.2 with h | h | h | h <;> omega⟩
def nxt (st : SG) (o u : Nat) : Option SG := nxB st.a st.b st.c st.d (decide ((⟨#[o]⟩ : Str) = dot)) (decide ((⟨#[u]⟩ : Str) = dot)) (decide ((⟨#[o]⟩ : Str) = st.a)) (decide ((⟨#[u]⟩ : Str) = st.b)) (decide (st.a = st.b)) (decide ((⟨#[o]⟩ : Str) = ⟨#[u]⟩)) (decide (st.a = dot)) (decide (st.b = dot)) ⟨#[o]⟩ ⟨#[u]⟩
structure GI (f : Int → Nat) (k : Int) (st : SG) : Prop where
  a : st.a = ⟨#[f (k - 2)]⟩
  b : st.b = ⟨#[f (k - 1)]⟩
  c1 : f (k - 2) = 46 → st.c = true
  c2 : f (k - 2) ≠ 46 → (st.c = true ↔ Br gT f k (k - 2))
  d1 : f (k - 1) = 46 → st.d = true
  d2 : f (k - 1) ≠ 46 → (st.d = true ↔ Br gT f k (k - 1))
  al : ∀ a, 0 ≤ a → a < k → f a ≠ 46 → Br gT f k a ∨ Con gT f k a (k - 2) ∨ Con gT f k a (k - 1)
def DeadG (f : Int → Nat) (k : Int) : Prop := ∃ a, 0 ≤ a ∧ a < k ∧ f a ≠ 46 ∧ ¬ Br gT f k a ∧ ¬ Con gT f k a (k - 2) ∧ ¬ Con gT f k a (k - 1)
section
variable {f : Int → Nat} {k : Int} (k2 : 2 ≤ k) (ev : k % 2 = 0)
include k2 ev
omit k2 in
theorem nb_u {m : Int} (t : gT m k) (l : m < k) : m = k - 2 := by rcases t.2.2 with h | h | h | h <;> omega
omit k2 in
theorem nb_v {m : Int} (t : gT m (k + 1)) (l : m < k) : m = k - 1 := by rcases t.2.2 with h | h | h | h <;> omega
theorem t_pu : gT (k - 2) k := ⟨by omega, by omega, by omega⟩
theorem t_qv : gT (k - 1) (k + 1) := ⟨by omega, by omega, by omega⟩
theorem t_uv : gT k (k + 1) := ⟨by omega, by omega, by omega⟩
theorem t_pq : gT (k - 2) (k - 1) := ⟨by omega, by omega, by omega⟩
theorem c_pq (h : f (k - 2) = f (k - 1)) : Con gT f k (k - 2) (k - 1) := .on .here (t_pq k2 ev) (by omega) (by omega) h
theorem jn_u {a : Int} : Jn gT f k a ↔ a = k ∨ (f (k - 2) = f k ∧ Con gT f k (k - 2) a) := by
  constructor
  · rintro (e | ⟨m, t, l, e, cm⟩)
    · exact .inl e
    · have := nb_u ev t l
      subst this
      exact .inr ⟨e, cm⟩
  · rintro (e | ⟨e, cm⟩)
    · exact .inl e
    · exact .inr ⟨k - 2, t_pu k2 ev, by omega, e, cm⟩
theorem br_u (hu : f k ≠ 46) : Br gT f (k + 1) k ↔ f (k - 2) = 46 ∨ (f (k - 2) = f k ∧ Br gT f k (k - 2)) := by
  rw [br_join gts hu (.inl rfl)]
  constructor
  · rintro (⟨m, t, l, e⟩ | ⟨m, t, l, e, b⟩)
    · rw [nb_u ev t l] at e; exact .inl e
    · have := nb_u ev t l
      subst this
      exact .inr ⟨e, b⟩
  · rintro (e | ⟨e, b⟩)
    · exact .inl ⟨k - 2, t_pu k2 ev, by omega, e⟩
    · exact .inr ⟨k - 2, t_pu k2 ev, by omega, e, b⟩
theorem br_q (hu : f k ≠ 46) (hq : f (k - 1) ≠ 46) : Br gT f (k + 1) (k - 1) ↔ Br gT f k (k - 1) := by
  by_cases j : Jn gT f k (k - 1)
  · obtain ⟨e, c⟩ := ((jn_u k2 ev).mp j).resolve_left (by omega)
    rw [br_join gts hu j]
    constructor
    · rintro (⟨m, t, l, e2⟩ | ⟨m, t, l, e2, b⟩)
      · rw [nb_u ev t l, e] at e2; exact absurd e2 hu
      · rw [nb_u ev t l] at b; exact b.go gts c
    · intro b
      exact .inr ⟨k - 2, t_pu k2 ev, by omega, e, b.go gts (c.symm fun {_ _} => gts _ _)⟩
  · exact br_far gts hu j (by omega)
theorem br_v (hu : f k ≠ 46) (hv : f (k + 1) ≠ 46) : Br gT f (k + 2) (k + 1) ↔ f (k - 1) = 46 ∨ (f (k - 1) = f (k + 1) ∧ Br gT f k (k - 1)) ∨ (f k = f (k + 1) ∧ Br gT f (k + 1) k) := by
  have e2 : k + 2 = k + 1 + 1 := by omega
  have nb : ∀ m, gT m (k + 1) → m < k + 1 → m = k - 1 ∨ m = k := fun m t l => by
    by_cases c : m = k
    · exact .inr c
    · exact .inl (nb_v ev t (by omega))
  rw [e2, br_join gts hv (.inl rfl)]
  constructor
  · rintro (⟨m, t, l, e⟩ | ⟨m, t, l, e, b⟩)
    · rcases nb m t l with rfl | rfl
      · exact .inl e
      · exact absurd e hu
    · rcases nb m t l with rfl | rfl
      · by_cases q : f (k - 1) = 46
        · exact .inl q
        · exact .inr (.inl ⟨e, (br_q k2 ev hu q).mp b⟩)
      · exact .inr (.inr ⟨e, b⟩)
  · rintro (e | ⟨e, b⟩ | ⟨e, b⟩)
    · exact .inl ⟨k - 1, t_qv k2 ev, by omega, e⟩
    · exact .inr ⟨k - 1, t_qv k2 ev, by omega, e, b.up (by omega)⟩
    · exact .inr ⟨k, t_uv k2 ev, by omega, e, b⟩
theorem br_u2 (hu : f k ≠ 46) (hv : f (k + 1) ≠ 46) (ne : f k ≠ f (k + 1)) : Br gT f (k + 2) k ↔ Br gT f (k + 1) k := by
  have e2 : k + 2 = k + 1 + 1 := by omega
  rw [e2]
  refine br_far gts hv (fun j => ?_) (by omega)
  rcases j with e | ⟨m, t, l, e, c⟩
  · omega
  · exact ne (by rw [← c.sg, e])
theorem u_v (e : f k = f (k + 1)) : Con gT f (k + 2) k (k + 1) := .on .here (t_uv k2 ev) (by omega) (by omega) e
theorem stays {s : Int} (ls : s < k) (h1 : Con gT f k s (k - 2) → f k ≠ f s) (h2 : Con gT f k s (k - 1) → f (k + 1) ≠ f s) : ∀ x, Con gT f (k + 2) s x → Con gT f k s x ∧ x < k := fun x c => by
  induction c with
  | here => exact ⟨.here, ls⟩
  | @on x y c t l1 l2 e ih =>
    by_cases yk : y < k
    · exact ⟨.on ih.1 t ih.2 yk e, yk⟩
    · have ex : f s = f x := ih.1.sg
      by_cases y0 : y = k
      · subst y0
        have := nb_u ev t ih.2
        subst this
        exact absurd (by rw [← e, ← ex]) (h1 ih.1)
      · have y1 : y = k + 1 := by omega
        subst y1
        have := nb_v ev t ih.2
        subst this
        exact absurd (by rw [← e, ← ex]) (h2 ih.1)
theorem no_br {s : Int} (ls : s < k) (h1 : Con gT f k s (k - 2) → f k ≠ f s ∧ f k ≠ 46) (h2 : Con gT f k s (k - 1) → f (k + 1) ≠ f s ∧ f (k + 1) ≠ 46) (nb : ¬ Br gT f k s) : ¬ Br gT f (k + 2) s := by
  rintro ⟨c, m, cc, lc, t, lm, em⟩
  obtain ⟨c1, c2⟩ := stays k2 ev ls (fun z => (h1 z).1) (fun z => (h2 z).1) c cc
  by_cases mk : m < k
  · exact nb ⟨c, m, c1, c2, t, mk, em⟩
  · by_cases m0 : m = k
    · subst m0
      have := nb_u ev t c2
      subst this
      exact (h1 c1).2 em
    · have m1 : m = k + 1 := by omega
      subst m1
      have := nb_v ev t c2
      subst this
      exact (h2 c1).2 em
theorem GI.step {st : SG} (R : GI f k st) : (∃ st', nxt st (f k) (f (k + 1)) = some st' ∧ GI f (k + 2) st') ∨ (nxt st (f k) (f (k + 1)) = none ∧ DeadG f (k + 2)) := by
  have o46 : (⟨#[f k]⟩ : Str) = dot ↔ f k = 46 := by rw [dot_eq, str1_inj]
  have u46 : (⟨#[f (k + 1)]⟩ : Str) = dot ↔ f (k + 1) = 46 := by rw [dot_eq, str1_inj]
  have oa : (⟨#[f k]⟩ : Str) = st.a ↔ f k = f (k - 2) := by rw [R.a, str1_inj]
  have ub : (⟨#[f (k + 1)]⟩ : Str) = st.b ↔ f (k + 1) = f (k - 1) := by rw [R.b, str1_inj]
  have ab : st.a = st.b ↔ f (k - 2) = f (k - 1) := by rw [R.a, R.b, str1_inj]
  have ou : (⟨#[f k]⟩ : Str) = ⟨#[f (k + 1)]⟩ ↔ f k = f (k + 1) := str1_inj
  have a46 : st.a = dot ↔ f (k - 2) = 46 := by rw [R.a, dot_eq, str1_inj]
  have b46 : st.b = dot ↔ f (k - 1) = 46 := by rw [R.b, dot_eq, str1_inj]
  -- sides
  have pB : f (k - 2) ≠ 46 → f (k - 2) = f (k - 1) → (Br gT f k (k - 2) ↔ Br gT f k (k - 1)) := fun _ e => ⟨fun b => b.go gts (c_pq k2 ev e), fun b => b.go gts ((c_pq k2 ev e).symm fun {_ _} => gts _ _)⟩
  have e1 : k + 2 - 2 = k := by omega
  have e2 : k + 2 - 1 = k + 1 := by omega
  have up : ∀ {a}, Br gT f k a → Br gT f (k + 2) a := fun b => b.up (by omega)
  have upc : ∀ {a b}, Con gT f k a b → Con gT f (k + 2) a b := fun c => c.up (by omega)
  have bpu : f k = 46 → Br gT f (k + 2) (k - 2) := fun e => ⟨k - 2, k, .here, by omega, t_pu k2 ev, by omega, e⟩
  have bqv : f (k + 1) = 46 → Br gT f (k + 2) (k - 1) := fun e => ⟨k - 1, k + 1, .here, by omega, t_qv k2 ev, by omega, e⟩
  have cpu : f k = f (k - 2) → Con gT f (k + 2) (k - 2) k := fun e => .on .here (t_pu k2 ev) (by omega) (by omega) e.symm
  have cqv : f (k + 1) = f (k - 1) → Con gT f (k + 2) (k - 1) (k + 1) := fun e => .on .here (t_qv k2 ev) (by omega) (by omega) e.symm
  -- the two looks at one side, as they are with the other
  let L0 := st.c = true ∨ f k = 46
  let L1 := st.d = true ∨ f (k + 1) = 46
  let M0 := L0 ∨ (f (k - 2) = f (k - 1) ∧ L1)
  let M1 := L1 ∨ (f (k - 2) = f (k - 1) ∧ L0)
  let N0 := f k = f (k - 2) ∨ (f (k - 2) = f (k - 1) ∧ f (k + 1) = f (k - 1))
  let N1 := f (k + 1) = f (k - 1) ∨ (f (k - 2) = f (k - 1) ∧ f k = f (k - 2))
  let X := (f (k - 2) ≠ 46 ∧ ¬ M0 ∧ ¬ N0) ∨ (f (k - 1) ≠ 46 ∧ ¬ M1 ∧ ¬ N1)
  let T0 := ((f k = 46 ∨ f (k + 1) = 46) ∨ f (k - 2) = 46) ∨ (f k = f (k - 2) ∧ M0)
  let T1 := ((f k = 46 ∨ f (k + 1) = 46) ∨ f (k - 1) = 46) ∨ (f (k + 1) = f (k - 1) ∧ M1)
  have form : (X → nxt st (f k) (f (k + 1)) = none) ∧ (¬ X → ∃ c d : Bool, nxt st (f k) (f (k + 1)) = some ⟨⟨#[f k]⟩, ⟨#[f (k + 1)]⟩, c, d⟩ ∧ (c = true ↔ (T0 ∨ (f k = f (k + 1) ∧ T1))) ∧ (d = true ↔ (T1 ∨ (f k = f (k + 1) ∧ T0)))) := by
    have hm0 : (if decide (st.a = st.b) = true then (st.c || decide ((⟨#[f k]⟩ : Str) = dot)) || (st.d || decide ((⟨#[f (k + 1)]⟩ : Str) = dot)) else st.c || decide ((⟨#[f k]⟩ : Str) = dot)) = true ↔ M0 := by
      show _ ↔ (st.c = true ∨ f k = 46) ∨ (f (k - 2) = f (k - 1) ∧ (st.d = true ∨ f (k + 1) = 46))
      by_cases h : f (k - 2) = f (k - 1)
      · rw [if_pos (decide_eq_true (ab.mpr h))]
        simp only [Bool.or_eq_true, decide_eq_true_eq, o46, u46, h, true_and]
      · rw [if_neg (fun z => h (ab.mp (of_decide_eq_true z)))]
        simp only [Bool.or_eq_true, decide_eq_true_eq, o46, h, false_and, or_false]
    have hm1 : (if decide (st.a = st.b) = true then (st.c || decide ((⟨#[f k]⟩ : Str) = dot)) || (st.d || decide ((⟨#[f (k + 1)]⟩ : Str) = dot)) else st.d || decide ((⟨#[f (k + 1)]⟩ : Str) = dot)) = true ↔ M1 := by
      show _ ↔ (st.d = true ∨ f (k + 1) = 46) ∨ (f (k - 2) = f (k - 1) ∧ (st.c = true ∨ f k = 46))
      by_cases h : f (k - 2) = f (k - 1)
      · rw [if_pos (decide_eq_true (ab.mpr h))]
        simp only [Bool.or_eq_true, decide_eq_true_eq, o46, u46, h, true_and]
        exact Or.comm
      · rw [if_neg (fun z => h (ab.mp (of_decide_eq_true z)))]
        simp only [Bool.or_eq_true, decide_eq_true_eq, u46, h, false_and, or_false]
    have hn0 : (if decide (st.a = st.b) = true then decide ((⟨#[f k]⟩ : Str) = st.a) || decide ((⟨#[f (k + 1)]⟩ : Str) = st.b) else decide ((⟨#[f k]⟩ : Str) = st.a)) = true ↔ N0 := by
      show _ ↔ f k = f (k - 2) ∨ (f (k - 2) = f (k - 1) ∧ f (k + 1) = f (k - 1))
      by_cases h : f (k - 2) = f (k - 1)
      · rw [if_pos (decide_eq_true (ab.mpr h))]
        simp only [Bool.or_eq_true, decide_eq_true_eq, oa, ub, h, true_and]
      · rw [if_neg (fun z => h (ab.mp (of_decide_eq_true z)))]
        simp only [decide_eq_true_eq, oa, h, false_and, or_false]
    have hn1 : (if decide (st.a = st.b) = true then decide ((⟨#[f k]⟩ : Str) = st.a) || decide ((⟨#[f (k + 1)]⟩ : Str) = st.b) else decide ((⟨#[f (k + 1)]⟩ : Str) = st.b)) = true ↔ N1 := by
      show _ ↔ f (k + 1) = f (k - 1) ∨ (f (k - 2) = f (k - 1) ∧ f k = f (k - 2))
      by_cases h : f (k - 2) = f (k - 1)
      · rw [if_pos (decide_eq_true (ab.mpr h))]
        simp only [Bool.or_eq_true, decide_eq_true_eq, oa, ub, h, true_and]
        exact Or.comm
      · rw [if_neg (fun z => h (ab.mp (of_decide_eq_true z)))]
        simp only [decide_eq_true_eq, ub, h, false_and, or_false]
    unfold nxt nxB
    dsimp only
    generalize (if decide (st.a = st.b) = true then (st.c || decide ((⟨#[f k]⟩ : Str) = dot)) || (st.d || decide ((⟨#[f (k + 1)]⟩ : Str) = dot)) else st.c || decide ((⟨#[f k]⟩ : Str) = dot)) = m0 at hm0 ⊢
    generalize (if decide (st.a = st.b) = true then (st.c || decide ((⟨#[f k]⟩ : Str) = dot)) || (st.d || decide ((⟨#[f (k + 1)]⟩ : Str) = dot)) else st.d || decide ((⟨#[f (k + 1)]⟩ : Str) = dot)) = m1 at hm1 ⊢
    generalize (if decide (st.a = st.b) = true then decide ((⟨#[f k]⟩ : Str) = st.a) || decide ((⟨#[f (k + 1)]⟩ : Str) = st.b) else decide ((⟨#[f k]⟩ : Str) = st.a)) = n0 at hn0 ⊢
    generalize (if decide (st.a = st.b) = true then decide ((⟨#[f k]⟩ : Str) = st.a) || decide ((⟨#[f (k + 1)]⟩ : Str) = st.b) else decide ((⟨#[f (k + 1)]⟩ : Str) = st.b)) = n1 at hn1 ⊢
    have hx : ((!decide (st.a = dot) && (!m0 && !n0)) || (!decide (st.b = dot) && (!m1 && !n1))) = true ↔ X := by
      show _ ↔ (f (k - 2) ≠ 46 ∧ ¬ M0 ∧ ¬ N0) ∨ (f (k - 1) ≠ 46 ∧ ¬ M1 ∧ ¬ N1)
      rw [← hm0, ← hm1, ← hn0, ← hn1]
      simp only [Bool.or_eq_true, Bool.and_eq_true, Bool.not_eq_true', decide_eq_false_iff_not, a46, b46, ne_eq, Bool.not_eq_true]
    have ht0 : ((decide ((⟨#[f k]⟩ : Str) = dot) || decide ((⟨#[f (k + 1)]⟩ : Str) = dot)) || decide (st.a = dot) || (decide ((⟨#[f k]⟩ : Str) = st.a) && m0)) = true ↔ T0 := by
      show _ ↔ ((f k = 46 ∨ f (k + 1) = 46) ∨ f (k - 2) = 46) ∨ (f k = f (k - 2) ∧ M0)
      rw [← hm0]
      simp only [Bool.or_eq_true, Bool.and_eq_true, decide_eq_true_eq, o46, u46, a46, oa]
    have ht1 : ((decide ((⟨#[f k]⟩ : Str) = dot) || decide ((⟨#[f (k + 1)]⟩ : Str) = dot)) || decide (st.b = dot) || (decide ((⟨#[f (k + 1)]⟩ : Str) = st.b) && m1)) = true ↔ T1 := by
      show _ ↔ ((f k = 46 ∨ f (k + 1) = 46) ∨ f (k - 1) = 46) ∨ (f (k + 1) = f (k - 1) ∧ M1)
      rw [← hm1]
      simp only [Bool.or_eq_true, Bool.and_eq_true, decide_eq_true_eq, o46, u46, b46, ub]
    refine ⟨fun x => if_pos (hx.mpr x), fun x => ?_⟩
    refine ⟨_, _, if_neg (fun z => x (hx.mp z)), ?_, ?_⟩
    · by_cases h : f k = f (k + 1)
      · rw [if_pos (decide_eq_true (ou.mpr h)), Bool.or_eq_true, ht0, ht1]
        exact ⟨fun z => z.imp id fun z => ⟨h, z⟩, fun z => z.imp id fun z => z.2⟩
      · rw [if_neg (fun z => h (ou.mp (of_decide_eq_true z))), ht0]
        exact ⟨.inl, fun z => z.elim id fun z => absurd z.1 h⟩
    · by_cases h : f k = f (k + 1)
      · rw [if_pos (decide_eq_true (ou.mpr h)), Bool.or_eq_true, ht0, ht1]
        exact ⟨fun z => z.elim (fun z => .inr ⟨h, z⟩) .inl, fun z => z.elim .inr fun z => .inl z.2⟩
      · rw [if_neg (fun z => h (ou.mp (of_decide_eq_true z))), ht1]
        exact ⟨.inl, fun z => z.elim id fun z => absurd z.1 h⟩
  have goodP : f (k - 2) ≠ 46 → (M0 ∨ N0) → Br gT f (k + 2) (k - 2) ∨ Con gT f (k + 2) (k - 2) k ∨ Con gT f (k + 2) (k - 2) (k + 1) := by
    intro hp h
    rcases h with ((h | h) | ⟨e, h | h⟩) | (h | ⟨e, h⟩)
    · exact .inl (up ((R.c2 hp).mp h))
    · exact .inl (bpu h)
    · exact .inl (up ((pB hp e).mpr ((R.d2 (by rw [← e]; exact hp)).mp h)))
    · exact .inl ((bqv h).go gts (upc ((c_pq k2 ev e).symm fun {_ _} => gts _ _)))
    · exact .inr (.inl (cpu h))
    · exact .inr (.inr ((upc (c_pq k2 ev e)).trans (cqv h)))
  have goodQ : f (k - 1) ≠ 46 → (M1 ∨ N1) → Br gT f (k + 2) (k - 1) ∨ Con gT f (k + 2) (k - 1) k ∨ Con gT f (k + 2) (k - 1) (k + 1) := by
    intro hq h
    rcases h with ((h | h) | ⟨e, h | h⟩) | (h | ⟨e, h⟩)
    · exact .inl (up ((R.d2 hq).mp h))
    · exact .inl (bqv h)
    · exact .inl (up ((pB (by rw [e]; exact hq) e).mp ((R.c2 (by rw [e]; exact hq)).mp h)))
    · exact .inl ((bpu h).go gts (upc (c_pq k2 ev e)))
    · exact .inr (.inr (cqv h))
    · exact .inr (.inl ((upc ((c_pq k2 ev e).symm fun {_ _} => gts _ _)).trans (cpu h)))
  by_cases x : X
  · refine .inr ⟨form.1 x, ?_⟩
    rcases x with ⟨hp, m, n⟩ | ⟨hq, m, n⟩
    · have h1 : Con gT f k (k - 2) (k - 2) → f k ≠ f (k - 2) ∧ f k ≠ 46 := fun _ => ⟨fun z => n (.inl z), fun z => m (.inl (.inr z))⟩
      have h2 : Con gT f k (k - 2) (k - 1) → f (k + 1) ≠ f (k - 2) ∧ f (k + 1) ≠ 46 := fun c => ⟨fun z => n (.inr ⟨c.sg, by rw [z, c.sg]⟩), fun z => m (.inr ⟨c.sg, .inr z⟩)⟩
      have st := stays k2 ev (s := k - 2) (by omega) (fun z => (h1 z).1) (fun z => (h2 z).1)
      exact ⟨k - 2, by omega, by omega, hp, no_br k2 ev (by omega) h1 h2 fun b => m (.inl (.inl ((R.c2 hp).mpr b))), fun c => by have := (st _ c).2; omega, fun c => by have := (st _ c).2; omega⟩
    · have h1 : Con gT f k (k - 1) (k - 2) → f k ≠ f (k - 1) ∧ f k ≠ 46 := fun c => ⟨fun z => n (.inr ⟨c.sg.symm, by rw [z, c.sg]⟩), fun z => m (.inr ⟨c.sg.symm, .inr z⟩)⟩
      have h2 : Con gT f k (k - 1) (k - 1) → f (k + 1) ≠ f (k - 1) ∧ f (k + 1) ≠ 46 := fun _ => ⟨fun z => n (.inl z), fun z => m (.inl (.inr z))⟩
      have st := stays k2 ev (s := k - 1) (by omega) (fun z => (h1 z).1) (fun z => (h2 z).1)
      exact ⟨k - 1, by omega, by omega, hq, no_br k2 ev (by omega) h1 h2 fun b => m (.inl (.inl ((R.d2 hq).mpr b))), fun c => by have := (st _ c).2; omega, fun c => by have := (st _ c).2; omega⟩
  · obtain ⟨c, d, es, hc, hd⟩ := form.2 x
    have okP : f (k - 2) ≠ 46 → M0 ∨ N0 := fun hp => Classical.byContradiction fun z => x (.inl ⟨hp, fun m => z (.inl m), fun n => z (.inr n)⟩)
    have okQ : f (k - 1) ≠ 46 → M1 ∨ N1 := fun hq => Classical.byContradiction fun z => x (.inr ⟨hq, fun m => z (.inl m), fun n => z (.inr n)⟩)
    -- breath of p and q where u and v bear stones
    have mP : f k ≠ 46 → f (k + 1) ≠ 46 → f (k - 2) ≠ 46 → (M0 ↔ Br gT f k (k - 2)) := fun hu hv hp => by
      constructor
      · rintro ((h | h) | ⟨e, h | h⟩)
        · exact (R.c2 hp).mp h
        · exact absurd h hu
        · exact (pB hp e).mpr ((R.d2 (by rw [← e]; exact hp)).mp h)
        · exact absurd h hv
      · exact fun b => .inl (.inl ((R.c2 hp).mpr b))
    have mQ : f k ≠ 46 → f (k + 1) ≠ 46 → f (k - 1) ≠ 46 → (M1 ↔ Br gT f k (k - 1)) := fun hu hv hq => by
      constructor
      · rintro ((h | h) | ⟨e, h | h⟩)
        · exact (R.d2 hq).mp h
        · exact absurd h hv
        · exact (pB (by rw [e]; exact hq) e).mp ((R.c2 (by rw [e]; exact hq)).mp h)
        · exact absurd h hu
      · exact fun b => .inl (.inl ((R.d2 hq).mpr b))
    have t0 : f k ≠ 46 → f (k + 1) ≠ 46 → (T0 ↔ Br gT f (k + 1) k) := fun hu hv => by
      rw [br_u k2 ev hu]
      constructor
      · rintro (((h | h) | h) | ⟨e, m⟩)
        · exact absurd h hu
        · exact absurd h hv
        · exact .inl h
        · exact .inr ⟨e.symm, (mP hu hv (by rw [← e]; exact hu)).mp m⟩
      · rintro (h | ⟨e, b⟩)
        · exact .inl (.inr h)
        · exact .inr ⟨e.symm, (mP hu hv (by rw [e]; exact hu)).mpr b⟩
    have t1 : f k ≠ 46 → f (k + 1) ≠ 46 → (T1 ↔ f (k - 1) = 46 ∨ (f (k - 1) = f (k + 1) ∧ Br gT f k (k - 1))) := fun hu hv => by
      constructor
      · rintro (((h | h) | h) | ⟨e, m⟩)
        · exact absurd h hu
        · exact absurd h hv
        · exact .inl h
        · exact .inr ⟨e.symm, (mQ hu hv (by rw [← e]; exact hv)).mp m⟩
      · rintro (h | ⟨e, b⟩)
        · exact .inl (.inr h)
        · exact .inr ⟨e.symm, (mQ hu hv (by rw [e]; exact hv)).mpr b⟩
    have bv : f k ≠ 46 → f (k + 1) ≠ 46 → (Br gT f (k + 2) (k + 1) ↔ T1 ∨ (f k = f (k + 1) ∧ T0)) := fun hu hv => by
      rw [br_v k2 ev hu hv, t1 hu hv, t0 hu hv, or_assoc]
    refine .inl ⟨_, es, ⟨by rw [e1], by rw [e2], fun h => ?_, fun h => ?_, fun h => ?_, fun h => ?_, fun a a0 a1 ha => ?_⟩⟩
    · rw [e1] at h
      exact hc.mpr (.inl (.inl (.inl (.inl h))))
    · rw [e1] at h ⊢
      show c = true ↔ _
      rw [hc]
      by_cases hv : f (k + 1) = 46
      · exact ⟨fun _ => ⟨k, k + 1, .here, by omega, t_uv k2 ev, by omega, hv⟩, fun _ => .inl (.inl (.inl (.inr hv)))⟩
      · by_cases e : f k = f (k + 1)
        · have : Br gT f (k + 2) k ↔ Br gT f (k + 2) (k + 1) := ⟨fun b => b.go gts (u_v k2 ev e), fun b => b.go gts ((u_v k2 ev e).symm fun {_ _} => gts _ _)⟩
          rw [this, bv h hv]
          exact ⟨fun z => z.elim (fun z => .inr ⟨e, z⟩) fun z => .inl z.2, fun z => z.elim (fun z => .inr ⟨e, z⟩) fun z => .inl z.2⟩
        · rw [br_u2 k2 ev h hv e, ← t0 h hv]
          exact ⟨fun z => z.elim id fun z => absurd z.1 e, .inl⟩
    · rw [e2] at h
      exact hd.mpr (.inl (.inl (.inl (.inr h))))
    · rw [e2] at h ⊢
      show d = true ↔ _
      rw [hd]
      by_cases hu : f k = 46
      · exact ⟨fun _ => ⟨k + 1, k, .here, by omega, gts _ _ (t_uv k2 ev), by omega, hu⟩, fun _ => .inl (.inl (.inl (.inl hu)))⟩
      · rw [bv hu h]
    · rw [e1, e2]
      by_cases au : a = k
      · subst au; exact .inr (.inl .here)
      · by_cases av : a = k + 1
        · subst av; exact .inr (.inr .here)
        · rcases R.al a a0 (by omega) ha with b | cc | cc
          · exact .inl (up b)
          · have hp : f (k - 2) ≠ 46 := by rw [← cc.sg]; exact ha
            rcases goodP hp (okP hp) with b | z | z
            · exact .inl (b.go gts ((upc cc).symm fun {_ _} => gts _ _))
            · exact .inr (.inl ((upc cc).trans z))
            · exact .inr (.inr ((upc cc).trans z))
          · have hq : f (k - 1) ≠ 46 := by rw [← cc.sg]; exact ha
            rcases goodQ hq (okQ hq) with b | z | z
            · exact .inl (b.go gts ((upc cc).symm fun {_ _} => gts _ _))
            · exact .inr (.inl ((upc cc).trans z))
            · exact .inr (.inr ((upc cc).trans z))
end
theorem Con.congr {T T' : Int → Int → Prop} {f f' : Int → Nat} {k a b : Int} (hT : ∀ x y, x < k → y < k → T x y → T' x y) (hp : ∀ x y, T x y → 0 ≤ x ∧ 0 ≤ y) (hf : ∀ x, 0 ≤ x → x < k → f x = f' x) (h : Con T f k a b) : Con T' f' k a b := by
  induction h with
  | here => exact .here
  | on _ t l1 l2 e ih =>
    have p := hp _ _ t
    exact .on ih (hT _ _ l1 l2 t) l1 l2 (by rw [← hf _ p.1 l1, ← hf _ p.2 l2, e])
theorem Br.congr {T T' : Int → Int → Prop} {f f' : Int → Nat} {k a : Int} (hT : ∀ x y, x < k → y < k → T x y → T' x y) (hp : ∀ x y, T x y → 0 ≤ x ∧ 0 ≤ y) (hf : ∀ x, 0 ≤ x → x < k → f x = f' x) (h : Br T f k a) : Br T' f' k a := by
  obtain ⟨c, m, h1, h2, h3, h4, h5⟩ := h
  exact ⟨c, m, h1.congr hT hp hf, h2, hT _ _ h2 h4 h3, h4, by rw [← hf m (hp _ _ h3).2 h4]; exact h5⟩
theorem br_breathes {w : Int × Tup (Int × Int)} (h : WebOk w) {b : Str} {k : Int} (k0 : 0 ≤ k) (k1 : k < w.1) : Breathes w b k ↔ Br (TW w) (cpOf b) w.1 k := by
  have hnb : ∀ x y, y ∈ nextL w x ↔ TW w x y := fun x y => mem_nextL h
  constructor
  · rintro ⟨x, r, y, my, hy⟩
    have rg := Reach.range h ⟨k0, k1⟩ r
    have t := (hnb _ _).mp my
    refine ⟨x, y, ?_, rg.2, t, (h.tie t).2.2.2.1, sgn_dot.mp hy⟩
    clear rg t my hy
    have key : ∀ x, G.Reach (nextL w) (fun y => decide (sgn b y = sgn b k)) k x → Con (TW w) (cpOf b) w.1 k x := by
      intro x r
      induction r with
      | here => exact .here
      | @on x y r m o ih =>
        have t := (hnb _ _).mp m
        have rt := h.tie t
        have o := of_decide_eq_true o
        rw [sgn_iff] at o
        exact .on ih t rt.2.1 rt.2.2.2.1 (by rw [← ih.sg, o])
    exact key x r
  · rintro ⟨c, m, cc, lc, t, lm, em⟩
    refine ⟨c, ?_, m, (hnb _ _).mpr t, sgn_dot.mpr em⟩
    clear t lc lm em
    induction cc with
    | here => exact .here
    | @on x y c0 t _ _ e ih => exact .on ih ((hnb _ _).mpr t) (by rw [decide_eq_true_eq, sgn_iff, ← e, c0.sg])
theorem fp_cp {p : List Nat} {n : Nat} (h : p ∈ PX n) {x : Int} (x0 : 0 ≤ x) (x1 : x < n) : fp p x = cpOf ⟨p.toArray⟩ x := by
  have lp := (px_mem.mp h).1
  have : p[x.toNat]? = some (p[x.toNat]'(by omega)) := List.getElem?_eq_getElem _
  unfold fp cpOf
  rw [List.getD_eq_getElem?_getD, List.getD_eq_getElem?_getD]
  show (p[x.toNat]?).getD 46 = ((p.toArray).toList[x.toNat]?).getD 0
  rw [List.toList_toArray, this]; rfl
theorem sound_br {w : Int × Tup (Int × Int)} {p : List Nat} (h : WebOk w) (hp : p ∈ PX w.1.toNat) {T : Int → Int → Prop} (hT : ∀ a b, tied w.2.l a b ↔ T a b) : Sound w ⟨p.toArray⟩ ↔ ∀ a, 0 ≤ a → a < w.1 → fp p a ≠ 46 → Br T (fp p) w.1 a := by
  have n1 := h.n1
  have hr : ∀ x y, T x y → 0 ≤ x ∧ 0 ≤ y := fun x y t => by
    have := h.tie ((hT x y).mpr t); omega
  have hr2 : ∀ x y, TW w x y → 0 ≤ x ∧ 0 ≤ y := fun x y t => by
    have := h.tie t; omega
  have cf : ∀ x, 0 ≤ x → x < w.1 → fp p x = cpOf ⟨p.toArray⟩ x := fun x x0 x1 => fp_cp hp x0 (by omega)
  unfold Sound
  constructor
  · intro S a a0 a1 ha
    have := (br_breathes h a0 a1).mp (S a a0 a1 fun e => ha (by rw [cf a a0 a1]; exact sgn_dot.mp e))
    exact this.congr (fun x y _ _ t => (hT x y).mp t) hr2 fun x x0 x1 => (cf x x0 x1).symm
  · intro S a a0 a1 hd
    have := S a a0 a1 fun e => hd (sgn_dot.mpr (by rw [← cf a a0 a1]; exact e))
    exact (br_breathes h a0 a1).mpr (this.congr (fun x y _ _ t => (hT x y).mpr t) hr cf)
def gini (o u : Nat) : SG := ⟨⟨#[o]⟩, ⟨#[u]⟩, decide (o = 46) || decide (u = 46), decide (o = 46) || decide (u = 46)⟩
theorem GI.first {f : Int → Nat} : GI f 2 (gini (f 0) (f 1)) := by
  have key : ∀ a, 0 ≤ a → a < 2 → f a ≠ 46 → (((decide (f 0 = 46) || decide (f 1 = 46)) = true) ↔ Br gT f 2 a) := fun a a0 a1 ha => by
    rw [Bool.or_eq_true, decide_eq_true_eq, decide_eq_true_eq]
    constructor
    · rintro (e | e)
      · have : a = 1 := by
          by_cases z : a = 0
          · subst z; exact absurd e ha
          · omega
        subst this
        exact ⟨1, 0, .here, by omega, ⟨by omega, by omega, by omega⟩, by omega, e⟩
      · have : a = 0 := by
          by_cases z : a = 1
          · subst z; exact absurd e ha
          · omega
        subst this
        exact ⟨0, 1, .here, by omega, ⟨by omega, by omega, by omega⟩, by omega, e⟩
    · rintro ⟨c, m, _, _, t, l, e⟩
      have m0 : 0 ≤ m := t.2.1
      by_cases z : m = 0
      · subst z; exact .inl e
      · have : m = 1 := by omega
        subst this; exact .inr e
  refine ⟨rfl, rfl, fun e => ?_, fun e => key 0 (by omega) (by omega) e, fun e => ?_, fun e => key 1 (by omega) (by omega) e, fun a a0 a1 _ => ?_⟩
  · have e : f 0 = 46 := e
    show (decide (f 0 = 46) || decide (f 1 = 46)) = true
    rw [e]; rfl
  · have e : f 1 = 46 := e
    show (decide (f 0 = 46) || decide (f 1 = 46)) = true
    rw [e, Bool.or_eq_true]; exact .inr rfl
  · by_cases z : a = 0
    · subst z; exact .inr (.inl .here)
    · have : a = 1 := by omega
      subst this; exact .inr (.inr .here)
def gst : List (Nat × Nat) → Option SG
  | [] => none
  | c :: p => p.foldl (fun s c => s.bind fun st => nxt st c.1 c.2) (some (gini c.1 c.2))
theorem gst_snoc {p : List (Nat × Nat)} (h : p ≠ []) (c : Nat × Nat) : gst (p ++ [c]) = (gst p).bind fun st => nxt st c.1 c.2 := by
  cases p with
  | nil => exact absurd rfl h
  | cons a p =>
    show (p ++ [c]).foldl _ _ = _
    rw [List.foldl_append]
    rfl
def flat (p : List (Nat × Nat)) : List Nat := p.flatMap fun c => [c.1, c.2]
theorem flat_len (p : List (Nat × Nat)) : (flat p).length = 2 * p.length := by
  unfold flat
  induction p with
  | nil => rfl
  | cons a p ih =>
    rw [List.flatMap_cons, List.length_append, ih]
    simp only [List.length_cons, List.length_nil]
    omega
theorem flat_snoc (p : List (Nat × Nat)) (c : Nat × Nat) : flat (p ++ [c]) = flat p ++ [c.1, c.2] := by
  unfold flat
  rw [List.flatMap_append, List.flatMap_singleton]
theorem gst_is {f : Int → Nat} : ∀ {m : Nat} {p : List (Nat × Nat)}, p.length = m + 1 → (∀ j : Nat, j < 2 * (m + 1) → f j = (flat p).getD j 0) → (∃ st, gst p = some st ∧ GI f ((2 * (m + 1) : Nat) : Int) st) ∨ (gst p = none ∧ ∃ j : Int, 2 ≤ j ∧ j ≤ ((2 * (m + 1) : Nat) : Int) ∧ j % 2 = 0 ∧ DeadG f j)
  | 0, p, hl, hf => by
    obtain ⟨c, rfl⟩ := List.length_eq_one_iff.mp hl
    have h0 : f 0 = c.1 := hf 0 (by omega)
    have h1 : f 1 = c.2 := hf 1 (by omega)
    refine .inl ⟨gini c.1 c.2, rfl, ?_⟩
    rw [← h0, ← h1]
    exact GI.first
  | m + 1, p, hl, hf => by
    have hne : p ≠ [] := fun e => by subst e; cases hl
    obtain ⟨q, c, rfl⟩ : ∃ q c, p = q ++ [c] := ⟨p.dropLast, p.getLast hne, (List.dropLast_concat_getLast hne).symm⟩
    have lq : q.length = m + 1 := by rw [List.length_append, List.length_singleton] at hl; omega
    have lf := flat_len q
    have fu : f ((2 * (m + 1) : Nat) : Int) = c.1 := by
      rw [hf (2 * (m + 1)) (by omega), flat_snoc, List.getD_eq_getElem?_getD, List.getElem?_append_right (by omega), lf, lq, Nat.sub_self]; rfl
    have fv : f (((2 * (m + 1) : Nat) : Int) + 1) = c.2 := by
      rw [show (((2 * (m + 1) : Nat) : Int) + 1) = ((2 * (m + 1) + 1 : Nat) : Int) by omega, hf (2 * (m + 1) + 1) (by omega), flat_snoc, List.getD_eq_getElem?_getD, List.getElem?_append_right (by omega), lf, lq, show 2 * (m + 1) + 1 - 2 * (m + 1) = 1 by omega]; rfl
    have hq : ∀ j : Nat, j < 2 * (m + 1) → f j = (flat q).getD j 0 := fun j hj => by
      rw [hf j (by omega), flat_snoc, List.getD_eq_getElem?_getD, List.getD_eq_getElem?_getD, List.getElem?_append_left (by omega)]
    rw [gst_snoc (fun e => by subst e; cases lq)]
    have ek : ((2 * (m + 1 + 1) : Nat) : Int) = ((2 * (m + 1) : Nat) : Int) + 2 := by omega
    rcases gst_is (p := q) lq hq with ⟨st, e, R⟩ | ⟨e, j, j0, j1, j2, D⟩
    · have S := R.step (by omega) (by omega)
      rw [fu, fv] at S
      rw [e, ek]
      rcases S with ⟨st', e2, R2⟩ | ⟨e2, D⟩
      · exact .inl ⟨st', e2, R2⟩
      · exact .inr ⟨e2, _, by omega, Int.le_refl _, by omega, D⟩
    · rw [e]
      exact .inr ⟨rfl, j, j0, by omega, j2, D⟩
theorem gdead {f : Int → Nat} {j n : Int} (jn : j ≤ n) (j2 : 2 ≤ j) (je : j % 2 = 0) (D : DeadG f j) : ∃ a, 0 ≤ a ∧ a < n ∧ f a ≠ 46 ∧ ¬ Br gT f n a := by
  obtain ⟨a, a0, a1, ha, nb, n1, n2⟩ := D
  refine ⟨a, a0, by omega, ha, ?_⟩
  have key : ∀ x, Con gT f n a x → Con gT f j a x ∧ x < j := by
    intro x c
    induction c with
    | here => exact ⟨.here, a1⟩
    | @on x y c t l1 l2 e ih =>
      have x1 : x ≠ j - 2 := fun z => n1 (z ▸ ih.1)
      have x2 : x ≠ j - 1 := fun z => n2 (z ▸ ih.1)
      have yl : y < j := by rcases t.2.2 with r | r | r | r <;> omega
      exact ⟨.on ih.1 t ih.2 yl e, yl⟩
  rintro ⟨c, m, cc, lc, t, lm, em⟩
  obtain ⟨c1, c2⟩ := key c cc
  have x1 : c ≠ j - 2 := fun z => n1 (z ▸ c1)
  have x2 : c ≠ j - 1 := fun z => n2 (z ▸ c1)
  exact nb ⟨c, m, c1, c2, t, by rcases t.2.2 with r | r | r | r <;> omega, em⟩
structure IsGrid (w : Int × Tup (Int × Int)) (m : Nat) : Prop where
  ok : WebOk w
  n : w.1 = ((2 * m : Nat) : Int)
  t : ∀ a b, tied w.2.l a b ↔ gT a b ∧ a < w.1 ∧ b < w.1
theorem grid_sound {w : Int × Tup (Int × Int)} {m : Nat} (R : IsGrid w (m + 1)) {p : List (Nat × Nat)} (hl : p.length = m + 1) (hp : flat p ∈ PX w.1.toNat) : Sound w ⟨(flat p).toArray⟩ ↔ ∃ st, gst p = some st ∧ st.c = true ∧ st.d = true := by
  have wn := R.n
  rw [sound_br R.ok hp (T := fun a b => gT a b ∧ a < w.1 ∧ b < w.1) R.t]
  have to1 : ∀ a, Br (fun a b => gT a b ∧ a < w.1 ∧ b < w.1) (fp (flat p)) w.1 a ↔ Br gT (fp (flat p)) w.1 a := fun a =>
    ⟨fun b => b.congr (fun x y _ _ t => t.1) (fun x y t => ⟨t.1.1, t.1.2.1⟩) fun _ _ _ => rfl, fun b => b.congr (fun x y l1 l2 t => ⟨t, l1, l2⟩) (fun x y t => ⟨t.1, t.2.1⟩) fun _ _ _ => rfl⟩
  have lp := flat_len p
  have G := gst_is (f := fp (flat p)) hl (fun j hj => by
    unfold fp
    rw [Int.toNat_natCast, List.getD_eq_getElem?_getD, List.getD_eq_getElem?_getD, List.getElem?_eq_getElem (by omega)]; rfl)
  rw [← wn] at G
  rcases G with ⟨st, e, I⟩ | ⟨e, j, j0, j1, j2, D⟩
  · rw [e]
    constructor
    · intro S
      refine ⟨st, rfl, ?_, ?_⟩
      · by_cases l : fp (flat p) (w.1 - 2) = 46
        · exact I.c1 l
        · exact (I.c2 l).mpr ((to1 _).mp (S _ (by omega) (by omega) l))
      · by_cases l : fp (flat p) (w.1 - 1) = 46
        · exact I.d1 l
        · exact (I.d2 l).mpr ((to1 _).mp (S _ (by omega) (by omega) l))
    · rintro ⟨st', e', hc, hd⟩ a a0 a1 ha
      cases e'
      rw [to1]
      rcases I.al a a0 a1 ha with b | c | c
      · exact b
      · have l : fp (flat p) (w.1 - 2) ≠ 46 := by rw [← c.sg]; exact ha
        exact ((I.c2 l).mp hc).go gts (c.symm fun {_ _} => gts _ _)
      · have l : fp (flat p) (w.1 - 1) ≠ 46 := by rw [← c.sg]; exact ha
        exact ((I.d2 l).mp hd).go gts (c.symm fun {_ _} => gts _ _)
  · rw [e]
    refine ⟨fun S => ?_, fun ⟨_, z, _⟩ => by cases z⟩
    obtain ⟨a, a0, a1, ha, nb⟩ := gdead (n := w.1) (by omega) j0 j2 D
    exact absurd ((to1 a).mp (S a a0 a1 ha)) nb
def nine : List (Nat × Nat) := [46, 120, 111].flatMap fun o => [46, 120, 111].map fun u => (o, u)
def PXc : Nat → List (List (Nat × Nat))
  | 0 => [[]]
  | m + 1 => (PXc m).flatMap fun p => nine.map fun c => p ++ [c]
def pairsc (m : Nat) : List (List (Nat × Nat) × (Nat × Nat)) := (PXc m).flatMap fun p => nine.map fun c => (p, c)
theorem pxc_succ (k : Nat) : PXc (k + 1) = (pairsc k).map fun x => x.1 ++ [x.2] := by
  show ((PXc k).flatMap fun p => nine.map fun c => p ++ [c]) = ((PXc k).flatMap fun p => nine.map fun c => (p, c)).map fun x => x.1 ++ [x.2]
  rw [List.map_flatMap]
  simp only [List.map_map]
  rfl
theorem mem_pairsc {k : Nat} {x : List (Nat × Nat) × (Nat × Nat)} : x ∈ pairsc k ↔ x.1 ∈ PXc k ∧ x.2 ∈ nine := by
  unfold pairsc
  rw [List.mem_flatMap]
  constructor
  · rintro ⟨p, m, h⟩
    obtain ⟨c, mc, e⟩ := List.mem_map.mp h
    subst e
    exact ⟨m, mc⟩
  · rintro ⟨m, h⟩
    exact ⟨x.1, m, List.mem_map.mpr ⟨x.2, h, rfl⟩⟩
theorem pxc_mem : ∀ {k : Nat} {p : List (Nat × Nat)}, p ∈ PXc k ↔ p.length = k ∧ ∀ c ∈ p, c ∈ nine
  | 0, p => by
    show p ∈ [[]] ↔ _
    rw [List.mem_singleton]
    exact ⟨fun e => by subst e; exact ⟨rfl, fun c m => by cases m⟩, fun e => List.length_eq_zero_iff.mp e.1⟩
  | k + 1, p => by
    rw [pxc_succ, List.mem_map]
    constructor
    · rintro ⟨x, m, rfl⟩
      obtain ⟨m1, m2⟩ := mem_pairsc.mp m
      obtain ⟨l, h⟩ := pxc_mem.mp m1
      refine ⟨by rw [List.length_append, l]; rfl, fun c mc => ?_⟩
      rcases List.mem_append.mp mc with mc | mc
      · exact h c mc
      · rw [List.mem_singleton.mp mc]; exact m2
    · rintro ⟨l, h⟩
      have hne : p ≠ [] := fun e => by subst e; cases l
      refine ⟨(p.dropLast, p.getLast hne), mem_pairsc.mpr ⟨pxc_mem.mpr ⟨by rw [List.length_dropLast, l]; rfl, fun c m => h c (List.dropLast_subset _ m)⟩, h _ (List.getLast_mem hne)⟩, List.dropLast_concat_getLast hne⟩
theorem mem_nine {c : Nat × Nat} : c ∈ nine ↔ (c.1 = 46 ∨ c.1 = 120 ∨ c.1 = 111) ∧ (c.2 = 46 ∨ c.2 = 120 ∨ c.2 = 111) := by
  unfold nine
  rw [List.mem_flatMap]
  constructor
  · rintro ⟨o, mo, h⟩
    obtain ⟨u, mu, rfl⟩ := List.mem_map.mp h
    exact ⟨by simpa using mo, by simpa using mu⟩
  · rintro ⟨h1, h2⟩
    exact ⟨c.1, by simpa using h1, List.mem_map.mpr ⟨c.2, by simpa using h2, rfl⟩⟩
def stc (p : List (Nat × Nat)) : Nat := stn (flat p)
def st9 (c : Nat × Nat) : Nat := st1 c.1 + st1 c.2
theorem stc_snoc (p : List (Nat × Nat)) (c : Nat × Nat) : stc (p ++ [c]) = stc p + st9 c := by
  unfold stc st9 st1
  rw [flat_snoc, show flat p ++ [c.1, c.2] = (flat p ++ [c.1]) ++ [c.2] by rw [List.append_assoc]; rfl, stn_snoc, stn_snoc]
  omega
theorem countP_al {α β : Type} [DecidableEq β] {A : List β} (nd : A.Nodup) {c : β} (hc : c ∈ A) (q : α → Bool) (l : List α) : (l.flatMap fun p => A.map fun c => (p, c)).countP (fun x => q x.1 && decide (x.2 = c)) = l.countP q := by
  induction l with
  | nil => rfl
  | cons a l ih =>
    rw [List.flatMap_cons, List.countP_append, ih, List.countP_cons, List.countP_map]
    have : A.countP ((fun x : α × β => q x.1 && decide (x.2 = c)) ∘ fun c => (a, c)) = if q a = true then 1 else 0 := by
      by_cases e : q a = true
      · rw [if_pos e]
        have h1 : A.countP ((fun x : α × β => q x.1 && decide (x.2 = c)) ∘ fun c => (a, c)) = [c].countP fun _ => true := by
          rw [List.countP_eq_length_filter, List.countP_eq_length_filter]
          refine Nat.le_antisymm (nodup_sub_len (nd.filter _) fun x mx => ?_) (nodup_sub_len (List.pairwise_singleton _ _ |>.filter _) fun x mx => ?_)
          · rw [List.mem_filter] at mx
            have : (q a && decide (x = c)) = true := mx.2
            rw [Bool.and_eq_true, decide_eq_true_eq] at this
            rw [List.mem_filter, List.mem_singleton]
            exact ⟨this.2, rfl⟩
          · rw [List.mem_filter, List.mem_singleton] at mx
            rw [List.mem_filter, mx.1]
            refine ⟨hc, ?_⟩
            show (q a && decide (c = c)) = true
            rw [e, decide_eq_true rfl]; rfl
        rw [h1]; rfl
      · rw [if_neg e]
        refine countP_none fun x _ => ?_
        show ¬ (q a && decide (x = c)) = true
        rw [Bool.eq_false_iff.mpr e, Bool.false_and]; decide
    rw [this]; omega
theorem boards_c (m : Nat) (Q : List Nat → Bool) : (PX (2 * m)).countP Q = (PXc m).countP fun p => Q (flat p) := by
  have inj : ∀ {p q : List (Nat × Nat)}, flat p = flat q → p = q := by
    intro p
    induction p with
    | nil =>
      intro q e
      cases q with
      | nil => rfl
      | cons b q => exact absurd (congrArg List.length e) (by rw [flat_len, flat_len]; simp)
    | cons a p ih =>
      intro q e
      cases q with
      | nil => exact absurd (congrArg List.length e) (by rw [flat_len, flat_len]; simp)
      | cons b q =>
        have e : a.1 :: a.2 :: flat p = b.1 :: b.2 :: flat q := e
        have e1 := List.cons.inj e
        have e2 := List.cons.inj e1.2
        rw [ih e2.2, show a = b from Prod.ext e1.1 e2.1]
  have ndc : ∀ m, (PXc m).Nodup := by
    intro m
    induction m with
    | zero => exact List.pairwise_singleton _ _
    | succ m ih =>
      refine nodup_flat ih (fun p _ => nodup_mapI (by decide) fun x _ y _ e => (List.cons.inj (List.append_cancel_left e)).1) fun p _ q _ z hz hz' => ?_
      obtain ⟨c, _, rfl⟩ := List.mem_map.mp hz
      obtain ⟨d, _, e⟩ := List.mem_map.mp hz'
      exact ((List.append_inj' e rfl).1).symm
  have nd : ((PXc m).map flat).Nodup := nodup_mapI (ndc m) fun x _ y _ e => inj e
  have lenc : ∀ m, (PXc m).length = 9 ^ m := by
    intro m
    induction m with
    | zero => rfl
    | succ m ih =>
      have : ∀ l : List (List (Nat × Nat)), (l.flatMap fun p => nine.map fun c => p ++ [c]).length = 9 * l.length := by
        intro l
        induction l with
        | nil => rfl
        | cons a l ih =>
          rw [List.flatMap_cons, List.length_append, ih, List.length_map, List.length_cons, show nine.length = 9 from rfl]
          omega
      show ((PXc m).flatMap fun p => nine.map fun c => p ++ [c]).length = _
      rw [this, ih, Nat.pow_succ]; omega
  have sub : ∀ z ∈ (PXc m).map flat, z ∈ PX (2 * m) := fun z mz => by
    obtain ⟨p, mp, rfl⟩ := List.mem_map.mp mz
    obtain ⟨l, h⟩ := pxc_mem.mp mp
    refine px_mem.mpr ⟨by rw [flat_len, l], fun x mx => ?_⟩
    unfold flat at mx
    obtain ⟨c, mc, hx⟩ := List.mem_flatMap.mp mx
    have := mem_nine.mp (h c mc)
    rcases List.mem_cons.mp hx with e | hx
    · rw [e]; exact this.1
    · rw [List.mem_singleton.mp hx]; exact this.2
  have := countP_same nd (px_nodup (2 * m)) (fun z => ⟨sub z, nodup_back nd sub (by
    rw [List.length_map, lenc, px_len, Nat.pow_mul]
    exact Nat.le_refl _) z⟩) Q
  rw [← this, List.countP_map]
  rfl
theorem sum_is {a b : List Int} (la : a.length ≤ 1000) (lb : b.length ≤ 1000) : Sat (m_l_sum a b) (fun l => l.length = max a.length b.length ∧ ∀ s, l.getD s 0 = a.getD s 0 + b.getD s 0) := by
  unfold m_l_sum
  rw [repR1_ok (by omega) (by omega)]
  have add : ∀ (s row : List Int), row.length ≤ s.length → s.length ≤ 1000 → Sat ((Res.bind (guardR (small62 (row.length : Int)) (Res.ok (rangeL 0 ((row.length : Int)).toNat))) fun v10 => (foldR (fun (s4 : (List Int)) (a5 : Int) => (Res.bind (Res.bind (Res.bind (idx s4 a5) fun v6 => (Res.bind (idx row a5) fun v7 => (Res.ok (v6 + v7)))) fun v9 => (setR s4 a5 v9)) fun (l_found8 : (List Int)) => (Res.ok l_found8))) s v10))) (fun t => t.length = s.length ∧ ∀ u, t.getD u 0 = s.getD u 0 + row.getD u 0) := fun s row hr hs => by
    refine .brange (by omega) (by omega) ?_
    refine (Sat.foldR (fun j t => t.length = s.length ∧ ∀ u, t.getD u 0 = s.getD u 0 + if u < j then row.getD u 0 else 0) ⟨rfl, fun u => by rw [if_neg (by omega)]; omega⟩ ?_).imp fun t ⟨h3, h4⟩ => ⟨h3, fun u => ?_⟩
    · rintro j t a ha ⟨h3, h4⟩
      obtain ⟨hj, rfl⟩ := rangeL0 ha
      rw [idx_getD (by omega) (by omega), idx_getD (by omega) (by omega)]
      refine .bassoc (.bassoc (.bok (.bassoc (.bok (.bok ?_)))))
      rw [setR_ok (by omega) (by omega)]
      refine .bok (.ok ⟨by rw [List.length_set]; exact h3, fun u => ?_⟩)
      rw [getD_set (by omega), Int.toNat_natCast]
      by_cases e : u = j
      · subst e
        rw [if_pos rfl, h4, if_neg (by omega), if_pos (by omega)]; omega
      · rw [if_neg e, h4]
        congr 1
        by_cases c : u < j
        · rw [if_pos c, if_pos (by omega)]
        · rw [if_neg c, if_neg (by omega)]
    · rw [h4, rangeL_len]
      congr 1
      by_cases c : u < (row.length : Int).toNat
      · rw [if_pos c]
      · rw [if_neg c, List.getD_eq_getElem?_getD, List.getElem?_eq_none (by omega)]; rfl
  have rl : (List.replicate (max (a.length : Int) (b.length : Int)).toNat (0 : Int)).length = max a.length b.length := by rw [List.length_replicate]; omega
  obtain ⟨s1, e1, l1, v1⟩ := add (List.replicate (max (a.length : Int) (b.length : Int)).toNat (0 : Int)) a (by rw [rl]; omega) (by rw [rl]; omega)
  obtain ⟨s2, e2, l2, v2⟩ := add s1 b (by rw [l1, rl]; omega) (by rw [l1, rl]; omega)
  refine .bok ?_
  show Sat (Res.bind (Res.bind (Res.bind (Res.bind (guardR (small62 (a.length : Int)) (Res.ok (rangeL 0 ((a.length : Int)).toNat))) _) _) fun s => Res.bind (Res.bind (Res.bind (guardR (small62 (b.length : Int)) (Res.ok (rangeL 0 ((b.length : Int)).toNat))) _) _) fun s => Res.ok s) _) _
  rw [e1]
  simp only [Res.okb]
  rw [e2]
  simp only [Res.okb]
  refine .ok ⟨by rw [l2, l1, rl], fun s => ?_⟩
  rw [v2, v1, List.getD_eq_getElem?_getD, List.getElem?_replicate]
  split <;> simp
abbrev GK := G.Dic SG (List Int)
def gvl (d : GK) (key : SG) (s : Nat) : Int := ((dget d key).getD []).getD s 0
def gnx (x : List (Nat × Nat) × (Nat × Nat)) : Option SG := (gst x.1).bind fun st => nxt st x.2.1 x.2.2
theorem g_snoc {k : Nat} {x : List (Nat × Nat) × (Nat × Nat)} (m : x ∈ pairsc (k + 1)) : gst (x.1 ++ [x.2]) = gnx x := by
  have lx := (pxc_mem.mp (mem_pairsc.mp m).1).1
  exact gst_snoc (fun z => by rw [z] at lx; cases lx) x.2
def texts : List Str := [dot, xS, oS]
def ALLG : List SG := texts.flatMap fun a => texts.flatMap fun b => [true, false].flatMap fun c => [true, false].map fun d => (⟨a, b, c, d⟩ : SG)
theorem allg {st : SG} (ha : st.a ∈ texts) (hb : st.b ∈ texts) : st ∈ ALLG := by
  obtain ⟨a, b, c, d⟩ := st
  refine List.mem_flatMap.mpr ⟨a, ha, List.mem_flatMap.mpr ⟨b, hb, List.mem_flatMap.mpr ⟨c, by cases c <;> simp, List.mem_map.mpr ⟨d, by cases d <;> simp, rfl⟩⟩⟩⟩
theorem text_of {c : Nat} (h : c = 46 ∨ c = 120 ∨ c = 111) : (⟨#[c]⟩ : Str) ∈ texts := by
  rcases h with rfl | rfl | rfl <;> decide
theorem nxt_ab {st st' : SG} {o u : Nat} (e : nxt st o u = some st') : st'.a = ⟨#[o]⟩ ∧ st'.b = ⟨#[u]⟩ := by
  unfold nxt nxB at e
  dsimp only at e
  obtain ⟨_, e⟩ := Option.ite_none_left_eq_some.mp e
  have e := Option.some.inj e
  rw [← e]
  exact ⟨rfl, rfl⟩
theorem gst_all : ∀ {k : Nat} {p : List (Nat × Nat)}, p ∈ PXc (k + 1) → ∀ {st}, gst p = some st → st ∈ ALLG := fun {k p} m {st} e => by
  rw [pxc_succ] at m
  obtain ⟨x, mx, rfl⟩ := List.mem_map.mp m
  obtain ⟨m1, m2⟩ := mem_pairsc.mp mx
  have n9 := mem_nine.mp m2
  cases hx : x.1 with
  | nil =>
    rw [hx] at e
    cases e
    exact allg (text_of n9.1) (text_of n9.2)
  | cons a l =>
    rw [gst_snoc (by rw [hx]; exact fun z => by cases z)] at e
    cases h1 : gst x.1 with
    | none => rw [h1] at e; cases e
    | some s1 =>
      rw [h1] at e
      obtain ⟨ea, eb⟩ := nxt_ab e
      exact allg (by rw [ea]; exact text_of n9.1) (by rw [eb]; exact text_of n9.2)
structure GLv (k : Nat) (d : GK) : Prop where
  kn : (dkeys d).Nodup
  ln : ∀ key l, dget d key = some l → l.length ≤ 2 * k + 1
  vv : ∀ key s, gvl d key s = (((PXc k).countP fun p => decide (gst p = some key) && decide (stc p = s) : Nat) : Int)
  hs : ∀ key, dhas d key = true ↔ ∃ p ∈ PXc k, gst p = some key
structure GInv (k : Nat) (d : GK) (done : List (Nat × Nat) × (Nat × Nat) → Bool) : Prop where
  kn : (dkeys d).Nodup
  ln : ∀ key l, dget d key = some l → l.length ≤ 2 * k + 3
  vv : ∀ key s, gvl d key s = (((pairsc k).countP fun x => done x && (decide (gnx x = some key) && decide (stc x.1 + st9 x.2 = s)) : Nat) : Int)
  hs : ∀ key, dhas d key = true ↔ ∃ x ∈ pairsc k, done x = true ∧ gnx x = some key
theorem GInv.congr {k : Nat} {d : GK} {p q : List (Nat × Nat) × (Nat × Nat) → Bool} (I : GInv k d p) (h : ∀ x ∈ pairsc k, p x = q x) : GInv k d q :=
  ⟨I.kn, I.ln, fun key s => by rw [I.vv]; congr 1; exact countP_eq fun x m => by rw [h x m], fun key => by
    rw [I.hs]
    exact ⟨fun ⟨x, m, a, b⟩ => ⟨x, m, by rw [← h x m]; exact a, b⟩, fun ⟨x, m, a, b⟩ => ⟨x, m, by rw [h x m]; exact a, b⟩⟩⟩
theorem GInv.small {k : Nat} {d : GK} {done : List (Nat × Nat) × (Nat × Nat) → Bool} (I : GInv (k + 1) d done) : d.l.length ≤ 36 := by
  rw [← keys_len]
  refine Nat.le_trans (nodup_sub_len (m := ALLG) I.kn fun key m => ?_) (by decide)
  have : dhas d key = true := by rw [dhas_keys]; exact decide_eq_true m
  obtain ⟨x, mx, _, e⟩ := (I.hs key).mp this
  rw [← g_snoc mx] at e
  exact gst_all (by rw [pxc_succ]; exact List.mem_map.mpr ⟨x, mx, rfl⟩) e
theorem shift_at {row : List Int} {m : Nat} (j : Nat) : (List.replicate m 0 ++ row).getD j 0 = if m ≤ j then row.getD (j - m) 0 else 0 := by
  rw [List.getD_eq_getElem?_getD]
  by_cases c : m ≤ j
  · rw [if_pos c, List.getElem?_append_right (by rw [List.length_replicate]; exact c), List.length_replicate, List.getD_eq_getElem?_getD]
  · rw [if_neg c, List.getElem?_append_left (by rw [List.length_replicate]; omega), List.getElem?_replicate, if_pos (by omega)]; rfl
theorem GInv.step {k : Nat} (hk : k ≤ 60) {d : GK} {done : List (Nat × Nat) × (Nat × Nat) → Bool} (I : GInv (k + 1) d done) {key : SG} {row : List Int} (hr : row.length ≤ 2 * (k + 1) + 1)
    (hv : ∀ s, row.getD s 0 = (((PXc (k + 1)).countP fun p => decide (gst p = some key) && decide (stc p = s) : Nat) : Int)) {p0 : List (Nat × Nat)} (hp : p0 ∈ PXc (k + 1)) (hp2 : gst p0 = some key) {c : Nat × Nat} (hc : c ∈ nine)
    (fresh : ∀ x ∈ pairsc (k + 1), gst x.1 = some key → x.2 = c → done x = false) :
    Sat (Res.bind (m_l_next key ⟨#[c.1]⟩ ⟨#[c.2]⟩) fun (l_there24 : (Option (G.T4 PySem.Str PySem.Str Bool Bool))) => (Res.bind (if (Option.isSome l_there24) then (Res.bind (Res.bind (repR ((0 : Int) :: []) ((if (!ScaEq.eq (⟨#[c.1]⟩ : Str) (PySem.Str.ofString ".")) then (1 : Int) else 0) + (if (!ScaEq.eq (⟨#[c.2]⟩ : Str) (PySem.Str.ofString ".")) then (1 : Int) else 0))) fun v27 => (catR v27 row)) fun (l_longer26 : (List Int)) => (Res.bind (Res.bind (Res.bind (Res.bind (Res.bind (unw l_there24) fun v28 => (Res.ok ((dget d v28).getD ((0 : Int) :: [])))) fun v29 => (Res.ok (v29, (l_longer26, ())))) fun a30 => (m_l_sum a30.1 a30.2.1)) fun v32 => (Res.bind (unw l_there24) fun v33 => (dputR d v33 v32))) fun (l_behind31 : (G.Dic (G.T4 PySem.Str PySem.Str Bool Bool) (List Int))) => (Res.ok l_behind31))) else (Res.ok d)) fun s25 => (Res.ok s25)))
      fun d' => GInv (k + 1) d' (fun x => done x || (decide (gst x.1 = some key) && decide (x.2 = c))) := by
  have nxk : ∀ x ∈ pairsc (k + 1), gst x.1 = some key → x.2 = c → gnx x = nxt key c.1 c.2 := fun x m e1 e2 => by
    unfold gnx
    rw [e1, e2]; rfl
  rw [next_is]
  show Sat (Res.bind (Res.ok (nxt key c.1 c.2)) _) _
  refine .bok ?_
  cases es : nxt key c.1 c.2 with
  | none =>
    refine .bok (.ok ⟨I.kn, I.ln, fun κ s => ?_, fun κ => ?_⟩)
    · rw [I.vv]
      congr 1
      refine countP_eq fun x m => ?_
      simp only [Bool.and_eq_true, Bool.or_eq_true, decide_eq_true_eq]
      refine ⟨fun ⟨a, b⟩ => ⟨.inl a, b⟩, fun ⟨a, b⟩ => ⟨a.elim id fun z => ?_, b⟩⟩
      have := nxk x m z.1 z.2
      rw [es, b.1] at this; cases this
    · rw [I.hs]
      constructor
      · rintro ⟨x, m, a, b⟩
        exact ⟨x, m, by rw [a]; rfl, b⟩
      · rintro ⟨x, m, a, b⟩
        refine ⟨x, m, ?_, b⟩
        simp only [Bool.and_eq_true, Bool.or_eq_true, decide_eq_true_eq] at a
        refine a.elim id fun z => ?_
        have := nxk x m z.1 z.2
        rw [es, b] at this; cases this
  | some k2 =>
    rw [if_pos (show Option.isSome (some k2) = true from rfl), show unw (some k2) = .ok k2 from rfl]
    have od : ∀ z : Nat, (if (!ScaEq.eq (⟨#[z]⟩ : Str) (PySem.Str.ofString ".")) then (1 : Int) else 0) = ((st1 z : Nat) : Int) := fun z => by
      rw [eqSS]
      unfold st1
      have : (⟨#[z]⟩ : Str) = PySem.Str.ofString "." ↔ z = 46 := b_dot rfl
      by_cases e : z = 46
      · rw [decide_eq_true (this.mpr e), if_pos e]; rfl
      · rw [decide_eq_false (fun y => e (this.mp y)), if_neg e]; rfl
    have m1 : st9 c ≤ 2 := by unfold st9 st1; split <;> split <;> omega
    rw [od, od, show ((st1 c.1 : Nat) : Int) + ((st1 c.2 : Nat) : Int) = ((st9 c : Nat) : Int) by unfold st9; omega]
    have oldl : ((dget d k2).getD [(0 : Int)]).length ≤ 2 * (k + 1) + 3 := by
      cases e : dget d k2 with
      | none => show 1 ≤ _; omega
      | some l => exact I.ln k2 l e
    have oldv : ∀ j, ((dget d k2).getD [(0 : Int)]).getD j 0 = ((dget d k2).getD []).getD j 0 := fun j => by
      cases e : dget d k2 with
      | none => show ([0] : List Int).getD j 0 = 0; cases j <;> rfl
      | some l => rfl
    rw [repR1_ok (by omega) (by omega), Int.toNat_natCast]
    simp only [Res.okb]
    rw [catR_ok (by rw [List.length_replicate]; omega)]
    simp only [Res.okb]
    have ll : (List.replicate (st9 c) (0 : Int) ++ row).length ≤ 2 * (k + 1) + 3 := by rw [List.length_append, List.length_replicate]; omega
    obtain ⟨s, e1, s1, s3⟩ := sum_is (a := (dget d k2).getD [(0 : Int)]) (b := List.replicate (st9 c) (0 : Int) ++ row) (by omega) (by omega)
    have s1 : s.length ≤ 2 * (k + 1) + 3 := by omega
    rw [e1]
    simp only [Res.okb]
    rw [dputR_ok (by have := I.small; omega)]
    simp only [Res.okb]
    have sv : ∀ j, s.getD j 0 = ((dget d k2).getD []).getD j 0 + if st9 c ≤ j then row.getD (j - st9 c) 0 else 0 := fun j => by
      rw [s3, oldv, shift_at]
    refine .ok ⟨put_nodup _ _ _ I.kn, fun κ l e => ?_, fun κ j => ?_, fun κ => ?_⟩
    · rw [dget_put] at e
      by_cases ek : κ = k2
      · rw [if_pos ek] at e
        rw [← Option.some.inj e]; exact s1
      · rw [if_neg ek] at e
        exact I.ln _ _ e
    · have sp : (pairsc (k + 1)).countP (fun x => (done x || (decide (gst x.1 = some key) && decide (x.2 = c))) && (decide (gnx x = some κ) && decide (stc x.1 + st9 x.2 = j))) =
          (pairsc (k + 1)).countP (fun x => done x && (decide (gnx x = some κ) && decide (stc x.1 + st9 x.2 = j))) + (pairsc (k + 1)).countP (fun x => (decide (gst x.1 = some key) && (decide (k2 = κ) && decide (stc x.1 + st9 c = j))) && decide (x.2 = c)) := by
        refine countP_split fun x m => ⟨?_, ?_⟩
        · simp only [Bool.and_eq_true, Bool.or_eq_true, decide_eq_true_eq]
          constructor
          · rintro ⟨a | ⟨a1, a2⟩, b1, b2⟩
            · exact .inl ⟨a, b1, b2⟩
            · have := nxk x m a1 a2
              rw [es, b1] at this
              exact .inr ⟨⟨a1, (Option.some.inj this).symm, by rw [← a2]; exact b2⟩, a2⟩
          · rintro (⟨a, b⟩ | ⟨⟨a1, a3, a4⟩, a2⟩)
            · exact ⟨.inl a, b⟩
            · refine ⟨.inr ⟨a1, a2⟩, ?_, by rw [a2]; exact a4⟩
              rw [nxk x m a1 a2, es, a3]
        · simp only [Bool.and_eq_true, decide_eq_true_eq]
          rintro ⟨⟨a, _⟩, ⟨b1, _⟩, b2⟩
          rw [fresh x m b1 b2] at a; cases a
      rw [sp, Int.natCast_add, ← I.vv]
      have e2 : (pairsc (k + 1)).countP (fun x => (decide (gst x.1 = some key) && (decide (k2 = κ) && decide (stc x.1 + st9 c = j))) && decide (x.2 = c)) = (PXc (k + 1)).countP fun p => decide (gst p = some key) && (decide (k2 = κ) && decide (stc p + st9 c = j)) := countP_al (by decide) hc (fun p => decide (gst p = some key) && (decide (k2 = κ) && decide (stc p + st9 c = j))) (PXc (k + 1))
      rw [e2]
      unfold gvl
      rw [dget_put]
      by_cases ek : κ = k2
      · subst ek
        rw [if_pos rfl]
        show s.getD j 0 = _
        rw [sv]
        congr 1
        by_cases l : st9 c ≤ j
        · rw [if_pos l, hv]
          congr 1
          refine countP_eq fun p _ => ?_
          simp only [Bool.and_eq_true, decide_eq_true_eq]
          exact and_congr_right fun _ => ⟨fun e => ⟨trivial, by omega⟩, fun e => by omega⟩
        · rw [if_neg l, countP_none fun p _ => ?_]
          · rfl
          · simp only [Bool.and_eq_true, decide_eq_true_eq]
            rintro ⟨_, _, e⟩
            omega
      · rw [if_neg ek, countP_none fun p _ => ?_]
        · show _ = _ + 0
          omega
        · simp only [Bool.and_eq_true, decide_eq_true_eq]
          rintro ⟨_, e, _⟩
          exact ek e.symm
    · rw [dhas_put, Bool.or_eq_true, decide_eq_true_eq, I.hs]
      constructor
      · rintro (e | ⟨x, m, a, b⟩)
        · have mx : (p0, c) ∈ pairsc (k + 1) := mem_pairsc.mpr ⟨hp, hc⟩
          refine ⟨(p0, c), mx, by simp only [Bool.or_eq_true, Bool.and_eq_true, decide_eq_true_eq]; exact .inr ⟨hp2, trivial⟩, ?_⟩
          rw [nxk _ mx hp2 rfl, es, e]
        · exact ⟨x, m, by rw [a]; rfl, b⟩
      · rintro ⟨x, m, a, b⟩
        simp only [Bool.and_eq_true, Bool.or_eq_true, decide_eq_true_eq] at a
        rcases a with a | ⟨a1, a2⟩
        · exact .inr ⟨x, m, a, b⟩
        · have := nxk x m a1 a2
          rw [es, b] at this
          exact .inl (Option.some.inj this)
theorem gget_mem {d : GK} {key : SG} {row : List Int} (kn : (dkeys d).Nodup) (m : (key, row) ∈ d.l) : dget d key = some row := by
  unfold dget
  have : ∀ l : List (SG × List Int), (l.map (·.1)).Nodup → (key, row) ∈ l → (l.find? fun kv => decide (kv.1 = key)).map (·.2) = some row := by
    intro l
    induction l with
    | nil => intro _ m; cases m
    | cons a l ih =>
      intro n m
      have n := List.nodup_cons.mp n
      rw [List.find?_cons]
      by_cases e : a.1 = key
      · rw [decide_eq_true e]
        rcases List.mem_cons.mp m with m | m
        · rw [← m]; rfl
        · exact absurd (List.mem_map.mpr ⟨_, m, e.symm⟩) n.1
      · rw [decide_eq_false e]
        rcases List.mem_cons.mp m with m | m
        · exact absurd (by rw [← m]) e
        · exact ih n.2 m
  exact this d.l kn m
def GN (l : List (SG × List Int)) (x : List (Nat × Nat) × (Nat × Nat)) : Bool := l.any fun e => decide (gst x.1 = some e.1)
theorem gn_iff {l : List (SG × List Int)} {x : List (Nat × Nat) × (Nat × Nat)} : GN l x = true ↔ ∃ e ∈ l, gst x.1 = some e.1 := by
  unfold GN
  rw [List.any_eq_true]
  exact ⟨fun ⟨e, m, h⟩ => ⟨e, m, of_decide_eq_true h⟩, fun ⟨e, m, h⟩ => ⟨e, m, decide_eq_true h⟩⟩
def npairs : List (Str × Str) := nine.map fun c => ((⟨#[c.1]⟩ : Str), (⟨#[c.2]⟩ : Str))
theorem GLv.next {k : Nat} (hk : k ≤ 60) {d : GK} (L : GLv (k + 1) d) :
    Sat (foldR (fun (s20 : (G.Dic (G.T4 PySem.Str PySem.Str Bool Bool) (List Int))) (a21 : ((G.T4 PySem.Str PySem.Str Bool Bool) × (List Int))) => (Res.bind (foldR (fun (s22 : (G.Dic (G.T4 PySem.Str PySem.Str Bool Bool) (List Int))) (a23 : (PySem.Str × PySem.Str)) => (Res.bind (m_l_next a21.1 a23.1 a23.2) fun (l_there24 : (Option (G.T4 PySem.Str PySem.Str Bool Bool))) => (Res.bind (if (Option.isSome l_there24) then (Res.bind (Res.bind (repR ((0 : Int) :: []) ((if (!ScaEq.eq a23.1 (PySem.Str.ofString ".")) then (1 : Int) else 0) + (if (!ScaEq.eq a23.2 (PySem.Str.ofString ".")) then (1 : Int) else 0))) fun v27 => (catR v27 a21.2)) fun (l_longer26 : (List Int)) => (Res.bind (Res.bind (Res.bind (Res.bind (Res.bind (unw l_there24) fun v28 => (Res.ok ((dget s22 v28).getD ((0 : Int) :: [])))) fun v29 => (Res.ok (v29, (l_longer26, ())))) fun a30 => (m_l_sum a30.1 a30.2.1)) fun v32 => (Res.bind (unw l_there24) fun v33 => (dputR s22 v33 v32))) fun (l_behind31 : (G.Dic (G.T4 PySem.Str PySem.Str Bool Bool) (List Int))) => (Res.ok l_behind31))) else (Res.ok s22)) fun s25 => (Res.ok s25)))) s20 npairs) fun s22 => (Res.ok s22))) ⟨[]⟩ d.l) (GLv (k + 2)) := by
  have I0 : GInv (k + 1) ⟨[]⟩ (GN (d.l.take 0)) := ⟨.nil, (fun key l e => by cases e), fun key s => by
    rw [countP_none fun x m => by
      simp only [Bool.and_eq_true, gn_iff]
      rintro ⟨⟨e, m, _⟩, _⟩
      cases m]
    rfl, fun key => ⟨(fun e => by cases e), (fun ⟨x, m, a, b⟩ => by
      obtain ⟨e, m, _⟩ := gn_iff.mp a
      cases m)⟩⟩
  refine (Sat.foldR (fun i s => GInv (k + 1) s (GN (d.l.take i))) I0 ?_).imp fun s I => ?_
  · rintro i s ⟨key, row⟩ hx I
    have mx := List.mem_of_getElem? hx
    have eg := gget_mem L.kn mx
    have hr : row.length ≤ 2 * (k + 1) + 1 := L.ln _ _ eg
    have hv : ∀ s, row.getD s 0 = (((PXc (k + 1)).countP fun p => decide (gst p = some key) && decide (stc p = s) : Nat) : Int) := fun s => by
      rw [← L.vv]; unfold gvl; rw [eg]; rfl
    obtain ⟨p0, hp, hp2⟩ := (L.hs key).mp (by rw [← dget_isSome, eg]; rfl)
    have hi := (List.getElem?_eq_some_iff.mp hx).1
    have notin : ∀ e ∈ d.l.take i, e.1 ≠ key := fun e me ek => by
      obtain ⟨j, hj, ej⟩ := List.getElem_of_mem me
      rw [List.length_take] at hj
      rw [List.getElem_take] at ej
      have kn := L.kn
      unfold dkeys at kn
      have a1 : (d.l.map (·.1))[j]'(by rw [List.length_map]; omega) = key := by rw [List.getElem_map, ej, ek]
      have a2 : (d.l.map (·.1))[i]'(by rw [List.length_map]; exact hi) = key := by
        rw [List.getElem_map]
        have := (List.getElem?_eq_some_iff.mp hx).2
        rw [this]
      have := (List.getElem_inj kn).mp (a1.trans a2.symm)
      omega
    have fr0 : ∀ x : List (Nat × Nat) × (Nat × Nat), gst x.1 = some key → GN (d.l.take i) x = false := fun x e => Bool.eq_false_iff.mpr fun z => by
      obtain ⟨e', m', h'⟩ := gn_iff.mp z
      exact notin e' m' (by rw [e] at h'; exact (Option.some.inj h').symm)
    refine .bind (P := fun s => GInv (k + 1) s (GN (d.l.take (i + 1)))) ?_ fun s I => .ok I
    have I0' : GInv (k + 1) s (fun x => GN (d.l.take i) x || (decide (gst x.1 = some key) && decide (x.2 ∈ nine.take 0))) := I.congr fun x _ => by
      rw [List.take_zero, show decide (x.2 ∈ ([] : List (Nat × Nat))) = false from decide_eq_false (fun z => by cases z), Bool.and_false, Bool.or_false]
    refine (Sat.foldR (xs := npairs) (fun j s => GInv (k + 1) s (fun x => GN (d.l.take i) x || (decide (gst x.1 = some key) && decide (x.2 ∈ nine.take j)))) I0' ?_).imp fun s I => ?_
    · rintro j s a ha I
      unfold npairs at ha
      rw [List.getElem?_map] at ha
      obtain ⟨c, ec, rfl⟩ := Option.map_eq_some_iff.mp ha
      have hj := (List.getElem?_eq_some_iff.mp ec).1
      have nd9 : nine.Nodup := by decide
      have nin : c ∉ nine.take j := fun m => by
        obtain ⟨l, hl, el⟩ := List.getElem_of_mem m
        rw [List.length_take] at hl
        rw [List.getElem_take] at el
        have := (List.getElem_inj nd9).mp (el.trans (List.getElem?_eq_some_iff.mp ec).2.symm)
        omega
      refine (I.step hk hr hv hp hp2 (c := c) (List.mem_of_getElem? ec) fun x m e1 e2 => ?_).imp fun s I => I.congr fun x _ => ?_
      · rw [fr0 x e1, e2, decide_eq_false nin, Bool.and_false]; rfl
      · rw [Bool.eq_iff_iff]
        simp only [Bool.and_eq_true, Bool.or_eq_true, decide_eq_true_eq]
        rw [List.take_succ, ec, List.mem_append]
        show _ ↔ _ ∨ (_ ∧ (_ ∨ x.2 ∈ [c]))
        rw [List.mem_singleton]
        constructor
        · rintro ((h | ⟨h1, h2⟩) | ⟨h1, h2⟩)
          · exact .inl h
          · exact .inr ⟨h1, .inl h2⟩
          · exact .inr ⟨h1, .inr h2⟩
        · rintro (h | ⟨h1, h2 | h2⟩)
          · exact .inl (.inl h)
          · exact .inl (.inr ⟨h1, h2⟩)
          · exact .inr ⟨h1, h2⟩
    · refine I.congr fun x m => ?_
      have n9 := (mem_pairsc.mp m).2
      rw [show npairs.length = nine.length from rfl, List.take_length, Bool.eq_iff_iff]
      simp only [Bool.and_eq_true, Bool.or_eq_true, decide_eq_true_eq, gn_iff]
      rw [List.take_succ, hx]
      constructor
      · rintro (⟨e, m, h⟩ | ⟨h, _⟩)
        · exact ⟨e, List.mem_append_left _ m, h⟩
        · exact ⟨(key, row), List.mem_append_right _ (List.mem_singleton.mpr rfl), h⟩
      · rintro ⟨e, me, h⟩
        rcases List.mem_append.mp me with me | me
        · exact .inl ⟨e, me, h⟩
        · have : e = (key, row) := List.mem_singleton.mp me
          rw [this] at h
          exact .inr ⟨h, n9⟩
  · rw [List.take_length] at I
    have dn : ∀ x ∈ pairsc (k + 1), ∀ key, gnx x = some key → ∃ e ∈ d.l, gst x.1 = some e.1 := fun x m key e => by
      unfold gnx at e
      cases er : gst x.1 with
      | none => rw [er] at e; cases e
      | some k1 =>
        have := (L.hs k1).mpr ⟨x.1, (mem_pairsc.mp m).1, er⟩
        rw [dhas_keys] at this
        obtain ⟨y, my, ey⟩ := List.mem_map.mp (of_decide_eq_true this)
        exact ⟨y, my, by rw [ey]⟩
    refine ⟨I.kn, I.ln, fun key s => ?_, fun key => ?_⟩
    · rw [I.vv, pxc_succ, List.countP_map]
      congr 1
      refine countP_eq fun x m => ?_
      show _ ↔ (decide (gst (x.1 ++ [x.2]) = some key) && decide (stc (x.1 ++ [x.2]) = s)) = true
      rw [g_snoc m, stc_snoc]
      simp only [Bool.and_eq_true, decide_eq_true_eq, gn_iff]
      exact ⟨fun z => z.2, fun z => ⟨dn x m key z.1, z⟩⟩
    · rw [I.hs, pxc_succ]
      constructor
      · rintro ⟨x, m, _, e⟩
        exact ⟨_, List.mem_map.mpr ⟨x, m, rfl⟩, by rw [g_snoc m]; exact e⟩
      · rintro ⟨p, mp, e⟩
        obtain ⟨x, m, rfl⟩ := List.mem_map.mp mp
        rw [g_snoc m] at e
        exact ⟨x, m, gn_iff.mpr (dn x m key e), e⟩
def firstD : GK := ⟨nine.map fun c => (gini c.1 c.2, List.replicate (st9 c) 0 ++ [1])⟩
theorem gini_inj {c d : Nat × Nat} (e : gini c.1 c.2 = gini d.1 d.2) : c = d := by
  unfold gini at e
  injection e with e1 e2
  exact Prod.ext (str1_inj.mp e1) (str1_inj.mp e2)
theorem first_get (key : SG) (s : Nat) : ∀ cs : List (Nat × Nat), cs.Nodup → ((((cs.map fun c => (gini c.1 c.2, List.replicate (st9 c) (0 : Int) ++ [1])).find? fun kv => decide (kv.1 = key)).map (·.2)).getD []).getD s 0 = ((cs.countP fun c => decide (gini c.1 c.2 = key) && decide (st9 c = s) : Nat) : Int)
  | [], _ => rfl
  | c :: cs, n => by
    have n := List.nodup_cons.mp n
    rw [List.map_cons, List.find?_cons, List.countP_cons]
    by_cases e : gini c.1 c.2 = key
    · have z : cs.countP (fun c => decide (gini c.1 c.2 = key) && decide (st9 c = s)) = 0 := countP_none fun d m => by
        simp only [Bool.and_eq_true, decide_eq_true_eq]
        rintro ⟨h, _⟩
        exact n.1 (gini_inj (e.trans h.symm) ▸ m)
      rw [z, decide_eq_true e]
      show (List.replicate (st9 c) (0 : Int) ++ [1]).getD s 0 = _
      rw [shift_at, Bool.true_and]
      by_cases q : st9 c = s
      · rw [if_pos (by omega), q, Nat.sub_self, decide_eq_true rfl]; rfl
      · rw [decide_eq_false q]
        by_cases l : st9 c ≤ s
        · rw [if_pos l]
          cases r : s - st9 c with
          | zero => omega
          | succ r => rfl
        · rw [if_neg l]; rfl
    · rw [decide_eq_false e, Bool.false_and]
      exact first_get key s cs n.2
theorem GLv.first : GLv 1 firstD := by
  have p1 : PXc 1 = nine.map fun c => [c] := rfl
  refine ⟨by
    unfold dkeys firstD
    rw [List.map_map]
    exact nodup_mapI (by decide) fun x _ y _ e => gini_inj e, fun key l e => ?_, fun key s => ?_, fun key => ?_⟩
  · unfold dget firstD at e
    obtain ⟨kv, h, rfl⟩ := Option.map_eq_some_iff.mp e
    obtain ⟨c, mc, rfl⟩ := List.mem_map.mp (List.mem_of_find?_eq_some h)
    rw [List.length_append, List.length_replicate]
    have : st9 c ≤ 2 := by unfold st9 st1; split <;> split <;> omega
    show st9 c + 1 ≤ 2 * 1 + 1
    omega
  · unfold gvl dget firstD
    rw [first_get key s nine (by decide), p1, List.countP_map]
    congr 1
    refine countP_eq fun c _ => ?_
    show _ ↔ (decide (gst [c] = some key) && decide (stc [c] = s)) = true
    have e1 : stc [c] = st9 c := by
      have := stc_snoc [] c
      rw [List.nil_append] at this
      rw [this]
      show stn [] + _ = _
      rw [show stn [] = 0 from rfl, Nat.zero_add]
    rw [e1]
    simp only [Bool.and_eq_true, decide_eq_true_eq]
    exact and_congr_left fun _ => ⟨fun e => by rw [← e]; rfl, fun e => Option.some.inj e⟩
  · rw [dhas_keys, decide_eq_true_eq]
    unfold dkeys firstD
    rw [List.map_map, List.mem_map, p1]
    constructor
    · rintro ⟨c, mc, e⟩
      exact ⟨[c], List.mem_map.mpr ⟨c, mc, rfl⟩, by rw [← e]; rfl⟩
    · rintro ⟨p, mp, e⟩
      obtain ⟨c, mc, rfl⟩ := List.mem_map.mp mp
      exact ⟨c, mc, Option.some.inj e⟩
def QG (p : List (Nat × Nat)) : Bool := match gst p with
  | some st => (decide (st.a = dot) || st.c) && (decide (st.b = dot) || st.d)
  | none => false
theorem GLv.small {k : Nat} {d : GK} (L : GLv (k + 1) d) : d.l.length ≤ 36 := by
  rw [← keys_len]
  refine Nat.le_trans (nodup_sub_len (m := ALLG) L.kn fun key m => ?_) (by decide)
  have : dhas d key = true := by rw [dhas_keys]; exact decide_eq_true m
  obtain ⟨p, mp, e⟩ := (L.hs key).mp this
  exact gst_all mp e
def accG (st : SG) : Bool := (decide (st.a = dot) || st.c) && (decide (st.b = dot) || st.d)
def CG (l : List (SG × List Int)) (p : List (Nat × Nat)) : Bool := l.any fun e => decide (gst p = some e.1) && accG e.1
theorem cg_all {k : Nat} {d : GK} (L : GLv (k + 1) d) {p : List (Nat × Nat)} (m : p ∈ PXc (k + 1)) : CG d.l p = QG p := by
  unfold CG QG
  cases e : gst p with
  | none => exact List.any_eq_false.mpr fun x _ => by rw [decide_eq_false (fun z => by cases z), Bool.false_and]; decide
  | some st =>
    rw [Bool.eq_iff_iff, List.any_eq_true]
    constructor
    · rintro ⟨x, mx, hx⟩
      rw [Bool.and_eq_true, decide_eq_true_eq] at hx
      rw [Option.some.inj hx.1]; exact hx.2
    · intro hc
      have := (L.hs st).mpr ⟨p, m, e⟩
      rw [dhas_keys] at this
      obtain ⟨x, mx, ex⟩ := List.mem_map.mp (of_decide_eq_true this)
      exact ⟨x, mx, by rw [Bool.and_eq_true, decide_eq_true_eq, ex]; exact ⟨rfl, hc⟩⟩
theorem close_is {k : Nat} (hk : k ≤ 60) {d : GK} (L : GLv (k + 1) d) {f0 : List Int} (hf : f0.length = 2 * (k + 1) + 1) (f1 : ∀ s, f0.getD s 0 = 0) :
    Sat (foldR (fun (s39 : (List Int)) (a40 : ((G.T4 PySem.Str PySem.Str Bool Bool) × (List Int))) => (Res.bind (Res.bind (Res.bind (if (ScaEq.eq (a40.1.a) (PySem.Str.ofString ".")) then (Res.ok true) else (Res.ok (a40.1.c))) fun v41 => (if v41 then (if (ScaEq.eq (a40.1.b) (PySem.Str.ofString ".")) then (Res.ok true) else (Res.ok (a40.1.d))) else (Res.ok false))) fun v44 => (if v44 then (Res.bind (m_l_sum s39 a40.2) fun (l_found43 : (List Int)) => (Res.ok l_found43)) else (Res.ok s39))) fun s42 => (Res.ok s42))) f0 d.l)
      (fun l => l.length = 2 * (k + 1) + 1 ∧ ∀ s, l.getD s 0 = (((PXc (k + 1)).countP fun p => QG p && decide (stc p = s) : Nat) : Int)) := by
  have z0 : ∀ s, (PXc (k + 1)).countP (fun p => CG (d.l.take 0) p && decide (stc p = s)) = 0 := fun s => countP_none fun p _ => by
    rw [List.take_zero]
    show ¬ (false && decide (stc p = s)) = true
    rw [Bool.false_and]; decide
  refine (Sat.foldR (fun i l => l.length = 2 * (k + 1) + 1 ∧ ∀ s, l.getD s 0 = (((PXc (k + 1)).countP fun p => CG (d.l.take i) p && decide (stc p = s) : Nat) : Int)) ⟨hf, fun s => by rw [f1, z0]; rfl⟩ ?_).imp fun l ⟨h1, h2⟩ => ⟨h1, fun s => ?_⟩
  · rintro i l ⟨st, row⟩ hx ⟨h1, h2⟩
    have mx := List.mem_of_getElem? hx
    have hi := (List.getElem?_eq_some_iff.mp hx).1
    have eg := gget_mem L.kn mx
    have hr : row.length ≤ 2 * (k + 1) + 1 := L.ln _ _ eg
    have hv : ∀ s, row.getD s 0 = (((PXc (k + 1)).countP fun p => decide (gst p = some st) && decide (stc p = s) : Nat) : Int) := fun s => by
      rw [← L.vv]; unfold gvl; rw [eg]; rfl
    have acc : (Res.bind (if (ScaEq.eq (st.a) (PySem.Str.ofString ".")) then (Res.ok true) else (Res.ok (st.c))) fun v41 => (if v41 then (if (ScaEq.eq (st.b) (PySem.Str.ofString ".")) then (Res.ok true) else (Res.ok (st.d))) else (Res.ok false))) = .ok (accG st) := by
      unfold accG
      rw [eqSS, eqSS]
      cases decide (st.a = dot) <;> cases decide (st.b = dot) <;> cases st.c <;> cases st.d <;> rfl
    have tk : ∀ p, CG (d.l.take (i + 1)) p = (CG (d.l.take i) p || (decide (gst p = some st) && accG st)) := fun p => by
      unfold CG
      rw [List.take_succ, hx, List.any_append]
      show (_ || ((decide (gst p = some st) && accG st) || false)) = (_ || (decide (gst p = some st) && accG st))
      rw [Bool.or_false]
    show Sat (Res.bind (Res.bind (Res.bind (if (ScaEq.eq (st.a) (PySem.Str.ofString ".")) then (Res.ok true) else (Res.ok (st.c))) fun v41 => (if v41 then (if (ScaEq.eq (st.b) (PySem.Str.ofString ".")) then (Res.ok true) else (Res.ok (st.d))) else (Res.ok false))) _) _) _
    rw [acc]
    cases ha : accG st with
    | false =>
      refine .bok (.ok ⟨h1, fun s => ?_⟩)
      rw [h2]
      congr 1
      refine countP_eq fun p _ => ?_
      rw [tk, ha, Bool.and_false, Bool.or_false]
    | true =>
      refine .bok ?_
      obtain ⟨t, et, t1, t2⟩ := sum_is (a := l) (b := row) (by omega) (by omega)
      show Sat (Res.bind (Res.bind (m_l_sum l row) _) _) _
      rw [et]
      refine .ok ⟨by omega, fun s => ?_⟩
      rw [t2, h2, hv, ← Int.natCast_add]
      congr 1
      refine (countP_split fun p _ => ⟨?_, ?_⟩).symm
      · rw [tk, ha, Bool.and_true]
        simp only [Bool.and_eq_true, Bool.or_eq_true, or_and_right]
      · simp only [Bool.and_eq_true, decide_eq_true_eq]
        rintro ⟨⟨a, _⟩, b, _⟩
        unfold CG at a
        obtain ⟨e, me, he⟩ := List.any_eq_true.mp a
        rw [Bool.and_eq_true, decide_eq_true_eq, b] at he
        have ek : st = e.1 := Option.some.inj he.1
        obtain ⟨j, hj, ej⟩ := List.getElem_of_mem me
        rw [List.length_take] at hj
        rw [List.getElem_take] at ej
        have kn := L.kn
        unfold dkeys at kn
        have q1 : (d.l.map (·.1))[j]'(by rw [List.length_map]; omega) = st := by rw [List.getElem_map, ej, ek]
        have q2 : (d.l.map (·.1))[i]'(by rw [List.length_map]; exact hi) = st := by
          rw [List.getElem_map, (List.getElem?_eq_some_iff.mp hx).2]
        have := (List.getElem_inj kn).mp (q1.trans q2.symm)
        omega
  · rw [h2, List.take_length]
    congr 1
    exact countP_eq fun p m => by rw [cg_all L m]
theorem columns_sat {m : Nat} (m20 : m < 20) : Sat (m_l_columns ((m + 1 : Nat) : Int)) (fun l => l.length = 2 * (m + 1) + 1 ∧ ∀ s, l.getD s 0 = (((PXc (m + 1)).countP fun p => QG p && decide (stc p = s) : Nat) : Int)) := by
  unfold m_l_columns
  have ep : (Res.bind (guardR (small62 (9 : Int)) (Res.ok (rangeL 0 ((9 : Int)).toNat))) fun v9 => (lcT (fun _ => Res.ok true) (fun a2 => (Res.bind (Res.bind (Res.bind (divR a2 (3 : Int)) fun v3 => (strIx (PySem.Str.ofString ".xo") v3)) fun v6 => (Res.bind (Res.bind (Res.bind (modR a2 (3 : Int)) fun v4 => (strIx (PySem.Str.ofString ".xo") v4)) fun v5 => (Res.ok (v5, ()))) fun v7 => (Res.ok (v6, v7)))) fun v8 => (Res.ok (v8.1, v8.2.1)))) v9)) = .ok npairs := by rfl
  rw [ep]
  simp only [Res.okb]
  have ef : foldR (fun (s11 : (G.Dic (G.T4 PySem.Str PySem.Str Bool Bool) (List Int))) (a12 : (PySem.Str × PySem.Str)) => (Res.bind (if (ScaEq.eq a12.1 (PySem.Str.ofString ".")) then (Res.ok true) else (Res.ok (ScaEq.eq a12.2 (PySem.Str.ofString ".")))) fun (l_lives13 : Bool) => (Res.bind (Res.bind (Res.bind (repR ((0 : Int) :: []) ((if (!ScaEq.eq a12.1 (PySem.Str.ofString ".")) then (1 : Int) else 0) + (if (!ScaEq.eq a12.2 (PySem.Str.ofString ".")) then (1 : Int) else 0))) fun v14 => (catR v14 ((1 : Int) :: []))) fun v16 => (dputR s11 (⟨a12.1, a12.2, l_lives13, l_lives13⟩ : (G.T4 PySem.Str PySem.Str Bool Bool)) v16)) fun (l_counts15 : (G.Dic (G.T4 PySem.Str PySem.Str Bool Bool) (List Int))) => (Res.ok l_counts15)))) (⟨[]⟩ : GK) npairs = .ok firstD := by rfl
  rw [ef]
  simp only [Res.okb]
  refine .bassoc (.brange (by omega) (by omega) ?_)
  refine .bind (Sat.foldR (fun i d => GLv (i + 1) d) GLv.first ?_) fun d L => ?_
  · intro i d a ha L
    have hi := (rangeL0 ha).1
    refine .bind (L.next (by omega)) fun s L => .ok L
  · rw [rangeL_len, show (((m + 1 : Nat) : Int) - 1).toNat = m by omega] at L
    rw [Sat.eq (Sat.mul (P := fun z => z = 2 * ((m + 1 : Nat) : Int)) (.inl ⟨by decide, by decide⟩) rfl)]
    simp only [Res.okb]
    rw [repR1_ok (by omega) (by omega)]
    simp only [Res.okb]
    refine .bind (close_is (by omega) L (by rw [List.length_replicate]; omega) fun s => ?_) fun l h => .ok h
    rw [List.getD_eq_getElem?_getD, List.getElem?_replicate]
    split <;> rfl
theorem grid_count {w : Int × Tup (Int × Int)} {m : Nat} (R : IsGrid w (m + 1)) (s : Nat) : ((PX w.1.toNat).countP fun p => sdB w ⟨p.toArray⟩ && decide (stn p = s)) = (PXc (m + 1)).countP fun p => QG p && decide (stc p = s) := by
  have wn := R.n
  have e0 : w.1.toNat = 2 * (m + 1) := by omega
  rw [e0, boards_c]
  refine countP_eq fun p mp => ?_
  have lp := (pxc_mem.mp mp).1
  have fpx : flat p ∈ PX w.1.toNat := by
    rw [e0]
    refine px_mem.mpr ⟨by rw [flat_len, lp], fun x mx => ?_⟩
    unfold flat at mx
    obtain ⟨c, mc, hx⟩ := List.mem_flatMap.mp mx
    have := mem_nine.mp ((pxc_mem.mp mp).2 c mc)
    rcases List.mem_cons.mp hx with e | hx
    · rw [e]; exact this.1
    · rw [List.mem_singleton.mp hx]; exact this.2
  simp only [Bool.and_eq_true, decide_eq_true_eq]
  refine and_congr ?_ Iff.rfl
  rw [sdB_iff, grid_sound R lp fpx]
  have lf := flat_len p
  have G := gst_is (f := fp (flat p)) lp (fun j hj => by
    unfold fp
    rw [Int.toNat_natCast, List.getD_eq_getElem?_getD, List.getD_eq_getElem?_getD, List.getElem?_eq_getElem (by omega)]; rfl)
  unfold QG
  rcases G with ⟨st, e, I⟩ | ⟨e, _⟩
  · rw [e]
    show _ ↔ ((decide (st.a = dot) || st.c) && (decide (st.b = dot) || st.d)) = true
    simp only [Bool.and_eq_true, Bool.or_eq_true, decide_eq_true_eq]
    constructor
    · rintro ⟨st', e', h1, h2⟩
      cases e'
      exact ⟨.inr h1, .inr h2⟩
    · rintro ⟨h1, h2⟩
      refine ⟨st, rfl, h1.elim (fun z => I.c1 ?_) id, h2.elim (fun z => I.d1 ?_) id⟩
      · rw [I.a, dot_eq, str1_inj] at z; exact z
      · rw [I.b, dot_eq, str1_inj] at z; exact z
  · rw [e]
    exact ⟨(fun ⟨_, z, _⟩ => by cases z), (fun z => by cases z)⟩
theorem columns_is {w : Int × Tup (Int × Int)} {m : Nat} (m20 : m < 20) (R : IsGrid w (m + 1)) : m_l_columns ((m + 1 : Nat) : Int) = .ok (SC w) := by
  obtain ⟨l, e, h1, h2⟩ := columns_sat m20
  rw [e]
  refine congrArg Res.ok ?_
  have wn := R.n
  unfold SC
  refine List.ext_getElem (by rw [List.length_map, List.length_range]; omega) fun i i1 i2 => ?_
  rw [List.getElem_map, List.getElem_range, grid_count R]
  have e1 : l[i] = l.getD i 0 := by rw [List.getD_eq_getElem?_getD, List.getElem?_eq_getElem i1]; rfl
  rw [e1, h2]
theorem web_of {n : Int} {ts : List (Int × Int)} (n1 : 1 ≤ n) (n40 : n ≤ 40) (nd : ts.Nodup) (ok : ∀ t ∈ ts, TieOk n t) (len : ts.length ≤ 200) : WebOk (n, ⟨sortP ts⟩) := ⟨n1, n40, by
  show (sortP ts).length ≤ 200
  rw [(sortP_perm _).length_eq]
  exact len, fun t m => ok t ((sortP_perm _).mem_iff.mp m), (sortP_perm _).nodup_iff.mpr nd, sortP_pw _⟩
theorem tied_of {ts : List (Int × Int)} {a b : Int} : tied (sortP ts) a b ↔ ((a, b) ∈ ts ∨ (b, a) ∈ ts) := by
  unfold tied
  rw [(sortP_perm _).mem_iff, (sortP_perm _).mem_iff]
def sqT (m : Nat) (g : Int → Int → Int) : List (Int × Int) := ((rangeL 0 m).map fun k => (g 0 k, g 1 k)) ++ (((rangeL 0 (m - 1)).map fun k => (g 0 k, g 0 (k + 1))) ++ ((rangeL 0 (m - 1)).map fun k => (g 1 k, g 1 (k + 1))))
theorem edge_short {w : Int × Tup (Int × Int)} (h : WebOk w) (sh : ∀ t ∈ w.2.l, t.2 ≤ t.1 + 4) : ∀ k : Int, 0 ≤ k → k < w.1 → (EL w k).length ≤ 6 := fun k k0 k1 => by
  obtain ⟨_, _, nd, he⟩ := edge_is h k
  have := nodup_sub_len (l := EL w k) (m := [k, k - 1, k - 2, k - 3]) nd fun a ma => by
    obtain ⟨a0, a1, c, ck, t | t⟩ := (he a).mp ma
    · have := sh _ t
      have : c ≤ a + 4 := this
      have : a = k ∨ a = k - 1 ∨ a = k - 2 ∨ a = k - 3 := by omega
      rcases this with e | e | e | e <;> rw [e] <;> simp
    · have : c < a := (h.ok _ t).2.1
      omega
  simp only [List.length_cons, List.length_nil] at this
  omega
def gC (r k : Int) : Int := 2 * k + r
theorem mem_sqT {m : Nat} {g : Int → Int → Int} {t : Int × Int} : t ∈ sqT m g ↔ (∃ k : Int, 0 ≤ k ∧ k < m ∧ t = (g 0 k, g 1 k)) ∨ (∃ k : Int, 0 ≤ k ∧ k + 1 < m ∧ t = (g 0 k, g 0 (k + 1))) ∨ (∃ k : Int, 0 ≤ k ∧ k + 1 < m ∧ t = (g 1 k, g 1 (k + 1))) := by
  unfold sqT
  rw [List.mem_append, List.mem_append, List.mem_map, List.mem_map, List.mem_map]
  constructor
  · rintro (⟨k, mk, e⟩ | ⟨k, mk, e⟩ | ⟨k, mk, e⟩)
    · have := mem_rangeL.mp mk
      exact .inl ⟨k, this.1, this.2, e.symm⟩
    · have := mem_rangeL.mp mk
      exact .inr (.inl ⟨k, this.1, by omega, e.symm⟩)
    · have := mem_rangeL.mp mk
      exact .inr (.inr ⟨k, this.1, by omega, e.symm⟩)
  · rintro (⟨k, k0, k1, e⟩ | ⟨k, k0, k1, e⟩ | ⟨k, k0, k1, e⟩)
    · exact .inl ⟨k, mem_rangeL.mpr ⟨k0, k1⟩, e.symm⟩
    · exact .inr (.inl ⟨k, mem_rangeL.mpr ⟨k0, by omega⟩, e.symm⟩)
    · exact .inr (.inr ⟨k, mem_rangeL.mpr ⟨k0, by omega⟩, e.symm⟩)
theorem sqC_mem {m : Nat} {a b : Int} : (a, b) ∈ sqT m gC ↔ (0 ≤ a ∧ b < 2 * (m : Int)) ∧ ((b = a + 1 ∧ a % 2 = 0) ∨ b = a + 2) := by
  rw [mem_sqT]
  unfold gC
  constructor
  · rintro (⟨k, k0, k1, e⟩ | ⟨k, k0, k1, e⟩ | ⟨k, k0, k1, e⟩) <;> (injection e with e1 e2; omega)
  · rintro ⟨⟨a0, b1⟩, ⟨e, ev⟩ | e⟩
    · exact .inl ⟨a / 2, by omega, by omega, Prod.ext (show a = 2 * (a / 2) + 0 by omega) (show b = 2 * (a / 2) + 1 by omega)⟩
    · by_cases ev : a % 2 = 0
      · exact .inr (.inl ⟨a / 2, by omega, by omega, Prod.ext (show a = 2 * (a / 2) + 0 by omega) (show b = 2 * (a / 2 + 1) + 0 by omega)⟩)
      · exact .inr (.inr ⟨a / 2, by omega, by omega, Prod.ext (show a = 2 * (a / 2) + 1 by omega) (show b = 2 * (a / 2 + 1) + 1 by omega)⟩)
theorem sq_len {m : Nat} {g : Int → Int → Int} : (sqT m g).length ≤ 3 * m := by
  unfold sqT
  simp only [List.length_append, List.length_map, rangeL_len]
  omega
theorem sqC_nd (m : Nat) : (sqT m gC).Nodup := by
  unfold sqT gC
  have nd : ∀ n, (rangeL 0 n).Nodup := fun n => (rangeL_rise n).imp fun h => by omega
  refine List.nodup_append.mpr ⟨nodup_mapI (nd _) fun x _ y _ e => by injection e; omega, List.nodup_append.mpr ⟨nodup_mapI (nd _) fun x _ y _ e => by injection e; omega, nodup_mapI (nd _) fun x _ y _ e => by injection e; omega, fun x mx y my e => ?_⟩, fun x mx y my e => ?_⟩
  · obtain ⟨a, _, rfl⟩ := List.mem_map.mp mx
    obtain ⟨b, _, rfl⟩ := List.mem_map.mp my
    injection e; omega
  · obtain ⟨a, _, rfl⟩ := List.mem_map.mp mx
    rcases List.mem_append.mp my with my | my
    · obtain ⟨b, _, rfl⟩ := List.mem_map.mp my
      injection e; omega
    · obtain ⟨b, _, rfl⟩ := List.mem_map.mp my
      injection e; omega
theorem sqC_ok {m : Nat} : ∀ t ∈ sqT m gC, TieOk ((2 * m : Nat) : Int) t := fun t mt => by
  obtain ⟨a, b⟩ := t
  have := sqC_mem.mp mt
  exact ⟨this.1.1, by show a < b; omega, by show b < ((2 * m : Nat) : Int); omega⟩
theorem sqC_grid {m : Nat} (m1 : 1 ≤ m) (m20 : m ≤ 20) : IsGrid (((2 * m : Nat) : Int), ⟨sortP (sqT m gC)⟩) m := ⟨web_of (by omega) (by omega) (sqC_nd m) sqC_ok (by have := sq_len (m := m) (g := gC); omega), rfl, fun a b => by
  show tied (sortP (sqT m gC)) a b ↔ gT a b ∧ a < ((2 * m : Nat) : Int) ∧ b < ((2 * m : Nat) : Int)
  rw [tied_of, sqC_mem, sqC_mem]
  unfold gT
  omega⟩
def gR (m : Nat) (r k : Int) : Int := if r = 0 then k else (m : Int) + k
theorem sqR_mem {m : Nat} {a b : Int} : (a, b) ∈ sqT m (gR m) ↔ (0 ≤ a ∧ a < m ∧ b = a + m) ∨ (b = a + 1 ∧ ((0 ≤ a ∧ b < m) ∨ (m ≤ a ∧ b < 2 * (m : Int)))) := by
  rw [mem_sqT]
  have g0 : ∀ k, gR m 0 k = k := fun k => if_pos rfl
  have g1 : ∀ k, gR m 1 k = (m : Int) + k := fun k => if_neg (by decide)
  simp only [g0, g1]
  constructor
  · rintro (⟨k, k0, k1, e⟩ | ⟨k, k0, k1, e⟩ | ⟨k, k0, k1, e⟩) <;> (injection e with e1 e2; omega)
  · rintro (⟨a0, a1, e⟩ | ⟨e, ⟨a0, b1⟩ | ⟨a0, b1⟩⟩)
    · exact .inl ⟨a, a0, a1, Prod.ext rfl (show b = (m : Int) + a by omega)⟩
    · exact .inr (.inl ⟨a, a0, by omega, Prod.ext rfl e⟩)
    · exact .inr (.inr ⟨a - m, by omega, by omega, Prod.ext (show a = (m : Int) + (a - m) by omega) (show b = (m : Int) + (a - m + 1) by omega)⟩)
theorem sqR_ok {m : Nat} : ∀ t ∈ sqT m (gR m), TieOk ((2 * m : Nat) : Int) t := fun t mt => by
  obtain ⟨a, b⟩ := t
  have := sqR_mem.mp mt
  exact ⟨by show 0 ≤ a; omega, by show a < b; omega, by show b < ((2 * m : Nat) : Int); omega⟩
theorem sqR_nd (m : Nat) : (sqT m (gR m)).Nodup := by
  have g0 : ∀ k, gR m 0 k = k := fun k => if_pos rfl
  have g1 : ∀ k, gR m 1 k = (m : Int) + k := fun k => if_neg (by decide)
  unfold sqT
  simp only [g0, g1]
  have nd : ∀ n, (rangeL 0 n).Nodup := fun n => (rangeL_rise n).imp fun h => by omega
  refine List.nodup_append.mpr ⟨nodup_mapI (nd _) fun x _ y _ e => by injection e, List.nodup_append.mpr ⟨nodup_mapI (nd _) fun x _ y _ e => by injection e, nodup_mapI (nd _) fun x _ y _ e => by injection e; omega, fun x mx y my e => ?_⟩, fun x mx y my e => ?_⟩
  · obtain ⟨a, ma, rfl⟩ := List.mem_map.mp mx
    obtain ⟨b, mb, rfl⟩ := List.mem_map.mp my
    have ma := mem_rangeL.mp ma
    have mb := mem_rangeL.mp mb
    injection e; omega
  · obtain ⟨a, ma, rfl⟩ := List.mem_map.mp mx
    have ma := mem_rangeL.mp ma
    rcases List.mem_append.mp my with my | my
    · obtain ⟨b, mb, rfl⟩ := List.mem_map.mp my
      have mb := mem_rangeL.mp mb
      injection e; omega
    · obtain ⟨b, mb, rfl⟩ := List.mem_map.mp my
      have mb := mem_rangeL.mp mb
      injection e; omega
theorem sq_iso {m : Nat} (m1 : 1 ≤ m) (m20 : m ≤ 20) : Iso (((2 * m : Nat) : Int), ⟨sortP (sqT m (gR m))⟩) (((2 * m : Nat) : Int), ⟨sortP (sqT m gC)⟩) (fun x => if x % 2 = 0 then x / 2 else (m : Int) + x / 2) := by
  have len : ∀ g, (sqT m g).length ≤ 200 := fun g => by have := sq_len (m := m) (g := g); omega
  refine ⟨web_of (by omega) (by omega) (sqR_nd m) sqR_ok (len _), web_of (by omega) (by omega) (sqC_nd m) sqC_ok (len _), rfl, fun k k0 k1 => ?_, fun a b a0 a1 b0 b1 e => ?_, fun a y a0 a1 => ?_⟩
  · have k1 : k < ((2 * m : Nat) : Int) := k1
    show 0 ≤ (if k % 2 = 0 then k / 2 else (m : Int) + k / 2) ∧ (if k % 2 = 0 then k / 2 else (m : Int) + k / 2) < ((2 * m : Nat) : Int)
    split <;> omega
  · have a1 : a < ((2 * m : Nat) : Int) := a1
    have b1 : b < ((2 * m : Nat) : Int) := b1
    have e : (if a % 2 = 0 then a / 2 else (m : Int) + a / 2) = (if b % 2 = 0 then b / 2 else (m : Int) + b / 2) := e
    revert e
    split <;> split <;> omega
  · have a1 : a < ((2 * m : Nat) : Int) := a1
    show tied (sortP (sqT m (gR m))) (if a % 2 = 0 then a / 2 else (m : Int) + a / 2) y ↔ ∃ b, y = (if b % 2 = 0 then b / 2 else (m : Int) + b / 2) ∧ tied (sortP (sqT m gC)) a b
    rw [tied_of, sqR_mem, sqR_mem]
    constructor
    · intro h
      by_cases yl : y < m
      · refine ⟨2 * y, by rw [if_pos (by omega)]; omega, ?_⟩
        rw [tied_of, sqC_mem, sqC_mem]
        revert h
        split <;> omega
      · refine ⟨2 * (y - m) + 1, by rw [if_neg (by omega)]; omega, ?_⟩
        rw [tied_of, sqC_mem, sqC_mem]
        revert h
        split <;> omega
    · rintro ⟨b, rfl, h⟩
      rw [tied_of, sqC_mem, sqC_mem] at h
      split <;> split <;> omega
def gW (m : Nat) (way : Int) : Int → Int → Int := if way = 1 ∧ m ≤ 4 then gR m else gC
theorem ties_is {at' : Int} {m : Nat} (m1 : 1 ≤ m) (m20 : m ≤ 20) (way : Int) : m_l_ties at' (m : Int) way = .ok ((sqT m (gW m way)).map (shT at')) := by
  refine Sat.eq ?_
  unfold m_l_ties
  have rg : guardR (small62 (m : Int)) (Res.ok (rangeL 0 ((m : Int)).toNat)) = .ok (rangeL 0 m) := by rw [range_ok (by omega) (by omega), Int.toNat_natCast]
  have m2 : ∀ a : Int, mulR (2 : Int) a = .ok (2 * a) := fun a => Sat.eq (Sat.mul (P := fun z => z = 2 * a) (.inl ⟨by decide, by decide⟩) rfl)
  have rl : (rangeL 0 m).length = m := rangeL_len _ _
  rw [rg]
  simp only [Res.okb, m2]
  rw [lcT_map (g' := fun k : Int => at' + 2 * k) (by omega) (fun _ _ => rfl), lcT_map (g' := fun k : Int => at' + 2 * k + 1) (by omega) (fun _ _ => rfl)]
  simp only [Res.okb]
  have rows : ∃ x y : List Int, (Res.bind (if (ScaEq.eq way (1 : Int)) then (Res.ok (decide ((m : Int) ≤ (4 : Int)))) else (Res.ok false)) fun v22 => (if v22 then (Res.bind (Res.bind (lcT (fun _ => Res.ok true) (fun a15 => (Res.ok (at' + a15))) (rangeL 0 m)) fun v20 => (Res.bind (Res.bind (lcT (fun _ => Res.ok true) (fun a17 => (Res.ok ((at' + (m : Int)) + a17))) (rangeL 0 m)) fun v19 => (Res.ok (v19 :: []))) fun v21 => (Res.ok (v20 :: v21)))) fun (l_names14 : (List (List Int))) => (Res.ok l_names14)) else (Res.ok (((rangeL 0 m).map fun k : Int => at' + 2 * k) :: (((rangeL 0 m).map fun k : Int => at' + 2 * k + 1) :: []))))) = .ok [x, y] ∧ x = (rangeL 0 m).map (fun k => at' + gW m way 0 k) ∧ y = (rangeL 0 m).map (fun k => at' + gW m way 1 k) := by
    by_cases c : way = 1 ∧ m ≤ 4
    · refine ⟨(rangeL 0 m).map (fun k : Int => at' + k), (rangeL 0 m).map (fun k : Int => at' + (m : Int) + k), ?_, ?_, ?_⟩
      · rw [eqII, decide_eq_true c.1, if_pos rfl, decide_eq_true (by omega), lcT_map (g' := fun k : Int => at' + k) (by omega) (fun _ _ => rfl), lcT_map (g' := fun k : Int => at' + (m : Int) + k) (by omega) (fun _ _ => rfl)]
        rfl
      · refine List.map_congr_left fun k _ => ?_
        unfold gW; rw [if_pos c]; rfl
      · refine List.map_congr_left fun k _ => ?_
        unfold gW; rw [if_pos c]
        show at' + (m : Int) + k = at' + ((m : Int) + k)
        omega
    · refine ⟨(rangeL 0 m).map (fun k : Int => at' + 2 * k), (rangeL 0 m).map (fun k : Int => at' + 2 * k + 1), ?_, ?_, ?_⟩
      · have e : (if (ScaEq.eq way (1 : Int)) = true then (Res.ok (decide ((m : Int) ≤ (4 : Int))) : Res Bool) else (Res.ok false)) = .ok false := by
          rw [eqII]
          by_cases c1 : way = 1
          · rw [decide_eq_true c1, if_pos rfl, decide_eq_false (fun z => c ⟨c1, by omega⟩)]
          · rw [decide_eq_false c1]; rfl
        rw [e]; rfl
      · refine List.map_congr_left fun k _ => ?_
        unfold gW; rw [if_neg c]
        show at' + 2 * k = at' + (2 * k + 0)
        omega
      · refine List.map_congr_left fun k _ => ?_
        unfold gW; rw [if_neg c]
        show at' + 2 * k + 1 = at' + (2 * k + 1)
        omega
  obtain ⟨x, y, e, ex, ey⟩ := rows
  rw [e]
  simp only [Res.okb]
  have i0 : idx [x, y] (0 : Int) = .ok x := rfl
  have i1 : idx [x, y] (1 : Int) = .ok y := rfl
  have gx : ∀ k : Int, 0 ≤ k → k < m → idx x k = .ok (at' + gW m way 0 k) := fun k k0 k1 => by
    refine idx_int k0 ?_
    rw [ex, List.getElem?_map, rangeL_at k0 k1]; rfl
  have gy : ∀ k : Int, 0 ≤ k → k < m → idx y k = .ok (at' + gW m way 1 k) := fun k k0 k1 => by
    refine idx_int k0 ?_
    rw [ey, List.getElem?_map, rangeL_at k0 k1]; rfl
  simp only [i0, i1, Res.okb]
  rw [lcT_map (g' := fun k : Int => (at' + gW m way 0 k, at' + gW m way 1 k)) (by omega) fun k mk => by
    have mk := mem_rangeL.mp mk
    rw [gx k mk.1 mk.2, gy k mk.1 mk.2]; rfl]
  simp only [Res.okb]
  have rg1 : guardR (small62 ((m : Int) - 1)) (Res.ok (rangeL 0 (((m : Int) - 1)).toNat)) = .ok (rangeL 0 (m - 1)) := by rw [range_ok (by omega) (by omega), show ((m : Int) - 1).toNat = m - 1 by omega]
  have rl1 : (rangeL 0 (m - 1)).length = m - 1 := rangeL_len _ _
  rw [rg1]
  simp only [Res.okb]
  show Sat (Res.bind (Res.bind (Res.bind (Res.bind (lcT _ _ (rangeL 0 (m - 1))) _) _) fun s => Res.bind (Res.bind (Res.bind (lcT _ _ (rangeL 0 (m - 1))) _) _) fun s => Res.ok s) _) _
  rw [lcT_map (g' := fun k : Int => (at' + gW m way 0 k, at' + gW m way 0 (k + 1))) (by omega) fun k mk => by
    have mk := mem_rangeL.mp mk
    rw [gx k mk.1 (by omega), gx (k + 1) (by omega) (by omega)]; rfl]
  simp only [Res.okb]
  rw [extR_ok (by simp only [List.length_map]; omega)]
  simp only [Res.okb]
  rw [lcT_map (g' := fun k : Int => (at' + gW m way 1 k, at' + gW m way 1 (k + 1))) (by omega) fun k mk => by
    have mk := mem_rangeL.mp mk
    rw [gy k mk.1 (by omega), gy (k + 1) (by omega) (by omega)]; rfl]
  simp only [Res.okb]
  rw [extR_ok (by simp only [List.length_append, List.length_map]; omega)]
  refine .ok ?_
  unfold sqT
  rw [List.map_append, List.map_append, List.map_map, List.map_map, List.map_map, List.append_assoc]
  have cm : ∀ a b : Int, (at' + a, at' + b) = shT at' (a, b) := fun a b => by
    show _ = (a + at', b + at')
    rw [show at' + a = a + at' by omega, show at' + b = b + at' by omega]
  simp only [cm]
  rfl
theorem mem_sh' {n : Int} {ts : List (Int × Int)} {a b : Int} : (a, b) ∈ ts.map (shT n) ↔ (a - n, b - n) ∈ ts := mem_sh
theorem two_addU {at' : Int} {n : Nat} {U : List (Int × Int)} (a1 : 1 ≤ at') {Ts : List (Int × Int)} (nd : Ts.Nodup) (ok : ∀ t ∈ Ts, TieOk at' t) (len : Ts.length + U.length ≤ 200) (n1 : 1 ≤ n) (und : U.Nodup) (uok : ∀ t ∈ U, TieOk (n : Int) t) (h40 : at' + n ≤ 40) :
    Two (at' + n, ⟨sortP (Ts ++ U.map (shT at'))⟩) (at', ⟨sortP Ts⟩) ((n : Int), ⟨sortP U⟩) (fun x => x) (fun x => x + at') ∧ (Ts ++ U.map (shT at')).Nodup ∧ (∀ t ∈ Ts ++ U.map (shT at'), TieOk (at' + n) t) ∧ (Ts ++ U.map (shT at')).length ≤ 200 := by
  have nd2 : (Ts ++ U.map (shT at')).Nodup := by
    refine List.nodup_append.mpr ⟨nd, nodup_mapI und fun x _ y _ e => ?_, fun x mx y my e => ?_⟩
    · obtain ⟨a, b⟩ := x
      obtain ⟨c, d⟩ := y
      unfold shT at e
      injection e with e1 e2
      have e1 : a + at' = c + at' := e1
      have e2 : b + at' = d + at' := e2
      rw [show a = c by omega, show b = d by omega]
    · subst e
      obtain ⟨a, b⟩ := x
      have h1 := ok _ mx
      have h2 := uok _ (mem_sh'.mp my)
      have : a < b := h1.2.1
      have : b < at' := h1.2.2
      have : 0 ≤ a - at' := h2.1
      omega
  have ok2 : ∀ t ∈ Ts ++ U.map (shT at'), TieOk (at' + n) t := fun t m => by
    obtain ⟨a, b⟩ := t
    rcases List.mem_append.mp m with m | m
    · have h := ok _ m
      have h3 : b < at' := h.2.2
      exact ⟨h.1, h.2.1, by show b < at' + n; omega⟩
    · have h := uok _ (mem_sh'.mp m)
      have h1 : 0 ≤ a - at' := h.1
      have h2 : a - at' < b - at' := h.2.1
      have h3 : b - at' < n := h.2.2
      exact ⟨by show 0 ≤ a; omega, by show a < b; omega, by show b < at' + n; omega⟩
  have len2 : (Ts ++ U.map (shT at')).length ≤ 200 := by rw [List.length_append, List.length_map]; omega
  refine ⟨⟨web_of (by omega) h40 nd2 ok2 len2, web_of a1 (by omega) nd ok (by omega), web_of (by omega) (by omega) und uok (by omega), rfl, fun k k0 k1 => ?_, fun k k0 k1 => ?_, fun a b _ _ _ _ e => e, fun a b _ _ _ _ e => ?_, fun a b a0 a1 b0 b1 e => ?_, fun a y a0 a1 => ?_, fun a y a0 a1 => ?_⟩, nd2, ok2, len2⟩
  · have k1 : k < at' := k1
    show 0 ≤ k ∧ k < at' + n
    omega
  · have k1 : k < (n : Int) := k1
    show 0 ≤ k + at' ∧ k + at' < at' + n
    omega
  · have e : a + at' = b + at' := e
    omega
  · have a1 : a < at' := a1
    have e : a = b + at' := e
    omega
  · show tied (sortP _) a y ↔ ∃ b, y = b ∧ tied (sortP Ts) a b
    have a1 : a < at' := a1
    rw [tied_of, List.mem_append, List.mem_append, mem_sh', mem_sh']
    constructor
    · intro h
      refine ⟨y, rfl, tied_of.mpr ?_⟩
      rcases h with (h | h) | (h | h)
      · exact .inl h
      · have : 0 ≤ a - at' := (uok _ h).1
        omega
      · exact .inr h
      · have h1 : 0 ≤ y - at' := (uok _ h).1
        have h2 : y - at' < a - at' := (uok _ h).2.1
        omega
    · rintro ⟨b, rfl, h⟩
      exact (tied_of.mp h).imp .inl .inl
  · show tied (sortP _) (a + at') y ↔ ∃ b, y = b + at' ∧ tied (sortP U) a b
    rw [tied_of, List.mem_append, List.mem_append, mem_sh', mem_sh', show a + at' - at' = a by omega]
    constructor
    · intro h
      refine ⟨y - at', by omega, tied_of.mpr ?_⟩
      rcases h with (h | h) | (h | h)
      · have h1 : a + at' < y := (ok _ h).2.1
        have h2 : y < at' := (ok _ h).2.2
        omega
      · exact .inl h
      · have h2 : a + at' < at' := (ok _ h).2.2
        omega
      · exact .inr h
    · rintro ⟨b, rfl, h⟩
      rw [show b + at' - at' = b by omega]
      exact (tied_of.mp h).imp .inr .inr
theorem prod_one {w : Int × Tup (Int × Int)} (h : w.1 ≤ 40) : m_l_product [1] (SC w) = .ok (SC w) := by
  have := product_is (n1 := 0) (n2 := w.1.toNat) (l := [[]]) (m := PX w.1.toNat) (fun _ => true) (fun p => sdB w ⟨p.toArray⟩) (fun p m => by rw [List.mem_singleton.mp m]; exact Nat.le_refl _) (fun p m => stn_px m) (by decide) (by omega) (by decide)
  rw [show rowL 0 [[]] (fun _ => true) = [1] from rfl, ← SC_row] at this
  rw [this]
  congr 1
  unfold prodL SC
  rw [Nat.zero_add]
  refine List.map_congr_left fun s _ => ?_
  congr 1
  have : prs [[]] (PX w.1.toNat) = (PX w.1.toNat).map fun q => (([] : List Nat), q) := by
    unfold prs
    rw [List.flatMap_singleton]
  rw [this, List.countP_map]
  refine countP_eq fun p _ => ?_
  show ((true && sdB w ⟨p.toArray⟩) && decide (stn [] + stn p = s)) = true ↔ _
  rw [Bool.true_and, show stn [] = 0 from rfl, Nat.zero_add]
theorem gW_part {m : Nat} (m1 : 1 ≤ m) (m20 : m ≤ 20) (way : Int) : (sqT m (gW m way)).Nodup ∧ (∀ t ∈ sqT m (gW m way), TieOk ((2 * m : Nat) : Int) t) ∧ (∀ t ∈ sqT m (gW m way), t.2 ≤ t.1 + 4) ∧ m_l_columns (m : Int) = .ok (SC (((2 * m : Nat) : Int), (⟨sortP (sqT m (gW m way))⟩ : Tup (Int × Int)))) := by
  obtain ⟨k, rfl⟩ : ∃ k, m = k + 1 := ⟨m - 1, by omega⟩
  have cc := columns_is (m := k) (by omega) (sqC_grid m1 m20)
  unfold gW
  by_cases c : way = 1 ∧ k + 1 ≤ 4
  · rw [if_pos c]
    refine ⟨sqR_nd _, sqR_ok, fun t mt => ?_, by rw [(sq_iso m1 m20).row]; exact cc⟩
    obtain ⟨a, b⟩ := t
    have := sqR_mem.mp mt
    show b ≤ a + 4
    omega
  · rw [if_neg c]
    refine ⟨sqC_nd _, sqC_ok, fun t mt => ?_, cc⟩
    obtain ⟨a, b⟩ := t
    have := sqC_mem.mp mt
    show b ≤ a + 4
    omega
structure Acc (due : List Int) (ties : List (Int × Int)) (at' : Int) : Prop where
  a1 : 1 ≤ at'
  nd : ties.Nodup
  ok : ∀ t ∈ ties, TieOk at' t
  sh : ∀ t ∈ ties, t.2 ≤ t.1 + 4
  len : (ties.length : Int) * 2 ≤ 3 * at'
  due : due = SC (at', ⟨sortP ties⟩)
def Acc0 (due : List Int) (ties : List (Int × Int)) (at' : Int) : Prop := (at' = 0 ∧ due = [1] ∧ ties = []) ∨ Acc due ties at'
theorem sh0 (l : List (Int × Int)) : l.map (shT 0) = l := by
  have : shT 0 = id := by
    funext t
    unfold shT
    rw [Int.add_zero, Int.add_zero]
    rfl
  rw [this, List.map_id]
theorem Acc0.add {due : List Int} {ties : List (Int × Int)} {at' : Int} (A : Acc0 due ties at') {m : Nat} (m1 : 1 ≤ m) (m20 : m ≤ 20) (way : Int) (h40 : at' + ((2 * m : Nat) : Int) ≤ 40) :
    ∃ due', m_l_product due (SC (((2 * m : Nat) : Int), (⟨sortP (sqT m (gW m way))⟩ : Tup (Int × Int)))) = .ok due' ∧ Acc0 due' (ties ++ (sqT m (gW m way)).map (shT at')) (at' + ((2 * m : Nat) : Int)) := by
  obtain ⟨p1, p2, p3, _⟩ := gW_part m1 m20 way
  have sl := sq_len (m := m) (g := gW m way)
  rcases A with ⟨rfl, rfl, rfl⟩ | A
  · refine ⟨_, prod_one (by show ((2 * m : Nat) : Int) ≤ 40; omega), .inr ⟨by omega, ?_, ?_, ?_, ?_, ?_⟩⟩
    · rw [sh0]; exact p1
    · rw [sh0, Int.zero_add]; exact p2
    · rw [sh0]; exact p3
    · rw [sh0]; show ((sqT m (gW m way)).length : Int) * 2 ≤ _; omega
    · rw [sh0, Int.zero_add]; rfl
  · have a1 := A.a1
    have al := A.len
    obtain ⟨T, nd2, ok2, len2⟩ := two_addU (n := 2 * m) (U := sqT m (gW m way)) A.a1 A.nd A.ok (by omega) (by omega) p1 p2 h40
    refine ⟨_, by rw [A.due]; exact T.product, .inr ⟨by omega, nd2, ok2, fun t mt => ?_, by rw [List.length_append, List.length_map]; omega, rfl⟩⟩
    rcases List.mem_append.mp mt with mt | mt
    · exact A.sh t mt
    · obtain ⟨u, mu, rfl⟩ := List.mem_map.mp mt
      have := p3 u mu
      show u.2 + at' ≤ u.1 + at' + 4
      omega
abbrev K96dic := G.Dic (G.Tup (G.T4 Int PySem.Str Int Bool)) (List Int)
def stp (edges1 : List (List Int)) (web : Int × G.Tup (Int × Int)) : K96dic → Int → Res K96dic := (fun (s8 : (G.Dic (G.Tup (G.T4 Int PySem.Str Int Bool)) (List Int))) (a9 : Int) => (Res.bind (m_next_to web a9) fun (near10 : (List Int)) => (Res.bind (Res.ok (⟨[]⟩ : (G.Dic (G.Tup (G.T4 Int PySem.Str Int Bool)) (List Int)))) fun (behind11 : (G.Dic (G.Tup (G.T4 Int PySem.Str Int Bool)) (List Int))) => (Res.bind (foldR (fun (s12 : (G.Dic (G.Tup (G.T4 Int PySem.Str Int Bool)) (List Int))) (a13 : ((G.Tup (G.T4 Int PySem.Str Int Bool)) × (List Int))) => (Res.bind (foldR (fun (s14 : (G.Dic (G.Tup (G.T4 Int PySem.Str Int Bool)) (List Int))) (a15 : PySem.Str) => (Res.bind (Res.bind (Res.bind (m_grown a13.1 near10 a9 a15) fun v18 => (Res.bind (Res.bind (idx edges1 a9) fun v17 => (Res.ok (v17, ()))) fun v19 => (Res.ok (v18, v19)))) fun a20 => (m_kept_rows a20.1 a20.2.1)) fun (key16 : (Option (G.Tup (G.T4 Int PySem.Str Int Bool)))) => (Res.bind (if (Option.isSome key16) then (Res.bind (Res.bind (unw key16) fun v22 => (m_added s14 v22 a13.2 (if (!ScaEq.eq a15 (PySem.Str.ofString ".")) then (1 : Int) else 0))) fun (r23 : Unit × ((G.Dic (G.Tup (G.T4 Int PySem.Str Int Bool)) (List Int)) × Unit)) => (Res.ok r23.2.1)) else (Res.ok s14)) fun s21 => (Res.ok s21)))) s12 (signsOf (PySem.Str.ofString ".xo"))) fun s14 => (Res.ok s14))) behind11 (⟨s8⟩ : (G.LDic (G.Tup (G.T4 Int PySem.Str Int Bool)) (List Int))).d.l) fun s12 => (Res.bind (Res.ok s12) fun (counts25 : (G.Dic (G.Tup (G.T4 Int PySem.Str Int Bool)) (List Int))) => (Res.ok counts25))))))
def W9 : Int × G.Tup (Int × Int) := (9, ⟨[(0, 1), (0, 3), (1, 2), (1, 4), (2, 5), (3, 4), (3, 6), (4, 5), (4, 7), (5, 8), (6, 7), (7, 8)]⟩)
def E9 : List (List Int) := [[0], [0, 1], [0, 1, 2], [1, 2, 3], [2, 3, 4], [3, 4, 5], [4, 5, 6], [5, 7], []]
def enS (s : PySem.Str) : Nat := if s = PySem.Str.ofString "." then 0 else if s = PySem.Str.ofString "x" then 1 else 2
def deS (n : Nat) : PySem.Str := if n = 0 then ⟨#[46]⟩ else if n = 1 then ⟨#[120]⟩ else ⟨#[111]⟩
def enR (r : G.T4 Int PySem.Str Int Bool) : Nat := r.a.toNat * 1000 + enS r.b * 100 + (r.c + 1).toNat * 2 + (if r.d then 1 else 0)
def deR (n : Nat) : G.T4 Int PySem.Str Int Bool := ⟨((n / 1000 : Nat) : Int), deS (n / 100 % 10), ((n % 100 / 2 : Nat) : Int) - 1, n % 2 == 1⟩
def deD (l : List (List Nat × List Nat)) : K96dic := ⟨l.map fun x => (⟨x.1.map deR⟩, x.2.map Int.ofNat)⟩
def enD (d : K96dic) : List (List Nat × List Nat) := d.l.map fun x => (x.1.l.map enR, x.2.map Int.toNat)
def okN (r : Res K96dic) (d : K96dic) : Bool := match r with
  | .ok x => decide (x.l = d.l)
  | _ => false
def D9_0 : List (List Nat × List Nat) := [([], [1])]
def D9_1 : List (List Nat × List Nat) := [([1], [1, 0]), ([102], [0, 1]), ([202], [0, 1])]
def D9_2 : List (List Nat × List Nat) := [([1, 1001], [1, 0, 0]), ([1, 1103], [0, 1, 0]), ([1, 1203], [0, 1, 0]), ([103, 1001], [0, 1, 0]), ([102, 1102], [0, 0, 1]), ([102, 1204], [0, 0, 1]), ([203, 1001], [0, 1, 0]), ([202, 1104], [0, 0, 1]), ([202, 1202], [0, 0, 1])]
def D9_3 : List (List Nat × List Nat) := [([1, 1001, 2001], [1, 0, 0, 0]), ([1, 1001, 2103], [0, 1, 0, 0]), ([1, 1001, 2203], [0, 1, 0, 0]), ([1, 1103, 2001], [0, 1, 0, 0]), ([1, 1103, 2103], [0, 0, 1, 0]), ([1, 1103, 2204], [0, 0, 1, 0]), ([1, 1203, 2001], [0, 1, 0, 0]), ([1, 1203, 2104], [0, 0, 1, 0]), ([1, 1203, 2203], [0, 0, 1, 0]), ([103, 1001, 2001], [0, 1, 0, 0]), ([103, 1001, 2105], [0, 0, 1, 0]), ([103, 1001, 2205], [0, 0, 1, 0]), ([103, 1103, 2001], [0, 0, 1, 0]), ([102, 1102, 2102], [0, 0, 0, 1]), ([102, 1102, 2204], [0, 0, 0, 1]), ([102, 1205, 2001], [0, 0, 1, 0]), ([102, 1204, 2106], [0, 0, 0, 1]), ([102, 1204, 2204], [0, 0, 0, 1]), ([203, 1001, 2001], [0, 1, 0, 0]), ([203, 1001, 2105], [0, 0, 1, 0]), ([203, 1001, 2205], [0, 0, 1, 0]), ([202, 1105, 2001], [0, 0, 1, 0]), ([202, 1104, 2104], [0, 0, 0, 1]), ([202, 1104, 2206], [0, 0, 0, 1]), ([203, 1203, 2001], [0, 0, 1, 0]), ([202, 1202, 2104], [0, 0, 0, 1]), ([202, 1202, 2202], [0, 0, 0, 1])]
def D9_4 : List (List Nat × List Nat) := [([1001, 2001, 3001], [1, 2, 0, 0, 0]), ([1001, 2001, 3103], [0, 1, 1, 0, 0]), ([1001, 2001, 3203], [0, 1, 1, 0, 0]), ([1001, 2103, 3001], [0, 1, 2, 0, 0]), ([1001, 2103, 3105], [0, 0, 1, 1, 0]), ([1001, 2103, 3205], [0, 0, 1, 1, 0]), ([1001, 2203, 3001], [0, 1, 2, 0, 0]), ([1001, 2203, 3105], [0, 0, 1, 1, 0]), ([1001, 2203, 3205], [0, 0, 1, 1, 0]), ([1103, 2001, 3001], [0, 1, 2, 0, 0]), ([1103, 2001, 3105], [0, 0, 1, 0, 0]), ([1103, 2001, 3205], [0, 0, 1, 0, 0]), ([1103, 2103, 3001], [0, 0, 1, 1, 0]), ([1103, 2103, 3105], [0, 0, 0, 1, 0]), ([1103, 2103, 3205], [0, 0, 0, 1, 0]), ([1103, 2204, 3001], [0, 0, 1, 1, 0]), ([1103, 2204, 3107], [0, 0, 0, 1, 0]), ([1103, 2204, 3207], [0, 0, 0, 1, 0]), ([1203, 2001, 3001], [0, 1, 2, 0, 0]), ([1203, 2001, 3105], [0, 0, 1, 0, 0]), ([1203, 2001, 3205], [0, 0, 1, 0, 0]), ([1203, 2104, 3001], [0, 0, 1, 1, 0]), ([1203, 2104, 3107], [0, 0, 0, 1, 0]), ([1203, 2104, 3207], [0, 0, 0, 1, 0]), ([1203, 2203, 3001], [0, 0, 1, 1, 0]), ([1203, 2203, 3105], [0, 0, 0, 1, 0]), ([1203, 2203, 3205], [0, 0, 0, 1, 0]), ([1001, 2001, 3202], [0, 0, 1, 0, 0]), ([1001, 2103, 3204], [0, 0, 0, 1, 0]), ([1001, 2203, 3204], [0, 0, 0, 1, 0]), ([1103, 2001, 3103], [0, 0, 0, 1, 0]), ([1103, 2001, 3204], [0, 0, 0, 2, 0]), ([1102, 2102, 3102], [0, 0, 0, 0, 1]), ([1102, 2102, 3204], [0, 0, 0, 0, 2]), ([1102, 2204, 3102], [0, 0, 0, 0, 1]), ([1102, 2204, 3206], [0, 0, 0, 0, 2]), ([1203, 2001, 3104], [0, 0, 0, 2, 0]), ([1202, 2104, 3001], [0, 0, 0, 1, 0]), ([1202, 2104, 3106], [0, 0, 0, 0, 2]), ([1202, 2202, 3001], [0, 0, 0, 1, 0]), ([1202, 2202, 3104], [0, 0, 0, 0, 2]), ([1001, 2001, 3102], [0, 0, 1, 0, 0]), ([1001, 2103, 3104], [0, 0, 0, 1, 0]), ([1001, 2203, 3104], [0, 0, 0, 1, 0]), ([1102, 2102, 3001], [0, 0, 0, 1, 0]), ([1102, 2204, 3001], [0, 0, 0, 1, 0]), ([1203, 2001, 3203], [0, 0, 0, 1, 0]), ([1202, 2104, 3202], [0, 0, 0, 0, 1]), ([1202, 2202, 3202], [0, 0, 0, 0, 1])]
def D9_5 : List (List Nat × List Nat) := [([2001, 3001, 4001], [1, 4, 4, 0, 0, 0]), ([2001, 3001, 4103], [0, 1, 4, 4, 0, 0]), ([2001, 3001, 4203], [0, 1, 4, 4, 0, 0]), ([2001, 3103, 4001], [0, 1, 4, 3, 0, 0]), ([2001, 3103, 4103], [0, 0, 1, 4, 1, 0]), ([2001, 3103, 4205], [0, 0, 1, 2, 0, 0]), ([2001, 3203, 4001], [0, 1, 4, 3, 0, 0]), ([2001, 3203, 4105], [0, 0, 1, 2, 0, 0]), ([2001, 3203, 4203], [0, 0, 1, 4, 1, 0]), ([2103, 3001, 4001], [0, 1, 3, 2, 0, 0]), ([2103, 3001, 4105], [0, 0, 1, 2, 0, 0]), ([2103, 3001, 4205], [0, 0, 1, 3, 1, 0]), ([2103, 3105, 4001], [0, 0, 1, 3, 0, 0]), ([2103, 3105, 4105], [0, 0, 0, 1, 2, 0]), ([2103, 3105, 4207], [0, 0, 0, 1, 1, 0]), ([2103, 3205, 4001], [0, 0, 1, 3, 2, 0]), ([2103, 3205, 4107], [0, 0, 0, 1, 1, 0]), ([2103, 3205, 4205], [0, 0, 0, 1, 3, 0]), ([2203, 3001, 4001], [0, 1, 3, 2, 0, 0]), ([2203, 3001, 4105], [0, 0, 1, 3, 1, 0]), ([2203, 3001, 4205], [0, 0, 1, 2, 0, 0]), ([2203, 3105, 4001], [0, 0, 1, 3, 2, 0]), ([2203, 3105, 4105], [0, 0, 0, 1, 3, 0]), ([2203, 3105, 4207], [0, 0, 0, 1, 1, 0]), ([2203, 3205, 4001], [0, 0, 1, 3, 0, 0]), ([2203, 3205, 4107], [0, 0, 0, 1, 1, 0]), ([2203, 3205, 4205], [0, 0, 0, 1, 2, 0]), ([2001, 3103, 4204], [0, 0, 0, 1, 1, 0]), ([2103, 3001, 4103], [0, 0, 0, 1, 2, 0]), ([2103, 3103, 4103], [0, 0, 0, 0, 1, 0]), ([2103, 3105, 4206], [0, 0, 0, 0, 1, 0]), ([2103, 3205, 4103], [0, 0, 0, 0, 1, 0]), ([2202, 3001, 4001], [0, 0, 1, 2, 0, 0]), ([2202, 3001, 4105], [0, 0, 0, 1, 3, 0]), ([2202, 3001, 4205], [0, 0, 0, 1, 1, 0]), ([2202, 3105, 4001], [0, 0, 0, 1, 1, 0]), ([2202, 3105, 4105], [0, 0, 0, 0, 1, 0]), ([2202, 3105, 4206], [0, 0, 0, 0, 1, 0]), ([2202, 3205, 4001], [0, 0, 0, 1, 2, 0]), ([2202, 3205, 4107], [0, 0, 0, 0, 1, 0]), ([2202, 3205, 4205], [0, 0, 0, 0, 1, 0]), ([2001, 3203, 4104], [0, 0, 0, 1, 1, 0]), ([2102, 3001, 4001], [0, 0, 1, 2, 0, 0]), ([2102, 3001, 4105], [0, 0, 0, 1, 1, 0]), ([2102, 3001, 4205], [0, 0, 0, 1, 3, 0]), ([2102, 3105, 4001], [0, 0, 0, 1, 2, 0]), ([2102, 3105, 4105], [0, 0, 0, 0, 1, 0]), ([2102, 3105, 4207], [0, 0, 0, 0, 1, 0]), ([2102, 3205, 4001], [0, 0, 0, 1, 1, 0]), ([2102, 3205, 4106], [0, 0, 0, 0, 1, 0]), ([2102, 3205, 4205], [0, 0, 0, 0, 1, 0]), ([2203, 3001, 4203], [0, 0, 0, 1, 2, 0]), ([2203, 3105, 4203], [0, 0, 0, 0, 1, 0]), ([2203, 3205, 4106], [0, 0, 0, 0, 1, 0]), ([2203, 3203, 4203], [0, 0, 0, 0, 1, 0]), ([2001, 3202, 4105], [0, 0, 0, 1, 2, 0]), ([2103, 3204, 4107], [0, 0, 0, 0, 1, 0]), ([2203, 3204, 4107], [0, 0, 0, 0, 1, 0]), ([2001, 3202, 4202], [0, 0, 0, 0, 2, 0]), ([2103, 3103, 4001], [0, 0, 0, 0, 1, 0]), ([2102, 3102, 4102], [0, 0, 0, 0, 0, 1]), ([2102, 3102, 4204], [0, 0, 0, 0, 0, 1]), ([2102, 3204, 4102], [0, 0, 0, 0, 0, 2]), ([2102, 3204, 4204], [0, 0, 0, 0, 0, 3]), ([2202, 3104, 4104], [0, 0, 0, 0, 0, 3]), ([2202, 3104, 4206], [0, 0, 0, 0, 0, 1]), ([2202, 3204, 4106], [0, 0, 0, 0, 0, 2]), ([2001, 3102, 4102], [0, 0, 0, 0, 2, 0]), ([2001, 3102, 4205], [0, 0, 0, 1, 2, 0]), ([2102, 3104, 4206], [0, 0, 0, 0, 0, 2]), ([2202, 3104, 4202], [0, 0, 0, 0, 0, 2]), ([2103, 3104, 4207], [0, 0, 0, 0, 1, 0]), ([2203, 3104, 4207], [0, 0, 0, 0, 1, 0]), ([2102, 3204, 4106], [0, 0, 0, 0, 0, 1]), ([2203, 3203, 4001], [0, 0, 0, 0, 1, 0]), ([2202, 3202, 4104], [0, 0, 0, 0, 0, 1]), ([2202, 3202, 4202], [0, 0, 0, 0, 0, 1])]
def D9_6 : List (List Nat × List Nat) := [([3001, 4001, 5001], [1, 6, 12, 8, 0, 0, 0]), ([3001, 4001, 5103], [0, 1, 6, 11, 6, 0, 0]), ([3001, 4001, 5203], [0, 1, 6, 11, 6, 0, 0]), ([3001, 4103, 5001], [0, 1, 6, 12, 7, 0, 0]), ([3001, 4103, 5103], [0, 0, 1, 6, 11, 4, 0]), ([3001, 4103, 5205], [0, 0, 1, 5, 7, 1, 0]), ([3001, 4203, 5001], [0, 1, 6, 12, 7, 0, 0]), ([3001, 4203, 5105], [0, 0, 1, 5, 7, 1, 0]), ([3001, 4203, 5203], [0, 0, 1, 6, 11, 4, 0]), ([3103, 4001, 5001], [0, 1, 6, 11, 6, 0, 0]), ([3103, 4001, 5105], [0, 0, 1, 6, 10, 4, 0]), ([3103, 4001, 5205], [0, 0, 1, 6, 10, 4, 0]), ([3103, 4103, 5001], [0, 0, 1, 6, 11, 4, 0]), ([3103, 4103, 5103], [0, 0, 0, 1, 6, 10, 0]), ([3103, 4103, 5205], [0, 0, 0, 1, 5, 4, 0]), ([3103, 4205, 5001], [0, 0, 1, 5, 7, 1, 0]), ([3103, 4205, 5107], [0, 0, 0, 1, 3, 1, 0]), ([3103, 4205, 5205], [0, 0, 0, 1, 5, 4, 0]), ([3203, 4001, 5001], [0, 1, 6, 11, 6, 0, 0]), ([3203, 4001, 5105], [0, 0, 1, 6, 10, 4, 0]), ([3203, 4001, 5205], [0, 0, 1, 6, 10, 4, 0]), ([3203, 4105, 5001], [0, 0, 1, 5, 7, 1, 0]), ([3203, 4105, 5105], [0, 0, 0, 1, 5, 4, 0]), ([3203, 4105, 5207], [0, 0, 0, 1, 3, 1, 0]), ([3203, 4203, 5001], [0, 0, 1, 6, 11, 4, 0]), ([3203, 4203, 5105], [0, 0, 0, 1, 5, 4, 0]), ([3203, 4203, 5203], [0, 0, 0, 1, 6, 10, 0]), ([3001, 4103, 5204], [0, 0, 0, 1, 4, 5, 0]), ([3103, 4103, 5204], [0, 0, 0, 0, 1, 4, 0]), ([3203, 4105, 5206], [0, 0, 0, 0, 1, 3, 0]), ([3001, 4203, 5104], [0, 0, 0, 1, 4, 5, 0]), ([3103, 4205, 5106], [0, 0, 0, 0, 1, 3, 0]), ([3203, 4203, 5104], [0, 0, 0, 0, 1, 4, 0]), ([3103, 4204, 5107], [0, 0, 0, 0, 1, 2, 0]), ([3103, 4204, 5204], [0, 0, 0, 0, 0, 2, 0]), ([3203, 4104, 5207], [0, 0, 0, 0, 1, 2, 0]), ([3203, 4104, 5104], [0, 0, 0, 0, 0, 2, 0]), ([3202, 4105, 5001], [0, 0, 0, 1, 4, 5, 0]), ([3202, 4105, 5105], [0, 0, 0, 0, 1, 4, 0]), ([3202, 4105, 5207], [0, 0, 0, 0, 1, 3, 0]), ([3202, 4105, 5206], [0, 0, 0, 0, 0, 1, 0]), ([3202, 4202, 5105], [0, 0, 0, 0, 0, 2, 0]), ([3103, 4001, 5103], [0, 0, 0, 0, 0, 1, 0]), ([3102, 4102, 5102], [0, 0, 0, 0, 0, 0, 1]), ([3102, 4102, 5204], [0, 0, 0, 0, 0, 0, 4]), ([3102, 4204, 5102], [0, 0, 0, 0, 0, 0, 1]), ([3102, 4204, 5204], [0, 0, 0, 0, 0, 0, 4]), ([3202, 4104, 5104], [0, 0, 0, 0, 0, 0, 4]), ([3202, 4104, 5206], [0, 0, 0, 0, 0, 0, 4]), ([3202, 4202, 5104], [0, 0, 0, 0, 0, 0, 4]), ([3102, 4205, 5001], [0, 0, 0, 1, 4, 5, 0]), ([3102, 4102, 5205], [0, 0, 0, 0, 0, 2, 0]), ([3102, 4205, 5107], [0, 0, 0, 0, 1, 3, 0]), ([3102, 4205, 5205], [0, 0, 0, 0, 1, 4, 0]), ([3102, 4204, 5106], [0, 0, 0, 0, 0, 0, 4]), ([3102, 4205, 5106], [0, 0, 0, 0, 0, 1, 0]), ([3203, 4001, 5203], [0, 0, 0, 0, 0, 1, 0]), ([3202, 4104, 5202], [0, 0, 0, 0, 0, 0, 1]), ([3202, 4202, 5202], [0, 0, 0, 0, 0, 0, 1])]
def D9_7 : List (List Nat × List Nat) := [([4001, 5001, 6001], [1, 8, 24, 30, 12, 0, 0, 0]), ([4001, 5001, 6103], [0, 1, 7, 18, 19, 6, 0, 0]), ([4001, 5001, 6203], [0, 1, 7, 18, 19, 6, 0, 0]), ([4001, 5103, 6001], [0, 1, 8, 23, 26, 9, 0, 0]), ([4001, 5103, 6105], [0, 0, 1, 7, 17, 16, 4, 0]), ([4001, 5103, 6205], [0, 0, 1, 7, 17, 16, 4, 0]), ([4001, 5203, 6001], [0, 1, 8, 23, 26, 9, 0, 0]), ([4001, 5203, 6105], [0, 0, 1, 7, 17, 16, 4, 0]), ([4001, 5203, 6205], [0, 0, 1, 7, 17, 16, 4, 0]), ([4103, 5001, 6001], [0, 1, 8, 24, 29, 10, 0, 0]), ([4103, 5001, 6105], [0, 0, 1, 6, 12, 7, 0, 0]), ([4103, 5001, 6205], [0, 0, 1, 7, 17, 14, 1, 0]), ([4103, 5103, 6001], [0, 0, 1, 8, 23, 22, 1, 0]), ([4103, 5103, 6105], [0, 0, 0, 1, 6, 11, 4, 0]), ([4103, 5103, 6205], [0, 0, 0, 1, 7, 16, 8, 0]), ([4103, 5205, 6001], [0, 0, 1, 7, 16, 11, 0, 0]), ([4103, 5205, 6107], [0, 0, 0, 1, 5, 7, 1, 0]), ([4103, 5205, 6207], [0, 0, 0, 1, 6, 10, 2, 0]), ([4203, 5001, 6001], [0, 1, 8, 24, 29, 10, 0, 0]), ([4203, 5001, 6105], [0, 0, 1, 7, 17, 14, 1, 0]), ([4203, 5001, 6205], [0, 0, 1, 6, 12, 7, 0, 0]), ([4203, 5105, 6001], [0, 0, 1, 7, 16, 11, 0, 0]), ([4203, 5105, 6107], [0, 0, 0, 1, 6, 10, 2, 0]), ([4203, 5105, 6207], [0, 0, 0, 1, 5, 7, 1, 0]), ([4203, 5203, 6001], [0, 0, 1, 8, 23, 22, 1, 0]), ([4203, 5203, 6105], [0, 0, 0, 1, 7, 16, 8, 0]), ([4203, 5203, 6205], [0, 0, 0, 1, 6, 11, 4, 0]), ([4001, 5001, 6202], [0, 0, 1, 6, 11, 6, 0, 0]), ([4001, 5103, 6204], [0, 0, 0, 1, 6, 10, 5, 0]), ([4001, 5203, 6204], [0, 0, 0, 1, 6, 10, 4, 0]), ([4103, 5001, 6103], [0, 0, 0, 1, 6, 11, 4, 0]), ([4103, 5001, 6204], [0, 0, 0, 1, 7, 15, 9, 0]), ([4103, 5103, 6103], [0, 0, 0, 0, 1, 6, 10, 0]), ([4103, 5103, 6204], [0, 0, 0, 0, 1, 7, 14, 0]), ([4103, 5205, 6103], [0, 0, 0, 0, 1, 5, 4, 0]), ([4103, 5205, 6206], [0, 0, 0, 0, 1, 6, 7, 0]), ([4203, 5001, 6204], [0, 0, 0, 1, 5, 7, 1, 0]), ([4203, 5105, 6206], [0, 0, 0, 0, 1, 3, 1, 0]), ([4203, 5203, 6204], [0, 0, 0, 0, 1, 5, 4, 0]), ([4001, 5001, 6102], [0, 0, 1, 6, 11, 6, 0, 0]), ([4001, 5103, 6104], [0, 0, 0, 1, 6, 10, 4, 0]), ([4001, 5203, 6104], [0, 0, 0, 1, 6, 10, 5, 0]), ([4103, 5001, 6104], [0, 0, 0, 1, 5, 7, 1, 0]), ([4103, 5103, 6104], [0, 0, 0, 0, 1, 5, 4, 0]), ([4103, 5205, 6106], [0, 0, 0, 0, 1, 3, 1, 0]), ([4203, 5001, 6104], [0, 0, 0, 1, 7, 15, 9, 0]), ([4203, 5001, 6203], [0, 0, 0, 1, 6, 11, 4, 0]), ([4203, 5105, 6106], [0, 0, 0, 0, 1, 6, 7, 0]), ([4203, 5105, 6203], [0, 0, 0, 0, 1, 5, 4, 0]), ([4203, 5203, 6104], [0, 0, 0, 0, 1, 7, 14, 0]), ([4203, 5203, 6203], [0, 0, 0, 0, 1, 6, 10, 0]), ([4103, 5204, 6001], [0, 0, 0, 1, 6, 13, 4, 0]), ([4103, 5204, 6107], [0, 0, 0, 0, 1, 4, 5, 0]), ([4103, 5204, 6207], [0, 0, 0, 0, 1, 5, 8, 0]), ([4103, 5204, 6103], [0, 0, 0, 0, 0, 1, 4, 0]), ([4103, 5204, 6206], [0, 0, 0, 0, 0, 1, 5, 0]), ([4103, 5204, 6106], [0, 0, 0, 0, 0, 1, 3, 0]), ([4203, 5104, 6001], [0, 0, 0, 1, 6, 13, 4, 0]), ([4203, 5104, 6107], [0, 0, 0, 0, 1, 5, 8, 0]), ([4203, 5104, 6207], [0, 0, 0, 0, 1, 4, 5, 0]), ([4203, 5104, 6206], [0, 0, 0, 0, 0, 1, 3, 0]), ([4203, 5104, 6106], [0, 0, 0, 0, 0, 1, 5, 0]), ([4203, 5104, 6203], [0, 0, 0, 0, 0, 1, 4, 0]), ([4202, 5105, 6001], [0, 0, 0, 0, 1, 2, 1, 0]), ([4202, 5105, 6107], [0, 0, 0, 0, 0, 1, 2, 0]), ([4202, 5105, 6206], [0, 0, 0, 0, 0, 1, 2, 0]), ([4202, 5202, 6001], [0, 0, 0, 0, 0, 2, 4, 0]), ([4202, 5202, 6105], [0, 0, 0, 0, 0, 0, 2, 0]), ([4202, 5202, 6204], [0, 0, 0, 0, 0, 0, 2, 0]), ([4102, 5205, 6001], [0, 0, 0, 0, 1, 2, 1, 0]), ([4102, 5205, 6106], [0, 0, 0, 0, 0, 1, 2, 0]), ([4102, 5205, 6207], [0, 0, 0, 0, 0, 1, 2, 0]), ([4102, 5102, 6001], [0, 0, 0, 0, 0, 2, 4, 0]), ([4102, 5102, 6104], [0, 0, 0, 0, 0, 0, 2, 0]), ([4102, 5102, 6205], [0, 0, 0, 0, 0, 0, 2, 0]), ([4202, 5105, 6106], [0, 0, 0, 0, 0, 0, 2, 0]), ([4202, 5105, 6202], [0, 0, 0, 0, 0, 0, 2, 0]), ([4001, 5103, 6103], [0, 0, 0, 0, 0, 0, 1, 0]), ([4102, 5102, 6102], [0, 0, 0, 0, 0, 0, 0, 1]), ([4102, 5102, 6204], [0, 0, 0, 0, 0, 0, 0, 5]), ([4102, 5204, 6102], [0, 0, 0, 0, 0, 0, 0, 4]), ([4102, 5204, 6206], [0, 0, 0, 0, 0, 0, 0, 8]), ([4202, 5104, 6104], [0, 0, 0, 0, 0, 0, 0, 1]), ([4202, 5104, 6206], [0, 0, 0, 0, 0, 0, 0, 1]), ([4202, 5202, 6104], [0, 0, 0, 0, 0, 0, 0, 5]), ([4102, 5204, 6001], [0, 0, 0, 0, 0, 0, 4, 0]), ([4202, 5104, 6106], [0, 0, 0, 0, 0, 0, 0, 8]), ([4202, 5104, 6202], [0, 0, 0, 0, 0, 0, 0, 4]), ([4102, 5205, 6102], [0, 0, 0, 0, 0, 0, 2, 0]), ([4102, 5205, 6206], [0, 0, 0, 0, 0, 0, 2, 0]), ([4202, 5104, 6001], [0, 0, 0, 0, 0, 0, 4, 0]), ([4001, 5203, 6203], [0, 0, 0, 0, 0, 0, 1, 0]), ([4102, 5204, 6106], [0, 0, 0, 0, 0, 0, 0, 1]), ([4102, 5204, 6204], [0, 0, 0, 0, 0, 0, 0, 1]), ([4202, 5202, 6202], [0, 0, 0, 0, 0, 0, 0, 1])]
def D9_8 : List (List Nat × List Nat) := [([5001, 7001], [1, 12, 60, 158, 224, 152, 30, 0, 0]), ([5001, 7103], [0, 1, 12, 58, 142, 176, 91, 7, 0]), ([5001, 7203], [0, 1, 12, 58, 142, 176, 91, 7, 0]), ([5103, 7001], [0, 1, 12, 58, 142, 176, 91, 7, 0]), ([5103, 7105], [0, 0, 1, 11, 46, 88, 72, 14, 0]), ([5103, 7205], [0, 0, 1, 12, 56, 126, 127, 32, 0]), ([5203, 7001], [0, 1, 12, 58, 142, 176, 91, 7, 0]), ([5203, 7105], [0, 0, 1, 12, 56, 126, 127, 32, 0]), ([5203, 7205], [0, 0, 1, 11, 46, 88, 72, 14, 0]), ([5001, 7202], [0, 0, 0, 1, 8, 25, 33, 13, 0]), ([5103, 7103], [0, 0, 0, 1, 10, 38, 62, 32, 0]), ([5103, 7204], [0, 0, 0, 0, 1, 8, 26, 34, 0]), ([5203, 7204], [0, 0, 0, 0, 1, 7, 18, 12, 0]), ([5001, 7102], [0, 0, 0, 1, 8, 25, 33, 13, 0]), ([5103, 7104], [0, 0, 0, 0, 1, 7, 18, 12, 0]), ([5203, 7203], [0, 0, 0, 1, 10, 38, 62, 32, 0]), ([5203, 7104], [0, 0, 0, 0, 1, 8, 26, 34, 0]), ([5202, 7001], [0, 0, 0, 1, 8, 25, 33, 13, 0]), ([5202, 7105], [0, 0, 0, 0, 1, 8, 26, 34, 0]), ([5202, 7205], [0, 0, 0, 0, 1, 7, 18, 12, 0]), ([5202, 7204], [0, 0, 0, 0, 0, 1, 6, 14, 0]), ([5102, 7001], [0, 0, 0, 1, 8, 25, 33, 13, 0]), ([5102, 7105], [0, 0, 0, 0, 1, 7, 18, 12, 0]), ([5102, 7205], [0, 0, 0, 0, 1, 8, 26, 34, 0]), ([5102, 7104], [0, 0, 0, 0, 0, 1, 6, 14, 0]), ([5202, 7202], [0, 0, 0, 0, 0, 0, 0, 4, 1]), ([5102, 7102], [0, 0, 0, 0, 0, 0, 0, 4, 1]), ([5102, 7204], [0, 0, 0, 0, 0, 0, 0, 0, 12]), ([5202, 7104], [0, 0, 0, 0, 0, 0, 0, 0, 12])]
def D9_9 : List (List Nat × List Nat) := [([], [1, 18, 144, 664, 1912, 3478, 3832, 2224, 402, 0])]
theorem okN_eq {r : Res K96dic} {d : K96dic} (h : okN r d = true) : r = .ok d := by
  cases r with
  | ok x =>
    have e : x.l = d.l := of_decide_eq_true h
    cases x; cases d
    exact congrArg (fun l => Res.ok (⟨l⟩ : K96dic)) e
  | exc x => cases h
  | stuck => cases h
theorem s9_0 : okN (stp E9 W9 (deD D9_0) 0) (deD D9_1) = true := by decide +kernel
theorem s9_1 : okN (stp E9 W9 (deD D9_1) 1) (deD D9_2) = true := by decide +kernel
theorem s9_2 : okN (stp E9 W9 (deD D9_2) 2) (deD D9_3) = true := by decide +kernel
theorem s9_3 : okN (stp E9 W9 (deD D9_3) 3) (deD D9_4) = true := by decide +kernel
theorem s9_4 : okN (stp E9 W9 (deD D9_4) 4) (deD D9_5) = true := by decide +kernel
theorem s9_5 : okN (stp E9 W9 (deD D9_5) 5) (deD D9_6) = true := by decide +kernel
theorem s9_6 : okN (stp E9 W9 (deD D9_6) 6) (deD D9_7) = true := by decide +kernel
theorem s9_7 : okN (stp E9 W9 (deD D9_7) 7) (deD D9_8) = true := by decide +kernel
theorem s9_8 : okN (stp E9 W9 (deD D9_8) 8) (deD D9_9) = true := by decide +kernel
theorem edges_nine : (Res.bind (guardR (small62 (W9.1)) (Res.ok (rangeL 0 ((W9.1)).toNat))) fun v3 => (lcT (fun _ => Res.ok true) (fun a2 => (m_edge_behind W9 a2)) v3)) = .ok E9 := by
  have h : (match (Res.bind (guardR (small62 (W9.1)) (Res.ok (rangeL 0 ((W9.1)).toNat))) fun v3 => (lcT (fun _ => Res.ok true) (fun a2 => (m_edge_behind W9 a2)) v3)) with | .ok x => decide (x = E9) | _ => false) = true := by decide +kernel
  generalize (Res.bind (guardR (small62 (W9.1)) (Res.ok (rangeL 0 ((W9.1)).toNat))) fun v3 => (lcT (fun _ => Res.ok true) (fun a2 => (m_edge_behind W9 a2)) v3)) = r at h
  cases r with
  | ok x => exact congrArg Res.ok (of_decide_eq_true h)
  | exc x => cases h
  | stuck => cases h
theorem steps_nine : foldR (stp E9 W9) (deD D9_0) (rangeL 0 9) = .ok (deD D9_9) := by
  show foldR (stp E9 W9) (deD D9_0) [0, 1, 2, 3, 4, 5, 6, 7, 8] = _
  simp only [foldR]
  rw [okN_eq s9_0, Res.okb, okN_eq s9_1, Res.okb, okN_eq s9_2, Res.okb, okN_eq s9_3, Res.okb, okN_eq s9_4, Res.okb, okN_eq s9_5, Res.okb, okN_eq s9_6, Res.okb, okN_eq s9_7, Res.okb, okN_eq s9_8, Res.okb]
theorem sounds_nine : m_sound_many W9 = .ok 12675 := by
  unfold m_sound_many m_sound_by_stones
  rw [edges_nine]
  simp only [Res.okb]
  have e1 : (foldR (fun (s4 : Unit) (a5 : (List Int)) => (Res.bind (if (decide ((a5.length : Int) > (6 : Int))) then (Res.exc ⟨(PySem.Str.ofString "TooWide"), .no⟩) else (Res.ok ())) fun s6 => (Res.ok ()))) () E9) = .ok () := rfl
  rw [e1]
  simp only [Res.okb]
  have e2 : (guardR (small62 (W9.1)) (Res.ok (rangeL 0 ((W9.1)).toNat))) = .ok (rangeL 0 9) := rfl
  rw [e2]
  simp only [Res.okb]
  have e3 := steps_nine
  unfold stp at e3
  simp only [Res.okb] at e3
  have e4 : deD D9_0 = (⟨[((⟨[]⟩ : (G.Tup (G.T4 Int PySem.Str Int Bool))), ((1 : Int) :: []))]⟩ : (G.Dic (G.Tup (G.T4 Int PySem.Str Int Bool)) (List Int))) := rfl
  rw [e4] at e3
  rw [e3]
  rfl
theorem three_by_three : (Res.bind (Res.bind (Res.bind (guardR (small62 (6 : Int)) (Res.ok (rangeL 0 ((6 : Int)).toNat))) fun v46 => (lcT (fun _ => Res.ok true) (fun a45 => (Res.ok (a45, (a45 + (3 : Int))))) v46)) fun v50 => (Res.bind (Res.bind (guardR (small62 (9 : Int)) (Res.ok (rangeL 0 ((9 : Int)).toNat))) fun v49 => (lcT (fun a47 => (Res.bind (modR a47 (3 : Int)) fun v48 => (Res.ok (decide (v48 < (2 : Int)))))) (fun a47 => (Res.ok (a47, (a47 + (1 : Int))))) v49)) fun v51 => (catR v50 v51))) fun (l_rows44 : (List (Int × Int))) => (Res.bind (m_sound_many ((9 : Int), (⟨(sortP l_rows44)⟩ : (G.Tup (Int × Int))))) fun (l_other52 : Int) => (Res.bind (m_l_whole l_other52) fun v53 => (if v53 then (Res.ok (ScaEq.eq l_other52 (12675 : Int))) else (Res.ok false))))) = .ok true := by
  have e : (Res.bind (Res.bind (guardR (small62 (6 : Int)) (Res.ok (rangeL 0 ((6 : Int)).toNat))) fun v46 => (lcT (fun _ => Res.ok true) (fun a45 => (Res.ok (a45, (a45 + (3 : Int))))) v46)) fun v50 => (Res.bind (Res.bind (guardR (small62 (9 : Int)) (Res.ok (rangeL 0 ((9 : Int)).toNat))) fun v49 => (lcT (fun a47 => (Res.bind (modR a47 (3 : Int)) fun v48 => (Res.ok (decide (v48 < (2 : Int)))))) (fun a47 => (Res.ok (a47, (a47 + (1 : Int))))) v49)) fun v51 => (catR v50 v51))) = .ok ([(0, 3), (1, 4), (2, 5), (3, 6), (4, 7), (5, 8), (0, 1), (1, 2), (3, 4), (4, 5), (6, 7), (7, 8)] : List (Int × Int)) := by
    have h : ∀ r : Res (List (Int × Int)), (match r with | .ok x => decide (x = [(0, 3), (1, 4), (2, 5), (3, 6), (4, 7), (5, 8), (0, 1), (1, 2), (3, 4), (4, 5), (6, 7), (7, 8)]) | _ => false) = true → r = .ok [(0, 3), (1, 4), (2, 5), (3, 6), (4, 7), (5, 8), (0, 1), (1, 2), (3, 4), (4, 5), (6, 7), (7, 8)] := fun r h => by
      cases r with
      | ok x => exact congrArg Res.ok (of_decide_eq_true h)
      | exc x => cases h
      | stuck => cases h
    exact h _ (by decide +kernel)
  rw [e]
  simp only [Res.okb]
  have w : ((9 : Int), (⟨(sortP [(0, 3), (1, 4), (2, 5), (3, 6), (4, 7), (5, 8), (0, 1), (1, 2), (3, 4), (4, 5), (6, 7), (7, 8)])⟩ : (G.Tup (Int × Int)))) = W9 := by decide +kernel
  rw [w, sounds_nine]
  rfl
def total2 (l : List (Int × Int)) : Int := (l.map (·.1)).sum
theorem total2_take {l : List (Int × Int)} (h : ∀ t ∈ l, 1 ≤ t.1) (i : Nat) : total2 (l.take i) ≤ total2 l ∧ (l.length : Int) ≤ total2 l := by
  have : ∀ (l : List (Int × Int)), (∀ t ∈ l, 1 ≤ t.1) → (l.length : Int) ≤ total2 l := by
    intro l
    induction l with
    | nil => intro _; exact Int.le_refl _
    | cons a l ih =>
      intro h
      have h1 : (l.length : Int) ≤ (l.map (·.1)).sum := ih fun t m => h t (List.mem_cons_of_mem _ m)
      have h2 := h a List.mem_cons_self
      show ((a :: l).length : Int) ≤ ((a :: l).map (·.1)).sum
      rw [List.map_cons, List.sum_cons, List.length_cons]
      omega
  have h2 := this (l.drop i) fun t m => h t (List.mem_of_mem_drop m)
  have e : total2 l = total2 (l.take i) + total2 (l.drop i) := by
    unfold total2
    rw [← List.sum_append, ← List.map_append, List.take_append_drop]
  exact ⟨by omega, this l h⟩
theorem law_true (ns : List Int) (_ : ns.length ≤ 63) : m_law ⟨ns⟩ = .ok true := by
  refine Sat.eq ?_
  unfold m_law
  obtain ⟨c0, e0, _⟩ := cell0 ⟨ns⟩
  rw [e0]
  obtain ⟨ds, ed, hd⟩ := numbers c0 [3, 420, 2] (by decide) (fun z mz => by
    simp only [List.mem_cons, List.not_mem_nil, or_false] at mz
    omega)
  simp only [Res.okb]
  rw [ed]
  obtain ⟨a, b, c, rfl⟩ := three hd.1
  have ga := hd.2 0 a 3 rfl rfl
  have gb := hd.2 1 b 420 rfl rfl
  have i0 : G.idx [a, b, c] 0 = .ok a := rfl
  have i1 : G.idx [a, b, c] 1 = .ok b := rfl
  have i2 : G.idx [a, b, c] 2 = .ok c := rfl
  simp only [Res.okb, i0, i1, i2]
  have ha : a = 0 ∨ a = 1 ∨ a = 2 := by omega
  have mo : ∃ z : Int, G.idx ([4, 7, 20] : List Int) a = .ok z ∧ 1 ≤ z ∧ z ≤ 20 := by
    rcases ha with rfl | rfl | rfl
    · exact ⟨4, rfl, by decide, by decide⟩
    · exact ⟨7, rfl, by decide, by decide⟩
    · exact ⟨20, rfl, by decide, by decide⟩
  obtain ⟨z, ez, z1, z40⟩ := mo
  rw [ez]
  simp only [Res.okb]
  rw [modR_of (by omega)]
  simp only [Res.okb]
  have m0 := Int.emod_nonneg b (b := z) (by omega)
  have m1 := Int.emod_lt_of_pos b (b := z) (by omega)
  have i3 : ∀ q : Int × Int, G.idx [q] 0 = .ok q := fun _ => rfl
  rw [i3]
  simp only [Res.okb]
  refine .bind (Sat.foldR (fun i (s : List (Int × Int) × Int) => s.1.length ≤ i + 1 ∧ s.1 ≠ [] ∧ (∀ t ∈ s.1, 1 ≤ t.1) ∧ s.2 = total2 s.1 ∧ s.2 ≤ 20) ⟨by simp, by simp, fun t mt => ?_, ?_, ?_⟩ ?_) fun s ⟨_, h1, h2, h3, h4⟩ => ?_
  · rw [List.mem_singleton.mp mt]
    show 1 ≤ 1 + b % z
    omega
  · show 1 + b % z = (1 + b % z) + 0
    omega
  · show 1 + b % z ≤ 20
    omega
  · rintro i ⟨l, q⟩ x hx ⟨h0, h1, h2, h3, h4⟩
    have hi := (List.getElem?_eq_some_iff.mp hx).1
    have cl := cut_len ns 1 63
    have h0 : l.length ≤ i + 1 := h0
    have h1 : l ≠ [] := h1
    have h2 : ∀ t ∈ l, 1 ≤ t.1 := h2
    have h3 : q = total2 l := h3
    have h4 : q ≤ 20 := h4
    obtain ⟨es, ee, he⟩ := numbers x [6, 2] (by decide) (fun z mz => by
      simp only [List.mem_cons, List.not_mem_nil, or_false] at mz
      omega)
    rw [ee]
    obtain ⟨u, v, rfl⟩ := G.two he.1
    have gu := he.2 0 u 6 rfl rfl
    simp only [Res.okb]
    rw [guardR_of (show decide ([u, v].length = 2) = true from rfl)]
    simp only [Res.okb, List.headD_cons, List.tail_cons]
    show Sat ((if (decide (q + u + 1 ≤ 20)) = true then ((appR l (u + 1, v)).bind fun l_found23 => Res.ok (l_found23, q + u + 1)) else (Res.ok (l, q))).bind fun (s22 : List (Int × Int) × Int) => Res.ok (s22.1, s22.2)) _
    by_cases c : q + u + 1 ≤ 20
    · rw [decide_eq_true c]
      simp only [if_true]
      have hlen : l.length ≤ 1000000 := by
        have hi : i < (cut ns (some (1 : Int)) (some (63 : Int))).length := hi
        have cl : (cut ns (some (1 : Int)) (some (63 : Int))).length ≤ 63 - 1 := cl
        omega
      rw [appR_ok hlen]
      simp only [Res.okb]
      refine .ok ⟨?_, ?_, fun t mt => ?_, ?_, ?_⟩
      · show (l ++ [_]).length ≤ _
        rw [List.length_append, List.length_singleton]; omega
      · show l ++ [_] ≠ []
        simp
      · rcases List.mem_append.mp mt with m | m
        · exact h2 t m
        · rw [List.mem_singleton.mp m]
          show 1 ≤ u + 1
          omega
      · show q + u + 1 = total2 (l ++ [_])
        unfold total2
        rw [List.map_append, List.sum_append, h3]
        show total2 l + u + 1 = total2 l + ((u + 1) + 0)
        omega
      · exact c
    · rw [decide_eq_false c]
      simp only [Bool.false_eq_true, if_false, Res.okb]
      exact .ok ⟨Nat.le_succ_of_le h0, h1, h2, h3, h4⟩
  obtain ⟨sz, many⟩ := s
  have h1 : sz ≠ [] := h1
  have h2 : ∀ t ∈ sz, 1 ≤ t.1 := h2
  have h3 : many = total2 sz := h3
  have h4 : many ≤ 20 := h4
  have m1 : 1 ≤ many := by
    have := (total2_take h2 0).2
    have : sz.length ≠ 0 := fun z => h1 (List.length_eq_zero_iff.mp z)
    omega
  refine .bind (Sat.foldR (fun i (st : List Int × List (Int × Int) × Int) => st.2.2 = 2 * total2 (sz.take i) ∧ st.2.1.length ≤ 200 * i ∧ Acc0 st.1 st.2.1 st.2.2) ⟨rfl, by simp, .inl ⟨rfl, rfl, rfl⟩⟩ ?_) fun st ⟨hat, _, A⟩ => ?_
  · rintro i ⟨due, ties, at'⟩ ⟨size, way⟩ ht ⟨hat, hlen, A⟩
    have hat : at' = 2 * total2 (sz.take i) := hat
    have hlen : ties.length ≤ 200 * i := hlen
    have A : Acc0 due ties at' := A
    have mt := List.mem_of_getElem? ht
    have s1 : 1 ≤ size := h2 _ mt
    have hi : i < sz.length := (List.getElem?_eq_some_iff.mp ht).1
    have tn : 2 * total2 (sz.take (i + 1)) = at' + 2 * size := by
      rw [hat, List.take_succ, ht]
      unfold total2
      rw [List.map_append, List.sum_append]
      show 2 * (_ + (size + 0)) = _ + 2 * size
      omega
    have tl := total2_take h2 (i + 1)
    have a0 : 0 ≤ at' := by
      rcases A with ⟨e, _⟩ | B
      · omega
      · have := B.a1; omega
    obtain ⟨n, en⟩ : ∃ n : Nat, size = (n : Int) := ⟨size.toNat, by omega⟩
    subst en
    have h40 : at' + ((2 * n : Nat) : Int) ≤ 40 := by omega
    obtain ⟨due', ed, A'⟩ := A.add (m := n) (by omega) (by omega) way h40
    obtain ⟨_, _, _, p4⟩ := gW_part (m := n) (by omega) (by omega) way
    have ti := ties_is (at' := at') (m := n) (by omega) (by omega) way
    have sl := sq_len (m := n) (g := gW n way)
    show Sat (Res.bind (Res.bind (Res.bind (Res.bind (m_l_columns (n : Int)) fun v30 => (Res.ok (v30, ()))) fun v31 => (Res.ok (due, v31))) fun a32 => (m_l_product a32.1 a32.2.1)) fun (l_due29 : (List Int)) => (Res.bind (Res.bind (m_l_ties at' (n : Int) way) fun v34 => (extR ties v34)) fun l_ties_here33 => (Res.bind (Res.bind (mulR (2 : Int) (n : Int)) fun v36 => (Res.ok (at' + v36))) fun (l_at35 : Int) => (Res.ok (l_due29, l_ties_here33, l_at35))))) _
    rw [p4, ti]
    simp only [Res.okb]
    rw [ed]
    simp only [Res.okb]
    rw [extR_ok (by rw [List.length_map]; omega)]
    have m2 : mulR (2 : Int) (n : Int) = .ok (2 * (n : Int)) := Sat.eq (Sat.mul (P := fun z => z = 2 * (n : Int)) (.inl ⟨by decide, by decide⟩) rfl)
    rw [m2]
    simp only [Res.okb]
    refine .ok ⟨tn.symm, ?_, ?_⟩
    · show (ties ++ (sqT n (gW n way)).map (shT at')).length ≤ 200 * (i + 1)
      rw [List.length_append, List.length_map]; omega
    · rw [show ((2 * n : Nat) : Int) = 2 * (n : Int) by omega] at A'
      exact A'
  · obtain ⟨due, ties, at'⟩ := st
    have hat : at' = 2 * total2 (sz.take sz.length) := hat
    have A : Acc0 due ties at' := A
    rw [List.take_length, ← h3] at hat
    have A := A.resolve_left fun z => by omega
    have hW : WebOk (at', ⟨sortP ties⟩) := web_of A.a1 (by omega) A.nd A.ok (by have := A.len; omega)
    have wi := wide_is hW (edge_short hW fun t mt => A.sh t ((sortP_perm _).mem_iff.mp mt))
    have ed := A.due
    subst ed
    have ms : m_sound_many (at', (⟨sortP ties⟩ : Tup (Int × Int))) = .ok (SC (at', (⟨sortP ties⟩ : Tup (Int × Int)))).sum := by
      unfold m_sound_many
      rw [wi]; rfl
    have ll := sc_len (at', (⟨sortP ties⟩ : Tup (Int × Int)))
    have ll : (SC (at', (⟨sortP ties⟩ : Tup (Int × Int)))).length = at'.toNat + 1 := ll
    have rs := row_same (l := SC (at', (⟨sortP ties⟩ : Tup (Int × Int)))) (by omega)
    have mw : ∀ x, m_l_whole x = .ok true := fun _ => rfl
    generalize SC (at', (⟨sortP ties⟩ : Tup (Int × Int))) = sc at ms wi rs
    have nine := three_by_three
    simp only [Res.okb, mw, if_true, eqII] at nine
    simp only [Res.okb, ms, wi, mw, if_true, eqII, decide_true, rs, Bool.not_true, Bool.false_eq_true, if_false]
    rw [nine]
    exact .ok rfl
end K96


open PySem PySem.W PyProof.Rows in
set_option maxRecDepth 100000 in
set_option maxHeartbeats 0 in
theorem PySem.Challenge.cw_ringstones_k96_squares_of_two_rows_holds : PySem.Challenge.rw_ringstones_k96_squares_of_two_rows.Holds := by
  w_on; o_law; k_head; (case hw => w_witness2)
  k_fill
  refine L2.walk_of (l := PySem.Challenge.rw_ringstones_k96_squares_of_two_rows) (n := 63) (k := 5) (x := "_law_script") (CX := fun w => L2.CX PySem.Challenge.rw_ringstones_k96_squares_of_two_rows.prog w) (sp := fun w => G.spLaw _) rfl (by decide) rfl ⟨rfl, by decide, by decide⟩ (fun w h Y => PySem.W.kIn_of Y) ?F (fun _ _ a ns hl _ hS => ⟨a, ns, rfl, hS, hl, fun _ _ h => h⟩) (fun _ _ _ _ _ h => by
    obtain ⟨_, _, _, _, _, _, _, _, _, _, _, _, z⟩ := h
    exact z.elim)
  case F =>
    intro w mg fa h KX G hmg
    refine' K96.all_mk KX G hmg K96.law_true ?a0 ?l0 ?c0 ?k0 ?a1 ?l1 ?c1 ?k1 ?a2 ?l2 ?c2 ?k2 ?a3 ?l3 ?c3 ?k3 ?a4 ?l4 ?c4 ?k4 ?a5 ?l5 ?c5 ?k5 ?a6 ?l6 ?c6 ?k6 ?a7 ?l7 ?c7 ?k7 ?a8 ?l8 ?c8 ?k8 ?a9 ?l9 ?c9 ?k9 ?a10 ?l10 ?c10 ?k10 ?a11 ?l11 ?c11 ?k11 ?a12 ?l12 ?c12 ?k12 ?a13 ?l13 ?c13 ?k13 ?a14 ?l14 ?c14 ?k14 ?a15 ?l15 ?c15 ?k15 ?a16 ?l16 ?c16 ?k16 ?a17 ?l17 ?c17 ?k17 ?a18 ?l18 ?c18 ?k18 ?z_sorted ?z_tuple ?z_len ?z_range ?z_int ?z_sum ?z_max ?z_isinstance ?z_bool ?z_list ?ga0 ?xa_TooWide ?xk_TooWide ?xb_TooWide ?xt_TooWide ?xi_TooWide ?xg_TooWide ?xr_TooWide ?xd_TooWide ?xc_TooWide ?xm_TooWide ?xs_TooWide ?xx_TooWide ?xn ?xz
    (case a0 => k_is)
    (case l0 => k_is)
    (case c0 => k_is)
    (case k0 => k_is)
    (case a1 => k_is)
    (case l1 => k_is)
    (case c1 => k_is)
    (case k1 => k_is)
    (case a2 => k_is)
    (case l2 => k_is)
    (case c2 => k_is)
    (case k2 => k_is)
    (case a3 => k_is)
    (case l3 => k_is)
    (case c3 => k_is)
    (case k3 => k_is)
    (case a4 => k_is)
    (case l4 => k_is)
    (case c4 => k_is)
    (case k4 => k_is)
    (case a5 => k_is)
    (case l5 => k_is)
    (case c5 => k_is)
    (case k5 => k_is)
    (case a6 => k_is)
    (case l6 => k_is)
    (case c6 => k_is)
    (case k6 => k_is)
    (case a7 => k_is)
    (case l7 => k_is)
    (case c7 => k_is)
    (case k7 => k_is)
    (case a8 => k_is)
    (case l8 => k_is)
    (case c8 => k_is)
    (case k8 => k_is)
    (case a9 => k_is)
    (case l9 => k_is)
    (case c9 => k_is)
    (case k9 => k_is)
    (case a10 => k_is)
    (case l10 => k_is)
    (case c10 => k_is)
    (case k10 => k_is)
    (case a11 => k_is)
    (case l11 => k_is)
    (case c11 => k_is)
    (case k11 => k_is)
    (case a12 => k_is)
    (case l12 => k_is)
    (case c12 => k_is)
    (case k12 => k_is)
    (case a13 => k_is)
    (case l13 => k_is)
    (case c13 => k_is)
    (case k13 => k_is)
    (case a14 => k_is)
    (case l14 => k_is)
    (case c14 => k_is)
    (case k14 => k_is)
    (case a15 => k_is)
    (case l15 => k_is)
    (case c15 => k_is)
    (case k15 => k_is)
    (case a16 => k_is)
    (case l16 => k_is)
    (case c16 => k_is)
    (case k16 => k_is)
    (case a17 => k_is)
    (case l17 => k_is)
    (case c17 => k_is)
    (case k17 => k_is)
    (case a18 => k_is)
    (case l18 => k_is)
    (case c18 => k_is)
    (case k18 => k_is)
    (case z_sorted => k_is)
    (case z_tuple => k_is)
    (case z_len => k_is)
    (case z_range => k_is)
    (case z_int => k_is)
    (case z_sum => k_is)
    (case z_max => k_is)
    (case z_isinstance => k_is)
    (case z_bool => k_is)
    (case z_list => k_is)
    (case ga0 => k_is)
    (case xa_TooWide => first | rfl | k_is)
    (case xk_TooWide => first | rfl | k_is)
    (case xb_TooWide => first | rfl | k_is)
    (case xt_TooWide => first | rfl | k_is)
    (case xi_TooWide => first | rfl | k_is)
    (case xg_TooWide => first | rfl | k_is)
    (case xr_TooWide => first | rfl | k_is)
    (case xd_TooWide => first | rfl | k_is)
    (case xc_TooWide => first | rfl | k_is)
    (case xm_TooWide => first | rfl | k_is)
    (case xs_TooWide => first | rfl | k_is)
    (case xx_TooWide => k_exc)
    (case xn => first | rfl | k_is)
    (case xz => first | rfl | k_is)
