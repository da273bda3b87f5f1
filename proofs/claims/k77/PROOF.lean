import PyProof.Rows.All
import Wide.All
import OpenK.AllK
import Wide.FinOn
import HandS.ForMost
import HandS.ForExc
import HandS.Wide
import HandS.CallSlots
import HandS.SortRule
import HandS.SortInts
import HandS.NoneIn
import HandS.IsInst
import HandS.Deep
import HandS.TupLe
import HandS.Conv
import HandS.More
import HandS.Defaults
import HandS.Style
import HandS.StrMore
import HandS.RevRange
import KE.KEqNest
import HandS.DictComp
import HandS.ExcOwn
import HandS.TryMany
import HandS.TryOnly
import HandS.ExcIs
import HandS.TupAny
import HandS.Replace
import HandS.WordsDict
import HandS.TupLen
import HandS.Records
import HandS.TupMul
import PyProof.EqAt
import PyProof.EqKinds
import PyProof.TupleCall
import HandS.ExcField
import KE.KExcIs
import HandS.Iter
import HandS.ExcValue
import KE.DataFind
import KE.DataMinMax
import KE.SortData
import HandS.Keys
import HandS.SortKw
import HandS.WideBits
import PyProof.ReprRoads
import PyProof.CallFns
import HandS.Ends
import HandS.SetFor
import HandS.Strs
import HandS.HotCalls
import KE.KDictKeyed
import KE.KDictDisplayH
import KE.KDictWalk
import HandS.Flow
import PyProof.Rows.StrFit
import PySem.Challenge.RW_ringstones_k77_whole_fields_apart
set_option Elab.async false
set_option linter.all false
set_option maxRecDepth 100000
set_option maxHeartbeats 4000000
namespace G
open PySem PySem.Spec PyProof.Rows L2
abbrev Frag := PySem.W.Frag
inductive Pay where
  | no | int (i : Int) | strs (xs : List Str)
structure Exn where
  cls : Str
  pay : Pay
inductive Res (α : Type) where
  | ok (a : α) | exc (x : Exn) | stuck
def Res.bind {α β : Type} (m : Res α) (k : α → Res β) : Res β :=
  match m with
  | .ok a => k a
  | .exc x => .exc x
  | .stuck => .stuck
@[simp] theorem Res.ok_bind {α β : Type} (a : α) (k : α → Res β) : (Res.ok a).bind k = k a := rfl
@[simp] theorem Res.exc_bind {α β : Type} (x : Exn) (k : α → Res β) : (Res.exc x : Res α).bind k = .exc x := rfl
@[simp] theorem Res.stuck_bind {α β : Type} (k : α → Res β) : (Res.stuck : Res α).bind k = .stuck := rfl
theorem Res.okb {α β : Type} (a : α) (k : α → Res β) : (Res.ok a).bind k = k a := Eq.trans (Eq.refl ((Res.ok a).bind k)) (Eq.refl (k a))
theorem Res.bind_assoc {α β γ : Type} (m : Res α) (k : α → Res β) (l : β → Res γ) : (m.bind k).bind l = m.bind fun a => (k a).bind l := by cases m <;> rfl
def guardR {α : Type} (c : Bool) (m : Res α) : Res α := if c then m else .stuck
@[simp] theorem guardR_true {α : Type} (m : Res α) : guardR true m = m := rfl
@[simp] theorem guardR_false {α : Type} (m : Res α) : guardR false m = .stuck := rfl
theorem guardR_of {α : Type} {c : Bool} {m : Res α} (h : c = true) : guardR c m = m := by rw [h]; rfl

def All2 {α β : Type} (P : α → β → Prop) : List α → List β → Prop
  | [], [] => True
  | a :: as, b :: bs => P a b ∧ All2 P as bs
  | _, _ => False
section
variable {α β : Type} {P R : α → β → Prop}
theorem All2.imp (h : ∀ a b, P a b → R a b) : ∀ {as : List α} {bs : List β}, All2 P as bs → All2 R as bs
  | [], [], _ => trivial
  | _ :: _, _ :: _, ⟨x, y⟩ => ⟨h _ _ x, All2.imp h y⟩
  | [], _ :: _, x => x.elim
  | _ :: _, [], x => x.elim
theorem All2.length : ∀ {as : List α} {bs : List β}, All2 P as bs → as.length = bs.length
  | [], [], _ => rfl
  | _ :: _, _ :: _, ⟨_, y⟩ => congrArg (· + 1) (All2.length y)
  | [], _ :: _, x => x.elim
  | _ :: _, [], x => x.elim
theorem All2.get : ∀ {as : List α} {bs : List β} {i : Nat} {b : β}, All2 P as bs → bs[i]? = some b → ∃ a, as[i]? = some a ∧ P a b
  | _ :: _, _ :: _, 0, b, ⟨x, _⟩, h => by
    have e : _ = b := Option.some.inj h
    subst e
    exact ⟨_, rfl, x⟩
  | _ :: as, _ :: bs, i + 1, b, ⟨_, y⟩, h => All2.get (as := as) (bs := bs) (i := i) y h
  | [], [], i, b, _, h => by simp at h
  | [], _ :: _, _, _, x, _ => x.elim
  | _ :: _, [], _, _, x, _ => x.elim
theorem All2.append : ∀ {as as' : List α} {bs bs' : List β}, All2 P as bs → All2 P as' bs' → All2 P (as ++ as') (bs ++ bs')
  | [], _, [], _, _, h => h
  | _ :: _, _, _ :: _, _, ⟨x, y⟩, h => ⟨x, All2.append y h⟩
  | [], _, _ :: _, _, x, _ => x.elim
  | _ :: _, _, [], _, x, _ => x.elim
theorem All2.take : ∀ (n : Nat) {as : List α} {bs : List β}, All2 P as bs → All2 P (as.take n) (bs.take n)
  | 0, _, _, _ => by rw [List.take_zero, List.take_zero]; exact trivial
  | n + 1, [], [], _ => trivial
  | n + 1, _ :: as, _ :: bs, ⟨x, y⟩ => ⟨x, All2.take n y⟩
  | _ + 1, [], _ :: _, x => x.elim
  | _ + 1, _ :: _, [], x => x.elim
theorem All2.drop : ∀ (n : Nat) {as : List α} {bs : List β}, All2 P as bs → All2 P (as.drop n) (bs.drop n)
  | 0, _, _, h => h
  | n + 1, [], [], _ => trivial
  | n + 1, _ :: as, _ :: bs, ⟨x, y⟩ => All2.drop n y
  | _ + 1, [], _ :: _, x => x.elim
  | _ + 1, _ :: _, [], x => x.elim
theorem All2.set : ∀ (i : Nat) {as : List α} {bs : List β} {a : α} {b : β}, All2 P as bs → P a b → All2 P (as.set i a) (bs.set i b)
  | _, [], [], _, _, _, _ => by simp [All2]
  | 0, _ :: _, _ :: _, _, _, ⟨x, y⟩, h => ⟨h, y⟩
  | i + 1, _ :: _, _ :: _, _, _, ⟨x, y⟩, h => ⟨x, All2.set i y h⟩
  | _, [], _ :: _, _, _, x, _ => x.elim
  | _, _ :: _, [], _, _, x, _ => x.elim
end
theorem All2.map_eq {α : Type} {f : α → V} : ∀ {vs : List V} {as : List α}, All2 (fun v a => v = f a) vs as → vs = as.map f
  | [], [], _ => rfl
  | _ :: _, _ :: _, ⟨x, y⟩ => by rw [x, All2.map_eq y]; rfl
  | [], _ :: _, x => x.elim
  | _ :: _, [], x => x.elim
theorem All2.of_map {α : Type} {f : α → V} : ∀ {as : List α}, All2 (fun v a => v = f a) (as.map f) as
  | [] => trivial
  | _ :: _ => ⟨rfl, All2.of_map⟩

def isT : HO → Bool
  | .tup _ => true
  | .frz _ _ => true
  | .xd _ => true
  | _ => false
def tups (H : Hp) : Hp := fun a => match H a with
  | some u => if isT u then some u else none
  | none => none
theorem tups_le (H : Hp) : Same (tups H) H := fun a u h => by
  unfold tups at h
  split at h
  · rename_i w e
    split at h
    · rw [e]; exact h
    · cases h
  · cases h
theorem tups_some {H : Hp} {a : Addr} {u : HO} (h : H a = some u) (t : isT u = true) : tups H a = some u := by
  unfold tups; rw [h]; simp [t]
theorem tups_isT {H : Hp} {a : Addr} {u : HO} (h : tups H a = some u) : isT u = true := by
  unfold tups at h
  split at h
  · split at h
    · cases h; assumption
    · cases h
  · cases h
theorem tups_mono {H H' : Hp} (h : Same H H') : Same (tups H) (tups H') := fun a u e => tups_some (h _ _ (tups_le H _ _ e)) (tups_isT e)
def noHp : Hp := fun _ => none
def join (F N : Hp) : Hp := fun a => match F a with
  | some u => some u
  | none => N a
theorem join_l {F N : Hp} : Same F (join F N) := fun a u h => by unfold join; rw [h]
theorem join_le {F N H : Hp} (h1 : Same F H) (h2 : Same N H) : Same (join F N) H := fun a u h => by
  unfold join at h
  split at h
  · rename_i w e; cases h; exact h1 _ _ e
  · exact h2 _ _ h
theorem join_r {F N H : Hp} (h1 : Same F H) (h2 : Same N H) : Same N (join F N) := fun a u h => by
  unfold join
  split
  · rename_i w e
    rw [← h1 _ _ e, h2 _ _ h]
  · exact h
theorem join_or {F N : Hp} {a : Addr} {u : HO} (h : join F N a = some u) : F a = some u ∨ N a = some u := by
  unfold join at h
  split at h
  · rename_i w e; cases h; exact .inl e
  · exact .inr h

class Enc (α : Type) where
  rep : Frag → Hp → V → α → Prop
  mono : ∀ {K : Frag} {H H' : Hp} {v : V} {a : α}, Same H H' → rep K H v a → rep K H' v a
class Imm (α : Type) [Enc α] : Prop where
  imm : ∀ {K : Frag} {H : Hp} {v : V} {a : α}, Enc.rep K H v a → Enc.rep K (tups H) v a
class Flat (α : Type) [Enc α] where
  v : α → V
  flat : ∀ {K : Frag} {H : Hp} {u : V} {a : α}, Enc.rep K H u a ↔ u = v a
instance : Enc Int := ⟨fun _ _ v i => v = .int i, fun _ h => h⟩
instance : Enc Bool := ⟨fun _ _ v i => v = .bl i, fun _ h => h⟩
instance : Enc Str := ⟨fun _ _ v i => v = .str i, fun _ h => h⟩
instance : Enc Unit := ⟨fun _ _ v _ => v = .non, fun _ h => h⟩
instance : Flat Int := ⟨.int, Iff.rfl⟩
instance : Flat Bool := ⟨.bl, Iff.rfl⟩
instance : Flat Str := ⟨.str, Iff.rfl⟩
instance : Flat Unit := ⟨fun _ => .non, Iff.rfl⟩
instance {α : Type} [Enc α] [Flat α] : Imm α := ⟨fun h => Flat.flat.mpr (Flat.flat.mp h)⟩
instance {α : Type} [Enc α] : Enc (Option α) :=
  ⟨fun K H v o => match o with
    | none => v = .non
    | some a => v ≠ .non ∧ Enc.rep K H v a,
   fun {K H H' v o} s h => by
    cases o with
    | none => exact h
    | some a => exact ⟨h.1, Enc.mono s h.2⟩⟩
instance {α : Type} [Enc α] [Imm α] : Imm (Option α) := ⟨fun {K H v o} h => by
  cases o with
  | none => exact h
  | some a => exact ⟨h.1, Imm.imm h.2⟩⟩
theorem All2.mono {α : Type} [Enc α] {K : Frag} {H H' : Hp} {vs : List V} {as : List α} (s : Same H H') (h : All2 (fun v a => Enc.rep K H v a) vs as) : All2 (fun v a => Enc.rep K H' v a) vs as :=
  All2.imp (fun _ _ x => Enc.mono s x) h
instance {α : Type} [Enc α] : Enc (List α) :=
  ⟨fun K H v as => ∃ p vs, v = .ref p ∧ H p = some (.lst vs) ∧ All2 (fun v a => Enc.rep K H v a) vs as,
   fun s ⟨p, vs, e, h, r⟩ => ⟨p, vs, e, s _ _ h, r.mono s⟩⟩
theorem seqT {K : Frag} {H H' : Hp} {a : Addr} {xs : List V} (e : Same H H') (h : SqT K H a xs) : SqT K H' a xs := by
  rcases h with (h | ⟨o, h⟩) | h
  · exact .inl (.inl (e _ _ h))
  · exact .inl (.inr ⟨o, e _ _ h⟩)
  · exact .inr h
theorem seqT_tups {K : Frag} {H : Hp} {a : Addr} {xs : List V} (h : SqT K H a xs) : SqT K (tups H) a xs := by
  rcases h with (h | ⟨o, h⟩) | h
  · exact .inl (.inl (tups_some h rfl))
  · exact .inl (.inr ⟨o, tups_some h rfl⟩)
  · exact .inr h
instance {α β : Type} [Enc α] [Enc β] : Enc (α × β) :=
  ⟨fun K H v x => ∃ p v1 v2, v = .ref p ∧ H p = some (.tup [v1, v2]) ∧ Enc.rep K H v1 x.1 ∧ Enc.rep K H v2 x.2,
   fun s ⟨p, v1, v2, e, h, r1, r2⟩ => ⟨p, v1, v2, e, s _ _ h, Enc.mono s r1, Enc.mono s r2⟩⟩
instance {α β : Type} [Enc α] [Enc β] [Imm α] [Imm β] : Imm (α × β) :=
  ⟨fun ⟨p, v1, v2, e, h, r1, r2⟩ => ⟨p, v1, v2, e, tups_some h rfl, Imm.imm r1, Imm.imm r2⟩⟩
structure T3 (α β γ : Type) where
  a : α
  b : β
  c : γ
instance {α β γ : Type} [Enc α] [Enc β] [Enc γ] : Enc (T3 α β γ) :=
  ⟨fun K H v x => ∃ p v1 v2 v3, v = .ref p ∧ H p = some (.tup [v1, v2, v3]) ∧ Enc.rep K H v1 x.a ∧ Enc.rep K H v2 x.b ∧ Enc.rep K H v3 x.c,
   fun s ⟨p, v1, v2, v3, e, h, r1, r2, r3⟩ => ⟨p, v1, v2, v3, e, s _ _ h, Enc.mono s r1, Enc.mono s r2, Enc.mono s r3⟩⟩
instance {α β γ : Type} [Enc α] [Enc β] [Enc γ] [Imm α] [Imm β] [Imm γ] : Imm (T3 α β γ) :=
  ⟨fun ⟨p, v1, v2, v3, e, h, r1, r2, r3⟩ => ⟨p, v1, v2, v3, e, tups_some h rfl, Imm.imm r1, Imm.imm r2, Imm.imm r3⟩⟩
structure Tup (α : Type) where
  l : List α
instance {α : Type} [Enc α] : Enc (Tup α) :=
  ⟨fun K H v as => ∃ p vs, v = .ref p ∧ SqT K H p vs ∧ All2 (fun v a => Enc.rep K H v a) vs as.l,
   fun s ⟨p, vs, e, h, r⟩ => ⟨p, vs, e, seqT s h, r.mono s⟩⟩
instance {α : Type} [Enc α] [Imm α] : Imm (Tup α) :=
  ⟨fun ⟨p, vs, e, h, r⟩ => ⟨p, vs, e, seqT_tups h, All2.imp (fun _ _ x => Imm.imm x) r⟩⟩
structure Scr where
  ns : List Int
instance : Enc Scr :=
  ⟨fun K H v x => ∃ p, v = .ref p ∧ SqL K H p (x.ns.map V.int), fun s ⟨p, e, h⟩ => ⟨p, e, s.seq h⟩⟩

structure Slot where
  P : Frag → Hp → Hp → Option V → Prop
  mono : ∀ {K : Frag} {F F' G G' : Hp} {o : Option V}, Same F F' → Same G G' → P K F G o → P K F' G' o
def any : Slot := ⟨fun _ _ _ _ => True, fun _ _ h => h⟩
def fr {α : Type} [Enc α] (a : α) : Slot := ⟨fun K F _ o => ∃ v, o = some v ∧ Enc.rep K F v a, fun s _ ⟨v, e, r⟩ => ⟨v, e, Enc.mono s r⟩⟩
def ow {α : Type} [Enc α] (as : List α) : Slot :=
  ⟨fun K F G o => ∃ p vs, o = some (.ref p) ∧ G p = some (.lst vs) ∧ All2 (fun v a => Enc.rep K F v a) vs as,
   fun s t ⟨p, vs, e, h, r⟩ => ⟨p, vs, e, t _ _ h, r.mono s⟩⟩
def lk {α : Type} [Enc α] (p : Addr) (vs : List V) (as : List α) : Slot :=
  ⟨fun K F G o => o = some (.ref p) ∧ G p = some (.lst vs) ∧ All2 (fun v a => Enc.rep K F v a) vs as,
   fun s t ⟨e, h, r⟩ => ⟨e, t _ _ h, r.mono s⟩⟩
def Sl (K : Frag) (F H : Hp) : List Slot → L2.St → Prop
  | [], [] => True
  | s :: ss, o :: σ => s.P K F H o ∧ Sl K F H ss σ
  | _, _ => False
theorem Sl.mono {K : Frag} {F F' H H' : Hp} (a : Same F F') (b : Same H H') : ∀ {ss : List Slot} {σ : L2.St}, Sl K F H ss σ → Sl K F' H' ss σ
  | [], [], _ => trivial
  | s :: ss, o :: σ, ⟨x, y⟩ => ⟨s.mono a b x, Sl.mono a b y⟩
  | [], _ :: _, h => h.elim
  | _ :: _, [], h => h.elim
theorem Sl.get {K : Frag} {F H : Hp} : ∀ {ss : List Slot} {σ : L2.St} {i : Nat} {s : Slot}, Sl K F H ss σ → ss[i]? = some s → ∃ o, σ[i]? = some o ∧ s.P K F H o
  | s :: ss, o :: σ, 0, t, ⟨x, y⟩, h => by
    have e : s = t := Option.some.inj h
    subst e
    exact ⟨o, rfl, x⟩
  | s :: ss, o :: σ, i + 1, t, ⟨x, y⟩, h => Sl.get (i := i) y h
  | [], [], _, _, _, h => by simp at h
  | [], _ :: _, _, _, h, _ => h.elim
  | _ :: _, [], _, _, h, _ => h.elim

def payRep (p : Pay) (d : Option Addr) (H : Hp) : Prop :=
  match p with
  | .no => d = none
  | .int i => ∃ x, d = some x ∧ H x = some (.xd [("row", .int i)])
  | .strs xs => ∃ x p o, d = some x ∧ H x = some (.xd [("boards", .ref p)]) ∧ H p = some (.frz o (.lst (xs.map V.str)))
section
variable (X : Cx) (W : WX)
def EX (σ : L2.St) (H : Hp) (x : Exn) : Prop := ∀ cls d H', X.mg x.cls = some cls → Same H H' → payRep x.pay d H' → W cls d σ H'
def wpR {α : Type} (m : Res α) (σ : L2.St) (H : Hp) (P : α → Prop) : Prop :=
  match m with
  | .ok a => P a
  | .exc x => EX X W σ H x
  | .stuck => False
def rI {α : Type} [Enc α] (ss : List Slot) (m : Res α) : TE := fun σ H Q =>
  Sl X.K H H ss σ ∧ wpR X W m σ H fun a => ∀ v H', Same H H' → Enc.rep X.K H' v a → Q v H'
def XI {α : Type} [Enc α] (ss : List Slot) (e : Expr) (m : Res α) : Prop := PE X e (rI X W ss m)
def rT (ss : List Slot) (m : Res Bool) : TT := fun σ H Q =>
  Sl X.K H H ss σ ∧ wpR X W m σ H fun a => ∀ H', Same H H' → Q a H'
def XT (ss : List Slot) (e : Expr) (m : Res Bool) : Prop := PT X e (rT X W ss m)
end
structure Ext (F H F' H' : Hp) : Prop where
  le : Same F F'
  sub : Same F' H'
  new : ∀ a u, F' a = some u → F a = some u ∨ H a = none ∨ isT u = true
def Priv (G H F' H' : Hp) : Prop := ∀ a u, G a = some u → H' a = some u ∧ H a = none ∧ F' a = none ∧ isT u = false
section
variable (X : Cx) (W : WX)
def rK {α : Type} (ss : List Slot) (m : Res α) (kd : α → Slot) : TE := fun σ H Q =>
  ∃ F, Same F H ∧ Sl X.K F H ss σ ∧ wpR X W m σ H fun a => ∀ v H' F' G', Same H H' → Ext F H F' H' → Priv G' H F' H' → (kd a).P X.K F' G' (some v) → Q v H'
def XK {α : Type} (ss : List Slot) (e : Expr) (m : Res α) (kd : α → Slot) : Prop := PE X e (rK X W ss m kd)
end
section
variable {X : Cx} {W : WX} {ss : List Slot}
theorem EX.mono {σ : L2.St} {H H' : Hp} {x : Exn} (h : EX X W σ H x) (s : Same H H') : EX X W σ H' x := fun c d H2 a b e => h c d H2 a (s.trans b) e
theorem wpR_bind {α β : Type} {m : Res α} {k : α → Res β} {σ : L2.St} {H : Hp} {P : β → Prop} (h : wpR X W (m.bind k) σ H P) : wpR X W m σ H fun a => wpR X W (k a) σ H P := by
  cases m with
  | ok a => exact h
  | exc x => exact h
  | stuck => exact h
theorem wpR_imp {α : Type} {m : Res α} {σ : L2.St} {H H' : Hp} {P P' : α → Prop} (h : wpR X W m σ H P) (s : Same H H') (f : ∀ a, P a → P' a) : wpR X W m σ H' P' := by
  cases m with
  | ok a => exact f a h
  | exc x => exact EX.mono h s
  | stuck => exact h
theorem PE_imp {e : Expr} {t t' : TE} (h : PE X e t) (f : ∀ σ H Q, t' σ H Q → t σ H Q) : PE X e t' := ⟨fun pins s σ H Q I q => h.run pins s σ H Q I (f _ _ _ q)⟩
theorem PT_imp {e : Expr} {t t' : TT} (h : PT X e t) (f : ∀ σ H Q, t' σ H Q → t σ H Q) : PT X e t' := ⟨fun pins s σ H Q I q => h.run pins s σ H Q I (f _ _ _ q)⟩
theorem PA_imp {e : List Expr} {t t' : TA} (h : PA X e t) (f : ∀ σ H Q, t' σ H Q → t σ H Q) : PA X e t' := ⟨fun pos pins s σ H Q I q => h.run pos pins s σ H Q I (f _ _ _ q)⟩
theorem PSs_imp {e : List Stmt} {t t' : TS} (h : PSs X e t) (f : ∀ D σ H, t' D σ H → t D σ H) : PSs X e t' := ⟨fun pins s σ H D I q => h.run pins s σ H D I (f D σ H q)⟩
theorem PS_imp {e : Stmt} {t t' : TS} (h : PS X e t) (f : ∀ D σ H, t' D σ H → t D σ H) : PS X e t' := ⟨fun pins s σ H D I q => h.run pins s σ H D I (f D σ H q)⟩
theorem XI.cast {α : Type} [Enc α] {e : Expr} {m m' : Res α} (h : XI X W ss e m) (q : m' = m) : XI X W ss e m' := q ▸ h
theorem XT.cast {e : Expr} {m m' : Res Bool} (h : XT X W ss e m) (q : m' = m) : XT X W ss e m' := q ▸ h
theorem XK.cast {α : Type} {e : Expr} {m m' : Res α} {kd : α → Slot} (h : XK X W ss e m kd) (q : m' = m) : XK X W ss e m' kd := q ▸ h

theorem xi_fr (i : Nat) {α : Type} [Enc α] {a : α} {x : Str} {pos : Pos} (hs : ss[i]? = some (fr a) := by rfl) (hp : PE X (.Name x pos) (tVar i) := by exact pv _) : XI X W ss (.Name x pos) (.ok a) := by
  refine PE_imp hp fun σ H Q ⟨sl, q⟩ => ?_
  obtain ⟨o, ho, v, e, r⟩ := sl.get hs
  subst e
  exact ⟨v, ho, q v H (Same.refl H) r⟩
theorem xi_ow (i : Nat) {α : Type} [Enc α] {as : List α} {x : Str} {pos : Pos} (hs : ss[i]? = some (ow as) := by rfl) (hp : PE X (.Name x pos) (tVar i) := by exact pv _) : XI X W ss (.Name x pos) (.ok as) := by
  refine PE_imp hp fun σ H Q ⟨sl, q⟩ => ?_
  obtain ⟨o, ho, p, vs, e, g, r⟩ := sl.get hs
  subst e
  exact ⟨.ref p, ho, q _ H (Same.refl H) ⟨p, vs, rfl, g, r⟩⟩
theorem xi_const {α : Type} [Enc α] {e : Expr} {v : V} {a : α} (h : PE X e (tC v)) (r : ∀ K H, Enc.rep K H v a) : XI X W ss e (.ok a) :=
  PE_imp h fun σ H Q ⟨_, q⟩ => q v H (Same.refl H) (r _ _)
theorem xi_int {i : Int} {j pos} : XI X W ss (.Constant (.int i) j pos) (.ok i) := xi_const pe_int fun _ _ => rfl
theorem xi_bl {b : Bool} {j pos} : XI X W ss (.Constant (.bool b) j pos) (.ok b) := xi_const pe_bl fun _ _ => rfl
theorem xi_str {b : Str} {j pos} : XI X W ss (.Constant (.str b) j pos) (.ok b) := xi_const pe_str fun _ _ => rfl
theorem xi_none {α : Type} [Enc α] {j pos} : XI X W ss (.Constant .none j pos) (.ok (none : Option α)) := xi_const pe_non fun _ _ => rfl

def okR {γ : Type} (m : Res γ) (P : γ → Prop) : Prop :=
  match m with
  | .ok c => P c
  | _ => False
def Op2 (X : Cx) (r : R2) {α β γ : Type} [Enc α] [Enc β] [Enc γ] (g : α → β → Res γ) : Prop :=
  ∀ (a : α) (b : β) (v w : V) (H : Hp) (Q : VK), Enc.rep X.K H v a → Enc.rep X.K H w b →
    okR (g a b) (fun c => ∀ v' H', Same H H' → Enc.rep X.K H' v' c → Q v' H') → r v w H Q
def NoX {α : Type} (m : Res α) : Prop := ∀ x, m ≠ .exc x
theorem r_op2 {α β γ : Type} [Enc α] [Enc β] [Enc γ] {r : R2} {g : α → β → Res γ} {m1 : Res α} {m2 : Res β} (ho : Op2 X r g) (hg : ∀ a b, NoX (g a b)) {σ : L2.St} {H : Hp} {Q : VK}
    (h : rI X W ss (m1.bind fun a => m2.bind fun b => g a b) σ H Q) : tOp r (rI X W ss m1) (rI X W ss m2) σ H Q := by
  obtain ⟨sl, q⟩ := h
  refine ⟨sl, wpR_imp (wpR_bind q) (Same.refl H) fun a q v H1 s1 r1 => ?_⟩
  refine ⟨sl.mono s1 s1, wpR_imp (wpR_bind q) s1 fun b q w H2 s2 r2 => ?_⟩
  refine ho a b v w H2 Q (Enc.mono s2 r1) r2 ?_
  unfold okR
  cases e : g a b with
  | ok c => rw [e] at q; exact fun v' H' s3 r3 => q v' H' (s1.trans (s2.trans s3)) r3
  | exc x => exact hg a b x e
  | stuck => rw [e] at q; exact q
theorem noX_ok {α : Type} {a : α} : NoX (Res.ok a) := fun _ h => nomatch h
theorem noX_guard {α : Type} {c : Bool} {a : α} : NoX (guardR c (Res.ok a)) := fun _ h => by cases c <;> cases h
theorem xi_bin {α β γ : Type} [Enc α] [Enc β] [Enc γ] {op : Operator} {r : R2} {g : α → β → Res γ} {m1 : Res α} {m2 : Res β} {a b : Expr} {pos : Pos} (hr : OpR X (binaryOp op) r) (ho : Op2 X r g) (hg : ∀ a b, NoX (g a b))
    (h1 : XI X W ss a m1) (h2 : XI X W ss b m2) : XI X W ss (.BinOp a op b pos) (m1.bind fun a => m2.bind fun b => g a b) :=
  PE_imp (pe_op hr h1 h2) fun _ _ _ h => r_op2 ho hg h
theorem xi_cmp {α β γ : Type} [Enc α] [Enc β] [Enc γ] {op : CmpOp} {r : R2} {g : α → β → Res γ} {m1 : Res α} {m2 : Res β} {a b : Expr} {pos : Pos} (hr : OpR X (compareOp op) r) (ho : Op2 X r g) (hg : ∀ a b, NoX (g a b)) (hm : behindInMarks op b = false)
    (h1 : XI X W ss a m1) (h2 : XI X W ss b m2) : XI X W ss (.Compare a [op] [b] pos) (m1.bind fun a => m2.bind fun b => g a b) :=
  PE_imp (pe_cmpR hr h1 h2 hm) fun _ _ _ h => r_op2 ho hg h
theorem xt_cmp {α β : Type} [Enc α] [Enc β] {op : CmpOp} {r : R2} {g : α → β → Res Bool} {m1 : Res α} {m2 : Res β} {a b : Expr} {pos : Pos} (hr : OpR X (compareOp op) r) (ho : Op2 X r g) (hg : ∀ a b, NoX (g a b)) (hm : behindInMarks op b = false)
    (h1 : XI X W ss a m1) (h2 : XI X W ss b m2) : XT X W ss (.Compare a [op] [b] pos) (m1.bind fun a => m2.bind fun b => g a b) :=
  PT_imp (pt_cmpR hr h1 h2 hm) fun σ H Q ⟨sl, q⟩ => r_op2 ho hg ⟨sl, wpR_imp q (Same.refl H) fun _ q v H' s r => ⟨_, r, q H' s⟩⟩
theorem op2_I0 {g : Int → Int → V} {γ : Type} [Enc γ] {f : Int → Int → γ} (h : ∀ i j K H, Enc.rep K H (g i j) (f i j)) : Op2 X (rI0 g) (fun i j : Int => Res.ok (f i j)) := fun a b v w H Q r1 r2 q =>
  ⟨a, b, r1, r2, q _ H (Same.refl H) (h _ _ _ _)⟩
theorem op2_I {C : Int → Int → Prop} {c : Int → Int → Bool} {g : Int → Int → V} {γ : Type} [Enc γ] {f : Int → Int → γ} (hc : ∀ i j, c i j = true → C i j) (h : ∀ i j K H, Enc.rep K H (g i j) (f i j)) :
    Op2 X (L2.rI C g) (fun i j : Int => guardR (c i j) (Res.ok (f i j))) := fun a b v w H Q r1 r2 q => by
  cases e : c a b with
  | true =>
    have q : okR (guardR (c a b) (Res.ok (f a b))) _ := q
    rw [e] at q; exact ⟨a, b, r1, r2, hc _ _ e, q _ H (Same.refl H) (h _ _ _ _)⟩
  | false =>
    have q : okR (guardR (c a b) (Res.ok (f a b))) _ := q
    rw [e] at q; exact q.elim
end
end G

namespace G
open PySem PySem.Spec PyProof.Rows L2
section
variable {X : Cx} {W : WX} {ss : List Slot}
theorem priv_no {H F' H' : Hp} : Priv noHp H F' H' := fun _ _ h => nomatch h
theorem ext_imm {F H H' : Hp} (a : Same F H) (s : Same H H') : Ext F H (join F (tups H')) H' :=
  ⟨join_l, join_le (a.trans s) (tups_le H'), fun a u h => (join_or h).elim .inl fun z => .inr (.inr (tups_isT z))⟩
theorem xk_imm {α : Type} [Enc α] [Imm α] {e : Expr} {m : Res α} (h : XI X W ss e m) : XK X W ss e m fr := by
  refine PE_imp h fun σ H Q ⟨F, a, sl, q⟩ => ⟨sl.mono a (Same.refl H), wpR_imp q (Same.refl H) fun x q v H' s r => ?_⟩
  exact q v H' _ noHp s (ext_imm a s) priv_no ⟨v, rfl, Enc.mono (join_r (a.trans s) (tups_le H')) (Imm.imm r)⟩
theorem xk_fr (i : Nat) {α : Type} [Enc α] {a : α} {x : Str} {pos : Pos} (hs : ss[i]? = some (fr a) := by rfl) (hp : PE X (.Name x pos) (tVar i) := by exact pv _) : XK X W ss (.Name x pos) (.ok a) fr := by
  refine PE_imp hp fun σ H Q ⟨F, a, sl, q⟩ => ?_
  obtain ⟨o, ho, v, e, r⟩ := sl.get hs
  subst e
  exact ⟨v, ho, q v H F noHp (Same.refl H) ⟨Same.refl F, a, fun _ _ h => .inl h⟩ priv_no ⟨v, rfl, r⟩⟩
theorem xk_free {α : Type} [Enc α] {e : Expr} {m : Res (List α)} (h : XK X W ss e m ow) : XK X W ss e m fr := by
  refine PE_imp h fun σ H Q ⟨F, a, sl, q⟩ => ⟨F, a, sl, wpR_imp q (Same.refl H) fun x q v H' F' G' s ex pr k => ?_⟩
  obtain ⟨p, vs, e, g, r⟩ := k
  have gH : Same G' H' := fun a u z => (pr a u z).1
  refine q v H' (join F' G') noHp s ⟨ex.le.trans join_l, join_le ex.sub gH, fun a u z => (join_or z).elim (ex.new a u) fun z => .inr (.inl (pr a u z).2.1)⟩ priv_no ?_
  exact ⟨v, rfl, p, vs, Option.some.inj e, join_r ex.sub gH _ _ g, r.mono join_l⟩
class View {α : Type} [Enc α] (kd : α → Slot) : Prop where
  view : ∀ {K : Frag} {H : Hp} {v : V} {a : α}, (kd a).P K H H (some v) → Enc.rep K H v a
instance {α : Type} [Enc α] : View (fr (α := α)) := ⟨fun ⟨v, e, r⟩ => by cases e; exact r⟩
instance {α : Type} [Enc α] : View (ow (α := α)) := ⟨fun ⟨p, vs, e, g, r⟩ => by cases e; exact ⟨p, vs, rfl, g, r⟩⟩
theorem xi_of {α : Type} [Enc α] {kd : α → Slot} [View kd] {e : Expr} {m : Res α} (h : XK X W ss e m kd) : XI X W ss e m := by
  refine PE_imp h fun σ H Q ⟨sl, q⟩ => ⟨H, Same.refl H, sl, wpR_imp q (Same.refl H) fun x q v H' F' G' s ex pr k => ?_⟩
  exact q v H' s (View.view ((kd x).mono ex.sub (fun a u z => (pr a u z).1) k))

def Dj (G G' : Hp) : Prop := ∀ a, G a = none ∨ G' a = none
def All3 (K : Frag) (F : Hp) : List Slot → List Hp → L2.St → Prop
  | [], [], [] => True
  | s :: ss, G :: Gs, o :: σ => s.P K F G o ∧ All3 K F ss Gs σ
  | _, _, _ => False
structure Asn (K : Frag) (B F0 : Hp) (ss : List Slot) (σ : L2.St) (H : Hp) (F : Hp) (Gs : List Hp) : Prop where
  ext : Ext F0 B F H
  base : Same B H
  all : All3 K F ss Gs σ
  priv : ∀ G ∈ Gs, Priv G B F H
  dj : Gs.Pairwise Dj
end
theorem Ext.trans {F H F' H' F2 H2 : Hp} (a : Ext F H F' H') (s : Same H H') (b : Ext F' H' F2 H2) : Ext F H F2 H2 :=
  ⟨a.le.trans b.le, b.sub, fun x u h => (b.new x u h).elim (a.new x u) fun z => z.elim (fun z => .inr (.inl (Same.free s z))) fun z => .inr (.inr z)⟩
theorem All3.mono {K : Frag} {F F' : Hp} (a : Same F F') : ∀ {ss : List Slot} {Gs : List Hp} {σ : L2.St}, All3 K F ss Gs σ → All3 K F' ss Gs σ
  | [], [], [], _ => trivial
  | s :: ss, _ :: Gs, o :: σ, ⟨x, y⟩ => ⟨s.mono a (Same.refl _) x, All3.mono a y⟩
  | [], _ :: _, _, h => h.elim
  | [], [], _ :: _, h => h.elim
  | _ :: _, [], _, h => h.elim
  | _ :: _, _ :: _, [], h => h.elim
theorem All3.sl {K : Frag} {F H : Hp} : ∀ {ss : List Slot} {Gs : List Hp} {σ : L2.St}, All3 K F ss Gs σ → (∀ G ∈ Gs, Same G H) → Sl K F H ss σ
  | [], [], [], _, _ => trivial
  | s :: ss, _ :: Gs, o :: σ, ⟨x, y⟩, h => ⟨s.mono (Same.refl _) (h _ List.mem_cons_self) x, All3.sl y fun G m => h G (List.mem_cons_of_mem _ m)⟩
  | [], _ :: _, _, h, _ => h.elim
  | [], [], _ :: _, h, _ => h.elim
  | _ :: _, [], _, h, _ => h.elim
  | _ :: _, _ :: _, [], h, _ => h.elim
theorem All3.set {K : Frag} {F G : Hp} {s : Slot} {o : Option V} (x : s.P K F G o) : ∀ (i : Nat) {ss : List Slot} {Gs : List Hp} {σ : L2.St}, All3 K F ss Gs σ → All3 K F (ss.set i s) (Gs.set i G) (σ.set i o)
  | _, [], [], [], h => h
  | 0, _ :: _, _ :: _, _ :: _, ⟨_, y⟩ => ⟨x, y⟩
  | i + 1, _ :: _, _ :: _, _ :: _, ⟨z, y⟩ => ⟨z, All3.set x i y⟩
  | _, [], _ :: _, _, h => h.elim
  | _, [], [], _ :: _, h => h.elim
  | _, _ :: _, [], _, h => h.elim
  | _, _ :: _, _ :: _, [], h => h.elim
theorem All3.get {K : Frag} {F : Hp} : ∀ {ss : List Slot} {Gs : List Hp} {σ : L2.St} {i : Nat} {s : Slot}, All3 K F ss Gs σ → ss[i]? = some s → ∃ G o, Gs[i]? = some G ∧ σ[i]? = some o ∧ s.P K F G o
  | s :: ss, G :: Gs, o :: σ, 0, t, ⟨x, y⟩, h => by
    have e : s = t := Option.some.inj h
    subst e
    exact ⟨G, o, rfl, rfl, x⟩
  | s :: ss, G :: Gs, o :: σ, i + 1, t, ⟨x, y⟩, h => All3.get (i := i) y h
  | [], [], [], _, _, _, h => by simp at h
  | [], _ :: _, _, _, _, h, _ => h.elim
  | [], [], _ :: _, _, _, h, _ => h.elim
  | _ :: _, [], _, _, _, h, _ => h.elim
  | _ :: _, _ :: _, [], _, _, h, _ => h.elim
theorem pw_set {G : Hp} : ∀ {Gs : List Hp} (i : Nat), Gs.Pairwise Dj → (∀ G' ∈ Gs, Dj G G') → (Gs.set i G).Pairwise Dj
  | [], _, _, _ => List.Pairwise.nil
  | A :: Gs, 0, h, d => List.pairwise_cons.mpr ⟨fun G' m => d G' (List.mem_cons_of_mem _ m), (List.pairwise_cons.mp h).2⟩
  | A :: Gs, i + 1, h, d => by
    obtain ⟨h1, h2⟩ := List.pairwise_cons.mp h
    refine List.pairwise_cons.mpr ⟨fun G' m => ?_, pw_set i h2 fun G' m => d G' (List.mem_cons_of_mem _ m)⟩
    rcases List.mem_or_eq_of_mem_set m with z | z
    · exact h1 G' z
    · subst z
      exact fun a => (d A List.mem_cons_self a).symm
theorem Asn.sub {K : Frag} {B F0 H F : Hp} {ss : List Slot} {σ : L2.St} {Gs : List Hp} (A : Asn K B F0 ss σ H F Gs) : ∀ G ∈ Gs, Same G H := fun G m a u h => (A.priv G m a u h).1
theorem Asn.sl {K : Frag} {B F0 H F : Hp} {ss : List Slot} {σ : L2.St} {Gs : List Hp} (A : Asn K B F0 ss σ H F Gs) : Sl K F H ss σ := A.all.sl A.sub
theorem Asn.grow {K : Frag} {B F0 H F H' F' : Hp} {ss : List Slot} {σ : L2.St} {Gs : List Hp} (A : Asn K B F0 ss σ H F Gs) (s : Same H H') (ex : Ext F H F' H') : Asn K B F0 ss σ H' F' Gs := by
  refine ⟨⟨A.ext.le.trans ex.le, ex.sub, fun a u h => ?_⟩, A.base.trans s, A.all.mono ex.le, fun G m a u h => ?_, A.dj⟩
  · rcases ex.new a u h with z | z | z
    · exact A.ext.new a u z
    · exact .inr (.inl (Same.free A.base z))
    · exact .inr (.inr z)
  · obtain ⟨h1, h2, h3, h4⟩ := A.priv G m a u h
    refine ⟨s _ _ h1, h2, ?_, h4⟩
    cases e : F' a with
    | none => rfl
    | some w =>
      rcases ex.new a w e with z | z | z
      · rw [h3] at z; cases z
      · rw [h1] at z; cases z
      · have q := ex.sub _ _ e
        rw [s _ _ h1] at q
        cases q
        rw [h4] at z; cases z
theorem Asn.set {K : Frag} {B F0 H F H' F' G : Hp} {ss : List Slot} {σ : L2.St} {Gs : List Hp} {s : Slot} {o : Option V} (A : Asn K B F0 ss σ H F Gs) (sa : Same H H') (ex : Ext F H F' H') (pr : Priv G H F' H') (x : s.P K F' G o) (i : Nat) :
    Asn K B F0 (ss.set i s) (σ.set i o) H' F' (Gs.set i G) := by
  have A' := A.grow sa ex
  refine ⟨A'.ext, A'.base, A'.all.set x i, fun G' m a u h => ?_, pw_set i A'.dj fun G' m a => ?_⟩
  · rcases List.mem_or_eq_of_mem_set m with z | z
    · exact A'.priv G' z a u h
    · subst z
      obtain ⟨h1, h2, h3, h4⟩ := pr a u h
      exact ⟨h1, Same.free A.base h2, h3, h4⟩
  · cases e : G a with
    | none => exact .inl rfl
    | some u =>
      refine .inr ?_
      cases e2 : G' a with
      | none => rfl
      | some w =>
        have z := A.sub G' m _ _ e2
        rw [(pr a u e).2.1] at z
        cases z
theorem All3.any {K : Frag} {F : Hp} (i : Nat) : ∀ {ss : List Slot} {Gs : List Hp} {σ : L2.St}, All3 K F ss Gs σ → All3 K F (ss.set i any) Gs σ := by
  intro ss Gs σ h
  induction ss generalizing Gs σ i with
  | nil => exact h
  | cons s ss ih =>
    cases Gs with
    | nil => exact h.elim
    | cons G Gs =>
      cases σ with
      | nil => exact h.elim
      | cons o σ =>
        cases i with
        | zero => exact ⟨trivial, h.2⟩
        | succ i => exact ⟨h.1, ih i h.2⟩
end G

namespace G
open PySem PySem.Spec PyProof.Rows L2
section
variable (X : Cx) (W : WX)
def EXS (B : Hp) (x : Exn) : Prop := ∀ σ cls d H', X.mg x.cls = some cls → Same B H' → payRep x.pay d H' → W cls d σ H'
def wpS {α : Type} (m : Res α) (B : Hp) (P : α → Prop) : Prop :=
  match m with
  | .ok a => P a
  | .exc x => EXS X W B x
  | .stuck => False
def rdX (ss : List Slot) (w : Ends → Hp → Hp → Prop) : TS := fun D σ H => ∃ B F0 F Gs, Asn X.K B F0 ss σ H F Gs ∧ w D B F0
def RtOk {R : Type} (kr : R → Slot) (r : R) (D : Ends) (B F0 : Hp) : Prop := ∀ v H' F' G', Same B H' → Ext F0 B F' H' → Priv G' B F' H' → (kr r).P X.K F' G' (some v) → D.rt v H'
def NxOk (ss : List Slot) (D : Ends) (B F0 : Hp) : Prop := ∀ σ' H' F' Gs', Asn X.K B F0 ss σ' H' F' Gs' → D.nx σ' H'
def BkOk (ss : List Slot) (D : Ends) (B F0 : Hp) : Prop := ∀ σ' H' F' Gs', Asn X.K B F0 ss σ' H' F' Gs' → D.bk σ' H'
def CtOk (ss : List Slot) (D : Ends) (B F0 : Hp) : Prop := ∀ σ' H' F' Gs', Asn X.K B F0 ss σ' H' F' Gs' → D.ct σ' H'
def wT {R : Type} (e : Bool) (M : Res R) (kr : R → Slot) : Ends → Hp → Hp → Prop := fun D B F0 => (e = true → ∀ σ H, D.rt .non H → D.nx σ H) ∧ wpS X W M B fun r => RtOk X kr r D B F0
def wN {S : Type} (M : Res S) (post : S → List Slot) : Ends → Hp → Hp → Prop := fun D B F0 => wpS X W M B fun s => NxOk X (post s) D B F0
end
inductive Out (S L R : Type) where
  | nx (s : S) | rt (r : R) | bk (l : L) | ct (l : L)
section
variable (X : Cx) (W : WX)
def wB {S L R : Type} (M : Res (Out S L R)) (post : S → List Slot) (pl : L → List Slot) (kr : R → Slot) : Ends → Hp → Hp → Prop := fun D B F0 => wpS X W M B fun o =>
  match o with
  | .nx s => NxOk X (post s) D B F0
  | .rt r => RtOk X kr r D B F0
  | .bk l => BkOk X (pl l) D B F0
  | .ct l => CtOk X (pl l) D B F0
def ST {R : Type} (e : Bool) (ss : List Slot) (st : List Stmt) (M : Res R) (kr : R → Slot) : Prop := PSs X st (rdX X ss (wT X W e M kr))
def SN {S : Type} (ss : List Slot) (st : List Stmt) (M : Res S) (post : S → List Slot) : Prop := PSs X st (rdX X ss (wN X W M post))
def SB {S L R : Type} (ss : List Slot) (st : List Stmt) (M : Res (Out S L R)) (post : S → List Slot) (pl : L → List Slot) (kr : R → Slot) : Prop := PSs X st (rdX X ss (wB X W M post pl kr))
def S1 {S : Type} (ss : List Slot) (st : Stmt) (M : Res S) (post : S → List Slot) : Prop := PS X st (rdX X ss (wN X W M post))
end
section
variable {X : Cx} {W : WX} {ss : List Slot} {st : Stmt} {rest : List Stmt}
theorem EXS.ex {B H : Hp} {x : Exn} {σ : L2.St} (h : EXS X W B x) (s : Same B H) : EX X W σ H x := fun cls d H' a b e => h σ cls d H' a (s.trans b) e
theorem wpS_bind {α β : Type} {m : Res α} {k : α → Res β} {B : Hp} {P : β → Prop} (h : wpS X W (m.bind k) B P) : wpS X W m B fun a => wpS X W (k a) B P := by
  cases m with
  | ok a => exact h
  | exc x => exact h
  | stuck => exact h
theorem wpS_imp {α : Type} {m : Res α} {B : Hp} {P P' : α → Prop} (h : wpS X W m B P) (f : ∀ a, P a → P' a) : wpS X W m B P' := by
  cases m with
  | ok a => exact f a h
  | exc x => exact h
  | stuck => exact h
theorem wpS_R {α : Type} {m : Res α} {B H : Hp} {P P' : α → Prop} {σ : L2.St} (h : wpS X W m B P) (s : Same B H) (f : ∀ a, P a → P' a) : wpR X W m σ H P' := by
  cases m with
  | ok a => exact f a h
  | exc x => exact EXS.ex h s
  | stuck => exact h
theorem seqX {α : Type} {m : Res α} {ss' : α → List Slot} {w : α → Ends → Hp → Hp → Prop} {w0 : Ends → Hp → Hp → Prop} (h1 : S1 X W ss st m ss') (h2 : ∀ a, PSs X rest (rdX X (ss' a) (w a)))
    (hw : ∀ D B F0, w0 D B F0 → wpS X W m B fun a => w a D B F0) : PSs X (st :: rest) (rdX X ss w0) := by
  have h2' : PSs X rest fun D σ H => ∃ a, rdX X (ss' a) (w a) D σ H := ⟨fun pins s σ H D I ⟨a, q⟩ => (h2 a).run pins s σ H D I q⟩
  refine PSs_imp (pss_cons h1 h2') fun D σ H ⟨B, F0, F, Gs, A, q⟩ => ⟨B, F0, F, Gs, A, ?_⟩
  exact wpS_imp (hw D B F0 q) fun a q σ' H' F' Gs' A' => ⟨a, B, F0, F', Gs', A', q⟩
theorem st_seq {α R : Type} {e : Bool} {m : Res α} {ss' : α → List Slot} {k : α → Res R} {kr : R → Slot} (h1 : S1 X W ss st m ss') (h2 : ∀ a, ST X W e (ss' a) rest (k a) kr) : ST X W e ss (st :: rest) (m.bind k) kr :=
  seqX h1 h2 fun D B F0 ⟨a, q⟩ => wpS_imp (wpS_bind q) fun _ z => ⟨a, z⟩
theorem sn_seq {α S : Type} {m : Res α} {ss' : α → List Slot} {k : α → Res S} {post : S → List Slot} (h1 : S1 X W ss st m ss') (h2 : ∀ a, SN X W (ss' a) rest (k a) post) : SN X W ss (st :: rest) (m.bind k) post :=
  seqX h1 h2 fun D B F0 q => wpS_bind q
theorem sb_seq {α S L R : Type} {m : Res α} {ss' : α → List Slot} {k : α → Res (Out S L R)} {post : S → List Slot} {pl : L → List Slot} {kr : R → Slot} (h1 : S1 X W ss st m ss') (h2 : ∀ a, SB X W (ss' a) rest (k a) post pl kr) :
    SB X W ss (st :: rest) (m.bind k) post pl kr := seqX h1 h2 fun D B F0 q => wpS_bind q
theorem ST.cast {R : Type} {e : Bool} {sts : List Stmt} {M M' : Res R} {kr : R → Slot} (h : ST X W e ss sts M kr) (q : M' = M) : ST X W e ss sts M' kr := q ▸ h
theorem SN.cast {S : Type} {sts : List Stmt} {M M' : Res S} {post : S → List Slot} (h : SN X W ss sts M post) (q : M' = M) : SN X W ss sts M' post := q ▸ h
def Wk : List Slot → List Slot → Prop
  | [], [] => True
  | s :: ss, t :: ts => (s = t ∨ t = any) ∧ Wk ss ts
  | _, _ => False
theorem Wk.refl : ∀ ss : List Slot, Wk ss ss
  | [] => trivial
  | _ :: ss => ⟨.inl rfl, Wk.refl ss⟩
theorem All3.wk {K : Frag} {F : Hp} : ∀ {ss ts : List Slot} {Gs : List Hp} {σ : L2.St}, All3 K F ss Gs σ → Wk ss ts → All3 K F ts Gs σ
  | [], [], _, _, h, _ => h
  | s :: ss, t :: ts, G :: Gs, o :: σ, ⟨x, y⟩, ⟨a, b⟩ => ⟨by
      rcases a with rfl | rfl
      · exact x
      · exact trivial, All3.wk y b⟩
  | [], _ :: _, _, _, _, w => w.elim
  | _ :: _, [], _, _, _, w => w.elim
  | _ :: _, _ :: _, [], _, h, _ => h.elim
  | _ :: _, _ :: _, _ :: _, [], h, _ => h.elim
theorem Asn.wk {K : Frag} {B F0 H F : Hp} {ss ts : List Slot} {σ : L2.St} {Gs : List Hp} (A : Asn K B F0 ss σ H F Gs) (w : Wk ss ts) : Asn K B F0 ts σ H F Gs := ⟨A.ext, A.base, A.all.wk w, A.priv, A.dj⟩
theorem sn_nil {S : Type} {s : S} {post : S → List Slot} (w : Wk ss (post s) := by exact Wk.refl _) : SN X W ss [] (.ok s) post :=
  PSs_imp pss_nil fun D σ H ⟨B, F0, F, Gs, A, q⟩ => q σ H F Gs (A.wk w)
theorem sb_nil {S L R : Type} {s : S} {post : S → List Slot} {pl : L → List Slot} {kr : R → Slot} (w : Wk ss (post s) := by exact Wk.refl _) : SB X W ss [] (.ok (.nx s) : Res (Out S L R)) post pl kr :=
  PSs_imp pss_nil fun D σ H ⟨B, F0, F, Gs, A, q⟩ => q σ H F Gs (A.wk w)
theorem rt_core {R : Type} {m : Res R} {kr : R → Slot} {e : Expr} {pos : Pos} (h : XK X W ss e m kr) : PS X (.Return (some e) pos) (rdX X ss fun D B F0 => wpS X W m B fun r => RtOk X kr r D B F0) := by
  refine PS_imp (ps_ret h) fun D σ H ⟨B, F0, F, Gs, A, q⟩ => ⟨F, A.ext.sub, A.sl, wpS_R q A.base fun r q v H' F' G' s ex pr k => ?_⟩
  have A' := A.grow s ex
  exact q v H' F' G' A'.base A'.ext (fun a u z => ⟨(pr a u z).1, Same.free A.base (pr a u z).2.1, (pr a u z).2.2⟩) k
theorem rest_free {t : TS} (h1 : PS X st t) (hn : ∀ D D' σ H, D'.rt = D.rt → D'.bk = D.bk → D'.ct = D.ct → t D σ H → t D' σ H) : PSs X (st :: rest) t :=
  PSs_imp (pss_cons h1 (pss_never (sts := rest))) fun D σ H q => hn D { D with nx := tNever D } σ H rfl rfl rfl q
theorem st_ret {R : Type} {ee : Bool} {m : Res R} {kr : R → Slot} {e : Expr} {pos : Pos} (h : XK X W ss e m kr) : ST X W ee ss (.Return (some e) pos :: rest) m kr :=
  PSs_imp (rest_free (rt_core h) fun D D' σ H e1 _ _ ⟨B, F0, F, Gs, A, q⟩ => ⟨B, F0, F, Gs, A, wpS_imp q fun r q v H' F' G' a b c d => by rw [e1]; exact q v H' F' G' a b c d⟩)
    fun D σ H ⟨B, F0, F, Gs, A, _, q⟩ => ⟨B, F0, F, Gs, A, q⟩
theorem sb_ret {S L R : Type} {m : Res R} {post : S → List Slot} {pl : L → List Slot} {kr : R → Slot} {e : Expr} {pos : Pos} (h : XK X W ss e m kr) : SB X W ss (.Return (some e) pos :: rest) (m.bind fun r => .ok (.rt r) : Res (Out S L R)) post pl kr :=
  PSs_imp (rest_free (rt_core h) fun D D' σ H e1 _ _ ⟨B, F0, F, Gs, A, q⟩ => ⟨B, F0, F, Gs, A, wpS_imp q fun r q v H' F' G' a b c d => by rw [e1]; exact q v H' F' G' a b c d⟩)
    fun D σ H ⟨B, F0, F, Gs, A, q⟩ => ⟨B, F0, F, Gs, A, wpS_imp (wpS_bind q) fun _ z => z⟩
theorem ifX {c : Expr} {mc : Res Bool} {a b : List Stmt} {pos : Pos} {w : Bool → Ends → Hp → Hp → Prop} {w0 : Ends → Hp → Hp → Prop} (hc : XT X W ss c mc) (ha : PSs X a (rdX X ss (w true))) (hb : PSs X b (rdX X ss (w false)))
    (hw : ∀ D B F0, w0 D B F0 → wpS X W mc B fun t => w t D B F0) : PS X (.If c a b pos) (rdX X ss w0) := by
  refine PS_imp (ps_if hc ha hb) fun D σ H ⟨B, F0, F, Gs, A, q⟩ => ⟨A.sl.mono A.ext.sub (Same.refl H), wpS_R (hw D B F0 q) A.base fun t q H' s => ?_⟩
  have A' := A.grow s ⟨Same.refl F, A.ext.sub.trans s, fun _ _ h => .inl h⟩
  cases t with
  | true => exact ⟨B, F0, F, Gs, A', q⟩
  | false => exact ⟨B, F0, F, Gs, A', q⟩
theorem s1_if {S : Type} {c : Expr} {mc : Res Bool} {a b : List Stmt} {pos : Pos} {M1 M2 : Res S} {post : S → List Slot} (hc : XT X W ss c mc) (ha : SN X W ss a M1 post) (hb : SN X W ss b M2 post) :
    S1 X W ss (.If c a b pos) (mc.bind fun t => if t then M1 else M2) post :=
  ifX (w := fun t => wN X W (if t then M1 else M2) post) hc ha hb fun D B F0 q => wpS_bind q
theorem st_guard {R : Type} {e : Bool} {c : Expr} {mc : Res Bool} {a : List Stmt} {pos : Pos} {M1 M2 : Res R} {kr : R → Slot} (hc : XT X W ss c mc) (ha : ST X W false ss a M1 kr) (hr : ST X W e ss rest M2 kr) :
    ST X W e ss (.If c a [] pos :: rest) (mc.bind fun t => if t then M1 else M2) kr := by
  refine PSs_imp (pss_cons (ps_if hc ha pss_nil) hr) fun D σ H ⟨B, F0, F, Gs, A, z, q⟩ => ⟨A.sl.mono A.ext.sub (Same.refl H), wpS_R (wpS_bind q) A.base fun t q H' s => ?_⟩
  have A' := A.grow s ⟨Same.refl F, A.ext.sub.trans s, fun _ _ h => .inl h⟩
  cases t with
  | true => exact ⟨B, F0, F, Gs, A', (fun h => nomatch h), q⟩
  | false => exact ⟨B, F0, F, Gs, A', z, q⟩
def Res.next {S S' L R : Type} (M : Res (Out S L R)) (k : S → Res (Out S' L R)) : Res (Out S' L R) := M.bind fun o =>
  match o with
  | .nx s => k s
  | .rt r => .ok (.rt r)
  | .bk l => .ok (.bk l)
  | .ct l => .ok (.ct l)
theorem s1_set (i : Nat) {α : Type} {kd : α → Slot} {m : Res α} {x : Str} {e : Expr} {pos pos' : Pos} (h : XK X W ss e m kd) (hN : X.N.Nodup) (hi : X.N[i]? = some x := by rfl) (hx : Loc X.env.scope x := by first | exact Or.inl rfl | exact Or.inr rfl)
    (hs : swapsWith e (some (.Name x pos')) pos.line X.env = pure false := by rfl) (hf : X.fn x = true ∨ X.env.scope.names.lookup x = some .local := by first | exact .inl rfl | exact .inr rfl) : S1 X W ss (.Assign [.Name x pos'] e pos) m (fun a => ss.set i (kd a)) := by
  refine PS_imp (ps_set hN hi hx h hs hf) fun D σ H ⟨B, F0, F, Gs, A, q⟩ => ⟨F, A.ext.sub, A.sl, wpS_R q A.base fun a q v H' F' G' s ex pr k => ?_⟩
  exact q _ H' F' _ (A.set s ex pr k i)
end
end G

namespace G
open PySem PySem.Spec PyProof.Rows L2
class EncA (A : Type) where
  rep : Frag → Hp → List V → A → Prop
  mono : ∀ {K : Frag} {H H' : Hp} {vs : List V} {a : A}, Same H H' → rep K H vs a → rep K H' vs a
class EncP (A : Type) extends EncA A where
  len : Nat
  slots : A → List Slot
  start : ∀ {K : Frag} {H : Hp} {vs : List V} {a : A}, rep K H vs a → vs.length = len ∧ All3 K H (slots a) (List.replicate len noHp) (vs.map some)
instance : EncP Unit where
  rep := fun _ _ vs _ => vs = []
  mono := fun _ h => h
  len := 0
  slots := fun _ => []
  start := fun {K H vs a} h => by
    have h : vs = [] := h
    subst h
    exact ⟨rfl, trivial⟩
instance {α A : Type} [Enc α] [EncP A] : EncP (α × A) where
  rep := fun K H vs x => ∃ v r, vs = v :: r ∧ Enc.rep K H v x.1 ∧ EncA.rep K H r x.2
  mono := fun s ⟨v, r, e, h1, h2⟩ => ⟨v, r, e, Enc.mono s h1, EncA.mono s h2⟩
  len := EncP.len A + 1
  slots := fun x => fr x.1 :: EncP.slots x.2
  start := fun {K H vs x} ⟨v, r, e, h1, h2⟩ => by
    subst e
    obtain ⟨l, q⟩ := EncP.start h2
    exact ⟨by rw [List.length_cons, l], ⟨v, rfl, h1⟩, q⟩
structure Hom (n : Nat) (α : Type) where
  l : List α
instance {n : Nat} {α : Type} [Enc α] : EncA (Hom n α) := ⟨fun K H vs x => x.l.length = n ∧ All2 (fun v a => Enc.rep K H v a) vs x.l, fun s h => ⟨h.1, h.2.mono s⟩⟩
section
variable (X : Cx) (W : WX)
def rA {A : Type} [EncA A] (ss : List Slot) (m : Res A) : TA := fun σ H Q =>
  Sl X.K H H ss σ ∧ wpR X W m σ H fun a => ∀ vs H', Same H H' → EncA.rep X.K H' vs a → Q vs H'
def XA {A : Type} [EncA A] (ss : List Slot) (es : List Expr) (m : Res A) : Prop := PA X es (rA X W ss m)
def rAK {A : Type} [EncA A] (ss : List Slot) (m : Res A) : TA := fun σ H Q =>
  ∃ F, Same F H ∧ Sl X.K F H ss σ ∧ wpR X W m σ H fun a => ∀ vs H' F', Same H H' → Ext F H F' H' → EncA.rep X.K F' vs a → Q vs H'
def XAK {A : Type} [EncA A] (ss : List Slot) (es : List Expr) (m : Res A) : Prop := PA X es (rAK X W ss m)
end
section
variable {X : Cx} {W : WX} {ss : List Slot} {e : Expr} {es : List Expr}
theorem xa_nil : XA X W ss [] (.ok ()) := PA_imp pa_nil fun σ H Q ⟨sl, q⟩ => q [] H (Same.refl H) rfl
theorem xa_cons {α A : Type} [Enc α] [EncP A] {m : Res α} {r : Res A} (h : XI X W ss e m) (t : XA X W ss es r) (hs : starEach (e :: es) X.env = (false, eval e X.env) :: starEach es X.env := by rfl) : XA X W ss (e :: es) (m.bind fun a => r.bind fun as => .ok (a, as)) := by
  refine PA_imp (pa_cons h t hs) fun σ H Q ⟨sl, q⟩ => ⟨sl, wpR_imp (wpR_bind q) (Same.refl H) fun a q v H1 s1 r1 => ⟨sl.mono s1 s1, wpR_imp (wpR_bind q) s1 fun as q vs H2 s2 r2 => ?_⟩⟩
  exact q (v :: vs) H2 (s1.trans s2) ⟨v, vs, rfl, Enc.mono s2 r1, r2⟩
theorem xh_nil {α : Type} [Enc α] : XA X W ss [] (.ok (⟨[]⟩ : Hom 0 α)) := PA_imp pa_nil fun σ H Q ⟨sl, q⟩ => q [] H (Same.refl H) ⟨rfl, trivial⟩
theorem xh_cons {n : Nat} {α : Type} [Enc α] {m : Res α} {r : Res (Hom n α)} (h : XI X W ss e m) (t : XA X W ss es r) (hs : starEach (e :: es) X.env = (false, eval e X.env) :: starEach es X.env := by rfl) :
    XA X W ss (e :: es) (m.bind fun a => r.bind fun as => .ok (⟨a :: as.l⟩ : Hom (n + 1) α)) := by
  refine PA_imp (pa_cons h t hs) fun σ H Q ⟨sl, q⟩ => ⟨sl, wpR_imp (wpR_bind q) (Same.refl H) fun a q v H1 s1 r1 => ⟨sl.mono s1 s1, wpR_imp (wpR_bind q) s1 fun as q vs H2 s2 r2 => ?_⟩⟩
  exact q (v :: vs) H2 (s1.trans s2) ⟨by rw [List.length_cons, r2.1], Enc.mono s2 r1, r2.2⟩
theorem xak_nil : XAK X W ss [] (.ok ()) := PA_imp pa_nil fun σ H Q ⟨F, a, sl, q⟩ => q [] H F (Same.refl H) ⟨Same.refl F, a, fun _ _ h => .inl h⟩ rfl
theorem xak_cons {α A : Type} [Enc α] [EncP A] {m : Res α} {r : Res A} (h : XK X W ss e m fr) (t : XAK X W ss es r) (hs : starEach (e :: es) X.env = (false, eval e X.env) :: starEach es X.env := by rfl) : XAK X W ss (e :: es) (m.bind fun a => r.bind fun as => .ok (a, as)) := by
  refine PA_imp (pa_cons h t hs) fun σ H Q ⟨F, a, sl, q⟩ => ⟨F, a, sl, wpR_imp (wpR_bind q) (Same.refl H) fun x q v H1 F1 G1 s1 ex1 pr1 k1 => ⟨F1, ex1.sub, sl.mono ex1.le s1, wpR_imp (wpR_bind q) s1 fun as q vs H2 F2 s2 ex2 r2 => ?_⟩⟩
  obtain ⟨v', e1, r1⟩ := k1
  cases e1
  exact q (v :: vs) H2 F2 (s1.trans s2) (ex1.trans s1 ex2) ⟨v, vs, rfl, Enc.mono ex2.le r1, r2⟩
theorem xhk_nil {α : Type} [Enc α] : XAK X W ss [] (.ok (⟨[]⟩ : Hom 0 α)) := PA_imp pa_nil fun σ H Q ⟨F, a, sl, q⟩ => q [] H F (Same.refl H) ⟨Same.refl F, a, fun _ _ h => .inl h⟩ ⟨rfl, trivial⟩
theorem xhk_cons {n : Nat} {α : Type} [Enc α] {m : Res α} {r : Res (Hom n α)} (h : XK X W ss e m fr) (t : XAK X W ss es r) (hs : starEach (e :: es) X.env = (false, eval e X.env) :: starEach es X.env := by rfl) : XAK X W ss (e :: es) (m.bind fun a => r.bind fun as => .ok (⟨a :: as.l⟩ : Hom (n + 1) α)) := by
  refine PA_imp (pa_cons h t hs) fun σ H Q ⟨F, a, sl, q⟩ => ⟨F, a, sl, wpR_imp (wpR_bind q) (Same.refl H) fun x q v H1 F1 G1 s1 ex1 pr1 k1 => ⟨F1, ex1.sub, sl.mono ex1.le s1, wpR_imp (wpR_bind q) s1 fun as q vs H2 F2 s2 ex2 r2 => ?_⟩⟩
  obtain ⟨v', e1, r1⟩ := k1
  cases e1
  exact q (v :: vs) H2 F2 (s1.trans s2) (ex1.trans s1 ex2) ⟨by rw [List.length_cons, r2.1], Enc.mono ex2.le r1, r2.2⟩
theorem XA.cast {A : Type} [EncA A] {m m' : Res A} (h : XA X W ss es m) (q : m' = m) : XA X W ss es m' := q ▸ h
end
section
variable {X : Cx} {W : WX} {ss : List Slot} {e : Expr} {es : List Expr} {pos : Pos} {k : Nat}
theorem same_upd {H : Hp} {p : Addr} {o : HO} (h : H p = none) : Same H (upd H p o) := fun b u z => by
  rw [upd_ne (ne_of_none z h)]; exact z
theorem smallLine {n : Nat} (h : n ≤ 1000) : n ≤ sizeLine := Nat.le_of_lt (small1000 h)
theorem xi_pair {α β : Type} [Enc α] [Enc β] {m : Res (α × β × Unit)} {a b : Expr} (h : XA X W ss [a, b] m) : XI X W ss (.Tuple [a, b] k pos) (m.bind fun x => .ok (x.1, x.2.1)) := by
  refine PE_imp (pe_tup h) fun σ H Q ⟨sl, q⟩ => ⟨sl, wpR_imp (wpR_bind q) (Same.refl H) fun x q vs H1 s1 r1 => ?_⟩
  obtain ⟨v1, r, rfl, h1, v2, r', rfl, h2, h3⟩ := r1
  have h3 : r' = [] := h3
  subst h3
  refine ⟨smallLine (by simp), fun p hp => q _ _ (s1.trans (same_upd hp)) ⟨p, v1, v2, rfl, upd_same, Enc.mono (same_upd hp) h1, Enc.mono (same_upd hp) h2⟩⟩
theorem xi_triple {α β γ : Type} [Enc α] [Enc β] [Enc γ] {m : Res (α × β × γ × Unit)} {a b c : Expr} (h : XA X W ss [a, b, c] m) : XI X W ss (.Tuple [a, b, c] k pos) (m.bind fun x => .ok (⟨x.1, x.2.1, x.2.2.1⟩ : T3 α β γ)) := by
  refine PE_imp (pe_tup h) fun σ H Q ⟨sl, q⟩ => ⟨sl, wpR_imp (wpR_bind q) (Same.refl H) fun x q vs H1 s1 r1 => ?_⟩
  obtain ⟨v1, r, rfl, h1, v2, r', rfl, h2, v3, r'', rfl, h3, h4⟩ := r1
  have h4 : r'' = [] := h4
  subst h4
  refine ⟨smallLine (by simp), fun p hp => q _ _ (s1.trans (same_upd hp)) ⟨p, v1, v2, v3, rfl, upd_same, Enc.mono (same_upd hp) h1, Enc.mono (same_upd hp) h2, Enc.mono (same_upd hp) h3⟩⟩
theorem xk_triple {α β γ : Type} [Enc α] [Enc β] [Enc γ] {m : Res (α × β × γ × Unit)} {a b c : Expr} (h : XAK X W ss [a, b, c] m) : XK X W ss (.Tuple [a, b, c] k pos) (m.bind fun x => .ok (⟨x.1, x.2.1, x.2.2.1⟩ : T3 α β γ)) fr := by
  refine PE_imp (pe_tup h) fun σ H Q ⟨F, sf, sl, q⟩ => ⟨F, sf, sl, wpR_imp (wpR_bind q) (Same.refl H) fun x q vs H1 F1 s1 ex1 r1 => ?_⟩
  obtain ⟨v1, r, rfl, h1, v2, r', rfl, h2, v3, r'', rfl, h3, h4⟩ := r1
  have h4 : r'' = [] := h4
  subst h4
  refine ⟨smallLine (by simp), fun p hp => ?_⟩
  have hF : F1 p = none := Same.free ex1.sub hp
  have sF := same_upd (o := HO.tup [v1, v2, v3]) hF
  refine q _ _ (upd F1 p (.tup [v1, v2, v3])) noHp (s1.trans (same_upd hp)) ⟨ex1.le.trans sF, fun b u z => ?_, fun b u z => ?_⟩ priv_no ⟨_, rfl, p, v1, v2, v3, rfl, upd_same, Enc.mono sF h1, Enc.mono sF h2, Enc.mono sF h3⟩
  · by_cases e : b = p
    · subst e; rw [upd_same] at z ⊢; exact z
    · rw [upd_ne e] at z ⊢; exact ex1.sub _ _ z
  · by_cases e : b = p
    · subst e; exact .inr (.inl (Same.free s1 hp))
    · rw [upd_ne e] at z; exact ex1.new _ _ z
theorem xi_tup {n : Nat} {α : Type} [Enc α] {m : Res (Hom n α)} (h : XA X W ss es m) (hn : n ≤ 1000 := by decide) : XI X W ss (.Tuple es k pos) (m.bind fun x => .ok (⟨x.l⟩ : Tup α)) := by
  refine PE_imp (pe_tup h) fun σ H Q ⟨sl, q⟩ => ⟨sl, wpR_imp (wpR_bind q) (Same.refl H) fun x q vs H1 s1 ⟨el, r1⟩ => ?_⟩
  have hv : vs.length = x.l.length := All2.length r1
  exact ⟨smallLine (by omega), fun p hp => q _ _ (s1.trans (same_upd hp)) ⟨p, vs, rfl, SqT.of upd_same, All2.mono (same_upd hp) r1⟩⟩
theorem new_ow {α : Type} [Enc α] {F H H1 F1 : Hp} {p : Addr} {vs : List V} {as : List α} {K : Frag} {Q : VK} (s1 : Same H H1) (ex : Ext F H F1 H1) (hp : H1 p = none) (r : All2 (fun v a => Enc.rep K F1 v a) vs as)
    (q : ∀ v H' F' G', Same H H' → Ext F H F' H' → Priv G' H F' H' → (ow as).P K F' G' (some v) → Q v H') : Q (.ref p) (upd H1 p (.lst vs)) := by
  have hF : F1 p = none := Same.free ex.sub hp
  refine q _ _ F1 (upd noHp p (.lst vs)) (s1.trans (same_upd hp)) ⟨ex.le, ex.sub.trans (same_upd hp), ex.new⟩ (fun b u z => ?_) ⟨p, vs, rfl, upd_same, r⟩
  by_cases e : b = p
  · subst e; rw [upd_same] at z; cases z
    exact ⟨upd_same, Same.free s1 hp, hF, rfl⟩
  · rw [upd_ne e] at z; cases z
theorem xk_lst {n : Nat} {α : Type} [Enc α] {m : Res (Hom n α)} (h : XAK X W ss es m) (hn : n ≤ 1000 := by decide) : XK X W ss (.List es pos) (m.bind fun x => .ok x.l) ow := by
  refine PE_imp (pe_lst h) fun σ H Q ⟨F, sf, sl, q⟩ => ⟨F, sf, sl, wpR_imp (wpR_bind q) (Same.refl H) fun x q vs H1 F1 s1 ex ⟨el, r1⟩ => ?_⟩
  have hv : vs.length = x.l.length := All2.length r1
  exact ⟨smallLine (by omega), fun p hp => new_ow s1 ex hp r1 q⟩
theorem xak_imm {n : Nat} {α : Type} [Enc α] [Imm α] {m : Res (Hom n α)} (h : XA X W ss es m) : XAK X W ss es m := by
  refine PA_imp h fun σ H Q ⟨F, a, sl, q⟩ => ⟨sl.mono a (Same.refl H), wpR_imp q (Same.refl H) fun x q v H' s r => ?_⟩
  exact q v H' _ s (ext_imm a s) ⟨r.1, All2.mono (join_r (a.trans s) (tups_le H')) (All2.imp (fun _ _ z => Imm.imm z) r.2)⟩
end

def spOf (K : Frag) (mg : Str → Option Value) {A R : Type} [EncA A] (f : A → Res R) (kr : R → Slot) : Sp := fun vs H Q E => ∃ (a : A) (F : Hp), EncA.rep K F vs a ∧ Same F H ∧
  match f a with
  | .ok r => ∀ v H' F' G', Same H H' → Ext F H F' H' → Priv G' H F' H' → (kr r).P K F' G' (some v) → Q v H'
  | .exc x => ∀ cls d H', mg x.cls = some cls → Same H H' → payRep x.pay d H' → E cls d H'
  | .stuck => False
abbrev wE (E : L2.XK) : WX := fun cls d _ H => E cls d H
section
variable {P : Program} {w : World} {K : Frag} {mg : Str → Option Value} {base : Heap}
theorem all3_any {K : Frag} {F : Hp} : ∀ n : Nat, All3 K F (List.replicate n any) (List.replicate n noHp) (List.replicate n (none : Option V))
  | 0 => trivial
  | n + 1 => by
    rw [List.replicate_succ, List.replicate_succ, List.replicate_succ]
    exact ⟨trivial, all3_any n⟩
theorem All3.append {K : Frag} {F : Hp} : ∀ {ss ts : List Slot} {Gs Gt : List Hp} {σ τ : L2.St}, All3 K F ss Gs σ → All3 K F ts Gt τ → All3 K F (ss ++ ts) (Gs ++ Gt) (σ ++ τ)
  | [], _, [], _, [], _, _, h => h
  | _ :: _, _, _ :: _, _, _ :: _, _, ⟨x, y⟩, h => ⟨x, All3.append y h⟩
  | [], _, _ :: _, _, _, _, h, _ => h.elim
  | [], _, [], _, _ :: _, _, h, _ => h.elim
  | _ :: _, _, [], _, _, _, h, _ => h.elim
  | _ :: _, _, _ :: _, _, [], _, h, _ => h.elim
theorem pw_no : ∀ n : Nat, (List.replicate n noHp).Pairwise Dj
  | 0 => List.Pairwise.nil
  | n + 1 => by
    rw [List.replicate_succ]
    exact List.pairwise_cons.mpr ⟨fun G m a => .inl rfl, pw_no n⟩
theorem fn_ok {x qual : Str} {st : Stmt} {f : Addr} {fd : FuncData} {N ps : List Str} {k : Nat} {A R : Type} [EncP A] {g : A → Res R} {kr : R → Slot} (F : Fun K x qual st f fd) (S : FnScope N ps (defScope st)) (hl : EncP.len A = ps.length)
    (hbody : ∀ (a : A) (cdv : Value) (A' : Around) (outer : List Env) (s : Shared) (H : Hp) (E : L2.XK), Room k (A'.deeper (envOfC qual (defScope st) s.heap.objs.size f cdv)) →
      ST (cxOf (L2.CX P w) P w K mg base N qual (defScope st) f cdv A' outer s H E) (wE E) true (EncP.slots a ++ List.replicate (N.length - EncP.len A) any) (defBody st) (g a) kr) :
    FnOk P w K mg base (L2.CX P w) (k + 1) f fd ps (spOf K mg g kr) := by
  refine F.okX S (fun vs H Q E ⟨a, F0, r, _⟩ => (EncP.start r).1.trans hl) fun cdv A' outer s H vs Q E hr ⟨a, F0, r, sF, q⟩ => ?_
  refine ⟨_, hbody a cdv A' outer s H E hr, H, F0, F0, List.replicate (EncP.len A) noHp ++ List.replicate (N.length - EncP.len A) noHp, ⟨⟨Same.refl _, sF, fun _ _ h => .inl h⟩, Same.refl _, ?_, ?_, ?_⟩, fun _ _ _ h => h, ?_⟩
  · obtain ⟨l, z⟩ := EncP.start r
    have e : L2.start N vs = vs.map some ++ List.replicate (N.length - EncP.len A) none := by unfold L2.start; rw [l]
    rw [e]
    exact z.append (all3_any _)
  · intro G m b u z
    rw [List.replicate_append_replicate] at m
    rw [(List.mem_replicate.mp m).2] at z
    cases z
  · rw [List.replicate_append_replicate]
    exact pw_no _
  · show wpS _ _ (g a) H _
    cases e : g a with
    | ok r' => rw [e] at q; exact fun v H' F' G' s1 ex pr k => q v H' F' G' s1 ex pr k
    | exc x => rw [e] at q; exact fun σ cls d H' h1 h2 h3 => q cls d H' h1 h2 h3
    | stuck => rw [e] at q; exact q
end
section
variable {X : Cx} {W : WX} {ss : List Slot} {k : Nat} {f : Addr} {fd : FuncData} {ps : List Str} {A R : Type} [EncA A] {g : A → Res R} {kr : R → Slot} {x : Str} {p pos : Pos} {e : Expr} {es : List Expr}
structure Fill (X : Cx) {A' A : Type} [EncA A'] [EncA A] (fd : FuncData) (ps : List Str) (c : A' → A) : Prop where
  ex : ∃ dvs ds, Binds X.K fd ps ds ∧ Vals dvs ds ∧ ∀ H vs a, EncA.rep X.K H vs a → EncA.rep X.K H (vs ++ dvs) (c a)
theorem Fill.all {X : Cx} {A : Type} [EncA A] {fd : FuncData} {ps : List Str} (b : Binds X.K fd ps []) : Fill X fd ps (fun a : A => a) := ⟨[], [], b, .nil, fun H vs a h => by rw [List.append_nil]; exact h⟩
variable {A' : Type} [EncA A'] {c : A' → A}
theorem xi_call [Enc R] [View kr] (F : FnOk X.prog X.w X.K X.mg X.base (L2.CX X.prog X.w) k f fd ps (spOf X.K X.mg g kr)) (hr : Room k X.A) (hm : X.mg x = some (.ref f)) (hk : PySem.W.keepIn X.K (.ref f) = true) (fl : Fill X fd ps c) (tk : Takes X W) {m : Res A'}
    (ha : XA X W ss (e :: es) m) (hg : Gl X x := by rfl) (hdb : (x == ("__debug__" : Str)) = false := by decide) (he : starEach (e :: es) X.env = (false, eval e X.env) :: starEach es X.env := by rfl) (hpl : (backTo pos (starEach es X.env)).any (·.1) = false := by rfl) :
    XI X W ss (.Call (.Name x p) (e :: es) [] pos) (m.bind fun a => g (c a)) := by
  obtain ⟨dvs, ds, hb, hd, hc⟩ := fl.ex
  refine PE_imp (pe_callSD (E := fun σ cls d H => W cls d σ H) F hr hg hm hk hb hd (fun σ => passAt tk σ) ha hdb he hpl) fun σ H Q ⟨sl, q⟩ => ⟨sl, wpR_imp (wpR_bind q) (Same.refl H) fun a q vs H1 s1 r1 => ?_⟩
  refine ⟨c a, H1, hc _ _ _ r1, Same.refl _, ?_⟩
  cases eg : g (c a) with
  | ok r => rw [eg] at q; exact fun v H' F' G' s2 ex pr k => q v H' (s1.trans s2) (View.view ((kr r).mono ex.sub (fun b u z => (pr b u z).1) k))
  | exc x => rw [eg] at q; exact fun cls d H' h1 h2 h3 => q cls d H' h1 (s1.trans h2) h3
  | stuck => rw [eg] at q; exact q
class KImm {R : Type} (kr : R → Slot) : Prop where
  imm : ∀ {K : Frag} {F G : Hp} {o : Option V} {r : R}, (kr r).P K F G o → (kr r).P K (tups F) G o
instance {α : Type} [Enc α] [Imm α] : KImm (fr (α := α)) := ⟨fun ⟨v, e, r⟩ => ⟨v, e, Imm.imm r⟩⟩
instance {α : Type} [Enc α] [Imm α] : KImm (ow (α := α)) := ⟨fun ⟨p, vs, e, g, r⟩ => ⟨p, vs, e, g, All2.imp (fun _ _ z => Imm.imm z) r⟩⟩
theorem xk_call [KImm kr] (F : FnOk X.prog X.w X.K X.mg X.base (L2.CX X.prog X.w) k f fd ps (spOf X.K X.mg g kr)) (hr : Room k X.A) (hm : X.mg x = some (.ref f)) (hk : PySem.W.keepIn X.K (.ref f) = true) (fl : Fill X fd ps c) (tk : Takes X W) {m : Res A'}
    (ha : XA X W ss (e :: es) m) (hg : Gl X x := by rfl) (hdb : (x == ("__debug__" : Str)) = false := by decide) (he : starEach (e :: es) X.env = (false, eval e X.env) :: starEach es X.env := by rfl) (hpl : (backTo pos (starEach es X.env)).any (·.1) = false := by rfl) :
    XK X W ss (.Call (.Name x p) (e :: es) [] pos) (m.bind fun a => g (c a)) kr := by
  obtain ⟨dvs, ds, hb, hd, hc⟩ := fl.ex
  refine PE_imp (pe_callSD (E := fun σ cls d H => W cls d σ H) F hr hg hm hk hb hd (fun σ => passAt tk σ) ha hdb he hpl) fun σ H Q ⟨F0, sf, sl, q⟩ => ⟨sl.mono sf (Same.refl H), wpR_imp (wpR_bind q) (Same.refl H) fun a q vs H1 s1 r1 => ?_⟩
  refine ⟨c a, H1, hc _ _ _ r1, Same.refl _, ?_⟩
  cases eg : g (c a) with
  | ok r =>
    rw [eg] at q
    intro v H' F' G' s2 ex pr k
    have sH := sf.trans (s1.trans s2)
    refine q v H' (join F0 (tups H')) G' (s1.trans s2) (ext_imm sf (s1.trans s2)) (fun b u z => ?_) ((kr r).mono ((tups_mono ex.sub).trans (join_r sH (tups_le H'))) (Same.refl G') (KImm.imm k))
    obtain ⟨h1, h2, h3, h4⟩ := pr b u z
    refine ⟨h1, Same.free s1 h2, ?_, h4⟩
    cases ej : join F0 (tups H') b with
    | none => rfl
    | some y =>
      rcases join_or ej with z' | z'
      · have := (sf.trans s1) _ _ z'
        rw [h2] at this; cases this
      · have t1 := tups_isT z'
        have t2 := tups_le H' _ _ z'
        rw [h1] at t2; cases t2
        rw [h4] at t1; cases t1
  | exc x => rw [eg] at q; exact fun cls d H' h1 h2 h3 => q cls d H' h1 (s1.trans h2) h3
  | stuck => rw [eg] at q; exact q
theorem xk_callF (F : FnOk X.prog X.w X.K X.mg X.base (L2.CX X.prog X.w) k f fd ps (spOf X.K X.mg g kr)) (hr : Room k X.A) (hm : X.mg x = some (.ref f)) (hk : PySem.W.keepIn X.K (.ref f) = true) (fl : Fill X fd ps c) (tk : Takes X W) {m : Res A'}
    (ha : XAK X W ss (e :: es) m) (hg : Gl X x := by rfl) (hdb : (x == ("__debug__" : Str)) = false := by decide) (he : starEach (e :: es) X.env = (false, eval e X.env) :: starEach es X.env := by rfl) (hpl : (backTo pos (starEach es X.env)).any (·.1) = false := by rfl) :
    XK X W ss (.Call (.Name x p) (e :: es) [] pos) (m.bind fun a => g (c a)) kr := by
  obtain ⟨dvs, ds, hb, hd, hc⟩ := fl.ex
  refine PE_imp (pe_callSD (E := fun σ cls d H => W cls d σ H) F hr hg hm hk hb hd (fun σ => passAt tk σ) ha hdb he hpl) fun σ H Q ⟨F0, sf, sl, q⟩ => ⟨F0, sf, sl, wpR_imp (wpR_bind q) (Same.refl H) fun a q vs H1 F1 s1 ex1 r1 => ?_⟩
  refine ⟨c a, F1, hc _ _ _ r1, ex1.sub, ?_⟩
  cases eg : g (c a) with
  | ok r =>
    rw [eg] at q
    exact fun v H' F' G' s2 ex pr k => q v H' F' G' (s1.trans s2) (ex1.trans s1 ex) (fun b u z => ⟨(pr b u z).1, Same.free s1 (pr b u z).2.1, (pr b u z).2.2⟩) k
  | exc x => rw [eg] at q; exact fun cls d H' h1 h2 h3 => q cls d H' h1 (s1.trans h2) h3
  | stuck => rw [eg] at q; exact q
end
end G

namespace G
open PySem PySem.Spec PyProof.Rows L2
structure ItOk {α : Type} [Enc α] (K : Frag) (J : It) (xs : List α) (F0 : Hp) : Prop where
  go : ∀ i F H a, Same F0 F → Same F H → xs[i]? = some a → J.go i H ∧ ∀ v H', J.yld i H v H' → Same H H' ∧ ∃ F', Ext F H F' H' ∧ Enc.rep K F' v a
  stop : ∀ i F H, Same F0 F → Same F H → xs.length ≤ i → J.stop i H
section
variable (X : Cx) (W : WX)
def rdPI {α : Type} [Enc α] (ss : List Slot) (m : Res (List α)) : TI := fun σ H R =>
  ∃ F, Same F H ∧ Sl X.K F H ss σ ∧ wpR X W m σ H fun xs => ∀ J H' F', Same H H' → Ext F H F' H' → ItOk X.K J xs F' → R J H'
def XIt {α : Type} [Enc α] (ss : List Slot) (tg iter : Expr) (m : Res (List α)) : Prop := PI X tg iter (rdPI X W ss m)
def Tg {α : Type} [Enc α] (tg : Expr) (u : α → List Slot → List Slot) : Prop :=
  ∃ g, PG X tg g ∧ ∀ (a : α) (v : V) (B F0 F H : Hp) (Gs : List Hp) (ss : List Slot) (σ : L2.St) (Q : L2.St → Hp → Prop), Asn X.K B F0 ss σ H F Gs → Enc.rep X.K F v a →
    (∀ σ' Gs', Asn X.K B F0 (u a ss) σ' H F Gs' → Q σ' H) → g v σ H Q
end
section
variable {X : Cx} {W : WX} {ss : List Slot} {tg : Expr}
theorem PI_imp {e : Expr} {t t' : TI} (h : PI X tg e t) (f : ∀ σ H R, t' σ H R → t σ H R) : PI X tg e t' := ⟨fun pins s σ H R I q => h.run pins s σ H R I (f _ _ _ q)⟩
theorem ext_refl {F H : Hp} (s : Same F H) : Ext F H F H := ⟨Same.refl _, s, fun _ _ h => .inl h⟩
theorem it_list {α : Type} [Enc α] {e : Expr} {m : Res (List α)} (h : XK X W ss e m fr) : XIt X W ss tg e m := by
  refine PI_imp (pi_list h) fun σ H R ⟨F, sf, sl, q⟩ => ⟨F, sf, sl, wpR_imp q (Same.refl H) fun xs q v H1 F1 G1 s1 ex1 _ k1 => ?_⟩
  obtain ⟨v', e1, p, vs, rfl, hp, r⟩ := k1
  cases e1
  refine ⟨p, rfl, ⟨vs, SqL.of (ex1.sub _ _ hp)⟩, q _ H1 F1 s1 ex1 ⟨fun i F2 H2 a sa sb hi => ?_, fun i F2 H2 sa sb hi => ⟨vs, SqL.of (sb _ _ (sa _ _ hp)), by rw [r.length]; exact hi⟩⟩⟩
  obtain ⟨v, hv, rv⟩ := r.get hi
  refine ⟨⟨vs, v, SqL.of (sb _ _ (sa _ _ hp)), hv⟩, fun v' H' ⟨e, y⟩ => ?_⟩
  subst e
  have ev : v' = v := Option.some.inj ((y vs (SqL.of (sb _ _ (sa _ _ hp)))).symm.trans hv)
  subst ev
  exact ⟨Same.refl _, F2, ext_refl sb, Enc.mono sa rv⟩
theorem it_tup {α : Type} [Enc α] {e : Expr} {m : Res (Tup α)} (h : XK X W ss e m fr) : XIt X W ss tg e (m.bind fun x => .ok x.l) := by
  refine PI_imp (pi_tup h) fun σ H R ⟨F, sf, sl, q⟩ => ⟨F, sf, sl, wpR_imp (wpR_bind q) (Same.refl H) fun xs q v H1 F1 G1 s1 ex1 _ k1 => ?_⟩
  obtain ⟨v', e1, p, vs, rfl, hp, r⟩ := k1
  cases e1
  refine ⟨p, rfl, ⟨vs, seqT ex1.sub hp⟩, q _ H1 F1 s1 ex1 ⟨fun i F2 H2 a sa sb hi => ?_, fun i F2 H2 sa sb hi => ⟨vs, seqT (sa.trans sb) hp, by rw [r.length]; exact hi⟩⟩⟩
  obtain ⟨v, hv, rv⟩ := r.get hi
  refine ⟨⟨vs, v, seqT (sa.trans sb) hp, hv⟩, fun v' H' ⟨e, y⟩ => ?_⟩
  subst e
  have ev : v' = v := Option.some.inj ((y vs (seqT (sa.trans sb) hp)).symm.trans hv)
  subst ev
  exact ⟨Same.refl _, F2, ext_refl sb, Enc.mono sa rv⟩
def rangeL (lo : Int) (n : Nat) : List Int := (List.range n).map fun (i : Nat) => lo + (i : Int)
theorem rangeL_get {lo : Int} {n i : Nat} {a : Int} (h : (rangeL lo n)[i]? = some a) : i < n ∧ a = lo + (i : Int) := by
  unfold rangeL at h
  rw [List.getElem?_map] at h
  by_cases hi : i < n
  · rw [List.getElem?_range hi] at h
    exact ⟨hi, (Option.some.inj h).symm⟩
  · rw [List.getElem?_eq_none (by rw [List.length_range]; omega)] at h
    cases h
theorem rangeL_len (lo : Int) (n : Nat) : (rangeL lo n).length = n := by unfold rangeL; rw [List.length_map, List.length_range]
theorem itok_range {K : Frag} {lo : Int} {n : Nat} {F0 : Hp} : ItOk K (Itr lo n) (rangeL lo n) F0 :=
  ⟨fun i F H a sa sb hi => ⟨(rangeL_get hi).1, fun v H' ⟨e, y⟩ => by
    subst e
    exact ⟨Same.refl _, F, ext_refl sb, by rw [y, (rangeL_get hi).2]; rfl⟩⟩, fun i F H sa sb hi => by rw [rangeL_len] at hi; exact hi⟩
def small62 (i : Int) : Bool := decide (-(2 ^ 62) ≤ i) && decide (i < 2 ^ 62)
theorem small62_of {i : Int} (h : small62 i = true) : -(2 ^ 62) ≤ i ∧ i < 2 ^ 62 := by
  unfold small62 at h
  rw [Bool.and_eq_true] at h
  exact ⟨of_decide_eq_true h.1, of_decide_eq_true h.2⟩
theorem wpR_guard {α : Type} {c : Bool} {m : Res α} {σ : L2.St} {H : Hp} {P : α → Prop} (h : wpR X W (guardR c m) σ H P) : c = true ∧ wpR X W m σ H P := by
  cases c with
  | true => exact ⟨rfl, h⟩
  | false => exact h.elim
theorem it_range1 {e : Expr} {m : Res (Int × Unit)} {p pos : Pos} (ha : XA X W ss [e] m) (hm : X.mg "range" = none) (hg : Gl X "range" := by rfl) (hs : starEach [e] X.env = [(false, eval e X.env)] := by rfl) :
    XIt X W ss tg (.Call (.Name "range" p) [e] [] pos) (m.bind fun n => guardR (small62 n.1) (.ok (rangeL 0 n.1.toNat))) := by
  refine PI_imp (pi_range1 hg hm ha hs) fun σ H R ⟨F, sf, sl, q⟩ => ⟨sl.mono sf (Same.refl H), wpR_imp (wpR_bind q) (Same.refl H) fun n q' vs H1 s1 r1 => ?_⟩
  obtain ⟨v, r, e1, e2, e3⟩ := r1
  have e2 : v = .int n.1 := e2
  have e3 : r = [] := e3
  subst e1; subst e2; subst e3
  obtain ⟨g, q'⟩ := wpR_guard q'
  obtain ⟨h1, h2⟩ := small62_of g
  exact ⟨n.1, rfl, h1, h2, q' _ H1 F s1 ⟨Same.refl F, sf.trans s1, fun _ _ h => .inl h⟩ itok_range⟩
def signsOf (x : Str) : List Str := x.cps.toList.map fun c => ⟨#[c]⟩
def enumL {α : Type} (xs : List α) : List (Int × α) := xs.mapIdx fun i a => ((i : Int), a)
theorem it_enum {α : Type} [Enc α] {e : Expr} {m : Res (List α)} {p pos tpos : Pos} {elts : List Expr} {kk : Nat} (h : XAK X W ss [e] (m.bind fun a => .ok ((a, ()) : List α × Unit))) (hm : X.mg "enumerate" = none) (hg : Gl X "enumerate" := by rfl) (hs : starEach [e] X.env = [(false, eval e X.env)] := by rfl) :
    XIt X W ss (.Tuple elts kk tpos) (.Call (.Name "enumerate" p) [e] [] pos) (m.bind fun xs => .ok (enumL xs)) := by
  refine PI_imp (pi_enum hg hm h hs) fun σ H R ⟨F, sf, sl, q⟩ => ⟨F, sf, sl, ?_⟩
  have q' := wpR_bind q
  cases m with
  | exc x => exact q'
  | stuck => exact q'
  | ok xs =>
    intro ws H1 F1 s1 ex1 ⟨v, r, e1, ⟨p, vs, e2, hp, rv⟩, e3⟩
    have e3 : r = [] := e3
    subst e1; subst e2; subst e3
    refine ⟨p, vs, rfl, SqL.of (ex1.sub _ _ hp), q' _ H1 F1 s1 ex1 ⟨fun i F2 H2 a sa sb hi => ?_, fun i F2 H2 sa sb hi => ⟨vs, SqL.of (sb _ _ (sa _ _ hp)), ?_⟩⟩⟩
    · unfold enumL at hi
      rw [List.getElem?_mapIdx] at hi
      cases ex : xs[i]? with
      | none => rw [ex] at hi; cases hi
      | some b =>
        rw [ex] at hi
        have ea : ((i : Int), b) = a := Option.some.inj hi
        subst ea
        obtain ⟨v, hv, rb⟩ := rv.get ex
        have hS : SqL X.K H2 p vs := SqL.of (sb _ _ (sa _ _ hp))
        refine ⟨⟨vs, v, hS, hv⟩, fun v' H' ⟨T, x, e1, nT, e2, y⟩ => ?_⟩
        subst e1; subst e2
        have ev : x = v := Option.some.inj ((y vs hS).symm.trans hv)
        subst ev
        have nF : F2 T = none := Same.free sb nT
        have sF := same_upd (o := HO.tup [.int (i : Nat), x]) nF
        refine ⟨same_upd nT, upd F2 T (.tup [.int (i : Nat), x]), ⟨sF, fun b u z => ?_, fun b u z => ?_⟩, T, _, _, rfl, upd_same, rfl, Enc.mono (sa.trans sF) rb⟩
        · by_cases e : b = T
          · subst e; rw [upd_same] at z ⊢; exact z
          · rw [upd_ne e] at z ⊢; exact sb _ _ z
        · by_cases e : b = T
          · subst e; exact .inr (.inl nT)
          · rw [upd_ne e] at z; exact .inl z
    · unfold enumL at hi
      rw [List.length_mapIdx] at hi
      rw [rv.length]; exact hi
theorem tg_name (i : Nat) {α : Type} [Enc α] {x : Str} {pos : Pos} (hN : X.N.Nodup) (hi : X.N[i]? = some x := by rfl) (hx : Loc X.env.scope x := by first | exact Or.inl rfl | exact Or.inr rfl)
    (hf : X.fn x = true ∨ X.env.scope.names.lookup x = some .local := by first | exact .inl rfl | exact .inr rfl) : Tg X (α := α) (.Name x pos) (fun a ss => ss.set i (fr a)) :=
  ⟨_, pg_name hN hi hx hf, fun a v B F0 F H Gs ss σ Q A r q => q _ _ (A.set (s := fr a) (Same.refl H) (ext_refl A.ext.sub) priv_no ⟨v, rfl, r⟩ i)⟩
theorem tg_two {α β : Type} [Enc α] [Enc β] {t1 t2 : Expr} {k : Nat} {pos : Pos} {u1 : α → List Slot → List Slot} {u2 : β → List Slot → List Slot} (h1 : Tg X t1 u1) (h2 : Tg X t2 u2) (hc : X.calm = true := by rfl)
    (hs1 : (assignEach [t1, t2] X.env).map (·.2) = assign t1 X.env :: (assignEach [t2] X.env).map (·.2) := by rfl) (hs2 : (assignEach [t2] X.env).map (·.2) = assign t2 X.env :: (assignEach [] X.env).map (·.2) := by rfl)
    (hn : (assignEach [t1, t2] X.env).length = 2 := by rfl) (hst : (assignEach [t1, t2] X.env).findIdx? (·.1) = none := by rfl) :
    Tg X (.Tuple [t1, t2] k pos) (fun (x : α × β) ss => u2 x.2 (u1 x.1 ss)) := by
  obtain ⟨g1, p1, q1⟩ := h1
  obtain ⟨g2, p2, q2⟩ := h2
  refine ⟨_, pg_tup hc (pgs_cons p1 (pgs_cons p2 pgs_nil hs2) hs1) hn hst, fun a v B F0 F H Gs ss σ Q A r q => ?_⟩
  obtain ⟨p, v1, v2, rfl, hp, r1, r2⟩ := r
  refine ⟨p, [v1, v2], rfl, SqT.of (A.ext.sub _ _ hp), rfl, v1, [v2], rfl, q1 _ _ _ _ _ _ _ _ _ _ A r1 fun σ1 Gs1 A1 => ⟨v2, [], rfl, q2 _ _ _ _ _ _ _ _ _ _ A1 r2 fun σ2 Gs2 A2 => ⟨rfl, q σ2 Gs2 A2⟩⟩⟩
theorem tg_three {α β γ : Type} [Enc α] [Enc β] [Enc γ] {t1 t2 t3 : Expr} {k : Nat} {pos : Pos} {u1 : α → List Slot → List Slot} {u2 : β → List Slot → List Slot} {u3 : γ → List Slot → List Slot} (h1 : Tg X t1 u1) (h2 : Tg X t2 u2) (h3 : Tg X t3 u3) (hc : X.calm = true := by rfl)
    (hs1 : (assignEach [t1, t2, t3] X.env).map (·.2) = assign t1 X.env :: (assignEach [t2, t3] X.env).map (·.2) := by rfl) (hs2 : (assignEach [t2, t3] X.env).map (·.2) = assign t2 X.env :: (assignEach [t3] X.env).map (·.2) := by rfl)
    (hs3 : (assignEach [t3] X.env).map (·.2) = assign t3 X.env :: (assignEach [] X.env).map (·.2) := by rfl)
    (hn : (assignEach [t1, t2, t3] X.env).length = 3 := by rfl) (hst : (assignEach [t1, t2, t3] X.env).findIdx? (·.1) = none := by rfl) :
    Tg X (.Tuple [t1, t2, t3] k pos) (fun (x : T3 α β γ) ss => u3 x.c (u2 x.b (u1 x.a ss))) := by
  obtain ⟨g1, p1, q1⟩ := h1
  obtain ⟨g2, p2, q2⟩ := h2
  obtain ⟨g3, p3, q3⟩ := h3
  refine ⟨_, pg_tup hc (pgs_cons p1 (pgs_cons p2 (pgs_cons p3 pgs_nil hs3) hs2) hs1) hn hst, fun a v B F0 F H Gs ss σ Q A r q => ?_⟩
  obtain ⟨p, v1, v2, v3, rfl, hp, r1, r2, r3⟩ := r
  refine ⟨p, [v1, v2, v3], rfl, SqT.of (A.ext.sub _ _ hp), rfl, v1, [v2, v3], rfl, q1 _ _ _ _ _ _ _ _ _ _ A r1 fun σ1 Gs1 A1 => ⟨v2, [v3], rfl, q2 _ _ _ _ _ _ _ _ _ _ A1 r2 fun σ2 Gs2 A2 => ⟨v3, [], rfl, q3 _ _ _ _ _ _ _ _ _ _ A2 r3 fun σ3 Gs3 A3 => ⟨rfl, q σ3 Gs3 A3⟩⟩⟩⟩
theorem s1_asg {α : Type} [Enc α] {u : α → List Slot → List Slot} {m : Res α} {e : Expr} {pos : Pos} (h : XK X W ss e m fr) (hg : Tg X tg u) (hs : swapsWithSole [tg] e pos.line X.env = pure false := by rfl) (hw : swappedStores [tg] e X.env = pure none := by rfl)
    (h1 : (assignEach [tg] X.env).map (·.2) = [assign tg X.env] := by rfl) : S1 X W ss (.Assign [tg] e pos) m (fun a => u a ss) := by
  obtain ⟨g, pg, qg⟩ := hg
  refine PS_imp (ps_asg h pg hs hw h1) fun D σ H ⟨B, F0, F, Gs, A, q⟩ => ⟨F, A.ext.sub, A.sl, wpS_R q A.base fun a q v H' F' G' s ex _ ⟨v', e1, r⟩ => ?_⟩
  cases e1
  exact qg a v B F0 F' H' Gs ss σ _ (A.grow s ex) r fun σ' Gs' A' => q σ' H' F' Gs' A'
def foldR {S α : Type} (f : S → α → Res S) : S → List α → Res S
  | s, [] => .ok s
  | s, a :: as => (f s a).bind fun s' => foldR f s' as
def loopO {S L R α : Type} (f : S → α → Res (Out S S R)) : S → List α → Res (Out S L R)
  | s, [] => .ok (.nx s)
  | s, a :: as => (f s a).bind fun o => match o with
    | .nx s' => loopO f s' as
    | .ct s' => loopO f s' as
    | .bk s' => .ok (.nx s')
    | .rt r => .ok (.rt r)
def B1 (X : Cx) (W : WX) {S L R : Type} (ss : List Slot) (st : Stmt) (M : Res (Out S L R)) (post : S → List Slot) (pl : L → List Slot) (kr : R → Slot) : Prop := PS X st (rdX X ss (wB X W M post pl kr))
theorem for_core {S L R α : Type} [Enc α] {iter : Expr} {body : List Stmt} {pos : Pos} {u : α → List Slot → List Slot} {m : Res (List α)} {f : S → α → Res (Out S S R)} {inv : S → List Slot} {s0 : S} {pl : L → List Slot} {kr : R → Slot}
    (hp : PassesOwn (model X.prog X.w) X.A X.env X.xe) (hc : X.calm = true) (hi : XIt X W ss tg iter m) (hg : Tg X tg u) (h0 : Wk ss (inv s0)) (hb : ∀ s a, SB X W (u a (inv s)) body (f s a) inv inv kr) (hs : ∀ x, foldedSetIterable iter X.env x = pure x) :
    B1 X W ss (.For tg iter body [] pos) (m.bind fun xs => loopO f s0 xs) inv pl kr := by
  obtain ⟨g, pg, qg⟩ := hg
  have hb' : PSs X body fun D σ H => ∃ s a, rdX X (u a (inv s)) (wB X W (f s a) inv inv kr) D σ H := ⟨fun pins s σ H D I ⟨s', a, q⟩ => (hb s' a).run pins s σ H D I q⟩
  refine PS_imp (ps_for hp hc hi pg hb' hs) fun D σ H ⟨B, F0, F, Gs, A, q⟩ => ⟨F, A.ext.sub, A.sl, wpS_R (wpS_bind q) A.base fun xs q J H1 F1 s1 ex1 it => ?_⟩
  have A1 := (A.grow s1 ex1).wk h0
  -- the walk's own frame: F1
  have up : ∀ {F2 H2 : Hp}, Ext F1 B F2 H2 → Ext F0 B F2 H2 := fun {F2 H2} ex => ⟨A1.ext.le.trans ex.le, ex.sub, fun b u z => (ex.new b u z).elim (A1.ext.new b u) .inr⟩
  have upA : ∀ {ss : List Slot} {σ : L2.St} {H2 F2 : Hp} {Gs : List Hp}, Asn X.K B F1 ss σ H2 F2 Gs → Asn X.K B F0 ss σ H2 F2 Gs := fun a => ⟨up a.ext, a.base, a.all, a.priv, a.dj⟩
  refine ⟨fun i n σ H => i + n = xs.length ∧ ∃ s F2 Gs2, Asn X.K B F1 (inv s) σ H F2 Gs2 ∧ wpS X W (loopO f s (xs.drop i)) B fun o => match o with
      | .nx s => NxOk X (inv s) D B F0
      | .rt r => RtOk X kr r D B F0
      | .bk l => BkOk X (pl l) D B F0
      | .ct l => CtOk X (pl l) D B F0, ⟨xs.length, by omega, s0, F1, Gs, ⟨ext_refl A1.ext.sub |> fun e => ⟨e.le, e.sub, fun _ _ h => .inl h⟩, A1.base, A1.all, A1.priv, A1.dj⟩, q⟩, fun i n σ H ⟨hn, s, F2, Gs2, A2, q2⟩ => ?_⟩
  by_cases hlt : i < xs.length
  · refine .inr ?_
    have hx : xs[i]? = some xs[i] := List.getElem?_eq_getElem hlt
    obtain ⟨hgo, hy⟩ := it.go i F2 H xs[i] A2.ext.le A2.ext.sub hx
    rw [List.drop_eq_getElem_cons hlt] at q2
    have q2 := wpS_bind (show wpS X W ((f s xs[i]).bind _) B _ from q2)
    refine ⟨hgo, fun σ' H' => ∃ s' F3 Gs3, Asn X.K B F1 (inv s') σ' H' F3 Gs3 ∧ wpS X W (loopO f s' (xs.drop (i + 1))) B fun o => match o with
      | .nx s => NxOk X (inv s) D B F0
      | .rt r => RtOk X kr r D B F0
      | .bk l => BkOk X (pl l) D B F0
      | .ct l => CtOk X (pl l) D B F0, fun σ' H' ⟨s', F3, Gs3, A3, q3⟩ => ⟨n - 1, by omega, by omega, s', F3, Gs3, A3, q3⟩, fun v H' y => ?_⟩
    obtain ⟨s3, F3, ex3, r3⟩ := hy v H' y
    refine qg xs[i] v B F1 F3 H' Gs2 (inv s) σ _ (A2.grow s3 ex3) r3 fun σ4 Gs4 A4 => ⟨s, xs[i], B, F1, F3, Gs4, A4, wpS_imp q2 fun o q5 => ?_⟩
    cases o with
    | nx s' => exact fun σ' H' F' Gs' A' => ⟨s', F', Gs', A', q5⟩
    | ct s' => exact fun σ' H' F' Gs' A' => ⟨s', F', Gs', A', q5⟩
    | bk s' => exact fun σ' H' F' Gs' A' => q5 σ' H' F' Gs' (upA A')
    | rt r => exact fun v H' F' G' a b c d => q5 v H' F' G' a (up b) c d
  · have e : xs.drop i = [] := List.drop_eq_nil_iff.mpr (by omega)
    rw [e] at q2
    exact .inl ⟨it.stop i F2 H A2.ext.le A2.ext.sub (by omega), q2 σ H F2 Gs2 (upA A2)⟩
theorem loopO_fold {S L R α : Type} (f : S → α → Res S) : ∀ (xs : List α) (s : S), loopO (L := L) (R := R) (fun s a => (f s a).bind fun s' => .ok (.nx s')) s xs = (foldR f s xs).bind fun s => .ok (.nx s)
  | [], s => rfl
  | a :: as, s => by
    show ((f s a).bind _).bind _ = ((f s a).bind _).bind _
    cases f s a with
    | ok s' => exact loopO_fold f as s'
    | exc x => rfl
    | stuck => rfl
theorem sb_of_sn {S L R : Type} {sts : List Stmt} {M : Res S} {post : S → List Slot} {pl : L → List Slot} {kr : R → Slot} (h : SN X W ss sts M post) : SB X W ss sts (M.bind fun s => .ok (.nx s)) post pl kr :=
  PSs_imp h fun D σ H ⟨B, F0, F, Gs, A, q⟩ => ⟨B, F0, F, Gs, A, wpS_imp (wpS_bind q) fun _ z => z⟩
theorem b1_for {S L R α : Type} [Enc α] {iter : Expr} {body : List Stmt} {pos : Pos} {u : α → List Slot → List Slot} {m : Res (List α)} {f : S → α → Res (Out S S R)} (inv : S → List Slot) (s0 : S) {pl : L → List Slot} {kr : R → Slot}
    (hi : XIt X W ss tg iter m) (hg : Tg X tg u) (hb : ∀ s a, SB X W (u a (inv s)) body (f s a) inv inv kr) (h0 : Wk ss (inv s0) := by exact Wk.refl _)
    (hp : PassesOwn (model X.prog X.w) X.A X.env X.xe := by exact passes_of rfl) (hc : X.calm = true := by rfl) (hs : ∀ x, foldedSetIterable iter X.env x = pure x := by intro _; rfl) :
    B1 X W ss (.For tg iter body [] pos) (m.bind fun xs => loopO f s0 xs) inv pl kr := for_core hp hc hi hg h0 hb hs
theorem s1_for {S α : Type} [Enc α] {iter : Expr} {body : List Stmt} {pos : Pos} {u : α → List Slot → List Slot} {m : Res (List α)} {f : S → α → Res S} (inv : S → List Slot) (s0 : S)
    (hi : XIt X W ss tg iter m) (hg : Tg X tg u) (hb : ∀ s a, SN X W (u a (inv s)) body (f s a) inv) (h0 : Wk ss (inv s0) := by exact Wk.refl _)
    (hp : PassesOwn (model X.prog X.w) X.A X.env X.xe := by exact passes_of rfl) (hc : X.calm = true := by rfl) (hs : ∀ x, foldedSetIterable iter X.env x = pure x := by intro _; rfl) :
    S1 X W ss (.For tg iter body [] pos) (m.bind fun xs => foldR f s0 xs) inv := by
  refine PS_imp (for_core (L := Empty) (R := Unit) (f := fun s a => (f s a).bind fun s' => .ok (.nx s')) (pl := fun x => nomatch x) (kr := fun _ => any) hp hc hi hg h0 (fun s a => sb_of_sn (hb s a)) hs) fun D σ H ⟨B, F0, F, Gs, A, q⟩ => ⟨B, F0, F, Gs, A, ?_⟩
  cases m with
  | ok xs =>
    show wpS X W (loopO _ s0 xs) B _
    rw [loopO_fold]
    have q : wpS X W (foldR f s0 xs) B _ := q
    cases e : foldR f s0 xs with
    | ok s => rw [e] at q; exact q
    | exc x => rw [e] at q; exact q
    | stuck => rw [e] at q; exact q
  | exc x => exact q
  | stuck => exact q
theorem sb_b1 {S S' L R : Type} {st : Stmt} {rest : List Stmt} {M1 : Res (Out S L R)} {k : S → Res (Out S' L R)} {mid : S → List Slot} {post : S' → List Slot} {pl : L → List Slot} {kr : R → Slot} (h1 : B1 X W ss st M1 mid pl kr) (h2 : ∀ s, SB X W (mid s) rest (k s) post pl kr) :
    SB X W ss (st :: rest) (M1.next k) post pl kr := by
  have h2' : PSs X rest fun D σ H => ∃ s, rdX X (mid s) (wB X W (k s) post pl kr) D σ H := ⟨fun pins s σ H D I ⟨a, q⟩ => (h2 a).run pins s σ H D I q⟩
  refine PSs_imp (pss_cons h1 h2') fun D σ H ⟨B, F0, F, Gs, A, q⟩ => ⟨B, F0, F, Gs, A, wpS_imp (wpS_bind q) fun o q => ?_⟩
  cases o with
  | nx s => exact fun σ' H' F' Gs' A' => ⟨s, B, F0, F', Gs', A', q⟩
  | rt r => exact q
  | bk l => exact q
  | ct l => exact q
def Res.tail {S R : Type} (M : Res (Out S Empty R)) (k : S → Res R) : Res R := M.bind fun o =>
  match o with
  | .nx s => k s
  | .rt r => .ok r
theorem st_b1 {S R : Type} {e : Bool} {st : Stmt} {rest : List Stmt} {M1 : Res (Out S Empty R)} {k : S → Res R} {mid : S → List Slot} {pl : Empty → List Slot} {kr : R → Slot} (h1 : B1 X W ss st M1 mid pl kr) (h2 : ∀ s, ST X W e (mid s) rest (k s) kr) :
    ST X W e ss (st :: rest) (M1.tail k) kr := by
  have h2' : PSs X rest fun D σ H => ∃ s, rdX X (mid s) (wT X W e (k s) kr) D σ H := ⟨fun pins s σ H D I ⟨a, q⟩ => (h2 a).run pins s σ H D I q⟩
  refine PSs_imp (pss_cons h1 h2') fun D σ H ⟨B, F0, F, Gs, A, z, q⟩ => ⟨B, F0, F, Gs, A, wpS_imp (wpS_bind q) fun o q => ?_⟩
  cases o with
  | nx s => exact fun σ' H' F' Gs' A' => ⟨s, B, F0, F', Gs', A', z, q⟩
  | rt r => exact q
  | bk l => exact nomatch l
  | ct l => exact nomatch l
theorem b1_if {S L R : Type} {c : Expr} {mc : Res Bool} {a b : List Stmt} {pos : Pos} {M1 M2 : Res (Out S L R)} {post : S → List Slot} {pl : L → List Slot} {kr : R → Slot} (hc : XT X W ss c mc) (ha : SB X W ss a M1 post pl kr) (hb : SB X W ss b M2 post pl kr) :
    B1 X W ss (.If c a b pos) (mc.bind fun t => if t then M1 else M2) post pl kr :=
  ifX (w := fun t => wB X W (if t then M1 else M2) post pl kr) hc ha hb fun D B F0 q => wpS_bind q
def whileO {S L R : Type} (c : S → Res Bool) (f : S → Res (Out S S R)) : Nat → S → Res (Out S L R)
  | 0, _ => .stuck
  | n + 1, s => (c s).bind fun b => if b then (f s).bind fun o => (match o with
    | .nx s' => whileO c f n s'
    | .ct s' => whileO c f n s'
    | .bk s' => .ok (.nx s')
    | .rt r => .ok (.rt r)) else .ok (.nx s)
theorem b1_while {S L R : Type} {c : Expr} {body : List Stmt} {pos : Pos} {mc : S → Res Bool} {f : S → Res (Out S S R)} (n : Nat) (inv : S → List Slot) (s0 : S) {pl : L → List Slot} {kr : R → Slot}
    (hc : ∀ s, XT X W (inv s) c (mc s)) (hb : ∀ s, SB X W (inv s) body (f s) inv inv kr) (h0 : Wk ss (inv s0) := by exact Wk.refl _) (hp : PassesOwn (model X.prog X.w) X.A X.env X.xe := by exact passes_of rfl) :
    B1 X W ss (.While c body [] pos) (whileO mc f n s0) inv pl kr := by
  have hb' : PSs X body fun D σ H => ∃ s, rdX X (inv s) (wB X W (f s) inv inv kr) D σ H := ⟨fun pins s σ H D I ⟨s', q⟩ => (hb s').run pins s σ H D I q⟩
  have hc' : PT X c fun σ H Q => ∃ s, rT X W (inv s) (mc s) σ H Q := ⟨fun pins s σ H Q I ⟨s', q⟩ => (hc s').run pins s σ H Q I q⟩
  refine PS_imp (ps_while hp hc' hb') fun D σ H ⟨B, F0, F, Gs, A, q⟩ => ?_
  refine ⟨fun n σ H => ∃ s F2 Gs2, Asn X.K B F0 (inv s) σ H F2 Gs2 ∧ wpS X W (whileO mc f n s) B fun o => match o with
      | .nx s => NxOk X (inv s) D B F0
      | .rt r => RtOk X kr r D B F0
      | .bk l => BkOk X (pl l) D B F0
      | .ct l => CtOk X (pl l) D B F0, ⟨n, s0, F, Gs, A.wk h0, q⟩, fun n σ H ⟨s, F2, Gs2, A2, q2⟩ => ?_⟩
  cases n with
  | zero => exact q2.elim
  | succ n =>
    refine ⟨s, A2.sl.mono A2.ext.sub (Same.refl H), wpS_R (wpS_bind (show wpS X W ((mc s).bind _) B _ from q2)) A2.base fun t q H' s1 => ?_⟩
    have A3 := A2.grow s1 ⟨Same.refl F2, A2.ext.sub.trans s1, fun _ _ h => .inl h⟩
    cases t with
    | false => exact q σ H' F2 Gs2 A3
    | true =>
      refine ⟨fun σ' H' => ∃ s F2 Gs2, Asn X.K B F0 (inv s) σ' H' F2 Gs2 ∧ wpS X W (whileO mc f n s) B fun o => match o with
        | .nx s => NxOk X (inv s) D B F0
        | .rt r => RtOk X kr r D B F0
        | .bk l => BkOk X (pl l) D B F0
        | .ct l => CtOk X (pl l) D B F0, fun σ' H' x => ⟨n, Nat.lt_succ_self n, x⟩, s, B, F0, F2, Gs2, A3, wpS_imp (wpS_bind (show wpS X W ((f s).bind _) B _ from q)) fun o q => ?_⟩
      cases o with
      | nx s' => exact fun σ' H' F' Gs' A' => ⟨s', F', Gs', A', q⟩
      | ct s' => exact fun σ' H' F' Gs' A' => ⟨s', F', Gs', A', q⟩
      | bk s' => exact q
      | rt r => exact q
def whileR {S : Type} (c : S → Res Bool) (f : S → Res S) : Nat → S → Res S
  | 0, _ => .stuck
  | n + 1, s => (c s).bind fun b => if b then (f s).bind (whileR c f n) else .ok s
theorem whileO_R {S L R : Type} (c : S → Res Bool) (f : S → Res S) : ∀ (n : Nat) (s : S), whileO (L := L) (R := R) c (fun s => (f s).bind fun s' => .ok (.nx s')) n s = (whileR c f n s).bind fun s => .ok (.nx s)
  | 0, s => rfl
  | n + 1, s => by
    show ((c s).bind _) = ((c s).bind _).bind _
    cases c s with
    | ok b =>
      cases b with
      | true =>
        show ((f s).bind _).bind _ = ((f s).bind _).bind _
        cases f s with
        | ok s' => exact whileO_R c f n s'
        | exc x => rfl
        | stuck => rfl
      | false => rfl
    | exc x => rfl
    | stuck => rfl
theorem s1_while {S : Type} {c : Expr} {body : List Stmt} {pos : Pos} {mc : S → Res Bool} {f : S → Res S} (n : Nat) (inv : S → List Slot) (s0 : S)
    (hc : ∀ s, XT X W (inv s) c (mc s)) (hb : ∀ s, SN X W (inv s) body (f s) inv) (h0 : Wk ss (inv s0) := by exact Wk.refl _) (hp : PassesOwn (model X.prog X.w) X.A X.env X.xe := by exact passes_of rfl) :
    S1 X W ss (.While c body [] pos) (whileR mc f n s0) inv := by
  refine PS_imp (b1_while (L := Empty) (R := Unit) (pl := fun x => nomatch x) (kr := fun _ => any) n inv s0 hc (fun s => sb_of_sn (hb s)) h0 hp) fun D σ H ⟨B, F0, F, Gs, A, q⟩ => ⟨B, F0, F, Gs, A, ?_⟩
  show wpS X W (whileO mc _ n s0) B _
  rw [whileO_R]
  have q : wpS X W (whileR mc f n s0) B _ := q
  cases e : whileR mc f n s0 with
  | ok s => rw [e] at q; exact q
  | exc x => rw [e] at q; exact q
  | stuck => rw [e] at q; exact q
end
end G

namespace G
open PySem PySem.Spec PyProof.Rows L2
theorem wipe_setc (i : Nat) (o : Option V) : ∀ (vs : List Nat) (σ : L2.St), wipe (σ.set i o) vs = if i ∈ vs then wipe σ vs else (wipe σ vs).set i o
  | [], σ => by simp [wipe]
  | v :: vs, σ => by
    show (wipe (σ.set i o) vs).set v none = if i ∈ v :: vs then (wipe σ vs).set v none else ((wipe σ vs).set v none).set i o
    rw [wipe_setc i o vs σ]
    by_cases h : i ∈ vs
    · rw [if_pos h, if_pos (List.mem_cons_of_mem _ h)]
    · rw [if_neg h]
      by_cases e : i = v
      · subst e
        rw [if_pos List.mem_cons_self, List.set_set]
      · rw [if_neg (by simp only [List.mem_cons, not_or]; exact ⟨e, h⟩), List.set_comm _ _ e]
theorem wipe_set {i : Nat} {o : Option V} {vs : List Nat} {σ : L2.St} (h : i ∈ vs) : wipe (σ.set i o) vs = wipe σ vs := by rw [wipe_setc, if_pos h]
theorem wipe_self : ∀ (vs ws : List Nat) (σ : L2.St), (∀ v ∈ ws, v ∈ vs) → wipe (wipe σ ws) vs = wipe σ vs
  | vs, [], σ, _ => rfl
  | vs, w :: ws, σ, h => by
    show wipe ((wipe σ ws).set w none) vs = wipe σ vs
    rw [wipe_set (h w List.mem_cons_self), wipe_self vs ws σ fun v m => h v (List.mem_cons_of_mem _ m)]
def wipeS (ss : List Slot) : List Nat → List Slot
  | [] => ss
  | v :: vs => (wipeS ss vs).set v any
theorem Sl.set {K : Frag} {F H : Hp} {s : Slot} {o : Option V} (x : s.P K F H o) : ∀ (i : Nat) {ss : List Slot} {σ : L2.St}, Sl K F H ss σ → Sl K F H (ss.set i s) (σ.set i o)
  | _, [], [], h => h
  | 0, _ :: _, _ :: _, ⟨_, y⟩ => ⟨x, y⟩
  | i + 1, _ :: _, _ :: _, ⟨z, y⟩ => ⟨z, Sl.set x i y⟩
  | _, [], _ :: _, h => h.elim
  | _, _ :: _, [], h => h.elim
theorem Sl.wipe {K : Frag} {F H : Hp} : ∀ (vs : List Nat) {ss : List Slot} {σ : L2.St}, Sl K F H ss σ → Sl K F H (wipeS ss vs) (L2.wipe σ vs)
  | [], _, _, h => h
  | v :: vs, _, _, h => Sl.set (s := any) (o := none) trivial v (Sl.wipe vs h)
abbrev WF : WX := fun _ _ _ _ => False
def TgC (X : Cx) (scope : Scope) (vs : List Nat) {α : Type} [Enc α] (tg : Expr) (u : α → List Slot → List Slot) : Prop :=
  ∃ g, (∀ (s : Shared) (H : Hp) (C : Addr) (cl : List (Str × Addr)) (fp : List Addr), PG (X.blk s H scope (compEnvC scope cl C X.env) fp) tg g) ∧
    ∀ (a : α) (v : V) (F H : Hp) (ss : List Slot) (σ : L2.St) (Q : L2.St → Hp → Prop), Sl X.K F H ss σ → Same F H → Enc.rep X.K F v a →
      (∀ σ', Sl X.K F H (u a ss) σ' → L2.wipe σ' vs = L2.wipe σ vs → Q σ' H) → g v σ H Q
section
variable {X : Cx} {W : WX} {ss : List Slot} {tg : Expr} {scope : Scope} {vs : List Nat}
theorem tc_name (i : Nat) {α : Type} [Enc α] {x : Str} {pos : Pos} (hN : X.N.Nodup) (hi : X.N[i]? = some x := by rfl) (hv : i ∈ vs := by decide)
    (hx : ∀ (s : Shared) (H : Hp) (C : Addr) (cl : List (Str × Addr)) (fp : List Addr), Loc (X.blk s H scope (compEnvC scope cl C X.env) fp).env.scope x := by intro _ _ _ _ _; first | exact Or.inl rfl | exact Or.inr rfl)
    (hf : ∀ (s : Shared) (H : Hp) (C : Addr) (cl : List (Str × Addr)) (fp : List Addr), (X.blk s H scope (compEnvC scope cl C X.env) fp).fn x = true ∨ (X.blk s H scope (compEnvC scope cl C X.env) fp).env.scope.names.lookup x = some .local := by intro _ _ _ _ _; first | exact .inl rfl | exact .inr rfl) :
    TgC X scope vs (α := α) (.Name x pos) (fun a ss => ss.set i (fr a)) :=
  ⟨gName i, fun s H C cl fp => pg_name (X := X.blk s H scope (compEnvC scope cl C X.env) fp) hN hi (hx s H C cl fp) (hf s H C cl fp), fun a v F H ss σ Q sl sf r q => q _ (sl.set (s := fr a) ⟨v, rfl, r⟩ i) (wipe_set hv)⟩
end
def lcR {α β : Type} (p : α → Res Bool) (g : α → Res β) : List α → Res (List β)
  | [] => .ok []
  | a :: as => match p a with
    | .ok true => (match g a with
      | .ok b => (lcR p g as).bind fun bs => .ok (b :: bs)
      | _ => .stuck)
    | .ok false => lcR p g as
    | _ => .stuck
def lcT {α β : Type} (p : α → Res Bool) (g : α → Res β) (xs : List α) : Res (List β) := guardR (decide (xs.length ≤ 1000000)) (lcR p g xs)
theorem lcR_ok {α β : Type} {p : α → Res Bool} {g : α → Res β} {g' : α → β} : ∀ {xs : List α}, (∀ a ∈ xs, p a = .ok true) → (∀ a ∈ xs, g a = .ok (g' a)) → lcR p g xs = .ok (xs.map g')
  | [], _, _ => rfl
  | a :: as, hp, hg => by
    unfold lcR
    rw [hp a List.mem_cons_self, hg a List.mem_cons_self, lcR_ok (fun b m => hp b (List.mem_cons_of_mem _ m)) (fun b m => hg b (List.mem_cons_of_mem _ m))]
    rfl
theorem lcR_filter {α β : Type} {p : α → Res Bool} {g : α → Res β} {p' : α → Bool} {g' : α → β} : ∀ {xs : List α}, (∀ a ∈ xs, p a = .ok (p' a)) → (∀ a ∈ xs, p' a = true → g a = .ok (g' a)) → lcR p g xs = .ok ((xs.filter p').map g')
  | [], _, _ => rfl
  | a :: as, hp, hg => by
    unfold lcR
    have ih := lcR_filter (p := p) (g := g) (p' := p') (g' := g') (xs := as) (fun b m => hp b (List.mem_cons_of_mem _ m)) (fun b m => hg b (List.mem_cons_of_mem _ m))
    rw [hp a List.mem_cons_self, ih]
    cases e : p' a with
    | true => rw [hg a List.mem_cons_self e]; simp [List.filter_cons, e]
    | false => simp [List.filter_cons, e]
section
variable {X : Cx} {W : WX} {ss : List Slot} {tg elt iter : Expr} {scope : Scope} {own : List (Str × Nat)} {pos : Pos}
theorem lc_read {α β : Type} [Enc α] [Enc β] {vs : List Nat} {u : α → List Slot → List Slot} {m : Res (List α)} {p : α → Res Bool} {gg : α → Res β} {g : TG}
    (qg : ∀ (a : α) (v : V) (F H : Hp) (ss : List Slot) (σ : L2.St) (Q : L2.St → Hp → Prop), Sl X.K F H ss σ → Same F H → Enc.rep X.K F v a → (∀ σ', Sl X.K F H (u a ss) σ' → L2.wipe σ' vs = L2.wipe σ vs → Q σ' H) → g v σ H Q)
    {σ : L2.St} {H : Hp} {Q : VK} {F : Hp} (sf : Same F H) (sl : Sl X.K F H ss σ)
    (q : wpR X W (m.bind fun xs => lcT p gg xs) σ H fun a => ∀ v H' F' G', Same H H' → Ext F H F' H' → Priv G' H F' H' → (ow a).P X.K F' G' (some v) → Q v H') :
    tLc (rdPI X W ss m) g (fun σ H Q => ∃ a, rT X WF (u a (wipeS ss vs)) (p a) σ H Q) (fun σ H Q => ∃ a, rK X WF (u a (wipeS ss vs)) (gg a) fr σ H Q) vs σ H Q := by
  refine ⟨F, sf, sl, wpR_imp (wpR_bind q) (Same.refl H) fun xs q J H1 F1 s1 ex1 it D nD => ?_⟩
  obtain ⟨hlen, q⟩ := wpR_guard q
  have hlen : xs.length ≤ 1000000 := of_decide_eq_true hlen
  have nF1 : F1 D = none := Same.free ex1.sub nD
  -- the whole comes out well
  obtain ⟨bs, ebs⟩ : ∃ bs, lcR p gg xs = .ok bs := by
    cases e : lcR p gg xs with
    | ok bs => exact ⟨bs, rfl⟩
    | stuck => rw [e] at q; exact q.elim
    | exc x =>
      exfalso
      have nx : ∀ (l : List α) (x : Exn), lcR p gg l ≠ .exc x := by
        intro l
        induction l with
        | nil => intro x h; cases h
        | cons a as ih =>
          intro x h
          unfold lcR at h
          split at h
          · split at h
            · cases e2 : lcR p gg as with
              | ok bs => rw [e2] at h; cases h
              | exc y => exact ih y e2
              | stuck => rw [e2] at h; cases h
            · cases h
          · exact ih x h
          · cases h
      exact nx xs x e
  rw [ebs] at q
  refine ⟨fun i n H => i + n = xs.length ∧ ∃ acc F2 done left, H D = some (.lst acc) ∧ acc.length ≤ i ∧ Same H1 H ∧ Ext F1 H1 F2 H ∧ F2 D = none ∧ All2 (fun v a => Enc.rep X.K F2 v a) acc done ∧ lcR p gg (xs.drop i) = .ok left ∧ bs = done ++ left,
    ⟨xs.length, by omega, [], F1, [], bs, upd_same, Nat.le_refl _, same_upd nD, ⟨Same.refl _, ex1.sub.trans (same_upd nD), fun _ _ h => .inl h⟩, nF1, trivial, ebs, rfl⟩, fun i n H2 ⟨hn, acc, F2, done, left, hD, hacc, s2, ex2, nF2, ra, el, eb⟩ => ?_⟩
  by_cases hlt : i < xs.length
  · refine .inr ?_
    have hx : xs[i]? = some xs[i] := List.getElem?_eq_getElem hlt
    obtain ⟨hgo, hy⟩ := it.go i F2 H2 xs[i] ex2.le ex2.sub hx
    rw [List.drop_eq_getElem_cons hlt] at el
    unfold lcR at el
    refine ⟨hgo, fun H' => ∃ acc F2 done left, H' D = some (.lst acc) ∧ acc.length ≤ i + 1 ∧ Same H1 H' ∧ Ext F1 H1 F2 H' ∧ F2 D = none ∧ All2 (fun v a => Enc.rep X.K F2 v a) acc done ∧ lcR p gg (xs.drop (i + 1)) = .ok left ∧ bs = done ++ left,
      fun H' x => ⟨n - 1, by omega, by omega, x⟩, fun v H' y => ?_⟩
    obtain ⟨s3, F3, ex3, r3⟩ := hy v H' y
    have keepD : ∀ {Fa Fb Ha Hb : Hp}, Fa D = none → Ext Fa Ha Fb Hb → Ha D = some (.lst acc) → Same Ha Hb → Fb D = none := fun {Fa Fb Ha Hb} n0 ex hh ss => by
      cases e : Fb D with
      | none => rfl
      | some w =>
        rcases ex.new D w e with z | z | z
        · rw [n0] at z; cases z
        · rw [hh] at z; cases z
        · have t := ex.sub _ _ e
          rw [ss _ _ hh] at t; cases t; cases z
    have nF3 := keepD nF2 ex3 hD s3
    have hD3 := s3 _ _ hD
    have slW : Sl X.K F3 H' (wipeS ss vs) (L2.wipe σ vs) := (sl.wipe vs).mono (ex1.le.trans (ex2.le.trans ex3.le)) (s1.trans (s2.trans s3))
    refine qg xs[i] v F3 H' (wipeS ss vs) (L2.wipe σ vs) _ slW ex3.sub r3 fun σ4 sl4 e4 => ⟨e4.trans (wipe_self vs vs σ fun _ m => m), xs[i], sl4.mono ex3.sub (Same.refl H'), ?_⟩
    cases ep : p xs[i] with
    | stuck => rw [ep] at el; cases el
    | exc x => rw [ep] at el; cases el
    | ok b =>
      rw [ep] at el
      intro H5 s5
      have ex5 : Ext F3 H' F3 H5 := ⟨Same.refl _, ex3.sub.trans s5, fun _ _ h => .inl h⟩
      have exF : Ext F1 H1 F3 H5 := ex2.trans s2 (ex3.trans s3 ex5)
      cases b with
      | false =>
        rw [if_neg Bool.false_ne_true]
        exact ⟨acc, F3, done, left, s5 _ _ hD3, Nat.le_succ_of_le hacc, s2.trans (s3.trans s5), exF, nF3, ra.mono ex3.le, el, eb⟩
      | true =>
        rw [if_pos rfl]
        refine ⟨xs[i], F3, ex5.sub, sl4.mono (Same.refl F3) s5, ?_⟩
        cases eg : gg xs[i] with
        | stuck => rw [eg] at el; cases el
        | exc x => rw [eg] at el; cases el
        | ok b =>
          rw [eg] at el
          intro y H6 F6 G6 s6 ex6 _ ⟨y', e6, r6⟩
          cases e6
          have hD5 := s5 _ _ hD3
          have nF6 := keepD nF3 ex6 hD5 s6
          have hD6 := s6 _ _ hD5
          obtain ⟨left', el'⟩ : ∃ l, lcR p gg (xs.drop (i + 1)) = .ok l := by
            cases e7 : lcR p gg (xs.drop (i + 1)) with
            | ok l => exact ⟨l, rfl⟩
            | exc x => rw [e7] at el; cases el
            | stuck => rw [e7] at el; cases el
          rw [el'] at el
          have el2 : b :: left' = left := by injection el
          have nD1 : H1 D = none := nD
          have sU : Same H1 (upd H6 D (.lst (acc ++ [y]))) := fun c w z => by
            rw [upd_ne (fun e => by rw [e, nD1] at z; cases z)]
            exact s6 _ _ (s5 _ _ (s3 _ _ (s2 _ _ z)))
          refine ⟨acc, hD6, Nat.lt_of_le_of_lt (by omega : acc.length ≤ 1000000) (by decide), acc ++ [y], F6, done ++ [b], left', upd_same, by rw [List.length_append, List.length_singleton]; omega, sU, ⟨exF.le.trans ex6.le, fun c w z => ?_, fun c w z => ?_⟩, nF6, All2.append (ra.mono (ex3.le.trans ex6.le)) ⟨r6, trivial⟩, el', by rw [eb, ← el2]; simp⟩
          · rw [upd_ne (fun e => by rw [e, nF6] at z; cases z)]
            exact ex6.sub _ _ z
          · rcases ex6.new c w z with z | z | z
            · exact exF.new c w z
            · exact .inr (.inl (Same.free (s2.trans (s3.trans s5)) z))
            · exact .inr (.inr z)
  · refine .inl ⟨it.stop i F2 H2 ex2.le ex2.sub (by omega), ?_⟩
    rw [List.drop_eq_nil_iff.mpr (by omega)] at el
    have e0 : ([] : List β) = left := by injection el
    subst e0
    rw [List.append_nil] at eb
    subst eb
    have nH : H D = none := Same.free s1 nD
    refine q (.ref D) H2 F2 (upd noHp D (.lst acc)) (s1.trans s2) (ex1.trans s1 ex2) (fun c w z => ?_) ⟨D, acc, rfl, upd_same, ra⟩
    by_cases e : c = D
    · subst e
      rw [upd_same] at z; cases z
      exact ⟨hD, nH, nF2, rfl⟩
    · rw [upd_ne e] at z; cases z
theorem xk_lc {α β : Type} [Enc α] [Enc β] {u : α → List Slot → List Slot} {m : Res (List α)} {gg : α → Res β} (hi : XIt X W ss tg iter m) (hg : TgC X scope (own.map (·.2)) tg u)
    (he : ∀ a s H C cl fp, XK (X.blk s H scope (compEnvC scope cl C X.env) fp) WF (u a (wipeS ss (own.map (·.2)))) elt (gg a) fr) (hN : X.N.Nodup) (ok : BlkOk X.N X.env.scope scope own) (hc : X.calm = true := by rfl) (hs : ∀ x, foldedSetIterable iter X.env x = pure x := by intro _; rfl) :
    XK X W ss (.ListComp elt [⟨tg, iter, [], 0⟩] scope pos) (m.bind fun xs => lcT (fun _ => .ok true) gg xs) ow := by
  obtain ⟨g, pg, qg⟩ := hg
  have he' : ∀ (s : Shared) (H : Hp) (C : Addr) (cl : List (Str × Addr)) (fp : List Addr), PE (X.blk s H scope (compEnvC scope cl C X.env) fp) elt (fun σ H Q => ∃ a, rK X WF (u a (wipeS ss (own.map (·.2)))) (gg a) fr σ H Q) := fun s H C cl fp =>
    ⟨fun pins s' σ H' Q I ⟨a, q⟩ => (he a s H C cl fp).run pins s' σ H' Q I q⟩
  have ht' : ∀ (s : Shared) (H : Hp) (C : Addr) (cl : List (Str × Addr)) (fp : List Addr), PTs (X.blk s H scope (compEnvC scope cl C X.env) fp) [] (fun σ H Q => ∃ a, rT X WF (u a (wipeS ss (own.map (·.2)))) ((fun _ => .ok true : α → Res Bool) a) σ H Q) := fun s H C cl fp =>
    ⟨fun pins s' σ H' Q I ⟨a, sl, q⟩ => pts_nil.run pins s' σ H' Q I (q H' (Same.refl H'))⟩
  exact PE_imp (pe_lc hc hN hi ok pg ht' he' hs) fun σ H Q ⟨F, sf, sl, q⟩ => lc_read qg sf sl q
theorem xk_lcIf {α β : Type} [Enc α] [Enc β] {cond : Expr} {u : α → List Slot → List Slot} {m : Res (List α)} {p : α → Res Bool} {gg : α → Res β} (hi : XIt X W ss tg iter m) (hg : TgC X scope (own.map (·.2)) tg u)
    (ht : ∀ a s H C cl fp, XT (X.blk s H scope (compEnvC scope cl C X.env) fp) WF (u a (wipeS ss (own.map (·.2)))) cond (p a))
    (he : ∀ a s H C cl fp, XK (X.blk s H scope (compEnvC scope cl C X.env) fp) WF (u a (wipeS ss (own.map (·.2)))) elt (gg a) fr) (hN : X.N.Nodup) (ok : BlkOk X.N X.env.scope scope own) (hc : X.calm = true := by rfl) (hs : ∀ x, foldedSetIterable iter X.env x = pure x := by intro _; rfl) :
    XK X W ss (.ListComp elt [⟨tg, iter, [cond], 0⟩] scope pos) (m.bind fun xs => lcT p gg xs) ow := by
  obtain ⟨g, pg, qg⟩ := hg
  have he' : ∀ (s : Shared) (H : Hp) (C : Addr) (cl : List (Str × Addr)) (fp : List Addr), PE (X.blk s H scope (compEnvC scope cl C X.env) fp) elt (fun σ H Q => ∃ a, rK X WF (u a (wipeS ss (own.map (·.2)))) (gg a) fr σ H Q) := fun s H C cl fp =>
    ⟨fun pins s' σ H' Q I ⟨a, q⟩ => (he a s H C cl fp).run pins s' σ H' Q I q⟩
  have ht0 : ∀ (s : Shared) (H : Hp) (C : Addr) (cl : List (Str × Addr)) (fp : List Addr), PT (X.blk s H scope (compEnvC scope cl C X.env) fp) cond (fun σ H Q => ∃ a, rT X WF (u a (wipeS ss (own.map (·.2)))) (p a) σ H Q) := fun s H C cl fp =>
    ⟨fun pins s' σ H' Q I ⟨a, q⟩ => (ht a s H C cl fp).run pins s' σ H' Q I q⟩
  exact PE_imp (pe_lc hc hN hi ok pg (fun s H C cl fp => pts_one (ht0 s H C cl fp)) he' hs) fun σ H Q ⟨F, sf, sl, q⟩ => lc_read qg sf sl q
theorem s1_lc (i : Nat) {α β : Type} [Enc α] [Enc β] {y : Str} {py spos : Pos} {u : α → List Slot → List Slot} {m : Res (List α)} {gg : α → Res β} (hi : XIt X W ss tg iter m) (hg : TgC X scope (own.map (·.2)) tg u)
    (he : ∀ a s H C cl fp, XK (X.blk s H scope (compEnvC scope cl C X.env) fp) WF (u a (wipeS ss (own.map (·.2)))) elt (gg a) fr) (hN : X.N.Nodup) (ok : BlkOk X.N X.env.scope scope own) (hsw : swapsWith (.ListComp elt [⟨tg, iter, [], 0⟩] scope pos) (some (.Name y py)) spos.line X.env = pure true)
    (hy : X.N[i]? = some y := by rfl) (hyl : X.env.scope.names.lookup y = some .local := by rfl) (hc : X.calm = true := by rfl) (hs : ∀ x, foldedSetIterable iter X.env x = pure x := by intro _; rfl) :
    S1 X W ss (.Assign [.Name y py] (.ListComp elt [⟨tg, iter, [], 0⟩] scope pos) spos) (m.bind fun xs => lcT (fun _ => .ok true) gg xs) (fun bs => ss.set i (ow bs)) := by
  obtain ⟨g, pg, qg⟩ := hg
  have he' : ∀ (s : Shared) (H : Hp) (C : Addr) (cl : List (Str × Addr)) (fp : List Addr), PE (X.blk s H scope (compEnvC scope cl C X.env) fp) elt (fun σ H Q => ∃ a, rK X WF (u a (wipeS ss (own.map (·.2)))) (gg a) fr σ H Q) := fun s H C cl fp =>
    ⟨fun pins s' σ H' Q I ⟨a, q⟩ => (he a s H C cl fp).run pins s' σ H' Q I q⟩
  have ht' : ∀ (s : Shared) (H : Hp) (C : Addr) (cl : List (Str × Addr)) (fp : List Addr), PTs (X.blk s H scope (compEnvC scope cl C X.env) fp) [] (fun σ H Q => ∃ a, rT X WF (u a (wipeS ss (own.map (·.2)))) ((fun _ => .ok true : α → Res Bool) a) σ H Q) := fun s H C cl fp =>
    ⟨fun pins s' σ H' Q I ⟨a, sl, q⟩ => pts_nil.run pins s' σ H' Q I (q H' (Same.refl H'))⟩
  refine PS_imp (ps_setLc hc hN hy hyl hsw hi ok pg ht' he' hs) fun D σ H ⟨B, F0, F, Gs, A, q⟩ => lc_read qg A.ext.sub A.sl (wpS_R q A.base fun a q v H' F' G' s ex pr k => ?_)
  exact q _ H' F' _ (A.set (s := ow a) s ex pr k i)
end
end G

namespace G
open PySem PySem.Spec PyProof.Rows L2
structure Bi (X : Cx) (r : R2) {α β γ : Type} [Enc α] [Enc β] [Enc γ] (g : α → β → Res γ) : Prop where
  op : Op2 X r g
  nx : ∀ a b, NoX (g a b)
section
variable {X : Cx} {W : WX} {ss : List Slot} {pos : Pos} {a b : Expr}
theorem x_bin {α β γ : Type} [Enc α] [Enc β] [Enc γ] {op : Operator} {r : R2} {g : α → β → Res γ} {m1 : Res α} {m2 : Res β} (hr : OpR X (binaryOp op) r) (bi : Bi X r g) (h1 : XI X W ss a m1) (h2 : XI X W ss b m2) :
    XI X W ss (.BinOp a op b pos) (m1.bind fun a => m2.bind fun b => g a b) := xi_bin hr bi.op bi.nx h1 h2
theorem x_cmp {α β γ : Type} [Enc α] [Enc β] [Enc γ] {op : CmpOp} {r : R2} {g : α → β → Res γ} {m1 : Res α} {m2 : Res β} (hr : OpR X (compareOp op) r) (bi : Bi X r g) (hm : behindInMarks op b = false) (h1 : XI X W ss a m1) (h2 : XI X W ss b m2) :
    XI X W ss (.Compare a [op] [b] pos) (m1.bind fun a => m2.bind fun b => g a b) := xi_cmp hr bi.op bi.nx hm h1 h2
theorem t_cmp {α β : Type} [Enc α] [Enc β] {op : CmpOp} {r : R2} {g : α → β → Res Bool} {m1 : Res α} {m2 : Res β} (hr : OpR X (compareOp op) r) (bi : Bi X r g) (hm : behindInMarks op b = false) (h1 : XI X W ss a m1) (h2 : XI X W ss b m2) :
    XT X W ss (.Compare a [op] [b] pos) (m1.bind fun a => m2.bind fun b => g a b) := xt_cmp hr bi.op bi.nx hm h1 h2
theorem b_add : Bi X (rI0 fun i j => .int (i + j)) (fun i j : Int => Res.ok (i + j)) := ⟨op2_I0 fun _ _ _ _ => rfl, fun _ _ => noX_ok⟩
theorem b_sub : Bi X (rI0 fun i j => .int (i - j)) (fun i j : Int => Res.ok (i - j)) := ⟨op2_I0 fun _ _ _ _ => rfl, fun _ _ => noX_ok⟩
def in64 (i : Int) : Bool := decide (-(2 ^ 64) < i) && decide (i < 2 ^ 64)
def mulR (i j : Int) : Res Int := guardR (in64 i || in64 j) (.ok (i * j))
theorem b_mul : Bi X (L2.rI CMul fun i j => .int (i * j)) mulR := ⟨op2_I (fun i j h => by
  unfold in64 at h
  simp only [Bool.or_eq_true, Bool.and_eq_true, decide_eq_true_eq] at h
  exact h) fun _ _ _ _ => rfl, fun _ _ => noX_guard⟩
theorem mulR_l {i j : Int} (h1 : -(2 ^ 64) < i) (h2 : i < 2 ^ 64) : mulR i j = .ok (i * j) := guardR_of (by unfold in64; rw [decide_eq_true h1, decide_eq_true h2]; rfl)
theorem mulR_r {i j : Int} (h1 : -(2 ^ 64) < j) (h2 : j < 2 ^ 64) : mulR i j = .ok (i * j) := guardR_of (by unfold in64; rw [decide_eq_true h1, decide_eq_true h2]; exact Bool.or_true _)
def divR (i j : Int) : Res Int := guardR (decide (0 < j) && decide (j < 10 ^ 70)) (.ok (i / j))
theorem b_div : Bi X (L2.rI CDivW fun i j => .int (i / j)) divR := ⟨op2_I (fun i j h => by
  simp only [Bool.and_eq_true, decide_eq_true_eq] at h
  refine wide_div (b := 250) h.1 ?_ (by decide) (by decide)
  have h2 := h.2
  have h1 := h.1
  omega) fun _ _ _ _ => rfl, fun _ _ => noX_guard⟩
theorem divR_of {i j : Int} (h1 : 0 < j) (h2 : j < 10 ^ 70) : divR i j = .ok (i / j) := guardR_of (by rw [decide_eq_true h1, decide_eq_true h2]; rfl)
def modR (i j : Int) : Res Int := guardR (decide (0 < j)) (.ok (i % j))
theorem b_mod : Bi X (L2.rI (fun _ j => 0 < j) fun i j => .int (i % j)) modR := ⟨op2_I (fun i j h => of_decide_eq_true h) fun _ _ _ _ => rfl, fun _ _ => noX_guard⟩
theorem modR_of {i j : Int} (h1 : 0 < j) : modR i j = .ok (i % j) := guardR_of (by simp [h1])
theorem xi_pow {i j : Int} {k1 k2 : Nat} {p1 p2 : Pos} (h : CPow i j) : XI X W ss (.BinOp (.Constant (.int i) k1 p1) .Pow (.Constant (.int j) k2 p2) pos) (.ok (i ^ j.toNat)) :=
  PE_imp (pe_op op_pow pe_int pe_int) fun σ H Q ⟨_, q⟩ => ⟨i, j, rfl, rfl, h, q _ H (Same.refl H) rfl⟩
theorem xi_neg {m : Res Int} (h : XI X W ss a m) : XI X W ss (.UnaryOp .USub a pos) (m.bind fun i => .ok (-i)) :=
  PE_imp (pe_un un_neg h) fun σ H Q ⟨sl, q⟩ => ⟨sl, wpR_imp (wpR_bind q) (Same.refl H) fun i q v H1 s1 r1 => ⟨i, r1, q _ H1 s1 rfl⟩⟩
theorem b_lt : Bi X (rI0 fun i j => .bl (decide (i < j))) (fun i j : Int => Res.ok (decide (i < j))) := ⟨op2_I0 fun _ _ _ _ => rfl, fun _ _ => noX_ok⟩
theorem b_le : Bi X (rI0 fun i j => .bl (decide (i ≤ j))) (fun i j : Int => Res.ok (decide (i ≤ j))) := ⟨op2_I0 fun _ _ _ _ => rfl, fun _ _ => noX_ok⟩
theorem b_gt : Bi X (rI0 fun i j => .bl (decide (i > j))) (fun i j : Int => Res.ok (decide (i > j))) := ⟨op2_I0 fun _ _ _ _ => rfl, fun _ _ => noX_ok⟩
theorem b_ge : Bi X (rI0 fun i j => .bl (decide (i ≥ j))) (fun i j : Int => Res.ok (decide (i ≥ j))) := ⟨op2_I0 fun _ _ _ _ => rfl, fun _ _ => noX_ok⟩
class Sca (α : Type) [Enc α] where
  v : α → V
  flat : ∀ {K : Frag} {H : Hp} {u : V} {a : α}, Enc.rep K H u a → u = v a
class ScaEq (α β : Type) [Enc α] [Enc β] [Sca α] [Sca β] where
  ok : ∀ (a : α) (b : β), scal (Sca.v a) (Sca.v b) = true
  eq : α → β → Bool
  iff : ∀ (a : α) (b : β), decide (Sca.v a = Sca.v b) = eq a b
instance : Sca Int := ⟨.int, fun h => h⟩
instance : Sca Bool := ⟨.bl, fun h => h⟩
instance : Sca Str := ⟨.str, fun h => h⟩
instance : Sca (Option Int) := ⟨fun o => match o with | none => .non | some i => .int i, fun {K H u o} h => by cases o with | none => exact h | some i => exact h.2⟩
instance : Sca (Option Str) := ⟨fun o => match o with | none => .non | some i => .str i, fun {K H u o} h => by cases o with | none => exact h | some i => exact h.2⟩
instance : ScaEq Int Int := ⟨fun _ _ => rfl, fun a b => decide (a = b), fun a b => by show decide (V.int a = V.int b) = _; by_cases e : a = b <;> simp [e]⟩
instance : ScaEq Bool Bool := ⟨fun _ _ => rfl, fun a b => decide (a = b), fun a b => by show decide (V.bl a = V.bl b) = _; by_cases e : a = b <;> simp [e]⟩
instance : ScaEq Str Str := ⟨fun _ _ => rfl, fun a b => decide (a = b), fun a b => by show decide (V.str a = V.str b) = _; by_cases e : a = b <;> simp [e]⟩
instance : ScaEq (Option Int) (Option Int) := ⟨fun a b => by cases a <;> cases b <;> rfl, fun a b => decide (a = b), fun a b => by
  cases a <;> cases b <;> first
    | rfl
    | (rename_i x y; show decide (V.int x = V.int y) = _; by_cases e : x = y <;> simp [e])⟩
instance : ScaEq Int (Option Int) := ⟨fun a b => by cases b <;> rfl, fun a b => decide (some a = b), fun a b => by
  cases b with
  | none => rfl
  | some y => show decide (V.int a = V.int y) = _; by_cases e : a = y <;> simp [e]⟩
instance : ScaEq (Option Int) Int := ⟨fun a b => by cases a <;> rfl, fun a b => decide (a = some b), fun a b => by
  cases a with
  | none => rfl
  | some y => show decide (V.int y = V.int b) = _; by_cases e : y = b <;> simp [e]⟩
instance : ScaEq (Option Str) (Option Str) := ⟨fun a b => by cases a <;> cases b <;> rfl, fun a b => decide (a = b), fun a b => by
  cases a <;> cases b <;> first
    | rfl
    | (rename_i x y; show decide (V.str x = V.str y) = _; by_cases e : x = y <;> simp [e])⟩
instance : ScaEq Str (Option Str) := ⟨fun a b => by cases b <;> rfl, fun a b => decide (some a = b), fun a b => by
  cases b with
  | none => rfl
  | some y => show decide (V.str a = V.str y) = _; by_cases e : a = y <;> simp [e]⟩
instance : ScaEq (Option Str) Str := ⟨fun a b => by cases a <;> rfl, fun a b => decide (a = some b), fun a b => by
  cases a with
  | none => rfl
  | some y => show decide (V.str y = V.str b) = _; by_cases e : y = b <;> simp [e]⟩
theorem b_eqS {α β : Type} [Enc α] [Enc β] [Sca α] [Sca β] [ScaEq α β] : Bi X rEq (fun (a : α) (b : β) => Res.ok (ScaEq.eq a b)) := ⟨fun a b v w H Q r1 r2 q => by
  rw [Sca.flat r1, Sca.flat r2]
  exact ⟨ScaEq.ok a b, by rw [ScaEq.iff]; exact q _ H (Same.refl H) rfl⟩, fun _ _ => noX_ok⟩
theorem b_neS {α β : Type} [Enc α] [Enc β] [Sca α] [Sca β] [ScaEq α β] : Bi X rNe (fun (a : α) (b : β) => Res.ok (!ScaEq.eq a b)) := ⟨fun a b v w H Q r1 r2 q => by
  rw [Sca.flat r1, Sca.flat r2]
  exact ⟨ScaEq.ok a b, by rw [ScaEq.iff]; exact q _ H (Same.refl H) rfl⟩, fun _ _ => noX_ok⟩
@[simp] theorem eqII (a b : Int) : ScaEq.eq a b = decide (a = b) := rfl
@[simp] theorem eqBB (a b : Bool) : ScaEq.eq a b = decide (a = b) := rfl
@[simp] theorem eqSS (a b : Str) : ScaEq.eq a b = decide (a = b) := rfl
@[simp] theorem eqOO (a b : Option Int) : ScaEq.eq a b = decide (a = b) := rfl
@[simp] theorem eqIO (a : Int) (b : Option Int) : ScaEq.eq a b = decide (some a = b) := rfl
@[simp] theorem eqOI (a : Option Int) (b : Int) : ScaEq.eq a b = decide (a = some b) := rfl
@[simp] theorem eqTT (a b : Option Str) : ScaEq.eq a b = decide (a = b) := rfl
@[simp] theorem eqST (a : Str) (b : Option Str) : ScaEq.eq a b = decide (some a = b) := rfl
@[simp] theorem eqTS (a : Option Str) (b : Str) : ScaEq.eq a b = decide (a = some b) := rfl
theorem xi_isN {α : Type} [Enc α] {m : Res (Option α)} {j : Nat} {p : Pos} (h : XI X W ss a m) : XI X W ss (.Compare a [.Is] [.Constant .none j p] pos) (m.bind fun o => .ok o.isNone) :=
  PE_imp (pe_cmp (pc_isN h)) fun σ H Q ⟨sl, q⟩ => ⟨sl, wpR_imp (wpR_bind q) (Same.refl H) fun o q v H1 s1 r1 => q _ H1 s1 (by
    cases o with
    | none => rw [show v = .non from r1]; rfl
    | some x => show V.bl (decide (v = .non)) = V.bl false; rw [decide_eq_false r1.1])⟩
theorem xt_notN {α : Type} [Enc α] {m : Res (Option α)} {j : Nat} {p : Pos} (h : XI X W ss a m) : XT X W ss (.Compare a [.IsNot] [.Constant .none j p] pos) (m.bind fun o => .ok o.isSome) :=
  PT_imp (pt_cmp (pc_notN h)) fun σ H Q ⟨sl, q⟩ => ⟨sl, wpR_imp (wpR_bind q) (Same.refl H) fun o q v H1 s1 r1 => ⟨_, rfl, by
    cases o with
    | none => rw [show v = .non from r1]; exact q H1 s1
    | some x => rw [decide_eq_false r1.1]; exact q H1 s1⟩⟩
theorem xt_val {m : Res Bool} (h : XI X W ss a m) (he : ∀ whole, isTrue a X.env whole = (do let v ← whole; standAt a.pos; holding [v] (truthy v)) := by intro _; rfl) : XT X W ss a m :=
  PT_imp (pt_val h he) fun σ H Q ⟨sl, q⟩ => ⟨sl, wpR_imp q (Same.refl H) fun b q v H1 s1 r1 => ⟨b, r1, q H1 s1⟩⟩
theorem xt_not {m : Res Bool} (h : XT X W ss a m) : XT X W ss (.UnaryOp .Not a pos) (m.bind fun b => .ok (!b)) :=
  PT_imp (pt_not h) fun σ H Q ⟨sl, q⟩ => ⟨sl, wpR_imp (wpR_bind q) (Same.refl H) fun b q H1 s1 => q H1 s1⟩
def XW (X : Cx) (W : WX) (ss : List Slot) (e : Expr) (m : Res Bool) : Prop := PW X e (rT X W ss m)
theorem PW_imp {e : Expr} {t t' : TT} (h : PW X e t) (f : ∀ σ H Q, t' σ H Q → t σ H Q) : PW X e t' := ⟨fun wh pins s σ H Q I q => h.run wh pins s σ H Q I (f _ _ _ q)⟩
theorem xw_and1 {m : Res Bool} (h : XT X W ss a m) : XW X W ss (.BoolOp .And [a] pos) m := pw_and1 h
theorem xw_or1 {m : Res Bool} (h : XT X W ss a m) : XW X W ss (.BoolOp .Or [a] pos) m := pw_or1 h
theorem xw_and {rest : List Expr} {m m' : Res Bool} (h : XT X W ss a m) (h' : XW X W ss (.BoolOp .And (b :: rest) pos) m') : XW X W ss (.BoolOp .And (a :: b :: rest) pos) (m.bind fun t => if t then m' else .ok false) :=
  PW_imp (pw_and h h') fun σ H Q ⟨sl, q⟩ => ⟨sl, wpR_imp (wpR_bind q) (Same.refl H) fun t q H1 s1 => by
    cases t with
    | true => exact ⟨sl.mono s1 s1, wpR_imp q s1 fun b z H2 s2 => z H2 (s1.trans s2)⟩
    | false => exact q H1 s1⟩
theorem xw_or {rest : List Expr} {m m' : Res Bool} (h : XT X W ss a m) (h' : XW X W ss (.BoolOp .Or (b :: rest) pos) m') : XW X W ss (.BoolOp .Or (a :: b :: rest) pos) (m.bind fun t => if t then .ok true else m') :=
  PW_imp (pw_or h h') fun σ H Q ⟨sl, q⟩ => ⟨sl, wpR_imp (wpR_bind q) (Same.refl H) fun t q H1 s1 => by
    cases t with
    | false => exact ⟨sl.mono s1 s1, wpR_imp q s1 fun b z H2 s2 => z H2 (s1.trans s2)⟩
    | true => exact q H1 s1⟩
theorem xt_w {m : Res Bool} (h : XW X W ss a m) : XT X W ss a m := h.pt
theorem xi_one {op : BoolOp} {m : Res Bool} (h : XI X W ss a m) : XI X W ss (.BoolOp op [a] pos) m := pe_one h
theorem xi_and {rest : List Expr} {m m' : Res Bool} (h : XI X W ss a m) (h' : XI X W ss (.BoolOp .And (b :: rest) pos) m') : XI X W ss (.BoolOp .And (a :: b :: rest) pos) (m.bind fun t => if t then m' else .ok false) :=
  PE_imp (pe_and h h') fun σ H Q ⟨sl, q⟩ => ⟨sl, wpR_imp (wpR_bind q) (Same.refl H) fun t q v H1 s1 r1 => ⟨t, r1, by
    cases t with
    | true => exact ⟨sl.mono s1 s1, wpR_imp q s1 fun b z v' H2 s2 => z v' H2 (s1.trans s2)⟩
    | false => exact q _ H1 s1 rfl⟩⟩
theorem xi_not {m : Res Bool} (h : XI X W ss a m) : XI X W ss (.UnaryOp .Not a pos) (m.bind fun b => .ok (!b)) :=
  PE_imp (pe_not h) fun σ H Q ⟨sl, q⟩ => ⟨sl, wpR_imp (wpR_bind q) (Same.refl H) fun b q v H1 s1 r1 => ⟨b, r1, q _ H1 s1 rfl⟩⟩
def unw {α : Type} (o : Option α) : Res α := match o with
  | some a => .ok a
  | none => .stuck
@[simp] theorem unw_some {α : Type} (a : α) : unw (some a) = .ok a := rfl
theorem xi_unw {α : Type} [Enc α] {m : Res (Option α)} (h : XI X W ss a m) : XI X W ss a (m.bind unw) :=
  PE_imp h fun σ H Q ⟨sl, q⟩ => ⟨sl, wpR_imp (wpR_bind q) (Same.refl H) fun o q v H1 s1 r1 => by
    cases o with
    | none => exact q.elim
    | some x => exact q v H1 s1 r1.2⟩
class NN (α : Type) [Enc α] : Prop where
  nn : ∀ {K : Frag} {H : Hp} {v : V} {a : α}, Enc.rep K H v a → v ≠ .non
instance : NN Int := ⟨fun h e => by rw [e] at h; cases h⟩
instance : NN Bool := ⟨fun h e => by rw [e] at h; cases h⟩
instance : NN Str := ⟨fun h e => by rw [e] at h; cases h⟩
instance {α : Type} [Enc α] : NN (List α) := ⟨fun ⟨_, _, e1, _⟩ e => by rw [e] at e1; cases e1⟩
instance {α : Type} [Enc α] : NN (Tup α) := ⟨fun ⟨_, _, e1, _⟩ e => by rw [e] at e1; cases e1⟩
instance {α β : Type} [Enc α] [Enc β] : NN (α × β) := ⟨fun ⟨_, _, _, e1, _⟩ e => by rw [e] at e1; cases e1⟩
instance {α β γ : Type} [Enc α] [Enc β] [Enc γ] : NN (T3 α β γ) := ⟨fun ⟨_, _, _, _, e1, _⟩ e => by rw [e] at e1; cases e1⟩
theorem xi_some {α : Type} [Enc α] [NN α] {m : Res α} (h : XI X W ss a m) : XI X W ss a (m.bind fun x => .ok (some x)) :=
  PE_imp h fun σ H Q ⟨sl, q⟩ => ⟨sl, wpR_imp (wpR_bind q) (Same.refl H) fun o q v H1 s1 r1 => q v H1 s1 ⟨NN.nn r1, r1⟩⟩
def idx {α : Type} (xs : List α) (i : Int) : Res α := match atI xs i with
  | some a => .ok a
  | none => .stuck
theorem idx_nat {α : Type} {xs : List α} {i : Nat} {a : α} (h : xs[i]? = some a) : idx xs (i : Int) = .ok a := by unfold idx; rw [atI_nat h]
theorem atI_all2 {α β : Type} {P : α → β → Prop} {xs : List α} {ys : List β} {i : Int} {b : β} (h : All2 P xs ys) (e : atI ys i = some b) : ∃ a, atI xs i = some a ∧ P a b := by
  unfold atI at e ⊢
  rw [h.length]
  cases q : ixN ys.length i with
  | none => rw [q] at e; cases e
  | some j =>
    rw [q] at e
    exact h.get e
theorem noX_idx {α : Type} {xs : List α} {i : Int} : NoX (idx xs i) := fun _ h => by
  unfold idx at h
  cases e : atI xs i with
  | none => rw [e] at h; cases h
  | some a => rw [e] at h; cases h
theorem okR_idx {α : Type} {xs : List α} {i : Int} {P : α → Prop} (h : okR (idx xs i) P) : ∃ a, atI xs i = some a ∧ P a := by
  unfold idx at h
  cases e : atI xs i with
  | none => rw [e] at h; exact h.elim
  | some a => rw [e] at h; exact ⟨a, rfl, h⟩
theorem o2_ixL {α : Type} [Enc α] : Op2 X (rIxL X.K) (fun (xs : List α) (i : Int) => idx xs i) := fun xs i v w H Q ⟨p, vs, e1, hp, r⟩ e2 q => by
  obtain ⟨a, ea, q⟩ := okR_idx q
  obtain ⟨u, hu, ru⟩ := atI_all2 r ea
  exact ⟨p, vs, i, u, e1, e2, SqL.of hp, hu, q u H (Same.refl H) ru⟩
theorem o2_ixS : Op2 X (rIxL X.K) (fun (xs : Scr) (i : Int) => idx xs.ns i) := fun xs i v w H Q ⟨p, e1, hp⟩ e2 q => by
  obtain ⟨a, ea, q⟩ := okR_idx q
  have r : All2 (fun v a => v = V.int a) (xs.ns.map V.int) xs.ns := All2.of_map
  obtain ⟨u, hu, ru⟩ := atI_all2 r ea
  exact ⟨p, _, i, u, e1, e2, hp, hu, q u H (Same.refl H) ru⟩
def strIx (x : Str) (i : Int) : Res Str := guardR (decide (x.length ≤ 1000000)) (match atI x.cps.toList i with
  | some c => .ok ⟨#[c]⟩
  | none => .stuck)
theorem o2_ixStr : Op2 X rIxS strIx := fun x i v w H Q e1 e2 q => by
  unfold strIx at q
  by_cases hl : x.length ≤ 1000000
  · rw [decide_eq_true hl, guardR_true] at q
    cases e : atI x.cps.toList i with
    | none => rw [e] at q; exact q.elim
    | some c => rw [e] at q; exact ⟨x, i, c, e1, e2, Nat.le_trans hl (by decide), e, q _ H (Same.refl H) rfl⟩
  · rw [decide_eq_false hl] at q; exact q.elim
theorem noX_strIx {x : Str} {i : Int} : NoX (strIx x i) := fun _ h => by
  unfold strIx guardR at h
  split at h
  · split at h <;> cases h
  · cases h
theorem x_ix {α β γ : Type} [Enc α] [Enc β] [Enc γ] {r : R2} {g : α → β → Res γ} {m1 : Res α} {m2 : Res β} (hr : IxR X r) (ho : Op2 X r g) (hg : ∀ a b, NoX (g a b)) (h1 : XI X W ss a m1) (h2 : XI X W ss b m2) (hs : PlainIx b := by exact fun _ _ => rfl) :
    XI X W ss (.Subscript a b pos) (m1.bind fun a => m2.bind fun b => g a b) := PE_imp (pe_ix hr h1 h2 hs) fun _ _ _ h => r_op2 ho hg h
theorem xi_ixL {α : Type} [Enc α] {m1 : Res (List α)} {m2 : Res Int} (h1 : XI X W ss a m1) (h2 : XI X W ss b m2) (hs : PlainIx b := by exact fun _ _ => rfl) : XI X W ss (.Subscript a b pos) (m1.bind fun xs => m2.bind fun i => idx xs i) := x_ix ix_list o2_ixL (fun _ _ => noX_idx) h1 h2 hs
theorem xi_ixS {m1 : Res Scr} {m2 : Res Int} (h1 : XI X W ss a m1) (h2 : XI X W ss b m2) (hs : PlainIx b := by exact fun _ _ => rfl) : XI X W ss (.Subscript a b pos) (m1.bind fun xs => m2.bind fun i => idx xs.ns i) := x_ix ix_list o2_ixS (fun _ _ => noX_idx) h1 h2 hs
theorem xi_ixStr {m1 : Res Str} {m2 : Res Int} (h1 : XI X W ss a m1) (h2 : XI X W ss b m2) (hs : PlainIx b := by exact fun _ _ => rfl) : XI X W ss (.Subscript a b pos) (m1.bind fun xs => m2.bind fun i => strIx xs i) := x_ix ix_str o2_ixStr (fun _ _ => noX_strIx) h1 h2 hs
theorem xi_c {α β : Type} [Enc α] [Enc β] {m : Res α} {i : Int} {k : Nat} {p : Pos} {f : α → β} (h : XI X W ss a m) (hf : ∀ (x : α) (v : V) (H : Hp), Enc.rep X.K H v x → ∃ p vs u, v = .ref p ∧ SqT X.K H p vs ∧ atI vs i = some u ∧ Enc.rep X.K H u (f x))
    (hs : PlainIx (.Constant (.int i) k p) := by exact fun _ _ => rfl) : XI X W ss (.Subscript a (.Constant (.int i) k p) pos) (m.bind fun x => .ok (f x)) :=
  PE_imp (pe_ix ix_tup h pe_int hs) fun σ H Q ⟨sl, q⟩ => ⟨sl, wpR_imp (wpR_bind q) (Same.refl H) fun x q v H1 s1 r1 => by
    obtain ⟨p, vs, u, e, hp, hu, ru⟩ := hf x v H1 r1
    exact ⟨p, vs, i, u, e, rfl, hp, hu, q u H1 s1 ru⟩⟩
theorem xi_p1 {α β : Type} [Enc α] [Enc β] {m : Res (α × β)} {k : Nat} {p : Pos} (h : XI X W ss a m) : XI X W ss (.Subscript a (.Constant (.int 0) k p) pos) (m.bind fun x => .ok x.1) :=
  xi_c h fun x v H ⟨p, v1, v2, e, hp, r1, r2⟩ => ⟨p, _, v1, e, SqT.of hp, rfl, r1⟩
theorem xi_p2 {α β : Type} [Enc α] [Enc β] {m : Res (α × β)} {k : Nat} {p : Pos} (h : XI X W ss a m) : XI X W ss (.Subscript a (.Constant (.int 1) k p) pos) (m.bind fun x => .ok x.2) :=
  xi_c h fun x v H ⟨p, v1, v2, e, hp, r1, r2⟩ => ⟨p, _, v2, e, SqT.of hp, rfl, r2⟩
theorem xi_t1 {α β γ : Type} [Enc α] [Enc β] [Enc γ] {m : Res (T3 α β γ)} {k : Nat} {p : Pos} (h : XI X W ss a m) : XI X W ss (.Subscript a (.Constant (.int 0) k p) pos) (m.bind fun x => .ok x.a) :=
  xi_c h fun x v H ⟨p, v1, v2, v3, e, hp, r1, r2, r3⟩ => ⟨p, _, v1, e, SqT.of hp, rfl, r1⟩
theorem xi_t3 {α β γ : Type} [Enc α] [Enc β] [Enc γ] {m : Res (T3 α β γ)} {k : Nat} {p : Pos} (h : XI X W ss a m) : XI X W ss (.Subscript a (.Constant (.int 2) k p) pos) (m.bind fun x => .ok x.c) :=
  xi_c h fun x v H ⟨p, v1, v2, v3, e, hp, r1, r2, r3⟩ => ⟨p, _, v3, e, SqT.of hp, rfl, r3⟩
end
end G

namespace G
open PySem PySem.Spec PyProof.Rows L2
section
variable {α : Type} (le : α → α → Bool)
def ins (a : α) : List α → List α
  | [] => [a]
  | b :: bs => if le a b then a :: b :: bs else b :: ins a bs
def srt : List α → List α
  | [] => []
  | a :: as => ins le a (srt as)
theorem ins_perm (a : α) : ∀ l : List α, (ins le a l).Perm (a :: l)
  | [] => .refl _
  | b :: bs => by
    unfold ins
    split
    · exact .refl _
    · exact ((ins_perm a bs).cons b).trans (.swap a b bs)
theorem srt_perm : ∀ l : List α, (srt le l).Perm l
  | [] => .refl _
  | a :: as => (ins_perm le a _).trans ((srt_perm as).cons a)
variable {le}
theorem ins_pw (tot : ∀ a b, le a b = true ∨ le b a = true) (tr : ∀ a b c, le a b = true → le b c = true → le a c = true) (a : α) : ∀ l : List α, l.Pairwise (fun x y => le x y = true) → (ins le a l).Pairwise (fun x y => le x y = true)
  | [], _ => List.pairwise_singleton _ _
  | b :: bs, h => by
    obtain ⟨h1, h2⟩ := List.pairwise_cons.mp h
    unfold ins
    split
    · rename_i e
      refine List.pairwise_cons.mpr ⟨fun x m => ?_, h⟩
      rcases List.mem_cons.mp m with q | q
      · rw [q]; exact e
      · exact tr _ _ _ e (h1 x q)
    · rename_i e
      refine List.pairwise_cons.mpr ⟨fun x m => ?_, ins_pw tot tr a bs h2⟩
      rcases List.mem_cons.mp ((ins_perm le a bs).mem_iff.mp m) with q | q
      · rw [q]
        rcases tot a b with z | z
        · exact absurd z e
        · exact z
      · exact h1 x q
theorem srt_pw (tot : ∀ a b, le a b = true ∨ le b a = true) (tr : ∀ a b c, le a b = true → le b c = true → le a c = true) : ∀ l : List α, (srt le l).Pairwise (fun x y => le x y = true)
  | [] => List.Pairwise.nil
  | a :: as => ins_pw tot tr a _ (srt_pw tot tr as)
theorem perm_sorted (anti : ∀ a b, le a b = true → le b a = true → a = b) : ∀ {l m : List α}, l.Perm m → l.Pairwise (fun x y => le x y = true) → m.Pairwise (fun x y => le x y = true) → l = m
  | [], m, p, _, _ => by rw [List.nil_perm.mp p]
  | a :: l, [], p, _, _ => absurd p (by simp)
  | a :: l, b :: m, p, h1, h2 => by
    obtain ⟨a1, a2⟩ := List.pairwise_cons.mp h1
    obtain ⟨b1, b2⟩ := List.pairwise_cons.mp h2
    have e : a = b := by
      have m1 : a ∈ b :: m := p.mem_iff.mp List.mem_cons_self
      have m2 : b ∈ a :: l := p.mem_iff.mpr List.mem_cons_self
      rcases List.mem_cons.mp m1 with z | z
      · exact z
      · rcases List.mem_cons.mp m2 with y | y
        · exact y.symm
        · exact anti a b (a1 b y) (b1 a z)
    subst e
    rw [perm_sorted anti (List.perm_cons a |>.mp p) a2 b2]
end
def leI (a b : Int) : Bool := decide (a ≤ b)
def leP (a b : Int × Int) : Bool := decide (a.1 < b.1) || (decide (a.1 = b.1) && decide (a.2 ≤ b.2))
theorem leI_iff {a b : Int} : leI a b = true ↔ a ≤ b := by unfold leI; exact decide_eq_true_iff
theorem leP_iff {a b : Int × Int} : leP a b = true ↔ a.1 < b.1 ∨ a.1 = b.1 ∧ a.2 ≤ b.2 := by unfold leP; simp
abbrev sortI : List Int → List Int := srt leI
abbrev sortP : List (Int × Int) → List (Int × Int) := srt leP
theorem sortI_perm (l : List Int) : (sortI l).Perm l := srt_perm _ l
theorem sortI_pw (l : List Int) : (sortI l).Pairwise (· ≤ ·) := (srt_pw (le := leI) (fun a b => by simp only [leI_iff]; omega) (fun a b c => by simp only [leI_iff]; omega) l).imp fun h => leI_iff.mp h
theorem sortI_uniq {l m : List Int} (p : l.Perm m) (h : l.Pairwise (· ≤ ·)) : l = sortI m :=
  perm_sorted (le := leI) (fun a b => by simp only [leI_iff]; omega) (p.trans (sortI_perm m).symm) (h.imp fun h => leI_iff.mpr h) ((sortI_pw m).imp fun h => leI_iff.mpr h)
theorem leP_anti (a b : Int × Int) (h1 : leP a b = true) (h2 : leP b a = true) : a = b := by
  obtain ⟨a1, a2⟩ := a
  obtain ⟨b1, b2⟩ := b
  simp only [leP_iff] at h1 h2
  have e1 : a1 = b1 := by omega
  have e2 : a2 = b2 := by omega
  rw [e1, e2]
theorem sortP_perm (l : List (Int × Int)) : (sortP l).Perm l := srt_perm _ l
theorem sortP_pw (l : List (Int × Int)) : (sortP l).Pairwise (fun a b => leP a b = true) := srt_pw (le := leP) (fun a b => by simp only [leP_iff]; omega) (fun a b c => by simp only [leP_iff]; omega) l
theorem sortP_uniq {l m : List (Int × Int)} (p : l.Perm m) (h : l.Pairwise (fun a b => leP a b = true)) : l = sortP m := perm_sorted (le := leP) leP_anti (p.trans (sortP_perm m).symm) h (sortP_pw m)
section
variable {X : Cx} {W : WX} {ss : List Slot} {pos : Pos} {a b e : Expr} {es : List Expr}
theorem new_owI {α : Type} [Enc α] [Imm α] {F H H1 : Hp} {p : Addr} {vs : List V} {as : List α} {K : Frag} {Q : VK} (sf : Same F H) (s1 : Same H H1) (hp : H1 p = none) (r : All2 (fun v a => Enc.rep K H1 v a) vs as)
    (q : ∀ v H' F' G', Same H H' → Ext F H F' H' → Priv G' H F' H' → (ow as).P K F' G' (some v) → Q v H') : Q (.ref p) (upd H1 p (.lst vs)) :=
  new_ow s1 (ext_imm sf s1) hp (All2.imp (fun _ _ z => Enc.mono (join_r (sf.trans s1) (tups_le H1)) (Imm.imm z)) r) q
def big (n : Nat) : Bool := decide (n ≤ 1000000)
theorem big_line {n : Nat} (h : big n = true) : n ≤ sizeLine := Nat.le_trans (of_decide_eq_true h) (by decide)
def catR {α : Type} (xs ys : List α) : Res (List α) := guardR (big (xs.length + ys.length)) (.ok (xs ++ ys))
theorem xk_cat {α : Type} [Enc α] [Imm α] {m m' : Res (List α)} (h : XI X W ss a m) (h' : XI X W ss b m') : XK X W ss (.BinOp a .Add b pos) (m.bind fun xs => m'.bind fun ys => catR xs ys) ow :=
  PE_imp (pe_op op_cat h h') fun σ H Q ⟨F, sf, sl, q⟩ => ⟨sl.mono sf (Same.refl H), wpR_imp (wpR_bind q) (Same.refl H) fun xs q v H1 s1 r1 => ⟨(sl.mono sf (Same.refl H)).mono s1 s1, wpR_imp (wpR_bind q) s1 fun ys q w H2 s2 r2 => by
    obtain ⟨g, q⟩ := wpR_guard q
    obtain ⟨p, vs, rfl, hp, rv⟩ := r1
    obtain ⟨p', ws, rfl, hp', rw'⟩ := r2
    exact ⟨p, p', vs, ws, rfl, rfl, s2 _ _ hp, hp', by rw [rv.length, rw'.length]; exact big_line g, fun o ho => new_owI sf (s1.trans s2) ho (All2.append (rv.mono s2) rw') q⟩⟩⟩
def repR {α : Type} (xs : List α) (k : Int) : Res (List α) := guardR (small62 k && big (xs.length * k.toNat)) (.ok (List.replicate k.toNat xs).flatten)
theorem all2_rep {α β : Type} {P : α → β → Prop} {xs : List α} {ys : List β} (h : All2 P xs ys) : ∀ n : Nat, All2 P (List.replicate n xs).flatten (List.replicate n ys).flatten
  | 0 => trivial
  | n + 1 => by
    rw [List.replicate_succ, List.replicate_succ, List.flatten_cons, List.flatten_cons]
    exact All2.append h (all2_rep h n)
theorem xk_rep {α : Type} [Enc α] [Imm α] {m : Res (List α)} {m' : Res Int} (h : XI X W ss a m) (h' : XI X W ss b m') : XK X W ss (.BinOp a .Mult b pos) (m.bind fun xs => m'.bind fun k => repR xs k) ow :=
  PE_imp (pe_op op_rep h h') fun σ H Q ⟨F, sf, sl, q⟩ => ⟨sl.mono sf (Same.refl H), wpR_imp (wpR_bind q) (Same.refl H) fun xs q v H1 s1 r1 => ⟨(sl.mono sf (Same.refl H)).mono s1 s1, wpR_imp (wpR_bind q) s1 fun k q w H2 s2 r2 => by
    obtain ⟨g, q⟩ := wpR_guard q
    rw [Bool.and_eq_true] at g
    obtain ⟨g1, g2⟩ := small62_of g.1
    obtain ⟨p, vs, rfl, hp, rv⟩ := r1
    exact ⟨p, k, vs, rfl, r2, s2 _ _ hp, by omega, by omega, by rw [rv.length]; exact big_line g.2, fun o ho => new_owI sf (s1.trans s2) ho (all2_rep (rv.mono s2) _) q⟩⟩⟩
def XO (X : Cx) (W : WX) (ss : List Slot) (e : Option Expr) (m : Res (Option Int)) : Prop := PO X e fun σ H Q => Sl X.K H H ss σ ∧ wpR X W m σ H fun o => ∀ H', Same H H' → Q o H'
theorem xo_none : XO X W ss none (.ok none) := ⟨fun pins s σ H Q I ⟨_, q⟩ => po_none.run pins s σ H Q I (q H (Same.refl H))⟩
theorem xo_some {m : Res Int} (h : XI X W ss e m) : XO X W ss (some e) (m.bind fun i => .ok (some i)) :=
  ⟨fun pins s σ H Q I ⟨sl, q⟩ => (po_some h).run pins s σ H Q I ⟨sl, wpR_imp (wpR_bind q) (Same.refl H) fun i q v H1 s1 r1 => ⟨i, r1, q H1 s1⟩⟩⟩
def cut {α : Type} (xs : List α) (lo hi : Option Int) : List α := (xs.drop (HT.sIx xs.length 0 lo)).take (HT.sIx xs.length xs.length hi - HT.sIx xs.length 0 lo)
theorem cut_all2 {α : Type} {P : V → α → Prop} {vs : List V} {xs : List α} (h : All2 P vs xs) (lo hi : Option Int) : All2 P (cutV vs lo hi) (cut xs lo hi) := by
  unfold cutV cut
  rw [h.length]
  exact (h.drop _).take _
theorem xk_slice {α : Type} [Enc α] [Imm α] {lo hi : Option Expr} {p2 : Pos} {m : Res (List α)} {ml mh : Res (Option Int)} (h : XI X W ss a m) (hl : XO X W ss lo ml) (hh : XO X W ss hi mh) :
    XK X W ss (.Subscript a (.Slice lo hi none p2) pos) (m.bind fun xs => ml.bind fun l => mh.bind fun u => .ok (cut xs l u)) ow :=
  PE_imp (pe_slice sl_list h hl hh) fun σ H Q ⟨F, sf, sl, q⟩ => ⟨sl.mono sf (Same.refl H), wpR_imp (wpR_bind q) (Same.refl H) fun xs q v H1 s1 r1 => ⟨(sl.mono sf (Same.refl H)).mono s1 s1, wpR_imp (wpR_bind q) s1 fun l q H2 s2 =>
    ⟨(sl.mono sf (Same.refl H)).mono (s1.trans s2) (s1.trans s2), wpR_imp (wpR_bind q) (s1.trans s2) fun u q H3 s3 => by
    obtain ⟨p, vs, rfl, hp, rv⟩ := r1
    exact ⟨p, vs, rfl, SqL.of (s3 _ _ (s2 _ _ hp)), fun o ho => new_owI sf (s1.trans (s2.trans s3)) ho (cut_all2 (rv.mono (s2.trans s3)) l u) q⟩⟩⟩⟩
theorem xk_sliceS {lo hi : Option Expr} {p2 : Pos} {m : Res Scr} {ml mh : Res (Option Int)} (h : XI X W ss a m) (hl : XO X W ss lo ml) (hh : XO X W ss hi mh) :
    XK X W ss (.Subscript a (.Slice lo hi none p2) pos) (m.bind fun xs => ml.bind fun l => mh.bind fun u => .ok (cut xs.ns l u)) ow :=
  PE_imp (pe_slice sl_list h hl hh) fun σ H Q ⟨F, sf, sl, q⟩ => ⟨sl.mono sf (Same.refl H), wpR_imp (wpR_bind q) (Same.refl H) fun xs q v H1 s1 r1 => ⟨(sl.mono sf (Same.refl H)).mono s1 s1, wpR_imp (wpR_bind q) s1 fun l q H2 s2 =>
    ⟨(sl.mono sf (Same.refl H)).mono (s1.trans s2) (s1.trans s2), wpR_imp (wpR_bind q) (s1.trans s2) fun u q H3 s3 => by
    obtain ⟨p, rfl, hp⟩ := r1
    exact ⟨p, _, rfl, (s2.trans s3).seq hp, fun o ho => new_owI sf (s1.trans (s2.trans s3)) ho (cut_all2 All2.of_map l u) q⟩⟩⟩⟩
def cutStr (z : Str) (lo hi : Option Int) : Res Str := guardR (big z.length) (.ok (cutS z lo hi))
theorem xi_sliceStr {lo hi : Option Expr} {p2 : Pos} {m : Res Str} {ml mh : Res (Option Int)} (h : XI X W ss a m) (hl : XO X W ss lo ml) (hh : XO X W ss hi mh) :
    XI X W ss (.Subscript a (.Slice lo hi none p2) pos) (m.bind fun x => ml.bind fun l => mh.bind fun u => cutStr x l u) :=
  PE_imp (pe_slice sl_str h hl hh) fun σ H Q ⟨sl, q⟩ => ⟨sl, wpR_imp (wpR_bind q) (Same.refl H) fun xs q v H1 s1 r1 => ⟨sl.mono s1 s1, wpR_imp (wpR_bind q) s1 fun l q H2 s2 =>
    ⟨sl.mono (s1.trans s2) (s1.trans s2), wpR_imp (wpR_bind q) (s1.trans s2) fun u q H3 s3 => by
    obtain ⟨g, q⟩ := wpR_guard q
    exact ⟨xs, r1, big_line g, q _ H3 (s1.trans (s2.trans s3)) rfl⟩⟩⟩⟩
structure Bc (X : Cx) (r : List V → Hp → VK → Prop) {A R : Type} [EncA A] [Enc R] (g : A → Res R) : Prop where
  op : ∀ (x : A) (vs : List V) (H : Hp) (Q : VK), EncA.rep X.K H vs x → okR (g x) (fun c => ∀ v' H', Same H H' → Enc.rep X.K H' v' c → Q v' H') → r vs H Q
  nx : ∀ x, NoX (g x)
theorem r_bc {A R : Type} [EncA A] [Enc R] {r : List V → Hp → VK → Prop} {g : A → Res R} {m : Res A} (bc : Bc X r g) {σ : L2.St} {H : Hp} {Q : VK} (h : rI X W ss (m.bind g) σ H Q) : tCB r (rA X W ss m) σ H Q := by
  obtain ⟨sl, q⟩ := h
  refine ⟨sl, wpR_imp (wpR_bind q) (Same.refl H) fun x q vs H1 s1 r1 => bc.op x vs H1 Q r1 ?_⟩
  unfold okR
  cases e : g x with
  | ok c => rw [e] at q; exact fun v' H' s3 r3 => q v' H' (s1.trans s3) r3
  | exc y => exact bc.nx x y e
  | stuck => rw [e] at q; exact q
theorem xi_bf {A R : Type} [EncA A] [Enc R] {x : Str} {id : String} {p : Pos} {r : List V → Hp → VK → Prop} {g : A → Res R} {m : Res A} (hc : CallR X (.builtin id) r) (bc : Bc X r g) (hm : X.mg x = none) (hv : bootBuiltins x = some (.builtin id)) (ha : XA X W ss (e :: es) m)
    (hg : Gl X x := by rfl) (hn : x ≠ "__name__" := by decide) (hdb : (x == ("__debug__" : Str)) = false := by decide)
    (he : starEach (e :: es) X.env = (false, eval e X.env) :: starEach es X.env := by rfl) (hpl : (backTo pos (starEach es X.env)).any (·.1) = false := by rfl) : XI X W ss (.Call (.Name x p) (e :: es) [] pos) (m.bind g) :=
  PE_imp (pe_callB hc hg hm hv ha hn hdb he hpl) fun _ _ _ h => r_bc bc h
theorem xi_bt {A R : Type} [EncA A] [Enc R] {x : Str} {T : String} {p : Pos} {r : List V → Hp → VK → Prop} {g : A → Res R} {m : Res A} (hc : CallR X (.type T) r) (bc : Bc X r g) (hm : X.mg x = none) (hv : bootBuiltins x = some (.type T)) (ha : XA X W ss (e :: es) m)
    (hg : Gl X x := by rfl) (hn : x ≠ "__name__" := by decide) (hdb : (x == ("__debug__" : Str)) = false := by decide)
    (he : starEach (e :: es) X.env = (false, eval e X.env) :: starEach es X.env := by rfl) (hpl : (backTo pos (starEach es X.env)).any (·.1) = false := by rfl) : XI X W ss (.Call (.Name x p) (e :: es) [] pos) (m.bind g) :=
  PE_imp (pe_callTy hc hg hm hv ha hn hdb he hpl) fun _ _ _ h => r_bc bc h
theorem c_lenL {α : Type} [Enc α] : Bc X (fun xs H Q => ∃ x n, xs = [x] ∧ LenV X.K x H n ∧ Q (.int n) H) (fun x : List α × Unit => Res.ok (x.1.length : Int)) :=
  ⟨fun x vs H Q ⟨v, r, e1, ⟨p, ws, e2, hp, rv⟩, e3⟩ q => by
    have e3 : r = [] := e3
    subst e1; subst e2; subst e3
    exact ⟨_, ws.length, rfl, .inl ⟨ws, SqL.of hp, rfl⟩, q _ H (Same.refl H) (by rw [rv.length]; rfl)⟩, fun _ => noX_ok⟩
theorem c_lenScr : Bc X (fun xs H Q => ∃ x n, xs = [x] ∧ LenV X.K x H n ∧ Q (.int n) H) (fun x : Scr × Unit => Res.ok (x.1.ns.length : Int)) :=
  ⟨fun x vs H Q ⟨v, r, e1, ⟨p, e2, hp⟩, e3⟩ q => by
    have e3 : r = [] := e3
    subst e1; subst e2; subst e3
    exact ⟨_, _, rfl, .inl ⟨_, hp, rfl⟩, q _ H (Same.refl H) (by rw [List.length_map]; rfl)⟩, fun _ => noX_ok⟩
def strLen (x : Str) : Res Int := guardR (big x.length) (.ok (x.length : Int))
theorem c_lenStr : Bc X (fun xs H Q => ∃ x n, xs = [x] ∧ LenV X.K x H n ∧ Q (.int n) H) (fun x : Str × Unit => strLen x.1) :=
  ⟨fun x vs H Q ⟨v, r, e1, e2, e3⟩ q => by
    have e2 : v = .str x.1 := e2
    have e3 : r = [] := e3
    subst e1; subst e2; subst e3
    unfold strLen at q
    cases g : big x.1.length with
    | false => rw [g] at q; exact q.elim
    | true => rw [g] at q; exact ⟨_, x.1.length, rfl, ⟨big_line g, rfl⟩, q _ H (Same.refl H) rfl⟩, fun _ => noX_guard⟩
theorem c_max : Bc X (fun xs H Q => ∃ i j, xs = [.int i, .int j] ∧ Q (.int (if j > i then j else i)) H) (fun x : Int × Int × Unit => Res.ok (max x.1 x.2.1)) :=
  ⟨fun x vs H Q ⟨v, r, e1, e2, v', r', e3, e4, e5⟩ q => by
    have e2 : v = .int x.1 := e2
    have e4 : v' = .int x.2.1 := e4
    have e5 : r' = [] := e5
    subst e1; subst e2; subst e3; subst e4; subst e5
    refine ⟨_, _, rfl, q _ H (Same.refl H) ?_⟩
    show V.int _ = V.int _
    rw [Int.max_def]
    congr 1
    split <;> split <;> omega, fun _ => noX_ok⟩
theorem c_min : Bc X (fun xs H Q => ∃ i j, xs = [.int i, .int j] ∧ Q (.int (if j < i then j else i)) H) (fun x : Int × Int × Unit => Res.ok (min x.1 x.2.1)) :=
  ⟨fun x vs H Q ⟨v, r, e1, e2, v', r', e3, e4, e5⟩ q => by
    have e2 : v = .int x.1 := e2
    have e4 : v' = .int x.2.1 := e4
    have e5 : r' = [] := e5
    subst e1; subst e2; subst e3; subst e4; subst e5
    refine ⟨_, _, rfl, q _ H (Same.refl H) ?_⟩
    show V.int _ = V.int _
    rw [Int.min_def]
    congr 1
    split <;> split <;> omega, fun _ => noX_ok⟩
def strI (i : Int) : Res Str := guardR (decide (i.natAbs < 10 ^ 70)) (.ok (toString i))
theorem c_intB : Bc X (fun xs H Q => (∃ i, xs = [.int i] ∧ Q (.int i) H) ∨ ∃ k, xs = [.bl k] ∧ Q (.int (if k then 1 else 0)) H) (fun x : Bool × Unit => Res.ok (if x.1 then (1 : Int) else 0)) :=
  ⟨fun x vs H Q ⟨v, r, e1, e2, e3⟩ q => by
    have e2 : v = .bl x.1 := e2
    have e3 : r = [] := e3
    subst e1; subst e2; subst e3
    exact .inr ⟨x.1, rfl, q _ H (Same.refl H) rfl⟩, fun _ => noX_ok⟩
theorem xk_sortedI {m : Res (List Int × Unit)} {p : Pos} (ha : XA X W ss [a] m) (hm : X.mg "sorted" = none) (hg : Gl X "sorted" := by rfl) (he : starEach [a] X.env = (false, eval a X.env) :: starEach [] X.env := by rfl) :
    XK X W ss (.Call (.Name "sorted" p) [a] [] pos) (m.bind fun x => .ok (sortI x.1)) ow :=
  PE_imp (pe_callB cr_sortedI hg hm (by decide +kernel) ha (by decide) (by decide) he rfl) fun σ H Q ⟨F, sf, sl, q⟩ => ⟨sl.mono sf (Same.refl H), wpR_imp (wpR_bind q) (Same.refl H) fun x q vs H1 s1 ⟨v, r, e1, ⟨p, ws, e2, hp, rv⟩, e3⟩ => by
    have e3 : r = [] := e3
    subst e1; subst e2; subst e3
    have ew : ws = x.1.map V.int := All2.map_eq rv
    refine ⟨p, x.1, rfl, by rw [← ew]; exact SqL.of hp, fun ns' o h1 h2 ho => ?_⟩
    rw [sortI_uniq h1 h2]
    exact new_owI sf s1 ho All2.of_map q⟩
def pairAt (H : Hp) (v : V) : Int × Int := match v with
  | .ref t => (match H t with
    | some (.tup [.int i, .int j]) => (i, j)
    | _ => (0, 0))
  | _ => (0, 0)
theorem pairAt_ref {H : Hp} {t : Addr} {i j : Int} (h : H t = some (.tup [.int i, .int j])) : pairAt H (.ref t) = (i, j) := by simp [pairAt, h]
theorem pairs_of {K : Frag} {H : Hp} : ∀ {vs : List V} {xs : List (Int × Int)}, All2 (fun v a => Enc.rep K H v a) vs xs → (∀ v ∈ vs, ∃ t, v = V.ref t ∧ H t = some (.tup [.int (pairAt H v).1, .int (pairAt H v).2])) ∧ vs.map (pairAt H) = xs
  | [], [], _ => ⟨fun v m => (by cases m), rfl⟩
  | v :: vs, x :: xs, ⟨⟨t, v1, v2, e1, ht, r1, r2⟩, h2⟩ => by
    have r1 : v1 = .int x.1 := r1
    have r2 : v2 = .int x.2 := r2
    subst e1; subst r1; subst r2
    obtain ⟨i1, i2⟩ := pairs_of h2
    have e := pairAt_ref ht
    refine ⟨fun u m => ?_, by rw [List.map_cons, i2, e]⟩
    rcases List.mem_cons.mp m with q | q
    · rw [q, e]; exact ⟨t, rfl, ht⟩
    · exact i1 u q
  | [], _ :: _, h => h.elim
  | _ :: _, [], h => h.elim
theorem all2_of_map {K : Frag} {H : Hp} {k : V → Int × Int} : ∀ {vs : List V}, (∀ v ∈ vs, ∃ t, v = V.ref t ∧ H t = some (.tup [.int (k v).1, .int (k v).2])) → All2 (fun v a => Enc.rep K H v a) vs (vs.map k)
  | [], _ => trivial
  | v :: vs, h => by
    obtain ⟨t, e, ht⟩ := h v List.mem_cons_self
    exact ⟨⟨t, _, _, e, ht, rfl, rfl⟩, all2_of_map fun u m => h u (List.mem_cons_of_mem _ m)⟩
theorem xk_sortedP {m : Res (List (Int × Int) × Unit)} {p : Pos} (ha : XA X W ss [a] m) (hm : X.mg "sorted" = none) (hg : Gl X "sorted" := by rfl) (he : starEach [a] X.env = (false, eval a X.env) :: starEach [] X.env := by rfl) :
    XK X W ss (.Call (.Name "sorted" p) [a] [] pos) (m.bind fun x => .ok (sortP x.1)) ow :=
  PE_imp (pe_callB cr_sortedPO hg hm (by decide +kernel) ha (by decide) (by decide) he rfl) fun σ H Q ⟨F, sf, sl, q⟩ => ⟨sl.mono sf (Same.refl H), wpR_imp (wpR_bind q) (Same.refl H) fun x q vs H1 s1 ⟨v, r, e1, ⟨p, ws, e2, hp, rv⟩, e3⟩ => by
    have e3 : r = [] := e3
    subst e1; subst e2; subst e3
    obtain ⟨hk, ek⟩ := pairs_of rv
    refine ⟨p, ws, pairAt H1, rfl, SqL.of hp, hk, fun ys o h1 h2 ho => ?_⟩
    have hy : ∀ y ∈ ys, ∃ t, y = V.ref t ∧ H1 t = some (.tup [.int (pairAt H1 y).1, .int (pairAt H1 y).2]) := fun y m => hk y (h2.perm.mem_iff.mp m)
    have e : ys.map (pairAt H1) = sortP x.1 := by
      refine sortP_uniq (by rw [← ek]; exact h2.perm.map _) (List.pairwise_map.mpr (h1.imp fun {u v} z => ?_))
      have z := SrtO.lexB_no.mp z
      rw [leP_iff]
      omega
    rw [← e] at q
    exact new_owI sf s1 ho (all2_of_map hy) q⟩
theorem c_tuple {α : Type} [Enc α] : Bc X (fun xs H Q => ∃ p ys, xs = [.ref p] ∧ ((SqL X.K H p ys ∧ ∀ l, H l = none → Q (.ref l) (upd H l (.tup ys))) ∨ (SqT X.K H p ys ∧ Q (.ref p) H))) (fun x : List α × Unit => Res.ok (⟨x.1⟩ : Tup α)) :=
  ⟨fun x vs H Q ⟨v, r, e1, ⟨p, ws, e2, hp, rv⟩, e3⟩ q => by
    have e3 : r = [] := e3
    subst e1; subst e2; subst e3
    exact ⟨p, ws, rfl, .inl ⟨SqL.of hp, fun o ho => q _ _ (same_upd ho) ⟨o, ws, rfl, SqT.of upd_same, rv.mono (same_upd ho)⟩⟩⟩, fun _ => noX_ok⟩
def catS (x y : Str) : Res Str := guardR (big (x.length + y.length)) (.ok (x ++ y))
theorem b_catS : Bi X (fun x y H Q => ∃ i j, x = .str i ∧ y = .str j ∧ i.length + j.length ≤ sizeLine ∧ Q (.str (i ++ j)) H) catS := ⟨fun a b v w H Q r1 r2 q => by
  unfold catS at q
  cases g : big (a.length + b.length) with
  | false => rw [g] at q; exact q.elim
  | true => rw [g] at q; exact ⟨a, b, r1, r2, big_line g, q _ H (Same.refl H) rfl⟩, fun _ _ => noX_guard⟩
def joinR (x : Str) (ys : List Str) : Res Str := guardR (big ((ys.map (·.length)).sum + ys.length * x.length)) (.ok (Txt.join x ys))
theorem xi_join {m : Res Str} {m' : Res (List Str)} {apos : Pos} (h : XI X W ss a m) (h' : XI X W ss b m') (hs : starEach [b] X.env = [(false, eval b X.env)] := by rfl) (hbase : attributeBase a "join" X.env (eval a X.env) = eval a X.env := by rfl) (hline : (apos.endLine == pos.line) = true := by rfl) :
    XI X W ss (.Call (.Attribute a "join" apos) [b] [] pos) (m.bind fun x => m'.bind fun ys => joinR x ys) :=
  PE_imp (pe_join h h' hs hbase hline) fun σ H Q ⟨sl, q⟩ => ⟨sl, wpR_imp (wpR_bind q) (Same.refl H) fun x q v H1 s1 r1 => ⟨⟨x, r1⟩, sl.mono s1 s1, wpR_imp (wpR_bind q) s1 fun ys q w H2 s2 ⟨p, ws, e2, hp, rv⟩ => by
    obtain ⟨g, q⟩ := wpR_guard q
    have ew : ws = ys.map V.str := All2.map_eq rv
    exact ⟨x, p, ys, r1, by rw [e2], .inl (by rw [← ew]; exact SqL.of hp), Nat.le_trans (of_decide_eq_true g) (by decide), q _ H2 (s1.trans s2) rfl⟩⟩⟩
theorem all3_ow {K : Frag} {F : Hp} {α : Type} [Enc α] {as : List α} {ss : List Slot} {Gs : List Hp} {σ : L2.St} {i : Nat} (h : All3 K F ss Gs σ) (hs : ss[i]? = some (ow as)) :
    ∃ G p vs, Gs[i]? = some G ∧ σ[i]? = some (some (.ref p)) ∧ G p = some (.lst vs) ∧ All2 (fun v a => Enc.rep K F v a) vs as := by
  obtain ⟨G, o, h1, h2, p, vs, e, g, r⟩ := h.get hs
  subst e
  exact ⟨G, p, vs, h1, h2, g, r⟩
theorem set_self {α : Type} : ∀ {l : List α} {i : Nat} {a : α}, l[i]? = some a → l.set i a = l
  | [], _, _, h => by simp at h
  | b :: l, 0, a, h => by have e : b = a := Option.some.inj h; rw [e]; rfl
  | b :: l, i + 1, a, h => by rw [List.set_cons_succ, set_self (l := l) (i := i) h]
theorem Asn.put {α : Type} [Enc α] {K : Frag} {B F0 H F : Hp} {ss : List Slot} {σ : L2.St} {Gs : List Hp} (A : Asn K B F0 ss σ H F Gs) {i : Nat} {G : Hp} {p : Addr} {vs vs' : List V} {as' : List α} (hG : Gs[i]? = some G) (hσ : σ[i]? = some (some (.ref p))) (hp : G p = some (.lst vs))
    (r : All2 (fun v a => Enc.rep K F v a) vs' as') : Asn K B F0 (ss.set i (ow as')) σ (upd H p (.lst vs')) F (Gs.set i (upd noHp p (.lst vs'))) := by
  have hm : G ∈ Gs := List.mem_of_getElem? hG
  obtain ⟨h1, h2, h3, h4⟩ := A.priv G hm _ _ hp
  have sF : Same F (upd H p (.lst vs')) := fun c u z => by
    rw [upd_ne (fun e => by rw [e, h3] at z; cases z)]
    exact A.ext.sub _ _ z
  refine ⟨⟨A.ext.le, sF, A.ext.new⟩, fun c u z => ?_, ?_, fun G' m c u z => ?_, ?_⟩
  · rw [upd_ne (fun e => by rw [e, h2] at z; cases z)]
    exact A.base _ _ z
  · have e := set_self hσ
    rw [← e]
    exact A.all.set (s := ow as') ⟨p, vs', rfl, upd_same, r⟩ i
  · -- where another own heap stands
    by_cases hi : G' = upd noHp p (.lst vs')
    · subst hi
      by_cases e : c = p
      · subst e
        rw [upd_same] at z; cases z
        exact ⟨upd_same, h2, h3, rfl⟩
      · rw [upd_ne e] at z; cases z
    · obtain ⟨j, hj⟩ := List.getElem?_of_mem m
      have hji : j ≠ i := fun e => by
        subst e
        have hlt : j < Gs.length := (List.getElem?_eq_some_iff.mp hG).1
        rw [List.getElem?_set_self hlt] at hj
        exact hi (Option.some.inj hj).symm
      rw [List.getElem?_set_ne (Ne.symm hji)] at hj
      have hd : Dj G' G := by
        have pw := A.dj
        have hj' := List.getElem?_eq_some_iff.mp hj
        have hG' := List.getElem?_eq_some_iff.mp hG
        rcases Nat.lt_or_gt_of_ne hji with z | z
        · have := List.pairwise_iff_getElem.mp pw j i hj'.1 hG'.1 z
          rw [hj'.2, hG'.2] at this
          exact this
        · have := List.pairwise_iff_getElem.mp pw i j hG'.1 hj'.1 z
          rw [hj'.2, hG'.2] at this
          exact fun a => (this a).symm
      have hcp : c ≠ p := fun e => by
        subst e
        rcases hd c with y | y
        · rw [y] at z; cases z
        · rw [y] at hp; cases hp
      obtain ⟨k1, k2, k3, k4⟩ := A.priv G' (List.mem_of_getElem? hj) c u z
      exact ⟨by rw [upd_ne hcp]; exact k1, k2, k3, k4⟩
  · refine pw_ix hG A.dj fun G' d c => ?_
    by_cases e : c = p
    · subst e
      rcases d c with y | y
      · rw [y] at hp; cases hp
      · exact .inr y
    · exact .inl (by rw [upd_ne e]; rfl)
where
  pw_ix {G G2 : Hp} {i : Nat} : ∀ {Gs : List Hp}, Gs[i]? = some G → Gs.Pairwise Dj → (∀ G', Dj G G' → Dj G2 G') → (Gs.set i G2).Pairwise Dj := by
    intro Gs hG pw hd
    refine List.pairwise_iff_getElem.mpr fun j k hj hk hjk => ?_
    rw [List.length_set] at hj hk
    have hi := List.getElem?_eq_some_iff.mp hG
    have base := List.pairwise_iff_getElem.mp pw
    rw [List.getElem_set, List.getElem_set]
    split
    · rename_i e1
      split
      · rename_i e2; omega
      · subst e1
        have := base i k hi.1 hk hjk
        rw [hi.2] at this
        exact hd _ this
    · split
      · rename_i e1 e2
        subst e2
        have := base j i hj hi.1 hjk
        rw [hi.2] at this
        exact fun a => (hd _ (fun c => (this c).symm) a).symm
      · exact base j k hj hk hjk
def appR {α : Type} (xs : List α) (a : α) : Res (List α) := guardR (big xs.length) (.ok (xs ++ [a]))
theorem s1_append (i : Nat) {α : Type} [Enc α] {as : List α} {m : Res α} {x : Str} {p apos cpos : Pos} (h : XK X W ss e m fr) (hs : ss[i]? = some (ow as) := by rfl) (hp : PE X (.Name x p) (tVar i) := by exact pv _)
    (hbase : attributeBase (.Name x p) "append" X.env (eval (.Name x p) X.env) = eval (.Name x p) X.env := by rfl)
    (hfew : ((backTo cpos (starEach [e] X.env)).all (fun x => !x.1) && (backToKw cpos (keywordEach [] X.env)).all (fun x => x.1.isSome)
      && decide (([e] : List Expr).length + ([] : List Keyword).length + (if ([] : List Keyword).isEmpty then 0 else 1) < 30)) = true := by rfl)
    (hline : (apos.endLine == cpos.line) = true := by rfl) (hst : starEach [e] X.env = (false, eval e X.env) :: starEach [] X.env := by rfl) (hplain : (backTo cpos (starEach [] X.env)).any (·.1) = false := by rfl)
    (hsw : swapsWith (.Call (.Attribute (.Name x p) "append" apos) [e] [] cpos) none pos.line X.env = pure false := by rfl) :
    S1 X W ss (.Expr (.Call (.Attribute (.Name x p) "append" apos) [e] [] cpos) pos) (m.bind fun a => appR as a) (fun as' => ss.set i (ow as')) := by
  have hx := pe_bm PySem.F.plainAttrs_list PySem.F.slot_list_append PySem.F.type_list_append mt_append hp (pa_cons h pa_nil hst) hbase hfew hline hst hplain
  refine PS_imp (ps_expr hx hsw) fun D σ H ⟨B, F0, F, Gs, A, q⟩ => ?_
  obtain ⟨G, p, vs, hG, hσ, hp, r⟩ := all3_ow A.all hs
  have hH := A.sub G (List.mem_of_getElem? hG) _ _ hp
  refine ⟨.ref p, hσ, .inl ⟨rfl, vs, SqL.of hH⟩, F, A.ext.sub, A.sl, wpS_R (wpS_bind q) A.base fun a q v H' F' G' s ex pr k => ?_⟩
  obtain ⟨v', e1, rv⟩ := k
  cases e1
  have A' := A.grow s ex
  unfold appR at q
  cases g : big as.length with
  | false => rw [g] at q; exact q.elim
  | true =>
    rw [g] at q
    refine ⟨p, vs, v, rfl, rfl, s _ _ hH, by rw [r.length]; exact Nat.lt_of_le_of_lt (of_decide_eq_true g) (by decide), ?_⟩
    exact q _ _ _ _ (A'.put hG hσ hp (All2.append (r.mono ex.le) ⟨rv, trivial⟩))
def extR {α : Type} (xs ys : List α) : Res (List α) := guardR (big (xs.length + ys.length)) (.ok (xs ++ ys))
theorem froz {w : Ends → Hp → Hp → Prop} (i : Nat) {α : Type} [Enc α] {as : List α} {sts : List Stmt} (h : PSs X sts (rdX X (ss.set i (fr as)) w)) (hs : ss[i]? = some (ow as)) : PSs X sts (rdX X ss w) := by
  refine PSs_imp h fun D σ H ⟨B, F0, F, Gs, A, q⟩ => ?_
  obtain ⟨G, p, vs, hG, hσ, hp, r⟩ := all3_ow A.all hs
  have hm := List.mem_of_getElem? hG
  have sG := A.sub G hm
  refine ⟨B, F0, join F G, Gs.set i noHp, ⟨⟨A.ext.le.trans join_l, join_le A.ext.sub sG, fun c u z => (join_or z).elim (A.ext.new c u) fun z => .inr (.inl (A.priv G hm c u z).2.1)⟩, A.base, ?_, fun G' m c u z => ?_, ?_⟩, q⟩
  · have e := set_self hσ
    rw [← e]
    exact (A.all.mono join_l).set (s := fr as) ⟨.ref p, rfl, p, vs, rfl, join_r A.ext.sub sG _ _ hp, r.mono join_l⟩ i
  · obtain ⟨j, hj⟩ := List.getElem?_of_mem m
    by_cases hji : j = i
    · subst hji
      have hlt : j < Gs.length := (List.getElem?_eq_some_iff.mp hG).1
      rw [List.getElem?_set_self hlt] at hj
      have e := Option.some.inj hj
      rw [← e] at z; cases z
    · rw [List.getElem?_set_ne (Ne.symm hji)] at hj
      obtain ⟨k1, k2, k3, k4⟩ := A.priv G' (List.mem_of_getElem? hj) c u z
      refine ⟨k1, k2, ?_, k4⟩
      have hj' := List.getElem?_eq_some_iff.mp hj
      have hG' := List.getElem?_eq_some_iff.mp hG
      have d : Dj G' G := by
        rcases Nat.lt_or_gt_of_ne hji with y | y
        · have := List.pairwise_iff_getElem.mp A.dj j i hj'.1 hG'.1 y
          rw [hj'.2, hG'.2] at this
          exact this
        · have := List.pairwise_iff_getElem.mp A.dj i j hG'.1 hj'.1 y
          rw [hj'.2, hG'.2] at this
          exact fun a => (this a).symm
      have gc : G c = none := (d c).elim (fun y => by rw [y] at z; cases z) id
      unfold join
      rw [k3]
      exact gc
  · exact pw_set i A.dj fun G' _ c => .inl rfl
theorem st_froz (i : Nat) {α R : Type} [Enc α] {as : List α} {e : Bool} {sts : List Stmt} {M : Res R} {kr : R → Slot} (h : ST X W e (ss.set i (fr as)) sts M kr) (hs : ss[i]? = some (ow as) := by rfl) : ST X W e ss sts M kr := froz i h hs
def TgL (X : Cx) {α : Type} [Enc α] (ts : List Expr) (n : Nat) (u : List α → List Slot → List Slot) : Prop :=
  ∃ g, PGs X ts g ∧ ∀ (as : List α) (vs : List V) (B F0 F H : Hp) (Gs : List Hp) (ss : List Slot) (σ : L2.St) (Q : L2.St → Hp → Prop), as.length = n → Asn X.K B F0 ss σ H F Gs → All2 (fun v a => Enc.rep X.K F v a) vs as →
    (∀ σ' Gs', Asn X.K B F0 (u as ss) σ' H F Gs' → Q σ' H) → g vs σ H Q
theorem tl_nil {α : Type} [Enc α] : TgL X (α := α) [] 0 (fun _ ss => ss) := ⟨_, pgs_nil, fun as vs B F0 F H Gs ss σ Q hl A r q => by
  cases as with
  | nil => cases vs with
    | nil => exact ⟨rfl, q σ Gs A⟩
    | cons v vs => exact r.elim
  | cons a as => cases hl⟩
theorem tl_cons {α : Type} [Enc α] [Inhabited α] {t : Expr} {ts : List Expr} {n : Nat} {u1 : α → List Slot → List Slot} {u2 : List α → List Slot → List Slot} (h1 : Tg X t u1) (h2 : TgL X ts n u2)
    (hs : (assignEach (t :: ts) X.env).map (·.2) = assign t X.env :: (assignEach ts X.env).map (·.2) := by rfl) : TgL X (t :: ts) (n + 1) (fun as ss => u2 as.tail (u1 (as.headD default) ss)) := by
  obtain ⟨g1, p1, q1⟩ := h1
  obtain ⟨g2, p2, q2⟩ := h2
  refine ⟨_, pgs_cons p1 p2 hs, fun as vs B F0 F H Gs ss σ Q hl A r q => ?_⟩
  cases as with
  | nil => cases hl
  | cons a as =>
    cases vs with
    | nil => exact r.elim
    | cons v vs => exact ⟨v, vs, rfl, q1 _ _ _ _ _ _ _ _ _ _ A r.1 fun σ1 Gs1 A1 => q2 as vs _ _ _ _ _ _ _ _ (Nat.succ.inj hl) A1 r.2 q⟩
theorem s1_unl {α : Type} [Enc α] {ts : List Expr} {n k : Nat} {tp : Pos} {u : List α → List Slot → List Slot} {m : Res (List α)} (h : XK X W ss e m fr) (hg : TgL X ts n u) (hc : X.calm = true := by rfl) (hn : (assignEach ts X.env).length = n := by rfl) (hst : (assignEach ts X.env).findIdx? (·.1) = none := by rfl)
    (hs : swapsWithSole [.Tuple ts k tp] e pos.line X.env = pure false := by rfl) (hw : swappedStores [.Tuple ts k tp] e X.env = pure none := by rfl) (h1 : (assignEach [.Tuple ts k tp] X.env).map (·.2) = [assign (.Tuple ts k tp) X.env] := by rfl) :
    S1 X W ss (.Assign [.Tuple ts k tp] e pos) (m.bind fun as => guardR (decide (as.length = n)) (.ok as)) (fun as => u as ss) := by
  obtain ⟨g, pg, qg⟩ := hg
  refine PS_imp (ps_asg h (pg_unl hc pg hn hst) hs hw h1) fun D σ H ⟨B, F0, F, Gs, A, q⟩ => ⟨F, A.ext.sub, A.sl, wpS_R (wpS_bind q) A.base fun as q v H' F' G' s ex _ ⟨v', e1, p, vs, e2, hp, r⟩ => ?_⟩
  cases e1
  cases hd : decide (as.length = n) with
  | false => rw [hd] at q; exact q.elim
  | true =>
    rw [hd] at q
    have hl := of_decide_eq_true hd
    exact ⟨p, vs, e2, SqL.of (ex.sub _ _ hp), by rw [r.length, hl], qg as vs B F0 F' H' Gs ss σ _ hl (A.grow s ex) r fun σ' Gs' A' => q σ' H' F' Gs' A'⟩
theorem s1_augI (i : Nat) {x : Str} {a : Int} {m : Res Int} {p : Pos} (h : XI X W ss e m) (hN : X.N.Nodup) (hs : ss[i]? = some (fr a) := by rfl) (hi : X.N[i]? = some x := by rfl) (hx : Loc X.env.scope x := by first | exact Or.inl rfl | exact Or.inr rfl) (hf : X.fn x = true ∨ X.env.scope.names.lookup x = some .local := by first | exact .inl rfl | exact .inr rfl) :
    S1 X W ss (.AugAssign (.Name x p) .Add e pos) (m.bind fun b => .ok (a + b)) (fun c => ss.set i (fr c)) := by
  refine PS_imp (ps_aug hN hi hx h ip_add hf) fun D σ H ⟨B, F0, F, Gs, A, q⟩ => ?_
  obtain ⟨G, o, hG, hσ, v, e1, r⟩ := A.all.get hs
  subst e1
  refine ⟨v, hσ, A.sl.mono A.ext.sub (Same.refl H), wpS_R (wpS_bind q) A.base fun b q w H' s rw' => ⟨a, b, r, rw', ?_⟩⟩
  exact q _ H' F _ (A.set (s := fr (a + b)) s ⟨Same.refl F, A.ext.sub.trans s, fun _ _ h => .inl h⟩ priv_no ⟨_, rfl, rfl⟩ i)
end
end G

namespace G
open PySem PySem.Spec PyProof.Rows L2
class Dat (α : Type) [Enc α] where
  py : α → PyData
  dp : ∀ {K : Frag} {H : Hp} {v : V} {a : α}, Enc.rep K H v a → Dp K H v (py a)
  lay : α → Bool
  dep : Nat
  layOk : ∀ {a : α}, lay a = true → (py a).canLay0 = true
  depOk : ∀ a : α, (py a).depth ≤ dep
instance : Dat Int := ⟨.int, fun h => by rw [show _ = V.int _ from h]; exact .int _, fun _ => true, 0, fun _ => by simp [PyData.canLay0], fun _ => by simp [PyData.depth]⟩
instance : Dat Bool := ⟨.bool, fun h => by rw [show _ = V.bl _ from h]; exact .bl _, fun _ => true, 0, fun _ => by simp [PyData.canLay0], fun _ => by simp [PyData.depth]⟩
instance : Dat Str := ⟨.str, fun h => by rw [show _ = V.str _ from h]; exact .str _, PyData.strOk, 0, fun h => by simpa [PyData.canLay0] using h, fun _ => by simp [PyData.depth]⟩
instance : Dat Unit := ⟨fun _ => .none, fun h => by rw [show _ = V.non from h]; exact .non, fun _ => true, 0, fun _ => by simp [PyData.canLay0], fun _ => by simp [PyData.depth]⟩
instance {α : Type} [Enc α] [Dat α] : Dat (Option α) where
  py := fun o => match o with | none => .none | some a => Dat.py a
  dp := fun {K H v o} h => by
    cases o with
    | none => rw [show v = V.non from h]; exact .non
    | some a => exact Dat.dp h.2
  lay := fun o => match o with | none => true | some a => Dat.lay a
  dep := Dat.dep α
  layOk := fun {o} h => by
    cases o with
    | none => simp [PyData.canLay0]
    | some a => exact Dat.layOk h
  depOk := fun o => by
    cases o with
    | none => simp [PyData.depth]
    | some a => exact Dat.depOk a
theorem dpAll {α : Type} [Enc α] [Dat α] {K : Frag} {H : Hp} : ∀ {vs : List V} {as : List α}, All2 (fun v a => Enc.rep K H v a) vs as → DpAll K H vs (as.map Dat.py)
  | [], [], _ => .nil
  | _ :: _, _ :: _, ⟨h, t⟩ => .cons (Dat.dp h) (dpAll t)
  | [], _ :: _, h => h.elim
  | _ :: _, [], h => h.elim
theorem layAll {α : Type} [Enc α] [Dat α] : ∀ {as : List α}, as.all Dat.lay = true → PyData.canLayAll0 (as.map Dat.py) = true
  | [], _ => by simp [PyData.canLayAll0]
  | a :: as, h => by
    rw [List.all_cons, Bool.and_eq_true] at h
    simp only [List.map_cons, PyData.canLayAll0, Bool.and_eq_true]
    exact ⟨Dat.layOk h.1, layAll h.2⟩
theorem depAll {α : Type} [Enc α] [Dat α] : ∀ as : List α, PyData.depthAll (as.map Dat.py) ≤ Dat.dep α
  | [] => by simp [PyData.depthAll]
  | a :: as => by
    simp only [List.map_cons, PyData.depthAll]
    exact Nat.max_le.mpr ⟨Dat.depOk a, depAll as⟩
instance {α : Type} [Enc α] [Dat α] : Dat (List α) where
  py := fun as => .list (as.map Dat.py)
  dp := fun ⟨p, vs, e, h, r⟩ => by rw [e]; exact .lst (SqL.of h) (dpAll r)
  lay := fun as => as.all Dat.lay
  dep := Dat.dep α + 1
  layOk := fun h => by simp only [PyData.canLay0]; exact layAll h
  depOk := fun as => by simp only [PyData.depth]; exact Nat.succ_le_succ (depAll as)
instance {α : Type} [Enc α] [Dat α] : Dat (Tup α) where
  py := fun as => .tuple (as.l.map Dat.py)
  dp := fun ⟨p, vs, e, h, r⟩ => by rw [e]; exact .tup h (dpAll r)
  lay := fun as => as.l.all Dat.lay
  dep := Dat.dep α + 1
  layOk := fun h => by simp only [PyData.canLay0]; exact layAll h
  depOk := fun as => by simp only [PyData.depth]; exact Nat.succ_le_succ (depAll as.l)
instance {α β : Type} [Enc α] [Enc β] [Dat α] [Dat β] : Dat (α × β) where
  py := fun x => .tuple [Dat.py x.1, Dat.py x.2]
  dp := fun ⟨p, v1, v2, e, h, r1, r2⟩ => by rw [e]; exact .tup (SqT.of h) (.cons (Dat.dp r1) (.cons (Dat.dp r2) .nil))
  lay := fun x => Dat.lay x.1 && Dat.lay x.2
  dep := max (Dat.dep α) (Dat.dep β) + 1
  layOk := fun h => by
    rw [Bool.and_eq_true] at h
    simp only [PyData.canLay0, PyData.canLayAll0, Bool.and_eq_true, and_true]
    exact ⟨Dat.layOk h.1, Dat.layOk h.2⟩
  depOk := fun x => by
    have h1 := Dat.depOk x.1
    have h2 := Dat.depOk x.2
    simp only [PyData.depth, PyData.depthAll]
    omega
instance {α β γ : Type} [Enc α] [Enc β] [Enc γ] [Dat α] [Dat β] [Dat γ] : Dat (T3 α β γ) where
  py := fun x => .tuple [Dat.py x.a, Dat.py x.b, Dat.py x.c]
  dp := fun ⟨p, v1, v2, v3, e, h, r1, r2, r3⟩ => by rw [e]; exact .tup (SqT.of h) (.cons (Dat.dp r1) (.cons (Dat.dp r2) (.cons (Dat.dp r3) .nil)))
  lay := fun x => Dat.lay x.a && (Dat.lay x.b && Dat.lay x.c)
  dep := max (Dat.dep α) (max (Dat.dep β) (Dat.dep γ)) + 1
  layOk := fun h => by
    rw [Bool.and_eq_true, Bool.and_eq_true] at h
    simp only [PyData.canLay0, PyData.canLayAll0, Bool.and_eq_true, and_true]
    exact ⟨Dat.layOk h.1, Dat.layOk h.2.1, Dat.layOk h.2.2⟩
  depOk := fun x => by
    have h1 := Dat.depOk x.a
    have h2 := Dat.depOk x.b
    have h3 := Dat.depOk x.c
    simp only [PyData.depth, PyData.depthAll]
    omega
instance : Dat Scr where
  py := fun x => .list (x.ns.map PyData.int)
  dp := fun {K H v x} ⟨p, e, h⟩ => by
    rw [e]
    refine .lst h ?_
    have go : ∀ ns : List Int, DpAll K H (ns.map V.int) (ns.map PyData.int) := fun ns => by
      induction ns with
      | nil => exact .nil
      | cons n ns ih => exact .cons (.int n) ih
    exact go x.ns
  lay := fun _ => true
  dep := 1
  layOk := fun {x} _ => by
    simp only [PyData.canLay0]
    have go : ∀ ns : List Int, PyData.canLayAll0 (ns.map PyData.int) = true := fun ns => by
      induction ns with
      | nil => simp [PyData.canLayAll0]
      | cons n ns ih => simp [PyData.canLayAll0, PyData.canLay0, ih]
    exact go x.ns
  depOk := fun x => by
    simp only [PyData.depth]
    have go : ∀ ns : List Int, PyData.depthAll (ns.map PyData.int) = 0 := fun ns => by
      induction ns with
      | nil => simp [PyData.depthAll]
      | cons n ns ih => simp [PyData.depthAll, PyData.depth, ih]
    rw [go x.ns]; exact Nat.le_refl _
theorem shaped_of {α : Type} [Enc α] [Dat α] {a : α} (h : Dat.lay a = true) (hd : Dat.dep α ≤ 64) : SeqAt.shaped (Dat.py a) = true := by
  unfold SeqAt.shaped
  rw [Dat.layOk h, decide_eq_true (Nat.le_trans (Dat.depOk a) hd)]
  rfl
def eqD {α β : Type} [Enc α] [Enc β] [Dat α] [Dat β] (a : α) (b : β) : Res Bool := guardR (Dat.lay a && Dat.lay b) (.ok (PyData.eqv (Dat.py a) (Dat.py b)))
def neD {α β : Type} [Enc α] [Enc β] [Dat α] [Dat β] (a : α) (b : β) : Res Bool := guardR (Dat.lay a && Dat.lay b) (.ok (!PyData.eqv (Dat.py a) (Dat.py b)))
section
variable {X : Cx} {W : WX} {ss : List Slot} {pos : Pos} {a b e : Expr} {es : List Expr}
theorem b_eqD {α β : Type} [Enc α] [Enc β] [Dat α] [Dat β] (ha : Dat.dep α ≤ 64 := by decide) (hb : Dat.dep β ≤ 64 := by decide) : Bi X (rEqD X.K) (fun (a : α) (b : β) => eqD a b) := ⟨fun a b v w H Q r1 r2 q => by
  cases g : (Dat.lay a && Dat.lay b) with
  | false =>
    have q : okR (eqD a b) _ := q
    unfold eqD at q; rw [g] at q; exact q.elim
  | true =>
    have q : okR (eqD a b) _ := q
    unfold eqD at q; rw [g] at q
    rw [Bool.and_eq_true] at g
    exact ⟨_, _, Dat.dp r1, Dat.dp r2, shaped_of g.1 ha, shaped_of g.2 hb, q _ H (Same.refl H) rfl⟩, fun _ _ => noX_guard⟩
theorem b_neD {α β : Type} [Enc α] [Enc β] [Dat α] [Dat β] (ha : Dat.dep α ≤ 64 := by decide) (hb : Dat.dep β ≤ 64 := by decide) : Bi X (rNeD X.K) (fun (a : α) (b : β) => neD a b) := ⟨fun a b v w H Q r1 r2 q => by
  cases g : (Dat.lay a && Dat.lay b) with
  | false =>
    have q : okR (neD a b) _ := q
    unfold neD at q; rw [g] at q; exact q.elim
  | true =>
    have q : okR (neD a b) _ := q
    unfold neD at q; rw [g] at q
    rw [Bool.and_eq_true] at g
    exact ⟨_, _, Dat.dp r1, Dat.dp r2, shaped_of g.1 ha, shaped_of g.2 hb, q _ H (Same.refl H) rfl⟩, fun _ _ => noX_guard⟩
def inD {α : Type} [Enc α] [Dat α] (a : α) (xs : List α) : Res Bool := guardR (Dat.lay a && Dat.lay xs) (.ok (xs.any fun z => PyData.eqv (Dat.py z) (Dat.py a)))
def ninD {α : Type} [Enc α] [Dat α] (a : α) (xs : List α) : Res Bool := guardR (Dat.lay a && Dat.lay xs) (.ok (!xs.any fun z => PyData.eqv (Dat.py z) (Dat.py a)))
end
class DatEq (α : Type) [Enc α] [Dat α] : Prop where
  iff : ∀ a b : α, PyData.eqv (Dat.py a) (Dat.py b) = true ↔ a = b
instance : DatEq Int := ⟨fun a b => by show (a == b) = true ↔ _; simp⟩
instance : DatEq Bool := ⟨fun a b => by show (a == b) = true ↔ _; simp⟩
instance : DatEq Str := ⟨fun a b => by show (a == b) = true ↔ _; simp⟩
instance : DatEq Unit := ⟨fun a b => by show true = true ↔ _; simp⟩
theorem eqvAll_iff {α : Type} [Enc α] [Dat α] [DatEq α] : ∀ as bs : List α, PyData.eqvAll (as.map Dat.py) (bs.map Dat.py) = true ↔ as = bs
  | [], [] => by simp [PyData.eqvAll]
  | a :: as, b :: bs => by
    simp only [List.map_cons, PyData.eqvAll, Bool.and_eq_true, DatEq.iff, eqvAll_iff as bs, List.cons.injEq]
  | [], _ :: _ => by simp [PyData.eqvAll]
  | _ :: _, [] => by simp [PyData.eqvAll]
instance {α : Type} [Enc α] [Dat α] [DatEq α] : DatEq (List α) := ⟨fun a b => by show PyData.eqvAll _ _ = true ↔ _; exact eqvAll_iff a b⟩
instance {α : Type} [Enc α] [Dat α] [DatEq α] : DatEq (Tup α) := ⟨fun a b => by
  show PyData.eqvAll _ _ = true ↔ _
  rw [eqvAll_iff]
  cases a; cases b; simp⟩
instance {α β : Type} [Enc α] [Enc β] [Dat α] [Dat β] [DatEq α] [DatEq β] : DatEq (α × β) := ⟨fun a b => by
  show PyData.eqvAll [_, _] [_, _] = true ↔ _
  cases a; cases b
  simp [PyData.eqvAll, DatEq.iff]⟩
instance {α β γ : Type} [Enc α] [Enc β] [Enc γ] [Dat α] [Dat β] [Dat γ] [DatEq α] [DatEq β] [DatEq γ] : DatEq (T3 α β γ) := ⟨fun a b => by
  show PyData.eqvAll [_, _, _] [_, _, _] = true ↔ _
  cases a; cases b
  simp [PyData.eqvAll, DatEq.iff]⟩
class NoStr (α : Type) [Enc α] [Dat α] : Prop where
  lay : ∀ a : α, Dat.lay a = true
instance : NoStr Int := ⟨fun _ => rfl⟩
instance : NoStr Bool := ⟨fun _ => rfl⟩
instance : NoStr Unit := ⟨fun _ => rfl⟩
instance {α : Type} [Enc α] [Dat α] [NoStr α] : NoStr (List α) := ⟨fun as => List.all_eq_true.mpr fun a _ => NoStr.lay a⟩
instance {α : Type} [Enc α] [Dat α] [NoStr α] : NoStr (Tup α) := ⟨fun as => List.all_eq_true.mpr fun a _ => NoStr.lay a⟩
instance {α : Type} [Enc α] [Dat α] [NoStr α] : NoStr (Option α) := ⟨fun o => by cases o with | none => rfl | some a => exact NoStr.lay a⟩
instance {α β : Type} [Enc α] [Enc β] [Dat α] [Dat β] [NoStr α] [NoStr β] : NoStr (α × β) := ⟨fun x => by show (Dat.lay _ && Dat.lay _) = true; rw [NoStr.lay, NoStr.lay]; rfl⟩
instance {α β γ : Type} [Enc α] [Enc β] [Enc γ] [Dat α] [Dat β] [Dat γ] [NoStr α] [NoStr β] [NoStr γ] : NoStr (T3 α β γ) := ⟨fun x => by show (Dat.lay _ && (Dat.lay _ && Dat.lay _)) = true; rw [NoStr.lay, NoStr.lay, NoStr.lay]; rfl⟩
theorem eqD_eq {α : Type} [Enc α] [Dat α] [NoStr α] [DatEq α] [DecidableEq α] (a b : α) : eqD a b = .ok (decide (a = b)) := by
  unfold eqD
  rw [NoStr.lay, NoStr.lay]
  show Res.ok _ = _
  congr 1
  by_cases e : a = b
  · rw [decide_eq_true e]; exact (DatEq.iff a b).mpr e
  · rw [decide_eq_false e]
    cases q : PyData.eqv (Dat.py a) (Dat.py b) with
    | false => rfl
    | true => exact absurd ((DatEq.iff a b).mp q) e
theorem neD_eq {α : Type} [Enc α] [Dat α] [NoStr α] [DatEq α] [DecidableEq α] (a b : α) : neD a b = .ok (!decide (a = b)) := by
  have h := eqD_eq a b
  unfold eqD at h
  unfold neD
  rw [NoStr.lay, NoStr.lay] at h ⊢
  have h : Res.ok _ = Res.ok _ := h
  injection h with h
  show Res.ok _ = _
  rw [h]
section
variable {X : Cx} {W : WX} {ss : List Slot} {pos : Pos} {a b e : Expr} {es : List Expr}
class FlatS (α : Type) [Enc α] [Sca α] : Prop where
  flat : ∀ a : α, flatV (Sca.v a) = true
  iff : ∀ a b : α, eqV (Sca.v a) (Sca.v b) = true ↔ a = b
instance : FlatS Int := ⟨fun _ => rfl, fun a b => by show (a == b) = true ↔ _; simp⟩
instance : FlatS Str := ⟨fun _ => rfl, fun a b => by show (a == b) = true ↔ _; simp⟩
instance : FlatS Bool := ⟨fun _ => rfl, fun a b => by show (a == b) = true ↔ _; simp⟩
instance : FlatS (Option Int) := ⟨fun o => by cases o <;> rfl, fun a b => by
  cases a <;> cases b <;> first
    | (show true = true ↔ _; simp)
    | (show false = true ↔ _; simp)
    | (rename_i x y; show (x == y) = true ↔ _; simp)⟩
theorem all2_sca {α : Type} [Enc α] [Sca α] {K : Frag} {H : Hp} : ∀ {vs : List V} {as : List α}, All2 (fun v a => Enc.rep K H v a) vs as → vs = as.map Sca.v
  | [], [], _ => rfl
  | _ :: _, _ :: _, ⟨h, t⟩ => by rw [Sca.flat h, all2_sca t]; rfl
  | [], _ :: _, h => h.elim
  | _ :: _, [], h => h.elim
theorem inV_iff {α : Type} [Enc α] [Sca α] [FlatS α] [DecidableEq α] (a : α) (as : List α) : inV (Sca.v a) (as.map Sca.v) = decide (a ∈ as) := by
  unfold inV
  rw [List.any_map, Bool.eq_iff_iff, List.any_eq_true, decide_eq_true_iff]
  constructor
  · rintro ⟨z, m, h⟩; rw [← (FlatS.iff z a).mp h]; exact m
  · intro m; exact ⟨a, m, (FlatS.iff a a).mpr rfl⟩
theorem flat_all {α : Type} [Enc α] [Sca α] [FlatS α] (as : List α) : (as.map Sca.v).all flatV = true := by
  rw [List.all_map]; exact List.all_eq_true.mpr fun a _ => FlatS.flat a
theorem b_inL {α : Type} [Enc α] [Sca α] [FlatS α] [DecidableEq α] : Bi X (rIn X.K false) (fun (a : α) (xs : List α) => Res.ok (decide (a ∈ xs))) := ⟨fun a xs v w H Q r1 ⟨p, vs, e, hp, r⟩ q => by
  rw [Sca.flat r1]
  have ev := all2_sca r
  subst ev
  exact ⟨p, _, e, .inl (SqL.of hp), FlatS.flat a, flat_all xs, q _ H (Same.refl H) (by show V.bl (inV _ _) = V.bl _; rw [inV_iff])⟩, fun _ _ => noX_ok⟩
theorem b_ninL {α : Type} [Enc α] [Sca α] [FlatS α] [DecidableEq α] : Bi X (rIn X.K true) (fun (a : α) (xs : List α) => Res.ok (!decide (a ∈ xs))) := ⟨fun a xs v w H Q r1 ⟨p, vs, e, hp, r⟩ q => by
  rw [Sca.flat r1]
  have ev := all2_sca r
  subst ev
  exact ⟨p, _, e, .inl (SqL.of hp), FlatS.flat a, flat_all xs, q _ H (Same.refl H) (by show V.bl (!inV _ _) = V.bl _; rw [inV_iff])⟩, fun _ _ => noX_ok⟩
theorem b_ninT {α : Type} [Enc α] [Sca α] [FlatS α] [DecidableEq α] : Bi X (rIn X.K true) (fun (a : α) (xs : Tup α) => Res.ok (!decide (a ∈ xs.l))) := ⟨fun a xs v w H Q r1 ⟨p, vs, e, hp, r⟩ q => by
  rw [Sca.flat r1]
  have ev := all2_sca r
  subst ev
  exact ⟨p, _, e, .inr hp, FlatS.flat a, flat_all xs.l, q _ H (Same.refl H) (by show V.bl (!inV _ _) = V.bl _; rw [inV_iff])⟩, fun _ _ => noX_ok⟩
class HasTy (α : Type) [Enc α] where
  ty : String
  ok : ∀ {K : Frag} {H : Hp} {v : V} {a : α}, Enc.rep K H v a → TyX K H v (.type ty)
instance : HasTy Int := ⟨"int", fun h => by rw [show _ = V.int _ from h]; exact .base (.int _)⟩
instance : HasTy Bool := ⟨"bool", fun h => by rw [show _ = V.bl _ from h]; exact .base (.bl _)⟩
instance : HasTy Str := ⟨"str", fun h => by rw [show _ = V.str _ from h]; exact .base (.str _)⟩
instance : HasTy Unit := ⟨"NoneType", fun h => by rw [show _ = V.non from h]; exact .base .non⟩
instance {α : Type} [Enc α] : HasTy (List α) := ⟨"list", fun ⟨p, vs, e, h, _⟩ => by rw [e]; exact .base (.lst h)⟩
instance {α β : Type} [Enc α] [Enc β] : HasTy (α × β) := ⟨"tuple", fun ⟨p, v1, v2, e, h, _⟩ => by rw [e]; exact .base (.tup h)⟩
instance {α β γ : Type} [Enc α] [Enc β] [Enc γ] : HasTy (T3 α β γ) := ⟨"tuple", fun ⟨p, v1, v2, v3, e, h, _⟩ => by rw [e]; exact .base (.tup h)⟩
theorem tyT {K : Frag} {H : Hp} {p : Addr} {vs : List V} (h : SqT K H p vs) : TyX K H (.ref p) (.type "tuple") := by
  rcases h with (h | ⟨o, h⟩) | ⟨o, its, n, hk, hc, _⟩
  · exact .base (.tup h)
  · exact .fTuple h
  · exact .kTuple hk hc
instance {α : Type} [Enc α] : HasTy (Tup α) := ⟨"tuple", fun ⟨p, vs, e, h, _⟩ => by rw [e]; exact tyT h⟩
theorem xi_isi {α : Type} [Enc α] [HasTy α] {m : Res α} {T : Str} {TT : String} {r : Bool} {p q : Pos} (h : XI X W ss a m) (hb : PE X (.Name T q) (tC (.ty TT))) (hk : kitB (HasTy.ty α) TT = some r) (hm : X.mg "isinstance" = none) (hg : Gl X "isinstance" := by rfl)
    (he : starEach [a, .Name T q] X.env = (false, eval a X.env) :: starEach [.Name T q] X.env := by rfl) (he2 : starEach [.Name T q] X.env = (false, eval (.Name T q) X.env) :: starEach [] X.env := by rfl) (hpl : (backTo pos (starEach [.Name T q] X.env)).any (·.1) = false := by rfl) :
    XI X W ss (.Call (.Name "isinstance" p) [a, .Name T q] [] pos) (m.bind fun _ => .ok r) :=
  PE_imp (pe_callB call_isi hg hm (by decide +kernel) (pa_cons h (pa_cons hb pa_nil he2) he) (by decide) (by decide) he hpl) fun σ H Q ⟨sl, q⟩ => ⟨sl, wpR_imp (wpR_bind q) (Same.refl H) fun x q v H1 s1 r1 =>
    ⟨v, .ty TT, _, _, r, rfl, .ty TT, HasTy.ok r1, kit_ty hk, q _ H1 s1 rfl⟩⟩
theorem pe_ty {T : Str} {TT : String} {p : Pos} (hm : X.mg T = none) (hv : bootBuiltins T = some (.type TT)) (hg : Gl X T := by rfl) (hn : T ≠ "__name__" := by decide) (hd : (T == ("__debug__" : Str)) = false := by decide) : PE X (.Name T p) (tC (.ty TT)) := pe_bltn hg hm hv rfl hn hd
end
end G

namespace G
open PySem PySem.Spec PyProof.Rows L2
structure IsDef (K : Frag) (mg : Str → Option Value) (x : Str) (st : Stmt) : Prop where
  ex : ∃ f fd, Fun K x x st f fd ∧ mg x = some (.ref f)
structure Cal (P : Program) (w : World) (K : Frag) (mg : Str → Option Value) (base : Heap) (k : Nat) (x : Str) {A' A R : Type} [EncA A'] [EncA A] (c : A' → A) (g : A → Res R) (kr : R → Slot) : Prop where
  ex : ∃ f fd ps dvs ds, FnOk P w K mg base (L2.CX P w) k f fd ps (spOf K mg g kr) ∧ mg x = some (.ref f) ∧ PySem.W.keepIn K (.ref f) = true ∧ Binds K fd ps ds ∧ Vals dvs ds ∧ ∀ H vs a, EncA.rep K H vs a → EncA.rep K H (vs ++ dvs) (c a)
section
variable {P : Program} {w : World} {K : Frag} {mg : Str → Option Value} {base : Heap}
theorem cal_mk {x : Str} {st : Stmt} {N ps : List Str} {k : Nat} {A R : Type} [EncP A] {g : A → Res R} {kr : R → Slot} (D : IsDef K mg x st) (S : FnScope N ps (defScope st)) (hl : EncP.len A = ps.length)
    (hb : ∀ (kV doc pm : Value) (an : Option Addr) (cdv ct : Value) (us : List Value), us.length = ps.length → bindArgs (PySem.W.fnOf x x (defArgs st) (defBody st) (defScope st) .none kV doc pm an cdv ct) ⟨us, []⟩ = pure (ps.zip us))
    (hbody : ∀ (a : A) (f : Addr) (cdv : Value) (A' : Around) (outer : List Env) (s : Shared) (H : Hp) (E : L2.XK), Room k (A'.deeper (envOfC x (defScope st) s.heap.objs.size f cdv)) →
      ST (cxOf (L2.CX P w) P w K mg base N x (defScope st) f cdv A' outer s H E) (wE E) true (EncP.slots a ++ List.replicate (N.length - EncP.len A) any) (defBody st) (g a) kr) :
    Cal P w K mg base (k + 1) x (fun a : A => a) g kr := by
  obtain ⟨f, fd, F, hm⟩ := D.ex
  exact ⟨f, fd, ps, [], [], fn_ok F S hl fun a cdv A' outer s H E hr => hbody a f cdv A' outer s H E hr, hm, F.kp, F.binds hb, .nil, fun H vs a h => by rw [List.append_nil]; exact h⟩
theorem ST.slots {X : Cx} {W : WX} {R : Type} {e : Bool} {ss ss' : List Slot} {sts : List Stmt} {M : Res R} {kr : R → Slot} (h : ST X W e ss' sts M kr) (q : ss = ss') : ST X W e ss sts M kr := q ▸ h
end
section
variable {X : Cx} {W : WX} {ss : List Slot} {k j : Nat} {x : Str} {A' A R : Type} [EncA A'] [EncA A] {c : A' → A} {g : A → Res R} {kr : R → Slot} {p pos : Pos} {e : Expr} {es : List Expr}
theorem xi_cal [Enc R] [View kr] (C : Cal X.prog X.w X.K X.mg X.base j x c g kr) (hr : Room k X.A) (tk : Takes X W) {m : Res A'} (ha : XA X W ss (e :: es) m) (hj : j ≤ k := by decide) (hg : Gl X x := by rfl) (hdb : (x == ("__debug__" : Str)) = false := by decide)
    (he : starEach (e :: es) X.env = (false, eval e X.env) :: starEach es X.env := by rfl) (hpl : (backTo pos (starEach es X.env)).any (·.1) = false := by rfl) : XI X W ss (.Call (.Name x p) (e :: es) [] pos) (m.bind fun a => g (c a)) := by
  obtain ⟨f, fd, ps, dvs, ds, F, hm, hk, hb, hd, hf⟩ := C.ex
  exact xi_call F (hr.mono hj) hm hk ⟨dvs, ds, hb, hd, hf⟩ tk ha hg hdb he hpl
theorem xk_cal [KImm kr] (C : Cal X.prog X.w X.K X.mg X.base j x c g kr) (hr : Room k X.A) (tk : Takes X W) {m : Res A'} (ha : XA X W ss (e :: es) m) (hj : j ≤ k := by decide) (hg : Gl X x := by rfl) (hdb : (x == ("__debug__" : Str)) = false := by decide)
    (he : starEach (e :: es) X.env = (false, eval e X.env) :: starEach es X.env := by rfl) (hpl : (backTo pos (starEach es X.env)).any (·.1) = false := by rfl) : XK X W ss (.Call (.Name x p) (e :: es) [] pos) (m.bind fun a => g (c a)) kr := by
  obtain ⟨f, fd, ps, dvs, ds, F, hm, hk, hb, hd, hf⟩ := C.ex
  exact xk_call F (hr.mono hj) hm hk ⟨dvs, ds, hb, hd, hf⟩ tk ha hg hdb he hpl
theorem xk_calF (C : Cal X.prog X.w X.K X.mg X.base j x c g kr) (hr : Room k X.A) (tk : Takes X W) {m : Res A'} (ha : XAK X W ss (e :: es) m) (hj : j ≤ k := by decide) (hg : Gl X x := by rfl) (hdb : (x == ("__debug__" : Str)) = false := by decide)
    (he : starEach (e :: es) X.env = (false, eval e X.env) :: starEach es X.env := by rfl) (hpl : (backTo pos (starEach es X.env)).any (·.1) = false := by rfl) : XK X W ss (.Call (.Name x p) (e :: es) [] pos) (m.bind fun a => g (c a)) kr := by
  obtain ⟨f, fd, ps, dvs, ds, F, hm, hk, hb, hd, hf⟩ := C.ex
  exact xk_callF F (hr.mono hj) hm hk ⟨dvs, ds, hb, hd, hf⟩ tk ha hg hdb he hpl
theorem hu64 {A : Around} {k : Nat} (hr : Room k A) : A.units + 64 < cLine := hr.units
theorem st_retOw (i : Nat) {α : Type} [Enc α] {as : List α} {ee : Bool} {rest : List Stmt} {x : Str} {rp pos : Pos} (hs : ss[i]? = some (ow as) := by rfl) (hp : PE X (.Name x rp) (tVar i) := by exact pv _) : ST X W ee ss (.Return (some (.Name x rp)) pos :: rest) (.ok as) ow := by
  have h : PS X (.Return (some (.Name x rp)) pos) (rdX X ss fun D B F0 => wpS X W (.ok as) B fun r => RtOk X ow r D B F0) := by
    refine PS_imp (ps_ret hp) fun D σ H ⟨B, F0, F, Gs, A, q⟩ => ?_
    obtain ⟨G, p, vs, hG, hσ, hp, r⟩ := all3_ow A.all hs
    exact ⟨.ref p, hσ, q _ H F G A.base A.ext (A.priv G (List.mem_of_getElem? hG)) ⟨p, vs, rfl, hp, r⟩⟩
  exact PSs_imp (rest_free h fun D D' σ H e1 _ _ ⟨B, F0, F, Gs, A, q⟩ => ⟨B, F0, F, Gs, A, wpS_imp q fun r q v H' F' G' a b c d => by rw [e1]; exact q v H' F' G' a b c d⟩)
    fun D σ H ⟨B, F0, F, Gs, A, _, q⟩ => ⟨B, F0, F, Gs, A, q⟩
end
theorem wk_nil : Wk [] [] := trivial
theorem wk_eq {s : Slot} {ss ts : List Slot} (h : Wk ss ts) : Wk (s :: ss) (s :: ts) := ⟨.inl rfl, h⟩
theorem wk_any {s : Slot} {ss ts : List Slot} (h : Wk ss ts) : Wk (s :: ss) (any :: ts) := ⟨.inr rfl, h⟩
def spLaw (K : Frag) : Sp := fun vs H Q _ => ∃ (a : Addr) (ns : List Int), vs = [.ref a] ∧ SqL K H a (ns.map V.int) ∧ ns.length ≤ 63 ∧ ∀ v H', v = .bl true → Q v H'
theorem law_ok {P : Program} {w : World} {K : Frag} {mg : Str → Option Value} {base : Heap} {k : Nat} {f : Addr} {fd : FuncData} {x : Str} {g : Scr × Unit → Res Bool} (F : FnOk P w K mg base (L2.CX P w) k f fd [x] (spOf K mg g fr)) (hg : ∀ ns : List Int, ns.length ≤ 63 → g (⟨ns⟩, ()) = .ok true) :
    FnOk P w K mg base (L2.CX P w) k f fd [x] (spLaw K) := F.imp fun vs H Q E ⟨a, ns, e, hS, hl, q⟩ => by
  subst e
  refine ⟨(⟨ns⟩, ()), H, ⟨.ref a, [], rfl, ⟨a, rfl, hS⟩, rfl⟩, Same.refl H, ?_⟩
  rw [hg ns hl]
  exact fun v H' F' G' _ _ _ ⟨v', e, r⟩ => q v H' (by cases e; exact r)
end G

namespace G
open PySem PySem.Spec PyProof.Rows L2
structure Dic (κ β : Type) where
  l : List (κ × β)
section
variable {κ β : Type} [DecidableEq κ]
def dget (d : Dic κ β) (k : κ) : Option β := (d.l.find? fun kv => decide (kv.1 = k)).map (·.2)
def dhas (d : Dic κ β) (k : κ) : Bool := d.l.any fun kv => decide (kv.1 = k)
def dput (d : Dic κ β) (k : κ) (v : β) : Dic κ β := ⟨if dhas d k then d.l.map (fun kv => if kv.1 = k then (kv.1, v) else kv) else d.l ++ [(k, v)]⟩
def dkeys (d : Dic κ β) : List κ := d.l.map (·.1)
theorem dget_isSome (d : Dic κ β) (k : κ) : (dget d k).isSome = dhas d k := by
  unfold dget dhas
  rw [Option.isSome_map, Bool.eq_iff_iff, List.find?_isSome, List.any_eq_true]
theorem dhas_keys (d : Dic κ β) (k : κ) : dhas d k = decide (k ∈ dkeys d) := by
  unfold dhas dkeys
  rw [Bool.eq_iff_iff, List.any_eq_true, decide_eq_true_iff, List.mem_map]
  constructor
  · rintro ⟨x, m, h⟩; exact ⟨x, m, of_decide_eq_true h⟩
  · rintro ⟨x, m, h⟩; exact ⟨x, m, decide_eq_true h⟩
theorem dkeys_put (d : Dic κ β) (k : κ) (v : β) : dkeys (dput d k v) = if k ∈ dkeys d then dkeys d else dkeys d ++ [k] := by
  unfold dput
  rw [dhas_keys]
  by_cases h : k ∈ dkeys d
  · rw [decide_eq_true h, if_pos rfl, if_pos h]
    unfold dkeys
    rw [List.map_map]
    refine List.map_congr_left fun x _ => ?_
    show (if x.1 = k then (x.1, v) else x).1 = x.1
    split <;> rfl
  · rw [decide_eq_false h, if_neg Bool.false_ne_true, if_neg h]
    unfold dkeys
    rw [List.map_append]; rfl
end
class DK (κ : Type) [Enc κ] [DecidableEq κ] where
  ho : List (κ × V) → HO
  notT : ∀ kvs, isT (ho kvs) = false
  mutH : ∀ kvs, Mut (some (ho kvs))
  get : ∀ {K : Frag} {H : Hp} {a : Addr} {kvs : List (κ × V)} {y : V} {k : κ}, Rd H a (ho kvs) → Enc.rep K H y k → DGet H a y (valV kvs k)
  put : ∀ {K : Frag} {H : Hp} {a : Addr} {kvs : List (κ × V)} {y v : V} {k : κ}, H a = some (ho kvs) → Enc.rep K H y k → kvs.length < sizeLine → DPut H a y v (upd H a (ho (putK kvs k v)))
  new : ∀ (X : Cx) (pos : Pos), PE X (.Dict [] [] pos) (fun _ H Q => ∀ p, H p = none → Q (.ref p) (upd H p (ho [])))
  list : ∀ (X : Cx), X.calm = true → CallR X (.type "list") (fun xs H Q => ∃ a kvs, xs = [.ref a] ∧ Rd H a (ho kvs) ∧ ∀ p vs, H p = none → All2 (fun v (kv : κ × V) => Enc.rep X.K H v kv.1) vs kvs → Q (.ref p) (upd H p (.lst vs)))
section
variable {κ κ' : Type} [DecidableEq κ] [DecidableEq κ'] {f : κ → κ'} (inj : ∀ a b, f a = f b → a = b)
include inj
theorem valV_map_key (kvs : List (κ × V)) (k : κ) : valV (kvs.map fun kv => (f kv.1, kv.2)) (f k) = valV kvs k := by
  induction kvs with
  | nil => rfl
  | cons p r ih =>
    rw [List.map_cons]
    by_cases e : p.1 = k
    · rw [valV_pos e, valV_pos (by show f p.1 = f k; rw [e])]
    · rw [valV_neg e, valV_neg (by show ¬ f p.1 = f k; exact fun z => e (inj _ _ z)), ih]
theorem putK_map_key (kvs : List (κ × V)) (k : κ) (v : V) : putK (kvs.map fun kv => (f kv.1, kv.2)) (f k) v = (putK kvs k v).map fun kv => (f kv.1, kv.2) := by
  unfold putK
  have e : ((kvs.map fun kv => (f kv.1, kv.2)).any fun kv => decide (kv.1 = f k)) = kvs.any fun kv => decide (kv.1 = k) := by
    rw [List.any_map]
    congr 1
    funext kv
    show decide (f kv.1 = f k) = decide (kv.1 = k)
    by_cases z : kv.1 = k
    · rw [decide_eq_true z, decide_eq_true (by rw [z])]
    · rw [decide_eq_false z, decide_eq_false fun y => z (inj _ _ y)]
  rw [e]
  split
  · rw [List.map_map, List.map_map]
    refine List.map_congr_left fun x _ => ?_
    show (if f x.1 = f k then (f x.1, v) else (f x.1, x.2)) = (f (if x.1 = k then (x.1, v) else x).1, (if x.1 = k then (x.1, v) else x).2)
    by_cases z : x.1 = k
    · rw [if_pos z, if_pos (by rw [z])]
    · rw [if_neg z, if_neg fun y => z (inj _ _ y)]
  · rw [List.map_append]; rfl
end
def hoK {κ : Type} (f : κ → Key) (kvs : List (κ × V)) : HO := .dK (kvs.map fun kv => (f kv.1, kv.2))
def hoT {κ : Type} (f : κ → List Key) (kvs : List (κ × V)) : HO := .dT (kvs.map fun kv => (f kv.1, kv.2))
theorem all2_keys {κ : Type} {P : V → κ → Prop} : ∀ {kvs : List (κ × V)} {g : κ → V}, (∀ k, P (g k) k) → All2 (fun v (kv : κ × V) => P v kv.1) (kvs.map fun kv => g kv.1) kvs
  | [], _, _ => trivial
  | _ :: _, _, h => ⟨h _, all2_keys h⟩
instance : DK Int where
  ho := hoK .inl
  notT := fun _ => rfl
  mutH := fun _ => trivial
  get := fun {K H a kvs y k} h r => by
    rw [show y = V.int k from r, ← valV_map_key (f := fun i : Int => (Sum.inl i : Key)) (fun a b e => Sum.inl.inj e) kvs k]
    exact .inl ⟨_, Sum.inl k, h, rfl, rfl⟩
  put := fun {K H a kvs y v k} h r hl => by
    have e := DPut.k (k := Sum.inl k) (v := v) h (by rw [List.length_map]; exact hl)
    rw [show y = V.int k from r]
    unfold hoK
    rw [← putK_map_key (f := fun i : Int => (Sum.inl i : Key)) (fun a b e => Sum.inl.inj e) kvs k v]
    exact e
  new := fun X pos => pe_dnewK
  list := fun X hc => by
    intro pins s σ H xs us Q I r ⟨a, kvs, e, h, q⟩
    refine call_listD hc pins s σ H xs us Q I r ⟨a, _, e, h, fun p hp => ?_⟩
    rw [List.map_map]
    exact q p _ hp (all2_keys (g := fun i => V.int i) fun _ => rfl)
instance : DK Str where
  ho := hoK .inr
  notT := fun _ => rfl
  mutH := fun _ => trivial
  get := fun {K H a kvs y k} h r => by
    rw [show y = V.str k from r, ← valV_map_key (f := fun i : Str => (Sum.inr i : Key)) (fun a b e => Sum.inr.inj e) kvs k]
    exact .inl ⟨_, Sum.inr k, h, rfl, rfl⟩
  put := fun {K H a kvs y v k} h r hl => by
    have e := DPut.k (k := Sum.inr k) (v := v) h (by rw [List.length_map]; exact hl)
    rw [show y = V.str k from r]
    unfold hoK
    rw [← putK_map_key (f := fun i : Str => (Sum.inr i : Key)) (fun a b e => Sum.inr.inj e) kvs k v]
    exact e
  new := fun X pos => pe_dnewK
  list := fun X hc => by
    intro pins s σ H xs us Q I r ⟨a, kvs, e, h, q⟩
    refine call_listD hc pins s σ H xs us Q I r ⟨a, _, e, h, fun p hp => ?_⟩
    rw [List.map_map]
    exact q p _ hp (all2_keys (g := fun i => V.str i) fun _ => rfl)
def key2 (x : Int × Int) : List Key := [.inl x.1, .inl x.2]
theorem key2_inj (a b : Int × Int) (e : key2 a = key2 b) : a = b := by
  unfold key2 at e
  injection e with e1 e2
  injection e2 with e2 _
  exact Prod.ext (Sum.inl.inj e1) (Sum.inl.inj e2)
theorem keys_all2 {K : Frag} {H : Hp} : ∀ {kvs : List ((Int × Int) × V)} {bs : List Addr}, IsKeys H (kvs.map fun kv => (key2 kv.1, kv.2)) bs → All2 (fun v (kv : (Int × Int) × V) => Enc.rep K H v kv.1) (bs.map V.ref) kvs
  | [], [], _ => trivial
  | kv :: kvs, b :: bs, h => by
    cases h with
    | cons h t => exact ⟨⟨b, _, _, rfl, h, rfl, rfl⟩, keys_all2 t⟩
  | [], _ :: _, h => by cases h
  | _ :: _, [], h => by cases h
instance : DK (Int × Int) where
  ho := hoT key2
  notT := fun _ => rfl
  mutH := fun _ => trivial
  get := fun {K H a kvs y k} h ⟨p, v1, v2, e, hp, r1, r2⟩ => by
    rw [e, ← valV_map_key key2_inj kvs k]
    have r1 : v1 = V.int k.1 := r1
    have r2 : v2 = V.int k.2 := r2
    exact .inr ⟨_, key2 k, p, h, rfl, by rw [hp, r1, r2]; rfl, rfl⟩
  put := fun {K H a kvs y v k} h ⟨p, v1, v2, e, hp, r1, r2⟩ hl => by
    have r1 : v1 = V.int k.1 := r1
    have r2 : v2 = V.int k.2 := r2
    have e2 := DPut.t (k := key2 k) (v := v) (b := p) h (by rw [hp, r1, r2]; rfl) (by rw [List.length_map]; exact hl)
    rw [e]
    unfold hoT
    rw [← putK_map_key key2_inj kvs k v]
    exact e2
  new := fun X pos => pe_dnewT
  list := fun X hc => by
    intro pins s σ H xs us Q I r ⟨a, kvs, e, h, q⟩
    exact call_list_dT hc pins s σ H xs us Q I r ⟨a, _, e, h, fun p bs hp hk => q p _ hp (keys_all2 hk)⟩
theorem rd_mono {H H' : Hp} {a : Addr} {u : HO} (s : Same H H') (h : Rd H a u) : Rd H' a u := h.elim (fun e => .inl (s _ _ e)) fun ⟨o, e⟩ => .inr ⟨o, s _ _ e⟩
abbrev RepD (K : Frag) (F : Hp) {κ β : Type} [Enc β] (kvs : List (κ × V)) (l : List (κ × β)) : Prop := All2 (fun (kv : κ × V) (x : κ × β) => kv.1 = x.1 ∧ Enc.rep K F kv.2 x.2) kvs l
theorem RepD.mono {K : Frag} {F F' : Hp} {κ β : Type} [Enc β] {kvs : List (κ × V)} {l : List (κ × β)} (s : Same F F') (h : RepD K F kvs l) : RepD K F' kvs l := All2.imp (fun _ _ x => ⟨x.1, Enc.mono s x.2⟩) h
instance {κ β : Type} [Enc κ] [DecidableEq κ] [DK κ] [Enc β] : Enc (Dic κ β) :=
  ⟨fun K H v d => ∃ p kvs, v = .ref p ∧ Rd H p (DK.ho kvs) ∧ RepD K H kvs d.l, fun s ⟨p, kvs, e, h, r⟩ => ⟨p, kvs, e, rd_mono s h, r.mono s⟩⟩
instance {κ β : Type} [Enc κ] [DecidableEq κ] [DK κ] [Enc β] : NN (Dic κ β) := ⟨fun ⟨_, _, e1, _⟩ e => by rw [e] at e1; cases e1⟩
def owd {κ β : Type} [Enc κ] [DecidableEq κ] [DK κ] [Enc β] (d : Dic κ β) : Slot :=
  ⟨fun K F G o => ∃ p kvs, o = some (.ref p) ∧ G p = some (DK.ho kvs) ∧ RepD K F kvs d.l, fun s t ⟨p, kvs, e, h, r⟩ => ⟨p, kvs, e, t _ _ h, r.mono s⟩⟩
section
variable {κ β : Type} [Enc κ] [DecidableEq κ] [DK κ] [Enc β]
instance : View (owd (κ := κ) (β := β)) := ⟨fun ⟨p, kvs, e, g, r⟩ => by cases e; exact ⟨p, kvs, rfl, .inl g, r⟩⟩
theorem repD_get {K : Frag} {F : Hp} {k : κ} : ∀ {kvs : List (κ × V)} {l : List (κ × β)}, RepD K F kvs l → match dget ⟨l⟩ k with
    | some b => ∃ v, valV kvs k = some v ∧ Enc.rep K F v b
    | none => valV kvs k = none
  | [], [], _ => rfl
  | kv :: kvs, x :: l, ⟨⟨h1, h2⟩, t⟩ => by
    unfold dget
    rw [List.find?_cons]
    by_cases e : x.1 = k
    · rw [decide_eq_true e]
      exact ⟨kv.2, valV_pos (h1.trans e), h2⟩
    · rw [decide_eq_false e, valV_neg (by rw [h1]; exact e)]
      exact repD_get t
  | [], _ :: _, h => h.elim
  | _ :: _, [], h => h.elim
theorem repD_has {K : Frag} {F : Hp} {k : κ} {kvs : List (κ × V)} {d : Dic κ β} (h : RepD K F kvs d.l) : (valV kvs k).isSome = dhas d k := by
  have q := repD_get (k := k) h
  rw [← dget_isSome]
  cases e : dget ⟨d.l⟩ k with
  | some b =>
    rw [e] at q
    obtain ⟨v, z, _⟩ := q
    rw [z]
    rfl
  | none =>
    rw [e] at q
    have q : valV kvs k = Option.none := q
    rw [q]
    rfl
theorem repD_put {K : Frag} {F : Hp} {k : κ} {v : V} {b : β} {kvs : List (κ × V)} {d : Dic κ β} (h : RepD K F kvs d.l) (r : Enc.rep K F v b) : RepD K F (putK kvs k v) (dput d k b).l := by
  have e : (kvs.any fun kv => decide (kv.1 = k)) = dhas d k := by rw [valV_any, repD_has h]
  unfold putK dput
  rw [e]
  split
  · have go : ∀ {kvs : List (κ × V)} {l : List (κ × β)}, RepD K F kvs l → RepD K F (kvs.map fun kv => if kv.1 = k then (kv.1, v) else kv) (l.map fun kv => if kv.1 = k then (kv.1, b) else kv) := by
      intro kvs
      induction kvs with
      | nil =>
        intro l h
        cases l with
        | nil => trivial
        | cons x l => exact h.elim
      | cons kv kvs ih =>
        intro l h
        cases l with
        | nil => exact h.elim
        | cons x l =>
          obtain ⟨⟨h1, h2⟩, t⟩ := h
          refine ⟨?_, ih t⟩
          by_cases e : x.1 = k
          · show (if kv.1 = k then (kv.1, v) else kv).1 = (if x.1 = k then (x.1, b) else x).1 ∧ Enc.rep K F (if kv.1 = k then (kv.1, v) else kv).2 (if x.1 = k then (x.1, b) else x).2
            rw [if_pos e, if_pos (h1.trans e)]; exact ⟨h1, r⟩
          · show (if kv.1 = k then (kv.1, v) else kv).1 = (if x.1 = k then (x.1, b) else x).1 ∧ Enc.rep K F (if kv.1 = k then (kv.1, v) else kv).2 (if x.1 = k then (x.1, b) else x).2
            rw [if_neg e, if_neg (by rw [h1]; exact e)]; exact ⟨h1, h2⟩
    exact go h
  · exact All2.append h ⟨⟨rfl, r⟩, trivial⟩
variable {X : Cx} {W : WX} {ss : List Slot} {pos : Pos} {a b e : Expr}
theorem xk_dnew : XK X W ss (.Dict [] [] pos) (.ok (⟨[]⟩ : Dic κ β)) owd :=
  PE_imp (DK.new (κ := κ) X pos) fun σ H Q ⟨F, sf, sl, q⟩ p hp => by
    have hF : F p = none := Same.free sf hp
    refine q _ _ F (upd noHp p (DK.ho (κ := κ) [])) (same_upd hp) ⟨Same.refl F, sf.trans (same_upd hp), fun _ _ h => .inl h⟩ (fun c u z => ?_) ⟨p, [], rfl, upd_same, trivial⟩
    by_cases e : c = p
    · subst e; rw [upd_same] at z; cases z
      exact ⟨upd_same, hp, hF, DK.notT _⟩
    · rw [upd_ne e] at z; cases z
theorem xi_owd (i : Nat) {d : Dic κ β} {x : Str} {pos : Pos} (hs : ss[i]? = some (owd d) := by rfl) (hp : PE X (.Name x pos) (tVar i) := by exact pv _) : XI X W ss (.Name x pos) (.ok d) := by
  refine PE_imp hp fun σ H Q ⟨sl, q⟩ => ?_
  obtain ⟨o, ho, p, vs, e, g, r⟩ := sl.get hs
  subst e
  exact ⟨.ref p, ho, q _ H (Same.refl H) ⟨p, vs, rfl, .inl g, r⟩⟩
theorem t_din {m : Res κ} {m' : Res (Dic κ β)} (hu : X.A.units + 1 < cLine) (h : XI X W ss a m) (h' : XI X W ss b m') (hm : behindInMarks .In b = false := by with_unfolding_all rfl) : XT X W ss (.Compare a [.In] [b] pos) (m.bind fun k => m'.bind fun d => .ok (dhas d k)) :=
  PT_imp (pt_cmp (pc_din hu h h') hm) fun σ H Q ⟨sl, q⟩ => ⟨sl, wpR_imp (wpR_bind q) (Same.refl H) fun k q v H1 s1 r1 => ⟨sl.mono s1 s1, wpR_imp (wpR_bind q) s1 fun d q w H2 s2 ⟨p, kvs, e, hp, r2⟩ =>
    ⟨p, _, e, DK.get hp (Enc.mono s2 r1), by rw [repD_has (d := d) r2]; exact ⟨_, rfl, q H2 (s1.trans s2)⟩⟩⟩⟩
theorem t_dnin {m : Res κ} {m' : Res (Dic κ β)} (hu : X.A.units + 1 < cLine) (h : XI X W ss a m) (h' : XI X W ss b m') (hm : behindInMarks .NotIn b = false := by with_unfolding_all rfl) : XT X W ss (.Compare a [.NotIn] [b] pos) (m.bind fun k => m'.bind fun d => .ok (!dhas d k)) :=
  PT_imp (pt_cmp (pc_dnotin hu h h') hm) fun σ H Q ⟨sl, q⟩ => ⟨sl, wpR_imp (wpR_bind q) (Same.refl H) fun k q v H1 s1 r1 => ⟨sl.mono s1 s1, wpR_imp (wpR_bind q) s1 fun d q w H2 s2 ⟨p, kvs, e, hp, r2⟩ =>
    ⟨p, _, e, DK.get hp (Enc.mono s2 r1), by rw [repD_has (d := d) r2]; exact ⟨_, rfl, q H2 (s1.trans s2)⟩⟩⟩⟩
theorem x_dget {m : Res κ} {m' : Res (Dic κ β)} (hu : X.A.units + 1 < cLine) (h' : XI X W ss b m') (h : XI X W ss a m) (hs : NoSl a := by exact fun _ _ => rfl) : XI X W ss (.Subscript b a pos) (m'.bind fun d => m.bind fun k => unw (dget d k)) :=
  PE_imp (pe_dget hu h' h hs) fun σ H Q ⟨sl, q⟩ => ⟨sl, wpR_imp (wpR_bind q) (Same.refl H) fun d q v H1 s1 ⟨p, kvs, e, hp, r1⟩ => ⟨sl.mono s1 s1, wpR_imp (wpR_bind q) s1 fun k q w H2 s2 r2 => by
    have z := repD_get (k := k) (r1.mono s2)
    cases ed : dget ⟨d.l⟩ k with
    | none => rw [show dget d k = none from ed] at q; exact q.elim
    | some x =>
      rw [show dget d k = some x from ed] at q
      rw [ed] at z
      obtain ⟨u, hu', ru⟩ := z
      exact ⟨p, u, e, by rw [← hu']; exact DK.get (rd_mono s2 hp) r2, q u H2 (s1.trans s2) ru⟩⟩⟩
theorem Asn.putG {K : Frag} {B F0 H F : Hp} {ss : List Slot} {σ : L2.St} {Gs : List Hp} (A : Asn K B F0 ss σ H F Gs) {i : Nat} {G : Hp} {p : Addr} {o o' : HO} {s' : Slot} (hG : Gs[i]? = some G) (hσ : σ[i]? = some (some (.ref p))) (hp : G p = some o) (hT : isT o' = false)
    (r : s'.P K F (upd noHp p o') (some (.ref p))) : Asn K B F0 (ss.set i s') σ (upd H p o') F (Gs.set i (upd noHp p o')) := by
  have hm : G ∈ Gs := List.mem_of_getElem? hG
  obtain ⟨h1, h2, h3, h4⟩ := A.priv G hm _ _ hp
  have sF : Same F (upd H p o') := fun c u z => by
    rw [upd_ne (fun e => by rw [e, h3] at z; cases z)]
    exact A.ext.sub _ _ z
  refine ⟨⟨A.ext.le, sF, A.ext.new⟩, fun c u z => ?_, ?_, fun G' m c u z => ?_, ?_⟩
  · rw [upd_ne (fun e => by rw [e, h2] at z; cases z)]
    exact A.base _ _ z
  · have e := set_self hσ
    rw [← e]
    exact A.all.set (s := s') r i
  · by_cases hi : G' = upd noHp p o'
    · subst hi
      by_cases e : c = p
      · subst e
        rw [upd_same] at z; cases z
        exact ⟨upd_same, h2, h3, hT⟩
      · rw [upd_ne e] at z; cases z
    · obtain ⟨j, hj⟩ := List.getElem?_of_mem m
      have hji : j ≠ i := fun e => by
        subst e
        have hlt : j < Gs.length := (List.getElem?_eq_some_iff.mp hG).1
        rw [List.getElem?_set_self hlt] at hj
        exact hi (Option.some.inj hj).symm
      rw [List.getElem?_set_ne (Ne.symm hji)] at hj
      have hd : Dj G' G := by
        have pw := A.dj
        have hj' := List.getElem?_eq_some_iff.mp hj
        have hG' := List.getElem?_eq_some_iff.mp hG
        rcases Nat.lt_or_gt_of_ne hji with z | z
        · have := List.pairwise_iff_getElem.mp pw j i hj'.1 hG'.1 z
          rw [hj'.2, hG'.2] at this
          exact this
        · have := List.pairwise_iff_getElem.mp pw i j hG'.1 hj'.1 z
          rw [hj'.2, hG'.2] at this
          exact fun a => (this a).symm
      have hcp : c ≠ p := fun e => by
        subst e
        rcases hd c with y | y
        · rw [y] at z; cases z
        · rw [y] at hp; cases hp
      obtain ⟨k1, k2, k3, k4⟩ := A.priv G' (List.mem_of_getElem? hj) c u z
      exact ⟨by rw [upd_ne hcp]; exact k1, k2, k3, k4⟩
  · refine Asn.put.pw_ix hG A.dj fun G' d c => ?_
    by_cases e : c = p
    · subst e
      rcases d c with y | y
      · rw [y] at hp; cases hp
      · exact .inr y
    · exact .inl (by rw [upd_ne e]; rfl)
def dputR (d : Dic κ β) (k : κ) (v : β) : Res (Dic κ β) := guardR (big d.l.length) (.ok (dput d k v))
theorem s1_dput (i : Nat) {d : Dic κ β} {m : Res β} {mk : Res κ} {x : Str} {p tpos : Pos} (hu : X.A.units + 1 < cLine) (hv : XK X W ss e m fr) (hk : XI X W ss a mk) (hs : ss[i]? = some (owd d) := by rfl) (hp : PE X (.Name x p) (tVar i) := by exact pv _)
    (hsw : swapsWith e (some (.Subscript (.Name x p) a tpos)) pos.line X.env = pure false := by rfl) :
    S1 X W ss (.Assign [.Subscript (.Name x p) a tpos] e pos) (m.bind fun v => mk.bind fun k => dputR d k v) (fun d' => ss.set i (owd d')) := by
  refine PS_imp (ps_dput hu hp hk hv hsw) fun D σ H ⟨B, F0, F, Gs, A, q⟩ => ⟨F, A.ext.sub, A.sl, wpS_R (wpS_bind q) A.base fun b q v H1 F1 G1 s1 ex1 _ ⟨v', e1, rb⟩ => ?_⟩
  cases e1
  have A1 := A.grow s1 ex1
  obtain ⟨G, o, hG, hσ, p, kvs, e2, g, r⟩ := A1.all.get hs
  subst e2
  refine ⟨.ref p, hσ, A1.sl.mono A1.ext.sub (Same.refl H1), wpS_R (wpS_bind q) A1.base fun k q y H2 s2 rk => ?_⟩
  have A2 := A1.grow s2 ⟨Same.refl F1, A1.ext.sub.trans s2, fun _ _ h => .inl h⟩
  have hH := A2.sub G (List.mem_of_getElem? hG) _ _ g
  unfold dputR at q
  cases gd : big d.l.length with
  | false => rw [gd] at q; exact q.elim
  | true =>
    rw [gd] at q
    refine ⟨p, _, rfl, DK.put hH rk (by rw [r.length]; exact Nat.lt_of_le_of_lt (of_decide_eq_true gd) (by decide)), ?_⟩
    exact q _ _ _ _ (A2.putG (s' := owd (dput d k b)) hG hσ g (DK.notT _) ⟨p, _, rfl, upd_same, repD_put r rb⟩)
end
section
variable {κ β : Type} [Enc κ] [DecidableEq κ] [DK κ] [Enc β] {X : Cx} {W : WX} {ss : List Slot}
end
theorem hu1 {A : Around} {k : Nat} (hr : Room k A) : A.units + 1 < cLine := by have := hr.un; omega
end G

namespace G
open PySem PySem.Spec PyProof.Rows L2
structure IsDefD (K : Frag) (mg : Str → Option Value) (x : Str) (st : Stmt) (dvs : List V) : Prop where
  ex : ∃ f fd, FunD K x x (defArgs st) (defBody st) (defScope st) dvs [] f fd ∧ mg x = some (.ref f)
section
variable {P : Program} {w : World} {K : Frag} {mg : Str → Option Value} {base : Heap}
def Bnd (x : Str) (st : Stmt) (ps : List Str) (m n j : Nat) : Prop := ∀ (T : Addr) (kV doc pm : Value) (an : Option Addr) (cdv ct : Value) (us its : List Value), us.length = n → its.length = m →
  ∃ k, bindArgs (PySem.W.fnOf x x (defArgs st) (defBody st) (defScope st) (.ref T) kV doc pm an cdv ct) ⟨us, []⟩ = seqItems? (.ref T) >>= k ∧ k (some its.toArray) = pure (ps.zip (us ++ its.drop j))
end
theorem isDef_mk {K : Frag} {mg : PySem.Str → Option Value} {h : Heap} {x : PySem.Str} {st : Stmt} {f : Addr} {oc : Value} {od an : Option Addr} {osl : Array (Option Value)} {kV doc pm cdv ct : Value} (X : K.In h) (G : h.Ns mainGlobals mg) (a : PySem.W.nsIn K mainGlobals x = some (some (.ref f)))
    (l : K.lookup f = some ⟨oc, od, .func (PySem.W.fnOf x x (defArgs st) (defBody st) (defScope st) .none kV doc pm an cdv ct), osl⟩) (c : PySem.W.codeIn K cdv x = true) (k : PySem.W.keepIn K (.ref f) = true) : IsDef K mg x st := ⟨f, _, fun_mk l c k, PySem.W.mg_of X G a⟩
end G

namespace G
open PySem PySem.Spec PyProof.Rows L2
structure Ow (α : Type) [Enc α] where
  own : Frag → Hp → Hp → V → α → Prop
  mF : ∀ {K : Frag} {F F' G : Hp} {v : V} {a : α}, Same F F' → own K F G v a → own K F' G v a
  mG : ∀ {K : Frag} {F G G' : Hp} {v : V} {a : α}, Same G G' → own K F G v a → own K F G' v a
  view : ∀ {K : Frag} {F G H : Hp} {v : V} {a : α}, own K F G v a → Same F H → Same G H → Enc.rep K H v a
def AllO {α : Type} (P : Hp → V → α → Prop) : List V → List Hp → List α → Prop
  | [], [], [] => True
  | v :: vs, G :: Gs, a :: as => P G v a ∧ AllO P vs Gs as
  | _, _, _ => False
section
variable {α : Type} {P R : Hp → V → α → Prop}
theorem AllO.imp (h : ∀ G v a, P G v a → R G v a) : ∀ {vs : List V} {Gs : List Hp} {as : List α}, AllO P vs Gs as → AllO R vs Gs as
  | [], [], [], _ => trivial
  | _ :: _, _ :: _, _ :: _, ⟨x, y⟩ => ⟨h _ _ _ x, AllO.imp h y⟩
  | [], _ :: _, _, x => x.elim
  | [], [], _ :: _, x => x.elim
  | _ :: _, [], _, x => x.elim
  | _ :: _, _ :: _, [], x => x.elim
theorem AllO.all2 {T : V → α → Prop} : ∀ {vs : List V} {Gs : List Hp} {as : List α}, AllO P vs Gs as → (∀ G ∈ Gs, ∀ v a, P G v a → T v a) → All2 T vs as
  | [], [], [], _, _ => trivial
  | _ :: _, _ :: _, _ :: _, ⟨x, y⟩, h => ⟨h _ List.mem_cons_self _ _ x, AllO.all2 y fun G m => h G (List.mem_cons_of_mem _ m)⟩
  | [], _ :: _, _, x, _ => x.elim
  | [], [], _ :: _, x, _ => x.elim
  | _ :: _, [], _, x, _ => x.elim
  | _ :: _, _ :: _, [], x, _ => x.elim
theorem AllO.length : ∀ {vs : List V} {Gs : List Hp} {as : List α}, AllO P vs Gs as → vs.length = as.length
  | [], [], [], _ => rfl
  | _ :: _, _ :: _, _ :: _, ⟨_, y⟩ => congrArg (· + 1) (AllO.length y)
  | [], _ :: _, _, x => x.elim
  | [], [], _ :: _, x => x.elim
  | _ :: _, [], _, x => x.elim
  | _ :: _, _ :: _, [], x => x.elim
theorem AllO.append : ∀ {vs vs' : List V} {Gs Gs' : List Hp} {as as' : List α}, AllO P vs Gs as → AllO P vs' Gs' as' → AllO P (vs ++ vs') (Gs ++ Gs') (as ++ as')
  | [], _, [], _, [], _, _, h => h
  | _ :: _, _, _ :: _, _, _ :: _, _, ⟨x, y⟩, h => ⟨x, AllO.append y h⟩
  | [], _, _ :: _, _, _, _, x, _ => x.elim
  | [], _, [], _, _ :: _, _, x, _ => x.elim
  | _ :: _, _, [], _, _, _, x, _ => x.elim
  | _ :: _, _, _ :: _, _, [], _, x, _ => x.elim
theorem AllO.get : ∀ {vs : List V} {Gs : List Hp} {as : List α} {i : Nat} {a : α}, AllO P vs Gs as → as[i]? = some a → ∃ v G, vs[i]? = some v ∧ Gs[i]? = some G ∧ P G v a
  | _ :: _, _ :: _, _ :: _, 0, b, ⟨x, _⟩, h => by
    have e : _ = b := Option.some.inj h
    subst e
    exact ⟨_, _, rfl, rfl, x⟩
  | _ :: vs, _ :: Gs, _ :: as, i + 1, b, ⟨_, y⟩, h => AllO.get (vs := vs) (Gs := Gs) (as := as) (i := i) y h
  | [], [], [], i, b, _, h => by simp at h
  | [], _ :: _, _, _, _, x, _ => x.elim
  | [], [], _ :: _, _, _, x, _ => x.elim
  | _ :: _, [], _, _, _, x, _ => x.elim
  | _ :: _, _ :: _, [], _, _, x, _ => x.elim
theorem AllO.set : ∀ (i : Nat) {vs : List V} {Gs : List Hp} {as : List α} {v : V} {G : Hp} {a : α}, AllO P vs Gs as → P G v a → AllO P (vs.set i v) (Gs.set i G) (as.set i a)
  | _, [], [], [], _, _, _, h, _ => h
  | 0, _ :: _, _ :: _, _ :: _, _, _, _, ⟨_, y⟩, h => ⟨h, y⟩
  | i + 1, _ :: _, _ :: _, _ :: _, _, _, _, ⟨x, y⟩, h => ⟨x, AllO.set i y h⟩
  | _, [], _ :: _, _, _, _, _, x, _ => x.elim
  | _, [], [], _ :: _, _, _, _, x, _ => x.elim
  | _, _ :: _, [], _, _, _, _, x, _ => x.elim
  | _, _ :: _, _ :: _, [], _, _, _, x, _ => x.elim
end
def fzO {α : Type} [Enc α] : Ow α := ⟨fun K F _ v a => Enc.rep K F v a, fun s h => Enc.mono s h, fun _ h => h, fun h s _ => Enc.mono s h⟩
def l1 {α : Type} [Enc α] : Ow (List α) := ⟨fun K F G v as => ∃ p vs, v = .ref p ∧ G p = some (.lst vs) ∧ All2 (fun v a => Enc.rep K F v a) vs as,
  fun s ⟨p, vs, e, g, r⟩ => ⟨p, vs, e, g, r.mono s⟩, fun s ⟨p, vs, e, g, r⟩ => ⟨p, vs, e, s _ _ g, r⟩, fun ⟨p, vs, e, g, r⟩ s t => ⟨p, vs, e, t _ _ g, r.mono s⟩⟩
def lsO {α : Type} [Enc α] (d : Ow α) : Ow (List α) := ⟨fun K F G v as => ∃ p vs Gs, v = .ref p ∧ G p = some (.lst vs) ∧ (∀ g ∈ Gs, Same g G ∧ g p = none) ∧ Gs.Pairwise Dj ∧ AllO (d.own K F) vs Gs as,
  fun s ⟨p, vs, Gs, e, g, h, w, r⟩ => ⟨p, vs, Gs, e, g, h, w, r.imp fun _ _ _ x => d.mF s x⟩,
  fun s ⟨p, vs, Gs, e, g, h, w, r⟩ => ⟨p, vs, Gs, e, s _ _ g, fun k m => ⟨(h k m).1.trans s, (h k m).2⟩, w, r⟩,
  fun ⟨p, vs, Gs, e, g, h, w, r⟩ s t => ⟨p, vs, e, t _ _ g, r.all2 fun k m v a x => d.view x s ((h k m).1.trans t)⟩⟩
def prO {α β : Type} [Enc α] [Enc β] (d : Ow α) (d' : Ow β) : Ow (α × β) := ⟨fun K F G v x => ∃ p v1 v2 G1 G2, v = .ref p ∧ F p = some (.tup [v1, v2]) ∧ Same G1 G ∧ Same G2 G ∧ Dj G1 G2 ∧ d.own K F G1 v1 x.1 ∧ d'.own K F G2 v2 x.2,
  fun s ⟨p, v1, v2, G1, G2, e, g, a, b, c, x, y⟩ => ⟨p, v1, v2, G1, G2, e, s _ _ g, a, b, c, d.mF s x, d'.mF s y⟩,
  fun s ⟨p, v1, v2, G1, G2, e, g, a, b, c, x, y⟩ => ⟨p, v1, v2, G1, G2, e, g, a.trans s, b.trans s, c, x, y⟩,
  fun ⟨p, v1, v2, G1, G2, e, g, a, b, c, x, y⟩ s t => ⟨p, v1, v2, e, s _ _ g, d.view x s (a.trans t), d'.view y s (b.trans t)⟩⟩
def os {α : Type} [Enc α] (d : Ow α) (a : α) : Slot := ⟨fun K F G o => ∃ v, o = some v ∧ d.own K F G v a, fun s t ⟨v, e, r⟩ => ⟨v, e, d.mG t (d.mF s r)⟩⟩
class ImmO {α : Type} [Enc α] (d : Ow α) : Prop where
  imm : ∀ {K : Frag} {F G : Hp} {v : V} {a : α}, d.own K F G v a → d.own K (tups F) G v a
instance {α : Type} [Enc α] [Imm α] : ImmO (fzO (α := α)) := ⟨fun h => Imm.imm h⟩
instance {α : Type} [Enc α] [Imm α] : ImmO (l1 (α := α)) := ⟨fun ⟨p, vs, e, g, r⟩ => ⟨p, vs, e, g, All2.imp (fun _ _ z => Imm.imm z) r⟩⟩
instance {α : Type} [Enc α] {d : Ow α} [ImmO d] : ImmO (lsO d) := ⟨fun ⟨p, vs, Gs, e, g, h, w, r⟩ => ⟨p, vs, Gs, e, g, h, w, r.imp fun _ _ _ x => ImmO.imm x⟩⟩
instance {α β : Type} [Enc α] [Enc β] {d : Ow α} {d' : Ow β} [ImmO d] [ImmO d'] : ImmO (prO d d') := ⟨fun ⟨p, v1, v2, G1, G2, e, g, a, b, c, x, y⟩ => ⟨p, v1, v2, G1, G2, e, tups_some g rfl, a, b, c, ImmO.imm x, ImmO.imm y⟩⟩
instance {α : Type} [Enc α] {d : Ow α} : View (os d) := ⟨fun ⟨v, e, r⟩ => by cases e; exact d.view r (Same.refl _) (Same.refl _)⟩
instance {α : Type} [Enc α] {d : Ow α} [ImmO d] : KImm (os d) := ⟨fun ⟨v, e, r⟩ => ⟨v, e, ImmO.imm r⟩⟩
def jl (n : Nat) : Slot := ⟨fun _ _ G o => ∃ p vs, o = some (.ref p) ∧ G p = some (.lst vs) ∧ vs.length = n, fun _ t ⟨p, vs, e, g, l⟩ => ⟨p, vs, e, t _ _ g, l⟩⟩
def jk {α : Type} [Enc α] (d : Ow α) (p : Addr) (vs : List V) (as : List α) (k : Nat) : Slot :=
  ⟨fun K F G o => o = some (.ref p) ∧ ∃ Gs, G p = some (.lst vs) ∧ (∀ g ∈ Gs, Same g G ∧ g p = none) ∧ Gs.Pairwise Dj ∧ AllO (d.own K F) (vs.drop k) Gs (as.drop k),
   fun s t ⟨e, Gs, g, h, w, r⟩ => ⟨e, Gs, t _ _ g, fun k m => ⟨(h k m).1.trans t, (h k m).2⟩, w, r.imp fun _ _ _ x => d.mF s x⟩⟩
def pin {α : Type} [Enc α] (G0 : Hp) (v0 : V) (d : Ow α) (a : α) : Slot :=
  ⟨fun K F G o => o = some v0 ∧ Same G0 G ∧ d.own K F G0 v0 a, fun s t ⟨e, g, r⟩ => ⟨e, g.trans t, d.mF s r⟩⟩
section
variable {X : Cx} {W : WX} {ss : List Slot} {st : Stmt} {rest : List Stmt} {e : Expr} {pos : Pos}
theorem XK.kd {α : Type} {m : Res α} {kd kd' : α → Slot} (h : XK X W ss e m kd) (f : ∀ a K F G o, (kd a).P K F G o → (kd' a).P K F G o) : XK X W ss e m kd' :=
  PE_imp h fun σ H Q ⟨F, a, sl, q⟩ => ⟨F, a, sl, wpR_imp q (Same.refl H) fun x q v H' F' G' s ex pr k => q v H' F' G' s ex pr (f _ _ _ _ _ k)⟩
theorem xk_os {α : Type} [Enc α] {m : Res (List α)} (h : XK X W ss e m ow) : XK X W ss e m (os l1) := h.kd fun a K F G o ⟨p, vs, e, g, r⟩ => ⟨.ref p, e, p, vs, rfl, g, r⟩
theorem xk_nilO {α : Type} [Enc α] {d : Ow α} (h : XK X W ss e (.ok ([] : List α)) ow) : XK X W ss e (.ok ([] : List α)) (os (lsO d)) :=
  PE_imp h fun σ H Q ⟨F, a, sl, q⟩ => ⟨F, a, sl, fun v H' F' G' s ex pr ⟨p, vs, e, g, r⟩ => q v H' F' G' s ex pr ⟨.ref p, e, p, vs, [], rfl, g, (fun _ m => by cases m), .nil, by
    cases vs with
    | nil => trivial
    | cons v vs => exact r.elim⟩⟩
theorem xk_freeO {α : Type} [Enc α] {d : Ow α} {m : Res α} (h : XK X W ss e m (os d)) : XK X W ss e m fr := by
  refine PE_imp h fun σ H Q ⟨F, a, sl, q⟩ => ⟨F, a, sl, wpR_imp q (Same.refl H) fun x q v H' F' G' s ex pr k => ?_⟩
  obtain ⟨v', e, r⟩ := k
  cases e
  have gH : Same G' H' := fun a u z => (pr a u z).1
  exact q _ H' (join F' G') noHp s ⟨ex.le.trans join_l, join_le ex.sub gH, fun a u z => (join_or z).elim (ex.new a u) fun z => .inr (.inl (pr a u z).2.1)⟩ priv_no ⟨_, rfl, d.view r join_l (join_r ex.sub gH)⟩
def Vw : List Slot → List Slot → Prop
  | [], [] => True
  | s :: ss, t :: ts => (∀ K H o, s.P K H H o → t.P K H H o) ∧ Vw ss ts
  | _, _ => False
theorem pw_ix2 {G G2 : Hp} {i : Nat} {Gs : List Hp} (hG : Gs[i]? = some G) (pw : Gs.Pairwise Dj) (hd : ∀ G' ∈ Gs, Dj G G' → Dj G2 G') : (Gs.set i G2).Pairwise Dj := by
  refine List.pairwise_iff_getElem.mpr fun j k hj hk hjk => ?_
  rw [List.length_set] at hj hk
  have hi := List.getElem?_eq_some_iff.mp hG
  have base := List.pairwise_iff_getElem.mp pw
  rw [List.getElem_set, List.getElem_set]
  split
  · rename_i e1
    split
    · rename_i e2; omega
    · subst e1
      have := base i k hi.1 hk hjk
      rw [hi.2] at this
      exact hd _ (List.getElem_mem _) this
  · split
    · rename_i e1 e2
      subst e2
      have := base j i hj hi.1 hjk
      rw [hi.2] at this
      exact fun a => (hd _ (List.getElem_mem _) (fun c => (this c).symm) a).symm
    · exact base j k hj hk hjk
theorem dj_of {Gs : List Hp} {i j : Nat} {G G' : Hp} (pw : Gs.Pairwise Dj) (hi : Gs[i]? = some G) (hj : Gs[j]? = some G') (h : i ≠ j) : Dj G G' := by
  have hi := List.getElem?_eq_some_iff.mp hi
  have hj := List.getElem?_eq_some_iff.mp hj
  rcases Nat.lt_or_gt_of_ne h with z | z
  · have := List.pairwise_iff_getElem.mp pw i j hi.1 hj.1 z
    rw [hi.2, hj.2] at this
    exact this
  · have := List.pairwise_iff_getElem.mp pw j i hj.1 hi.1 z
    rw [hi.2, hj.2] at this
    exact fun a => (this a).symm
theorem mem_set_ix {Gs : List Hp} {i : Nat} {G2 G' : Hp} (hl : i < Gs.length) (m : G' ∈ Gs.set i G2) : G' = G2 ∨ ∃ j, j ≠ i ∧ Gs[j]? = some G' := by
  obtain ⟨j, hj⟩ := List.getElem?_of_mem m
  by_cases e : j = i
  · subst e
    rw [List.getElem?_set_self hl] at hj
    exact .inl (Option.some.inj hj).symm
  · rw [List.getElem?_set_ne (Ne.symm e)] at hj
    exact .inr ⟨j, e, hj⟩
def Fresh (B F H : Hp) (Gs : List Hp) (G' : Hp) : Prop := ∀ c u, G' c = some u → H c = some u ∧ isT u = false ∧ B c = none ∧ F c = none ∧ ∀ g ∈ Gs, g c = none
theorem Asn.chg {K : Frag} {B F0 H F H' G G2 : Hp} {ss : List Slot} {σ : L2.St} {Gs : List Hp} {i : Nat} {s : Slot} {o : Option V} (A : Asn K B F0 ss σ H F Gs) (hG : Gs[i]? = some G)
    (hk : ∀ c u, G c = none → H c = some u → H' c = some u) (h2 : ∀ c u, G2 c = some u → H' c = some u ∧ isT u = false ∧ (G c ≠ none ∨ (B c = none ∧ F c = none ∧ ∀ g ∈ Gs, g c = none)))
    (x : s.P K F G2 o) : Asn K B F0 (ss.set i s) (σ.set i o) H' F (Gs.set i G2) := by
  have hm : G ∈ Gs := List.mem_of_getElem? hG
  have hl := (List.getElem?_eq_some_iff.mp hG).1
  have nG : ∀ c w, G c = some w → B c = none ∧ F c = none := fun c w z => ⟨(A.priv G hm c w z).2.1, (A.priv G hm c w z).2.2.1⟩
  have out : ∀ {c u}, F c = some u → G c = none := fun {c u} z => by
    cases e : G c with
    | none => rfl
    | some w => rw [(nG c w e).2] at z; cases z
  have outB : ∀ {c u}, B c = some u → G c = none := fun {c u} z => by
    cases e : G c with
    | none => rfl
    | some w => rw [(nG c w e).1] at z; cases z
  refine ⟨⟨A.ext.le, fun c u z => hk c u (out z) (A.ext.sub _ _ z), A.ext.new⟩, fun c u z => hk c u (outB z) (A.base _ _ z), A.all.set x i, fun G' m c u z => ?_, ?_⟩
  · rcases mem_set_ix hl m with e | ⟨j, hji, hj⟩
    · subst e
      obtain ⟨a, b, d⟩ := h2 c u z
      rcases d with d | d
      · cases e : G c with
        | none => exact (d e).elim
        | some w => exact ⟨a, (nG c w e).1, (nG c w e).2, b⟩
      · exact ⟨a, d.1, d.2.1, b⟩
    · obtain ⟨k1, k2, k3, k4⟩ := A.priv G' (List.mem_of_getElem? hj) c u z
      have : G c = none := (dj_of A.dj hj hG hji c).elim (fun y => by rw [y] at z; cases z) id
      exact ⟨hk c u this k1, k2, k3, k4⟩
  · refine pw_ix2 hG A.dj fun G' m' d c => ?_
    cases e : G2 c with
    | none => exact .inl rfl
    | some u =>
      refine .inr ?_
      rcases (h2 c u e).2.2 with z | z
      · exact (d c).elim (fun y => (z y).elim) id
      · exact z.2.2 G' m'
theorem Asn.take {K : Frag} {B F0 H F G : Hp} {ss : List Slot} {σ : L2.St} {Gs : List Hp} {j : Nat} (A : Asn K B F0 ss σ H F Gs) (hG : Gs[j]? = some G) : Asn K B F0 (ss.set j any) σ H F (Gs.set j noHp) ∧ Fresh B F H (Gs.set j noHp) G := by
  have hm : G ∈ Gs := List.mem_of_getElem? hG
  have hl := (List.getElem?_eq_some_iff.mp hG).1
  refine ⟨⟨A.ext, A.base, ?_, fun G' m c u z => ?_, pw_set j A.dj fun _ _ _ => .inl rfl⟩, fun c u z => ?_⟩
  · have := A.all.any j
    refine all_set_any this
  · rcases mem_set_ix hl m with e | ⟨k, hk, hj⟩
    · subst e; cases z
    · exact A.priv G' (List.mem_of_getElem? hj) c u z
  · obtain ⟨k1, k2, k3, k4⟩ := A.priv G hm c u z
    refine ⟨k1, k4, k2, k3, fun g m => ?_⟩
    rcases mem_set_ix hl m with e | ⟨k, hk, hj⟩
    · subst e; rfl
    · exact (dj_of A.dj hG hj (Ne.symm hk) c).elim (fun y => by rw [y] at z; cases z) id
where
  all_set_any {K : Frag} {F : Hp} : ∀ {j : Nat} {ss : List Slot} {Gs : List Hp} {σ : L2.St}, All3 K F (ss.set j any) Gs σ → All3 K F (ss.set j any) (Gs.set j noHp) σ
    | _, [], [], [], h => h
    | 0, _ :: _, _ :: _, _ :: _, ⟨x, y⟩ => ⟨trivial, y⟩
    | j + 1, _ :: _, _ :: _, _ :: _, ⟨x, y⟩ => ⟨x, all_set_any (j := j) y⟩
    | _, [], _ :: _, _, h => by cases j <;> exact h.elim
    | _, [], [], _ :: _, h => by cases j <;> exact h.elim
    | 0, _ :: _, [], _, h => h.elim
    | _ + 1, _ :: _, [], _, h => h.elim
    | 0, _ :: _, _ :: _, [], h => h.elim
    | _ + 1, _ :: _, _ :: _, [], h => h.elim
theorem fresh_of {K : Frag} {B F0 H F H' F' G' : Hp} {ss : List Slot} {σ : L2.St} {Gs : List Hp} (A : Asn K B F0 ss σ H F Gs) (pr : Priv G' H F' H') : Fresh B F' H' Gs G' := fun c u z => by
  obtain ⟨k1, k2, k3, k4⟩ := pr c u z
  exact ⟨k1, k4, Same.free A.base k2, k3, fun g m => Same.free (A.sub g m) k2⟩
theorem Asn.app {α : Type} [Enc α] {d : Ow α} {K : Frag} {B F0 H F G G' : Hp} {ss : List Slot} {σ : L2.St} {Gs : List Hp} {i : Nat} {p : Addr} {vs : List V} {gs : List Hp} {as : List α} {v : V} {a : α} (A : Asn K B F0 ss σ H F Gs) (hG : Gs[i]? = some G) (hσ : σ[i]? = some (some (.ref p)))
    (hp : G p = some (.lst vs)) (hg : ∀ g ∈ gs, Same g G ∧ g p = none) (pw : gs.Pairwise Dj) (r : AllO (d.own K F) vs gs as) (fr' : Fresh B F H Gs G') (ra : d.own K F G' v a) :
    ∃ Gs', Asn K B F0 (ss.set i (os (lsO d) (as ++ [a]))) σ (upd H p (.lst (vs ++ [v]))) F Gs' := by
  have hm : G ∈ Gs := List.mem_of_getElem? hG
  have sG := A.sub G hm
  have dG : ∀ {c u}, G' c = some u → G c = none := fun {c u} z => (fr' c u z).2.2.2.2 G hm
  have hG'p : G' p = none := by
    cases e : G' p with
    | none => rfl
    | some w => have := dG e; rw [hp] at this; cases this
  refine ⟨_, set_self hσ ▸ A.chg (s := os (lsO d) (as ++ [a])) (o := some (.ref p)) (G2 := upd (join G G') p (.lst (vs ++ [v]))) hG (fun c u z h => by rw [upd_ne (fun e => by rw [e, hp] at z; cases z)]; exact h) (fun c u z => ?_)
    ⟨.ref p, rfl, p, vs ++ [v], gs ++ [G'], rfl, upd_same, fun g m => ?_, ?_, r.append ⟨ra, trivial⟩⟩⟩
  · by_cases e : c = p
    · subst e
      rw [upd_same] at z ⊢; cases z
      exact ⟨rfl, rfl, .inl (by rw [hp]; exact fun h => nomatch h)⟩
    · rw [upd_ne e] at z ⊢
      rcases join_or z with y | y
      · exact ⟨sG _ _ y, (A.priv G hm c u y).2.2.2, .inl (by rw [y]; exact fun h => nomatch h)⟩
      · obtain ⟨a, b, k⟩ := fr' c u y
        exact ⟨a, b, .inr ⟨k.1, k.2.1, k.2.2⟩⟩
  · rcases List.mem_append.mp m with m | m
    · refine ⟨fun c u z => ?_, (hg g m).2⟩
      rw [upd_ne (fun e => by rw [e, (hg g m).2] at z; cases z)]
      exact join_l _ _ ((hg g m).1 _ _ z)
    · cases List.mem_singleton.mp m
      refine ⟨fun c u z => ?_, hG'p⟩
      rw [upd_ne (fun e => by rw [e, hG'p] at z; cases z)]
      unfold join
      rw [dG z]; exact z
  · refine List.pairwise_append.mpr ⟨pw, List.pairwise_singleton _ _, fun g m g' m' c => ?_⟩
    cases List.mem_singleton.mp m'
    cases e : g c with
    | none => exact .inl rfl
    | some u =>
      refine .inr ?_
      cases e2 : G' c with
      | none => rfl
      | some w =>
        have := dG e2
        rw [(hg g m).1 _ _ e] at this; cases this
theorem all3_os {K : Frag} {F : Hp} {α : Type} [Enc α] {d : Ow α} {a : α} {ss : List Slot} {Gs : List Hp} {σ : L2.St} {i : Nat} (h : All3 K F ss Gs σ) (hs : ss[i]? = some (os d a)) :
    ∃ G v, Gs[i]? = some G ∧ σ[i]? = some (some v) ∧ d.own K F G v a := by
  obtain ⟨G, o, h1, h2, v, e, r⟩ := h.get hs
  subst e
  exact ⟨G, v, h1, h2, r⟩
theorem s1_appMv (i j : Nat) {α : Type} [Enc α] {d : Ow α} {as : List α} {a : α} {x y : Str} {p py apos cpos : Pos} (hij : i ≠ j := by decide) (hj : ss[j]? = some (os d a) := by rfl) (hs : ss[i]? = some (os (lsO d) as) := by rfl) (hp : PE X (.Name x p) (tVar i) := by exact pv _) (hy : PE X (.Name y py) (tVar j) := by exact pv _)
    (hbase : attributeBase (.Name x p) "append" X.env (eval (.Name x p) X.env) = eval (.Name x p) X.env := by rfl)
    (hfew : ((backTo cpos (starEach [.Name y py] X.env)).all (fun x => !x.1) && (backToKw cpos (keywordEach [] X.env)).all (fun x => x.1.isSome)
      && decide (([.Name y py] : List Expr).length + ([] : List Keyword).length + (if ([] : List Keyword).isEmpty then 0 else 1) < 30)) = true := by rfl)
    (hline : (apos.endLine == cpos.line) = true := by rfl) (hst : starEach [.Name y py] X.env = (false, eval (.Name y py) X.env) :: starEach [] X.env := by rfl) (hplain : (backTo cpos (starEach [] X.env)).any (·.1) = false := by rfl)
    (hsw : swapsWith (.Call (.Attribute (.Name x p) "append" apos) [.Name y py] [] cpos) none pos.line X.env = pure false := by rfl) :
    S1 X W ss (.Expr (.Call (.Attribute (.Name x p) "append" apos) [.Name y py] [] cpos) pos) (appR as a) (fun as' => (ss.set j any).set i (os (lsO d) as')) := by
  have hx := pe_bm PySem.F.plainAttrs_list PySem.F.slot_list_append PySem.F.type_list_append mt_append hp (pa_cons hy pa_nil hst) hbase hfew hline hst hplain
  refine PS_imp (ps_expr hx hsw) fun D σ H ⟨B, F0, F, Gs, A, q⟩ => ?_
  obtain ⟨G, v0, hG, hσ, p, vs, gs, e0, hp, hg, pw, r⟩ := all3_os A.all hs
  subst e0
  obtain ⟨G', v, hG', hσ', rv⟩ := all3_os A.all hj
  have hH := A.sub G (List.mem_of_getElem? hG) _ _ hp
  refine ⟨.ref p, hσ, .inl ⟨rfl, vs, SqL.of hH⟩, v, hσ', ?_⟩
  unfold appR at q
  cases g : big as.length with
  | false => rw [g] at q; exact q.elim
  | true =>
    rw [g] at q
    refine ⟨p, vs, v, rfl, rfl, hH, by rw [r.length]; exact Nat.lt_of_le_of_lt (of_decide_eq_true g) (by decide), ?_⟩
    obtain ⟨A1, f1⟩ := A.take hG'
    obtain ⟨Gs', A2⟩ := A1.app (i := i) (by rw [List.getElem?_set_ne (Ne.symm hij)]; exact hG) hσ hp hg pw r f1 rv
    exact q _ _ _ _ A2
end
end G

namespace G
open PySem PySem.Spec PyProof.Rows L2
section
variable {X : Cx} {W : WX} {ss : List Slot} {st : Stmt} {rest : List Stmt} {e b tg : Expr} {pos : Pos}
def setI {α : Type} (xs : List α) (k : Int) (a : α) : List α := match ixN xs.length k with
  | some n => xs.set n a
  | none => xs
theorem atI_ix {α : Type} {xs : List α} {k : Int} {a : α} (h : atI xs k = some a) : ∃ n, ixN xs.length k = some n ∧ xs[n]? = some a := by
  unfold atI at h
  cases e : ixN xs.length k with
  | none => rw [e] at h; cases h
  | some n => rw [e] at h; exact ⟨n, rfl, h⟩
theorem wpS_guard {α : Type} {c : Bool} {m : Res α} {B : Hp} {P : α → Prop} (h : wpS X W (guardR c m) B P) : c = true ∧ wpS X W m B P := by
  cases c with
  | true => exact ⟨rfl, h⟩
  | false => exact h.elim
theorem wpS_idx {α : Type} {xs : List α} {k : Int} {B : Hp} {P : α → Prop} (h : wpS X W (idx xs k) B P) : ∃ a n, ixN xs.length k = some n ∧ xs[n]? = some a ∧ P a := by
  unfold idx at h
  cases e : atI xs k with
  | none => rw [e] at h; exact h.elim
  | some a =>
    rw [e] at h
    obtain ⟨n, h1, h2⟩ := atI_ix e
    exact ⟨a, n, h1, h2, h⟩
theorem Asn.inner {α : Type} [Enc α] {K : Frag} {B F0 H F G : Hp} {ss : List Slot} {σ : L2.St} {Gs : List Hp} {i n : Nat} {p q : Addr} {vs ws ws' : List V} {gs : List Hp} {g : Hp} {ass : List (List α)} {as' : List α} (A : Asn K B F0 ss σ H F Gs) (hG : Gs[i]? = some G) (hσ : σ[i]? = some (some (.ref p)))
    (hp : G p = some (.lst vs)) (hg : ∀ g ∈ gs, Same g G ∧ g p = none) (pw : gs.Pairwise Dj) (r : AllO (l1.own K F) vs gs ass) (hv : vs[n]? = some (.ref q)) (hgn : gs[n]? = some g) (hq : g q = some (.lst ws)) (r' : All2 (fun v a => Enc.rep K F v a) ws' as') :
    ∃ Gs', Asn K B F0 (ss.set i (os (lsO l1) (ass.set n as'))) σ (upd H q (.lst ws')) F Gs' := by
  have hm : G ∈ Gs := List.mem_of_getElem? hG
  have mg := List.mem_of_getElem? hgn
  have hqG := (hg g mg).1 _ _ hq
  have hqp : p ≠ q := fun e => by have := (hg g mg).2; rw [e, hq] at this; cases this
  refine ⟨_, set_self hσ ▸ A.chg (s := os (lsO l1) (ass.set n as')) (o := some (.ref p)) (G2 := upd G q (.lst ws')) hG (fun c u z h => by rw [upd_ne (fun e => by rw [e, hqG] at z; cases z)]; exact h) (fun c u z => ?_)
    ⟨.ref p, rfl, p, vs, gs.set n (upd g q (.lst ws')), rfl, by rw [upd_ne hqp]; exact hp, fun g' m => ?_, ?_, ?_⟩⟩
  · by_cases e : c = q
    · subst e
      rw [upd_same] at z ⊢; cases z
      exact ⟨rfl, rfl, .inl (by rw [hqG]; exact fun h => nomatch h)⟩
    · rw [upd_ne e] at z ⊢
      exact ⟨A.sub G hm _ _ z, (A.priv G hm c u z).2.2.2, .inl (by rw [z]; exact fun h => nomatch h)⟩
  · rcases mem_set_ix (List.getElem?_eq_some_iff.mp hgn).1 m with e | ⟨k, hk, hj⟩
    · subst e
      refine ⟨fun c u z => ?_, by rw [upd_ne hqp]; exact (hg g mg).2⟩
      by_cases e : c = q
      · subst e; rw [upd_same] at z ⊢; exact z
      · rw [upd_ne e] at z ⊢; exact (hg g mg).1 _ _ z
    · have mk := List.mem_of_getElem? hj
      refine ⟨fun c u z => ?_, (hg g' mk).2⟩
      rw [upd_ne (fun e => by
        subst e
        exact (dj_of pw hj hgn hk c).elim (fun y => by rw [y] at z; cases z) (fun y => by rw [hq] at y; cases y))]
      exact (hg g' mk).1 _ _ z
  · refine pw_ix2 hgn pw fun g' _ d c => ?_
    by_cases e : c = q
    · subst e
      exact .inr ((d c).elim (fun y => by rw [hq] at y; cases y) id)
    · rw [upd_ne e]; exact d c
  · have := r.set n (v := .ref q) (G := upd g q (.lst ws')) (a := as') ⟨q, ws', rfl, upd_same, r'⟩
    rw [set_self hv] at this
    exact this
theorem s1_app2 (i : Nat) {α : Type} [Enc α] {ass : List (List α)} {mk : Res Int} {m : Res α} {x : Str} {p ip apos cpos : Pos} (hb : XI X W ss b mk) (h : XK X W ss e m fr) (hs : ss[i]? = some (os (lsO l1) ass) := by rfl) (hp : PE X (.Name x p) (tVar i) := by exact pv _)
    (hpl : PlainIx b := by exact fun _ _ => rfl)
    (hbase : attributeBase (.Subscript (.Name x p) b ip) "append" X.env (eval (.Subscript (.Name x p) b ip) X.env) = eval (.Subscript (.Name x p) b ip) X.env := by rfl)
    (hfew : ((backTo cpos (starEach [e] X.env)).all (fun x => !x.1) && (backToKw cpos (keywordEach [] X.env)).all (fun x => x.1.isSome)
      && decide (([e] : List Expr).length + ([] : List Keyword).length + (if ([] : List Keyword).isEmpty then 0 else 1) < 30)) = true := by rfl)
    (hline : (apos.endLine == cpos.line) = true := by rfl) (hst : starEach [e] X.env = (false, eval e X.env) :: starEach [] X.env := by rfl) (hplain : (backTo cpos (starEach [] X.env)).any (·.1) = false := by rfl)
    (hsw : swapsWith (.Call (.Attribute (.Subscript (.Name x p) b ip) "append" apos) [e] [] cpos) none pos.line X.env = pure false := by rfl) :
    S1 X W ss (.Expr (.Call (.Attribute (.Subscript (.Name x p) b ip) "append" apos) [e] [] cpos) pos) (mk.bind fun k => (idx ass k).bind fun as => m.bind fun a => (appR as a).bind fun as' => .ok (setI ass k as')) (fun ass' => ss.set i (os (lsO l1) ass')) := by
  have hx := pe_bm PySem.F.plainAttrs_list PySem.F.slot_list_append PySem.F.type_list_append mt_append (pe_ix ix_list hp hb hpl) (pa_cons h pa_nil hst) hbase hfew hline hst hplain
  refine PS_imp (ps_expr hx hsw) fun D σ H ⟨B, F0, F, Gs, A, q⟩ => ?_
  obtain ⟨G, v0, hG, hσ, p, vs, gs, e0, hp, hg, pw, r⟩ := all3_os A.all hs
  subst e0
  have hH := A.sub G (List.mem_of_getElem? hG) _ _ hp
  refine ⟨.ref p, hσ, A.sl.mono A.ext.sub (Same.refl H), wpS_R (wpS_bind q) A.base fun k q w H1 s1 rk => ?_⟩
  have A1 := A.grow s1 (F' := F) ⟨Same.refl F, A.ext.sub.trans s1, fun _ _ h => .inl h⟩
  have q := wpS_bind q
  obtain ⟨as, n, hn, has, q⟩ := wpS_idx q
  obtain ⟨vq, g, hvq, hgq, ⟨qa, ws, e1, hqa, rq⟩⟩ := r.get has
  subst e1
  have hH1 := s1 _ _ hH
  have hq1 : H1 qa = some (.lst ws) := A1.sub G (List.mem_of_getElem? hG) _ _ ((hg g (List.mem_of_getElem? hgq)).1 _ _ hqa)
  have hat : atI vs k = some (.ref qa) := by
    unfold atI
    rw [r.length, hn]; exact hvq
  refine ⟨p, vs, k, .ref qa, rfl, rk, SqL.of hH1, hat, .inl ⟨rfl, ws, SqL.of hq1⟩, F, A1.ext.sub, A1.sl, wpS_R (wpS_bind q) A1.base fun a q v H' F' G' s ex pr kk => ?_⟩
  obtain ⟨v', e1, rv⟩ := kk
  cases e1
  have A' := A1.grow s ex
  obtain ⟨g1, q⟩ := wpS_guard (wpS_bind q)
  refine ⟨qa, ws, v, rfl, rfl, s _ _ hq1, by rw [rq.length]; exact Nat.lt_of_le_of_lt (of_decide_eq_true g1) (by decide), ?_⟩
  obtain ⟨Gs', A2⟩ := A'.inner hG hσ hp hg pw (r.imp fun _ _ _ z => (l1 (α := α)).mF ex.le z) hvq hgq hqa (as' := as ++ [a]) (ws' := ws ++ [v]) (All2.append (bs' := [a]) (rq.mono ex.le) ⟨rv, trivial⟩)
  have q : NxOk X (ss.set i (os (lsO l1) (setI ass k (as ++ [a])))) D B F0 := q
  unfold setI at q
  rw [hn] at q
  exact q _ _ _ _ A2
theorem pw_set_ix {G2 : Hp} : ∀ (j : Nat) {Gs : List Hp}, Gs.Pairwise Dj → (∀ k G', k ≠ j → Gs[k]? = some G' → Dj G2 G') → (Gs.set j G2).Pairwise Dj
  | _, [], _, _ => List.Pairwise.nil
  | 0, A :: Gs, h, d => List.pairwise_cons.mpr ⟨fun G' m => by
      obtain ⟨k, hk⟩ := List.getElem?_of_mem m
      exact d (k + 1) G' (by omega) hk, (List.pairwise_cons.mp h).2⟩
  | j + 1, A :: Gs, h, d => by
    obtain ⟨h1, h2⟩ := List.pairwise_cons.mp h
    refine List.pairwise_cons.mpr ⟨fun G' m => ?_, pw_set_ix j h2 fun k G' hk hG => d (k + 1) G' (by omega) hG⟩
    rcases List.mem_or_eq_of_mem_set m with z | z
    · exact h1 G' z
    · subst z
      exact fun a => (d 0 A (by omega) rfl a).symm
theorem Asn.two {K : Frag} {B F0 H F G G1 G2 : Hp} {ss : List Slot} {σ : L2.St} {Gs : List Hp} {i j : Nat} {s1 s2 : Slot} {o1 o2 : Option V} (A : Asn K B F0 ss σ H F Gs) (hij : i ≠ j) (hG : Gs[i]? = some G) (hσ : σ[i]? = some o1) (l1' : Same G1 G) (l2 : Same G2 G) (dj : Dj G1 G2)
    (x1 : s1.P K F G1 o1) (x2 : s2.P K F G2 o2) : Asn K B F0 ((ss.set i s1).set j s2) (σ.set j o2) H F ((Gs.set i G1).set j G2) := by
  have hm : G ∈ Gs := List.mem_of_getElem? hG
  have hl := (List.getElem?_eq_some_iff.mp hG).1
  have pr : ∀ {g c u}, Same g G → g c = some u → H c = some u ∧ B c = none ∧ F c = none ∧ isT u = false := fun {g c u} s z => A.priv G hm c u (s _ _ z)
  have dg : ∀ {g}, Same g G → ∀ G' ∈ Gs, Dj G G' → Dj g G' := fun {g} s G' _ d c => by
    cases e : g c with
    | none => exact .inl rfl
    | some u => exact .inr ((d c).elim (fun y => by rw [s _ _ e] at y; cases y) id)
  have A1 : All3 K F (ss.set i s1) (Gs.set i G1) (σ.set i o1) := A.all.set x1 i
  rw [set_self hσ] at A1
  refine ⟨A.ext, A.base, A1.set x2 j, fun G' m c u z => ?_, ?_⟩
  · rcases List.mem_or_eq_of_mem_set m with m | e
    · rcases List.mem_or_eq_of_mem_set m with m | e
      · exact A.priv G' m c u z
      · subst e; exact pr l1' z
    · subst e; exact pr l2 z
  · refine pw_set_ix j (pw_ix2 hG A.dj (dg l1')) fun k G' hk hG' => ?_
    by_cases e : k = i
    · subst e
      rw [List.getElem?_set_self hl] at hG'
      cases hG'
      exact fun x => (dj x).symm
    · rw [List.getElem?_set_ne (Ne.symm e)] at hG'
      exact dg l2 _ (List.mem_of_getElem? hG') (dj_of A.dj hG hG' (Ne.symm e))
theorem Asn.at {K : Frag} {B F0 H F : Hp} {ss : List Slot} {σ : L2.St} {Gs : List Hp} {i : Nat} {s t : Slot} (A : Asn K B F0 ss σ H F Gs) (hs : ss[i]? = some s) (h : ∀ G o, s.P K F G o → t.P K F G o) : Asn K B F0 (ss.set i t) σ H F Gs := by
  obtain ⟨G, o, hG, hσ, x⟩ := A.all.get hs
  have := A.all.set (h _ _ x) i
  rw [set_self hG, set_self hσ] at this
  exact ⟨A.ext, A.base, this, A.priv, A.dj⟩
end
end G

namespace G
open PySem PySem.Spec PyProof.Rows L2
section
variable {X : Cx} {W : WX} {ss : List Slot} {st : Stmt} {rest : List Stmt} {e b tg : Expr} {pos : Pos}
theorem s1_of_b1 {S : Type} {M : Res S} {post : S → List Slot} (h : B1 (L := Empty) (R := Unit) X W ss st (M.bind fun s => .ok (.nx s)) post (fun x => nomatch x) (fun _ => any)) : S1 X W ss st M post := by
  refine PS_imp h fun D σ H ⟨B, F0, F, Gs, A, q⟩ => ⟨B, F0, F, Gs, A, ?_⟩
  cases M with
  | ok s => exact q
  | exc x => exact q
  | stuck => exact q
theorem Asn.clr {K : Frag} {B F0 H F G : Hp} {ss : List Slot} {σ : L2.St} {Gs : List Hp} {i : Nat} {p : Addr} {vs : List V} {s : Slot} (A : Asn K B F0 ss σ H F Gs) (hG : Gs[i]? = some G) (hσ : σ[i]? = some (some (.ref p))) (hp : G p = some (.lst vs)) (hx : s.P K F (upd noHp p (.lst [])) (some (.ref p))) :
    Asn K B F0 (ss.set i s) σ (upd H p (.lst [])) F (Gs.set i (upd noHp p (.lst []))) := by
  have := A.chg (s := s) (o := some (.ref p)) (G2 := upd noHp p (.lst [])) (H' := upd H p (.lst [])) hG (fun c u z h => by rw [upd_ne (fun e => by rw [e, hp] at z; cases z)]; exact h) (fun c u z => by
    by_cases e : c = p
    · subst e
      rw [upd_same] at z ⊢; cases z
      exact ⟨rfl, rfl, .inl (by rw [hp]; exact fun h => nomatch h)⟩
    · rw [upd_ne e] at z; cases z) hx
  rw [set_self hσ] at this
  exact this
theorem slotX {w : Ends → Hp → Hp → Prop} (i : Nat) {s t : Slot} {sts : List Stmt} (h : PSs X sts (rdX X (ss.set i t) w)) (hs : ss[i]? = some s) (f : ∀ K F G o, s.P K F G o → t.P K F G o) : PSs X sts (rdX X ss w) :=
  PSs_imp h fun D σ H ⟨B, F0, F, Gs, A, q⟩ => ⟨B, F0, F, Gs, A.at hs (f _ _), q⟩
theorem ow_os {α : Type} [Enc α] {as : List α} : ∀ K F G o, (ow as).P K F G o → (os l1 as).P K F G o := fun K F G o ⟨p, vs, e, g, r⟩ => ⟨.ref p, e, p, vs, rfl, g, r⟩
theorem st_slot (i : Nat) {s t : Slot} (f : ∀ K F G o, s.P K F G o → t.P K F G o) {R : Type} {ee : Bool} {sts : List Stmt} {M : Res R} {kr : R → Slot} (h : ST X W ee (ss.set i t) sts M kr) (hs : ss[i]? = some s := by rfl) : ST X W ee ss sts M kr := slotX i h hs f
theorem sn_slot (i : Nat) {s t : Slot} (f : ∀ K F G o, s.P K F G o → t.P K F G o) {S : Type} {sts : List Stmt} {M : Res S} {post : S → List Slot} (h : SN X W (ss.set i t) sts M post) (hs : ss[i]? = some s := by rfl) : SN X W ss sts M post := slotX i h hs f
theorem frozO {w : Ends → Hp → Hp → Prop} (i : Nat) {α : Type} [Enc α] {d : Ow α} {a : α} {sts : List Stmt} (h : PSs X sts (rdX X (ss.set i (fr a)) w)) (hs : ss[i]? = some (os d a)) : PSs X sts (rdX X ss w) := by
  refine PSs_imp h fun D σ H ⟨B, F0, F, Gs, A, q⟩ => ?_
  obtain ⟨G, v, hG, hσ, r⟩ := all3_os A.all hs
  have hm := List.mem_of_getElem? hG
  have sG := A.sub G hm
  have hl := (List.getElem?_eq_some_iff.mp hG).1
  refine ⟨B, F0, join F G, Gs.set i noHp, ⟨⟨A.ext.le.trans join_l, join_le A.ext.sub sG, fun c u z => (join_or z).elim (A.ext.new c u) fun z => .inr (.inl (A.priv G hm c u z).2.1)⟩, A.base, ?_, fun G' m c u z => ?_, ?_⟩, q⟩
  · have e := set_self hσ
    rw [← e]
    exact (A.all.mono join_l).set (s := fr a) ⟨v, rfl, d.view r join_l (join_r A.ext.sub sG)⟩ i
  · rcases mem_set_ix hl m with e | ⟨j, hji, hj⟩
    · subst e; cases z
    · obtain ⟨k1, k2, k3, k4⟩ := A.priv G' (List.mem_of_getElem? hj) c u z
      refine ⟨k1, k2, ?_, k4⟩
      have gc : G c = none := (dj_of A.dj hj hG hji c).elim (fun y => by rw [y] at z; cases z) id
      unfold join
      rw [k3]
      exact gc
  · exact pw_set i A.dj fun G' _ c => .inl rfl
theorem st_frozO (i : Nat) {α R : Type} [Enc α] {d : Ow α} {a : α} {ee : Bool} {sts : List Stmt} {M : Res R} {kr : R → Slot} (h : ST X W ee (ss.set i (fr a)) sts M kr) (hs : ss[i]? = some (os d a) := by rfl) : ST X W ee ss sts M kr := frozO i h hs
theorem rt_slot (i : Nat) {R : Type} {kr : R → Slot} {r : R} {x : Str} {rp pos : Pos} (hs : ss[i]? = some (kr r)) (hk : ∀ K F G o, (kr r).P K F G o → ∃ v, o = some v) (hp : PE X (.Name x rp) (tVar i)) : PS X (.Return (some (.Name x rp)) pos) (rdX X ss fun D B F0 => wpS X W (.ok r) B fun r => RtOk X kr r D B F0) := by
  refine PS_imp (ps_ret hp) fun D σ H ⟨B, F0, F, Gs, A, q⟩ => ?_
  obtain ⟨G, o, hG, hσ, r⟩ := A.all.get hs
  obtain ⟨v, e⟩ := hk _ _ _ _ r
  subst e
  exact ⟨v, hσ, q _ H F G A.base A.ext (A.priv G (List.mem_of_getElem? hG)) r⟩
theorem os_some {α : Type} [Enc α] {d : Ow α} {a : α} : ∀ K F G o, (os d a).P K F G o → ∃ v, o = some v := fun _ _ _ _ ⟨v, e, _⟩ => ⟨v, e⟩
theorem st_retO (i : Nat) {α : Type} [Enc α] {d : Ow α} {a : α} {ee : Bool} {x : Str} {rp pos : Pos} (hs : ss[i]? = some (os d a) := by rfl) (hp : PE X (.Name x rp) (tVar i) := by exact pv _) : ST X W ee ss (.Return (some (.Name x rp)) pos :: rest) (.ok a) (os d) :=
  PSs_imp (rest_free (rt_slot (W := W) i hs os_some hp) fun D D' σ H e1 _ _ ⟨B, F0, F, Gs, A, q⟩ => ⟨B, F0, F, Gs, A, wpS_imp q fun r q v H' F' G' a b c d => by rw [e1]; exact q v H' F' G' a b c d⟩)
    fun D σ H ⟨B, F0, F, Gs, A, _, q⟩ => ⟨B, F0, F, Gs, A, q⟩
theorem b1_forP (i : Nat) {S L R α β : Type} [Enc α] [Enc β] [Imm β] {d : Ow α} {a : α} {iter : Expr} {body : List Stmt} {u : β → List Slot → List Slot} {m : Res (List β)} {f : S → β → Res (Out S S R)} (inv : S → List Slot) (s0 : S) {pl : L → List Slot} {kr : R → Slot}
    (hi : XIt X W (ss.set i (fr a)) tg iter m) (hg : Tg X tg u) (hl : ∀ s, Nat.blt i (inv s).length = true := by intro _; rfl)
    (hb : ∀ G0 v0 s b, SB X W (u b ((inv s).set i (pin G0 v0 d a))) body (f s b) (fun s' => (inv s').set i (pin G0 v0 d a)) (fun s' => (inv s').set i (pin G0 v0 d a)) kr)
    (hs : ss[i]? = some (os d a) := by rfl) (h0 : Wk (ss.set i any) ((inv s0).set i any) := by exact Wk.refl _)
    (hp : PassesOwn (model X.prog X.w) X.A X.env X.xe := by exact passes_of rfl) (hc : X.calm = true := by rfl) (hse : ∀ x, foldedSetIterable iter X.env x = pure x := by intro _; rfl) :
    B1 X W ss (.For tg iter body [] pos) (m.bind fun xs => loopO f s0 xs) (fun s => (inv s).set i (os d a)) pl kr := by
  obtain ⟨g, pg, qg⟩ := hg
  have hb' : PSs X body fun D σ H => ∃ G0 v0 s b, rdX X (u b ((inv s).set i (pin G0 v0 d a))) (wB X W (f s b) (fun s' => (inv s').set i (pin G0 v0 d a)) (fun s' => (inv s').set i (pin G0 v0 d a)) kr) D σ H :=
    ⟨fun pins s σ H D I ⟨G0, v0, s', b, q⟩ => (hb G0 v0 s' b).run pins s σ H D I q⟩
  refine PS_imp (ps_for hp hc hi pg hb' hse) fun D σ H ⟨B, F0, F, Gs, A, q⟩ => ?_
  obtain ⟨G, v, hG, hσ, r⟩ := all3_os A.all hs
  have hm := List.mem_of_getElem? hG
  have sG := A.sub G hm
  have slF : Sl X.K (join F G) H (ss.set i (fr a)) σ := by
    have := (A.sl.mono (F' := join F G) join_l (Same.refl H)).set (s := fr a) (o := some v) ⟨v, rfl, d.view r join_l (join_r A.ext.sub sG)⟩ i
    rw [set_self hσ] at this
    exact this
  refine ⟨join F G, join_le A.ext.sub sG, slF, wpS_R (wpS_bind q) A.base fun xs q J H1 F1 s1 ex1 it => ?_⟩
  -- what it owns apart
  have exM : Ext F H (fun c => if G c = none then F1 c else none) H1 := by
    refine ⟨fun c u z => ?_, fun c u z => ?_, fun c u z => ?_⟩
    · have : G c = none := by
        cases e : G c with
        | none => rfl
        | some w => rw [(A.priv G hm c w e).2.2.1] at z; cases z
      exact (if_pos this).trans (ex1.le _ _ (join_l _ _ z))
    · by_cases h : G c = none
      · have z : (if G c = none then F1 c else none) = some u := z
        rw [if_pos h] at z; exact ex1.sub _ _ z
      · have z : (if G c = none then F1 c else none) = some u := z
        rw [if_neg h] at z; cases z
    · by_cases h : G c = none
      · have z : (if G c = none then F1 c else none) = some u := z
        rw [if_pos h] at z
        rcases ex1.new c u z with y | y
        · rcases join_or y with y | y
          · exact .inl y
          · rw [h] at y; cases y
        · exact .inr y
      · have z : (if G c = none then F1 c else none) = some u := z
        rw [if_neg h] at z; cases z
  have A1 := A.grow s1 exM
  have A1' : Asn X.K B F0 ((inv s0).set i (pin G v d a)) σ H1 (fun c => if G c = none then F1 c else none) Gs := by
    have a2 := ((A1.all.any i).wk h0).set (s := pin G v d a) (G := G) (o := some v) ⟨rfl, Same.refl G, d.mF exM.le r⟩ i
    rw [set_self hG, set_self hσ, List.set_set] at a2
    exact ⟨A1.ext, A1.base, a2, A1.priv, A1.dj⟩
  have up : ∀ {F2 H2 : Hp} {G2 : Hp}, Same (fun c => if G c = none then F1 c else none) F2 → Same F2 H2 → Same G G2 → Same G2 H2 → Same F1 H2 := fun {F2 H2 G2} a b c' e c u z => by
    by_cases h : G c = none
    · exact b _ _ (a _ _ ((if_pos h).trans z))
    · cases eg : G c with
      | none => exact (h eg).elim
      | some w =>
        have h1 := ex1.sub _ _ z
        have h2 := s1 _ _ (sG _ _ eg)
        rw [h1] at h2
        rw [h2]
        exact e _ _ (c' _ _ eg)
  refine ⟨fun k n σ H2 => k + n = xs.length ∧ ∃ s F2 Gs2, Same (fun c => if G c = none then F1 c else none) F2 ∧ Asn X.K B F0 ((inv s).set i (pin G v d a)) σ H2 F2 Gs2 ∧ wpS X W (loopO f s (xs.drop k)) B fun o => match o with
      | .nx s => NxOk X ((inv s).set i (os d a)) D B F0
      | .rt r => RtOk X kr r D B F0
      | .bk l => BkOk X (pl l) D B F0
      | .ct l => CtOk X (pl l) D B F0, ⟨xs.length, by omega, s0, _, Gs, Same.refl _, A1', q⟩, fun k n σ2 H2 ⟨hn, s, F2, Gs2, sF2, A2, q2⟩ => ?_⟩
  have get_i : ∀ s, ((inv s).set i (pin G v d a))[i]? = some (pin G v d a) := fun s => List.getElem?_set_self (Nat.le_of_ble_eq_true (hl s))
  have unpin : ∀ {s σ H F Gs}, Asn X.K B F0 ((inv s).set i (pin G v d a)) σ H F Gs → Asn X.K B F0 ((inv s).set i (os d a)) σ H F Gs := fun {s σ H F Gs} A => by
    have := A.at (t := os d a) (get_i s) fun G o ⟨e, g, r⟩ => ⟨v, e, d.mG g r⟩
    rw [List.set_set] at this
    exact this
  obtain ⟨G2, o2, hG2, hσ2, e2, g2, r2⟩ := A2.all.get (get_i s)
  have sF1 : Same F1 H2 := up sF2 A2.ext.sub g2 (A2.sub G2 (List.mem_of_getElem? hG2))
  by_cases hlt : k < xs.length
  · refine .inr ?_
    have hx : xs[k]? = some xs[k] := List.getElem?_eq_getElem hlt
    obtain ⟨hgo, hy⟩ := it.go k H2 H2 xs[k] sF1 (Same.refl H2) hx
    rw [List.drop_eq_getElem_cons hlt] at q2
    have q2 := wpS_bind (show wpS X W ((f s xs[k]).bind _) B _ from q2)
    refine ⟨hgo, fun σ' H' => ∃ s' F3 Gs3, Same (fun c => if G c = none then F1 c else none) F3 ∧ Asn X.K B F0 ((inv s').set i (pin G v d a)) σ' H' F3 Gs3 ∧ wpS X W (loopO f s' (xs.drop (k + 1))) B fun o => match o with
      | .nx s => NxOk X ((inv s).set i (os d a)) D B F0
      | .rt r => RtOk X kr r D B F0
      | .bk l => BkOk X (pl l) D B F0
      | .ct l => CtOk X (pl l) D B F0, fun σ' H' ⟨s', F3, Gs3, sF3, A3, q3⟩ => ⟨n - 1, by omega, by omega, s', F3, Gs3, sF3, A3, q3⟩, fun v' H' y => ?_⟩
    obtain ⟨s3, F3, ex3, r3⟩ := hy v' H' y
    have A3 := A2.grow (F' := join F2 (tups H')) s3 (ext_imm A2.ext.sub s3)
    have r3' : Enc.rep X.K (join F2 (tups H')) v' xs[k] := Enc.mono ((tups_mono ex3.sub).trans (join_r (A2.ext.sub.trans s3) (tups_le H'))) (Imm.imm r3)
    -- what stays of the frame through the body
    have A4 : Asn X.K B (join F2 (tups H')) ((inv s).set i (pin G v d a)) σ2 H' (join F2 (tups H')) Gs2 := ⟨⟨Same.refl _, A3.ext.sub, fun _ _ h => .inl h⟩, A3.base, A3.all, A3.priv, A3.dj⟩
    have back : ∀ {F5 H5 : Hp}, Ext (join F2 (tups H')) B F5 H5 → Ext F0 B F5 H5 := fun {F5 H5} ex => ⟨A3.ext.le.trans ex.le, ex.sub, fun c u z => (ex.new c u z).elim (A3.ext.new c u) .inr⟩
    have backA : ∀ {ss σ H5 F5 Gs5}, Asn X.K B (join F2 (tups H')) ss σ H5 F5 Gs5 → Asn X.K B F0 ss σ H5 F5 Gs5 := fun {ss σ H5 F5 Gs5} a => ⟨back a.ext, a.base, a.all, a.priv, a.dj⟩
    have keep : ∀ {ss σ H5 F5 Gs5}, Asn X.K B (join F2 (tups H')) ss σ H5 F5 Gs5 → Same (fun c => if G c = none then F1 c else none) F5 := fun {ss σ H5 F5 Gs5} a => sF2.trans (join_l.trans a.ext.le)
    refine qg xs[k] v' B (join F2 (tups H')) (join F2 (tups H')) H' Gs2 _ σ2 _ A4 r3' fun σ4 Gs4 A5 => ⟨G, v, s, xs[k], B, join F2 (tups H'), _, Gs4, A5, wpS_imp q2 fun o q5 => ?_⟩
    cases o with
    | nx s' => exact fun σ' H' F' Gs' A' => ⟨s', F', Gs', keep A', backA A', q5⟩
    | ct s' => exact fun σ' H' F' Gs' A' => ⟨s', F', Gs', keep A', backA A', q5⟩
    | bk s' => exact fun σ' H' F' Gs' A' => q5 σ' H' F' Gs' (unpin (backA A'))
    | rt r => exact fun v H' F' G' a b c d => q5 v H' F' G' a (back b) c d
  · have e : xs.drop k = [] := List.drop_eq_nil_iff.mpr (by omega)
    rw [e] at q2
    exact .inl ⟨it.stop k H2 H2 sF1 (Same.refl H2) (by omega), q2 σ2 H2 F2 Gs2 (unpin A2)⟩
theorem s1_forP (i : Nat) {S α β : Type} [Enc α] [Enc β] [Imm β] {d : Ow α} {a : α} {iter : Expr} {body : List Stmt} {u : β → List Slot → List Slot} {m : Res (List β)} {f : S → β → Res S} (inv : S → List Slot) (s0 : S)
    (hi : XIt X W (ss.set i (fr a)) tg iter m) (hg : Tg X tg u) (hl : ∀ s, Nat.blt i (inv s).length = true := by intro _; rfl)
    (hb : ∀ G0 v0 s b, SN X W (u b ((inv s).set i (pin G0 v0 d a))) body (f s b) (fun s' => (inv s').set i (pin G0 v0 d a)))
    (hs : ss[i]? = some (os d a) := by rfl) (h0 : Wk (ss.set i any) ((inv s0).set i any) := by exact Wk.refl _)
    (hp : PassesOwn (model X.prog X.w) X.A X.env X.xe := by exact passes_of rfl) (hc : X.calm = true := by rfl) (hse : ∀ x, foldedSetIterable iter X.env x = pure x := by intro _; rfl) :
    S1 X W ss (.For tg iter body [] pos) (m.bind fun xs => foldR f s0 xs) (fun s => (inv s).set i (os d a)) := by
  refine s1_of_b1 ?_
  have := b1_forP (L := Empty) (R := Unit) (pl := fun x => nomatch x) (kr := fun _ => any) (f := fun s a => (f s a).bind fun s' => .ok (.nx s')) (pos := pos) i inv s0 hi hg hl (fun G0 v0 s b => sb_of_sn (hb G0 v0 s b)) hs h0 hp hc hse
  rw [Res.bind_assoc]
  have e : (fun xs => loopO (L := Empty) (R := Unit) (fun s a => (f s a).bind fun s' => .ok (.nx s')) s0 xs) = fun xs => (foldR f s0 xs).bind fun s => .ok (.nx s) := funext fun xs => loopO_fold f xs s0
  rw [← e]
  exact this
end
end G

namespace G
open PySem PySem.Spec PyProof.Rows L2
section
variable {X : Cx} {W : WX} {ss : List Slot} {tg elt iter : Expr} {scope : Scope} {own : List (Str × Nat)} {pos : Pos}
theorem lcR_noX {α β : Type} {p : α → Res Bool} {gg : α → Res β} : ∀ (l : List α) (x : Exn), lcR p gg l ≠ .exc x := by
  intro l
  induction l with
  | nil => intro x h; cases h
  | cons a as ih =>
    intro x h
    unfold lcR at h
    split at h
    · split at h
      · cases e2 : lcR p gg as with
        | ok bs => rw [e2] at h; cases h
        | exc y => exact ih y e2
        | stuck => rw [e2] at h; cases h
      · cases h
    · exact ih x h
    · cases h
theorem lc_readO {α β : Type} [Enc α] [Enc β] {d : Ow β} {vs : List Nat} {u : α → List Slot → List Slot} {m : Res (List α)} {p : α → Res Bool} {gg : α → Res β} {g : TG}
    (qg : ∀ (a : α) (v : V) (F H : Hp) (ss : List Slot) (σ : L2.St) (Q : L2.St → Hp → Prop), Sl X.K F H ss σ → Same F H → Enc.rep X.K F v a → (∀ σ', Sl X.K F H (u a ss) σ' → L2.wipe σ' vs = L2.wipe σ vs → Q σ' H) → g v σ H Q)
    {σ : L2.St} {H : Hp} {Q : VK} {F : Hp} (sf : Same F H) (sl : Sl X.K F H ss σ)
    (q : wpR X W (m.bind fun xs => lcT p gg xs) σ H fun a => ∀ v H' F' G', Same H H' → Ext F H F' H' → Priv G' H F' H' → (os (lsO d) a).P X.K F' G' (some v) → Q v H') :
    tLc (rdPI X W ss m) g (fun σ H Q => ∃ a, rT X WF (u a (wipeS ss vs)) (p a) σ H Q) (fun σ H Q => ∃ a, rK X WF (u a (wipeS ss vs)) (gg a) (os d) σ H Q) vs σ H Q := by
  refine ⟨F, sf, sl, wpR_imp (wpR_bind q) (Same.refl H) fun xs q J H1 F1 s1 ex1 it D nD => ?_⟩
  obtain ⟨hlen, q⟩ := wpR_guard q
  have hlen : xs.length ≤ 1000000 := of_decide_eq_true hlen
  have nF1 : F1 D = none := Same.free ex1.sub nD
  obtain ⟨bs, ebs⟩ : ∃ bs, lcR p gg xs = .ok bs := by
    cases e : lcR p gg xs with
    | ok bs => exact ⟨bs, rfl⟩
    | stuck => rw [e] at q; exact q.elim
    | exc x => exact (lcR_noX xs x e).elim
  rw [ebs] at q
  refine ⟨fun i n H => i + n = xs.length ∧ ∃ acc F2 done left gs, H D = some (.lst acc) ∧ acc.length ≤ i ∧ Same H1 H ∧ Ext F1 H1 F2 H ∧ F2 D = none ∧ AllO (d.own X.K F2) acc gs done ∧ (∀ g ∈ gs, Priv g H1 F2 H ∧ g D = none) ∧ gs.Pairwise Dj ∧ lcR p gg (xs.drop i) = .ok left ∧ bs = done ++ left,
    ⟨xs.length, by omega, [], F1, [], bs, [], upd_same, Nat.le_refl _, same_upd nD, ⟨Same.refl _, ex1.sub.trans (same_upd nD), fun _ _ h => .inl h⟩, nF1, trivial, (fun _ m => by cases m), .nil, ebs, rfl⟩, fun i n H2 ⟨hn, acc, F2, done, left, gs, hD, hacc, s2, ex2, nF2, ra, hg, pw, el, eb⟩ => ?_⟩
  by_cases hlt : i < xs.length
  · refine .inr ?_
    have hx : xs[i]? = some xs[i] := List.getElem?_eq_getElem hlt
    obtain ⟨hgo, hy⟩ := it.go i F2 H2 xs[i] ex2.le ex2.sub hx
    rw [List.drop_eq_getElem_cons hlt] at el
    unfold lcR at el
    refine ⟨hgo, fun H' => ∃ acc F2 done left gs, H' D = some (.lst acc) ∧ acc.length ≤ i + 1 ∧ Same H1 H' ∧ Ext F1 H1 F2 H' ∧ F2 D = none ∧ AllO (d.own X.K F2) acc gs done ∧ (∀ g ∈ gs, Priv g H1 F2 H' ∧ g D = none) ∧ gs.Pairwise Dj ∧ lcR p gg (xs.drop (i + 1)) = .ok left ∧ bs = done ++ left,
      fun H' x => ⟨n - 1, by omega, by omega, x⟩, fun v H' y => ?_⟩
    obtain ⟨s3, F3, ex3, r3⟩ := hy v H' y
    have keepD : ∀ {Fa Fb Ha Hb : Hp}, Fa D = none → Ext Fa Ha Fb Hb → Ha D = some (.lst acc) → Same Ha Hb → Fb D = none := fun {Fa Fb Ha Hb} n0 ex hh ss => by
      cases e : Fb D with
      | none => rfl
      | some w =>
        rcases ex.new D w e with z | z | z
        · rw [n0] at z; cases z
        · rw [hh] at z; cases z
        · have t := ex.sub _ _ e
          rw [ss _ _ hh] at t; cases t; cases z
    -- what is owned stays so
    have keepG : ∀ {g Fa Fb Ha Hb : Hp}, Priv g H1 Fa Ha → Ext Fa Ha Fb Hb → Same Ha Hb → Priv g H1 Fb Hb := fun {g Fa Fb Ha Hb} pr ex ss c w z => by
      obtain ⟨k1, k2, k3, k4⟩ := pr c w z
      refine ⟨ss _ _ k1, k2, ?_, k4⟩
      cases e : Fb c with
      | none => rfl
      | some y =>
        rcases ex.new c y e with z | z | z
        · rw [k3] at z; cases z
        · rw [k1] at z; cases z
        · have t := ex.sub _ _ e
          rw [ss _ _ k1] at t; cases t
          rw [k4] at z; cases z
    have nF3 := keepD nF2 ex3 hD s3
    have hD3 := s3 _ _ hD
    have slW : Sl X.K F3 H' (wipeS ss vs) (L2.wipe σ vs) := (sl.wipe vs).mono (ex1.le.trans (ex2.le.trans ex3.le)) (s1.trans (s2.trans s3))
    refine qg xs[i] v F3 H' (wipeS ss vs) (L2.wipe σ vs) _ slW ex3.sub r3 fun σ4 sl4 e4 => ⟨e4.trans (wipe_self vs vs σ fun _ m => m), xs[i], sl4.mono ex3.sub (Same.refl H'), ?_⟩
    cases ep : p xs[i] with
    | stuck => rw [ep] at el; cases el
    | exc x => rw [ep] at el; cases el
    | ok b =>
      rw [ep] at el
      intro H5 s5
      have ex5 : Ext F3 H' F3 H5 := ⟨Same.refl _, ex3.sub.trans s5, fun _ _ h => .inl h⟩
      have exF : Ext F1 H1 F3 H5 := ex2.trans s2 (ex3.trans s3 ex5)
      have hg5 : ∀ g ∈ gs, Priv g H1 F3 H5 ∧ g D = none := fun g m => ⟨keepG (keepG (hg g m).1 ex3 s3) ex5 s5, (hg g m).2⟩
      cases b with
      | false =>
        rw [if_neg Bool.false_ne_true]
        exact ⟨acc, F3, done, left, gs, s5 _ _ hD3, Nat.le_succ_of_le hacc, s2.trans (s3.trans s5), exF, nF3, ra.imp fun _ _ _ z => d.mF ex3.le z, hg5, pw, el, eb⟩
      | true =>
        rw [if_pos rfl]
        refine ⟨xs[i], F3, ex5.sub, sl4.mono (Same.refl F3) s5, ?_⟩
        cases eg : gg xs[i] with
        | stuck => rw [eg] at el; cases el
        | exc x => rw [eg] at el; cases el
        | ok b =>
          rw [eg] at el
          intro y H6 F6 G6 s6 ex6 pr6 ⟨y', e6, r6⟩
          cases e6
          have hD5 := s5 _ _ hD3
          have nF6 := keepD nF3 ex6 hD5 s6
          have hD6 := s6 _ _ hD5
          obtain ⟨left', el'⟩ : ∃ l, lcR p gg (xs.drop (i + 1)) = .ok l := by
            cases e7 : lcR p gg (xs.drop (i + 1)) with
            | ok l => exact ⟨l, rfl⟩
            | exc x => rw [e7] at el; cases el
            | stuck => rw [e7] at el; cases el
          rw [el'] at el
          have el2 : b :: left' = left := by injection el
          have nD1 : H1 D = none := nD
          have nG6 : G6 D = none := by
            cases e : G6 D with
            | none => rfl
            | some w => rw [(pr6 D w e).2.1] at hD5; cases hD5
          have sU : Same H1 (upd H6 D (.lst (acc ++ [y]))) := fun c w z => by
            rw [upd_ne (fun e => by rw [e, nD1] at z; cases z)]
            exact s6 _ _ (s5 _ _ (s3 _ _ (s2 _ _ z)))
          refine ⟨acc, hD6, Nat.lt_of_le_of_lt (by omega : acc.length ≤ 1000000) (by decide), acc ++ [y], F6, done ++ [b], left', gs ++ [G6], upd_same, by rw [List.length_append, List.length_singleton]; omega, sU, ⟨exF.le.trans ex6.le, fun c w z => ?_, fun c w z => ?_⟩, nF6, (ra.imp fun _ _ _ z => d.mF (ex3.le.trans ex6.le) z).append (as' := [b]) ⟨r6, trivial⟩, fun g mg => ?_, ?_, el', by rw [eb, ← el2]; simp⟩
          · rw [upd_ne (fun e => by rw [e, nF6] at z; cases z)]
            exact ex6.sub _ _ z
          · rcases ex6.new c w z with z | z | z
            · exact exF.new c w z
            · exact .inr (.inl (Same.free (s2.trans (s3.trans s5)) z))
            · exact .inr (.inr z)
          · have up : ∀ {g : Hp}, Priv g H1 F6 H6 → g D = none → Priv g H1 F6 (upd H6 D (.lst (acc ++ [y]))) ∧ g D = none := fun {g} pr gd => ⟨fun c w z => by
              obtain ⟨k1, k2, k3, k4⟩ := pr c w z
              exact ⟨by rw [upd_ne (fun e => by rw [e, gd] at z; cases z)]; exact k1, k2, k3, k4⟩, gd⟩
            rcases List.mem_append.mp mg with mg | mg
            · exact up (keepG (hg5 g mg).1 ex6 s6) (hg5 g mg).2
            · cases List.mem_singleton.mp mg
              exact up (fun c w z => by
                obtain ⟨k1, k2, k3, k4⟩ := pr6 c w z
                exact ⟨k1, Same.free (s2.trans (s3.trans s5)) k2, k3, k4⟩) nG6
          · refine List.pairwise_append.mpr ⟨pw, List.pairwise_singleton _ _, fun g mg g' m' c => ?_⟩
            cases List.mem_singleton.mp m'
            cases e : g c with
            | none => exact .inl rfl
            | some w =>
              refine .inr ?_
              have := ((hg5 g mg).1 c w e).1
              cases e2 : G6 c with
              | none => rfl
              | some y => rw [(pr6 c y e2).2.1] at this; cases this
  · refine .inl ⟨it.stop i F2 H2 ex2.le ex2.sub (by omega), ?_⟩
    rw [List.drop_eq_nil_iff.mpr (by omega)] at el
    have e0 : ([] : List β) = left := by injection el
    subst e0
    rw [List.append_nil] at eb
    subst eb
    have nH : H D = none := Same.free s1 nD
    -- all that is owned
    refine q (.ref D) H2 F2 (fun c => if c = D then some (.lst acc) else if ∃ g ∈ gs, g c ≠ none then H2 c else none) (s1.trans s2) (ex1.trans s1 ex2) (fun c w z => ?_) ⟨.ref D, rfl, D, acc, gs, rfl, if_pos rfl, fun g mg => ⟨fun c w z => ?_, (hg g mg).2⟩, pw, ra⟩
    · by_cases e : c = D
      · subst e
        have z : some (HO.lst acc) = some w := (if_pos rfl).symm.trans z
        cases z
        exact ⟨hD, nH, nF2, rfl⟩
      · have z : (if ∃ g ∈ gs, g c ≠ none then H2 c else none) = some w := (if_neg e).symm.trans z
        by_cases h : ∃ g ∈ gs, g c ≠ none
        · rw [if_pos h] at z
          obtain ⟨g, mg, hgc⟩ := h
          cases eg : g c with
          | none => exact (hgc eg).elim
          | some y =>
            obtain ⟨k1, k2, k3, k4⟩ := (hg g mg).1 c y eg
            rw [z] at k1; cases k1
            exact ⟨z, Same.free s1 k2, k3, k4⟩
        · rw [if_neg h] at z; cases z
    · have hc : c ≠ D := fun e => by rw [e, (hg g mg).2] at z; cases z
      have := ((hg g mg).1 c w z).1
      exact (if_neg hc).trans ((if_pos ⟨g, mg, by rw [z]; exact fun h => nomatch h⟩).trans this)
theorem s1_lcO (i : Nat) {α β : Type} [Enc α] [Enc β] {d : Ow β} {y : Str} {py spos : Pos} {u : α → List Slot → List Slot} {m : Res (List α)} {gg : α → Res β} (hi : XIt X W ss tg iter m) (hg : TgC X scope (own.map (·.2)) tg u)
    (he : ∀ a s H C cl fp, XK (X.blk s H scope (compEnvC scope cl C X.env) fp) WF (u a (wipeS ss (own.map (·.2)))) elt (gg a) (os d)) (hN : X.N.Nodup) (ok : BlkOk X.N X.env.scope scope own) (hsw : swapsWith (.ListComp elt [⟨tg, iter, [], 0⟩] scope pos) (some (.Name y py)) spos.line X.env = pure true)
    (hy : X.N[i]? = some y := by rfl) (hyl : X.env.scope.names.lookup y = some .local := by rfl) (hc : X.calm = true := by rfl) (hs : ∀ x, foldedSetIterable iter X.env x = pure x := by intro _; rfl) :
    S1 X W ss (.Assign [.Name y py] (.ListComp elt [⟨tg, iter, [], 0⟩] scope pos) spos) (m.bind fun xs => lcT (fun _ => .ok true) gg xs) (fun bs => ss.set i (os (lsO d) bs)) := by
  obtain ⟨g, pg, qg⟩ := hg
  have he' : ∀ (s : Shared) (H : Hp) (C : Addr) (cl : List (Str × Addr)) (fp : List Addr), PE (X.blk s H scope (compEnvC scope cl C X.env) fp) elt (fun σ H Q => ∃ a, rK X WF (u a (wipeS ss (own.map (·.2)))) (gg a) (os d) σ H Q) := fun s H C cl fp =>
    ⟨fun pins s' σ H' Q I ⟨a, q⟩ => (he a s H C cl fp).run pins s' σ H' Q I q⟩
  have ht' : ∀ (s : Shared) (H : Hp) (C : Addr) (cl : List (Str × Addr)) (fp : List Addr), PTs (X.blk s H scope (compEnvC scope cl C X.env) fp) [] (fun σ H Q => ∃ a, rT X WF (u a (wipeS ss (own.map (·.2)))) ((fun _ => .ok true : α → Res Bool) a) σ H Q) := fun s H C cl fp =>
    ⟨fun pins s' σ H' Q I ⟨a, sl, q⟩ => pts_nil.run pins s' σ H' Q I (q H' (Same.refl H'))⟩
  refine PS_imp (ps_setLc hc hN hy hyl hsw hi ok pg ht' he' hs) fun D σ H ⟨B, F0, F, Gs, A, q⟩ => lc_readO qg A.ext.sub A.sl (wpS_R q A.base fun a q v H' F' G' s ex pr k => ?_)
  exact q _ H' F' _ (A.set (s := os (lsO d) a) s ex pr k i)
end
end G

namespace G
open PySem PySem.Spec PyProof.Rows L2
section
variable {X : Cx} {W : WX} {ss : List Slot} {pos : Pos} {a b : Expr}
theorem xk_ixL {α : Type} [Enc α] {m1 : Res (List α)} {m2 : Res Int} (h1 : XK X W ss a m1 fr) (h2 : XI X W ss b m2) (hs : PlainIx b := by exact fun _ _ => rfl) : XK X W ss (.Subscript a b pos) (m1.bind fun xs => m2.bind fun i => idx xs i) fr := by
  refine PE_imp (pe_ix ix_list h1 h2 hs) fun σ H Q ⟨F, sf, sl, q⟩ => ⟨F, sf, sl, wpR_imp (wpR_bind q) (Same.refl H) fun xs q v H1 F1 G1 s1 ex1 _ k1 => ?_⟩
  obtain ⟨v', e1, p, vs, rfl, hp, r⟩ := k1
  cases e1
  refine ⟨(sl.mono sf (Same.refl H)).mono s1 s1, wpR_imp (wpR_bind q) s1 fun i q w H2 s2 e2 => ?_⟩
  unfold idx at q
  cases e : atI xs i with
  | none => rw [e] at q; exact q.elim
  | some x =>
    rw [e] at q
    obtain ⟨u, hu, ru⟩ := atI_all2 r e
    refine ⟨p, vs, i, u, rfl, e2, SqL.of (s2 _ _ (ex1.sub _ _ hp)), hu, ?_⟩
    exact q u H2 F1 noHp (s1.trans s2) ⟨ex1.le, ex1.sub.trans s2, ex1.new⟩ priv_no ⟨u, rfl, ru⟩
theorem s1_extI (i : Nat) {α : Type} [Enc α] [Imm α] {as : List α} {e : Expr} {m : Res (List α)} {x : Str} {p apos cpos : Pos} (h : XI X W ss e m) (hs : ss[i]? = some (ow as) := by rfl) (hp : PE X (.Name x p) (tVar i) := by exact pv _)
    (hbase : attributeBase (.Name x p) "extend" X.env (eval (.Name x p) X.env) = eval (.Name x p) X.env := by rfl)
    (hfew : ((backTo cpos (starEach [e] X.env)).all (fun x => !x.1) && (backToKw cpos (keywordEach [] X.env)).all (fun x => x.1.isSome)
      && decide (([e] : List Expr).length + ([] : List Keyword).length + (if ([] : List Keyword).isEmpty then 0 else 1) < 30)) = true := by rfl)
    (hline : (apos.endLine == cpos.line) = true := by rfl) (hst : starEach [e] X.env = (false, eval e X.env) :: starEach [] X.env := by rfl) (hplain : (backTo cpos (starEach [] X.env)).any (·.1) = false := by rfl)
    (hsw : swapsWith (.Call (.Attribute (.Name x p) "extend" apos) [e] [] cpos) none pos.line X.env = pure false := by rfl) :
    S1 X W ss (.Expr (.Call (.Attribute (.Name x p) "extend" apos) [e] [] cpos) pos) (m.bind fun ys => extR as ys) (fun as' => ss.set i (ow as')) := by
  have hx := pe_bm PySem.F.plainAttrs_list PySem.F.slot_list_extend PySem.F.type_list_extend mt_extend hp (pa_cons h pa_nil hst) hbase hfew hline hst hplain
  refine PS_imp (ps_expr hx hsw) fun D σ H ⟨B, F0, F, Gs, A, q⟩ => ?_
  obtain ⟨G, p, vs, hG, hσ, hp, r⟩ := all3_ow A.all hs
  have hH := A.sub G (List.mem_of_getElem? hG) _ _ hp
  refine ⟨.ref p, hσ, .inl ⟨rfl, vs, SqL.of hH⟩, A.sl.mono A.ext.sub (Same.refl H), wpS_R (wpS_bind q) A.base fun ys q v H' s ⟨p2, ws, e2, hp2, rv⟩ => ?_⟩
  have A' := A.grow (F' := join F (tups H')) s (ext_imm A.ext.sub s)
  unfold extR at q
  cases g : big (as.length + ys.length) with
  | false => rw [g] at q; exact q.elim
  | true =>
    rw [g] at q
    refine ⟨p, p2, vs, ws, rfl, by rw [e2], s _ _ hH, hp2, by rw [r.length, rv.length]; exact big_line g, ?_⟩
    exact q _ _ _ _ (A'.put hG hσ hp (All2.append (r.mono join_l) (All2.imp (fun _ _ z => Enc.mono (join_r (A.ext.sub.trans s) (tups_le H')) (Imm.imm z)) rv)))
end
end G

namespace G
open PySem PySem.Spec PyProof.Rows L2
section
variable {X : Cx} {W : WX} {ss : List Slot} {pos : Pos} {a b e : Expr} {es : List Expr}
structure Sm (X : Cx) (r : V → List V → Hp → VK → Prop) {A R : Type} [EncA A] [Enc R] (g : Str → A → Res R) : Prop where
  op : ∀ (z : Str) (x : A) (vs : List V) (H : Hp) (Q : VK), EncA.rep X.K H vs x → okR (g z x) (fun c => ∀ v' H', Same H H' → Enc.rep X.K H' v' c → Q v' H') → r (.str z) vs H Q
  nx : ∀ z x, NoX (g z x)
theorem okR_of {α : Type} {m : Res α} {σ : L2.St} {H : Hp} {P : α → Prop} (h : wpR X W m σ H P) (n : NoX m) : okR m P := by
  unfold okR
  cases e : m with
  | ok c => rw [e] at h; exact h
  | exc x => exact n x e
  | stuck => rw [e] at h; exact h
def maxL : List Int → Int
  | [] => 0
  | a :: as => as.foldl max a
def minL : List Int → Int
  | [] => 0
  | a :: as => as.foldl min a
theorem foldl_min {as : List Int} : ∀ {a : Int}, (as.foldl min a = a ∨ as.foldl min a ∈ as) ∧ as.foldl min a ≤ a ∧ ∀ y ∈ as, as.foldl min a ≤ y := by
  induction as with
  | nil => intro a; exact ⟨.inl rfl, Int.le_refl _, fun y m => by cases m⟩
  | cons b as ih =>
    intro a
    obtain ⟨h1, h2, h3⟩ := ih (a := min a b)
    refine ⟨?_, ?_, fun y m => ?_⟩
    · rw [List.foldl_cons]
      rcases h1 with h1 | h1
      · rw [h1]
        rcases Int.le_total a b with z | z
        · left; exact Int.min_eq_left z
        · right; rw [Int.min_eq_right z]; exact List.mem_cons_self
      · exact .inr (List.mem_cons_of_mem _ h1)
    · rw [List.foldl_cons]; omega
    · rw [List.foldl_cons]
      rcases List.mem_cons.mp m with rfl | m
      · omega
      · exact h3 y m
theorem minL_le {xs : List Int} {y : Int} (h : y ∈ xs) : minL xs ≤ y := by
  cases xs with
  | nil => cases h
  | cons a as =>
    rcases List.mem_cons.mp h with rfl | m
    · exact foldl_min.2.1
    · exact foldl_min.2.2 y m
theorem minL_mem {xs : List Int} (h : xs ≠ []) : minL xs ∈ xs := by
  cases xs with
  | nil => exact (h rfl).elim
  | cons a as =>
    rcases (foldl_min (as := as) (a := a)).1 with e | e
    · show as.foldl min a ∈ _; rw [e]; exact List.mem_cons_self
    · exact List.mem_cons_of_mem _ e
theorem x_chain {op op' : CmpOp} {r r' : R2} {α β γ : Type} [Enc α] [Enc β] [Enc γ] {g : α → β → Res Bool} {g' : β → γ → Res Bool} {c : Expr} {ma : Res α} {mb : Res β} {mc : Res γ} (ho : OpR X (compareOp op) r) (bi : Bi X r g) (ho' : OpR X (compareOp op') r') (bi' : Bi X r' g')
    (ha : XI X W ss a ma) (hb : XI X W ss b mb) (hc : XI X W ss c mc) (hm : lastMarks [op, op'] [b, c] = false := by with_unfolding_all rfl) :
    XI X W ss (.Compare a [op, op'] [b, c] pos) (ma.bind fun x => mb.bind fun y => (g x y).bind fun t => if t then mc.bind fun z => g' y z else .ok false) := by
  refine PE_imp (pe_chain ho ho' ha hb hc hm) fun σ H Q ⟨sl, q⟩ => ⟨sl, wpR_imp (wpR_bind q) (Same.refl H) fun x q v H1 s1 r1 => ⟨sl.mono s1 s1, wpR_imp (wpR_bind q) s1 fun y q w H2 s2 r2 => ?_⟩⟩
  refine bi.op x y v w H2 _ (Enc.mono s2 r1) r2 ?_
  have q := okR_of (wpR_bind q) (bi.nx x y)
  unfold okR at q ⊢
  cases e : g x y with
  | exc x => rw [e] at q; exact q
  | stuck => rw [e] at q; exact q
  | ok t =>
    rw [e] at q
    intro v' H3 s3 r3
    have r3 : v' = .bl t := r3
    refine ⟨t, r3, ?_⟩
    cases t with
    | false => exact q _ H3 (s1.trans (s2.trans s3)) rfl
    | true =>
      refine ⟨sl.mono (s1.trans (s2.trans s3)) (s1.trans (s2.trans s3)), wpR_imp (wpR_bind q) (s1.trans (s2.trans s3)) fun z q u H4 s4 r4 => ?_⟩
      refine bi'.op y z w u H4 Q (Enc.mono (s3.trans s4) r2) r4 ?_
      have q := okR_of q (bi'.nx y z)
      unfold okR at q ⊢
      cases e : g' y z with
      | exc x => rw [e] at q; exact q
      | stuck => rw [e] at q; exact q
      | ok t => rw [e] at q; exact fun v' H' s5 r5 => q v' H' (s1.trans (s2.trans (s3.trans (s4.trans s5)))) r5
end
end G

namespace G
open PySem PySem.Spec PyProof.Rows L2
class DKK (κ : Type) [Enc κ] [DecidableEq κ] [DK κ] where
  f : κ → Key
  inj : ∀ a b, f a = f b → a = b
  ho : ∀ kvs : List (κ × V), DK.ho kvs = hoK f kvs
  rep : ∀ {K : Frag} {H : Hp} {v : V} {k : κ}, Enc.rep K H v k → v = kV (f k)
instance : DKK Int := ⟨.inl, fun _ _ e => Sum.inl.inj e, fun _ => rfl, fun h => h⟩
instance : DKK Str := ⟨.inr, fun _ _ e => Sum.inr.inj e, fun _ => rfl, fun h => h⟩
def dofL {κ β : Type} [DecidableEq κ] (kvs : List (κ × β)) : Dic κ β := kvs.foldl (fun d kv => dput d kv.1 kv.2) ⟨[]⟩
section
variable {X : Cx} {W : WX} {ss : List Slot} {pos : Pos} {κ β : Type} [Enc κ] [DecidableEq κ] [DK κ] [DKK κ] [Enc β]
def XPP (X : Cx) (W : WX) (ss : List Slot) (pos : Pos) (keys : List (Option Expr)) (values : List Expr) (m : Res (List (κ × β))) : Prop :=
  ∃ trs, PPs X pos keys values trs ∧ ∀ σ H F Q, Same F H → Sl X.K F H ss σ → wpR X W m σ H (fun kvs => ∀ ps H' F', kvs.length = keys.length → Same H H' → Ext F H F' H' → All2 (fun (p : V × V) (kv : κ × β) => p.1 = kV (DKK.f kv.1) ∧ Enc.rep X.K F' p.2 kv.2) ps kvs → Q ps H') → tPairs trs σ H Q
theorem xpp_nil : XPP X W ss pos [] [] (.ok ([] : List (κ × β))) := ⟨[], pps_nil, fun σ H F Q sf sl q => q [] H F rfl (Same.refl H) (ext_refl sf) trivial⟩
theorem xpp_cons {k v : Expr} {ks : List (Option Expr)} {vs : List Expr} {mk : Res κ} {mv : Res β} {m : Res (List (κ × β))} (hk : XI X W ss k mk) (hv : XK X W ss v mv fr) (hr : XPP X W ss pos ks vs m) :
    XPP X W ss pos (some k :: ks) (v :: vs) (mk.bind fun x => mv.bind fun y => m.bind fun r => .ok ((x, y) :: r)) := by
  obtain ⟨trs, pp, hq⟩ := hr
  refine ⟨_, pps_cons hk hv pp, fun σ H F Q sf sl q => ⟨sl.mono sf (Same.refl H), wpR_imp (wpR_bind q) (Same.refl H) fun x q u H1 s1 r1 => ?_⟩⟩
  refine ⟨F, sf.trans s1, sl.mono (Same.refl F) s1, wpR_imp (wpR_bind q) s1 fun y q w H2 F2 G2 s2 ex2 _ ⟨w', e2, r2⟩ => ?_⟩
  cases e2
  refine hq σ H2 F2 _ ex2.sub (sl.mono ex2.le (s1.trans s2)) (wpR_imp (wpR_bind q) (s1.trans s2) fun r q ps H3 F3 hl s3 ex3 r3 => ?_)
  refine q ((u, w) :: ps) H3 F3 (by rw [List.length_cons, List.length_cons, hl]) (s1.trans (s2.trans s3)) ⟨ex2.le.trans ex3.le, ex3.sub, fun c z h => ?_⟩ ⟨⟨DKK.rep r1, Enc.mono ex3.le r2⟩, r3⟩
  rcases ex3.new c z h with y | y | y
  · rcases ex2.new c z y with y | y | y
    · exact .inl y
    · exact .inr (.inl (Same.free s1 y))
    · exact .inr (.inr y)
  · exact .inr (.inl (Same.free (s1.trans s2) y))
  · exact .inr (.inr y)
theorem xk_disp {keys : List (Option Expr)} {values : List Expr} {m : Res (List (κ × β))} (h : XPP X W ss pos keys values m) (hall : keys.all (·.isSome) = true := by rfl) (hl : keys.length = values.length := by rfl) (h0 : keys ≠ [] := by exact fun h => nomatch h)
    (h15 : keys.length ≤ 15 := by decide) : XK X W ss (.Dict keys values pos) (m.bind fun kvs => .ok (dofL kvs)) owd := by
  obtain ⟨trs, pp, hq⟩ := h
  refine PE_imp (pe_disp pp hall hl h0 h15) fun σ H Q ⟨F, sf, sl, q⟩ p hp => ?_
  have hF : F p = none := Same.free sf hp
  have sp := same_upd (o := HO.dK []) hp
  refine hq σ _ F _ (sf.trans sp) (sl.mono (Same.refl F) sp) (wpR_imp (wpR_bind q) sp fun kvs q ps H2 F2 hlen s2 ex2 r => ?_)
  have hp2 : H2 p = some (.dK []) := s2 _ _ upd_same
  -- the keys as they are held
  have go : ∀ {ps : List (V × V)} {kvs : List (κ × β)} {acc : List (κ × V)} {d : Dic κ β}, All2 (fun (p : V × V) (kv : κ × β) => p.1 = kV (DKK.f kv.1) ∧ Enc.rep X.K F2 p.2 kv.2) ps kvs → RepD X.K F2 acc d.l →
      ∃ l : List (Key × V), ps = l.map (fun kv => (kV kv.1, kv.2)) ∧ l.length = kvs.length ∧ ∃ acc' : List (κ × V), mergeK (acc.map fun kv => (DKK.f kv.1, kv.2)) l = acc'.map (fun kv => (DKK.f kv.1, kv.2)) ∧ RepD X.K F2 acc' (kvs.foldl (fun d kv => dput d kv.1 kv.2) d).l := by
    intro ps
    induction ps with
    | nil =>
      intro kvs acc d h1 h2
      cases kvs with
      | nil => exact ⟨[], rfl, rfl, acc, rfl, h2⟩
      | cons a as => exact h1.elim
    | cons p0 ps ih =>
      intro kvs acc d h1 h2
      cases kvs with
      | nil => exact h1.elim
      | cons kv kvs =>
        obtain ⟨⟨e1, r1⟩, h1⟩ := h1
        obtain ⟨l, el, ll, acc', ea, ra⟩ := ih (acc := putK acc kv.1 p0.2) (d := dput d kv.1 kv.2) h1 (repD_put h2 r1)
        refine ⟨(DKK.f kv.1, p0.2) :: l, ?_, by rw [List.length_cons, List.length_cons, ll], acc', ?_, ra⟩
        · rw [List.map_cons, ← el]
          show p0 :: ps = (kV (DKK.f kv.1), p0.2) :: ps
          rw [← e1]
        · rw [← ea, ← putK_map_key (f := DKK.f) DKK.inj acc kv.1 p0.2]
          rfl
  obtain ⟨l, el, ll, acc', ea, ra⟩ := go (acc := []) (d := ⟨[]⟩) r trivial
  refine ⟨hp2, l, el, by rw [ll, hlen]; exact h15, ?_⟩
  · rw [show mergeK [] l = acc'.map (fun kv => (DKK.f kv.1, kv.2)) from ea]
    have nF2 : F2 p = none := by
      cases e : F2 p with
      | none => rfl
      | some w =>
        rcases ex2.new p w e with z | z | z
        · rw [hF] at z; cases z
        · rw [upd_same] at z; cases z
        · have t := ex2.sub _ _ e
          rw [hp2] at t; cases t; cases z
    have sU : Same H (upd H2 p (hoK DKK.f acc')) := fun c u z => by
      rw [upd_ne (fun e => by rw [e, hp] at z; cases z)]
      exact s2 _ _ (sp _ _ z)
    refine q _ (upd H2 p (hoK DKK.f acc')) F2 (upd noHp p (hoK DKK.f acc')) sU ⟨ex2.le, fun c u z => ?_, fun c u z => ?_⟩ (fun c u z => ?_) ⟨p, acc', rfl, by rw [DKK.ho]; exact upd_same, ra⟩
    · rw [upd_ne (fun e => by rw [e, nF2] at z; cases z)]
      exact ex2.sub _ _ z
    · rcases ex2.new c u z with y | y | y
      · exact .inl y
      · exact .inr (.inl (Same.free sp y))
      · exact .inr (.inr y)
    · by_cases e : c = p
      · subst e; rw [upd_same] at z; cases z
        exact ⟨upd_same, hp, nF2, by rw [← DKK.ho]; exact DK.notT _⟩
      · rw [upd_ne e] at z; cases z
end
end G

namespace G
open PySem PySem.Spec PyProof.Rows L2
section
variable {X : Cx} {W : WX} {ss : List Slot} {pos : Pos} {a b e : Expr} {es : List Expr}
def tListR (tr : L2.St → Hp → (Int → Int → Hp → Prop) → Prop) : TE := fun σ H Q => tr σ H fun a b H1 => -(2 ^ 62) ≤ a ∧ a < 2 ^ 62 ∧ -(2 ^ 62) ≤ b ∧ b < 2 ^ 62 ∧ (b - a).toNat ≤ 1000000 ∧ ∀ p, H1 p = none → Q (.ref p) (upd H1 p (.lst ((rangeL a (b - a).toNat).map V.int)))
def inS (x y : Str) : Bool := !(Builtin.Str.occurrences y x 0 y.length 1).isEmpty
def setR {α : Type} (xs : List α) (k : Int) (a : α) : Res (List α) := match ixN xs.length k with
  | some n => .ok (xs.set n a)
  | none => .stuck
theorem s1_setI (i : Nat) {α : Type} [Enc α] {as : List α} {m : Res α} {mk : Res Int} {x : Str} {p tpos : Pos} (h : XK X W ss e m fr) (hk : XI X W ss a mk) (hs : ss[i]? = some (ow as) := by rfl) (hp : PE X (.Name x p) (tVar i) := by exact pv _)
    (hg : PG X (.Subscript (.Name x p) a tpos) (gSub (tVar i) (rI X W ss mk) rSetL)) (hsw : swapsWithSole [.Subscript (.Name x p) a tpos] e pos.line X.env = pure false := by rfl) (hw : swappedStores [.Subscript (.Name x p) a tpos] e X.env = pure none := by rfl)
    (h1 : (assignEach [.Subscript (.Name x p) a tpos] X.env).map (·.2) = [assign (.Subscript (.Name x p) a tpos) X.env] := by rfl) :
    S1 X W ss (.Assign [.Subscript (.Name x p) a tpos] e pos) (m.bind fun v => mk.bind fun k => setR as k v) (fun as' => ss.set i (ow as')) := by
  refine PS_imp (ps_asg h hg hsw hw h1) fun D σ H ⟨B, F0, F, Gs, A, q⟩ => ⟨F, A.ext.sub, A.sl, wpS_R (wpS_bind q) A.base fun v q v' H1 F1 G1 s1 ex1 _ ⟨v2, e1, rv⟩ => ?_⟩
  cases e1
  have A1 := A.grow s1 ex1
  obtain ⟨G, p, vs, hG, hσ, hp, r⟩ := all3_ow A1.all hs
  refine ⟨.ref p, hσ, A1.sl.mono A1.ext.sub (Same.refl H1), wpS_R (wpS_bind q) A1.base fun k q y H2 s2 rk => ?_⟩
  have A2 := A1.grow s2 (F' := F1) ⟨Same.refl F1, A1.ext.sub.trans s2, fun _ _ h => .inl h⟩
  have hH := A2.sub G (List.mem_of_getElem? hG) _ _ hp
  unfold setR at q
  cases en : ixN as.length k with
  | none => rw [en] at q; exact q.elim
  | some n =>
    rw [en] at q
    refine ⟨p, vs, k, n, rfl, rk, hH, by rw [r.length]; exact en, ?_⟩
    exact q _ _ _ _ (A2.put hG hσ hp (r.set n rv))
end
end G

namespace G
open PySem PySem.Spec PyProof.Rows L2
inductive Dy where
  | non | bl (b : Bool) | int (i : Int) | str (s : Str) | lst (xs : List Dy) | tup (xs : List Dy) | dic | dc
instance : Inhabited Dy := ⟨.non⟩
mutual
def dyEq : Dy → Dy → Bool
  | .non, .non => true
  | .bl a, .bl b => decide (a = b)
  | .int a, .int b => decide (a = b)
  | .str a, .str b => decide (a = b)
  | .lst a, .lst b => dyEqs a b
  | .tup a, .tup b => dyEqs a b
  | .dic, .dic => true
  | .dc, .dc => true
  | _, _ => false
def dyEqs : List Dy → List Dy → Bool
  | [], [] => true
  | a :: as, b :: bs => dyEq a b && dyEqs as bs
  | _, _ => false
end
mutual
theorem dyEq_iff : ∀ a b : Dy, dyEq a b = true ↔ a = b
  | .non, b => by cases b <;> simp [dyEq]
  | .bl a, b => by cases b <;> simp [dyEq]
  | .int a, b => by cases b <;> simp [dyEq]
  | .str a, b => by cases b <;> simp [dyEq]
  | .dic, b => by cases b <;> simp [dyEq]
  | .dc, b => by cases b <;> simp [dyEq]
  | .lst a, .lst b => by simp only [dyEq, dyEqs_iff a b, Dy.lst.injEq]
  | .tup a, .tup b => by simp only [dyEq, dyEqs_iff a b, Dy.tup.injEq]
  | .lst a, .non => by simp [dyEq]
  | .lst a, .bl _ => by simp [dyEq]
  | .lst a, .int _ => by simp [dyEq]
  | .lst a, .str _ => by simp [dyEq]
  | .lst a, .tup _ => by simp [dyEq]
  | .lst a, .dic => by simp [dyEq]
  | .lst a, .dc => by simp [dyEq]
  | .tup a, .non => by simp [dyEq]
  | .tup a, .bl _ => by simp [dyEq]
  | .tup a, .int _ => by simp [dyEq]
  | .tup a, .str _ => by simp [dyEq]
  | .tup a, .lst _ => by simp [dyEq]
  | .tup a, .dic => by simp [dyEq]
  | .tup a, .dc => by simp [dyEq]
theorem dyEqs_iff : ∀ a b : List Dy, dyEqs a b = true ↔ a = b
  | [], [] => by simp [dyEqs]
  | [], _ :: _ => by simp [dyEqs]
  | _ :: _, [] => by simp [dyEqs]
  | a :: as, b :: bs => by simp only [dyEqs, Bool.and_eq_true, dyEq_iff a b, dyEqs_iff as bs, List.cons.injEq]
end
instance : DecidableEq Dy := fun a b => if h : dyEq a b = true then .isTrue ((dyEq_iff a b).mp h) else .isFalse fun e => h ((dyEq_iff a b).mpr e)
mutual
inductive DyR (K : Frag) (H : Hp) : V → Dy → Prop
  | non : DyR K H .non .non
  | bl (b : Bool) : DyR K H (.bl b) (.bl b)
  | int (i : Int) : DyR K H (.int i) (.int i)
  | str (x : Str) : DyR K H (.str x) (.str x)
  | lst {p : Addr} {vs : List V} {xs : List Dy} : H p = some (.lst vs) → DyA K H vs xs → DyR K H (.ref p) (.lst xs)
  | tup {p : Addr} {vs : List V} {xs : List Dy} : SqT K H p vs → DyA K H vs xs → DyR K H (.ref p) (.tup xs)
  | dic {p : Addr} : H p = some (.dK []) → DyR K H (.ref p) .dic
  | dc {p : Addr} {d : List (Key × V)} : H p = some (.dK d) → DyR K H (.ref p) .dc
inductive DyA (K : Frag) (H : Hp) : List V → List Dy → Prop
  | nil : DyA K H [] []
  | cons {v : V} {vs : List V} {d : Dy} {ds : List Dy} : DyR K H v d → DyA K H vs ds → DyA K H (v :: vs) (d :: ds)
end
mutual
theorem DyR.mono {K : Frag} {H H' : Hp} (s : Same H H') : ∀ {v : V} {d : Dy}, DyR K H v d → DyR K H' v d
  | _, _, .non => .non
  | _, _, .bl b => .bl b
  | _, _, .int i => .int i
  | _, _, .str x => .str x
  | _, _, .lst h r => .lst (s _ _ h) (DyA.mono s r)
  | _, _, .tup h r => .tup (seqT s h) (DyA.mono s r)
  | _, _, .dic h => .dic (s _ _ h)
  | _, _, .dc h => .dc (s _ _ h)
theorem DyA.mono {K : Frag} {H H' : Hp} (s : Same H H') : ∀ {vs : List V} {ds : List Dy}, DyA K H vs ds → DyA K H' vs ds
  | _, _, .nil => .nil
  | _, _, .cons h t => .cons (DyR.mono s h) (DyA.mono s t)
end
instance : Enc Dy := ⟨fun K H v d => DyR K H v d, fun s h => h.mono s⟩
theorem dya_all2 {K : Frag} {H : Hp} : ∀ {vs : List V} {ds : List Dy}, DyA K H vs ds → All2 (fun v (d : Dy) => Enc.rep K H v d) vs ds
  | _, _, .nil => trivial
  | _, _, .cons h t => ⟨h, dya_all2 t⟩
theorem all2_dya {α : Type} [Enc α] {f : α → Dy} {K : Frag} {H : Hp} (hf : ∀ v a, Enc.rep K H v a → DyR K H v (f a)) : ∀ {vs : List V} {as : List α}, All2 (fun v a => Enc.rep K H v a) vs as → DyA K H vs (as.map f)
  | [], [], _ => .nil
  | _ :: _, _ :: _, ⟨h, t⟩ => .cons (hf _ _ h) (all2_dya hf t)
  | [], _ :: _, h => h.elim
  | _ :: _, [], h => h.elim
class ToDy (α : Type) [Enc α] where
  dy : α → Dy
  rep : ∀ {K : Frag} {H : Hp} {v : V} {a : α}, Enc.rep K H v a → DyR K H v (dy a)
instance : ToDy Dy := ⟨id, fun h => h⟩
instance : ToDy Int := ⟨.int, fun h => by rw [show _ = V.int _ from h]; exact .int _⟩
instance : ToDy Bool := ⟨.bl, fun h => by rw [show _ = V.bl _ from h]; exact .bl _⟩
instance : ToDy Str := ⟨.str, fun h => by rw [show _ = V.str _ from h]; exact .str _⟩
instance : ToDy Unit := ⟨fun _ => .non, fun h => by rw [show _ = V.non from h]; exact .non⟩
instance {α : Type} [Enc α] [ToDy α] : ToDy (Option α) := ⟨fun o => match o with | none => .non | some a => ToDy.dy a, fun {K H v o} h => by
  cases o with
  | none => rw [show v = V.non from h]; exact .non
  | some a => exact ToDy.rep h.2⟩
instance {α : Type} [Enc α] [ToDy α] : ToDy (List α) := ⟨fun as => .lst (as.map ToDy.dy), fun ⟨p, vs, e, h, r⟩ => by rw [e]; exact .lst h (all2_dya (fun _ _ h => ToDy.rep h) r)⟩
instance {α : Type} [Enc α] [ToDy α] : ToDy (Tup α) := ⟨fun as => .tup (as.l.map ToDy.dy), fun ⟨p, vs, e, h, r⟩ => by rw [e]; exact .tup h (all2_dya (fun _ _ h => ToDy.rep h) r)⟩
instance {α β : Type} [Enc α] [Enc β] [ToDy α] [ToDy β] : ToDy (α × β) := ⟨fun x => .tup [ToDy.dy x.1, ToDy.dy x.2], fun ⟨p, v1, v2, e, h, r1, r2⟩ => by rw [e]; exact .tup (SqT.of h) (.cons (ToDy.rep r1) (.cons (ToDy.rep r2) .nil))⟩
instance {α β γ : Type} [Enc α] [Enc β] [Enc γ] [ToDy α] [ToDy β] [ToDy γ] : ToDy (T3 α β γ) := ⟨fun x => .tup [ToDy.dy x.a, ToDy.dy x.b, ToDy.dy x.c], fun ⟨p, v1, v2, v3, e, h, r1, r2, r3⟩ => by
  rw [e]; exact .tup (SqT.of h) (.cons (ToDy.rep r1) (.cons (ToDy.rep r2) (.cons (ToDy.rep r3) .nil)))⟩
def dyI : Dy → Res Int | .int i => .ok i | _ => .stuck
def dyB : Dy → Res Bool | .bl i => .ok i | _ => .stuck
def dyS : Dy → Res Str | .str i => .ok i | _ => .stuck
def dyL : Dy → Res (List Dy) | .lst xs => .ok xs | _ => .stuck
def dyT : Dy → Res (Tup Dy) | .tup xs => .ok ⟨xs⟩ | _ => .stuck
section
variable {X : Cx} {W : WX} {ss : List Slot} {pos : Pos} {a b e : Expr} {es : List Expr}
structure Cast {β : Type} [Enc β] (c : Dy → Res β) : Prop where
  rep : ∀ {K : Frag} {H : Hp} {v : V} {d : Dy} {b : β}, c d = .ok b → DyR K H v d → Enc.rep K H v b
  nox : ∀ d, NoX (c d)
def dyTy : Dy → String
  | .non => "NoneType"
  | .bl _ => "bool"
  | .int _ => "int"
  | .str _ => "str"
  | .lst _ => "list"
  | .tup _ => "tuple"
  | .dic => "dict"
  | .dc => "dict"
def dyIs (T : String) (d : Dy) : Bool := dyTy d == T || (dyTy d == "bool" && T == "int")
structure IsT (T : String) : Prop where
  ok : ∀ d, kitB (dyTy d) T = some (dyIs T d)
def tyNames : List String := ["NoneType", "bool", "int", "str", "list", "tuple", "dict"]
def dyNon : Dy → Bool | .non => true | _ => false
def dyLen : Dy → Res Int
  | .lst xs => .ok (xs.length : Int)
  | .tup xs => .ok (xs.length : Int)
  | .str x => strLen x
  | _ => .stuck
end
end G

namespace G
open PySem PySem.Spec PyProof.Rows L2
section
variable {X : Cx} {W : WX} {ss : List Slot} {pos : Pos} {a b c e : Expr} {es : List Expr}
def dyIx (d : Dy) (i : Int) : Res Dy := match d with
  | .lst xs => idx xs i
  | .tup xs => idx xs i
  | .str x => (strIx x i).bind fun s => .ok (.str s)
  | _ => .stuck
def rL (X : Cx) (W : WX) {α : Type} [Enc α] (ss : List Slot) (m : Res (List α)) : TE := fun σ H Q =>
  ∃ F, Same F H ∧ Sl X.K F H ss σ ∧ wpR X W m σ H fun as => ∀ p vs H' F', Same H H' → Ext F H F' H' → H' p = some (.lst vs) → All2 (fun v a => Enc.rep X.K F' v a) vs as → Q (.ref p) H'
def XL (X : Cx) (W : WX) {α : Type} [Enc α] (ss : List Slot) (e : Expr) (m : Res (List α)) : Prop := PE X e (rL X W ss m)
theorem xl_fr {α : Type} [Enc α] {m : Res (List α)} (h : XK X W ss e m fr) : XL X W ss e m :=
  PE_imp h fun σ H Q ⟨F, sf, sl, q⟩ => ⟨F, sf, sl, wpR_imp q (Same.refl H) fun as q v H' F' G' s ex _ ⟨v', e1, p, vs, e2, hp, r⟩ => by
    cases e1; subst e2
    exact q p vs H' F' s ex (ex.sub _ _ hp) r⟩
theorem xl_own {α : Type} [Enc α] {m : Res (List α)} (h : XK X W ss e m ow) : XL X W ss e m :=
  PE_imp h fun σ H Q ⟨F, sf, sl, q⟩ => ⟨F, sf, sl, wpR_imp q (Same.refl H) fun as q v H' F' G' s ex pr ⟨p, vs, e1, hp, r⟩ => by
    cases e1
    exact q p vs H' F' s ex (pr _ _ hp).1 r⟩
theorem xk_catL {α : Type} [Enc α] {m m' : Res (List α)} (h : XL X W ss a m) (h' : XL X W ss b m') : XK X W ss (.BinOp a .Add b pos) (m.bind fun xs => m'.bind fun ys => catR xs ys) ow :=
  PE_imp (pe_op op_cat h h') fun σ H Q ⟨F, sf, sl, q⟩ => ⟨F, sf, sl, wpR_imp (wpR_bind q) (Same.refl H) fun xs q p vs H1 F1 s1 ex1 hp rv => ⟨F1, ex1.sub, sl.mono ex1.le s1, wpR_imp (wpR_bind q) s1 fun ys q p' ws H2 F2 s2 ex2 hp' rw' => by
    obtain ⟨g, q⟩ := wpR_guard q
    exact ⟨p, p', vs, ws, rfl, rfl, s2 _ _ hp, hp', by rw [rv.length, rw'.length]; exact big_line g, fun o ho => new_ow (s1.trans s2) (ex1.trans s1 ex2) ho (All2.append (rv.mono ex2.le) rw') q⟩⟩⟩
theorem xk_sliceL {α : Type} [Enc α] {lo hi : Option Expr} {p2 : Pos} {m : Res (List α)} {ml mh : Res (Option Int)} (h : XL X W ss a m) (hl : XO X W ss lo ml) (hh : XO X W ss hi mh) :
    XK X W ss (.Subscript a (.Slice lo hi none p2) pos) (m.bind fun xs => ml.bind fun l => mh.bind fun u => .ok (cut xs l u)) ow :=
  PE_imp (pe_slice sl_list h hl hh) fun σ H Q ⟨F, sf, sl, q⟩ => ⟨F, sf, sl, wpR_imp (wpR_bind q) (Same.refl H) fun xs q p vs H1 F1 s1 ex1 hp rv => ⟨(sl.mono sf (Same.refl H)).mono s1 s1, wpR_imp (wpR_bind q) s1 fun l q H2 s2 =>
    ⟨(sl.mono sf (Same.refl H)).mono (s1.trans s2) (s1.trans s2), wpR_imp (wpR_bind q) (s1.trans s2) fun u q H3 s3 => by
    have s13 := s1.trans (s2.trans s3)
    exact ⟨p, vs, rfl, SqL.of (s3 _ _ (s2 _ _ hp)), fun o ho => new_ow s13 ⟨ex1.le, ex1.sub.trans (s2.trans s3), ex1.new⟩ ho (cut_all2 rv l u) q⟩⟩⟩⟩
theorem pa_xl {α : Type} [Enc α] {m : Res (List α)} (h : XL X W ss a m) (he : starEach [a] X.env = (false, eval a X.env) :: starEach [] X.env := by rfl) : PA X [a] (fun σ H Q => ∃ F, Same F H ∧ Sl X.K F H ss σ ∧ wpR X W m σ H fun as => ∀ p vs H' F', Same H H' → Ext F H F' H' → H' p = some (.lst vs) → All2 (fun v a => Enc.rep X.K F' v a) vs as → Q [.ref p] H') :=
  PA_imp (pa_cons h pa_nil he) fun σ H Q ⟨F, sf, sl, q⟩ => ⟨F, sf, sl, wpR_imp q (Same.refl H) fun as q p vs H' F' s ex hp r => q p vs H' F' s ex hp r⟩
theorem xk_ixLL {α : Type} [Enc α] {m1 : Res (List α)} {m2 : Res Int} (h1 : XL X W ss a m1) (h2 : XI X W ss b m2) (hs : PlainIx b := by exact fun _ _ => rfl) : XK X W ss (.Subscript a b pos) (m1.bind fun xs => m2.bind fun i => idx xs i) fr := by
  refine PE_imp (pe_ix ix_list h1 h2 hs) fun σ H Q ⟨F, sf, sl, q⟩ => ⟨F, sf, sl, wpR_imp (wpR_bind q) (Same.refl H) fun xs q p vs H1 F1 s1 ex1 hp r => ?_⟩
  refine ⟨(sl.mono sf (Same.refl H)).mono s1 s1, wpR_imp (wpR_bind q) s1 fun i q w H2 s2 e2 => ?_⟩
  unfold idx at q
  cases e : atI xs i with
  | none => rw [e] at q; exact q.elim
  | some x =>
    rw [e] at q
    obtain ⟨u, hu, ru⟩ := atI_all2 r e
    refine ⟨p, vs, i, u, rfl, e2, SqL.of (s2 _ _ hp), hu, ?_⟩
    exact q u H2 F1 noHp (s1.trans s2) ⟨ex1.le, ex1.sub.trans s2, ex1.new⟩ priv_no ⟨u, rfl, ru⟩
def tChain3 (r r' r'' : R2) (ta tb tc td : TE) : TE := fun σ H Q => ta σ H fun x H1 => tb σ H1 fun y H2 => r x y H2 fun z H3 => ∃ k, z = .bl k ∧ (if k = true then tc σ H3 fun w H4 => r' y w H4 fun z' H5 => ∃ k', z' = .bl k' ∧ (if k' = true then td σ H5 fun u H6 => r'' w u H6 Q else Q (.bl false) H5) else Q (.bl false) H3)
structure GInt (mg : Str → Option Value) (x : Str) (i : Int) : Prop where
  ex : ∃ t, mg x = some (.int i t)
structure GTup (K : Frag) (mg : Str → Option Value) (x : Str) {α : Type} [Enc α] (as : Tup α) : Prop where
  ex : ∃ p vs, mg x = some (.ref p) ∧ (∀ H, SqT K H p vs) ∧ ∀ H, All2 (fun v a => Enc.rep K H v a) vs as.l
end
end G

namespace G
open PySem PySem.Spec PyProof.Rows L2
mutual
def dyPy : Dy → PyData
  | .non => .none
  | .bl b => .bool b
  | .int i => .int i
  | .str x => .str x
  | .lst xs => .list (dyPys xs)
  | .tup xs => .tuple (dyPys xs)
  | .dic => .dict []
  | .dc => .dict []
def dyPys : List Dy → List PyData
  | [] => []
  | a :: as => dyPy a :: dyPys as
end
mutual
def noDic : Dy → Bool
  | .lst xs => noDics xs
  | .tup xs => noDics xs
  | .dic => false
  | .dc => false
  | _ => true
def noDics : List Dy → Bool
  | [] => true
  | a :: as => noDic a && noDics as
end
mutual
def dyDep : Dy → Nat
  | .lst xs => dyDeps xs + 1
  | .tup xs => dyDeps xs + 1
  | .dic => 1
  | .dc => 61
  | _ => 0
def dyDeps : List Dy → Nat
  | [] => 0
  | a :: as => max (dyDep a) (dyDeps as)
end
mutual
theorem dy_dp {K : Frag} {H : Hp} : ∀ {d : Dy} {v : V}, noDic d = true → DyR K H v d → Dp K H v (dyPy d)
  | .non, _, _, h => by cases h; simp only [dyPy]; exact .non
  | .bl b, _, _, h => by cases h; simp only [dyPy]; exact .bl b
  | .int i, _, _, h => by cases h; simp only [dyPy]; exact .int i
  | .str x, _, _, h => by cases h; simp only [dyPy]; exact .str x
  | .lst xs, _, n, h => by
    cases h with
    | lst h r => simp only [dyPy]; simp only [noDic] at n; exact .lst (SqL.of h) (dy_dps n r)
  | .tup xs, _, n, h => by
    cases h with
    | tup h r => simp only [dyPy]; simp only [noDic] at n; exact .tup h (dy_dps n r)
  | .dic, _, n, _ => by simp [noDic] at n
  | .dc, _, n, _ => by simp [noDic] at n
theorem dy_dps {K : Frag} {H : Hp} : ∀ {ds : List Dy} {vs : List V}, noDics ds = true → DyA K H vs ds → DpAll K H vs (dyPys ds)
  | [], _, _, h => by cases h; simp only [dyPys]; exact .nil
  | d :: ds, _, n, h => by
    cases h with
    | cons h r =>
      simp only [noDics, Bool.and_eq_true] at n
      simp only [dyPys]
      exact .cons (dy_dp n.1 h) (dy_dps n.2 r)
end
section
variable {X : Cx} {pins : List (Addr × Obj)} {σ : L2.St} {H : Hp} {s : Shared}
open PySem.SeqAt (EqAt RcAt RcNeAt)
theorem vals_get {vs : List V} {us : List Value} (r : Vals vs us) {j : Nat} (h : j < us.length) : ∃ v, vs[j]? = some v ∧ RelV v us[j] := by
  have hl : j < vs.length := by rw [r.length]; exact h
  obtain ⟨u, hu, ru⟩ := r.get (List.getElem?_eq_getElem hl)
  rw [List.getElem?_eq_getElem h] at hu
  cases hu
  exact ⟨_, List.getElem?_eq_getElem hl, ru⟩
theorem dict0_any {P P' : Program} {w w' : World} {h : Heap} {a : Addr} (d : h.DictOf (mixKind P w) a []) : h.DictOf (mixKind P' w') a [] := by
  obtain ⟨o, es, ep, ho, ex, hd, hk, hp, nd⟩ := d
  have e : es.toList = [] := by cases h : es.toList with
    | nil => rfl
    | cons a l => rw [h] at hp; cases hp
  have e : es = #[] := by cases es; simpa using e
  subst e
  exact ⟨o, #[], ep, ho, ex, hd, by intro i h; simp at h, .nil, .nil⟩
def Alike (s : Shared) (n : Nat) (u u' : Value) : Prop := ∀ A : Around, A.units + n < cLine → EqAt A s u u' true
theorem alike_lists {n : Nat} {l l' : Addr} {vs vs' : List Value} (hl : s.heap.IsList l vs.toArray) (hl' : s.heap.IsList l' vs'.toArray) (hsz : vs.length = vs'.length) (h : ∀ j (h1 : j < vs.length) (h2 : j < vs'.length), Alike s n vs[j] vs'[j]) {A : Around} (hu : A.units + (n + 1) < cLine) :
    RcAt A s (.ref l) (.ref l') true ∧ RcNeAt A s (.ref l) (.ref l') false := by
  have he : ∀ j (h1 : j < vs.toArray.size) (h2 : j < vs'.toArray.size), EqAt A.in1 s vs.toArray[j] vs'.toArray[j] ((fun _ => true) j) := fun j h1 h2 => by
    have := h j (by simpa using h1) (by simpa using h2) A.in1 (by show A.units + 1 + n < cLine; omega)
    simpa using this
  have z : ((List.range vs.toArray.size).all fun _ => true) = true := List.all_eq_true.mpr fun _ _ => rfl
  refine ⟨?_, ?_⟩
  · have := RcAt.lists hl hl' (by simpa using hsz) (by omega) he
    rwa [z] at this
  · have := RcNeAt.lists hl hl' (by simpa using hsz) (by omega) he
    rwa [z] at this
theorem alike_tuples {n : Nat} {l l' : Addr} {vs vs' : List Value} (hl : s.heap.IsTuple l vs.toArray) (hl' : s.heap.IsTuple l' vs'.toArray) (hsz : vs.length = vs'.length) (h : ∀ j (h1 : j < vs.length) (h2 : j < vs'.length), Alike s n vs[j] vs'[j]) {A : Around} (hu : A.units + (n + 1) < cLine) :
    RcAt A s (.ref l) (.ref l') true ∧ RcNeAt A s (.ref l) (.ref l') false := by
  have he : ∀ j (h1 : j < vs.toArray.size) (h2 : j < vs'.toArray.size), EqAt A.in1 s vs.toArray[j] vs'.toArray[j] ((fun _ => true) j) := fun j h1 h2 => by
    have := h j (by simpa using h1) (by simpa using h2) A.in1 (by show A.units + 1 + n < cLine; omega)
    simpa using this
  have z : (((List.range (min vs.toArray.size vs'.toArray.size)).all fun _ => true) && vs.toArray.size == vs'.toArray.size) = true := by
    rw [List.all_eq_true.mpr fun _ _ => rfl]; simpa using hsz
  refine ⟨?_, ?_⟩
  · have := RcAt.tuples hl hl' (by omega) he
    rwa [z] at this
  · have := RcNeAt.tuples hl hl' (by omega) he
    rwa [z] at this
mutual
theorem dy_same (I : Inv X pins σ H s) : ∀ (d : Dy) (v v' : V) (u u' : Value) (n : Nat), DyR X.K H v d → DyR X.K H v' d → RelV v u → RelV v' u' → dyDep d ≤ n → n ≤ 60 → Alike s n u u'
  | .non, _, _, u, u', n, h, h', r, r', _, _ => by
    cases h; cases h'
    have r : u = .none := r
    have r' : u' = .none := r'
    subst r; subst r'; exact fun A _ => EqAt.same _
  | .bl b, _, _, u, u', n, h, h', r, r', _, _ => by
    cases h; cases h'
    have r : u = .bool b := r
    have r' : u' = .bool b := r'
    subst r; subst r'; exact fun A _ => EqAt.same _
  | .int i, _, _, u, u', n, h, h', r, r', _, _ => by
    cases h; cases h'
    obtain ⟨t, rfl⟩ := (show ∃ t, u = Value.int i t from r)
    obtain ⟨t', rfl⟩ := (show ∃ t, u' = Value.int i t from r')
    intro A _
    have := EqAt.int_int (A := A) (s := s) i t i t'
    rwa [show (i == i) = true from beq_self_eq_true i] at this
  | .str x, _, _, u, u', n, h, h', r, r', _, _ => by
    cases h; cases h'
    obtain ⟨t, rfl⟩ := (show ∃ t, u = Value.str x t from r)
    obtain ⟨t', rfl⟩ := (show ∃ t, u' = Value.str x t from r')
    intro A _
    have := EqAt.str_str (A := A) (s := s) x t x t'
    rwa [show (x == x) = true from beq_self_eq_true x] at this
  | .lst xs, _, _, u, u', n, h, h', r, r', hn, h6 => by
    intro A hu
    cases h with
    | @lst p vs _ h ha =>
    cases h' with
    | @lst p' vs' _ h' ha' =>
    cases r; cases r'
    by_cases e : p = p'
    · subst e; exact EqAt.same _
    · simp only [dyDep] at hn
      obtain ⟨m, rfl⟩ : ∃ m, n = m + 1 := ⟨n - 1, by omega⟩
      obtain ⟨its, r1, p1, _⟩ := I.list (SqL.of h)
      obtain ⟨its', r2, p2, _⟩ := I.list (SqL.of h')
      have l1 := (dya_all2 ha).length
      have l2 := (dya_all2 ha').length
      have l3 := r1.length
      have l4 := r2.length
      exact EqAt.of_refs e (alike_lists (n := m) p1.isList p2.isList (by omega) (fun j h1 h2 => by
        obtain ⟨v, hv, rv⟩ := vals_get r1 h1
        obtain ⟨v', hv', rv'⟩ := vals_get r2 h2
        exact dy_sames I xs vs vs' j v v' _ _ m ha ha' hv hv' rv rv' (by omega) (by omega)) hu).1
  | .tup xs, _, _, u, u', n, h, h', r, r', hn, h6 => by
    intro A hu
    cases h with
    | @tup p vs _ h ha =>
    cases h' with
    | @tup p' vs' _ h' ha' =>
    cases r; cases r'
    by_cases e : p = p'
    · subst e; exact EqAt.same _
    · simp only [dyDep] at hn
      obtain ⟨m, rfl⟩ : ∃ m, n = m + 1 := ⟨n - 1, by omega⟩
      obtain ⟨its, r1, p1, _⟩ := I.tuple h
      obtain ⟨its', r2, p2, _⟩ := I.tuple h'
      have l1 := (dya_all2 ha).length
      have l2 := (dya_all2 ha').length
      have l3 := r1.length
      have l4 := r2.length
      exact EqAt.of_refs e (alike_tuples (n := m) p1 p2 (by omega) (fun j h1 h2 => by
        obtain ⟨v, hv, rv⟩ := vals_get r1 h1
        obtain ⟨v', hv', rv'⟩ := vals_get r2 h2
        exact dy_sames I xs vs vs' j v v' _ _ m ha ha' hv hv' rv rv' (by omega) (by omega)) hu).1
  | .dic, _, _, u, u', n, h, h', r, r', hn, h6 => by
    intro A hu
    cases h with
    | @dic p h =>
    cases h' with
    | @dic p' h' =>
    cases r; cases r'
    by_cases e : p = p'
    · subst e; exact EqAt.same _
    · simp only [dyDep] at hn
      obtain ⟨_, y1, vs1, k1, d1⟩ := dk_of I.hok h
      obtain ⟨_, y2, vs2, k2, d2⟩ := dk_of I.hok h'
      have e1 : vs1 = [] := List.eq_nil_of_length_eq_zero (by rw [← k1.length]; rfl)
      have e2 : vs2 = [] := List.eq_nil_of_length_eq_zero (by rw [← k2.length]; rfl)
      subst e1; subst e2
      refine EqAt.of_refs e fun P w E Q q => ?_
      exact PySem.W.keq_eqIn (knd := mixKind P w) (r := true) y1 y2 (dict0_any d1) (dict0_any d2) (by omega) (fun _ => .nil) q
  | .dc, _, _, u, u', n, h, h', r, r', hn, h6 => by
    simp only [dyDep] at hn; omega
theorem dy_sames (I : Inv X pins σ H s) : ∀ (ds : List Dy) (vs vs' : List V) (j : Nat) (v v' : V) (u u' : Value) (n : Nat), DyA X.K H vs ds → DyA X.K H vs' ds → vs[j]? = some v → vs'[j]? = some v' → RelV v u → RelV v' u' → dyDeps ds ≤ n → n ≤ 60 → Alike s n u u'
  | [], _, _, j, v, v', u, u', n, h, h', e, e', r, r', hn, h6 => by cases h; simp at e
  | d :: ds, _, _, 0, v, v', u, u', n, h, h', e, e', r, r', hn, h6 => by
    cases h with
    | cons h _ =>
    cases h' with
    | cons h' _ =>
    simp only [dyDeps] at hn
    cases e; cases e'
    exact dy_same I d _ _ u u' n h h' r r' (by omega) h6
  | d :: ds, _, _, j + 1, v, v', u, u', n, h, h', e, e', r, r', hn, h6 => by
    cases h with
    | cons _ h =>
    cases h' with
    | cons _ h' =>
    simp only [dyDeps] at hn
    exact dy_sames I ds _ _ j v v' u u' n h h' e e' r r' (by omega) h6
end
end
section
variable {X : Cx}
def rSame (K : Frag) (eq : Bool) : R2 := fun x y H Q => ∃ d, DyR K H x d ∧ DyR K H y d ∧ dyDep d ≤ 60 ∧ Q (.bl eq) H
def eqDy (d e : Dy) : Res Bool := if d = e ∧ dyDep d ≤ 60 then .ok true else guardR (noDic d && noDic e && SeqAt.shaped (dyPy d) && SeqAt.shaped (dyPy e)) (.ok (PyData.eqv (dyPy d) (dyPy e)))
def neDy (d e : Dy) : Res Bool := if d = e ∧ dyDep d ≤ 60 then .ok false else guardR (noDic d && noDic e && SeqAt.shaped (dyPy d) && SeqAt.shaped (dyPy e)) (.ok (!PyData.eqv (dyPy d) (dyPy e)))
end
end G

namespace G
open PySem PySem.Spec PyProof.Rows L2
def repS (x : Str) (k : Int) : Str := ⟨((List.replicate k.toNat x.cps.toList).flatten).toArray⟩
def mulS (x : Str) (k : Int) : Res Str := guardR (decide (0 ≤ k) && decide (k ≤ 1000000) && big (x.length * k.toNat)) (.ok (repS x k))
structure I2 where
  a : Int
  b : Int
instance : Enc I2 := ⟨fun K H v x => ∃ p, v = .ref p ∧ SqT K H p [.int x.a, .int x.b], fun s ⟨p, e, h⟩ => ⟨p, e, seqT s h⟩⟩
def dyI2 : Dy → Res I2 | .tup [.int a, .int b] => .ok ⟨a, b⟩ | _ => .stuck
def rGeT (K : Frag) : R2 := fun x y H Q => ∃ (a b : Addr) (i j k l : Int), x = .ref a ∧ y = .ref b ∧ SqT K H a [.int i, .int j] ∧ SqT K H b [.int k, .int l] ∧ Q (.bl (leP (k, l) (i, j))) H
section
variable {X : Cx} {W : WX} {ss : List Slot} {pos : Pos} {a b c e : Expr} {es : List Expr}
end
end G

namespace G
open PySem PySem.Spec PyProof.Rows L2
theorem vals_of_get : ∀ {vs : List V} {us : List Value}, vs.length = us.length → (∀ (j : Nat) (v : V) (u : Value), vs[j]? = some v → us[j]? = some u → RelV v u) → Vals vs us
  | [], [], _, _ => .nil
  | v :: vs, u :: us, l, h => .cons (h 0 v u rfl rfl) (vals_of_get (Nat.succ.inj l) fun j a b x y => h (j + 1) a b x y)
  | [], _ :: _, l, _ => by cases l
  | _ :: _, [], l, _ => by cases l
theorem vals_signs {x : Str} {acc : Array Value} (h : ItemsOf (SignAt x) acc x.cps.size) : Vals ((signsOf x).map V.str) acc.toList := by
  refine vals_of_get ?_ fun j v u hv hu => ?_
  · rw [List.length_map]; unfold signsOf
    rw [List.length_map, Array.length_toList, Array.length_toList, h.1]
  · obtain ⟨c, t, hc, rfl⟩ := h.2 j u (by rw [← Array.getElem?_toList]; exact hu)
    unfold signsOf at hv
    rw [List.getElem?_map, List.getElem?_map, Array.getElem?_toList, hc] at hv
    cases hv
    exact ⟨t, rfl⟩
theorem signsOf_len (x : Str) : (signsOf x).length = x.length := by unfold signsOf; rw [List.length_map, Array.length_toList]; rfl
section
variable {X : Cx}
theorem call_listStr (hc : X.calm = true) : CallR X (.type "list") (fun xs H Q => ∃ x, xs = [.str x] ∧ x.length ≤ sizeLine ∧ ∀ p, H p = none → Q (.ref p) (upd H p (.lst ((signsOf x).map V.str)))) := by
  intro pins s σ H xs us Q I r h
  obtain ⟨x, rfl, hx, q⟩ := h
  obtain ⟨u, rfl, rx⟩ := vals1 r
  obtain ⟨t, rfl⟩ := (show ∃ t, u = Value.str x t from rx)
  refine call_list_str (I.ok.hd hc) x t (hn := hx) fun h' tk acc c kp hD hI => ?_
  have hv := vals_signs hI
  have hz : ((signsOf x).map V.str).length ≤ sizeLine := by rw [List.length_map, signsOf_len]; exact hx
  have hg : h'.get? s.heap.objs.size = some { cls := .type "list", dict := none, data := .seq acc.toList.toArray c, slots := #[] } := by rw [Array.toArray_toList]; exact hD
  exact ⟨.ref s.heap.objs.size, _, I.laid (t' := tk) kp (Nat.le_refl _) (show ObjOk X.prog X.w _ h' _ (.lst _) from ⟨hz, acc.toList, c, hv, hg⟩), rfl, q _ (I.hok.fresh (Nat.le_refl _))⟩
variable {W : WX} {ss : List Slot} {pos : Pos} {a : Expr}
def listS (x : Str) : Res (List Str) := guardR (big x.length) (.ok (signsOf x))
theorem xk_listS {m : Res Str} {p : Pos} (h : XI X W ss a m) (hm : X.mg "list" = none) (hc : X.calm = true := by rfl) (hg : Gl X "list" := by rfl) (he : starEach [a] X.env = (false, eval a X.env) :: starEach [] X.env := by rfl) :
    XK X W ss (.Call (.Name "list" p) [a] [] pos) (m.bind listS) ow :=
  PE_imp (pe_callTy (call_listStr hc) hg hm (by decide +kernel) (pa_cons h pa_nil he) (by decide) (by decide) he rfl) fun σ H Q ⟨F, sf, sl, q⟩ => ⟨sl.mono sf (Same.refl H), wpR_imp (wpR_bind q) (Same.refl H) fun x q v H1 s1 r1 => by
    obtain ⟨g, q⟩ := wpR_guard q
    exact ⟨x, by rw [show v = V.str x from r1], big_line g, fun o ho => new_owI sf s1 ho (All2.of_map (f := V.str)) q⟩⟩
end
end G

namespace G
open PySem PySem.Spec PyProof.Rows L2
def rangeC (lo c : Int) (n : Nat) : List Int := (List.range n).map fun (i : Nat) => lo + (i : Int) * c
def range3 (i j c : Int) : Res (List Int) := guardR (decide (c ≠ 0) && decide (c.natAbs < 1073741824) && Builtin.Range.small i j c && decide (0 ≤ Builtin.Range.rangeSize i j c)) (.ok (rangeC i c (Builtin.Range.rangeSize i j c).toNat))
section
variable {X : Cx} {W : WX} {ss : List Slot} {tg : Expr}
end
end G
namespace G
open PySem PySem.Spec PyProof.Rows L2
def cutC {α : Type} (xs : List α) (lo hi : Option Int) (c : Int) : List α :=
  (sliceRange (sliceBounds lo hi (some c) xs.length).1 (sliceBounds lo hi (some c) xs.length).2.1 (sliceBounds lo hi (some c) xs.length).2.2).filterMap (xs[·]?)
section
variable {X : Cx}
def tSlC (K : Frag) (c : Int) (te : TE) (tl th : TO) : TE := fun σ H Q => te σ H fun x H1 => tl σ H1 fun l H2 => th σ H2 fun u H3 => ∃ a xs, x = .ref a ∧ SqL K H3 a xs ∧ (cutC xs l u c).length ≤ sizeLine ∧ ∀ p, H3 p = none → Q (.ref p) (upd H3 p (.lst (cutC xs l u c)))
variable {W : WX} {ss : List Slot} {pos : Pos} {a : Expr}
end
end G
namespace G
open PySem PySem.Spec PyProof.Rows L2
section
variable {X : Cx} {W : WX} {ss : List Slot} {sts : List Stmt}
theorem st_stuck {R : Type} {e : Bool} {kr : R → Slot} : ST X W e ss sts (Res.stuck : Res R) kr := ⟨fun pins s σ H D I ⟨_, _, _, _, _, q⟩ => q.2.elim⟩
end
end G

namespace G
open PySem PySem.Spec PyProof.Rows L2
section
variable {X : Cx} {W : WX} {ss : List Slot}
end
end G

namespace G
open PySem PySem.Spec PyProof.Rows L2
abbrev ETab := List (Str × Bool)
def lookB : ETab → Str → Option Bool
  | [], _ => none
  | (k, b) :: r, n => if n = k then some b else lookB r n
def noX {α : Type} : Res α → Res α
  | .ok a => .ok a
  | .exc _ => .stuck
  | .stuck => .stuck
abbrev Hds (β : Type) := List (ETab × (Exn → Res β))
def pickR {β : Type} (x : Exn) : Hds β → Res β
  | [] => .exc x
  | (t, M) :: r => match lookB t x.cls with
    | none => .stuck
    | some true => noX (M x)
    | some false => pickR x r
def catchR {β : Type} (m : Res β) (hs : Hds β) : Res β := match m with
  | .ok b => .ok b
  | .exc x => pickR x hs
  | .stuck => .stuck
def Pay.isNo : Pay → Bool
  | .no => true
  | _ => false
def isE (t : ETab) (x : Exn) : Res Bool := if x.pay.isNo = true then (match lookB t x.cls with
  | some b => .ok b
  | none => .stuck) else .stuck
def vB : List Value := [.type "ValueError", .type "Exception", .type "BaseException", .type "object"]
structure Cl (K : Frag) (mg : PySem.Str → Option Value) (n : Str) (C : Addr) : Prop where
  g : mg n = some (.ref C)
  k : PySem.W.keepIn K (.ref C) = true
  b : PySem.W.subIn K (.ref C) (.type "BaseException") = some true
  t : PySem.W.typeIn K (.ref C) = some (.type "type")
  i : PySem.W.isClsIn K C = true
  e : ExcC K C
  s : PySem.W.subIn K (.ref C) (.ref C) = some true
def HasCl (K : Frag) (mg : PySem.Str → Option Value) (n : Str) : Prop := ∃ C, Cl K mg n C ∧ PySem.W.excIn K C vB "ValueError.__new__" = true
def CTab (K : Frag) (mg : PySem.Str → Option Value) (y : Str) (tab : ETab) : Prop := ∃ Y, mg y = some (.ref Y) ∧ ∀ n b, lookB tab n = some b → ∃ C, mg n = some (.ref C) ∧ PySem.W.exmOne K (.ref C) (.ref Y) = some b
def ITab (K : Frag) (mg : PySem.Str → Option Value) (y : Str) (tab : ETab) : Prop := ∃ (v : V) (cv : Value), (mg y = some cv ∨ mg y = none ∧ bootBuiltins y = some cv ∧ y ≠ "__name__") ∧ RelV v cv ∧ (∀ u, RelV v u → u = cv) ∧ ∀ n b, lookB tab n = some b → ∃ C, mg n = some (.ref C) ∧ ExcC K C ∧ PySem.W.kitOne K (.ref C) cv = some b
theorem exm_cl {K : Frag} {mg : PySem.Str → Option Value} {n y : Str} {C Y : Addr} {b : Bool} (c : Cl K mg n C) (d : Cl K mg y Y) (s : PySem.W.subIn K (.ref C) (.ref Y) = some b) : PySem.W.exmOne K (.ref C) (.ref Y) = some b := PySem.W.exm_ref d.b d.e.hd d.t s
theorem ctab_mk {K : Frag} {mg : PySem.Str → Option Value} {y : Str} {Y : Addr} {tab : ETab} (d : Cl K mg y Y) (h : ∀ n b, lookB tab n = some b → ∃ C, Cl K mg n C ∧ PySem.W.subIn K (.ref C) (.ref Y) = some b) : CTab K mg y tab := by
  refine ⟨Y, d.g, fun n b e => ?_⟩
  obtain ⟨C, c, s⟩ := h n b e
  exact ⟨C, c.g, exm_cl c d s⟩
theorem tabs_nil {K : Frag} {mg : PySem.Str → Option Value} {v : Value} : ∀ n b, lookB [] n = some b → ∃ C, Cl K mg n C ∧ PySem.W.subIn K (.ref C) v = some b := fun _ _ h => nomatch h
theorem tabs_cons {K : Frag} {mg : PySem.Str → Option Value} {v : Value} {tab : ETab} {m : Str} {c : Bool} {D : Addr} (d : Cl K mg m D) (s : PySem.W.subIn K (.ref D) v = some c) (r : ∀ n b, lookB tab n = some b → ∃ C, Cl K mg n C ∧ PySem.W.subIn K (.ref C) v = some b) :
    ∀ n b, lookB ((m, c) :: tab) n = some b → ∃ C, Cl K mg n C ∧ PySem.W.subIn K (.ref C) v = some b := fun n b h => by
  unfold lookB at h
  by_cases e : n = m
  · rw [if_pos e] at h
    cases h
    subst e
    exact ⟨D, d, s⟩
  · rw [if_neg e] at h
    exact r n b h
section
variable {X : Cx} {W : WX} {ss : List Slot} {rest : List Stmt}
def tRs (X : Cx) (W : WX) (n : Str) : TS := fun _ σ H => ∀ cls, X.mg n = some cls → W cls none σ H
theorem ps_rs {n m : Str} {j : Nat} {p p2 pos pos' : Pos} (c : HasCl X.K X.mg n) (tk : Takes X W) (hc : X.calm = true := by rfl) (hg : Gl X n := by rfl) (hdb : (n == ("__debug__" : Str)) = false := by decide) :
    PS X (.Raise (some (.Call (.Name n p) [.Constant (.str m) j p2] [] pos)) none pos') (tRs X W n) := by
  obtain ⟨C, c, cx⟩ := c
  exact PS_imp (ps_raise hc tk (pmk_own PySem.F.excBase_ValueError cx c.g c.k (raises_own c.b c.t) hg hdb)) fun D σ H q => q _ c.g
theorem rs_core {n m : Str} {j : Nat} {p p2 pos pos' : Pos} (c : HasCl X.K X.mg n) (tk : Takes X W) (hc : X.calm = true := by rfl) (hg : Gl X n := by rfl) (hdb : (n == ("__debug__" : Str)) = false := by decide) :
    PSs X (.Raise (some (.Call (.Name n p) [.Constant (.str m) j p2] [] pos)) none pos' :: rest) (tRs X W n) :=
  rest_free (ps_rs c tk hc hg hdb) fun _ _ _ _ _ _ _ q => q
theorem rs_wish {n : Str} {B σ H} (q : EXS X W B ⟨n, .no⟩) (s : Same B H) : tRs X W n D σ H := fun cls e => q σ cls none H e s rfl
theorem st_raise {R : Type} {ee : Bool} {kr : R → Slot} {n m : Str} {j : Nat} {p p2 pos pos' : Pos} (c : HasCl X.K X.mg n) (tk : Takes X W) (hc : X.calm = true := by rfl) (hg : Gl X n := by rfl) (hdb : (n == ("__debug__" : Str)) = false := by decide) :
    ST X W ee ss (.Raise (some (.Call (.Name n p) [.Constant (.str m) j p2] [] pos)) none pos' :: rest) (.exc ⟨n, .no⟩ : Res R) kr :=
  PSs_imp (rs_core c tk hc hg hdb) fun D σ H ⟨B, F0, F, Gs, A, q⟩ => rs_wish q.2 A.base
theorem sn_raise {S : Type} {post : S → List Slot} {n m : Str} {j : Nat} {p p2 pos pos' : Pos} (c : HasCl X.K X.mg n) (tk : Takes X W) (hc : X.calm = true := by rfl) (hg : Gl X n := by rfl) (hdb : (n == ("__debug__" : Str)) = false := by decide) :
    SN X W ss (.Raise (some (.Call (.Name n p) [.Constant (.str m) j p2] [] pos)) none pos' :: rest) (.exc ⟨n, .no⟩ : Res S) post :=
  PSs_imp (rs_core c tk hc hg hdb) fun D σ H ⟨B, F0, F, Gs, A, q⟩ => rs_wish q A.base
def outOk (X : Cx) {S L R : Type} (post : S → List Slot) (pl : L → List Slot) (kr : R → Slot) (D : Ends) (B F0 : Hp) : Out S L R → Prop
  | .nx s => NxOk X (post s) D B F0
  | .rt r => RtOk X kr r D B F0
  | .bk l => BkOk X (pl l) D B F0
  | .ct l => CtOk X (pl l) D B F0
def rdE (X : Cx) (W : WX) (ss : List Slot) {S L R : Type} (M : Res (Out S L R)) (post : S → List Slot) (pl : L → List Slot) (kr : R → Slot) : TS := fun D σ H =>
  ∃ B F0 F Gs, Asn X.K B F0 ss σ H F Gs ∧ wpR X W M σ H (outOk X post pl kr D B F0)
theorem eb_ret {α S L : Type} {kr : α → Slot} {m : Res α} {post : S → List Slot} {pl : L → List Slot} {e : Expr} {pos : Pos} (h : XK X W ss e m kr) :
    PS X (.Return (some e) pos) (rdE X W ss (m.bind fun r => .ok (.rt r) : Res (Out S L α)) post pl kr) := by
  refine PS_imp (ps_ret h) fun D σ H ⟨B, F0, F, Gs, A, q⟩ => ⟨F, A.ext.sub, A.sl, wpR_imp (wpR_bind q) (Same.refl H) fun a q v H' F' G' s ex pr k => ?_⟩
  have A' := A.grow s ex
  exact q v H' F' G' A'.base A'.ext (fun a u z => ⟨(pr a u z).1, Same.free A.base (pr a u z).2.1, (pr a u z).2.2⟩) k
abbrev wNo : WX := fun _ _ _ _ => False
theorem takes_no {X : Cx} : Takes X wNo := fun u s' ⟨a, B, sI, pins, σ, H, cls, d, e, I, nb, up, sky, na, os, ag, w⟩ => w.elim
inductive HX (X : Cx) (ss : List Slot) {S L R : Type} (post : S → List Slot) (pl : L → List Slot) (kr : R → Slot) : List ExceptHandler → Hds (Out S L R) → Prop
  | nil : HX X ss post pl kr [] []
  | cons {y : Str} {tab : ETab} {M : Exn → Res (Out S L R)} {b₀ : Stmt} {suite : List Stmt} {np pos' : Pos} {hds : List ExceptHandler} {hs : Hds (Out S L R)} (c : CTab X.K X.mg y tab) (hg : Gl X y) (hdb : (y == ("__debug__" : Str)) = false)
      (h : ∀ (x : Exn) (a : Addr) (oe : Obj) (pn : List (Addr × Obj)), SB (X.suite a ((a, oe) :: pn)) wNo ss (b₀ :: suite) (M x) post pl kr) (r : HX X ss post pl kr hds hs) :
      HX X ss post pl kr (.ExceptHandler (some (.Name y np)) none (b₀ :: suite) pos' :: hds) ((tab, M) :: hs)
def tsX (X : Cx) (ss : List Slot) {S L R : Type} (M : Exn → Res (Out S L R)) (post : S → List Slot) (pl : L → List Slot) (kr : R → Slot) : Addr → Value → Option Addr → TS := fun _ cls d D σ H =>
  ∃ x : Exn, X.mg x.cls = some cls ∧ ∃ B F0 F Gs, Asn X.K B F0 ss σ H F Gs ∧ wpS X wNo (M x) B (outOk X post pl kr D B F0)
theorem hx_hds {S L R : Type} {post : S → List Slot} {pl : L → List Slot} {kr : R → Slot} {hds : List ExceptHandler} {hs : Hds (Out S L R)} (h : HX X ss post pl kr hds hs) :
    ∃ l : List (Value × (Addr → Value → Option Addr → TS)), HdsOk X hds l ∧ ∀ (D : Ends) (σ : L2.St) (H H' B F0 F : Hp) (Gs : List Hp) (x : Exn) (cls : Value) (d : Option Addr), Asn X.K B F0 ss σ H F Gs → X.mg x.cls = some cls → Same H H' → payRep x.pay d H' → wpR X W (pickR x hs) σ H (outOk X post pl kr D B F0) → wMany X.K W D l cls d σ H' := by
  induction h with
  | nil => exact ⟨[], .nil, fun D σ H H' B F0 F Gs x cls d A hm s hp q => q cls d H' hm s hp⟩
  | cons c hg hdb hsu hr0 ih =>
    rename_i y tab M b₀ suite np pos' hds hs
    obtain ⟨l, hl, hw⟩ := ih
    obtain ⟨Y, gY, hY⟩ := c
    refine ⟨(.ref Y, tsX X ss M post pl kr) :: l, .cons ⟨hg, hdb, .inl gY⟩ (fun a oe cls d pn hz hf => ?_) hl, fun D σ H H' B F0 F Gs x cls d A hm s hp q => ?_⟩
    · exact ⟨fun pins s σ H D I ⟨x, hm, B, F0, F, Gs, A, q⟩ => (hsu x a oe pn).run pins s σ H D I ⟨B, F0, F, Gs, A, by cases e : M x with
        | ok o =>
          rw [e] at q
          cases o <;> exact q
        | exc z =>
          rw [e] at q
          exact fun σ cls d H' a b c => q σ cls d H' a b c
        | stuck => rw [e] at q; exact q⟩⟩
    · unfold pickR at q
      cases e : lookB tab x.cls with
      | none => rw [e] at q; exact q.elim
      | some b =>
        rw [e] at q
        obtain ⟨C, gC, hC⟩ := hY _ _ e
        have : cls = .ref C := Option.some.inj (hm.symm.trans gC)
        subst this
        refine ⟨b, hC, fun hb a na => ?_, fun hb => ?_⟩
        · subst hb
          have A' := A.grow s ⟨Same.refl F, A.ext.sub.trans s, fun _ _ h => .inl h⟩
          refine ⟨x, hm, B, F0, F, Gs, A', ?_⟩
          have q : wpR X W (noX (M x)) σ H (outOk X post pl kr D B F0) := q
          revert q
          cases M x with
          | ok o => exact fun q => q
          | exc z => exact fun q => q.elim
          | stuck => exact fun q => q.elim
        · subst hb
          exact hw D σ H H' B F0 F Gs x _ d A hm s hp q
theorem b1_try {S L R : Type} {st : Stmt} {h₀ : ExceptHandler} {hds : List ExceptHandler} {M : Res (Out S L R)} {hs : Hds (Out S L R)} {post : S → List Slot} {pl : L → List Slot} {kr : R → Slot} {pos : Pos} (tk : Takes X W)
    (hb : ∀ (W' : WX) (pn : List (Addr × Obj)) (xe : Value → Shared → Prop), Takes (X.tr pn xe) W' → PS (X.tr pn xe) st (rdE (X.tr pn xe) W' ss M post pl kr)) (hh : HX X ss post pl kr (h₀ :: hds) hs)
    (hst : X.stack = X.env :: X.outer := by rfl) (hf : X.env.frame = some X.env.locals := by rfl) : B1 X W ss (.Try [st] (h₀ :: hds) [] [] pos) (catchR M hs) post pl kr := by
  obtain ⟨l, hl, hw⟩ := hx_hds (W := W) hh
  refine PS_imp (ps_try_many (tb := fun W' => rdE X W' ss M post pl kr) hst hf tk (fun W' pn xe tk' _ => pss_one (hb W' pn xe tk')) hl) fun D σ H ⟨B, F0, F, Gs, A, q⟩ => ⟨B, F0, F, Gs, A, ?_⟩
  cases M with
  | ok o => cases o <;> exact q
  | stuck => exact q.elim
  | exc x =>
    intro cls d H' hm s hp
    have q : wpS X W (pickR x hs) B _ := q
    refine hw D σ H H' B F0 F Gs x cls d A hm s hp ?_
    refine wpS_R q A.base fun o => ?_
    cases o <;> exact fun z => z
def exS (a : Addr) : Slot := ⟨fun _ _ _ o => o = some (.ref a), fun _ _ h => h⟩
end
end G

namespace G
open PySem PySem.Spec PyProof.Rows L2
def dyCut (d : Dy) (l u : Option Int) : Res Dy := match d with
  | .tup xs => .ok (.tup (cut xs l u))
  | _ => .stuck
section
variable {X : Cx} {W : WX} {ss : List Slot} {a : Expr} {pos : Pos}
end
end G
namespace G
open PySem PySem.Spec PyProof.Rows L2
def rCatQ (K : PySem.W.Frag) : R2 := fun x y H Q => ∃ l b xs zs, x = .ref l ∧ y = .ref b ∧ SqL K H l xs ∧ SqL K H b zs ∧ xs.length + zs.length ≤ sizeLine ∧ ∀ p, H p = none → Q (.ref p) (upd H p (.lst (xs ++ zs)))
section
variable {X : Cx} {W : WX} {ss : List Slot} {a b : Expr} {pos : Pos}
end
end G
namespace G
open PySem PySem.Spec PyProof.Rows L2
section
variable {X : Cx} {CX : CXT} {k : Nat} {f : Addr} {fd : FuncData} {ps : List Str} {sp : Sp} {E : L2.St → L2.XK} {dvs : List V} {ds : List Value} {x : Str} {p pos : Pos}
end
section
variable {X : Cx} {W : WX} {ss : List Slot} {k j : Nat} {x : Str} {A R : Type} [EncA A] {c : Unit → A} {g : A → Res R} {kr : R → Slot} {p pos : Pos}
end
end G

namespace G
open PySem PySem.Spec PyProof.Rows L2
def wT3 (K : PySem.W.Frag) (c1 c2 c3 : Value) (ts : Addr → Value → Option Addr → TS) (D : Ends) : L2.WX := fun cls d σ H => PySem.W.exmAny K cls [c1, c2, c3] = some true ∧ ∀ a, H a = none → ts a cls d D σ H
structure Lies (X : Cx) (pins : List (Addr × Obj)) (σ : L2.St) (H : Hp) (B : Heap) (a : Addr) (cls : Value) (d : Option Addr) (sI s : Shared) : Prop where
  before : Inv X pins σ H sI
  low : ∀ b o, sI.heap.get? b = some o → b ∉ frs X.stack → B.get? b = some o
  grew : sI.heap.UpToSlots s.heap
  air : HandSPX.FlyingZ B (X.env :: X.outer) a (Zc cls d) s.heap
  fresh : H a = none
  sys : s.os = sI.os
  gen : AllBare s.gens
section
variable {X : Cx} {pins : List (Addr × Obj)} {σ : L2.St} {H : Hp} {B : Heap} {a : Addr} {cls : Value} {d : Option Addr} {sI s : Shared}
theorem Lies.inv (l : Lies X pins σ H B a cls d sI s) : Inv X pins σ H s := l.before.landed l.low l.air.1 l.grew l.sys l.gen
theorem Lies.obj (l : Lies X pins σ H B a cls d sI s) : ∃ oe, s.heap.get? a = some oe ∧ Zc cls d oe ∧ ∃ vs, oe.data = .fields vs := by
  obtain ⟨oe, vs, q1, q2, q3⟩ := l.air.there
  exact ⟨oe, q1, q2, vs, q3⟩
theorem Lies.out (l : Lies X pins σ H B a cls d sI s) : a ∉ frs (X.env :: X.outer) := by
  intro inside
  obtain ⟨oe, q1, _, vs, q3⟩ := l.obj
  obtain ⟨_, o2, w1, w2⟩ := l.air.2.2.1.mem inside
  cases q1.symm.trans w1
  exact w2 _ q3
theorem Lies.notL (l : Lies X pins σ H B a cls d sI s) (hf : X.env.frame = some X.env.locals) : a ≠ X.env.locals := by
  intro z
  refine l.out (List.mem_filterMap.mpr ⟨X.env, List.mem_cons_self, ?_⟩)
  rw [hf, z]
theorem Lies.notF (l : Lies X pins σ H B a cls d sI s) : a ∉ X.fs := by
  intro inside
  obtain ⟨env, m, q⟩ := List.mem_filterMap.mp inside
  exact l.out (List.mem_filterMap.mpr ⟨env, .tail _ m, q⟩)
theorem Lies.ground (l : Lies X pins σ H B a cls d sI s) {o : Obj} (e : sI.heap.get? a = some o) (hs : X.stack = X.env :: X.outer) : False := by
  have := l.low a o e (by rw [hs]; exact l.out)
  rw [l.air.2.1] at this
  cases this
theorem Lies.away (l : Lies X pins σ H B a cls d sI s) (hs : X.stack = X.env :: X.outer) : ∀ p ∈ X.pn ++ pins, p.1 ≠ a := by
  intro p m z
  have q := (l.before.pin p m).1
  rw [z] at q
  exact l.ground q hs
theorem Lies.up (l : Lies X pins σ H B a cls d sI s) {h : Heap} (fl : HandSPX.FlyingZ B (X.env :: X.outer) a (Zc cls d) h) (g : s.heap.UpToSlots h) : Lies X pins σ H B a cls d sI { s with heap := h } :=
  ⟨l.before, l.low, l.grew.trans g, fl, l.fresh, l.sys, l.gen⟩
theorem Lies.held (l : Lies X pins σ H B a cls d sI s) (hf : X.env.frame = some X.env.locals) {oe : Obj} (e : s.heap.get? a = some oe) {vs : Array Value} (q : oe.data = .fields vs) : Inv (X.suite a ((a, oe) :: (X.pn ++ pins))) [] σ H s :=
  l.inv.suite e q l.fresh (l.notL hf) l.notF
end
def T3Tab (K : Frag) (mg : PySem.Str → Option Value) (y1 y2 y3 : Str) (tab : ETab) : Prop := ∃ Y1 Y2 Y3, mg y1 = some (.ref Y1) ∧ mg y2 = some (.ref Y2) ∧ mg y3 = some (.ref Y3) ∧ ∀ n, lookB tab n = some true → ∃ C, mg n = some (.ref C) ∧ PySem.W.exmAny K (.ref C) [.ref Y1, .ref Y2, .ref Y3] = some true
def catch1 {β : Type} (m : Res β) (tab : ETab) (M : Res β) : Res β := match m with
  | .ok b => .ok b
  | .exc x => if lookB tab x.cls = some true then noX M else .stuck
  | .stuck => .stuck
def t3B (t1 t2 t3 : ETab) (p : Str × Bool) : Bool := !p.2 || (match lookB t1 p.1, lookB t2 p.1, lookB t3 p.1 with
  | some a, some b, some c => a || (b || c)
  | _, _, _ => false)
section
variable {X : Cx} {W : L2.WX} {ss : List Slot}
end
end G

namespace G
open PySem PySem.Spec PyProof.Rows L2
section
variable {X : Cx} {W : WX} {ss : List Slot} {pos : Pos} {a b e : Expr} {es : List Expr}
def indexS (x y : Str) : Res Int := match Builtin.Str.occurrences x y 0 x.length 1 with
  | i :: _ => .ok (i : Int)
  | [] => .stuck
theorem len_dK {X : Cx} : CallR X (.builtin "len") (fun xs H Q => ∃ (a : Addr) (kvs : List (Key × V)), xs = [V.ref a] ∧ Rd H a (.dK kvs) ∧ Q (.int kvs.length) H) := by
  rintro pins s σ H _ us Q I r ⟨a, kvs, rfl, rd, q⟩
  obtain ⟨u, rfl, ru⟩ := r.one
  cases ru
  exact d_len I rd fun t s' J => ⟨.int (kvs.length : Nat), H, J, ⟨t, rfl⟩, q⟩
theorem len_dT {X : Cx} : CallR X (.builtin "len") (fun xs H Q => ∃ (a : Addr) (kvs : List (List Key × V)), xs = [V.ref a] ∧ Rd H a (.dT kvs) ∧ Q (.int kvs.length) H) := by
  rintro pins s σ H _ us Q I r ⟨a, kvs, rfl, rd, q⟩
  obtain ⟨u, rfl, ru⟩ := r.one
  cases ru
  obtain ⟨small, mods, keys, rel, isD⟩ := dt_rd I.hok rd
  have same : kvs.length = keys.length := rel.length
  refine PySem.call_len_dictH mods isD (by rw [← same]; rw [sizeLine_eq] at small; omega) ?_
  rw [← same]
  exact ⟨.int (kvs.length : Nat), H, I.tok _, ⟨_, rfl⟩, q⟩
class DKL (κ : Type) [Enc κ] [DecidableEq κ] [DK κ] : Prop where
  len : ∀ (X : Cx), CallR X (.builtin "len") (fun xs H Q => ∃ (a : Addr) (kvs : List (κ × V)), xs = [V.ref a] ∧ Rd H a (DK.ho kvs) ∧ Q (.int kvs.length) H)
instance : DKL Int := ⟨fun X pins s σ H xs us Q I r ⟨a, kvs, e, h, q⟩ => len_dK pins s σ H xs us Q I r ⟨a, _, e, h, by rw [List.length_map]; exact q⟩⟩
instance : DKL Str := ⟨fun X pins s σ H xs us Q I r ⟨a, kvs, e, h, q⟩ => len_dK pins s σ H xs us Q I r ⟨a, _, e, h, by rw [List.length_map]; exact q⟩⟩
instance : DKL (Int × Int) := ⟨fun X pins s σ H xs us Q I r ⟨a, kvs, e, h, q⟩ => len_dT pins s σ H xs us Q I r ⟨a, _, e, h, by rw [List.length_map]; exact q⟩⟩
end
end G

namespace G
open PySem PySem.Spec PyProof.Rows L2
def t3O {α β γ : Type} [Enc α] [Enc β] [Enc γ] (d : Ow α) (d' : Ow β) (d'' : Ow γ) : Ow (T3 α β γ) := ⟨fun K F G v x => ∃ p v1 v2 v3 G1 G2 G3, v = .ref p ∧ F p = some (.tup [v1, v2, v3]) ∧ Same G1 G ∧ Same G2 G ∧ Same G3 G ∧ Dj G1 G2 ∧ Dj G1 G3 ∧ Dj G2 G3 ∧ d.own K F G1 v1 x.a ∧ d'.own K F G2 v2 x.b ∧ d''.own K F G3 v3 x.c,
  fun s ⟨p, v1, v2, v3, G1, G2, G3, e, g, a1, a2, a3, c1, c2, c3, x, y, z⟩ => ⟨p, v1, v2, v3, G1, G2, G3, e, s _ _ g, a1, a2, a3, c1, c2, c3, d.mF s x, d'.mF s y, d''.mF s z⟩,
  fun s ⟨p, v1, v2, v3, G1, G2, G3, e, g, a1, a2, a3, c1, c2, c3, x, y, z⟩ => ⟨p, v1, v2, v3, G1, G2, G3, e, g, a1.trans s, a2.trans s, a3.trans s, c1, c2, c3, x, y, z⟩,
  fun ⟨p, v1, v2, v3, G1, G2, G3, e, g, a1, a2, a3, c1, c2, c3, x, y, z⟩ s t => ⟨p, v1, v2, v3, e, s _ _ g, d.view x s (a1.trans t), d'.view y s (a2.trans t), d''.view z s (a3.trans t)⟩⟩
instance {α β γ : Type} [Enc α] [Enc β] [Enc γ] {d : Ow α} {d' : Ow β} {d'' : Ow γ} [ImmO d] [ImmO d'] [ImmO d''] : ImmO (t3O d d' d'') := ⟨fun ⟨p, v1, v2, v3, G1, G2, G3, e, g, a1, a2, a3, c1, c2, c3, x, y, z⟩ => ⟨p, v1, v2, v3, G1, G2, G3, e, tups_some g rfl, a1, a2, a3, c1, c2, c3, ImmO.imm x, ImmO.imm y, ImmO.imm z⟩⟩
def optO {α : Type} [Enc α] (d : Ow α) : Ow (Option α) := ⟨fun K F G v o => match o with
    | none => v = .non
    | some a => v ≠ .non ∧ d.own K F G v a,
  fun {K F F' G v o} s h => by
    cases o with
    | none => exact h
    | some a => exact ⟨h.1, d.mF s h.2⟩,
  fun {K F G G' v o} s h => by
    cases o with
    | none => exact h
    | some a => exact ⟨h.1, d.mG s h.2⟩,
  fun {K F G H v o} h s t => by
    cases o with
    | none => exact h
    | some a => exact ⟨h.1, d.view h.2 s t⟩⟩
instance {α : Type} [Enc α] {d : Ow α} [ImmO d] : ImmO (optO d) := ⟨fun {K F G v o} h => by
  cases o with
  | none => exact h
  | some a => exact ⟨h.1, ImmO.imm h.2⟩⟩
class NNO {α : Type} [Enc α] (d : Ow α) : Prop where
  nn : ∀ {K : Frag} {F G : Hp} {v : V} {a : α}, d.own K F G v a → v ≠ .non
instance {α β : Type} [Enc α] [Enc β] {d : Ow α} {d' : Ow β} : NNO (prO d d') := ⟨fun ⟨_, _, _, _, _, e, _⟩ z => by rw [e] at z; cases z⟩
instance {α β γ : Type} [Enc α] [Enc β] [Enc γ] {d : Ow α} {d' : Ow β} {d'' : Ow γ} : NNO (t3O d d' d'') := ⟨fun ⟨_, _, _, _, _, _, _, e, _⟩ z => by rw [e] at z; cases z⟩
structure PartO {τ α : Type} [Enc τ] [Enc α] (D : Ow τ) (n : Int) (get : τ → List α) (put : τ → List α → τ) : Prop where
  part : ∀ {K : Frag} {F G : Hp} {v : V} {a : τ}, D.own K F G v a → ∃ p q us ws, v = .ref p ∧ F p = some (.tup us) ∧ atI us n = some (.ref q) ∧ G q = some (.lst ws) ∧ All2 (fun v a => Enc.rep K F v a) ws (get a) ∧
    ∀ {F' G' : Hp} {ws' : List V} {as' : List α}, Same F F' → (∀ c u, c ≠ q → G c = some u → G' c = some u) → G' q = some (.lst ws') → All2 (fun v a => Enc.rep K F' v a) ws' as' → D.own K F' G' v (put a as')
section
variable {X : Cx} {W : WX} {ss : List Slot} {pos : Pos} {a b e : Expr} {es : List Expr} {rest : List Stmt}
end
end G

namespace G
open PySem PySem.Spec PyProof.Rows L2
structure Raw (α : Type) where
  v : V
  a : α
instance {α : Type} [Enc α] : Enc (Raw α) := ⟨fun K H v r => v = r.v ∧ Enc.rep K H v r.a, fun s ⟨e, r⟩ => ⟨e, Enc.mono s r⟩⟩
def rawZ {α : Type} : List V → List α → List (Raw α)
  | v :: vs, a :: as => ⟨v, a⟩ :: rawZ vs as
  | _, _ => []
section
variable {X : Cx} {W : WX} {ss : List Slot} {tg elt iter : Expr} {scope : Scope} {own : List (Str × Nat)} {pos : Pos}
def rdO (X : Cx) (W : WX) {α : Type} [Enc α] (d : Ow α) (ss : List Slot) (m : Res (List α)) : TI := fun σ H R =>
  ∃ F, Same F H ∧ Sl X.K F H ss σ ∧ wpR X W m σ H fun as => ∀ J H' F' G' p vs gs, Same H H' → Ext F H F' H' → Priv G' H F' H' → G' p = some (.lst vs) → (∀ g ∈ gs, Same g G' ∧ g p = none) → gs.Pairwise Dj → AllO (d.own X.K F') vs gs as → ItOk X.K J (rawZ vs as) (join F' G') → R J H'
end
end G

namespace G
open PySem PySem.Spec PyProof.Rows L2
def jq {α : Type} [Enc α] (d : Ow α) (o0 : Option V) (Gk : Hp) (vs : List V) (as : List α) (k : Nat) : Slot :=
  ⟨fun K F G o => o = o0 ∧ Same Gk G ∧ ∃ gs, (∀ g ∈ gs, Same g G ∧ Dj g Gk) ∧ gs.Pairwise Dj ∧ AllO (d.own K F) (vs.drop k) gs (as.drop k),
   fun s t ⟨e, h, gs, hg, pw, r⟩ => ⟨e, h.trans t, gs, fun g m => ⟨(hg g m).1.trans t, (hg g m).2⟩, pw, r.imp fun _ _ _ x => d.mF s x⟩⟩
theorem Asn.give {K : Frag} {B F0 H F g : Hp} {ss : List Slot} {σ : L2.St} {Gs : List Hp} {s : Slot} {o : Option V} (A : Asn K B F0 ss σ H F Gs) (fr : Fresh B F H Gs g) (j : Nat) (x : s.P K F g o) : Asn K B F0 (ss.set j s) (σ.set j o) H F (Gs.set j g) := by
  refine ⟨A.ext, A.base, A.all.set x j, fun G' m c u z => ?_, pw_set j A.dj fun G' m c => ?_⟩
  · rcases List.mem_or_eq_of_mem_set m with m | e
    · exact A.priv G' m c u z
    · subst e
      obtain ⟨k1, k2, k3, k4, _⟩ := fr c u z
      exact ⟨k1, k3, k4, k2⟩
  · cases e : g c with
    | none => exact .inl rfl
    | some u => exact .inr ((fr c u e).2.2.2.2 G' m)
section
variable {X : Cx} {W : WX} {ss : List Slot} {tg iter a b e : Expr} {es : List Expr} {rest : List Stmt} {pos : Pos}
def ItG (X : Cx) (ss : List Slot) (i : Nat) {α : Type} [Enc α] (d : Ow α) (as : List α) (se : Slot) (tI : TI) : Prop :=
  ∀ {B F0 F H : Hp} {σ : L2.St} {Gs : List Hp} {R : It → Hp → Prop}, Asn X.K B F0 ss σ H F Gs → (∀ J H1 F1 G Gk o vs gs, Same H H1 → Ext F H F1 H1 → Gs[i]? = some G → σ[i]? = some o → Same Gk G → (∀ g ∈ gs, Same g G ∧ Dj g Gk) → gs.Pairwise Dj → AllO (d.own X.K F1) vs gs as →
    (∀ F' G', Same F1 F' → Same Gk G' → se.P X.K F' G' o) → (∀ k F2 H2, Same F1 F2 → Same F2 H2 → Same Gk H2 → (∀ v, vs[k]? = some v → J.go k H2 ∧ ∀ v' H', J.yld k H2 v' H' → H' = H2 ∧ v' = v) ∧ (vs.length ≤ k → J.stop k H2)) → R J H1) → tI σ H R
def TgG (X : Cx) {α : Type} [Enc α] (d : Ow α) (u : α → List Slot → List Slot) (gT : TG) : Prop :=
  ∀ {a : α} {v : V} {g B F0 F H : Hp} {σ : L2.St} {Gs : List Hp} {ss : List Slot} {Q : L2.St → Hp → Prop}, Asn X.K B F0 ss σ H F Gs → Fresh B F H Gs g → d.own X.K F g v a → (∀ σ' Gs', Asn X.K B F0 (u a ss) σ' H F Gs' → Q σ' H) → gT v σ H Q
def jp {α : Type} [Enc α] (d : Ow α) (as : List α) : Slot :=
  ⟨fun K F G o => ∃ p vs w gs, o = some (.ref p) ∧ G p = some (.lst (vs ++ [w])) ∧ (∀ g ∈ gs, Same g G ∧ g p = none) ∧ gs.Pairwise Dj ∧ AllO (d.own K F) vs gs as,
   fun s t ⟨p, vs, w, gs, e, h, hg, pw, r⟩ => ⟨p, vs, w, gs, e, t _ _ h, fun g m => ⟨(hg g m).1.trans t, (hg g m).2⟩, pw, r.imp fun _ _ _ x => d.mF s x⟩⟩
end
end G

namespace G
open PySem PySem.Spec PyProof.Rows L2
section
variable {X : Cx} {W : WX} {ss : List Slot} {tg elt iter : Expr} {scope : Scope} {own : List (Str × Nat)} {pos : Pos}
end
def hold {α : Type} [Enc α] (d : Ow α) (p : Addr) (vs : List V) (as : List α) (k : Nat) : Slot :=
  ⟨fun K F G o => o = some (.ref p) ∧ G p = some (.lst vs) ∧ ∃ g1 g2, (∀ g ∈ g1 ++ g2, Same g G ∧ g p = none) ∧ (g1 ++ g2).Pairwise Dj ∧ AllO (d.own K F) (vs.take k) g1 (as.take k) ∧ AllO (d.own K F) (vs.drop (k + 1)) g2 (as.drop (k + 1)),
   fun s t ⟨e, h, g1, g2, hg, pw, r1, r2⟩ => ⟨e, t _ _ h, g1, g2, fun g m => ⟨(hg g m).1.trans t, (hg g m).2⟩, pw, r1.imp fun _ _ _ x => d.mF s x, r2.imp fun _ _ _ x => d.mF s x⟩⟩
section
variable {X : Cx} {W : WX} {ss : List Slot} {st : Stmt} {rest : List Stmt} {e : Expr} {pos : Pos}
end
end G

namespace G
open PySem PySem.Spec PyProof.Rows L2
section
variable {X : Cx} {W : WX} {ss : List Slot} {a : Expr} {pos : Pos}
end
end G

namespace G
open PySem PySem.Spec PyProof.Rows L2
section
variable {X : Cx} {W : WX} {ss : List Slot} {e : Expr}
end
structure T4 (α β γ δ : Type) where
  a : α
  b : β
  c : γ
  d : δ
instance {α β γ δ : Type} [Enc α] [Enc β] [Enc γ] [Enc δ] : Enc (T4 α β γ δ) :=
  ⟨fun K H v x => ∃ p v1 v2 v3 v4, v = .ref p ∧ H p = some (.tup [v1, v2, v3, v4]) ∧ Enc.rep K H v1 x.a ∧ Enc.rep K H v2 x.b ∧ Enc.rep K H v3 x.c ∧ Enc.rep K H v4 x.d,
   fun s ⟨p, v1, v2, v3, v4, e, h, r1, r2, r3, r4⟩ => ⟨p, v1, v2, v3, v4, e, s _ _ h, Enc.mono s r1, Enc.mono s r2, Enc.mono s r3, Enc.mono s r4⟩⟩
instance {α β γ δ : Type} [Enc α] [Enc β] [Enc γ] [Enc δ] [Imm α] [Imm β] [Imm γ] [Imm δ] : Imm (T4 α β γ δ) :=
  ⟨fun ⟨p, v1, v2, v3, v4, e, h, r1, r2, r3, r4⟩ => ⟨p, v1, v2, v3, v4, e, tups_some h rfl, Imm.imm r1, Imm.imm r2, Imm.imm r3, Imm.imm r4⟩⟩
instance {α β γ δ : Type} [Enc α] [Enc β] [Enc γ] [Enc δ] [ToDy α] [ToDy β] [ToDy γ] [ToDy δ] : ToDy (T4 α β γ δ) := ⟨fun x => .tup [ToDy.dy x.a, ToDy.dy x.b, ToDy.dy x.c, ToDy.dy x.d], fun ⟨p, v1, v2, v3, v4, e, h, r1, r2, r3, r4⟩ => by rw [e]; exact .tup (SqT.of h) (.cons (ToDy.rep r1) (.cons (ToDy.rep r2) (.cons (ToDy.rep r3) (.cons (ToDy.rep r4) .nil))))⟩
instance {α β γ δ : Type} [Enc α] [Enc β] [Enc γ] [Enc δ] : NN (T4 α β γ δ) := ⟨fun ⟨_, _, _, _, _, e1, _⟩ e => by rw [e] at e1; cases e1⟩
instance {α β γ δ : Type} [Enc α] [Enc β] [Enc γ] [Enc δ] [Dat α] [Dat β] [Dat γ] [Dat δ] : Dat (T4 α β γ δ) where
  py := fun x => .tuple [Dat.py x.a, Dat.py x.b, Dat.py x.c, Dat.py x.d]
  dp := fun ⟨p, v1, v2, v3, v4, e, h, r1, r2, r3, r4⟩ => by rw [e]; exact .tup (SqT.of h) (.cons (Dat.dp r1) (.cons (Dat.dp r2) (.cons (Dat.dp r3) (.cons (Dat.dp r4) .nil))))
  lay := fun x => (Dat.lay x.a && (Dat.lay x.b && (Dat.lay x.c && Dat.lay x.d)))
  dep := (max (Dat.dep α) (max (Dat.dep β) (max (Dat.dep γ) (Dat.dep δ)))) + 1
  layOk := fun h => by
    simp only [Bool.and_eq_true] at h
    simp only [PyData.canLay0, PyData.canLayAll0, Bool.and_eq_true, and_true]
    exact ⟨Dat.layOk h.1, Dat.layOk h.2.1, Dat.layOk h.2.2.1, Dat.layOk h.2.2.2⟩
  depOk := fun x => by
    have h1 := Dat.depOk x.a
    have h2 := Dat.depOk x.b
    have h3 := Dat.depOk x.c
    have h4 := Dat.depOk x.d
    simp only [PyData.depth, PyData.depthAll]
    omega
instance {α β γ δ : Type} [Enc α] [Enc β] [Enc γ] [Enc δ] [Dat α] [Dat β] [Dat γ] [Dat δ] [DatEq α] [DatEq β] [DatEq γ] [DatEq δ] : DatEq (T4 α β γ δ) := ⟨fun a b => by
  show PyData.eqvAll [_, _, _, _] [_, _, _, _] = true ↔ _
  cases a; cases b
  simp [PyData.eqvAll, DatEq.iff]⟩
instance {α β γ δ : Type} [Enc α] [Enc β] [Enc γ] [Enc δ] [Dat α] [Dat β] [Dat γ] [Dat δ] [NoStr α] [NoStr β] [NoStr γ] [NoStr δ] : NoStr (T4 α β γ δ) := ⟨fun x => by show (Dat.lay _ && (Dat.lay _ && (Dat.lay _ && Dat.lay _))) = true; rw [NoStr.lay, NoStr.lay, NoStr.lay, NoStr.lay]; rfl⟩
instance {α β γ δ : Type} [Enc α] [Enc β] [Enc γ] [Enc δ] : HasTy (T4 α β γ δ) := ⟨"tuple", fun ⟨p, v1, v2, v3, v4, e, h, _⟩ => by rw [e]; exact .base (.tup h)⟩
instance {α β γ δ : Type} [Inhabited α] [Inhabited β] [Inhabited γ] [Inhabited δ] : Inhabited (T4 α β γ δ) := ⟨⟨default, default, default, default⟩⟩
instance {α β γ δ : Type} [DecidableEq α] [DecidableEq β] [DecidableEq γ] [DecidableEq δ] : DecidableEq (T4 α β γ δ) := fun x y => if h : x.a = y.a ∧ x.b = y.b ∧ x.c = y.c ∧ x.d = y.d then .isTrue (by cases x; cases y; simp only at h; obtain ⟨h0, h1, h2, h3⟩ := h; subst_vars; rfl) else .isFalse fun e => h (by subst e; exact ⟨rfl, rfl, rfl, rfl⟩)
section
variable {X : Cx} {W : WX} {ss : List Slot} {pos : Pos} {kk : Nat} {e1 e2 e3 e4 a : Expr}
end
structure T5 (α β γ δ ε : Type) where
  a : α
  b : β
  c : γ
  d : δ
  e : ε
instance {α β γ δ ε : Type} [Enc α] [Enc β] [Enc γ] [Enc δ] [Enc ε] : Enc (T5 α β γ δ ε) :=
  ⟨fun K H v x => ∃ p v1 v2 v3 v4 v5, v = .ref p ∧ H p = some (.tup [v1, v2, v3, v4, v5]) ∧ Enc.rep K H v1 x.a ∧ Enc.rep K H v2 x.b ∧ Enc.rep K H v3 x.c ∧ Enc.rep K H v4 x.d ∧ Enc.rep K H v5 x.e,
   fun s ⟨p, v1, v2, v3, v4, v5, e, h, r1, r2, r3, r4, r5⟩ => ⟨p, v1, v2, v3, v4, v5, e, s _ _ h, Enc.mono s r1, Enc.mono s r2, Enc.mono s r3, Enc.mono s r4, Enc.mono s r5⟩⟩
instance {α β γ δ ε : Type} [Enc α] [Enc β] [Enc γ] [Enc δ] [Enc ε] [Imm α] [Imm β] [Imm γ] [Imm δ] [Imm ε] : Imm (T5 α β γ δ ε) :=
  ⟨fun ⟨p, v1, v2, v3, v4, v5, e, h, r1, r2, r3, r4, r5⟩ => ⟨p, v1, v2, v3, v4, v5, e, tups_some h rfl, Imm.imm r1, Imm.imm r2, Imm.imm r3, Imm.imm r4, Imm.imm r5⟩⟩
instance {α β γ δ ε : Type} [Enc α] [Enc β] [Enc γ] [Enc δ] [Enc ε] [ToDy α] [ToDy β] [ToDy γ] [ToDy δ] [ToDy ε] : ToDy (T5 α β γ δ ε) := ⟨fun x => .tup [ToDy.dy x.a, ToDy.dy x.b, ToDy.dy x.c, ToDy.dy x.d, ToDy.dy x.e], fun ⟨p, v1, v2, v3, v4, v5, e, h, r1, r2, r3, r4, r5⟩ => by rw [e]; exact .tup (SqT.of h) (.cons (ToDy.rep r1) (.cons (ToDy.rep r2) (.cons (ToDy.rep r3) (.cons (ToDy.rep r4) (.cons (ToDy.rep r5) .nil)))))⟩
instance {α β γ δ ε : Type} [Enc α] [Enc β] [Enc γ] [Enc δ] [Enc ε] : NN (T5 α β γ δ ε) := ⟨fun ⟨_, _, _, _, _, _, e1, _⟩ e => by rw [e] at e1; cases e1⟩
instance {α β γ δ ε : Type} [Enc α] [Enc β] [Enc γ] [Enc δ] [Enc ε] [Dat α] [Dat β] [Dat γ] [Dat δ] [Dat ε] : Dat (T5 α β γ δ ε) where
  py := fun x => .tuple [Dat.py x.a, Dat.py x.b, Dat.py x.c, Dat.py x.d, Dat.py x.e]
  dp := fun ⟨p, v1, v2, v3, v4, v5, e, h, r1, r2, r3, r4, r5⟩ => by rw [e]; exact .tup (SqT.of h) (.cons (Dat.dp r1) (.cons (Dat.dp r2) (.cons (Dat.dp r3) (.cons (Dat.dp r4) (.cons (Dat.dp r5) .nil)))))
  lay := fun x => (Dat.lay x.a && (Dat.lay x.b && (Dat.lay x.c && (Dat.lay x.d && Dat.lay x.e))))
  dep := (max (Dat.dep α) (max (Dat.dep β) (max (Dat.dep γ) (max (Dat.dep δ) (Dat.dep ε))))) + 1
  layOk := fun h => by
    simp only [Bool.and_eq_true] at h
    simp only [PyData.canLay0, PyData.canLayAll0, Bool.and_eq_true, and_true]
    exact ⟨Dat.layOk h.1, Dat.layOk h.2.1, Dat.layOk h.2.2.1, Dat.layOk h.2.2.2.1, Dat.layOk h.2.2.2.2⟩
  depOk := fun x => by
    have h1 := Dat.depOk x.a
    have h2 := Dat.depOk x.b
    have h3 := Dat.depOk x.c
    have h4 := Dat.depOk x.d
    have h5 := Dat.depOk x.e
    simp only [PyData.depth, PyData.depthAll]
    omega
instance {α β γ δ ε : Type} [Enc α] [Enc β] [Enc γ] [Enc δ] [Enc ε] [Dat α] [Dat β] [Dat γ] [Dat δ] [Dat ε] [DatEq α] [DatEq β] [DatEq γ] [DatEq δ] [DatEq ε] : DatEq (T5 α β γ δ ε) := ⟨fun a b => by
  show PyData.eqvAll [_, _, _, _, _] [_, _, _, _, _] = true ↔ _
  cases a; cases b
  simp [PyData.eqvAll, DatEq.iff]⟩
instance {α β γ δ ε : Type} [Enc α] [Enc β] [Enc γ] [Enc δ] [Enc ε] [Dat α] [Dat β] [Dat γ] [Dat δ] [Dat ε] [NoStr α] [NoStr β] [NoStr γ] [NoStr δ] [NoStr ε] : NoStr (T5 α β γ δ ε) := ⟨fun x => by show (Dat.lay _ && (Dat.lay _ && (Dat.lay _ && (Dat.lay _ && Dat.lay _)))) = true; rw [NoStr.lay, NoStr.lay, NoStr.lay, NoStr.lay, NoStr.lay]; rfl⟩
instance {α β γ δ ε : Type} [Enc α] [Enc β] [Enc γ] [Enc δ] [Enc ε] : HasTy (T5 α β γ δ ε) := ⟨"tuple", fun ⟨p, v1, v2, v3, v4, v5, e, h, _⟩ => by rw [e]; exact .base (.tup h)⟩
instance {α β γ δ ε : Type} [Inhabited α] [Inhabited β] [Inhabited γ] [Inhabited δ] [Inhabited ε] : Inhabited (T5 α β γ δ ε) := ⟨⟨default, default, default, default, default⟩⟩
instance {α β γ δ ε : Type} [DecidableEq α] [DecidableEq β] [DecidableEq γ] [DecidableEq δ] [DecidableEq ε] : DecidableEq (T5 α β γ δ ε) := fun x y => if h : x.a = y.a ∧ x.b = y.b ∧ x.c = y.c ∧ x.d = y.d ∧ x.e = y.e then .isTrue (by cases x; cases y; simp only at h; obtain ⟨h0, h1, h2, h3, h4⟩ := h; subst_vars; rfl) else .isFalse fun e => h (by subst e; exact ⟨rfl, rfl, rfl, rfl, rfl⟩)
section
variable {X : Cx} {W : WX} {ss : List Slot} {pos : Pos} {kk : Nat} {e1 e2 e3 e4 e5 a : Expr}
end
end G

namespace G
open PySem PySem.Spec PyProof.Rows L2
structure CalK (P : Program) (w : World) (K : Frag) (mg : Str → Option Value) (base : Heap) (k : Nat) (x kx : Str) {A1 B A R : Type} [EncA A1] [Enc B] [EncA A] (c : A1 → B → A) (g : A → Res R) (kr : R → Slot) : Prop where
  ex : ∃ f fd ps n, FnOk P w K mg base (L2.CX P w) k f fd ps (spOf K mg g kr) ∧ mg x = some (.ref f) ∧ PySem.W.keepIn K (.ref f) = true ∧ KBn K fd ps n [kx] (fun us ws => us ++ ws) (fun vs zs => vs ++ zs) ∧
    (∀ H vs (a : A1), EncA.rep K H vs a → vs.length = n) ∧ ∀ H vs v (a : A1) (b : B), EncA.rep K H vs a → Enc.rep K H v b → EncA.rep K H (vs ++ [v]) (c a b)
def BndK (x : Str) (st : Stmt) (ps : List Str) (m n : Nat) (kx : Str) : Prop := ∀ (T : Addr) (kV doc pm : Value) (an : Option Addr) (cdv ct w : Value) (us its : List Value), us.length = n → its.length = m →
  ∃ k, bindArgs (PySem.W.fnOf x x (defArgs st) (defBody st) (defScope st) (.ref T) kV doc pm an cdv ct) ⟨us, [(kx, w)]⟩ = seqItems? (.ref T) >>= k ∧ k (some its.toArray) = pure (ps.zip (us ++ [w]))
section
variable {P : Program} {w : World} {K : Frag} {mg : Str → Option Value} {base : Heap}
end
section
variable {X : Cx} {CX : CXT} {k n : Nat} {f : Addr} {fd : FuncData} {ps ks : List Str} {sp : Sp} {E : L2.St → L2.XK} {x : Str} {p pos : Pos} {e : Expr} {es : List Expr} {kws : List Keyword} {t tk : TA} {g : List Value → List Value → List Value} {gV : List V → List V → List V}
end
section
variable {X : Cx} {W : WX} {ss : List Slot} {k j : Nat} {x kx : Str} {A1 B A R : Type} [EncA A1] [Enc B] [EncA A] {c : A1 → B → A} {g : A → Res R} {kr : R → Slot} {p pos kpos : Pos} {e ke : Expr} {es : List Expr}
end
end G

namespace G
open PySem PySem.Spec PyProof.Rows L2
def splitR (x y : Str) : Res (List Str) := guardR (!(y.length == 0) && big x.length) (.ok (Txt.split x y))
def partR (x y : Str) : Res (T3 Str Str Str) := guardR (!(y.length == 0) && big x.length) (.ok ⟨(Txt.partition x y).1, (Txt.partition x y).2.1, (Txt.partition x y).2.2⟩)
def intS (x : Str) : Res Int := match PySem.intText? x with
  | some n => guardR (decide (x.length ≤ 640)) (.ok n)
  | none => .stuck
section
variable {X : Cx} {W : WX} {ss : List Slot} {a e : Expr} {es : List Expr} {apos cpos pos : Pos}
end
section
variable {X : Cx} {W : WX} {ss : List Slot} {a : Expr} {pos : Pos}
end
structure GStr (mg : Str → Option Value) (x : Str) (i : Str) : Prop where
  ex : ∃ t, mg x = some (.str i t)
section
variable {X : Cx} {W : WX} {ss : List Slot} {pos : Pos}
end
end G

namespace G
open PySem PySem.Spec PyProof.Rows L2
def catT {α : Type} (x y : Tup α) : Res (Tup α) := guardR (big (x.l.length + y.l.length)) (.ok ⟨x.l ++ y.l⟩)
def repT {α : Type} (x : Tup α) (k : Int) : Res (Tup α) := guardR (!x.l.isEmpty && (decide (2 ≤ k) && (decide (k ≤ 1000) && decide (x.l.length ≤ 1000)))) (.ok ⟨(List.replicate k.toNat x.l).flatten⟩)
section
variable {X : Cx} {W : WX} {ss : List Slot} {pos : Pos} {a b : Expr}
end
end G

namespace PySem
namespace RowX
open PySem.W PySem.Calls PyProof.Rows PySem.HandSPX
def iA (p1 p2 : Pos) : Arguments := { posonlyargs := [], args := [{ arg := "self", annotation := none, pos := p1 }, { arg := "row", annotation := none, pos := p2 }], vararg := none, kwonlyargs := [], kw_defaults := [], kwarg := none, defaults := [] }
def iB (q1 q2 q3 q4 : Pos) : List Stmt := [.Assign [.Attribute (.Name "self" q1) "row" q2] (.Name "row" q3) q4]
def iS : Scope := { kind := .function, names := [(PySem.Str.ofString "self", .local), (PySem.Str.ofString "row", .local)], isGenerator := false, isCoroutine := false, more := [] }
structure RowTxt (K : Frag) (mg : Str → Option Value) (C fI : Addr) : Prop where
  gC : mg "NoText" = some (.ref C)
  cls : ∃ nm q N bs bm sn sub ab col dd k0 k1 k2 k3 k5, K.lookup C = some (excClassObj nm q C N bs bm true sn sub ab col dd k0 k1 k2 k3 k5 "ValueError.__new__") ∧ refsVE bm = true
  sa : findIn K (.ref C) "__setattr__" = some (some (.builtin "object.__setattr__"))
  ga : findIn K (.ref C) "__getattribute__" = some (some (.builtin "BaseException.__getattribute__"))
  gg : findIn K (.ref C) "__getattr__" = some none
  noN : findIn K (.ref C) "row" = some none
  iC : findIn K (.ref C) "__init__" = some (some (.ref fI))
  tC : typeIn K (.ref fI) = some (.type "function")
  kC : keepIn K (.ref C) = true
  exC : subIn K (.ref C) (.type "BaseException") = some true
  tyC : typeIn K (.ref C) = some (.type "type")
  hdC : hasDictIn K C = true
  te : exmOne K (.ref C) (.ref C) = some true
  fn : ∃ (oc : Value) (od : Option Addr) (doc pm : Value) (an : Option Addr) (cdv ct : Value) (osl : Array (Option Value)) (p1 p2 q1 q2 q3 q4 : Pos),
    K.lookup fI = some ⟨oc, od, .func (fnOf "__init__" "NoText.__init__" (iA p1 p2) (iB q1 q2 q3 q4) iS .none .none doc pm an cdv ct), osl⟩ ∧ codeIn K cdv "NoText.__init__" = true
structure InitEnd (h h' : Heap) (x C dx t1 : Addr) (v : Value) : Prop where
  keep : ∀ b o, b ≠ x → h.get? b = some o → h'.get? b = some o
  obj : h'.get? x = some { cls := .ref C, dict := some dx, data := .fields #[.ref t1, .none, .none, .none, .bool false, .none] }
  dbig : h.objs.size ≤ dx
  dne : dx ≠ x
  ns : h'.Ns1 dx (fun y => if y = "row" then some v else none)
structure OwnMade (h h' : Heap) (e C d : Addr) (v : Value) : Prop where
  keep : ∀ b o, h.get? b = some o → h'.get? b = some o
  new : h.objs.size ≤ e
  obj : ∃ oe vs, h'.get? e = some oe ∧ oe.cls = .ref C ∧ oe.dict = some d ∧ oe.data = .fields vs ∧ vs[1]? = some .none
  dbig : h.objs.size ≤ d
  dne : d ≠ e
  ns : h'.Ns1 d (fun y => if y = "row" then some v else none)
section
variable {prog : Program} {w : World} {A : Around} {E : Value → Shared → Prop} {R : Result → Shared → Prop} {s : Shared} {K : Frag} {mg : Str → Option Value} {C fI : Addr}
end
end RowX
end PySem
namespace L2
open PySem PySem.Spec PyProof.Rows
section
variable {X : Cx} {C fI : Addr}
def tMkRow (C : Addr) (ta : TA) : St → Hp → XK → Prop := fun σ H Q => ta σ H fun vs H1 => ∃ v, vs = [v] ∧ ∀ d, H1 d = none → Q (.ref C) (some d) (upd H1 d (.xd [(("row" : Str), v)]))
def tRaiseRow (C : Addr) (W : WX) (ta : TA) : TS := fun _ σ H => tMkRow C ta σ H fun cls d H' => W cls d σ H'
def tByRow (C : Addr) (a : Addr) (cls : Value) (d : Option Addr) (te : TE) : TE := fun σ H Q => te σ H fun x H1 => x = .ref a ∧ cls = .ref C ∧ ∃ (dd : Addr) (v : V), d = some dd ∧ H1 dd = some (.xd [(("row" : Str), v)]) ∧ Q v H1
end
end L2
namespace G
open PySem PySem.Spec PyProof.Rows L2
def HasRow (K : Frag) (mg : PySem.Str → Option Value) : Prop := ∃ C fI, PySem.RowX.RowTxt K mg C fI
theorem payRep_mono {p : Pay} {d : Option Addr} {H H' : Hp} (s : Same H H') (h : payRep p d H) : payRep p d H' := by
  cases p with
  | no => exact h
  | int i => obtain ⟨x, e, q⟩ := h; exact ⟨x, e, s _ _ q⟩
  | _ => obtain ⟨x, p, o, e, q, r⟩ := h; exact ⟨x, p, o, e, s _ _ q, s _ _ r⟩
theorem payRep_tups {p : Pay} {d : Option Addr} {H : Hp} (h : payRep p d H) : payRep p d (tups H) := by
  cases p with
  | no => exact h
  | int i => obtain ⟨x, e, q⟩ := h; exact ⟨x, e, tups_some q rfl⟩
  | _ => obtain ⟨x, p, o, e, q, r⟩ := h; exact ⟨x, p, o, e, tups_some q rfl, tups_some r rfl⟩
def exP (a : Addr) (p : Pay) (d : Option Addr) : Slot := ⟨fun _ F _ o => o = some (.ref a) ∧ payRep p d F, fun s _ h => ⟨h.1, payRep_mono s h.2⟩⟩
def isE2 (t : ETab) (x : Exn) : Res Bool := match lookB t x.cls with
  | some b => .ok b
  | none => .stuck
def lookBs : List ETab → Str → Option Bool
  | [], _ => some false
  | t :: r, n => match lookB t n with
    | some true => some true
    | some false => lookBs r n
    | none => none
def isE2s (ts : List ETab) (x : Exn) : Res Bool := match lookBs ts x.cls with
  | some b => .ok b
  | none => .stuck
def rowR (x : Exn) : Res Int := match x.pay with
  | .int i => if x.cls = "NoText" then .ok i else .stuck
  | _ => .stuck
section
variable {X : Cx} {W : WX} {ss : List Slot} {rest : List Stmt}
def dOk (d : Option Addr) (H : Hp) : Prop := match d with
  | none => True
  | some dd => ∃ fs, H dd = some (.xd fs)
def rIsX (K : Frag) (D a : Addr) (d : Option Addr) : List V → Hp → VK → Prop := fun xs H Q => ∃ (c : V) (cv : Value) (b : Bool), xs = [.ref a, c] ∧ (∀ u, RelV c u → u = cv) ∧ PySem.W.kitOne K (.ref D) cv = some b ∧ dOk d H ∧ Q (.bl b) H
def rIsXT (K : Frag) (D a : Addr) (d : Option Addr) : List V → Hp → VK → Prop := fun xs H Q => ∃ (p : Addr) (vs : List V) (cvs : List Value) (b : Bool), xs = [.ref a, .ref p] ∧ H p = some (.tup vs) ∧ (∀ us, Vals vs us → us = cvs) ∧ PySem.W.kitAny K (.ref D) cvs = some b ∧ dOk d H ∧ Q (.bl b) H
inductive ITs (X : Cx) : List Expr → List ETab → Prop
  | nil : ITs X [] []
  | cons {y : Str} {p : Pos} {tab : ETab} {es : List Expr} {ts : List ETab} (T : ITab X.K X.mg y tab) (hg : Gl X y) (hdb : (y == ("__debug__" : Str)) = false) (he : starEach (.Name y p :: es) X.env = (false, eval (.Name y p) X.env) :: starEach es X.env) (r : ITs X es ts) : ITs X (.Name y p :: es) (tab :: ts)
end
end G

namespace G
open PySem PySem.Spec PyProof.Rows L2
def slC {α A : Type} (kd : α → Slot) (sl : A → List Slot) (x : α × A) : List Slot := kd x.1 :: sl x.2
def slN (_ : Unit) : List Slot := []
section
variable (X : Cx) (W : WX)
def rAO {A : Type} (ss : List Slot) (m : Res A) (sl : A → List Slot) : TA := fun σ H Q =>
  ∃ F, Same F H ∧ Sl X.K F H ss σ ∧ wpR X W m σ H fun a => ∀ (vs : List V) H' F' Gs, Same H H' → Ext F H F' H' → (∀ G ∈ Gs, Priv G H F' H') → Gs.Pairwise Dj → All3 X.K F' (sl a) Gs (vs.map some) → Q vs H'
def XAO {A : Type} (ss : List Slot) (es : List Expr) (m : Res A) (sl : A → List Slot) : Prop := PA X es (rAO X W ss m sl)
end
section
variable {X : Cx} {W : WX} {ss : List Slot} {e : Expr} {es : List Expr}
end
def spO (K : Frag) (mg : Str → Option Value) {A R : Type} (sl : A → List Slot) (f : A → Res R) (kr : R → Slot) : Sp := fun vs H Q E => ∃ (a : A) (B F : Hp) (Gs : List Hp), All3 K F (sl a) Gs (vs.map some) ∧ Same F H ∧ Same B H ∧ (∀ G ∈ Gs, Priv G B F H) ∧ Gs.Pairwise Dj ∧
  match f a with
  | .ok r => ∀ v H' F' G', Same B H' → Ext F B F' H' → Priv G' B F' H' → (kr r).P K F' G' (some v) → Q v H'
  | .exc x => ∀ cls d H', mg x.cls = some cls → Same B H' → payRep x.pay d H' → E cls d H'
  | .stuck => False
theorem All3.len {K : Frag} {F : Hp} : ∀ {ss : List Slot} {Gs : List Hp} {σ : L2.St}, All3 K F ss Gs σ → ss.length = σ.length ∧ Gs.length = σ.length
  | [], [], [], _ => ⟨rfl, rfl⟩
  | _ :: _, _ :: _, _ :: _, h => ⟨congrArg (· + 1) (All3.len h.2).1, congrArg (· + 1) (All3.len h.2).2⟩
  | [], _ :: _, _, h => h.elim
  | [], [], _ :: _, h => h.elim
  | _ :: _, [], _, h => h.elim
  | _ :: _, _ :: _, [], h => h.elim
structure CalO (P : Program) (w : World) (K : Frag) (mg : Str → Option Value) (base : Heap) (k : Nat) (x : Str) {A R : Type} (sl : A → List Slot) (g : A → Res R) (kr : R → Slot) : Prop where
  ex : ∃ f fd ps, FnOk P w K mg base (L2.CX P w) k f fd ps (spO K mg sl g kr) ∧ mg x = some (.ref f) ∧ PySem.W.keepIn K (.ref f) = true ∧ Binds K fd ps []
section
variable {P : Program} {w : World} {K : Frag} {mg : Str → Option Value} {base : Heap}
end
section
variable {X : Cx} {W : WX} {ss : List Slot} {k j : Nat} {x : Str} {A R : Type} {sl : A → List Slot} {g : A → Res R} {kr : R → Slot} {p pos : Pos} {e : Expr} {es : List Expr}
end
end G

namespace G
open PySem PySem.Spec PyProof.Rows L2
section
variable {X : Cx} {W : WX} {ss : List Slot} {pos : Pos} {e e2 : Expr}
def insR {α : Type} (xs : List α) (k : Int) (a : α) : Res (List α) := guardR (big xs.length && (decide (0 ≤ k) && decide (k < 2 ^ 62))) (.ok (xs.take k.toNat ++ [a] ++ xs.drop k.toNat))
def popR {α : Type} (xs : List α) (k : Int) : Res (List α) := match ixN xs.length k with
  | some n => guardR (decide (-(2 ^ 62) ≤ k) && decide (k < 2 ^ 62)) (.ok (xs.eraseIdx n))
  | none => .stuck
theorem All2.erase {α β : Type} {P : α → β → Prop} : ∀ (i : Nat) {as : List α} {bs : List β}, All2 P as bs → All2 P (as.eraseIdx i) (bs.eraseIdx i)
  | _, [], [], _ => trivial
  | 0, _ :: _, _ :: _, ⟨_, y⟩ => y
  | i + 1, _ :: _, _ :: _, ⟨x, y⟩ => ⟨x, All2.erase i y⟩
  | _, [], _ :: _, x => x.elim
  | _, _ :: _, [], x => x.elim
end
end G

namespace G
open PySem PySem.Spec PyProof.Rows L2
def rGtT (K : Frag) : R2 := fun x y H Q => ∃ (a b : Addr) (i j k l : Int), x = .ref a ∧ y = .ref b ∧ SqT K H a [.int i, .int j] ∧ SqT K H b [.int k, .int l] ∧ Q (.bl (!leP (i, j) (k, l))) H
section
variable {X : Cx}
end
end G

namespace G
open PySem PySem.Spec PyProof.Rows L2
class Md where
  mg : PySem.Str → Option Value
def ExV (cls : Value) (d : Option Addr) (a : Addr) : HO := .ext fun h => ∃ (oe : Obj) (vs : Array Value), h.get? a = some oe ∧ Zc cls d oe ∧ oe.data = .fields vs
section
variable {X : Cx} {pins : List (Addr × Obj)} {σ : L2.St} {H : Hp} {B : Heap} {a : Addr} {cls : Value} {d : Option Addr} {sI s : Shared}
theorem Lies.on (l : Lies X pins σ H B a cls d sI s) (hs : X.stack = X.env :: X.outer) (hf : X.env.frame = some X.env.locals) {W : WX} (tk : Takes X W) (wish : W cls d σ H) {Q : Flow → Shared → Prop} :
    wpAny (model X.prog X.w) X.A (handleBy (.ref a) X.env []) Q X.xe s := by
  refine wpAny_handleBy_nil ?_
  obtain ⟨oe, vs, tb, ot, ts, f1, f2, f3, f4, f5⟩ := l.air.2.2.2
  have away : wpAny (model X.prog X.w) X.A (setFlight (.ref a) X.env.frame) (fun _ => wpAny (model X.prog X.w) X.A (throw (.ref a) : Sem Flow) Q X.xe) X.xe s := by
    rw [hf]
    refine HandSPX.setFlight_upZ l.air fun h noted g => wpAny_throw (tk _ _ ⟨a, B, sI, pins, σ, H, cls, d, rfl, l.before, l.low, l.grew.trans g, .inr (.inr ?_), l.fresh, l.sys, l.gen, wish⟩)
    rw [hs]
    exact noted
  unfold PySem.passOn
  refine wpAny_bind (wpAny_field f1 f3 f4 ?_)
  have no : ¬ ((Value.ref tb == Value.none) = true) := fun z => by simp at z
  rw [if_neg no]
  first
    | exact wpAny_bind (wpAny_pure (wpAny_bind away))
    | exact wpAny_bind away
end
def wKeep (K : PySem.W.Frag) (c : Value) (i j : Nat) (Wout : WX) (D : Ends) : WX := fun cls d σ H =>
  ∃ b, PySem.W.exmOne K cls c = some b ∧ (b = true → ∀ a oe, H a = none → D.nx (((σ.set i (some (.ref a))).set j (some (.ref a))).set i none) (upd H a (.frz oe (ExV cls d a)))) ∧ (b = false → Wout cls d σ H)
section
variable {X : Cx} {x n v : Str} {c : Value} {i j : Nat} {body : List Stmt} {np pos pos' ep vp ap : Pos} {tb : WX → TS} {Wout : WX}
end
end G

namespace G
open PySem PySem.Spec PyProof.Rows L2
def IsEx (u : HO) (cls : Value) (d : Option Addr) (a : Addr) : Prop := ∃ φ, u = .ext φ ∧ ∀ h, φ h → ∃ (oe : Obj) (vs : Array Value), h.get? a = some oe ∧ Zc cls d oe ∧ oe.data = .fields vs
instance [Md] : Enc Exn := ⟨fun _ H v x => ∃ (a C : Addr) (d : Option Addr) (oe : Obj) (u : HO), v = .ref a ∧ Md.mg x.cls = some (.ref C) ∧ H a = some (.frz oe u) ∧ IsEx u (.ref C) d a ∧ payRep x.pay d H,
  fun s ⟨a, C, d, oe, u, e, h, q, z, p⟩ => ⟨a, C, d, oe, u, e, h, s _ _ q, z, payRep_mono s p⟩⟩
instance [Md] : Imm Exn := ⟨fun ⟨a, C, d, oe, u, e, h, q, z, p⟩ => ⟨a, C, d, oe, u, e, h, tups_some q rfl, z, payRep_tups p⟩⟩
instance [Md] : NN Exn := ⟨fun ⟨a, C, d, oe, u, e, _⟩ z => by rw [z] at e; cases e⟩
section
variable [Md] {X : Cx} {W : WX} {ss : List Slot}
end
section
variable {X : Cx}
def rIsV (K : Frag) : List V → Hp → VK → Prop := fun xs H Q => ∃ (a D : Addr) (d : Option Addr) (oe : Obj) (u : HO) (c : V) (cv : Value) (b : Bool), xs = [.ref a, c] ∧ (H a = some (.frz oe u) ∧ IsEx u (.ref D) d a) ∧ ExcC K D ∧ (∀ u, RelV c u → u = cv) ∧ PySem.W.kitOne K (.ref D) cv = some b ∧ dOk d H ∧ Q (.bl b) H
def rIsVT (K : Frag) : List V → Hp → VK → Prop := fun xs H Q => ∃ (a D : Addr) (d : Option Addr) (oe : Obj) (u : HO) (p : Addr) (vs : List V) (cvs : List Value) (b : Bool), xs = [.ref a, .ref p] ∧ (H a = some (.frz oe u) ∧ IsEx u (.ref D) d a) ∧ ExcC K D ∧ H p = some (.tup vs) ∧ (∀ us, Vals vs us → us = cvs) ∧ PySem.W.kitAny K (.ref D) cvs = some b ∧ dOk d H ∧ Q (.bl b) H
end
section
variable [Md] {X : Cx} {W : WX} {ss : List Slot} {e1 : Expr}
end
section
variable {X : Cx} {W : WX} {ss : List Slot} {e1 e2 : Expr}
def rCountD (K : Frag) : V → List V → Hp → VK → Prop := fun x xs H Q => ∃ (a : Addr) (y : V) (d : PyData) (ds : List PyData), x = V.ref a ∧ xs = [y] ∧ Dp K H (V.ref a) (.list ds) ∧ Dp K H y d ∧
  SeqAt.shaped (.list ds) = true ∧ SeqAt.shaped d = true ∧ Q (.int (ds.countP fun z => PyData.eqv z d : Nat)) H
def countD {α : Type} [Enc α] [Dat α] (xs : List α) (a : α) : Res Int := guardR (Dat.lay a && Dat.lay xs) (.ok ((xs.countP fun z => PyData.eqv (Dat.py z) (Dat.py a) : Nat) : Int))
def indexD {α : Type} [Enc α] [Dat α] (xs : List α) (a : α) : Res Int := guardR (Dat.lay a && Dat.lay xs) (match xs.findIdx? fun z => PyData.eqv (Dat.py z) (Dat.py a) with
  | some j => .ok (j : Int)
  | none => .stuck)
end
end G

namespace G
open PySem PySem.Spec PyProof.Rows L2
section
variable {κ β : Type} [Enc κ] [DecidableEq κ] [DK κ] [Enc β]
def fzd (d : Dic κ β) : Slot :=
  ⟨fun K F _ o => ∃ p kvs ob, o = some (.ref p) ∧ F p = some (.frz ob (DK.ho kvs)) ∧ RepD K F kvs d.l, fun s _ ⟨p, kvs, ob, e, h, r⟩ => ⟨p, kvs, ob, e, s _ _ h, r.mono s⟩⟩
instance : View (fzd (κ := κ) (β := β)) := ⟨fun ⟨p, kvs, ob, e, g, r⟩ => by cases e; exact ⟨p, kvs, rfl, .inr ⟨ob, g⟩, r⟩⟩
variable {X : Cx} {W : WX} {ss : List Slot}
end
class DKI (κ : Type) [Enc κ] [DecidableEq κ] [DK κ] where
  it : Addr → Obj → List (κ × V) → It
  pi : ∀ {X : Cx} {tg e : Expr} {j : Nat}, PE X e (tVar j) → PI X tg e (fun σ H R => ∃ d o kvs, σ[j]? = some (some (V.ref d)) ∧ H d = some (.frz o (DK.ho (κ := κ) kvs)) ∧ R (it d o kvs) H)
  go : ∀ {H : Hp} {d : Addr} {o : Obj} {kvs : List (κ × V)} {i : Nat}, H d = some (.frz o (DK.ho kvs)) → i < kvs.length → (it d o kvs).go i H
  yld : ∀ {K : Frag} {H H' : Hp} {d : Addr} {o : Obj} {kvs : List (κ × V)} {i : Nat} {v : V}, (it d o kvs).yld i H v H' → H' = H ∧ ∃ kv, kvs[i]? = some kv ∧ Enc.rep K H v kv.1
  stop : ∀ {H : Hp} {d : Addr} {o : Obj} {kvs : List (κ × V)} {i : Nat}, H d = some (.frz o (DK.ho kvs)) → kvs.length ≤ i → (it d o kvs).stop i H
theorem get_map {α γ : Type} {f : α → γ} {l : List α} {i : Nat} {b : γ} (h : (l.map f)[i]? = some b) : ∃ a, l[i]? = some a ∧ f a = b := by
  rw [List.getElem?_map] at h
  cases e : l[i]? with
  | none => rw [e] at h; cases h
  | some a => rw [e] at h; exact ⟨a, rfl, Option.some.inj h⟩
def kI (kvs : List (Int × V)) : List (Key × V) := kvs.map fun kv => (Sum.inl kv.1, kv.2)
def kS (kvs : List (Str × V)) : List (Key × V) := kvs.map fun kv => (Sum.inr kv.1, kv.2)
def kP (kvs : List ((Int × Int) × V)) : List (List Key × V) := kvs.map fun kv => (key2 kv.1, kv.2)
theorem kI_len (kvs : List (Int × V)) : (kI kvs).length = kvs.length := List.length_map _
theorem kS_len (kvs : List (Str × V)) : (kS kvs).length = kvs.length := List.length_map _
theorem kP_len (kvs : List ((Int × Int) × V)) : (kP kvs).length = kvs.length := List.length_map _
instance : DKI Int where
  it := fun d o kvs => Itk d o (kI kvs)
  pi := fun he => PI_imp (pi_keys he) fun σ H R ⟨d, o, kvs, e, h, q⟩ => ⟨.ref d, e, d, o, rfl, .inl ⟨kI kvs, h, q⟩⟩
  go := fun {_ _ _ kvs _} h hi => ⟨h, by rw [kI_len]; exact hi⟩
  yld := fun ⟨e, k, v, h, hx⟩ => by
    obtain ⟨kv, q, z⟩ := get_map h
    cases z
    exact ⟨e, kv, q, hx⟩
  stop := fun {_ _ _ kvs _} h hi => ⟨h, by rw [kI_len]; exact hi⟩
instance : DKI Str where
  it := fun d o kvs => Itk d o (kS kvs)
  pi := fun he => PI_imp (pi_keys he) fun σ H R ⟨d, o, kvs, e, h, q⟩ => ⟨.ref d, e, d, o, rfl, .inl ⟨kS kvs, h, q⟩⟩
  go := fun {_ _ _ kvs _} h hi => ⟨h, by rw [kS_len]; exact hi⟩
  yld := fun ⟨e, k, v, h, hx⟩ => by
    obtain ⟨kv, q, z⟩ := get_map h
    cases z
    exact ⟨e, kv, q, hx⟩
  stop := fun {_ _ _ kvs _} h hi => ⟨h, by rw [kS_len]; exact hi⟩
instance : DKI (Int × Int) where
  it := fun d o kvs => Itkt d o (kP kvs)
  pi := fun he => PI_imp (pi_keys he) fun σ H R ⟨d, o, kvs, e, h, q⟩ => ⟨.ref d, e, d, o, rfl, .inr ⟨kP kvs, h, q⟩⟩
  go := fun {_ _ _ kvs _} h hi => ⟨h, by rw [kP_len]; exact hi⟩
  yld := fun ⟨e, k, v, a, h, hx, ha⟩ => by
    obtain ⟨kv, q, z⟩ := get_map h
    cases z
    exact ⟨e, kv, q, a, .int kv.1.1, .int kv.1.2, hx, ha, rfl, rfl⟩
  stop := fun {_ _ _ kvs _} h hi => ⟨h, by rw [kP_len]; exact hi⟩
section
variable {κ β : Type} [Enc κ] [DecidableEq κ] [DK κ] [DKI κ] [Imm κ] [Enc β] {X : Cx} {W : WX} {ss : List Slot}
end
end G

namespace G
open PySem PySem.Spec PyProof.Rows L2
section
variable {X : Cx} {C fI : Addr}
end
section
variable [Md] {X : Cx} {W : WX} {ss : List Slot} {e1 : Expr}
end
end G

namespace PySem
namespace BdsX
open PySem.W PySem.Calls PyProof.Rows PySem.HandSPX
def iA (p1 p2 : Pos) : Arguments := { posonlyargs := [], args := [{ arg := "self", annotation := none, pos := p1 }, { arg := "boards", annotation := none, pos := p2 }], vararg := none, kwonlyargs := [], kw_defaults := [], kwarg := none, defaults := [] }
def iB (q1 q2 q3 q4 : Pos) : List Stmt := [.Assign [.Attribute (.Name "self" q1) "boards" q2] (.Name "boards" q3) q4]
def iS : Scope := { kind := .function, names := [(PySem.Str.ofString "self", .local), (PySem.Str.ofString "boards", .local)], isGenerator := false, isCoroutine := false, more := [] }
structure BdsTxt (K : Frag) (mg : Str → Option Value) (C fI : Addr) : Prop where
  gC : mg "Round" = some (.ref C)
  cls : ∃ nm q N bs bm sn sub ab col dd k0 k1 k2 k3 k5, K.lookup C = some (excClassObj nm q C N bs bm true sn sub ab col dd k0 k1 k2 k3 k5 "ValueError.__new__") ∧ refsVE bm = true
  sa : findIn K (.ref C) "__setattr__" = some (some (.builtin "object.__setattr__"))
  ga : findIn K (.ref C) "__getattribute__" = some (some (.builtin "BaseException.__getattribute__"))
  gg : findIn K (.ref C) "__getattr__" = some none
  noN : findIn K (.ref C) "boards" = some none
  iC : findIn K (.ref C) "__init__" = some (some (.ref fI))
  tC : typeIn K (.ref fI) = some (.type "function")
  kC : keepIn K (.ref C) = true
  exC : subIn K (.ref C) (.type "BaseException") = some true
  tyC : typeIn K (.ref C) = some (.type "type")
  hdC : hasDictIn K C = true
  te : exmOne K (.ref C) (.ref C) = some true
  fn : ∃ (oc : Value) (od : Option Addr) (doc pm : Value) (an : Option Addr) (cdv ct : Value) (osl : Array (Option Value)) (p1 p2 q1 q2 q3 q4 : Pos),
    K.lookup fI = some ⟨oc, od, .func (fnOf "__init__" "Round.__init__" (iA p1 p2) (iB q1 q2 q3 q4) iS .none .none doc pm an cdv ct), osl⟩ ∧ codeIn K cdv "Round.__init__" = true
structure InitEnd (h h' : Heap) (x C dx t1 : Addr) (v : Value) : Prop where
  keep : ∀ b o, b ≠ x → h.get? b = some o → h'.get? b = some o
  obj : h'.get? x = some { cls := .ref C, dict := some dx, data := .fields #[.ref t1, .none, .none, .none, .bool false, .none] }
  dbig : h.objs.size ≤ dx
  dne : dx ≠ x
  ns : h'.Ns1 dx (fun y => if y = "boards" then some v else none)
structure OwnMade (h h' : Heap) (e C d : Addr) (v : Value) : Prop where
  keep : ∀ b o, h.get? b = some o → h'.get? b = some o
  new : h.objs.size ≤ e
  obj : ∃ oe vs, h'.get? e = some oe ∧ oe.cls = .ref C ∧ oe.dict = some d ∧ oe.data = .fields vs ∧ vs[1]? = some .none
  dbig : h.objs.size ≤ d
  dne : d ≠ e
  ns : h'.Ns1 d (fun y => if y = "boards" then some v else none)
section
variable {prog : Program} {w : World} {A : Around} {E : Value → Shared → Prop} {R : Result → Shared → Prop} {s : Shared} {K : Frag} {mg : Str → Option Value} {C fI : Addr}
end
end BdsX
end PySem
namespace L2
open PySem PySem.Spec PyProof.Rows
section
variable {X : Cx} {C fI : Addr}
def tMkBds (C : Addr) (ta : TA) : St → Hp → XK → Prop := fun σ H Q => ta σ H fun vs H1 => ∃ v, vs = [v] ∧ ∀ d, H1 d = none → Q (.ref C) (some d) (upd H1 d (.xd [(("boards" : Str), v)]))
end
end L2

namespace G
open PySem PySem.Spec PyProof.Rows L2
def HasBds (K : Frag) (mg : PySem.Str → Option Value) : Prop := ∃ C fI, PySem.BdsX.BdsTxt K mg C fI
structure FzL where
  l : List Str
instance : Enc FzL := ⟨fun K H v x => ∃ p, v = .ref p ∧ SqL K H p (x.l.map V.str), fun s ⟨p, e, h⟩ => ⟨p, e, s.seq h⟩⟩
theorem dp_strs {K : Frag} {H : Hp} : ∀ xs : List Str, DpAll K H (xs.map V.str) (xs.map PyData.str)
  | [] => .nil
  | x :: xs => .cons (.str x) (dp_strs xs)
theorem lay_strs : ∀ {xs : List Str}, xs.all PyData.strOk = true → PyData.canLayAll0 (xs.map PyData.str) = true
  | [], _ => by simp [PyData.canLayAll0]
  | x :: xs, h => by
    rw [List.all_cons, Bool.and_eq_true] at h
    simp only [List.map_cons, PyData.canLayAll0, Bool.and_eq_true]
    exact ⟨by simpa [PyData.canLay0] using h.1, lay_strs h.2⟩
theorem dep_strs : ∀ xs : List Str, PyData.depthAll (xs.map PyData.str) ≤ 0
  | [] => by simp [PyData.depthAll]
  | x :: xs => by
    simp only [List.map_cons, PyData.depthAll]
    exact Nat.max_le.mpr ⟨by simp [PyData.depth], dep_strs xs⟩
instance : Dat FzL where
  py := fun x => .list (x.l.map .str)
  dp := fun ⟨p, e, h⟩ => by rw [e]; exact .lst h (dp_strs _)
  lay := fun x => x.l.all PyData.strOk
  dep := 1
  layOk := fun h => by simp only [PyData.canLay0]; exact lay_strs h
  depOk := fun x => by simp only [PyData.depth]; exact Nat.succ_le_succ (dep_strs x.l)
def boardsR (x : Exn) : Res FzL := match x.pay with
  | .strs xs => if x.cls = "Round" then .ok ⟨xs⟩ else .stuck
  | _ => .stuck
section
variable {X : Cx} {C fI : Addr}
end
section
variable [Md] {X : Cx} {W : WX} {ss : List Slot} {e1 : Expr}
end
end G

namespace G
open PySem PySem.Spec PyProof.Rows L2
inductive OrP where
  | pr (x : Int × Int)
  | dy (d : Dy)
instance : Inhabited OrP := ⟨.dy .non⟩
instance : Enc OrP := ⟨fun K H v o => match o with
    | .pr x => Enc.rep K H v x
    | .dy d => Enc.rep K H v d,
  fun {K H H' v o} s h => by
    cases o with
    | pr x => exact Enc.mono (α := Int × Int) s h
    | dy d => exact Enc.mono (α := Dy) s h⟩
instance : ToDy OrP := ⟨fun o => match o with
    | .pr x => ToDy.dy x
    | .dy d => d,
  fun {K H v o} h => by
    cases o with
    | pr x => exact ToDy.rep (α := Int × Int) h
    | dy d => exact h⟩
def prP : OrP → Res (Int × Int)
  | .pr x => .ok x
  | .dy _ => .stuck
section
variable {X : Cx} {W : WX} {ss : List Slot} {e : Expr}
end
end G
namespace G
open PySem PySem.Spec PyProof.Rows L2
section
variable {X : Cx} {W : WX} {ss : List Slot} {κ β : Type} [Enc κ] [DecidableEq κ] [DK κ] [Enc β]
end
end G

namespace G
open PySem PySem.Spec PyProof.Rows L2
section
variable {X : Cx}
def rInDT (neg : Bool) (K : Frag) : R2 := fun x y H Q => ∃ d ds, Dp K H x d ∧ Dp K H y (.tuple ds) ∧ SeqAt.shaped d = true ∧ SeqAt.shaped (.tuple ds) = true ∧ Q (.bl (neg != ds.any fun z => PyData.eqv z d)) H
end
def inDT {α : Type} [Enc α] [Dat α] (a : α) (xs : Tup α) : Res Bool := guardR (Dat.lay a && Dat.lay xs) (.ok (xs.l.any fun z => PyData.eqv (Dat.py z) (Dat.py a)))
def ninDT {α : Type} [Enc α] [Dat α] (a : α) (xs : Tup α) : Res Bool := guardR (Dat.lay a && Dat.lay xs) (.ok (!xs.l.any fun z => PyData.eqv (Dat.py z) (Dat.py a)))
section
variable {X : Cx} {W : WX} {ss : List Slot}
end
instance {α : Type} [Enc α] : NNO (l1 (α := α)) := ⟨fun ⟨_, _, e, _⟩ z => by rw [z] at e; cases e⟩
instance {α : Type} [Enc α] {d : Ow α} : NNO (lsO d) := ⟨fun ⟨_, _, _, e, _⟩ z => by rw [z] at e; cases e⟩
section
variable {X : Cx}
def rRemD (K : Frag) : V → List V → Hp → VK → Prop := fun x xs H Q => ∃ (l : Addr) (vs : List V) (y : V) (d : PyData) (ds : List PyData) (j : Nat), x = V.ref l ∧ xs = [y] ∧ H l = some (.lst vs) ∧ DpAll K H vs ds ∧ Dp K H y d ∧
  SeqAt.shaped (.list ds) = true ∧ SeqAt.shaped d = true ∧ SeqAt.dataPlace ds d = some j ∧ Q .non (upd H l (.lst (vs.eraseIdx j)))
end
def remR {α : Type} [Enc α] [Dat α] (xs : List α) (a : α) : Res (List α) := guardR (Dat.lay a && Dat.lay xs) (match xs.findIdx? fun z => PyData.eqv (Dat.py z) (Dat.py a) with
  | some j => .ok (xs.eraseIdx j)
  | none => .stuck)
section
variable {X : Cx} {W : WX} {ss : List Slot} {e : Expr} {pos : Pos}
end
end G

namespace G
open PySem PySem.Spec PyProof.Rows L2
section
variable {X : Cx} {W : WX} {ss : List Slot} {rest : List Stmt} {pos : Pos} {e : Expr}
end
def ltS (x y : Str) : Bool := PySem.W.dataLt (.str x) (.str y)
def minT (x : Str) (xs : List Str) : Str := xs.foldl (fun a y => if ltS y a then y else a) x
section
variable {X : Cx}
def rMinT (K : Frag) : List V → Hp → VK → Prop := fun vs H Q => ∃ (a : Addr) (x : Str) (xs : List Str), vs = [V.ref a] ∧ SqL K H a ((x :: xs).map V.str) ∧ Q (.str (minT x xs)) H
end
def minTL : List Str → Res Str
  | [] => .stuck
  | x :: xs => .ok (minT x xs)
section
variable {X : Cx} {W : WX} {ss : List Slot} {k : Nat} {a : Expr} {p pos : Pos}
end
end G

namespace G
open PySem PySem.Spec PyProof.Rows L2
section
variable {prog : Program} {w : World} {A : Around} {E : Value → Shared → Prop} {s : Shared} {a kS : Addr} {vs : List Value} {keys : Array Value} {e e1 : Nat} {P : PySem.Fin → Shared → Prop}
end
theorem FpOk.un {X : Cx} {pins : List (Addr × Obj)} {H H' : Hp} {b : Addr} (f : FpOk X pins H b) (n : H' b = none) : FpOk X pins H' b := ⟨n, f.2⟩
theorem eachV {β : Type} {R : V → β → Prop} : ∀ {us : List Value} {bs : List β}, PySem.W.EachIs (fun u b => ∃ x, RelV x u ∧ R x b) us bs → ∃ xs, Vals xs us ∧ All2 R xs bs
  | _, _, .nil => ⟨[], .nil, trivial⟩
  | _, _, .cons ⟨x, r, h⟩ t => by
    obtain ⟨xs, a, b⟩ := eachV t
    exact ⟨x :: xs, .cons r a, h, b⟩
theorem eachOf {β : Type} {R : V → β → Prop} : ∀ {xs : List V} {us : List Value} {bs : List β}, Vals xs us → All2 R xs bs → PySem.W.EachIs (fun u b => ∃ x, RelV x u ∧ R x b) us bs
  | [], _, [], .nil, _ => .nil
  | _ :: _, _, _ :: _, .cons r t, ⟨h, h'⟩ => .cons ⟨_, r, h⟩ (eachOf t h')
  | [], _, _ :: _, _, h => h.elim
  | _ :: _, _, [], _, h => h.elim
class Kpy (κ : Type) [Enc κ] where
  py : κ → PyData
  fit : κ → Bool
  dp : ∀ {K : Frag} {H : Hp} {v : V} {k : κ}, fit k = true → Enc.rep K H v k → Dp K H v (py k)
  dep : ∀ {k : κ}, fit k = true → (py k).depth ≤ 60
instance {κ : Type} [Enc κ] [Dat κ] : Kpy κ := ⟨Dat.py, fun _ => decide (Dat.dep κ ≤ 60), fun _ r => Dat.dp r, fun {k} h => Nat.le_trans (Dat.depOk k) (of_decide_eq_true h)⟩
instance : Kpy Dy := ⟨dyPy, fun d => noDic d && decide ((dyPy d).depth ≤ 60), fun h r => dy_dp (Bool.and_eq_true_iff.mp h).1 r, fun h => of_decide_eq_true (Bool.and_eq_true_iff.mp h).2⟩
theorem dyPys_map : ∀ xs : List Dy, dyPys xs = xs.map dyPy
  | [] => by simp [dyPys]
  | x :: xs => by simp [dyPys, dyPys_map xs]
instance : Kpy (Tup Dy) := ⟨fun t => .tuple (t.l.map dyPy), fun t => noDic (.tup t.l) && decide ((dyPy (.tup t.l)).depth ≤ 60), fun {K H v k} h ⟨p, vs, e, hp, r⟩ => by
  have q := dy_dp (K := K) (H := H) (v := v) (Bool.and_eq_true_iff.mp h).1 (by rw [e]; exact .tup hp (by have := all2_dya (f := id) (fun v a h => h) r; rwa [List.map_id] at this))
  rw [dyPy, dyPys_map] at q
  exact q, fun {k} h => by
  have q := of_decide_eq_true (Bool.and_eq_true_iff.mp h).2
  rw [dyPy, dyPys_map] at q
  exact q⟩
theorem kpyAll {κ : Type} [Enc κ] [Kpy κ] {K : Frag} {H : Hp} : ∀ {vs : List V} {ks : List κ}, (∀ k ∈ ks, Kpy.fit k = true) → All2 (fun v k => Enc.rep K H v k) vs ks → DpAll K H vs (ks.map Kpy.py)
  | [], [], _, _ => .nil
  | _ :: _, k :: ks, f, ⟨h, t⟩ => .cons (Kpy.dp (f k List.mem_cons_self) h) (kpyAll (fun x m => f x (List.mem_cons_of_mem _ m)) t)
  | [], _ :: _, _, h => h.elim
  | _ :: _, [], _, h => h.elim
def mapR {α β : Type} (f : α → Res β) : List α → Res (List β)
  | [] => .ok []
  | a :: as => (f a).bind fun b => (mapR f as).bind fun bs => .ok (b :: bs)
def isTup1 : PyData → Bool
  | .tuple (_ :: _) => true
  | _ => false
def noTup : PyData → Bool
  | .tuple _ => false
  | .none => false
  | _ => true
def srtB (ds : List PyData) : Bool := (ds.all fun a => ds.all fun b => PySem.W.alike a b) && (ds.all isTup1 || ds.all noTup)
theorem srtB_alike {ds : List PyData} (h : srtB ds = true) : PySem.W.AllAlike ds := fun d hd d' hd' => List.all_eq_true.mp (List.all_eq_true.mp (Bool.and_eq_true_iff.mp h).1 d hd) d' hd'
theorem srtB_able {ds : List PyData} (h : srtB ds = true) : PySem.W.Sortable ds := by
  rcases Bool.or_eq_true_iff.mp (Bool.and_eq_true_iff.mp h).2 with h | h
  · refine .inl fun d hd => ?_
    have q := List.all_eq_true.mp h d hd
    cases d with
    | tuple xs =>
      cases xs with
      | nil => cases q
      | cons x r => exact ⟨x, r, rfl⟩
    | _ => cases q
  · refine .inr fun d hd => ?_
    have q := List.all_eq_true.mp h d hd
    cases d with
    | tuple xs => cases q
    | none => cases q
    | _ => exact ⟨(fun z => nomatch z), fun xs z => nomatch z⟩
def srtK {α κ : Type} [Enc κ] [Kpy κ] (xs : List α) (ks : List κ) : List α := ((xs.zip ks).mergeSort (PySem.W.dataLe false fun q : α × κ => Kpy.py q.2)).map (·.1)
def sortK {α κ : Type} [Enc κ] [Kpy κ] (f : α → Res κ) (xs : List α) : Res (List α) := match mapR f xs with
  | .ok ks => guardR (ks.all Kpy.fit && srtB (ks.map Kpy.py)) (.ok (srtK xs ks))
  | _ => .stuck
section
variable {X : Cx} {W : WX} {ss : List Slot} {e : Expr}
def srtD {α : Type} [Enc α] [Kpy α] (xs : List α) : List α := xs.mergeSort (PySem.W.dataLe false fun a : α => Kpy.py a)
def sortD {α : Type} [Enc α] [Kpy α] (xs : List α) : Res (List α) := guardR (xs.all Kpy.fit && srtB (xs.map Kpy.py)) (.ok (srtD xs))
theorem cr_sortD {α : Type} [Enc α] [Kpy α] (hu : X.A.units + 64 < cLine) : CallR X (.builtin "sorted") fun vs H Q => ∃ (l : Addr) (xs : List V) (as : List α) (F0 : Hp), vs = [.ref l] ∧ H l = some (.lst xs) ∧ Same F0 H ∧ All2 (fun v a => Enc.rep X.K F0 v a) xs as ∧ (as.all Kpy.fit && srtB (as.map Kpy.py)) = true ∧
    ∀ p out, H p = none → All2 (fun v a => Enc.rep X.K F0 v a) out (srtD as) → Q (.ref p) (upd H p (.lst out)) := by
  rintro pins s σ H _ us Q I r ⟨l, xs, as, F0, rfl, hl, sF, ha, sb, fin⟩
  obtain ⟨fits, sb⟩ := Bool.and_eq_true_iff.mp sb
  rw [Vals.ref1 r]
  obtain ⟨its, vals, at_, small⟩ := I.list (SqL.of hl)
  have zi : its.length ≤ sizeLine := by rw [← vals.length]; exact small
  have rep := All2.imp (fun _ _ z => Enc.mono sF z) ha
  obtain ⟨ad, rd⟩ := Dp.readsAll I _ _ _ (kpyAll (fun k m => List.all_eq_true.mp fits k m) rep) vals
  have each := PySem.W.readsAll_each (h := s.heap) (fun a : α => Kpy.py a) rd
  refine PySem.W.sorted_data (R := fun u b => ∃ x, RelV x u ∧ Enc.rep X.K F0 x b) at_.isList (eachOf vals ha) each (srtB_alike sb) (srtB_able sb) (by rw [← ha.length, vals.length]; exact zi) (fun a m => by
    have := Kpy.dep (List.all_eq_true.mp fits a m)
    show X.A.units + 1 + 1 + _ < _
    omega) fun out lo eo => ?_
  obtain ⟨zs, vz, az⟩ := eachV eo
  obtain ⟨ep, he⟩ := PyProof.Rows.sortedAll_at s.heap its out.toArray
  have zl : zs.length ≤ sizeLine := by rw [vz.length, lo, ← ha.length, vals.length]; exact zi
  exact ⟨.ref (s.heap.objs.size + 1), upd H (s.heap.objs.size + 1) (.lst zs), I.laid (t' := s.toks) (fun _ _ => PyProof.Rows.sortedAll_old) (Nat.le_succ _) ⟨zl, out, ep, vz, he⟩, rfl, fin _ zs (I.hok.fresh (Nat.le_succ _)) az⟩
theorem xk_sortD {α : Type} [Enc α] [Kpy α] {k : Nat} {p pos : Pos} {m : Res (List α)} (hr : Room k X.A) (h : XL X W ss e m) (hm : X.mg "sorted" = none) (hg : Gl X "sorted" := by rfl) (he : starEach [e] X.env = (false, eval e X.env) :: starEach [] X.env := by rfl) (hpl : (backTo pos (starEach [] X.env)).any (·.1) = false := by rfl) :
    XK X W ss (.Call (.Name "sorted" p) [e] [] pos) (m.bind fun xs => sortD xs) ow := by
  refine PE_imp (pe_callB (cr_sortD (α := α) hr.units) hg hm (by decide +kernel) (pa_xl h he) (by decide) (by decide) he hpl) fun σ H Q ⟨F1, sf, sl, q⟩ => ⟨F1, sf, sl, wpR_imp (wpR_bind q) (Same.refl H) fun as q l vs H1 F2 s1 ex1 hl rv => ?_⟩
  unfold sortD at q
  obtain ⟨sb, q⟩ := wpR_guard q
  exact ⟨l, vs, as, F2, rfl, hl, ex1.sub, rv, sb, fun o out ho ro => new_ow s1 ex1 ho ro q⟩
end
end G

namespace G
open PySem PySem.Spec PyProof.Rows L2
section
variable {X : Cx} {W : WX} {ss : List Slot} {pos : Pos}
end
end G

namespace L2
open PySem PySem.Spec PyProof.Rows
def rRepF (K : PySem.W.Frag) : R2 := fun x y H Q => ∃ l k xs, x = .ref l ∧ y = .int k ∧ SqT K H l xs ∧ xs ≠ [] ∧ -(2 ^ 63) ≤ k ∧ k ≤ 1 ∧ xs.length ≤ 1000 ∧ (k = 1 → Q x H) ∧ (k ≤ 0 → ∀ p, H p = none → Q (.ref p) (upd H p (.tup [])))
section
variable {X : Cx}
end
end L2
namespace G
open PySem PySem.Spec PyProof.Rows L2
section
variable {X : Cx} {W : WX} {ss : List Slot} {pos : Pos} {tg e : Expr}
def popL {α : Type} (xs : List α) : Res α := match xs.getLast? with
  | some a => .ok a
  | none => .stuck
def repA {α : Type} (x : Tup α) (k : Int) : Res (Tup α) := guardR (!x.l.isEmpty && (decide (-1000 ≤ k) && (decide (k ≤ 1000) && decide (x.l.length ≤ 1000)))) (.ok ⟨(List.replicate k.toNat x.l).flatten⟩)
def rNeNil (K : PySem.W.Frag) : R2 := fun x y H Q => ∃ p p' xs, x = .ref p ∧ y = .ref p' ∧ SqL K H p xs ∧ SqL K H p' [] ∧ Q (.bl (!xs.isEmpty)) H
def neNil {α β : Type} (a : List α) (b : List β) : Res Bool := guardR b.isEmpty (.ok (!a.isEmpty))
def shrR (i j : Int) : Res Int := guardR (decide (0 ≤ j)) (.ok (i / 2 ^ j.toNat))
end
end G

namespace G
open PySem PySem.Spec PyProof.Rows L2
section
variable {X : Cx}
def tellable : PyData → Bool
  | .int i => decide (i.natAbs.log2 < 1920)
  | .str x => decide ((reprText x).length ≤ sizeLine)
  | _ => true
def rRepr (K : Frag) : List V → Hp → VK → Prop := fun xs H Q => ∃ x d, xs = [x] ∧ Dp K H x d ∧ d.showable = true ∧ d.hasDict = false ∧ d.depth ≤ 60 ∧ tellable d = true ∧ d.shown.length ≤ sizeLine ∧ Q (.str d.shown) H
def reprD (d : Dy) : Res Str := guardR (noDic d && ((dyPy d).showable && (!(dyPy d).hasDict && (decide ((dyPy d).depth ≤ 60) && (tellable (dyPy d) && decide ((dyPy d).shown.length ≤ sizeLine)))))) (.ok (dyPy d).shown)
end
def intsD : List Dy → Option (List Int)
  | [] => some []
  | .int i :: ds => (intsD ds).map (i :: ·)
  | _ => none
def dyLI : Dy → Res (List Int)
  | .lst ds => match intsD ds with
    | some is => .ok is
    | none => .stuck
  | _ => .stuck
structure FnC (P : Program) (w : World) (K : Frag) (mg : Str → Option Value) (base : Heap) (CX : CXT) (f : Addr) (fd : FuncData) (ps : List Str) (sp : Sp) : Prop where
  go : ∀ (s : Shared) (H : Hp) (args : Args) (us : List Value) (vs : List V) (Q : VK) (E : L2.XK), Env0 P w K mg base callerA [] s H → BindsTo s fd args (ps.zip us) → Vals vs us → sp vs H Q E →
    codeAny (model P w) callerA (.call (.ref f) args) (CR CX [] P w H s Q E) s
theorem FnC.imp {P : Program} {w : World} {K : Frag} {mg : Str → Option Value} {base : Heap} {CX : CXT} {f : Addr} {fd : FuncData} {ps : List Str} {sp sp' : Sp} (F : FnC P w K mg base CX f fd ps sp) (h : ∀ vs H Q E, sp' vs H Q E → sp vs H Q E) : FnC P w K mg base CX f fd ps sp' :=
  ⟨fun s H args us vs Q E e b v q => F.go s H args us vs Q E e b v (h _ _ _ _ q)⟩
section
variable {P : Program} {w : World} {K : Frag} {mg : Str → Option Value} {base : Heap}
structure Top (K : Frag) (s : Shared) (a : Addr) (O : Obj) (xs : List V) (H : Hp) : Prop where
  one : ∀ b u, H b = some u → b = a ∧ K.lookup a = none ∧ u = .frz O (.lst xs)
  sq : SqL K H a xs
end
end G

namespace G
open PySem PySem.Spec PyProof.Rows L2
class EncF (α : Type) where
  rep : List Str → Frag → Hp → List (Str × V) → α → Prop
  mono : ∀ {ns : List Str} {K : Frag} {H H' : Hp} {l : List (Str × V)} {a : α}, Same H H' → rep ns K H l a → rep ns K H' l a
  len : ∀ {ns : List Str} {K : Frag} {H : Hp} {l : List (Str × V)} {a : α}, rep ns K H l a → l.length ≤ ns.length
  no : ∀ {ns : List Str} {K : Frag} {H : Hp} {l : List (Str × V)} {a : α}, rep ns K H l a → ∀ m, m ∉ ns → l.lookup m = none
theorem len_putF (f : Str) (v : V) : ∀ l : List (Str × V), (putF f v l).length ≤ l.length + 1
  | [] => Nat.le_refl _
  | (g, x) :: r => by
    show (if g = f then (g, v) :: r else (g, x) :: putF f v r).length ≤ _
    split
    · simp
    · have := len_putF f v r
      simp only [List.length_cons]; omega
instance : EncF Unit where
  rep := fun ns _ _ l _ => ns = [] ∧ l = []
  mono := fun _ h => h
  len := fun ⟨_, h⟩ => by rw [h]; exact Nat.zero_le _
  no := fun ⟨_, h⟩ m _ => by rw [h]; rfl
instance {α β : Type} [EncF α] [Enc β] : EncF (α × β) where
  rep := fun ns K H l x => ∃ f ns' l0 y, ns = f :: ns' ∧ l = putF f y l0 ∧ EncF.rep ns' K H l0 x.1 ∧ Enc.rep K H y x.2
  mono := fun s ⟨f, ns', l0, y, e, e2, h1, h2⟩ => ⟨f, ns', l0, y, e, e2, EncF.mono s h1, Enc.mono s h2⟩
  len := fun ⟨f, ns', l0, y, e, e2, h1, h2⟩ => by
    subst e; subst e2
    have a := len_putF f y l0
    have b := EncF.len h1
    rw [List.length_cons]; omega
  no := fun ⟨f, ns', l0, y, e, e2, h1, h2⟩ m hm => by
    subst e; subst e2
    rw [lookup_putF, if_neg (fun z => hm (by rw [z]; exact List.mem_cons_self))]
    exact EncF.no h1 m fun z => hm (List.mem_cons_of_mem _ z)
class ObN (nm : String) where
  fs : List Str
class ObC (nm : String) where
  C : Addr
structure Ob (nm : String) (α : Type) where
  v : α
instance {nm : String} {α : Type} [ObN nm] [ObC nm] [EncF α] : Enc (Ob nm α) where
  rep := fun K H v o => ∃ p dx l, v = .ref p ∧ H p = some (.ins (ObC.C nm) dx l) ∧ EncF.rep (ObN.fs nm) K H l o.v
  mono := fun s ⟨p, dx, l, e, h, r⟩ => ⟨p, dx, l, e, s _ _ h, EncF.mono s r⟩
structure ObOk (K : Frag) (nm : String) [ObN nm] [ObC nm] : Prop where
  cl : Cls K (ObC.C nm)
  na : ∀ f ∈ ObN.fs nm, NoAttr K (ObC.C nm) f
  sz : (ObN.fs nm).length ≤ 100
structure Sel {α β : Type} [EncF α] [Enc β] (ns : List Str) (f : Str) (g : α → β) : Prop where
  get : ∀ {K : Frag} {H : Hp} {l : List (Str × V)} {a : α}, EncF.rep ns K H l a → ∃ y, l.lookup f = some y ∧ Enc.rep K H y (g a)
  mem : f ∈ ns
theorem sel_0 {α β : Type} [EncF α] [Enc β] {f : Str} {ns : List Str} : Sel (f :: ns) f (fun x : α × β => x.2) := ⟨fun {K H l a} ⟨f', ns', l0, y, e, e2, h1, h2⟩ => by
  cases e
  subst e2
  exact ⟨y, by rw [lookup_putF, if_pos rfl], h2⟩, List.mem_cons_self⟩
theorem sel_s {α β γ : Type} [EncF α] [Enc β] [Enc γ] {f f' : Str} {ns : List Str} {g : α → β} (h : Sel ns f g) (ne : (f == f') = false := by decide +kernel) : Sel (f' :: ns) f (fun x : α × γ => g x.1) := ⟨fun {K H l a} ⟨f2, ns', l0, y, e, e2, h1, h2⟩ => by
  cases e
  subst e2
  obtain ⟨z, hz, rz⟩ := h.get h1
  exact ⟨z, by rw [lookup_putF, if_neg (fun q => by rw [q] at ne; simp at ne)]; exact hz, rz⟩, List.mem_cons_of_mem _ h.mem⟩
section
variable {X : Cx} {W : WX} {ss : List Slot} {pos : Pos} {e : Expr}
theorem xk_fld {nm : String} {α β : Type} [ObN nm] [ObC nm] [EncF α] [Enc β] {f : Str} {g : α → β} {m : Res (Ob nm α)} (ok : ObOk X.K nm) (S : Sel (ObN.fs nm) f g) (h : XK X W ss e m fr) (hb : attributeBase e f X.env (eval e X.env) = eval e X.env := by rfl) :
    XK X W ss (.Attribute e f pos) (m.bind fun o => .ok (g o.v)) fr :=
  PE_imp (pe_fld h hb) fun σ H Q ⟨F, sf, sl, q⟩ => ⟨F, sf, sl, wpR_imp (wpR_bind q) (Same.refl H) fun o q v H1 F1 G1 s1 ex1 pr1 ⟨v', e1, p, dx, l, e2, hp, r⟩ => by
    cases e1
    subst e2
    obtain ⟨y, hl, ry⟩ := S.get r
    exact ⟨p, _, dx, l, y, rfl, ex1.sub _ _ hp, ok.cl, ok.na f S.mem, hl, q y H1 F1 noHp s1 ex1 priv_no ⟨y, rfl, ry⟩⟩⟩
end
section
variable {X : Cx} {CX : CXT} {k : Nat} {f C : Addr} {fd : FuncData} {ps : List Str} {sp : Sp} {dvs : List V} {ds : List Value} {E : L2.St → L2.XK} {x m : Str} {p pos apos : Pos} {e o : Expr} {es : List Expr} {ta : TE} {t : TA}
def tMethSD (C : Addr) (m : Str) (sp : Sp) (dvs : List V) (E : L2.St → L2.XK) (ta : TE) (t : TA) : TE := fun σ H Q => ta σ H fun x H1 => ∃ a dx fs, x = .ref a ∧ H1 a = some (.ins C dx fs) ∧ fs.lookup m = none ∧
  t σ H1 fun vs H2 => sp (x :: (vs ++ dvs)) H2 Q (E σ)
theorem pe_methSD {pl : Sem Bool} (he : PE X o ta) (c : Cls X.K C) (hm : Meth X.K C m f) (F : FnOk X.prog X.w X.K X.mg X.base CX k f fd ps sp) (hr : Room k X.A) (hb : Binds X.K fd ps ds) (hd : Vals dvs ds) (hx : ∀ σ, PassesAt CX X σ (E σ)) (ha : PA X (e :: es) t)
    (hst : starEach (e :: es) X.env = (false, eval e X.env) :: starEach es X.env := by rfl) (hpl : (backTo pos (starEach es X.env)).any (·.1) = false := by rfl)
    (ht : eval (.Call (.Attribute o m apos) (e :: es) [] pos) X.env = (do
      let ov ← eval o X.env
      standAt apos.atName
      let (f, first) ← holding [ov] (getMethod ov m pl)
      callWith pos f first (backTo pos (starEach (e :: es) X.env)) (backToKw pos (keywordEach [] X.env))) := by rfl) :
    PE X (.Call (.Attribute o m apos) (e :: es) [] pos) (tMethSD C m sp dvs E ta t) :=
  ⟨fun pins s σ H Q I h => PySem.W.methodCall_KW (pl := pl) (thn (he.run pins s σ H _ I h) fun u s1 ⟨x, H1, I1, rx, a, dx, fs, ex, ea, l, q⟩ => by
    subst ex
    obtain rfl : u = Value.ref a := rx
    refine getmeth_ok I1 ea c hm l (PySem.W.callWith_K (first := [.ref a]) (h₀ := X.base) I.ok.mod.kin hm.kp (thn (ha.run pos pins s1 σ H1 _ I1 q) fun us s2 ⟨vs, H2, I2, r, q2⟩ => ⟨I2.kIn, ?_⟩) hst hpl)
    exact run_fnSD (us := .ref a :: us) (vs := .ref a :: vs) F hr hb hd (hx σ) I2 (.cons rfl r) q2) ht⟩
theorem pe_meth0SD {pl : Sem Bool} (he : PE X o ta) (c : Cls X.K C) (hm : Meth X.K C m f) (F : FnOk X.prog X.w X.K X.mg X.base CX k f fd ps sp) (hr : Room k X.A) (hb : Binds X.K fd ps ds) (hd : Vals dvs ds) (hx : ∀ σ, PassesAt CX X σ (E σ))
    (ht : eval (.Call (.Attribute o m apos) [] [] pos) X.env = (do
      let ov ← eval o X.env
      standAt apos.atName
      let (f, first) ← holding [ov] (getMethod ov m pl)
      callWith pos f first (backTo pos (starEach [] X.env)) (backToKw pos (keywordEach [] X.env))) := by rfl) :
    PE X (.Call (.Attribute o m apos) [] [] pos) (tMethSD C m sp dvs E ta tNil) :=
  ⟨fun pins s σ H Q I h => PySem.W.methodCall_KW (pl := pl) (thn (he.run pins s σ H _ I h) fun u s1 ⟨x, H1, I1, rx, a, dx, fs, ex, ea, l, q⟩ => by
    subst ex
    obtain rfl : u = Value.ref a := rx
    exact getmeth_ok I1 ea c hm l (PySem.W.callWith_K0 (first := [.ref a]) I1.kIn hm.kp (run_fnSD (us := [.ref a]) (vs := [.ref a]) F hr hb hd (hx σ) I1 (.cons rfl .nil) q))) ht⟩
end
structure CalM (P : Program) (w : World) (K : Frag) (mg : Str → Option Value) (base : Heap) (k : Nat) (nm : String) [ObN nm] [ObC nm] (m : Str) {A' A R : Type} [EncA A'] [EncA A] (c : A' → A) (g : A → Res R) (kr : R → Slot) : Prop where
  ex : ∃ f fd ps dvs ds, FnOk P w K mg base (L2.CX P w) k f fd ps (spOf K mg g kr) ∧ Meth K (ObC.C nm) m f ∧ m ∉ ObN.fs nm ∧ Binds K fd ps ds ∧ Vals dvs ds ∧ ∀ H vs a, EncA.rep K H vs a → EncA.rep K H (vs ++ dvs) (c a)
structure IsMeth (K : Frag) (nm : String) [ObC nm] (qual m : Str) (st : Stmt) : Prop where
  ex : ∃ f fd, Fun K m qual st f fd ∧ Meth K (ObC.C nm) m f
section
variable {P : Program} {w : World} {K : Frag} {mg : Str → Option Value} {base : Heap}
theorem cal_mkM {nm : String} [ObN nm] [ObC nm] {m qual : Str} {st : Stmt} {N ps : List Str} {k : Nat} {A R : Type} [EncP A] {g : A → Res R} {kr : R → Slot} (D : IsMeth K nm qual m st) (S : FnScope N ps (defScope st)) (hl : EncP.len A = ps.length)
    (hb : ∀ (kV doc pm : Value) (an : Option Addr) (cdv ct : Value) (us : List Value), us.length = ps.length → bindArgs (PySem.W.fnOf m qual (defArgs st) (defBody st) (defScope st) .none kV doc pm an cdv ct) ⟨us, []⟩ = pure (ps.zip us))
    (hbody : ∀ (a : A) (f : Addr) (cdv : Value) (A' : Around) (outer : List Env) (s : Shared) (H : Hp) (E : L2.XK), Room k (A'.deeper (envOfC qual (defScope st) s.heap.objs.size f cdv)) →
      ST (cxOf (L2.CX P w) P w K mg base N qual (defScope st) f cdv A' outer s H E) (wE E) true (EncP.slots a ++ List.replicate (N.length - EncP.len A) any) (defBody st) (g a) kr) (hn : m ∉ ObN.fs nm := by decide +kernel) :
    CalM P w K mg base (k + 1) nm m (fun a : A => a) g kr := by
  obtain ⟨f, fd, F, hm⟩ := D.ex
  exact ⟨f, fd, ps, [], [], fn_ok F S hl fun a cdv A' outer s H E hr => hbody a f cdv A' outer s H E hr, hm, hn, F.binds hb, .nil, fun H vs a h => by rw [List.append_nil]; exact h⟩
end
section
variable {X : Cx} {W : WX} {ss : List Slot} {k j : Nat} {nm : String} [ObN nm] [ObC nm] {m : Str} {α A' A R : Type} [EncF α] [EncP A'] [EncA A] {c : Ob nm α × A' → A} {g : A → Res R} {kr : R → Slot} {p pos apos : Pos} {o e : Expr} {es : List Expr}
theorem xk_meth {pl : Sem Bool} (ok : ObOk X.K nm) (C : CalM X.prog X.w X.K X.mg X.base j nm m c g kr) (hr : Room k X.A) (tk : Takes X W) {mo : Res (Ob nm α)} {ma : Res A'} (ho : XK X W ss o mo fr) (ha : XAK X W ss (e :: es) ma) (hj : j ≤ k := by decide)
    (hst : starEach (e :: es) X.env = (false, eval e X.env) :: starEach es X.env := by rfl) (hpl : (backTo pos (starEach es X.env)).any (·.1) = false := by rfl)
    (ht : eval (.Call (.Attribute o m apos) (e :: es) [] pos) X.env = (do
      let ov ← eval o X.env
      standAt apos.atName
      let (f, first) ← holding [ov] (getMethod ov m pl)
      callWith pos f first (backTo pos (starEach (e :: es) X.env)) (backToKw pos (keywordEach [] X.env))) := by rfl) :
    XK X W ss (.Call (.Attribute o m apos) (e :: es) [] pos) (mo.bind fun o => ma.bind fun a => g (c (o, a))) kr := by
  obtain ⟨f, fd, ps, dvs, ds, F, hm, hn, hb, hd, hc⟩ := C.ex
  refine PE_imp (pe_methSD (E := fun σ cls d H => W cls d σ H) ho ok.cl hm F (hr.mono hj) hb hd (fun σ => passAt tk σ) ha hst hpl ht) fun σ H Q ⟨F0, sf, sl, q⟩ => ⟨F0, sf, sl, wpR_imp (wpR_bind q) (Same.refl H) fun ob q v H1 F1 G1 s1 ex1 pr1 ⟨v', e1, p, dx, l, e2, hp, r⟩ => ?_⟩
  cases e1
  subst e2
  refine ⟨p, dx, l, rfl, ex1.sub _ _ hp, EncF.no r m hn, F1, ex1.sub, sl.mono ex1.le s1, wpR_imp (wpR_bind q) s1 fun a q vs H2 F2 s2 ex2 ra => ?_⟩
  refine ⟨c (ob, a), F2, hc F2 (.ref p :: vs) (ob, a) ⟨.ref p, vs, rfl, ⟨p, dx, l, rfl, ex2.le _ _ hp, EncF.mono ex2.le r⟩, ra⟩, ex2.sub, ?_⟩
  cases eg : g (c (ob, a)) with
  | ok r =>
    rw [eg] at q
    have s12 := s1.trans s2
    exact fun v H' F' G' s3 ex pr k => q v H' F' G' (s12.trans s3) ((ex1.trans s1 ex2).trans s12 ex) (fun b u z => ⟨(pr b u z).1, Same.free s12 (pr b u z).2.1, (pr b u z).2.2⟩) k
  | exc x => rw [eg] at q; exact fun cls d H' h1 h2 h3 => q cls d H' h1 ((s1.trans s2).trans h2) h3
  | stuck => rw [eg] at q; exact q
theorem xk_meth0 {pl : Sem Bool} {c : Ob nm α × Unit → A} (ok : ObOk X.K nm) (C : CalM X.prog X.w X.K X.mg X.base j nm m c g kr) (hr : Room k X.A) (tk : Takes X W) {mo : Res (Ob nm α)} (ho : XK X W ss o mo fr) (hj : j ≤ k := by decide)
    (ht : eval (.Call (.Attribute o m apos) [] [] pos) X.env = (do
      let ov ← eval o X.env
      standAt apos.atName
      let (f, first) ← holding [ov] (getMethod ov m pl)
      callWith pos f first (backTo pos (starEach [] X.env)) (backToKw pos (keywordEach [] X.env))) := by rfl) :
    XK X W ss (.Call (.Attribute o m apos) [] [] pos) (mo.bind fun o => g (c (o, ()))) kr := by
  obtain ⟨f, fd, ps, dvs, ds, F, hm, hn, hb, hd, hc⟩ := C.ex
  refine PE_imp (pe_meth0SD (E := fun σ cls d H => W cls d σ H) ho ok.cl hm F (hr.mono hj) hb hd (fun σ => passAt tk σ) ht) fun σ H Q ⟨F0, sf, sl, q⟩ => ⟨F0, sf, sl, wpR_imp (wpR_bind q) (Same.refl H) fun ob q v H1 F1 G1 s1 ex1 pr1 ⟨v', e1, p, dx, l, e2, hp, r⟩ => ?_⟩
  cases e1
  subst e2
  refine ⟨p, dx, l, rfl, ex1.sub _ _ hp, EncF.no r m hn, ?_⟩
  refine ⟨c (ob, ()), F1, hc F1 [.ref p] (ob, ()) ⟨.ref p, [], rfl, ⟨p, dx, l, rfl, hp, r⟩, rfl⟩, ex1.sub, ?_⟩
  cases eg : g (c (ob, ())) with
  | ok r =>
    rw [eg] at q
    exact fun v H' F' G' s3 ex pr k => q v H' F' G' (s1.trans s3) (ex1.trans s1 ex) (fun b u z => ⟨(pr b u z).1, Same.free s1 (pr b u z).2.1, (pr b u z).2.2⟩) k
  | exc x => rw [eg] at q; exact fun cls d H' h1 h2 h3 => q cls d H' h1 (s1.trans h2) h3
  | stuck => rw [eg] at q; exact q
end
section
variable {X : Cx} {CX : CXT} {k : Nat} {f C : Addr} {fd : FuncData} {ps : List Str} {sp : Sp} {E : L2.St → L2.XK} {x : Str} {p pos : Pos} {e : Expr} {es : List Expr} {t : TA}
def tMakeSD (C : Addr) (sp : Sp) (E : L2.St → L2.XK) (t : TA) : TE := fun σ H Q => t σ H fun vs H1 => ∀ x dx, H1 x = none → H1 dx = none → dx ≠ x →
  sp (.ref x :: vs) (upd (upd H1 dx (.own x)) x (.ins C dx [])) (fun v H2 => v = .non ∧ Q (.ref x) H2) (E σ)
end
def nob (C : Addr) (p : Addr) (ns : List Str) {α : Type} [EncF α] (a : α) : Slot :=
  ⟨fun K F G o => o = some (.ref p) ∧ ∃ dx l, G p = some (.ins C dx l) ∧ EncF.rep ns K F l a, fun s t ⟨e, dx, l, h, r⟩ => ⟨e, dx, l, t _ _ h, EncF.mono s r⟩⟩
def iniK (C : Addr) (p : Addr) (ns : List Str) {α : Type} [EncF α] (a : α) : Slot :=
  ⟨fun K F G o => o = some .non ∧ ∃ dx l, G p = some (.ins C dx l) ∧ EncF.rep ns K F l a, fun s t ⟨e, dx, l, h, r⟩ => ⟨e, dx, l, t _ _ h, EncF.mono s r⟩⟩
section
variable {X : Cx} {W : WX} {ss : List Slot} {pos : Pos} {e : Expr}
end
def spI (K : Frag) (mg : Str → Option Value) (C : Addr) (ns : List Str) {A β : Type} [EncA A] [EncF β] (g : A → Res β) : Sp := fun vs H Q E => ∃ (a : A) (p dx : Addr) (us : List V) (B F : Hp), vs = .ref p :: us ∧ EncA.rep K F us a ∧ Same F B ∧ Same B H ∧
  H p = some (.ins C dx []) ∧ B p = none ∧
  match g a with
  | .ok b => ∀ H' F' dx' l, Same B H' → Ext F B F' H' → H' p = some (.ins C dx' l) → F' p = none → EncF.rep ns K F' l b → Q .non H'
  | .exc x => ∀ cls d H', mg x.cls = some cls → Same B H' → payRep x.pay d H' → E cls d H'
  | .stuck => False
section
variable {P : Program} {w : World} {K : Frag} {mg : Str → Option Value} {base : Heap}
end
structure CalI (P : Program) (w : World) (K : Frag) (mg : Str → Option Value) (base : Heap) (k : Nat) (nm : String) [ObN nm] [ObC nm] {A β : Type} [EncA A] [EncF β] (g : A → Res β) : Prop where
  ex : ∃ f fd ps, FnOk P w K mg base (L2.CX P w) k f fd ps (spI K mg (ObC.C nm) (ObN.fs nm) g) ∧ Mk K (ObC.C nm) f ∧ Binds K fd ps []
  gl : mg (PySem.Str.ofString nm) = some (.ref (ObC.C nm))
structure IsIni (K : Frag) (nm : String) [ObC nm] (qual : Str) (st : Stmt) : Prop where
  ex : ∃ f fd, Fun K "__init__" qual st f fd ∧ Mk K (ObC.C nm) f
section
variable {X : Cx} {W : WX} {ss : List Slot} {k j : Nat} {nm : String} [ObN nm] [ObC nm] {A β : Type} [EncA A] [EncF β] {g : A → Res β} {p pos : Pos} {e : Expr} {es : List Expr}
end
end G

namespace L2
open PySem PySem.Spec PyProof.Rows
section
variable {P : Program} {w : World} {A : Around} {E : Value → Shared → Prop} {s : Shared}
abbrev noneSet (w : World) : Obj := { cls := .type "set", dict := none, data := .set #[] 0 (.fresh 0 0 (!w.params.followText "set-order")) }
theorem call_setL {l : Addr} {items : Array Value} (ns : List Int) {Q : Value → Shared → Prop} (hh : A.handled = none) (hl : s.heap.IsList l items) (hit : IntsAre items.toList ns) (hb : ns.length + 1 < scanBound)
    (h : ∀ (h' : Heap) (tk c : Nat), SetR w h' s.heap.objs.size (fun j => decide (j ∈ ns)) c → c ≤ ns.length → (∀ b o, s.heap.get? b = some o → h'.get? b = some o) → Q (.ref s.heap.objs.size) { s with heap := h', toks := tk }) :
    wpAny (model P w) A (call (.type "set") [.ref l]) Q E s := by
  obtain ⟨c, tl, hmro⟩ := F.called_set.mro
  have hmade := F.called_set.made
  have hsub := F.called_set.sub
  have h1 := F.called_set.notType
  have h2 := F.called_set.canCreate
  have hct := F.typeCall_set_1 (.ref l)
  refine wpAny_call (codeAny_of_tree ?_)
  show wpAny _ _ (callAny (.type "set") _) _ _ _
  refine wpAny_pure ⟨Code.quiet_builtin _ (by decide +kernel), codeAny_builtin F.entry_type_call ?_⟩
  rw [Around.under_plain (weight_type_call_type "set" [.ref l] []) rfl]
  repeat (any_goals (first | assumption | wp_step))
  refine codeAny_mono (code_set_led1 (.ref l) (E := E) (Q₁ := fun v t => v = .ref s.heap.objs.size ∧ t = { s with heap := s.heap.push (noneSet w) }) ⟨rfl, rfl⟩) fun r t hr => ?_
  match r, hr with
  | .error e, hr => exact hr
  | .ok (.ret v), hr =>
    obtain ⟨rfl, rfl⟩ := hr
    have hS : (s.heap.push (noneSet w)).get? s.heap.objs.size = some (noneSet w) := Heap.get?_push_size _ rfl
    have hT : Shared.TypeIs { s with heap := s.heap.push (noneSet w) } (.ref s.heap.objs.size) "set" := ⟨_, hS, rfl⟩
    have hli := F.called_set.init.lookup
    have hbi := F.called_set.init.bind (.ref s.heap.objs.size)
    repeat (any_goals (first | assumption | wp_step))
    refine codeAny_mono (codeAny_call_builtin (R := wants (fun r t2 => r = .none ∧ ∃ h' tk c, t2 = { s with heap := h', toks := tk } ∧ SetR w h' s.heap.objs.size (fun j => decide (j ∈ ns)) c ∧ c ≤ ns.length ∧ (∀ b o, s.heap.get? b = some o → h'.get? b = some o)) E)
      F.called_set.init.plain F.entry_set_init (check_set_init_1 hT ?_)) fun r2 t2 hr2 => ?_
    · have hsz : items.size = ns.length := by
        have q := IntsAre.length hit
        rwa [Array.length_toList] at q
      obtain ⟨⟨c0, d0, t0, sl0⟩, ho, e1, n0, e2⟩ := id hl
      simp only at e1 e2
      subst e1; subst e2
      have ho1 : (s.heap.push (noneSet w)).get? l = some { cls := Value.type "list", dict := d0, data := Data.seq items n0, slots := sl0 } := Heap.get?_push_of_some _ ho
      have kl : (s.heap.push (noneSet w)).IsList l items := ⟨_, ho1, rfl, n0, rfl⟩
      have ls := F.sub_list_set
      have lf := F.sub_list_frozenset
      have ld : (Value.type "list" == Value.type "dict") = false := by decide
      unfold Builtin.«set.__init__» noKeywords Builtin.Frozenset.updateFrom
      generalize hPI : pyIter = PI
      wp_walk
      subst hPI
      refine wpAny_pyIter_list kl ?_
      refine wpAny_bind (wpAny_runValue ?_)
      have hlt : l < s.heap.objs.size := Heap.lt_size ho
      have sz1 : (s.heap.push (noneSet w)).objs.size = s.heap.objs.size + 1 := Heap.size_push ..
      have hne : l ≠ (s.heap.push (noneSet w)).objs.size := by rw [sz1]; exact Nat.ne_of_lt (Nat.lt_succ_of_lt hlt)
      have nS : s.heap.objs.size ∉ [(s.heap.push (noneSet w)).objs.size, l] := by
        simp only [List.mem_cons, List.not_mem_nil, or_false, not_or, sz1]
        exact ⟨Nat.ne_of_lt (Nat.lt_succ_self _), Nat.ne_of_gt hlt⟩
      have hval : ∀ (i : Nat) (v : Value), items[i]? = some v → ∃ k t, ns[i]? = some k ∧ v = .int k t := fun i v hv => by
        have hi : i < ns.length := by rw [← hsz]; exact (Array.getElem?_eq_some_iff.mp hv).1
        obtain ⟨t, e⟩ := IntsAre.int_at hit i v (by rw [Array.getElem?_toList]; exact hv)
        exact ⟨ns[i], t, List.getElem?_eq_getElem hi, by rw [e, List.getD_eq_getElem?_getD, List.getElem?_eq_getElem hi] <;> rfl⟩
      refine set_update_ints ((Walks.list (by exact hh) _ l hne items).toS) s.heap.objs.size nS ns hsz hb hval (items.size - 0) 0 _ (by omega) (Nat.zero_le _)
        ⟨⟨_, Heap.get?_push_size _ rfl, rfl, rfl⟩, kl.push _⟩ ⟨0, Nat.le_refl 0, setR_new_at (Heap.get?_push_of_some _ hS)⟩ fun s' c hm hc hS' => ?_
      obtain ⟨h', g2, d', tk', os'⟩ := s'
      have eg : g2 = s.gens := hm.gens
      have ed : d' = s.drawn := hm.drawn
      have eo : os' = s.os := hm.os
      subst eg; subst ed; subst eo
      show wpAny _ _ _ _ _ _
      refine wpAny_pure ?_
      show wpAny _ _ (ret Value.none) _ _ _
      refine wpAny_pure ⟨rfl, h', tk', c, rfl, hS', by omega, fun b o e => ?_⟩
      have lb := Heap.lt_size e
      exact hm.heap b o (by simp only [List.mem_cons, List.not_mem_nil, or_false, not_or, sz1]; exact ⟨Nat.ne_of_lt lb, Nat.ne_of_lt (Nat.lt_succ_of_lt lb)⟩) (Heap.get?_push_of_some _ (Heap.get?_push_of_some _ e))
    · match r2, hr2 with
      | .error e, hr2 => exact hr2
      | .ok (.ret v), hr2 =>
        obtain ⟨rfl, h', tk, c', rfl, q1, q2, q3⟩ := hr2
        repeat (any_goals (first | assumption | wp_step))
        exact h _ _ _ q1 q2 q3
      | .ok .next, hr2 => exact hr2.elim
      | .ok .brk, hr2 => exact hr2.elim
      | .ok .cont, hr2 => exact hr2.elim
  | .ok .next, hr => exact hr.elim
  | .ok .brk, hr => exact hr.elim
  | .ok .cont, hr => exact hr.elim
end
end L2

namespace L2
open PySem PySem.Spec PyProof.Rows
def rSetOfL (K : PySem.W.Frag) (w : World) : List V → Hp → VK → Prop := fun xs H Q => ∃ (l : Addr) (ns : List Int), xs = [V.ref l] ∧ SqL K H l (ns.map V.int) ∧ ns.length < 60 ∧
  ∀ (p : Addr) (n : Nat), H p = none → n ≤ ns.length → Q (.ref p) (upd H p (SetO w p (fun j => decide (j ∈ ns)) n))
theorem cr_setL {X : Cx} (hc : X.calm = true) : CallR X (.type "set") (rSetOfL X.K X.w) := by
  intro pins s σ H xs us Q I r h
  obtain ⟨l, ns, rfl, hl, hz, q⟩ := h
  rw [Vals.ref1 r]
  obtain ⟨its, r1, pl, _⟩ := I.list hl
  refine call_setL ns (I.ok.hd hc) pl.isList (by simpa using ints_of_vals r1) (by unfold scanBound; omega) fun h' tk c hS hn k => ?_
  exact ⟨.ref s.heap.objs.size, _, I.laid (t' := tk) (o := SetO X.w s.heap.objs.size (fun j => decide (j ∈ ns)) c) k (Nat.le_refl _) (setO_new hS), rfl, q _ c (I.hok.fresh (Nat.le_refl _)) hn⟩
end L2
namespace G
open PySem PySem.Spec PyProof.Rows L2
def onceI : List Int → List Int
  | [] => []
  | x :: xs => if x ∈ onceI xs then onceI xs else x :: onceI xs
theorem mem_onceI {x : Int} : ∀ {xs : List Int}, x ∈ onceI xs ↔ x ∈ xs
  | [] => Iff.rfl
  | y :: xs => by
    have ih := mem_onceI (x := x) (xs := xs)
    unfold onceI
    split
    · rename_i h
      rw [List.mem_cons, ih]
      refine ⟨.inr, fun z => z.elim (fun e => ?_) id⟩
      rw [e]
      exact mem_onceI.mp h
    · rw [List.mem_cons, List.mem_cons, ih]
theorem onceI_nodup : ∀ xs : List Int, (onceI xs).Nodup
  | [] => List.nodup_nil
  | y :: xs => by
    unfold onceI
    split
    · exact onceI_nodup xs
    · rename_i h
      exact List.nodup_cons.mpr ⟨h, onceI_nodup xs⟩
def setI' (xs : List Int) : List Int := sortI (onceI xs)
section
variable {X : Cx} {W : WX} {ss : List Slot} {a : Expr} {pos q : Pos}
theorem xk_sortedSet {m : Res (List Int × Unit)} {p p2 : Pos} (ha : XA X W ss [a] m) (hm : X.mg "sorted" = none) (hm2 : X.mg "set" = none) (hc : X.calm = true := by rfl) (hg : Gl X "sorted" := by rfl) (hg2 : Gl X "set" := by rfl) (he : starEach [a] X.env = (false, eval a X.env) :: starEach [] X.env := by rfl)
    (he2 : starEach [.Call (.Name "set" p2) [a] [] q] X.env = (false, eval (.Call (.Name "set" p2) [a] [] q) X.env) :: starEach [] X.env := by rfl) :
    XK X W ss (.Call (.Name "sorted" p) [.Call (.Name "set" p2) [a] [] q] [] pos) (m.bind fun x => guardR (decide (x.1.length < 60)) (.ok (setI' x.1))) ow :=
  PE_imp (pe_callB (cr_sortedSet hc) hg hm (by decide +kernel) (pa_cons (pe_callTy (cr_setL hc) hg2 hm2 (by decide +kernel) ha (by decide) (by decide) he rfl) pa_nil he2) (by decide) (by decide) he2 rfl) fun σ H Q ⟨F, sf, sl, q⟩ => ⟨sl.mono sf (Same.refl H), wpR_imp (wpR_bind q) (Same.refl H) fun x q vs H1 s1 ⟨v, r, e1, ⟨p, ws, e2, hp, rv⟩, e3⟩ => by
    have e3 : r = [] := e3
    subst e1; subst e2; subst e3
    have ew : ws = x.1.map V.int := All2.map_eq rv
    obtain ⟨g, q⟩ := wpR_guard q
    have g := of_decide_eq_true g
    refine ⟨p, x.1, rfl, by rw [← ew]; exact SqL.of hp, g, fun o n no hn => ?_⟩
    refine ⟨o, fun j => decide (j ∈ x.1), n, rfl, upd_same, by omega, fun ns p2 h1 h2 h3 hp2 => ?_⟩
    have e : ns = setI' x.1 := sortI_uniq ((List.perm_ext_iff_of_nodup (h1.imp fun z => Int.ne_of_lt z) (onceI_nodup _)).mpr fun k => by rw [h2, decide_eq_true_iff, mem_onceI]) (h1.imp fun z => Int.le_of_lt z)
    rw [e]
    exact new_owI sf (s1.trans (same_upd no)) hp2 All2.of_map q⟩
end
end G

namespace G
open PySem PySem.Spec PyProof.Rows L2
section
variable {P : Program} {w : World} {K : Frag} {mg : Str → Option Value} {base : Heap}
end
end G

namespace G
open PySem PySem.Spec PyProof.Rows L2
structure T6 (α β γ δ ε ζ : Type) where
  a : α
  b : β
  c : γ
  d : δ
  e : ε
  f : ζ
instance {α β γ δ ε ζ : Type} [Enc α] [Enc β] [Enc γ] [Enc δ] [Enc ε] [Enc ζ] : Enc (T6 α β γ δ ε ζ) :=
  ⟨fun K H v x => ∃ p v1 v2 v3 v4 v5 v6, v = .ref p ∧ H p = some (.tup [v1, v2, v3, v4, v5, v6]) ∧ Enc.rep K H v1 x.a ∧ Enc.rep K H v2 x.b ∧ Enc.rep K H v3 x.c ∧ Enc.rep K H v4 x.d ∧ Enc.rep K H v5 x.e ∧ Enc.rep K H v6 x.f,
   fun s ⟨p, v1, v2, v3, v4, v5, v6, e, h, r1, r2, r3, r4, r5, r6⟩ => ⟨p, v1, v2, v3, v4, v5, v6, e, s _ _ h, Enc.mono s r1, Enc.mono s r2, Enc.mono s r3, Enc.mono s r4, Enc.mono s r5, Enc.mono s r6⟩⟩
instance {α β γ δ ε ζ : Type} [Enc α] [Enc β] [Enc γ] [Enc δ] [Enc ε] [Enc ζ] [Imm α] [Imm β] [Imm γ] [Imm δ] [Imm ε] [Imm ζ] : Imm (T6 α β γ δ ε ζ) :=
  ⟨fun ⟨p, v1, v2, v3, v4, v5, v6, e, h, r1, r2, r3, r4, r5, r6⟩ => ⟨p, v1, v2, v3, v4, v5, v6, e, tups_some h rfl, Imm.imm r1, Imm.imm r2, Imm.imm r3, Imm.imm r4, Imm.imm r5, Imm.imm r6⟩⟩
instance {α β γ δ ε ζ : Type} [Inhabited α] [Inhabited β] [Inhabited γ] [Inhabited δ] [Inhabited ε] [Inhabited ζ] : Inhabited (T6 α β γ δ ε ζ) := ⟨⟨default, default, default, default, default, default⟩⟩
section
variable {X : Cx} {W : WX} {ss : List Slot} {pos : Pos} {kk : Nat} {e1 e2 e3 e4 e5 e6 a : Expr}
end
end G

namespace G
open PySem PySem.Spec PyProof.Rows L2
def inO (a : Option Int) (xs : List Int) : Bool := match a with
  | none => false
  | some i => decide (i ∈ xs)
section
variable {X : Cx}
end
end G

namespace G
open PySem PySem.Spec PyProof.Rows L2
section
variable {X : Cx} {W : WX} {ss : List Slot} {e : Expr}
end
end G

namespace G
open PySem PySem.Spec PyProof.Rows L2 L2H
structure FnQ (P : Program) (w : World) (K : PySem.W.Frag) (mg : Str → Option Value) (base : Heap) (CX : CXT) (k : Nat) (f : Addr) (fd : FuncData) (ps : List Str) (sp : Sp) : Prop where
  len : ∀ vs H Q E, sp vs H Q E → vs.length = ps.length
  run : ∀ (A : Around) (outer : List Env) (s : Shared) (H : Hp) (args : Args) (us : List Value) (vs : List V) (Q : VK) (E : L2.XK), RoomH k A → Env0 P w K mg base A outer s H → BindsTo s fd args (ps.zip us) → Vals vs us → sp vs H Q E →
    codeAny (model P w) A (.call (.ref f) args) (CR CX outer P w H s Q E) s
def cxQ (CX : CXT) (P : Program) (w : World) (K : PySem.W.Frag) (mg : Str → Option Value) (base : Heap) (N : List Str) (qual : Str) (scope : Scope) (f : Addr) (cd : Value) (A : Around) (outer : List Env) (s : Shared) (H : Hp) (E : L2.XK) : Cx :=
  { cxOf CX P w K mg base N qual scope f cd A outer s H E with calm := false }
section
variable {X : Cx} {CX : CXT} {k : Nat} {f C : Addr} {fd : FuncData} {ps : List Str} {sp : Sp} {E : L2.St → L2.XK} {x m : Str} {q pos apos : Pos} {e o : Expr} {es : List Expr} {ta : TE} {t : TA}
end
structure CalQ (P : Program) (w : World) (K : Frag) (mg : Str → Option Value) (base : Heap) (k : Nat) (x : Str) {A R : Type} [EncA A] (g : A → Res R) (kr : R → Slot) : Prop where
  ex : ∃ f fd ps, FnQ P w K mg base (L2.CX P w) k f fd ps (spOf K mg g kr) ∧ mg x = some (.ref f) ∧ PySem.W.keepIn K (.ref f) = true ∧ Binds K fd ps []
section
variable {P : Program} {w : World} {K : Frag} {mg : Str → Option Value} {base : Heap}
end
section
variable {X : Cx} {W : WX} {ss : List Slot} {k j : Nat} {x : Str} {A R : Type} [EncA A] {g : A → Res R} {kr : R → Slot} {p pos : Pos} {e : Expr} {es : List Expr}
end
end G
namespace G
open PySem PySem.Spec PyProof.Rows L2 L2H
end G

namespace G
open PySem PySem.Spec PyProof.Rows L2
structure FnG (P : Program) (w : World) (K : PySem.W.Frag) (mg : Str → Option Value) (base : Heap) (CX : CXT) (k : Nat) (f : Addr) (fd : FuncData) (ps : List Str) (sp : Sp) : Prop where
  len : ∀ vs H Q E, sp vs H Q E → vs.length = ps.length
  run : ∀ (A : Around) (outer : List Env) (s : Shared) (H : Hp) (args : Args) (us : List Value) (vs : List V) (Q : VK) (E : L2.XK), A.guards = some [] → Room k A → Env0 P w K mg base A outer s H → BindsTo s fd args (ps.zip us) → Vals vs us → sp vs H Q E →
    codeAny (model P w) A (.call (.ref f) args) (CR CX outer P w H s Q E) s
section
variable {X : Cx} {CX : CXT} {k : Nat} {f C : Addr} {fd : FuncData} {ps : List Str} {sp : Sp} {E : L2.St → L2.XK} {x m : Str} {q pos apos : Pos} {e o : Expr} {es : List Expr} {ta : TE} {t : TA}
end
structure CalG (P : Program) (w : World) (K : Frag) (mg : Str → Option Value) (base : Heap) (k : Nat) (x : Str) {A R : Type} [EncA A] (g : A → Res R) (kr : R → Slot) : Prop where
  ex : ∃ f fd ps, FnG P w K mg base (L2.CX P w) k f fd ps (spOf K mg g kr) ∧ mg x = some (.ref f) ∧ PySem.W.keepIn K (.ref f) = true ∧ Binds K fd ps []
section
variable {P : Program} {w : World} {K : Frag} {mg : Str → Option Value} {base : Heap}
end
section
variable {X : Cx} {W : WX} {ss : List Slot} {k j : Nat} {x : Str} {A R : Type} [EncA A] {g : A → Res R} {kr : R → Slot} {p pos : Pos} {e : Expr} {es : List Expr}
end
end G

namespace G
open PySem PySem.Spec PyProof.Rows L2
def inDy (a : Dy) (xs : List Dy) : Res Bool := guardR ((noDic a && noDics xs) && (SeqAt.shaped (dyPy a) && SeqAt.shaped (.list (dyPys xs)))) (.ok ((dyPys xs).any fun z => PyData.eqv z (dyPy a)))
def ninDy (a : Dy) (xs : List Dy) : Res Bool := guardR ((noDic a && noDics xs) && (SeqAt.shaped (dyPy a) && SeqAt.shaped (.list (dyPys xs)))) (.ok (!(dyPys xs).any fun z => PyData.eqv z (dyPy a)))
section
variable {X : Cx}
end
end G
namespace G
open PySem PySem.Spec PyProof.Rows L2
def castL {β : Type} (c : Dy → Res β) : List Dy → Res (List β)
  | [] => .ok []
  | d :: ds => (c d).bind fun b => (castL c ds).bind fun bs => .ok (b :: bs)
def dyLof {β : Type} (c : Dy → Res β) : Dy → Res (List β) | .lst xs => castL c xs | _ => .stuck
abbrev dyLL : Dy → Res (List (List Int)) := dyLof dyLI
end G

namespace G
open PySem PySem.Spec PyProof.Rows L2
theorem putF_same (f : Str) (v : V) : ∀ l : List (Str × V), l.lookup f = some v → putF f v l = l
  | [], h => by simp at h
  | (g, x) :: r, h => by
    show (if g = f then (g, v) :: r else (g, x) :: putF f v r) = _
    rw [List.lookup_cons] at h
    by_cases e : g = f
    · rw [if_pos e]
      rw [show (f == g) = true from by simp [e]] at h
      cases h; rfl
    · rw [if_neg e]
      rw [show (f == g) = false from by simp [Ne.symm e]] at h
      rw [putF_same f v r h]
theorem putF_twice (f : Str) (v w : V) : ∀ l : List (Str × V), putF f v (putF f w l) = putF f v l
  | [] => by simp [putF]
  | (g, x) :: r => by
    show putF f v (if g = f then (g, w) :: r else (g, x) :: putF f w r) = (if g = f then (g, v) :: r else (g, x) :: putF f v r)
    by_cases e : g = f
    · rw [if_pos e, if_pos e]
      show (if g = f then _ else _) = _
      rw [if_pos e]
    · rw [if_neg e, if_neg e]
      show (if g = f then _ else _) = _
      rw [if_neg e, putF_twice f v w r]
structure OwF (α : Type) [EncF α] where
  own : List Str → Frag → Hp → Hp → List (Str × V) → α → Prop
  mF : ∀ {ns : List Str} {K : Frag} {F F' G : Hp} {l : List (Str × V)} {a : α}, Same F F' → own ns K F G l a → own ns K F' G l a
  mG : ∀ {ns : List Str} {K : Frag} {F G G' : Hp} {l : List (Str × V)} {a : α}, Same G G' → own ns K F G l a → own ns K F G' l a
  view : ∀ {ns : List Str} {K : Frag} {F G H : Hp} {l : List (Str × V)} {a : α}, own ns K F G l a → Same F H → Same G H → EncF.rep ns K H l a
def unF : OwF Unit := ⟨fun ns _ _ _ l _ => ns = [] ∧ l = [], fun _ h => h, fun _ h => h, fun h _ _ => h⟩
def coF {α β : Type} [EncF α] [Enc β] (d : OwF α) (d' : Ow β) : OwF (α × β) :=
  ⟨fun ns K F G l x => ∃ f ns' l0 y G1 G2, ns = f :: ns' ∧ l = putF f y l0 ∧ Same G1 G ∧ Same G2 G ∧ Dj G1 G2 ∧ d.own ns' K F G1 l0 x.1 ∧ d'.own K F G2 y x.2,
   fun s ⟨f, ns', l0, y, G1, G2, e, e2, a, b, c, h1, h2⟩ => ⟨f, ns', l0, y, G1, G2, e, e2, a, b, c, d.mF s h1, d'.mF s h2⟩,
   fun s ⟨f, ns', l0, y, G1, G2, e, e2, a, b, c, h1, h2⟩ => ⟨f, ns', l0, y, G1, G2, e, e2, a.trans s, b.trans s, c, h1, h2⟩,
   fun ⟨f, ns', l0, y, G1, G2, e, e2, a, b, c, h1, h2⟩ s t => ⟨f, ns', l0, y, e, e2, d.view h1 s (a.trans t), d'.view h2 s (b.trans t)⟩⟩
def obO {nm : String} [ObN nm] [ObC nm] {α : Type} [EncF α] (d : OwF α) : Ow (Ob nm α) :=
  ⟨fun K F G v o => ∃ p dx l G1, v = .ref p ∧ G p = some (.ins (ObC.C nm) dx l) ∧ Same G1 G ∧ G1 p = none ∧ d.own (ObN.fs nm) K F G1 l o.v,
   fun s ⟨p, dx, l, G1, e, h, a, b, r⟩ => ⟨p, dx, l, G1, e, h, a, b, d.mF s r⟩,
   fun s ⟨p, dx, l, G1, e, h, a, b, r⟩ => ⟨p, dx, l, G1, e, s _ _ h, a.trans s, b, r⟩,
   fun ⟨p, dx, l, G1, e, h, a, b, r⟩ s t => ⟨p, dx, l, e, t _ _ h, d.view r s (a.trans t)⟩⟩
class ImmF {α : Type} [EncF α] (d : OwF α) : Prop where
  imm : ∀ {ns : List Str} {K : Frag} {F G : Hp} {l : List (Str × V)} {a : α}, d.own ns K F G l a → d.own ns K (tups F) G l a
instance : ImmF unF := ⟨fun h => h⟩
instance {α β : Type} [EncF α] [Enc β] {d : OwF α} {d' : Ow β} [ImmF d] [ImmO d'] : ImmF (coF d d') :=
  ⟨fun ⟨f, ns', l0, y, G1, G2, e, e2, a, b, c, h1, h2⟩ => ⟨f, ns', l0, y, G1, G2, e, e2, a, b, c, ImmF.imm h1, ImmO.imm h2⟩⟩
instance {nm : String} [ObN nm] [ObC nm] {α : Type} [EncF α] {d : OwF α} [ImmF d] : ImmO (obO (nm := nm) d) := ⟨fun ⟨p, dx, l, G1, e, h, a, b, r⟩ => ⟨p, dx, l, G1, e, h, a, b, ImmF.imm r⟩⟩
instance {nm : String} [ObN nm] [ObC nm] {α : Type} [EncF α] {d : OwF α} : NNO (obO (nm := nm) d) := ⟨fun ⟨_, _, _, _, e, _⟩ z => by rw [e] at z; cases z⟩
def swp (G G2 N : Hp) : Hp := fun c => match N c with
  | some u => some u
  | none => match G2 c with
    | some _ => none
    | none => G c
theorem swp_new {G G2 N : Hp} : Same N (swp G G2 N) := fun c u h => by unfold swp; rw [h]
theorem swp_old {G G2 N : Hp} {c : Addr} {u : HO} (h : G c = some u) (h2 : G2 c = none) (h3 : N c = none) : swp G G2 N c = some u := by unfold swp; rw [h3, h2]; exact h
theorem swp_of {G G2 N : Hp} {c : Addr} {u : HO} (h : swp G G2 N c = some u) : N c = some u ∨ N c = none ∧ G2 c = none ∧ G c = some u := by
  unfold swp at h
  split at h
  · rename_i w e; cases h; exact .inl e
  · rename_i e
    split at h
    · cases h
    · rename_i e2; exact .inr ⟨e, e2, h⟩
theorem swp_none {G G2 N : Hp} {c : Addr} (h : G c = none) (h3 : N c = none) : swp G G2 N c = none := by
  unfold swp; rw [h3]
  cases G2 c with
  | none => exact h
  | some _ => rfl
structure SelO {α β : Type} [EncF α] [Enc β] (D : OwF α) (ns : List Str) (f : Str) (get : α → β) (put : α → β → α) (d' : Ow β) : Prop where
  sel : ∀ {K : Frag} {F G : Hp} {l : List (Str × V)} {a : α}, D.own ns K F G l a → ∃ y G2, l.lookup f = some y ∧ Same G2 G ∧ d'.own K F G2 y (get a) ∧
    ∀ {F' N : Hp} {y' : V} {b' : β}, Same F F' → d'.own K F' N y' b' → (∀ c, G c ≠ none → G2 c = none → N c = none) → D.own ns K F' (swp G G2 N) (putF f y' l) (put a b')
  mem : f ∈ ns
theorem sel_0O {α β : Type} [EncF α] [Enc β] {d : OwF α} {d' : Ow β} {f : Str} {ns : List Str} : SelO (coF d d') (f :: ns) f (fun x : α × β => x.2) (fun x b => (x.1, b)) d' where
  mem := List.mem_cons_self
  sel := fun {K F G l a} ⟨f', ns', l0, y, G1, G2, e, e2, s1, s2, dj, h1, h2⟩ => by
    cases e
    subst e2
    refine ⟨y, G2, by rw [lookup_putF, if_pos rfl], s2, h2, fun {F' N y' b'} sF h' hd => ⟨f, ns, l0, y', G1, N, rfl, putF_twice _ _ _ _, fun c u z => ?_, swp_new, fun c => ?_, d.mF sF h1, h'⟩⟩
    · have g2 : G2 c = none := (dj c).elim (fun q => by rw [q] at z; cases z) id
      have gc := s1 _ _ z
      exact swp_old gc g2 (hd c (by rw [gc]; exact fun h => nomatch h) g2)
    · cases z : G1 c with
      | none => exact .inl rfl
      | some u =>
        have g2 : G2 c = none := (dj c).elim (fun q => by rw [q] at z; cases z) id
        exact .inr (hd c (by rw [s1 _ _ z]; exact fun h => nomatch h) g2)
def po {α : Type} [Enc α] (v : V) (d : Ow α) (a : α) : Slot := ⟨fun K F G o => o = some v ∧ d.own K F G v a, fun s t ⟨e, r⟩ => ⟨e, d.mG t (d.mF s r)⟩⟩
structure OSl {α : Type} [Enc α] (d : Ow α) where
  S : α → Slot
  get : ∀ {K : Frag} {F G : Hp} {o : Option V} {a : α}, (S a).P K F G o → ∃ v, o = some v ∧ d.own K F G v a
  put : ∀ {K : Frag} {F F' G G' : Hp} {v : V} {a a' : α}, (S a).P K F G (some v) → d.own K F' G' v a' → (S a').P K F' G' (some v)
def osl {α : Type} [Enc α] (d : Ow α) : OSl d := ⟨os d, fun h => h, fun _ h => ⟨_, rfl, h⟩⟩
def osp {α : Type} [Enc α] (v : V) (d : Ow α) : OSl d := ⟨po v d, fun ⟨e, h⟩ => ⟨v, e, h⟩, fun ⟨e, _⟩ h => by cases e; exact ⟨rfl, h⟩⟩
instance {α : Type} [Enc α] {d : Ow α} {v : V} : View (po v d) := ⟨fun ⟨e, r⟩ => by cases e; exact d.view r (Same.refl _) (Same.refl _)⟩
theorem all3_osl {K : Frag} {F : Hp} {α : Type} [Enc α] {d : Ow α} (L : OSl d) {a : α} {ss : List Slot} {Gs : List Hp} {σ : L2.St} {i : Nat} (h : All3 K F ss Gs σ) (hs : ss[i]? = some (L.S a)) :
    ∃ G v, Gs[i]? = some G ∧ σ[i]? = some (some v) ∧ (L.S a).P K F G (some v) ∧ d.own K F G v a := by
  obtain ⟨G, o, h1, h2, r⟩ := h.get hs
  obtain ⟨v, e, q⟩ := L.get r
  subst e
  exact ⟨G, v, h1, h2, r, q⟩
section
variable {X : Cx} {W : WX} {ss : List Slot} {pos : Pos} {e a : Expr} {es : List Expr} {rest : List Stmt} {nm : String} [ObN nm] [ObC nm]
theorem Asn.fldPut {α β : Type} [EncF α] [Enc β] {D : OwF α} {f : Str} {d' : Ow β} (L : OSl (obO (nm := nm) D)) {K : Frag} {B F0 H H' F : Hp} {σ : L2.St} {Gs : List Hp} {i : Nat} {G G1 Gf N : Hp} {p dx : Addr} {l : List (Str × V)} {o o' : Ob nm α} {y' : V}
    (A : Asn K B F0 ss σ H F Gs) (hG : Gs[i]? = some G) (hσ : σ[i]? = some (some (.ref p))) (hS : (L.S o).P K F G (some (.ref p))) (hp : G p = some (.ins (ObC.C nm) dx l)) (s1 : Same G1 G) (n1 : G1 p = none) (sf : Same Gf G1)
    (hk : ∀ c u, G c = none → H c = some u → H' c = some u) (hk2 : ∀ c u, c ≠ p → G c = some u → Gf c = none → H' c = some u) (hp' : H' p = some (.ins (ObC.C nm) dx (putF f y' l)))
    (hN : ∀ c u, N c = some u → H' c = some u ∧ isT u = false ∧ (Gf c ≠ none ∨ (B c = none ∧ F c = none ∧ ∀ g ∈ Gs, g c = none))) (hd : D.own (ObN.fs nm) K F (swp G1 Gf N) (putF f y' l) o'.v) :
    ∃ Gs', Asn K B F0 (ss.set i (L.S o')) σ H' F Gs' := by
  have hm := List.mem_of_getElem? hG
  have gfp : Gf p = none := Same.free sf n1
  have Np : N p = none := by
    cases e : N p with
    | none => rfl
    | some u =>
      rcases (hN _ _ e).2.2 with q | q
      · exact (q gfp).elim
      · have := q.2.2 G hm
        rw [hp] at this; cases this
  refine ⟨Gs.set i (upd (swp G1 Gf N) p (.ins (ObC.C nm) dx (putF f y' l))), ?_⟩
  have A2 := A.chg (s := L.S o') (o := some (.ref p)) (G2 := upd (swp G1 Gf N) p (.ins (ObC.C nm) dx (putF f y' l))) (H' := H') hG hk (fun c u z => by
    by_cases e : c = p
    · subst e
      rw [upd_same] at z; cases z
      exact ⟨hp', rfl, .inl (by rw [hp]; exact fun h => nomatch h)⟩
    · rw [upd_ne e] at z
      rcases swp_of z with q | ⟨q1, q2, q3⟩
      · obtain ⟨h1, h2, h3⟩ := hN _ _ q
        refine ⟨h1, h2, h3.elim (fun w => .inl ?_) .inr⟩
        cases eg : Gf c with
        | none => exact (w eg).elim
        | some w2 => rw [s1 _ _ (sf _ _ eg)]; exact fun h => nomatch h
      · have gc := s1 _ _ q3
        exact ⟨hk2 c u e gc q2, (A.priv G hm _ _ gc).2.2.2, .inl (by rw [gc]; exact fun h => nomatch h)⟩)
    (L.put hS ⟨p, dx, putF f y' l, swp G1 Gf N, rfl, upd_same, (fun c u z => by
      by_cases e : c = p
      · subst e
        rw [swp_none n1 Np] at z; cases z
      · rw [upd_ne e]; exact z), swp_none n1 Np, hd⟩)
  rw [set_self hσ] at A2
  exact A2
end
end G

namespace G
open PySem PySem.Spec PyProof.Rows L2
section
variable {X : Cx} {W : WX} {ss : List Slot} {k j : Nat} {nm : String} [ObN nm] [ObC nm] {m : Str} {α A' A R : Type} [EncF α] [EncP A'] [EncA A] {c : Ob nm α × A' → A} {g : A → Res R} {kr : R → Slot} {p pos apos : Pos} {o e : Expr} {es : List Expr}
end
section
variable {X : Cx} {CX : CXT} {k : Nat} {f C : Addr} {fd : FuncData} {ps : List Str} {sp : Sp} {dvs : List V} {ds : List Value} {E : L2.St → L2.XK} {x : Str} {p pos : Pos} {e : Expr} {es : List Expr} {t : TA}
def tMakeSV (C : Addr) (sp : Sp) (dvs : List V) (E : L2.St → L2.XK) (t : TA) : TE := fun σ H Q => t σ H fun vs H1 => ∀ x dx, H1 x = none → H1 dx = none → dx ≠ x →
  sp (.ref x :: (vs ++ dvs)) (upd (upd H1 dx (.own x)) x (.ins C dx [])) (fun v H2 => v = .non ∧ Q (.ref x) H2) (E σ)
theorem run_makeSV {pins : List (Addr × Obj)} {σ : L2.St} {H : Hp} {s : Shared} {Q : VK} {us : List Value} {vs : List V} (M : Mk X.K C f) (F : FnOk X.prog X.w X.K X.mg X.base CX k f fd ps sp) (hr : Room (k + 1) X.A) (hb : Binds X.K fd ps ds) (hd : Vals dvs ds)
    (hx : ∀ σ, PassesAt CX X σ (E σ)) (I : L2.Inv X pins σ H s) (r : Vals vs us)
    (h : ∀ x dx, H x = none → H dx = none → dx ≠ x → sp (.ref x :: (vs ++ dvs)) (upd (upd H dx (.own x)) x (.ins C dx [])) (fun v H2 => v = .non ∧ Q (.ref x) H2) (E σ)) :
    wpAny (model X.prog X.w) X.A (call (.ref C) us) (EP X pins σ Q) X.xe s := by
  have hq := h (s.heap.objs.size + 1) s.heap.objs.size (I.hok.fresh (Nat.le_succ _)) (I.hok.fresh (Nat.le_refl _)) (Nat.ne_of_lt (Nat.lt_succ_self _))
  have I2 := L2.Inv.made (C := C) I
  have r2 : Vals (V.ref (s.heap.objs.size + 1) :: (vs ++ dvs)) ((Value.ref (s.heap.objs.size + 1) :: us) ++ ds) := .cons rfl (r.append hd)
  have hl : ((Value.ref (s.heap.objs.size + 1) :: us) ++ ds).length = ps.length := r2.length.symm.trans (F.len _ _ _ _ hq)
  have bd := hb _ (Value.ref (s.heap.objs.size + 1) :: us) I2.kIn hl
  refine wpAny_call (make_map (f := f) I.kIn M.makes M.init (beq_iff_eq.mp M.fn) (codeAny_mono (F.run _ X.stack _ _ ⟨Value.ref (s.heap.objs.size + 1) :: us, []⟩ ((Value.ref (s.heap.objs.size + 1) :: us) ++ ds) _ _ (E σ) (hr.make C us [])
    (I2.env0.make C us []) bd r2 hq) fun r s' hq' => ?_))
  match r, hq' with
  | .error e, hq' => exact hx σ pins _ _ e s' I2 hq'
  | .ok (.ret u), hq' =>
    obtain ⟨v, H', I3, rv, ev, q3⟩ := I2.after hq'
    subst ev
    exact ⟨rv, ⟨V.ref (s.heap.objs.size + 1), H', I3, rfl, q3⟩⟩
  | .ok .next, hq' => exact False.elim hq'
  | .ok .brk, hq' => exact False.elim hq'
  | .ok .cont, hq' => exact False.elim hq'
theorem pe_makeSV (M : Mk X.K C f) (F : FnOk X.prog X.w X.K X.mg X.base CX k f fd ps sp) (hr : Room (k + 1) X.A) (hg : Gl X x) (hm : X.mg x = some (.ref C)) (hb : Binds X.K fd ps ds) (hd : Vals dvs ds) (hx : ∀ σ, PassesAt CX X σ (E σ))
    (ha : PA X (e :: es) t) (hdb : (x == ("__debug__" : Str)) = false := by decide) (he : starEach (e :: es) X.env = (false, eval e X.env) :: starEach es X.env := by rfl) (hpl : (backTo pos (starEach es X.env)).any (·.1) = false := by rfl) :
    PE X (.Call (.Name x p) (e :: es) [] pos) (tMakeSV C sp dvs E t) :=
  ⟨fun pins s σ H Q I h => wpAny_Call_Name_kw (ld_glob I hg hm (PySem.W.callWith_K (h₀ := X.base) I.ok.mod.kin M.kp (thn (ha.run pos pins s σ H _ I h) fun us s1 ⟨vs, H1, I1, r, q⟩ => ⟨I1.kIn, run_makeSV M F hr hb hd hx I1 r q⟩) he hpl) hdb)⟩
end
def nobO (C : Addr) (p : Addr) (ns : List Str) {α : Type} [EncF α] (D : OwF α) (a : α) : Slot :=
  ⟨fun K F G o => o = some (.ref p) ∧ ∃ dx l G1, G p = some (.ins C dx l) ∧ Same G1 G ∧ G1 p = none ∧ D.own ns K F G1 l a, fun s t ⟨e, dx, l, G1, h, a, b, r⟩ => ⟨e, dx, l, G1, t _ _ h, a.trans t, b, D.mF s r⟩⟩
def iniO (C : Addr) (p : Addr) (ns : List Str) {α : Type} [EncF α] (D : OwF α) (a : α) : Slot :=
  ⟨fun K F G o => o = some .non ∧ ∃ dx l G1, G p = some (.ins C dx l) ∧ Same G1 G ∧ G1 p = none ∧ D.own ns K F G1 l a, fun s t ⟨e, dx, l, G1, h, a, b, r⟩ => ⟨e, dx, l, G1, t _ _ h, a.trans t, b, D.mF s r⟩⟩
theorem xk_fz {X : Cx} {W : WX} {ss : List Slot} {e : Expr} {α : Type} [Enc α] {m : Res α} (h : XK X W ss e m fr) : XK X W ss e m (os fzO) := h.kd fun a K F G o ⟨v, e, r⟩ => ⟨v, e, r⟩
section
variable {X : Cx} {W : WX} {ss : List Slot} {pos : Pos} {e : Expr}
theorem s1_setFO (i : Nat) {C p : Addr} {ns : List Str} {α β : Type} [EncF α] [Enc β] {D : OwF α} {d' : Ow β} {a : α} {m : Res β} {x f : Str} {xp apos : Pos} (hs : ss[i]? = some (nobO C p ns D a)) (h : XK X W ss e m (os d')) (cl : Cls X.K C) (na : NoAttr X.K C f) (hz : ns.length ≤ 100)
    (hp : PE X (.Name x xp) (tVar i) := by exact pv _) (hsw : swapsWith e (some (.Attribute (.Name x xp) f apos)) pos.line X.env = pure false := by rfl) :
    S1 X W ss (.Assign [.Attribute (.Name x xp) f apos] e pos) m (fun b => ss.set i (nobO C p (f :: ns) (coF D d') (a, b))) := by
  refine PS_imp (ps_fld hp h hsw) fun D' σ H ⟨B, F0, F, Gs, A, q⟩ => ⟨F, A.ext.sub, A.sl, wpS_R q A.base fun b q v H' F' G' s ex pr k => ?_⟩
  obtain ⟨v', e1, rv⟩ := k
  cases e1
  have A' := A.grow s ex
  have fr' := fresh_of A pr
  obtain ⟨G, o, hG, hσ, e2, dx, l, G1, hl, s1, n1, r⟩ := A'.all.get hs
  subst e2
  have hm := List.mem_of_getElem? hG
  have hH := A'.sub G hm _ _ hl
  have hlen := EncF.len (D.view r (Same.refl _ |>.trans A'.ext.sub) (s1.trans (A'.sub G hm)))
  have dG : ∀ {c u}, G' c = some u → G c = none := fun {c u} z => (fr' c u z).2.2.2.2 G hm
  have gp : G' p = none := by
    cases e : G' p with
    | none => rfl
    | some u => have := dG e; rw [hl] at this; cases this
  refine ⟨.ref p, hσ, p, C, dx, l, rfl, hH, cl, na, by omega, ?_⟩
  have A2 := A'.chg (s := nobO C p (f :: ns) (coF D d') (a, b)) (o := some (.ref p)) (G2 := upd (join G G') p (.ins C dx (putF f v l))) (H' := upd H' p (.ins C dx (putF f v l))) hG (fun c u z h => by rw [upd_ne (fun e => by rw [e, hl] at z; cases z)]; exact h) (fun c u z => by
    by_cases e : c = p
    · subst e
      rw [upd_same] at z ⊢; cases z
      exact ⟨rfl, rfl, .inl (by rw [hl]; exact fun h => nomatch h)⟩
    · rw [upd_ne e] at z ⊢
      rcases join_or z with y | y
      · exact ⟨A'.sub G hm _ _ y, (A'.priv G hm c u y).2.2.2, .inl (by rw [y]; exact fun h => nomatch h)⟩
      · obtain ⟨h1, h2, h3, h4, h5⟩ := fr' c u y
        exact ⟨h1, h2, .inr ⟨h3, h4, h5⟩⟩) ⟨rfl, dx, putF f v l, join G1 G', upd_same, (fun c u z => ?_), ?_, f, ns, l, v, G1, G', rfl, rfl, join_l, (fun c u z => ?_), (fun c => ?_), r, rv⟩
  · rw [set_self hσ] at A2
    exact q _ _ _ _ A2
  · rcases join_or z with y | y
    · rw [upd_ne (fun e => by rw [e, n1] at y; cases y)]
      exact join_l _ _ (s1 _ _ y)
    · rw [upd_ne (fun e => by rw [e, gp] at y; cases y)]
      unfold join
      rw [dG y]; exact y
  · unfold join; rw [n1]; exact gp
  · unfold join
    have : G1 c = none := Same.free s1 (dG z)
    rw [this]; exact z
  · cases z : G' c with
    | none => exact .inr rfl
    | some u => exact .inl (Same.free s1 (dG z))
end
def spIO (K : Frag) (mg : Str → Option Value) (C : Addr) (ns : List Str) {A β : Type} [EncA A] [EncF β] (D : OwF β) (g : A → Res β) : Sp := fun vs H Q E => ∃ (a : A) (p dx : Addr) (us : List V) (B F : Hp), vs = .ref p :: us ∧ EncA.rep K F us a ∧ Same F B ∧ Same B H ∧
  H p = some (.ins C dx []) ∧ B p = none ∧
  match g a with
  | .ok b => ∀ H' F' G' dx' l G1, Same B H' → Ext F B F' H' → Priv G' B F' H' → G' p = some (.ins C dx' l) → Same G1 G' → G1 p = none → D.own ns K F' G1 l b → Q .non H'
  | .exc x => ∀ cls d H', mg x.cls = some cls → Same B H' → payRep x.pay d H' → E cls d H'
  | .stuck => False
section
variable {P : Program} {w : World} {K : Frag} {mg : Str → Option Value} {base : Heap}
theorem ini_start {qual : Str} {sc : Scope} {f : Addr} {N ps : List Str} {k : Nat} {C : Addr} {ns : List Str} {A β : Type} [EncP A] [EncF β] {D : OwF β} {g : A → Res β} {body : List Stmt} (hl : EncP.len A + 1 = ps.length)
    (hbody : ∀ (p : Addr) (a : A) (cdv : Value) (A' : Around) (outer : List Env) (s : Shared) (H : Hp) (E : L2.XK), Room k (A'.deeper (envOfC qual sc s.heap.objs.size f cdv)) →
      ST (cxOf (L2.CX P w) P w K mg base N qual sc f cdv A' outer s H E) (wE E) true (nobO C p [] unF () :: (EncP.slots a ++ List.replicate (N.length - ps.length) any)) body (g a) (iniO C p ns D))
    (cdv : Value) (A' : Around) (outer : List Env) (s : Shared) (H : Hp) (vs : List V) (Q : VK) (E : L2.XK) (hr : Room k (A'.deeper (envOfC qual sc s.heap.objs.size f cdv))) (h : spIO K mg C ns D g vs H Q E) :
      ∃ t, PSs (cxOf (L2.CX P w) P w K mg base N qual sc f cdv A' outer s H E) body t ∧ t { nx := fun _ H' => Q .non H', rt := Q } (L2.start N vs) H := by
  obtain ⟨a, p, dx, us, B, F0, e, r, sB, sH, hp, bp, q⟩ := h
  subst e
  obtain ⟨lu, z⟩ := EncP.start r
  have lp : ps.length = us.length + 1 := by rw [← hl, lu]
  have hF : F0 p = none := Same.free sB bp
  refine ⟨_, hbody p a cdv A' outer s H E hr, B, F0, F0, upd noHp p (.ins C dx []) :: (List.replicate (EncP.len A) noHp ++ List.replicate (N.length - ps.length) noHp), ⟨⟨Same.refl _, sB.trans sH, fun _ _ h => .inl h⟩, sH, ?_, ?_, ?_⟩, fun _ _ _ h => h, ?_⟩
  · have e : L2.start N (.ref p :: us) = some (.ref p) :: (us.map some ++ List.replicate (N.length - ps.length) none) := by
      unfold L2.start
      rw [List.map_cons, List.length_cons, lp]; rfl
    rw [e]
    exact ⟨⟨rfl, dx, [], noHp, upd_same, (fun _ _ h => nomatch h), rfl, rfl, rfl⟩, z.append (all3_any _)⟩
  · intro G m b u hz
    rcases List.mem_cons.mp m with rfl | m
    · by_cases e : b = p
      · subst e
        rw [upd_same] at hz; cases hz
        exact ⟨hp, bp, hF, rfl⟩
      · rw [upd_ne e] at hz; cases hz
    · rw [List.replicate_append_replicate] at m
      rw [(List.mem_replicate.mp m).2] at hz
      cases hz
  · rw [List.replicate_append_replicate]
    refine List.pairwise_cons.mpr ⟨fun G m b => .inr ?_, pw_no _⟩
    rw [(List.mem_replicate.mp m).2]; rfl
  · show wpS _ _ (g a) B _
    cases e : g a with
    | ok b =>
      rw [e] at q
      intro v H' F' G' s1 ex pr ⟨ev, dx', l, G1, hG, s2, n1, rl⟩
      cases ev
      exact q H' F' G' dx' l G1 s1 ex pr hG s2 n1 rl
    | exc x => rw [e] at q; exact fun σ cls d H' h1 h2 h3 => q cls d H' h1 h2 h3
    | stuck => rw [e] at q; exact q
end
structure CalIO (P : Program) (w : World) (K : Frag) (mg : Str → Option Value) (base : Heap) (k : Nat) (nm : String) [ObN nm] [ObC nm] {A' A β : Type} [EncA A'] [EncA A] [EncF β] (D : OwF β) (c : A' → A) (g : A → Res β) : Prop where
  ex : ∃ f fd ps dvs ds, FnOk P w K mg base (L2.CX P w) k f fd ps (spIO K mg (ObC.C nm) (ObN.fs nm) D g) ∧ Mk K (ObC.C nm) f ∧ Binds K fd ps ds ∧ Vals dvs ds ∧ ∀ H vs a, EncA.rep K H vs a → EncA.rep K H (vs ++ dvs) (c a)
  gl : mg (PySem.Str.ofString nm) = some (.ref (ObC.C nm))
structure IsIniD (K : Frag) (nm : String) [ObC nm] (qual : Str) (st : Stmt) (dvs : List V) : Prop where
  ex : ∃ f fd, FunD K "__init__" qual (defArgs st) (defBody st) (defScope st) dvs [] f fd ∧ Mk K (ObC.C nm) f
def BndI (qual : Str) (st : Stmt) (ps : List Str) (m n j : Nat) : Prop := ∀ (T : Addr) (kV doc pm : Value) (an : Option Addr) (cdv ct : Value) (us its : List Value), us.length = n → its.length = m →
  ∃ k, bindArgs (PySem.W.fnOf "__init__" qual (defArgs st) (defBody st) (defScope st) (.ref T) kV doc pm an cdv ct) ⟨us, []⟩ = seqItems? (.ref T) >>= k ∧ k (some its.toArray) = pure (ps.zip (us ++ its.drop j))
section
variable {P : Program} {w : World} {K : Frag} {mg : Str → Option Value} {base : Heap}
theorem spIO_len {N ps : List Str} {C : Addr} {ns : List Str} {A β : Type} [EncP A] [EncF β] {D : OwF β} {g : A → Res β} (hl : EncP.len A + 1 = ps.length) (vs : List V) (H : Hp) (Q : VK) (E : L2.XK) (h : spIO K mg C ns D g vs H Q E) : vs.length = ps.length := by
  obtain ⟨a, p, dx, us, B, F0, e, r, _⟩ := h
  rw [e, List.length_cons, (EncP.start r).1]; exact hl
theorem cal_mkIO {nm : String} [ObN nm] [ObC nm] {qual : Str} {st : Stmt} {N ps : List Str} {k : Nat} {A β : Type} [EncP A] [EncF β] {D : OwF β} {g : A → Res β} (I : IsIni K nm qual st) (gl : mg (PySem.Str.ofString nm) = some (.ref (ObC.C nm))) (S : FnScope N ps (defScope st)) (hl : EncP.len A + 1 = ps.length)
    (hb : ∀ (kV doc pm : Value) (an : Option Addr) (cdv ct : Value) (us : List Value), us.length = ps.length → bindArgs (PySem.W.fnOf "__init__" qual (defArgs st) (defBody st) (defScope st) .none kV doc pm an cdv ct) ⟨us, []⟩ = pure (ps.zip us))
    (hbody : ∀ (p : Addr) (a : A) (f : Addr) (cdv : Value) (A' : Around) (outer : List Env) (s : Shared) (H : Hp) (E : L2.XK), Room k (A'.deeper (envOfC qual (defScope st) s.heap.objs.size f cdv)) →
      ST (cxOf (L2.CX P w) P w K mg base N qual (defScope st) f cdv A' outer s H E) (wE E) true (nobO (ObC.C nm) p [] unF () :: (EncP.slots a ++ List.replicate (N.length - ps.length) any)) (defBody st) (g a) (iniO (ObC.C nm) p (ObN.fs nm) D)) :
    CalIO P w K mg base (k + 1) nm D (fun a : A => a) g := by
  obtain ⟨f, fd, F, M⟩ := I.ex
  exact ⟨⟨f, fd, ps, [], [], F.okX S (spIO_len (N := N) hl) (ini_start hl fun p a cdv A' outer s H E hr => hbody p a f cdv A' outer s H E hr), M, F.binds hb, .nil, fun H vs a h => by rw [List.append_nil]; exact h⟩, gl⟩
end
section
variable {X : Cx} {W : WX} {ss : List Slot} {k j : Nat} {nm : String} [ObN nm] [ObC nm] {A' A β : Type} [EncA A'] [EncA A] [EncF β] {D : OwF β} {c : A' → A} {g : A → Res β} {p pos : Pos} {e : Expr} {es : List Expr}
theorem xk_makeO (C : CalIO X.prog X.w X.K X.mg X.base j nm D c g) (hr : Room k X.A) (tk : Takes X W) {ma : Res A'} (ha : XAK X W ss (e :: es) ma) (hj : j + 1 ≤ k := by decide) (hg : Gl X (PySem.Str.ofString nm) := by rfl) (hdb : (PySem.Str.ofString nm == ("__debug__" : Str)) = false := by decide +kernel)
    (he : starEach (e :: es) X.env = (false, eval e X.env) :: starEach es X.env := by rfl) (hpl : (backTo pos (starEach es X.env)).any (·.1) = false := by rfl) :
    XK X W ss (.Call (.Name (PySem.Str.ofString nm) p) (e :: es) [] pos) (ma.bind fun a => (g (c a)).bind fun b => .ok (⟨b⟩ : Ob nm β)) (os (obO D)) := by
  obtain ⟨f, fd, ps, dvs, ds, F, M, hb, hv, hc⟩ := C.ex
  refine PE_imp (pe_makeSV (E := fun σ cls d H => W cls d σ H) M F (hr.mono hj) hg C.gl hb hv (fun σ => passAt tk σ) ha hdb he hpl) fun σ H Q ⟨F0, sf, sl, q⟩ => ⟨F0, sf, sl, wpR_imp (wpR_bind q) (Same.refl H) fun a q vs H1 F1 s1 ex1 ra x dx nx ndx nex => ?_⟩
  have sx : Same H1 (upd (upd H1 dx (.own x)) x (.ins (ObC.C nm) dx [])) := fun b o e => by
    rw [upd_ne (ne_of_none e nx), upd_ne (ne_of_none e ndx)]
    exact e
  refine ⟨c a, x, dx, vs ++ dvs, H1, F1, rfl, hc _ _ _ ra, ex1.sub, sx, upd_same, nx, ?_⟩
  cases eg : g (c a) with
  | ok b =>
    rw [eg] at q
    intro H' F' G' dx' l G1 sB ex pr hx' s2 n1 rl
    refine ⟨rfl, ?_⟩
    exact q (.ref x) H' F' G' (s1.trans sB) (ex1.trans s1 ex) (fun b u z => ⟨(pr b u z).1, Same.free s1 (pr b u z).2.1, (pr b u z).2.2⟩) ⟨_, rfl, x, dx', l, G1, rfl, hx', s2, n1, rl⟩
  | exc y => rw [eg] at q; exact fun cls d H' h1 h2 h3 => q cls d H' h1 (s1.trans h2) h3
  | stuck => rw [eg] at q; exact q
end
end G

namespace G
open PySem PySem.Spec PyProof.Rows L2
def ex {α : Type} [Enc α] (v : V) (a : α) : Slot := ⟨fun K F _ o => o = some v ∧ Enc.rep K F v a, fun s _ ⟨e, r⟩ => ⟨e, Enc.mono s r⟩⟩
structure IoV {α : Type} [Enc α] (d : Ow α) where
  v : α
def OwnsAny (G : Hp) (Gs : List Hp) : Prop := ∀ c u, G c = some u → ∃ g ∈ Gs, g c = some u
class EncIO (A : Type) where
  Vs : Type
  Os : Type
  Ln : Type
  len : Nat
  vl : Vs → List V
  slX : Vs → A → List Slot
  sl : Vs → A → List Slot
  own : Frag → Hp → Hp → Vs → Os → Prop
  outs : Vs → List Slot → Os → Prop
  js : Ln → List Nat
  argR : Frag → Hp → List Slot → L2.St → Ln → List V → A → Prop
  tk : Ln → List Slot → List Slot
  pt : Ln → Os → List Slot → List Slot
  vll : ∀ u, (vl u).length = len
  sll : ∀ u a, (sl u a).length = len
  slXl : ∀ u a, (slX u a).length = len
  ownM : ∀ {K : Frag} {F F' G G' : Hp} {u : Vs} {o : Os}, Same F F' → Same G G' → own K F G u o → own K F' G' u o
  start : ∀ {K : Frag} {F H : Hp} {Gs : List Hp} {u : Vs} {a : A}, All3 K F (sl u a) Gs ((vl u).map some) → Same F H → (∀ G ∈ Gs, Same G H) → All3 K H (slX u a) (List.replicate len noHp) ((vl u).map some)
  exact : ∀ {K : Frag} {F : Hp} {Gs : List Hp} {u : Vs} {a : A} {ts : List Slot} {σ : L2.St}, All3 K F (slX u a ++ ts) Gs σ → ∃ Gl σl, Gs = Gs.take len ++ Gl ∧ σ = (vl u).map some ++ σl ∧ All3 K F ts Gl σl
  outG : ∀ {K : Frag} {F : Hp} {Gs : List Hp} {u : Vs} {ss : List Slot} {σ : L2.St} {o : Os}, outs u ss o → All3 K F ss Gs σ → Gs.Pairwise Dj → ∃ G, own K F G u o ∧ OwnsAny G Gs
  argM : ∀ {K : Frag} {F F' : Hp} {ss : List Slot} {σ : L2.St} {l : Ln} {vs : List V} {a : A}, Same F F' → argR K F ss σ l vs a → argR K F' ss σ l vs a
  argS : ∀ {K : Frag} {F : Hp} {ss : List Slot} {σ : L2.St} {l : Ln} {vs : List V} {a : A} {j : Nat} {s : Slot}, argR K F ss σ l vs a → j ∉ js l → argR K F (ss.set j s) σ l vs a
  take : ∀ {K : Frag} {B F0 H F : Hp} {ss : List Slot} {σ : L2.St} {Gs : List Hp} {l : Ln} {vs : List V} {a : A}, Asn K B F0 ss σ H F Gs → (js l).Nodup → argR K F ss σ l vs a →
    ∃ u Gc Gs', vs = vl u ∧ Asn K B F0 (tk l ss) σ H F Gs' ∧ (∀ G ∈ Gc, Fresh B F H Gs' G) ∧ Gc.Pairwise Dj ∧ All3 K F (sl u a) Gc (vs.map some) ∧ (∀ c, (∀ g ∈ Gs, g c = none) → (∀ g ∈ Gs', g c = none) ∧ ∀ g ∈ Gc, g c = none) ∧
      ∀ {H2 F2 G2 : Hp} {Gs2 : List Hp} {os : Os}, Asn K B F0 (tk l ss) σ H2 F2 Gs2 → own K F2 G2 u os → Fresh B F2 H2 Gs2 G2 → ∃ Gs3, Asn K B F0 (pt l os ss) σ H2 F2 Gs3 ∧ ∀ c, (∀ g ∈ Gs2, g c = none) → G2 c = none → ∀ g ∈ Gs3, g c = none
instance : EncIO Unit where
  Vs := Unit
  Os := Unit
  Ln := Unit
  len := 0
  vl := fun _ => []
  slX := fun _ _ => []
  sl := fun _ _ => []
  own := fun _ _ _ _ _ => True
  outs := fun _ _ _ => True
  js := fun _ => []
  argR := fun _ _ _ _ _ vs _ => vs = []
  tk := fun _ ss => ss
  pt := fun _ _ ss => ss
  vll := fun _ => rfl
  sll := fun _ _ => rfl
  slXl := fun _ _ => rfl
  ownM := fun _ _ _ => trivial
  start := fun _ _ _ => trivial
  exact := fun {K F Gs u a ts σ} h => ⟨Gs, σ, rfl, rfl, h⟩
  outG := fun _ _ _ => ⟨noHp, trivial, fun _ _ h => nomatch h⟩
  argM := fun _ h => h
  argS := fun h _ => h
  take := fun {K B F0 H F ss σ Gs l vs a} A _ h => ⟨(), [], Gs, h, A, (fun _ m => nomatch m), List.Pairwise.nil, by cases (show vs = [] from h); exact trivial, fun c h => ⟨h, fun _ m => nomatch m⟩, fun {H2 F2 G2 Gs2 os} A2 _ _ => ⟨Gs2, A2, fun c h _ => h⟩⟩
theorem all3_consInv {K : Frag} {F : Hp} {s : Slot} {ss : List Slot} {Gs : List Hp} {σ : L2.St} (h : All3 K F (s :: ss) Gs σ) : ∃ G Gs' o σ', Gs = G :: Gs' ∧ σ = o :: σ' ∧ s.P K F G o ∧ All3 K F ss Gs' σ' := by
  cases Gs with
  | nil => exact h.elim
  | cons G Gs =>
    cases σ with
    | nil => exact h.elim
    | cons o σ => exact ⟨G, Gs, o, σ, rfl, rfl, h.1, h.2⟩
theorem dj_any {G g : Hp} {Gs : List Hp} (d : ∀ g' ∈ Gs, Dj g g') (o : OwnsAny G Gs) : Dj g G := fun c => by
  cases e : G c with
  | none => exact .inr rfl
  | some u =>
    obtain ⟨g', m, e'⟩ := o c u e
    exact .inl ((d g' m c).elim id fun z => by rw [z] at e'; cases e')
instance ioFr {α A : Type} [Enc α] [T : EncIO A] : EncIO (α × A) where
  Vs := V × T.Vs
  Os := T.Os
  Ln := T.Ln
  len := T.len + 1
  vl := fun u => u.1 :: T.vl u.2
  slX := fun u a => ex u.1 a.1 :: T.slX u.2 a.2
  sl := fun u a => fr a.1 :: T.sl u.2 a.2
  own := fun K F G u o => T.own K F G u.2 o
  outs := fun u ss o => ∃ s ss', ss = s :: ss' ∧ T.outs u.2 ss' o
  js := T.js
  argR := fun K F ss σ l vs a => ∃ v vs', vs = v :: vs' ∧ Enc.rep K F v a.1 ∧ T.argR K F ss σ l vs' a.2
  tk := T.tk
  pt := T.pt
  vll := fun u => by rw [List.length_cons, T.vll]
  sll := fun u a => by rw [List.length_cons, T.sll]
  slXl := fun u a => by rw [List.length_cons, T.slXl]
  ownM := fun s t h => T.ownM s t h
  start := fun {K F H Gs u a} h s t => by
    obtain ⟨G, Gs', o, σ', e1, e2, h1, h2⟩ := all3_consInv h
    subst e1
    cases e2
    obtain ⟨v, e, r⟩ := h1
    cases e
    exact ⟨⟨rfl, Enc.mono s r⟩, T.start h2 s fun g m => t g (List.mem_cons_of_mem _ m)⟩
  exact := fun {K F Gs u a ts σ} h => by
    obtain ⟨G, Gs', o, σ', e1, e2, h1, h2⟩ := all3_consInv h
    obtain ⟨Gl, σl, q1, q2, q3⟩ := T.exact h2
    subst e1
    exact ⟨Gl, σl, by rw [List.take_succ_cons, List.cons_append, ← q1], by rw [e2, q2, h1.1]; rfl, q3⟩
  outG := fun {K F Gs u ss σ o} ⟨s, ss', e, h⟩ h2 d => by
    subst e
    obtain ⟨G, Gs', o2, σ', e1, e2, h3, h4⟩ := all3_consInv h2
    subst e1
    obtain ⟨G2, q1, q2⟩ := T.outG h h4 (List.pairwise_cons.mp d).2
    exact ⟨G2, q1, fun c u z => by
      obtain ⟨g, m, e⟩ := q2 c u z
      exact ⟨g, List.mem_cons_of_mem _ m, e⟩⟩
  argM := fun s ⟨v, vs', e, r, h⟩ => ⟨v, vs', e, Enc.mono s r, T.argM s h⟩
  argS := fun ⟨v, vs', e, r, h⟩ n => ⟨v, vs', e, r, T.argS h n⟩
  take := fun {K B F0 H F ss σ Gs l vs a} A nd ⟨v, vs', e, r, h⟩ => by
    subst e
    obtain ⟨u, Gc, Gs', e1, A1, f1, p1, a1, c1, back⟩ := T.take A nd h
    refine ⟨(v, u), noHp :: Gc, Gs', by rw [e1], A1, fun G m => ?_, List.pairwise_cons.mpr ⟨fun _ _ _ => .inl rfl, p1⟩, ⟨⟨v, rfl, r⟩, a1⟩, fun c h => ⟨(c1 c h).1, fun g m => ?_⟩, fun A2 o f2 => back A2 o f2⟩
    · rcases List.mem_cons.mp m with e | m
      · subst e; exact fun c u z => nomatch z
      · exact f1 G m
    · rcases List.mem_cons.mp m with e | m
      · subst e; rfl
      · exact (c1 c h).2 g m
instance ioIo {α A : Type} [Enc α] {d : Ow α} [T : EncIO A] : EncIO (IoV d × A) where
  Vs := V × T.Vs
  Os := α × T.Os
  Ln := (Nat × OSl d) × T.Ln
  len := T.len + 1
  vl := fun u => u.1 :: T.vl u.2
  slX := fun u a => ex u.1 a.1.v :: T.slX u.2 a.2
  sl := fun u a => po u.1 d a.1.v :: T.sl u.2 a.2
  own := fun K F G u o => ∃ G1 G2, Same G1 G ∧ Same G2 G ∧ Dj G1 G2 ∧ d.own K F G1 u.1 o.1 ∧ T.own K F G2 u.2 o.2
  outs := fun u ss o => ∃ ss', ss = po u.1 d o.1 :: ss' ∧ T.outs u.2 ss' o.2
  js := fun l => l.1.1 :: T.js l.2
  argR := fun K F ss σ l vs a => ∃ v vs', vs = v :: vs' ∧ ss[l.1.1]? = some (l.1.2.S a.1.v) ∧ σ[l.1.1]? = some (some v) ∧ T.argR K F ss σ l.2 vs' a.2
  tk := fun l ss => T.tk l.2 (ss.set l.1.1 any)
  pt := fun l o ss => (T.pt l.2 o.2 (ss.set l.1.1 any)).set l.1.1 (l.1.2.S o.1)
  vll := fun u => by rw [List.length_cons, T.vll]
  sll := fun u a => by rw [List.length_cons, T.sll]
  slXl := fun u a => by rw [List.length_cons, T.slXl]
  ownM := fun s t ⟨G1, G2, a, b, c, h1, h2⟩ => ⟨G1, G2, a.trans t, b.trans t, c, d.mF s h1, T.ownM s (Same.refl _) h2⟩
  start := fun {K F H Gs u a} h s t => by
    obtain ⟨G, Gs', o, σ', e1, e2, h1, h2⟩ := all3_consInv h
    subst e1
    cases e2
    exact ⟨⟨rfl, d.view h1.2 s (t G List.mem_cons_self)⟩, T.start h2 s fun g m => t g (List.mem_cons_of_mem _ m)⟩
  exact := fun {K F Gs u a ts σ} h => by
    obtain ⟨G, Gs', o, σ', e1, e2, h1, h2⟩ := all3_consInv h
    obtain ⟨Gl, σl, q1, q2, q3⟩ := T.exact h2
    subst e1
    exact ⟨Gl, σl, by rw [List.take_succ_cons, List.cons_append, ← q1], by rw [e2, q2, h1.1]; rfl, q3⟩
  outG := fun {K F Gs u ss σ o} ⟨ss', e, h⟩ h2 dj => by
    subst e
    obtain ⟨G, Gs', o2, σ', e1, e2, h3, h4⟩ := all3_consInv h2
    subst e1
    obtain ⟨d1, d2⟩ := List.pairwise_cons.mp dj
    obtain ⟨G2, q1, q2⟩ := T.outG h h4 d2
    have dd : Dj G G2 := dj_any d1 q2
    refine ⟨join G G2, ⟨G, G2, join_l, fun c u z => ?_, dd, h3.2, q1⟩, fun c u z => ?_⟩
    · unfold join
      rw [(dd c).elim id fun w => by rw [w] at z; cases z]; exact z
    · rcases join_or z with z | z
      · exact ⟨G, List.mem_cons_self, z⟩
      · obtain ⟨g, m, e⟩ := q2 c u z
        exact ⟨g, List.mem_cons_of_mem _ m, e⟩
  argM := fun s ⟨v, vs', e, r, r2, h⟩ => ⟨v, vs', e, r, r2, T.argM s h⟩
  argS := fun ⟨v, vs', e, r, r2, h⟩ n => ⟨v, vs', e, by rw [List.getElem?_set_ne (fun e => n (by rw [e]; exact List.mem_cons_self))]; exact r, r2, T.argS h fun m => n (List.mem_cons_of_mem _ m)⟩
  take := fun {K B F0 H F ss σ Gs l vs a} A nd ⟨v, vs', e, hs, hσ, h⟩ => by
    subst e
    obtain ⟨n1, n2⟩ := List.nodup_cons.mp nd
    obtain ⟨G, v', hG, hσ', hS, ho⟩ := all3_osl l.1.2 A.all hs
    have ev : v' = v := by rw [hσ] at hσ'; cases hσ'; rfl
    subst ev
    obtain ⟨A0, f0⟩ := A.take hG
    have hm := List.mem_of_getElem? hG
    obtain ⟨u, Gc, Gs', e1, A1, f1, p1, a1, c1, back⟩ := T.take A0 n2 (T.argS h n1)
    have inG : ∀ c, (∀ g ∈ Gs, g c = none) → ∀ g ∈ Gs.set l.1.1 noHp, g c = none := fun c h g m => by
      rcases List.mem_or_eq_of_mem_set m with m | e
      · exact h g m
      · subst e; rfl
    refine ⟨(v', u), G :: Gc, Gs', by rw [e1], A1, fun G' m => ?_, List.pairwise_cons.mpr ⟨fun g m c => ?_, p1⟩, ⟨⟨rfl, ho⟩, a1⟩, fun c h => ?_, fun {H2 F2 G2 Gs2 os} A2 o f2 => ?_⟩
    · rcases List.mem_cons.mp m with e | m
      · subst e
        intro c w z
        obtain ⟨k1, k2, k3, k4, k5⟩ := f0 c w z
        exact ⟨k1, k2, k3, k4, (c1 c k5).1⟩
      · exact f1 G' m
    · cases z : G c with
      | none => exact .inl rfl
      | some w => exact .inr ((c1 c (f0 c w z).2.2.2.2).2 g m)
    · refine ⟨(c1 c (inG c h)).1, fun g m => ?_⟩
      rcases List.mem_cons.mp m with e | m
      · subst e; exact h g hm
      · exact (c1 c (inG c h)).2 g m
    · obtain ⟨Ga, Gb, sa, sb, dab, oa, ob⟩ := o
      obtain ⟨Gs3, A3, c3⟩ := back A2 ob fun c w z => by
        obtain ⟨k1, k2, k3, k4, k5⟩ := f2 c w (sb _ _ z)
        exact ⟨k1, k2, k3, k4, k5⟩
      have f3 : Fresh B F2 H2 Gs3 Ga := fun c w z => by
        obtain ⟨k1, k2, k3, k4, k5⟩ := f2 c w (sa _ _ z)
        exact ⟨k1, k2, k3, k4, c3 c k5 ((dab c).elim (fun q => by rw [q] at z; cases z) id)⟩
      have A4 := A3.give f3 l.1.1 (l.1.2.put hS oa)
      rw [set_self hσ] at A4
      refine ⟨_, A4, fun c h1 h2 g m => ?_⟩
      rcases List.mem_or_eq_of_mem_set m with m | e
      · exact c3 c h1 (Same.free sb h2) g m
      · subst e; exact Same.free sa h2
def ioK {A R : Type} [EncIO A] (kr : R → Slot) (u : EncIO.Vs A) (r : R × EncIO.Os A) : Slot :=
  ⟨fun K F G o => ∃ G1 G2, Same G1 G ∧ Same G2 G ∧ Dj G1 G2 ∧ (kr r.1).P K F G1 o ∧ EncIO.own K F G2 u r.2, fun s t ⟨G1, G2, a, b, c, h1, h2⟩ => ⟨G1, G2, a.trans t, b.trans t, c, (kr r.1).mono s (Same.refl _) h1, EncIO.ownM s (Same.refl _) h2⟩⟩
def spM (K : Frag) (mg : Str → Option Value) {A R : Type} [EncIO A] (f : A → Res (R × EncIO.Os A)) (kr : R → Slot) : Sp := fun vs H Q E => ∃ (u : EncIO.Vs A) (a : A) (B F : Hp) (Gs : List Hp), vs = EncIO.vl u ∧ All3 K F (EncIO.sl u a) Gs (vs.map some) ∧ Same F H ∧ Same B H ∧ (∀ G ∈ Gs, Priv G B F H) ∧ Gs.Pairwise Dj ∧
  match f a with
  | .ok r => ∀ v H' F' G', Same B H' → Ext F B F' H' → Priv G' B F' H' → (ioK kr u r).P K F' G' (some v) → Q v H'
  | .exc x => ∀ cls d H', mg x.cls = some cls → Same H H' → payRep x.pay d H' → E cls d H'
  | .stuck => False
section
variable (X : Cx) (W : WX)
def wTM {A R : Type} [EncIO A] (e : Bool) (u : EncIO.Vs A) (a : A) (M : Res (R × EncIO.Os A)) (kr : R → Slot) : Ends → Hp → Hp → Prop := fun D B1 F1 => ∃ B F Gs, F1 = B1 ∧ Same F B1 ∧ Same B B1 ∧ (∀ G ∈ Gs, Priv G B F B1) ∧ Gs.Pairwise Dj ∧ All3 X.K F (EncIO.sl u a) Gs ((EncIO.vl u).map some) ∧
  (e = true → ∀ σ H, D.rt .non H → D.nx σ H) ∧ wpS X W M B1 fun r => RtOk X (ioK kr u) r D B F
def STM {A R : Type} [EncIO A] (e : Bool) (u : EncIO.Vs A) (a : A) (ss : List Slot) (st : List Stmt) (M : Res (R × EncIO.Os A)) (kr : R → Slot) : Prop := PSs X st (rdX X ss (wTM X W e u a M kr))
end
section
variable {X : Cx} {W : WX} {ss : List Slot} {st : Stmt} {rest : List Stmt} {A R : Type} [EncIO A] {u : EncIO.Vs A} {a : A} {kr : R → Slot}
inductive Sw : List Slot → List Slot → Prop
  | nil : Sw [] []
  | fr {α : Type} [Enc α] [Imm α] {x : α} {ss ts : List Slot} (h : Sw ss ts) : Sw (G.fr x :: ss) (G.fr x :: ts)
  | ow {α : Type} [Enc α] [Imm α] {x : List α} {ss ts : List Slot} (h : Sw ss ts) : Sw (G.ow x :: ss) (G.ow x :: ts)
  | any {s : Slot} {ss ts : List Slot} (h : Sw ss ts) : Sw (s :: ss) (G.any :: ts)
theorem Sw.all {K : Frag} {F1 F2 H1 : Hp} (s1 : Same F1 H1) (s2 : Same (tups H1) F2) {ss ts : List Slot} (h : Sw ss ts) : ∀ {Gs : List Hp} {σ : L2.St}, All3 K F1 ss Gs σ → All3 K F2 ts Gs σ := by
  induction h with
  | nil =>
    intro Gs σ h
    match Gs, σ, h with
    | [], [], _ => exact trivial
    | [], _ :: _, h => exact h.elim
    | _ :: _, _, h => exact h.elim
  | fr h ih =>
      intro Gs σ h
      obtain ⟨G, Gs', o, σ', e1, e2, ⟨v, e, r⟩, h2⟩ := all3_consInv h
      subst e1; subst e2
      exact ⟨⟨v, e, Enc.mono s2 (Imm.imm (Enc.mono s1 r))⟩, ih h2⟩
  | ow h ih =>
      intro Gs σ h
      obtain ⟨G, Gs', o, σ', e1, e2, ⟨p, vs, e, g, r⟩, h2⟩ := all3_consInv h
      subst e1; subst e2
      exact ⟨⟨p, vs, e, g, All2.imp (fun _ _ z => Enc.mono s2 (Imm.imm (Enc.mono s1 z))) r⟩, ih h2⟩
  | any h ih =>
      intro Gs σ h
      obtain ⟨G, Gs', o, σ', e1, e2, _, h2⟩ := all3_consInv h
      subst e1; subst e2
      exact ⟨trivial, ih h2⟩
theorem Sw.len {ss ts : List Slot} (h : Sw ss ts) : ss.length = ts.length := by
  induction h with
  | nil => rfl
  | fr h ih => rw [List.length_cons, List.length_cons, ih]
  | ow h ih => rw [List.length_cons, List.length_cons, ih]
  | any h ih => rw [List.length_cons, List.length_cons, ih]
end
section
variable {P : Program} {w : World} {K : Frag} {mg : Str → Option Value} {base : Heap}
end
end G

namespace G
open PySem PySem.Spec PyProof.Rows L2
structure CalMu (P : Program) (w : World) (K : Frag) (mg : Str → Option Value) (base : Heap) (k : Nat) (nm : String) [ObN nm] [ObC nm] (m : Str) {A R : Type} [EncIO A] (g : A → Res (R × EncIO.Os A)) (kr : R → Slot) : Prop where
  ex : ∃ f fd ps, FnOk P w K mg base (L2.CX P w) k f fd ps (spM K mg g kr) ∧ Meth K (ObC.C nm) m f ∧ m ∉ ObN.fs nm ∧ Binds K fd ps []
structure CalFu (P : Program) (w : World) (K : Frag) (mg : Str → Option Value) (base : Heap) (k : Nat) (x : Str) {A R : Type} [EncIO A] (g : A → Res (R × EncIO.Os A)) (kr : R → Slot) : Prop where
  ex : ∃ f fd ps, FnOk P w K mg base (L2.CX P w) k f fd ps (spM K mg g kr) ∧ mg x = some (.ref f) ∧ PySem.W.keepIn K (.ref f) = true ∧ Binds K fd ps []
section
variable {P : Program} {w : World} {K : Frag} {mg : Str → Option Value} {base : Heap}
end
section
variable (X : Cx) (W : WX)
def rAL {A : Type} [EncIO A] (ss : List Slot) (l : EncIO.Ln A) (m : Res A) : TA := fun σ H Q =>
  ∃ F, Same F H ∧ Sl X.K F H ss σ ∧ wpR X W m σ H fun a => ∀ (vs : List V) H' F', Same H H' → Ext F H F' H' → EncIO.argR X.K F' ss σ l vs a → Q vs H'
def XAL {A : Type} [EncIO A] (ss : List Slot) (l : EncIO.Ln A) (es : List Expr) (m : Res A) : Prop := PA X es (rAL X W ss l m)
def rC {R T : Type} (ss : List Slot) (m : Res (R × T)) (post : T → List Slot) (kr : R → Slot) : TE := fun σ H Q => ∃ B F0 F Gs, Asn X.K B F0 ss σ H F Gs ∧
  wpR X W m σ H fun rt => ∀ v H' F' G' Gs', Asn X.K B F0 (post rt.2) σ H' F' Gs' → Fresh B F' H' Gs' G' → (kr rt.1).P X.K F' G' (some v) → Q v H'
def XC {R T : Type} (ss : List Slot) (e : Expr) (m : Res (R × T)) (post : T → List Slot) (kr : R → Slot) : Prop := PE X e (rC X W ss m post kr)
def rTC {T : Type} (ss : List Slot) (m : Res (Bool × T)) (post : T → List Slot) : TT := fun σ H Q => ∃ B F0 F Gs, Asn X.K B F0 ss σ H F Gs ∧
  wpR X W m σ H fun bt => ∀ H' F' Gs', Asn X.K B F0 (post bt.2) σ H' F' Gs' → Q bt.1 H'
def XTC {T : Type} (ss : List Slot) (e : Expr) (m : Res (Bool × T)) (post : T → List Slot) : Prop := PT X e (rTC X W ss m post)
end
open Classical in
noncomputable def less (H : Hp) (Gs : List Hp) : Hp := fun c => if ∃ g ∈ Gs, g c ≠ none then none else H c
section
variable {X : Cx} {W : WX} {ss : List Slot} {e a b : Expr} {es : List Expr} {st : Stmt} {rest : List Stmt} {pos : Pos}
section
variable {k j : Nat} {A R : Type} [EncIO A] {l : EncIO.Ln A} {g : A → Res (R × EncIO.Os A)} {kr : R → Slot} {x : Str} {p apos : Pos}
variable {nm : String} [ObN nm] [ObC nm] {α : Type} [EncF α] {D : OwF α} {mm : Str} {gm : IoV (obO (nm := nm) D) × A → Res (R × (Ob nm α × EncIO.Os A))}
end
variable {R T : Type} {m : Res (R × T)} {post : T → List Slot} {kr : R → Slot}
section
variable {S L R' : Type} {pn : S → List Slot} {pl : L → List Slot} {kr' : R' → Slot}
end
end
end G

namespace G
open PySem PySem.Spec PyProof.Rows L2
section
variable {X : Cx} {W : WX} {ss : List Slot} {pos : Pos} {e : Expr}
end
end G

namespace G
open PySem PySem.Spec PyProof.Rows L2
def osw {α : Type} [Enc α] : OSl (l1 (α := α)) := ⟨ow, fun ⟨p, vs, e, g, r⟩ => ⟨.ref p, e, p, vs, rfl, g, r⟩, fun _ ⟨p, vs, e, g, r⟩ => ⟨p, vs, by rw [e], g, r⟩⟩
section
variable {X : Cx} {W : WX} {ss : List Slot} {st : Stmt} {rest : List Stmt} {A R : Type} [EncIO A] {u : EncIO.Vs A} {a : A} {kr : R → Slot} {e : Expr} {pos : Pos}
theorem STM.slots {ee : Bool} {ss' : List Slot} {sts : List Stmt} {M : Res (R × EncIO.Os A)} (h : STM X W ee u a ss' sts M kr) (q : ss = ss') : STM X W ee u a ss sts M kr := q ▸ h
theorem STM.cast {ee : Bool} {sts : List Stmt} {M M' : Res (R × EncIO.Os A)} (h : STM X W ee u a ss sts M kr) (q : M' = M) : STM X W ee u a ss sts M' kr := q ▸ h
end
end G
namespace G
open PySem PySem.Spec PyProof.Rows L2
theorem Cal.as {P : Program} {w : World} {K : Frag} {mg : Str → Option Value} {base : Heap} {k : Nat} {x y : Str} {A' A R : Type} [EncA A'] [EncA A] {c : A' → A} {g : A → Res R} {kr : R → Slot} (h : mg y = mg x) (C : Cal P w K mg base k x c g kr) : Cal P w K mg base k y c g kr := by
  obtain ⟨f, fd, ps, dvs, ds, h1, h2, h3⟩ := C.ex
  exact ⟨f, fd, ps, dvs, ds, h1, h.trans h2, h3⟩
end G
namespace G
open PySem PySem.Spec PyProof.Rows L2
end G

namespace G
open PySem PySem.Spec PyProof.Rows L2
section
variable {X : Cx} {W : WX} {ss : List Slot} {e : Expr} {pos : Pos}
end
end G

namespace G
open PySem PySem.Spec PyProof.Rows L2
section
variable {X : Cx} {W : WX} {ss : List Slot} {a b c : Expr} {pos : Pos}
end
end G

namespace G
open PySem PySem.Spec PyProof.Rows L2
def t4O {α β γ δ : Type} [Enc α] [Enc β] [Enc γ] [Enc δ] (d : Ow α) (d' : Ow γ) : Ow (T4 α β γ δ) :=
  ⟨fun K F G v x => ∃ p v1 v2 v3 v4 G1 G3, v = .ref p ∧ F p = some (.tup [v1, v2, v3, v4]) ∧ Same G1 G ∧ Same G3 G ∧ Dj G1 G3 ∧ d.own K F G1 v1 x.a ∧ Enc.rep K F v2 x.b ∧ d'.own K F G3 v3 x.c ∧ Enc.rep K F v4 x.d,
  fun s ⟨p, v1, v2, v3, v4, G1, G3, e, g, a1, a3, c, x, y, z, u⟩ => ⟨p, v1, v2, v3, v4, G1, G3, e, s _ _ g, a1, a3, c, d.mF s x, Enc.mono s y, d'.mF s z, Enc.mono s u⟩,
  fun s ⟨p, v1, v2, v3, v4, G1, G3, e, g, a1, a3, c, x, y, z, u⟩ => ⟨p, v1, v2, v3, v4, G1, G3, e, g, a1.trans s, a3.trans s, c, x, y, z, u⟩,
  fun ⟨p, v1, v2, v3, v4, G1, G3, e, g, a1, a3, c, x, y, z, u⟩ s t => ⟨p, v1, v2, v3, v4, e, s _ _ g, d.view x s (a1.trans t), Enc.mono s y, d'.view z s (a3.trans t), Enc.mono s u⟩⟩
abbrev t4l {α β γ δ : Type} [Enc α] [Enc β] [Enc γ] [Enc δ] : Ow (T4 (List α) β (List γ) δ) := t4O l1 l1
section
variable {X : Cx} {W : WX} {ss : List Slot} {e1 e2 e3 e4 : Expr} {pos : Pos}
end
end G

namespace G
open PySem PySem.Spec PyProof.Rows L2
section
variable {X : Cx} {W : WX} {ss : List Slot} {st : Stmt}
end
end G

namespace G
open PySem PySem.Spec PyProof.Rows L2
section
variable {X : Cx} {W : WX} {ss : List Slot} {e : Expr}
end
end G
namespace G
open PySem PySem.Spec PyProof.Rows L2
class Bare (α : Type) [Enc α] : Prop where
  up : ∀ {K : Frag} {H H' : Hp} {v : V} {a : α}, Enc.rep K H v a → Enc.rep K H' v a
instance : Bare Str := ⟨fun h => h⟩
instance : Bare Int := ⟨fun h => h⟩
instance : Bare Bool := ⟨fun h => h⟩
section
variable {X : Cx} {W : WX} {ss : List Slot} {e b : Expr} {pos : Pos} {T : Type} {post : T → List Slot}
end
end G

namespace G
open PySem PySem.Spec PyProof.Rows L2
class Pw where
  prog : Program
  w : World
structure PwX [Pw] (X : Cx) : Prop where
  p : X.prog = Pw.prog
  w : X.w = Pw.w
instance {α β γ : Type} [DecidableEq α] [DecidableEq β] [DecidableEq γ] : DecidableEq (T3 α β γ) := fun a b => match a, b with
  | ⟨a1, a2, a3⟩, ⟨b1, b2, b3⟩ => if h : a1 = b1 ∧ a2 = b2 ∧ a3 = b3 then .isTrue (by rw [h.1, h.2.1, h.2.2]) else .isFalse fun q => h (by cases q; exact ⟨rfl, rfl, rfl⟩)
mutual
/-- v holds the key k -/
inductive KH (K : Frag) (H : Hp) : NestedKey → V → Prop
  | non : KH K H .none .non
  | bl (b : Bool) : KH K H (.num (if b = true then 1 else 0)) (.bl b)
  | int (i : Int) : KH K H (.num i) (.int i)
  | str (x : Str) : KH K H (.text x) (.str x)
  | tup {p : Addr} {vs : List V} {ks : List NestedKey} : SqT K H p vs → KHs K H ks vs → KH K H (.tup ks) (.ref p)
inductive KHs (K : Frag) (H : Hp) : List NestedKey → List V → Prop
  | nil : KHs K H [] []
  | cons {k : NestedKey} {v : V} {ks : List NestedKey} {vs : List V} : KH K H k v → KHs K H ks vs → KHs K H (k :: ks) (v :: vs)
end
mutual
theorem KH.is {X : Cx} {pins : List (Addr × Obj)} {σ : L2.St} {H : Hp} {s : Shared} (I : Inv X pins σ H s) : ∀ {k : NestedKey} {v : V} {u : Value}, KH X.K H k v → RelV v u → NestedIs s.heap k u
  | _, _, u, .non, r => by obtain rfl : u = Value.none := r; exact .none
  | _, _, u, .bl b, r => by obtain rfl : u = Value.bool b := r; exact .bool rfl
  | _, _, u, .int i, r => by obtain ⟨t, rfl⟩ : ∃ t, u = Value.int i t := r; exact .int i t
  | _, _, u, .str x, r => by obtain ⟨t, rfl⟩ : ∃ t, u = Value.str x t := r; exact .text x t
  | _, _, u, .tup (p := p) q h, r => by
    obtain rfl : u = Value.ref p := r
    obtain ⟨its, rv, ⟨o, ho, hc, n, hd⟩, _⟩ := I.tuple q
    exact .tup ho hc hd (by simpa using KHs.is I h rv)
theorem KHs.is {X : Cx} {pins : List (Addr × Obj)} {σ : L2.St} {H : Hp} {s : Shared} (I : Inv X pins σ H s) : ∀ {ks : List NestedKey} {vs : List V} {us : List Value}, KHs X.K H ks vs → Vals vs us → NestedAll s.heap ks us
  | _, _, _, .nil, r => by cases r; exact .nil
  | _, _, _, .cons a b, r => by
    cases r with
    | cons r1 r2 => exact .cons (KH.is I a r1) (KHs.is I b r2)
end
mutual
theorem KH.mono {K : Frag} {H H' : Hp} (s : Same H H') : ∀ {k : NestedKey} {v : V}, KH K H k v → KH K H' k v
  | _, _, .non => .non
  | _, _, .bl b => .bl b
  | _, _, .int i => .int i
  | _, _, .str x => .str x
  | _, _, .tup q h => .tup (seqT s q) (KHs.mono s h)
theorem KHs.mono {K : Frag} {H H' : Hp} (s : Same H H') : ∀ {ks : List NestedKey} {vs : List V}, KHs K H ks vs → KHs K H' ks vs
  | _, _, .nil => .nil
  | _, _, .cons a b => .cons (KH.mono s a) (KHs.mono s b)
end
class NKc (α : Type) [Enc α] where
  nk : α → NestedKey
  inj : ∀ a b, nk a = nk b → a = b
  dp : Nat
  dep : ∀ a, (nk a).depth ≤ dp
  kh : ∀ {K : Frag} {H : Hp} {v : V} {a : α}, Enc.rep K H v a → KH K H (nk a) v
class NKr (α : Type) [Enc α] : Prop where
  rf : ∀ {K : Frag} {H : Hp} {v : V} {a : α}, Enc.rep K H v a → ∃ b, v = .ref b
instance : NKc Int := ⟨.num, fun _ _ e => by injection e, 0, fun _ => by simp [NestedKey.depth], fun h => by rw [show _ = V.int _ from h]; exact .int _⟩
instance : NKc Str := ⟨.text, fun _ _ e => by injection e, 0, fun _ => by simp [NestedKey.depth], fun h => by rw [show _ = V.str _ from h]; exact .str _⟩
instance : NKc Bool := ⟨fun b => .num (if b = true then 1 else 0), fun a b e => by cases a <;> cases b <;> first | rfl | (injection e with e; exact absurd e (by decide)), 0, fun _ => by simp [NestedKey.depth], fun h => by rw [show _ = V.bl _ from h]; exact .bl _⟩
instance : NKc (Option Int) := ⟨fun o => match o with | some i => .num i | none => .none, fun a b e => by
  cases a <;> cases b
  · rfl
  · cases e
  · cases e
  · injection e with e; rw [e], 0, fun a => by cases a <;> simp [NestedKey.depth], fun {K H v a} h => by
  cases a with
  | none => rw [show v = V.non from h]; exact .non
  | some i => rw [show v = V.int i from h.2]; exact .int i⟩
instance {α β : Type} [Enc α] [Enc β] [NKc α] [NKc β] : NKc (α × β) where
  nk := fun x => .tup [NKc.nk x.1, NKc.nk x.2]
  inj := fun a b e => by
    injection e with e
    injection e with e1 e
    injection e with e2 _
    exact Prod.ext (NKc.inj _ _ e1) (NKc.inj _ _ e2)
  dp := max (NKc.dp α) (NKc.dp β) + 1
  dep := fun x => by
    have h1 := NKc.dep x.1
    have h2 := NKc.dep x.2
    simp only [NestedKey.depth, NestedKey.depthAll]
    omega
  kh := fun {K H v a} ⟨p, v1, v2, e, h, r1, r2⟩ => by rw [e]; exact .tup (SqT.of h) (.cons (NKc.kh r1) (.cons (NKc.kh r2) .nil))
instance {α β : Type} [Enc α] [Enc β] : NKr (α × β) := ⟨fun ⟨p, v1, v2, e, _⟩ => ⟨p, e⟩⟩
instance {α β γ : Type} [Enc α] [Enc β] [Enc γ] [NKc α] [NKc β] [NKc γ] : NKc (T3 α β γ) where
  nk := fun x => .tup [NKc.nk x.a, NKc.nk x.b, NKc.nk x.c]
  inj := fun a b e => by
    injection e with e
    injection e with e1 e
    injection e with e2 e
    injection e with e3 _
    cases a; cases b
    simp only at e1 e2 e3
    rw [NKc.inj _ _ e1, NKc.inj _ _ e2, NKc.inj _ _ e3]
  dp := max (NKc.dp α) (max (NKc.dp β) (NKc.dp γ)) + 1
  dep := fun x => by
    have h1 := NKc.dep x.a
    have h2 := NKc.dep x.b
    have h3 := NKc.dep x.c
    simp only [NestedKey.depth, NestedKey.depthAll]
    omega
  kh := fun {K H v a} ⟨p, v1, v2, v3, e, h, r1, r2, r3⟩ => by rw [e]; exact .tup (SqT.of h) (.cons (NKc.kh r1) (.cons (NKc.kh r2) (.cons (NKc.kh r3) .nil)))
instance {α β γ : Type} [Enc α] [Enc β] [Enc γ] : NKr (T3 α β γ) := ⟨fun ⟨p, _, _, _, e, _⟩ => ⟨p, e⟩⟩
instance {α β γ δ : Type} [Enc α] [Enc β] [Enc γ] [Enc δ] [NKc α] [NKc β] [NKc γ] [NKc δ] : NKc (T4 α β γ δ) where
  nk := fun x => .tup [NKc.nk x.a, NKc.nk x.b, NKc.nk x.c, NKc.nk x.d]
  inj := fun a b e => by
    injection e with e
    injection e with e1 e
    injection e with e2 e
    injection e with e3 e
    injection e with e4 _
    cases a; cases b
    simp only at e1 e2 e3 e4
    rw [NKc.inj _ _ e1, NKc.inj _ _ e2, NKc.inj _ _ e3, NKc.inj _ _ e4]
  dp := max (max (NKc.dp α) (NKc.dp β)) (max (NKc.dp γ) (NKc.dp δ)) + 1
  dep := fun x => by
    have h1 := NKc.dep x.a
    have h2 := NKc.dep x.b
    have h3 := NKc.dep x.c
    have h4 := NKc.dep x.d
    simp only [NestedKey.depth, NestedKey.depthAll]
    omega
  kh := fun {K H v a} ⟨p, v1, v2, v3, v4, e, h, r1, r2, r3, r4⟩ => by rw [e]; exact .tup (SqT.of h) (.cons (NKc.kh r1) (.cons (NKc.kh r2) (.cons (NKc.kh r3) (.cons (NKc.kh r4) .nil))))
instance {α β γ δ : Type} [Enc α] [Enc β] [Enc γ] [Enc δ] : NKr (T4 α β γ δ) := ⟨fun ⟨p, _, _, _, _, e, _⟩ => ⟨p, e⟩⟩
theorem nk_map_inj {α : Type} [Enc α] [NKc α] : ∀ {a b : List α}, a.map NKc.nk = b.map NKc.nk → a = b
  | [], [], _ => rfl
  | [], _ :: _, e => by cases e
  | _ :: _, [], e => by cases e
  | x :: a, y :: b, e => by
    rw [List.map_cons, List.map_cons] at e
    injection e with e1 e2
    rw [NKc.inj _ _ e1, nk_map_inj e2]
theorem nk_map_dep {α : Type} [Enc α] [NKc α] : ∀ a : List α, NestedKey.depthAll (a.map NKc.nk) ≤ NKc.dp α
  | [] => by simp [NestedKey.depthAll]
  | x :: a => by
    have h1 := NKc.dep x
    have h2 := nk_map_dep a
    simp only [List.map_cons, NestedKey.depthAll]
    omega
theorem nk_map_kh {α : Type} [Enc α] [NKc α] {K : Frag} {H : Hp} : ∀ {vs : List V} {a : List α}, All2 (fun v a => Enc.rep K H v a) vs a → KHs K H (a.map NKc.nk) vs
  | [], [], _ => .nil
  | _ :: _, _ :: _, ⟨x, y⟩ => .cons (NKc.kh x) (nk_map_kh y)
  | [], _ :: _, h => h.elim
  | _ :: _, [], h => h.elim
instance {α : Type} [Enc α] [NKc α] : NKc (Tup α) where
  nk := fun x => .tup (x.l.map NKc.nk)
  inj := fun a b e => by
    injection e with e
    have e := nk_map_inj e
    cases a; cases b
    cases e; rfl
  dp := NKc.dp α + 1
  dep := fun x => by
    have h := nk_map_dep x.l
    simp only [NestedKey.depth]
    omega
  kh := fun {K H v a} ⟨p, vs, e, h, r⟩ => by rw [e]; exact .tup h (nk_map_kh r)
instance {α : Type} [Enc α] : NKr (Tup α) := ⟨fun ⟨p, _, e, _⟩ => ⟨p, e⟩⟩

abbrev NKV := NestedKey × Addr × V
abbrev NRel : List NKV → List (NestedKey × Addr × Value) → Prop := Paired fun p q => (p.1 = q.1 ∧ p.2.1 = q.2.1) ∧ RelV p.2.2 q.2.2
def nIs (P : Program) (w : World) (a : Addr) (kvs : List NKV) (h : Heap) : Prop :=
  (kvs.length ≤ sizeLine ∧ (a == sysModules) = false) ∧ ∃ (o : Obj) (es : Array DictEntry) (ep : Nat) (xs : List (NestedKey × Addr × Value)), h.get? a = some o ∧ (o.ExactDict ∧ o.data = .dict es ep) ∧ NRel kvs xs ∧
    es.toList = xs.map (entryOfKey (nestedKind P w)) ∧ (xs.map (·.1)).Nodup
def hN (P : Program) (w : World) (a : Addr) (kvs : List NKV) : HO := .ext (nIs P w a kvs)
def valN (kvs : List NKV) (k : NestedKey) : Option V := (kvs.find? fun x => decide (x.1 = k)).map fun x => x.2.2
def putN (kvs : List NKV) (k : NestedKey) (b : Addr) (v : V) : List NKV :=
  if (valN kvs k).isSome = true then kvs.map (fun x => if x.1 = k then (x.1, x.2.1, v) else x) else kvs ++ [(k, b, v)]
theorem valN_pos {x : NKV} {r : List NKV} {k : NestedKey} (e : x.1 = k) : valN (x :: r) k = some x.2.2 := by simp [valN, List.find?_cons, e]
theorem valN_neg {x : NKV} {r : List NKV} {k : NestedKey} (e : ¬ x.1 = k) : valN (x :: r) k = valN r k := by simp [valN, List.find?_cons, e]
theorem NRel.val {kvs : List NKV} {xs : List (NestedKey × Addr × Value)} (r : NRel kvs xs) (k : NestedKey) : RelO (valN kvs k) ((atKey xs k).map (·.2)) := by
  induction r with
  | nil => exact True.intro
  | @cons p q ps qs h t ih =>
    by_cases e : p.1 = k
    · rw [valN_pos e, show atKey (q :: qs) k = some q.2 by simp [atKey, List.find?_cons, h.1.1.symm.trans e]]
      exact h.2
    · rw [valN_neg e, show atKey (q :: qs) k = atKey qs k by simp [atKey, List.find?_cons, show ¬ q.1 = k from fun z => e (h.1.1.trans z)]]
      exact ih
theorem NRel.put {kvs : List NKV} {xs : List (NestedKey × Addr × Value)} (r : NRel kvs xs) (k : NestedKey) (b : Addr) {y : V} {u : Value} (ry : RelV y u) : NRel (putN kvs k b y) (storedH xs k b u) := by
  have e := (r.val k).isSome_eq
  rw [Option.isSome_map] at e
  unfold putN storedH
  rw [e]
  split
  · rename_i hc
    clear hc e
    induction r with
    | nil => exact .nil
    | @cons p q ps qs h t ih =>
      rw [List.map_cons, List.map_cons]
      refine .cons ?_ ih
      unfold putAt
      by_cases e : p.1 = k
      · rw [if_pos e, if_pos (h.1.1.symm.trans e)]; exact ⟨h.1, ry⟩
      · rw [if_neg e, if_neg (fun z => e (h.1.1.trans z))]; exact h
  · exact Paired.snoc r ⟨⟨rfl, rfl⟩, ry⟩
def KeyN (K : Frag) (H : Hp) (k : NestedKey) (b : Addr) : Prop := KH K H k (.ref b) ∧ k.depth ≤ 8
theorem KeyN.mono {K : Frag} {H H' : Hp} {k : NestedKey} {b : Addr} (s : Same H H') (h : KeyN K H k b) : KeyN K H' k b := ⟨h.1.mono s, h.2⟩
section
variable {X : Cx} {pins : List (Addr × Obj)} {σ : L2.St} {H : Hp} {s : Shared} {a b : Addr} {k : NestedKey} {kvs : List NKV} {A : Around} {E : Value → Shared → Prop}
structure NGet (X : Cx) (H : Hp) (a : Addr) (y : V) (r : Option V) : Prop where
  ex : ∃ kvs k b, Rd H a (hN X.prog X.w a kvs) ∧ (∀ x ∈ kvs, KeyN X.K H x.1 x.2.1) ∧ y = .ref b ∧ KeyN X.K H k b ∧ r = valN kvs k
variable {y v : V} {u r : Value} {o : Option V}
structure NPut (X : Cx) (H : Hp) (a : Addr) (y v : V) (H' : Hp) : Prop where
  ex : ∃ kvs k b, H a = some (hN X.prog X.w a kvs) ∧ (∀ x ∈ kvs, KeyN X.K H x.1 x.2.1) ∧ y = .ref b ∧ KeyN X.K H k b ∧ kvs.length < sizeLine ∧ H' = upd H a (hN X.prog X.w a (putN kvs k b v))
end
end G

namespace G
open PySem PySem.Spec PyProof.Rows L2
section
variable {X : Cx} {o i value : Expr} {pos pos' : Pos} {td ty tv : TE}
end
section
variable {κ β : Type} [Enc κ] [DecidableEq κ] [NKc κ] [Enc β]
abbrev RepN (K : Frag) (F : Hp) (kvs : List NKV) (l : List (κ × β)) : Prop := All2 (fun (x : NKV) (y : κ × β) => (x.1 = NKc.nk y.1 ∧ Enc.rep K F (V.ref x.2.1) y.1) ∧ Enc.rep K F x.2.2 y.2) kvs l
theorem RepN.mono {K : Frag} {F F' : Hp} {kvs : List NKV} {l : List (κ × β)} (s : Same F F') (h : RepN K F kvs l) : RepN K F' kvs l := All2.imp (fun _ _ x => ⟨⟨x.1.1, Enc.mono s x.1.2⟩, Enc.mono s x.2⟩) h
instance (priority := low) encN [Pw] : Enc (Dic κ β) :=
  ⟨fun K H v d => ∃ p kvs, v = .ref p ∧ Rd H p (hN Pw.prog Pw.w p kvs) ∧ RepN K H kvs d.l, fun s ⟨p, kvs, e, h, r⟩ => ⟨p, kvs, e, rd_mono s h, RepN.mono s r⟩⟩
def owN [Pw] (d : Dic κ β) : Slot := ⟨fun K F G o => ∃ p kvs, o = some (.ref p) ∧ G p = some (hN Pw.prog Pw.w p kvs) ∧ RepN K F kvs d.l, fun s t ⟨p, kvs, e, h, r⟩ => ⟨p, kvs, e, t _ _ h, RepN.mono s r⟩⟩
structure LDic (κ β : Type) where
  d : Dic κ β
instance encL [Pw] : Enc (LDic κ β) :=
  ⟨fun K H v x => ∃ p kvs ob, v = .ref p ∧ H p = some (.frz ob (hN Pw.prog Pw.w p kvs)) ∧ RepN K H kvs x.d.l, fun s ⟨p, kvs, ob, e, h, r⟩ => ⟨p, kvs, ob, e, s _ _ h, RepN.mono s r⟩⟩
instance [Pw] : NN (LDic κ β) := ⟨fun ⟨_, _, _, e1, _⟩ e => by rw [e] at e1; cases e1⟩
instance [Pw] : View (owN (κ := κ) (β := β)) := ⟨fun ⟨p, kvs, e, g, r⟩ => by cases e; exact ⟨p, kvs, rfl, .inl g, r⟩⟩
instance [Pw] : NN (Dic κ β) := ⟨fun ⟨_, _, e1, _⟩ e => by rw [e] at e1; cases e1⟩
variable [Pw] [NKr κ] {X : Cx} {W : WX} {ss : List Slot} {pos : Pos} {a b e : Expr}
variable {mk : Res κ} {md : Res (Dic κ β)}
end
section
variable {κ β : Type} [Enc κ] [DecidableEq κ] [NKc κ] [Enc β] [Pw] {X : Cx} {W : WX} {ss : List Slot}
end
end G

namespace G
open PySem PySem.Spec PyProof.Rows L2
section
variable {X : Cx} {pins : List (Addr × Obj)} {σ : L2.St} {H : Hp} {s : Shared} {d : Addr} {o : Obj} {P : Program} {w : World}
end
def ItNk (P : Program) (w : World) (d : Addr) (o : Obj) (kvs : List NKV) : It :=
  ⟨fun i H => H d = some (.frz o (hN P w d kvs)) ∧ i < kvs.length, fun i H x H' => H' = H ∧ ∃ kv, kvs[i]? = some kv ∧ x = .ref kv.2.1, fun i H => H d = some (.frz o (hN P w d kvs)) ∧ kvs.length ≤ i⟩
def ItNv (P : Program) (w : World) (d : Addr) (o : Obj) (kvs : List NKV) : It :=
  ⟨fun i H => H d = some (.frz o (hN P w d kvs)) ∧ i < kvs.length, fun i H x H' => H' = H ∧ ∃ kv, kvs[i]? = some kv ∧ x = kv.2.2, fun i H => H d = some (.frz o (hN P w d kvs)) ∧ kvs.length ≤ i⟩
def ItNi (P : Program) (w : World) (d : Addr) (o : Obj) (kvs : List NKV) : It :=
  ⟨fun i H => H d = some (.frz o (hN P w d kvs)) ∧ i < kvs.length, fun i H x H' => ∃ T kv, kvs[i]? = some kv ∧ x = .ref T ∧ H T = none ∧ H' = upd H T (.tup [.ref kv.2.1, kv.2.2]), fun i H => H d = some (.frz o (hN P w d kvs)) ∧ kvs.length ≤ i⟩
section
variable {P P' : Program} {w w' : World} {K : PySem.W.Frag} {tg : Expr} {d : Addr} {o : Obj} {es : Array DictEntry} {ep : Nat} {kvs : List NKV}
end
section
variable {P : Program} {w : World} {X : Cx} {tg e : Expr} {td : TE} {apos cpos : Pos}
end
section
variable {κ β : Type} [Enc κ] [DecidableEq κ] [NKc κ] [Enc β] [Pw] {X : Cx} {W : WX} {ss : List Slot} {tg e : Expr} {m : Res (LDic κ β)} {apos cpos : Pos}
def dvals (d : Dic κ β) : List β := d.l.map (·.2)
end
end G

namespace G
open PySem PySem.Spec PyProof.Rows L2
section
variable {X : Cx}
def mergeN (kvs more : List NKV) : List NKV := more.foldl (fun acc x => putN acc x.1 x.2.1 x.2.2) kvs
end
section
variable {κ β : Type} [Enc κ] [DecidableEq κ] [NKc κ] [Enc β] [Pw] {X : Cx} {W : WX} {ss : List Slot} {pos : Pos} {a b e : Expr} {md : Res (Dic κ β)}
end
end G

namespace G
open PySem PySem.Spec PyProof.Rows L2
section
variable {κ β : Type} [Enc κ] [DecidableEq κ] [NKc κ] [Enc β]
def ownL (K : Frag) (F G : Hp) (v : V) (as : List β) : Prop := ∃ q vs, v = .ref q ∧ G q = some (.lst vs) ∧ All2 (fun v a => Enc.rep K F v a) vs as
theorem ownL.mono {K : Frag} {F F' G G' : Hp} {v : V} {as : List β} (s : Same F F') (t : Same G G') (h : ownL K F G v as) : ownL K F' G' v as := let ⟨q, vs, e, g, r⟩ := h; ⟨q, vs, e, t _ _ g, r.mono s⟩
abbrev RepL (K : Frag) (F G : Hp) (kvs : List NKV) (l : List (κ × List β)) : Prop := All2 (fun (x : NKV) (y : κ × List β) => (x.1 = NKc.nk y.1 ∧ Enc.rep K F (V.ref x.2.1) y.1) ∧ ownL K F G x.2.2 y.2) kvs l
theorem RepL.mono {K : Frag} {F F' G G' : Hp} {kvs : List NKV} {l : List (κ × List β)} (s : Same F F') (t : Same G G') (h : RepL K F G kvs l) : RepL K F' G' kvs l := All2.imp (fun _ _ x => ⟨⟨x.1.1, Enc.mono s x.1.2⟩, x.2.mono s t⟩) h
theorem RepL.view {K : Frag} {F G H : Hp} {kvs : List NKV} {l : List (κ × List β)} (s : Same F H) (t : Same G H) (h : RepL K F G kvs l) : RepN K H kvs l :=
  All2.imp (fun _ _ x => ⟨⟨x.1.1, Enc.mono s x.1.2⟩, let ⟨q, vs, e, g, r⟩ := x.2; ⟨q, vs, e, t _ _ g, r.mono s⟩⟩) h
theorem RepL.keep {K : Frag} {F G G' : Hp} {kvs : List NKV} {l : List (κ × List β)} (t : ∀ q vs, G q = some (.lst vs) → G' q = some (.lst vs)) (h : RepL K F G kvs l) : RepL K F G' kvs l := All2.imp (fun _ _ x => ⟨x.1, let ⟨q, vs, e, g, r⟩ := x.2; ⟨q, vs, e, t _ _ g, r⟩⟩) h
def owL [Pw] (d : Dic κ (List β)) : Slot :=
  ⟨fun K F G o => ∃ (p : Addr) (kvs : List NKV), o = some (.ref p) ∧ (G p = some (hN Pw.prog Pw.w p kvs) ∧ (kvs.map fun x : NKV => x.2.2).Nodup ∧ (dkeys d).Nodup) ∧ RepL K F G kvs d.l, fun s t ⟨p, kvs, e, h, r⟩ => ⟨p, kvs, e, ⟨t _ _ h.1, h.2.1, h.2.2⟩, RepL.mono s t r⟩⟩
instance [Pw] : View (owL (κ := κ) (β := β)) := ⟨fun ⟨p, kvs, e, g, r⟩ => by cases e; exact ⟨p, kvs, rfl, .inl g.1, RepL.view (Same.refl _) (Same.refl _) r⟩⟩
variable [Pw] [NKr κ] {X : Cx} {W : WX} {ss : List Slot} {pos : Pos} {a e : Expr} {mk : Res κ}
end
section
variable {κ β : Type} [Enc κ] [DecidableEq κ] [NKc κ] [Enc β] [Pw] {X : Cx} {W : WX} {ss : List Slot} {pos : Pos} {a b e : Expr} {mk : Res κ} {md : Res (Dic κ β)}
end
end G

namespace G
open PySem PySem.Spec PyProof.Rows L2
def dofP {κ β : Type} [DecidableEq κ] (l : List (κ × β)) : Dic κ β := l.foldl (fun d x => dput d x.1 x.2) ⟨[]⟩
section
variable {κ β : Type} [Enc κ] [DecidableEq κ] [NKc κ] [NKr κ] [Enc β]
variable [Pw] {X : Cx} {W : WX} {ss : List Slot} {pos : Pos} {e : Expr}
end
section
variable {X : Cx} {W : WX} {ss : List Slot} {pos : Pos} {e : Expr} {α : Type} [Enc α]
theorem xk_someF [NN α] {m : Res α} (h : XK X W ss e m fr) : XK X W ss e (m.bind fun a => .ok (some a)) fr :=
  PE_imp h fun σ H Q ⟨F, sf, sl, q⟩ => ⟨F, sf, sl, wpR_imp (wpR_bind q) (Same.refl H) fun x q v H1 F1 G1 s1 ex1 pr ⟨v', e1, r⟩ => by cases e1; exact q _ H1 F1 G1 s1 ex1 pr ⟨_, rfl, NN.nn r, r⟩⟩
theorem xk_noneF {j} : XK X W ss (.Constant .none j pos) (.ok (none : Option α)) fr :=
  PE_imp pe_non fun σ H Q ⟨F, sf, sl, q⟩ => q _ H F noHp (Same.refl H) (ext_refl sf) priv_no ⟨.non, rfl, rfl⟩
def t3c {α β γ : Type} (x : T3 α β (Option γ)) : Res (T3 α β γ) := match x.c with
  | some c => .ok ⟨x.a, x.b, c⟩
  | none => .stuck
end
end G

namespace G
open PySem PySem.Spec PyProof.Rows L2
structure T0 where
structure T1 (α : Type) where
  a : α
instance : Enc T0 := ⟨fun K H v _ => ∃ p, v = .ref p ∧ SqT K H p [], fun s ⟨p, e, h⟩ => ⟨p, e, seqT s h⟩⟩
instance : Imm T0 := ⟨fun ⟨p, e, h⟩ => ⟨p, e, seqT_tups h⟩⟩
instance {α : Type} [Enc α] : Enc (T1 α) := ⟨fun K H v x => ∃ p v1, v = .ref p ∧ H p = some (.tup [v1]) ∧ Enc.rep K H v1 x.a, fun s ⟨p, v1, e, h, r⟩ => ⟨p, v1, e, s _ _ h, Enc.mono s r⟩⟩
instance {α : Type} [Enc α] [Imm α] : Imm (T1 α) := ⟨fun ⟨p, v1, e, h, r⟩ => ⟨p, v1, e, tups_some h rfl, Imm.imm r⟩⟩
class TV (τ : Type) [Enc τ] where
  n : Nat
  PV : Frag → Hp → List V → τ → Prop
  len : ∀ {K : Frag} {H : Hp} {vs : List V} {x : τ}, PV K H vs x → vs.length = n
  out : ∀ {K : Frag} {H : Hp} {v : V} {x : τ}, Enc.rep K H v x → ∃ p vs, v = .ref p ∧ SqT K H p vs ∧ PV K H vs x
  inn : ∀ {K : Frag} {H : Hp} {p : Addr} {vs : List V} {x : τ}, H p = some (.tup vs) → PV K H vs x → Enc.rep K H (.ref p) x
  up : ∀ {K : Frag} {H H' : Hp} {vs : List V} {x : τ}, Same H H' → PV K H vs x → PV K H' vs x
instance : TV T0 := ⟨0, fun _ _ vs _ => vs = [], fun h => by rw [h]; rfl, fun ⟨p, e, h⟩ => ⟨p, [], e, h, rfl⟩, fun h e => by subst e; exact ⟨_, rfl, SqT.of h⟩, fun _ h => h⟩
instance {α : Type} [Enc α] : TV (T1 α) := ⟨1, fun K H vs x => ∃ v1, vs = [v1] ∧ Enc.rep K H v1 x.a, fun ⟨v1, e, _⟩ => by rw [e]; rfl, fun ⟨p, v1, e, h, r⟩ => ⟨p, _, e, SqT.of h, v1, rfl, r⟩, fun h ⟨v1, e, r⟩ => by subst e; exact ⟨_, v1, rfl, h, r⟩, fun s ⟨v1, e, r⟩ => ⟨v1, e, Enc.mono s r⟩⟩
instance {α β : Type} [Enc α] [Enc β] : TV (α × β) := ⟨2, fun K H vs x => ∃ v1 v2, vs = [v1, v2] ∧ Enc.rep K H v1 x.1 ∧ Enc.rep K H v2 x.2, fun ⟨v1, v2, e, _⟩ => by rw [e]; rfl, fun ⟨p, v1, v2, e, h, r⟩ => ⟨p, _, e, SqT.of h, v1, v2, rfl, r⟩,
  fun h ⟨v1, v2, e, r⟩ => by subst e; exact ⟨_, v1, v2, rfl, h, r⟩, fun s ⟨v1, v2, e, r1, r2⟩ => ⟨v1, v2, e, Enc.mono s r1, Enc.mono s r2⟩⟩
instance {α β γ : Type} [Enc α] [Enc β] [Enc γ] : TV (T3 α β γ) := ⟨3, fun K H vs x => ∃ v1 v2 v3, vs = [v1, v2, v3] ∧ Enc.rep K H v1 x.a ∧ Enc.rep K H v2 x.b ∧ Enc.rep K H v3 x.c, fun ⟨v1, v2, v3, e, _⟩ => by rw [e]; rfl, fun ⟨p, v1, v2, v3, e, h, r⟩ => ⟨p, _, e, SqT.of h, v1, v2, v3, rfl, r⟩,
  fun h ⟨v1, v2, v3, e, r⟩ => by subst e; exact ⟨_, v1, v2, v3, rfl, h, r⟩, fun s ⟨v1, v2, v3, e, r1, r2, r3⟩ => ⟨v1, v2, v3, e, Enc.mono s r1, Enc.mono s r2, Enc.mono s r3⟩⟩
instance {α β γ δ : Type} [Enc α] [Enc β] [Enc γ] [Enc δ] : TV (T4 α β γ δ) := ⟨4, fun K H vs x => ∃ v1 v2 v3 v4, vs = [v1, v2, v3, v4] ∧ Enc.rep K H v1 x.a ∧ Enc.rep K H v2 x.b ∧ Enc.rep K H v3 x.c ∧ Enc.rep K H v4 x.d, fun ⟨v1, v2, v3, v4, e, _⟩ => by rw [e]; rfl,
  fun ⟨p, v1, v2, v3, v4, e, h, r⟩ => ⟨p, _, e, SqT.of h, v1, v2, v3, v4, rfl, r⟩, fun h ⟨v1, v2, v3, v4, e, r⟩ => by subst e; exact ⟨_, v1, v2, v3, v4, rfl, h, r⟩, fun s ⟨v1, v2, v3, v4, e, r1, r2, r3, r4⟩ => ⟨v1, v2, v3, v4, e, Enc.mono s r1, Enc.mono s r2, Enc.mono s r3, Enc.mono s r4⟩⟩
section
variable {X : Cx} {W : WX} {ss : List Slot} {pos : Pos} {a : Expr}
structure Cats {τ₁ τ₂ τ₃ : Type} [Enc τ₁] [Enc τ₂] [Enc τ₃] [TV τ₁] [TV τ₂] [TV τ₃] (f : τ₁ → τ₂ → τ₃) : Prop where
  pv : ∀ {K : Frag} {H : Hp} {vs ws : List V} {x : τ₁} {y : τ₂}, TV.PV K H vs x → TV.PV K H ws y → TV.PV K H (vs ++ ws) (f x y)
  p1 : TV.n τ₁ ≠ 0
  z2 : TV.n τ₂ = 0 → ∀ {K : Frag} {H : Hp} {v : V} {x : τ₁} (y : τ₂), Enc.rep K H v x → Enc.rep K H v (f x y)
  le : TV.n τ₁ + TV.n τ₂ ≤ 100
structure Slcs {τ₁ τ₂ : Type} [Enc τ₁] [Enc τ₂] [TV τ₁] [TV τ₂] (lo hi : Option Int) (f : τ₁ → τ₂) : Prop where
  pv : ∀ {K : Frag} {H : Hp} {vs : List V} {x : τ₁}, TV.PV K H vs x → TV.PV K H (cutV vs lo hi) (f x)
  nw : ¬ (HT.sIx (TV.n τ₁) 0 lo = 0 ∧ HT.sIx (TV.n τ₁) (TV.n τ₁) hi = TV.n τ₁)
end
def memB {α : Type} [DecidableEq α] (x : α) (l : List α) : Bool := decide (x ∈ l)
section
variable {α β γ δ : Type} [Enc α] [Enc β] [Enc γ] [Enc δ]
end
end G

namespace G
open PySem PySem.Spec PyProof.Rows L2
section
variable {X : Cx} {W : WX} {ss : List Slot} {pos : Pos} {a : Expr}
end
end G

namespace G
open PySem PySem.Spec PyProof.Rows L2
section
def pcmpB (a b : PyData × PyData) : Bool := PySem.W.alike a.1 b.1 && (!PyData.eqv a.1 b.1 || (PySem.W.alike a.2 b.2 && PyData.eqv a.2 b.2))
def firB (ps : List (PyData × PyData)) : Bool := ps.all fun a => ps.all fun b => pcmpB a b
noncomputable def firstKind (h : Heap) (ps : List (PyData × PyData)) : PyProof.Rows.KeyKind where
  toKeyOrd := listOrd itemOrd
  keyOf v := open Classical in if q : ∃ p, p ∈ ps ∧ ∃ as, Reads h v (.tuple [p.1, p.2]) as then some (PySem.W.keyToks q.choose.1) else none
  dflt := ([] : List (Int ⊕ List Nat))
section
variable {prog : Program} {w : World} {A : Around} {E : Value → Shared → Prop} {s : Shared}
end
end
def srtF {κ α : Type} [Enc κ] [Enc α] [Dat κ] [Dat α] (xs : List (κ × α)) : List (κ × α) := xs.mergeSort (PySem.W.dataLe false fun a : κ × α => Dat.py a.1)
def sortF {κ α : Type} [Enc κ] [Enc α] [Dat κ] [Dat α] (xs : List (κ × α)) : Res (List (κ × α)) := guardR (decide (Dat.dep κ ≤ 30) && (decide (Dat.dep α ≤ 30) && firB (xs.map fun x => (Dat.py x.1, Dat.py x.2)))) (.ok (srtF xs))
section
variable {X : Cx} {W : WX} {ss : List Slot} {e : Expr}
end
end G

namespace G
open PySem PySem.Spec PyProof.Rows L2
instance {α β : Type} [Enc α] [Enc β] : Enc (α ⊕ β) := ⟨fun K H v x => match x with
  | .inl a => Enc.rep K H v a
  | .inr b => Enc.rep K H v b, fun {K H H' v x} s h => by
    cases x with
    | inl a => exact Enc.mono (α := α) s h
    | inr b => exact Enc.mono (α := β) s h⟩
instance {α β : Type} [Enc α] [Enc β] [Imm α] [Imm β] : Imm (α ⊕ β) := ⟨fun {K H v x} h => by
  cases x with
  | inl a => exact Imm.imm (α := α) h
  | inr b => exact Imm.imm (α := β) h⟩
instance {α β : Type} [Enc α] [Enc β] [NN α] [NN β] : NN (α ⊕ β) := ⟨fun {K H v x} h => by
  cases x with
  | inl a => exact NN.nn (α := α) h
  | inr b => exact NN.nn (α := β) h⟩
instance {α β : Type} [Enc α] [Enc β] [Dat α] [Dat β] : Dat (α ⊕ β) where
  py := fun x => match x with | .inl a => Dat.py a | .inr b => Dat.py b
  dp := fun {K H v x} h => by
    cases x with
    | inl a => exact Dat.dp (α := α) h
    | inr b => exact Dat.dp (α := β) h
  lay := fun x => match x with | .inl a => Dat.lay a | .inr b => Dat.lay b
  dep := max (Dat.dep α) (Dat.dep β)
  layOk := fun {x} h => by
    cases x with
    | inl a => exact Dat.layOk (α := α) h
    | inr b => exact Dat.layOk (α := β) h
  depOk := fun x => by
    cases x with
    | inl a => exact Nat.le_trans (Dat.depOk a) (Nat.le_max_left _ _)
    | inr b => exact Nat.le_trans (Dat.depOk b) (Nat.le_max_right _ _)
def unl {α β : Type} : α ⊕ β → Res α
  | .inl a => .ok a
  | .inr _ => .stuck
def unr {α β : Type} : α ⊕ β → Res β
  | .inl _ => .stuck
  | .inr b => .ok b
section
variable {X : Cx} {W : WX} {ss : List Slot} {e : Expr} {α β : Type} [Enc α] [Enc β]
theorem xi_inl {m : Res α} (h : XI X W ss e m) : XI X W ss e (m.bind fun a => .ok (.inl a : α ⊕ β)) :=
  PE_imp h fun σ H Q ⟨sl, q⟩ => ⟨sl, wpR_imp (wpR_bind q) (Same.refl H) fun x q v H1 s1 r => q v H1 s1 r⟩
theorem xi_inr {m : Res β} (h : XI X W ss e m) : XI X W ss e (m.bind fun a => .ok (.inr a : α ⊕ β)) :=
  PE_imp h fun σ H Q ⟨sl, q⟩ => ⟨sl, wpR_imp (wpR_bind q) (Same.refl H) fun x q v H1 s1 r => q v H1 s1 r⟩
end
end G

namespace G
open PySem PySem.Spec PyProof.Rows L2
def orPl {α β : Type} : Option (List α ⊕ List β) → List α ⊕ List β
  | none => .inl []
  | some (.inl []) => .inl []
  | some (.inr []) => .inl []
  | some (.inl (x :: l)) => .inl (x :: l)
  | some (.inr (x :: l)) => .inr (x :: l)
section
variable {X : Cx} {W : WX} {ss : List Slot} {e b : Expr} {pos : Pos} {α β : Type} [Enc α] [Enc β]
def unlL {α β : Type} : List α ⊕ List β → Res (List α)
  | .inl l => .ok l
  | .inr [] => .ok []
  | .inr (_ :: _) => .stuck
def unrL {α β : Type} : List α ⊕ List β → Res (List β)
  | .inr l => .ok l
  | .inl [] => .ok []
  | .inl (_ :: _) => .stuck
end
end G

namespace G
open PySem PySem.Spec PyProof.Rows L2
def dyO : Dy → Res (Option Int)
  | .non => .ok none
  | .int i => .ok (some i)
  | _ => .stuck
def t4L : List Dy → Res (T4 Str (Option Int) (Option Int) Int)
  | [.str a, b, c, .int d] => (dyO b).bind fun b => (dyO c).bind fun c => .ok ⟨a, b, c, d⟩
  | _ => .stuck
def t3L : List Dy → Res (T3 Str (Option Int) (Option Int))
  | [.str a, b, c] => (dyO b).bind fun b => (dyO c).bind fun c => .ok ⟨a, b, c⟩
  | _ => .stuck
structure TupTo {τ : Type} [Enc τ] (c : List Dy → Res τ) : Prop where
  rep : ∀ {K : Frag} {F : Hp} {p : Addr} {vs : List V} {xs : List Dy} {y : τ}, c xs = .ok y → All2 (fun v (d : Dy) => Enc.rep K F v d) vs xs → F p = some (.tup vs) → Enc.rep K F (.ref p) y
  nox : ∀ xs, NoX (c xs)
section
variable {X : Cx} {W : WX} {ss : List Slot} {a : Expr} {pos : Pos}
end
end G

namespace G
open PySem PySem.Spec PyProof.Rows L2
def sumL {α β : Type} : List α ⊕ List β → List (α ⊕ β)
  | .inl l => l.map Sum.inl
  | .inr l => l.map Sum.inr
instance {α β : Type} [Enc α] [Enc β] [ToDy α] [ToDy β] : ToDy (α ⊕ β) := ⟨fun x => match x with
  | .inl a => ToDy.dy a
  | .inr b => ToDy.dy b, fun {K H v x} h => by
    cases x with
    | inl a => exact ToDy.rep (α := α) h
    | inr b => exact ToDy.rep (α := β) h⟩
section
variable {X : Cx} {W : WX} {ss : List Slot} {e a : Expr} {pos : Pos} {α β : Type} [Enc α] [Enc β]
structure It1 (τ : Type) [Enc τ] {γ : Type} [Enc γ] (i : Int) (f : τ → γ) : Prop where
  at1 : ∀ {K : Frag} {H : Hp} {v : V} {x : τ}, Enc.rep K H v x → ∃ p vs u, v = .ref p ∧ SqT K H p vs ∧ atI vs i = some u ∧ Enc.rep K H u (f x)
section
variable {γ δ ε : Type} [Enc γ] [Enc δ] [Enc ε]
end
end
end G

namespace G
open PySem PySem.Spec PyProof.Rows L2
def rLtD (K : Frag) : R2 := fun x y H Q => ∃ d d', Dp K H x d ∧ Dp K H y d' ∧ PySem.W.alike d d' = true ∧ d ≠ .none ∧ d.depth ≤ 60 ∧ Q (.bl (PySem.W.dataLt d d')) H
def ltD {α : Type} [Enc α] [Dat α] (a b : α) : Res Bool := guardR (decide (Dat.dep α ≤ 60) && PySem.W.alike (Dat.py a) (Dat.py b) && isTup1 (Dat.py a)) (.ok (PySem.W.dataLt (Dat.py a) (Dat.py b)))
section
variable {X : Cx}
end
end G

namespace G
open PySem PySem.Spec PyProof.Rows L2
section
variable {κ β : Type} [Enc κ] [DecidableEq κ] [DK κ] [Enc β]
variable {X : Cx} {W : WX} {ss : List Slot} {pos : Pos} {a b : Expr}
end
def opR {α : Type} : Option α → Res α
  | some a => .ok a
  | none => .stuck
def gsAt {α β : Type} : ((β × Option α) ⊕ T3 β (Option α) (Option α)) → Int → Res α
  | .inl y, i => if i = 1 then opR y.2 else .stuck
  | .inr y, i => if i = 1 then opR y.b else if i = 2 then opR y.c else .stuck
section
variable {α β : Type} [Enc α] [Enc β] {X : Cx} {W : WX} {ss : List Slot} {pos : Pos} {a b : Expr}
end
end G

namespace G
open PySem PySem.Spec PyProof.Rows L2
instance {α : Type} [Enc α] [Dat α] : Dat (T1 α) where
  py := fun x => .tuple [Dat.py x.a]
  dp := fun ⟨p, v1, e, h, r1⟩ => by rw [e]; exact .tup (SqT.of h) (.cons (Dat.dp r1) .nil)
  lay := fun x => Dat.lay x.a
  dep := Dat.dep α + 1
  layOk := fun h => by
    simp only [PyData.canLay0, PyData.canLayAll0, and_true, Bool.and_true]
    exact Dat.layOk h
  depOk := fun x => by
    have h1 := Dat.depOk x.a
    simp only [PyData.depth, PyData.depthAll]
    omega
instance {α : Type} [Enc α] : HasTy (T1 α) := ⟨"tuple", fun ⟨p, v1, e, h, _⟩ => by rw [e]; exact .base (.tup h)⟩
class TyEq (α β : Type) [Enc α] [Enc β] [HasTy α] [HasTy β] : Prop where
  eq : HasTy.ty α = HasTy.ty β
section
variable {α β γ δ ε : Type} [Enc α] [Enc β] [Enc γ] [Enc δ] [Enc ε]
instance : TyEq (List α) (List β) := ⟨rfl⟩
instance : TyEq (α × β) (T3 γ δ ε) := ⟨rfl⟩
instance : TyEq (α × β) (T1 γ) := ⟨rfl⟩
instance [HasTy α] [HasTy β] [TyEq α β] : HasTy (α ⊕ β) := ⟨HasTy.ty α, fun {K H v x} h => by
  cases x with
  | inl a => exact HasTy.ok (α := α) h
  | inr b =>
    rw [TyEq.eq (α := α) (β := β)]
    exact HasTy.ok (α := β) h⟩
end
section
variable {X : Cx} {W : WX} {ss : List Slot} {e a : Expr} {pos : Pos}
structure SlcT {τ α : Type} [Enc τ] [Enc α] [TV τ] (lo hi : Option Int) (f : τ → Tup α) : Prop where
  pv : ∀ {K : Frag} {H : Hp} {vs : List V} {x : τ}, TV.PV K H vs x → All2 (fun v a => Enc.rep K H v a) (cutV vs lo hi) (f x).l
  nw : ¬ (HT.sIx (TV.n τ) 0 lo = 0 ∧ HT.sIx (TV.n τ) (TV.n τ) hi = TV.n τ)
section
variable {α β : Type} [Enc α] [Enc β]
end
end
end G

namespace G
open PySem PySem.Spec PyProof.Rows L2
theorem SN.slots {X : Cx} {W : WX} {S : Type} {ss ss' : List Slot} {sts : List Stmt} {M : Res S} {post : S → List Slot} (h : SN X W ss' sts M post) (q : ss = ss') : SN X W ss sts M post := q ▸ h
theorem SB.slots {X : Cx} {W : WX} {S L R : Type} {ss ss' : List Slot} {sts : List Stmt} {M : Res (Out S L R)} {pn : S → List Slot} {pl : L → List Slot} {kr : R → Slot} (h : SB X W ss' sts M pn pl kr) (q : ss = ss') : SB X W ss sts M pn pl kr := q ▸ h
end G

namespace G
open PySem PySem.Spec PyProof.Rows L2
theorem tups2 (F : Hp) : Same (tups F) (tups (tups F)) := fun _ _ z => tups_some z (tups_isT z)
def rgO {α : Type} [Enc α] : Ow α := ⟨fun K F G v a => ∀ H, Same (tups F) H → Same G H → Enc.rep K H v a,
  fun s h H sF sG => h H ((tups_mono s).trans sF) sG, fun s h H sF sG => h H sF (s.trans sG), fun h s t => h _ ((tups_le _).trans s) t⟩
instance {α : Type} [Enc α] : ImmO (rgO (α := α)) := ⟨fun {K F G v a} h H sF sG => h H ((tups2 F).trans sF) sG⟩
class Cst {α β : Type} [Enc α] [Enc β] (f : α → β) : Prop where
  cst : ∀ {K : Frag} {H : Hp} {v : V} {a : α}, Enc.rep K H v a → Enc.rep K H v (f a)
instance {α : Type} [Enc α] : Cst (fun a : α => a) := ⟨id⟩
instance {α β : Type} [Enc α] [Enc β] : Cst (Sum.inl : α → α ⊕ β) := ⟨id⟩
instance {α β : Type} [Enc α] [Enc β] : Cst (Sum.inr : β → α ⊕ β) := ⟨id⟩
instance {α : Type} [Enc α] [NN α] : Cst (some : α → Option α) := ⟨fun h => ⟨NN.nn h, h⟩⟩
section
variable {X : Cx} {W : WX} {ss : List Slot} {e e2 : Expr} {pos : Pos} {rest : List Stmt}
end
section
variable {X : Cx} {W : WX} {ss : List Slot} {e e2 : Expr} {pos : Pos} {rest : List Stmt}
end
end G

namespace G
open PySem PySem.Spec PyProof.Rows L2
class Clr (β : Type) [Enc β] where
  ok : β → Bool
  clr : β → β
  len : β → Nat
  lst : ∀ {K : Frag} {H : Hp} {v : V} {b : β}, Enc.rep K H v b → ok b = true → ∃ q ws, v = .ref q ∧ H q = some (.lst ws) ∧ ws.length = len b
  emp : ∀ {K : Frag} {H : Hp} {q : Addr} {b : β}, H q = some (.lst []) → ok b = true → Enc.rep K H (.ref q) (clr b)
instance {α : Type} [Enc α] : Clr (List α) where
  ok := fun _ => true
  clr := fun _ => []
  len := List.length
  lst := fun ⟨q, ws, e, h, r⟩ _ => ⟨q, ws, e, h, r.length⟩
  emp := fun h _ => ⟨_, [], rfl, h, trivial⟩
instance {α β : Type} [Enc α] [Enc β] [Clr α] [Clr β] : Clr (α ⊕ β) where
  ok := fun x => match x with | .inl a => Clr.ok a | .inr b => Clr.ok b
  clr := fun x => match x with | .inl a => .inl (Clr.clr a) | .inr b => .inr (Clr.clr b)
  len := fun x => match x with | .inl a => Clr.len a | .inr b => Clr.len b
  lst := fun {K H v x} r h => by
    cases x with
    | inl a => exact Clr.lst (β := α) r h
    | inr b => exact Clr.lst (β := β) r h
  emp := fun {K H q x} r h => by
    cases x with
    | inl a => exact Clr.emp (β := α) r h
    | inr b => exact Clr.emp (β := β) r h
instance {α : Type} [Enc α] [Clr α] : Clr (Option α) where
  ok := fun x => match x with | none => false | some a => Clr.ok a
  clr := fun x => match x with | none => none | some a => some (Clr.clr a)
  len := fun x => match x with | none => 0 | some a => Clr.len a
  lst := fun {K H v x} r h => by
    cases x with
    | none => cases h
    | some a => exact Clr.lst (β := α) r.2 h
  emp := fun {K H q x} r h => by
    cases x with
    | none => cases h
    | some a => exact ⟨(fun z => by cases z), Clr.emp (β := α) r h⟩
def spoilR {β γ : Type} [Enc β] [Clr β] (b : β) (m : Res γ) : Res Unit := if Clr.ok b = true then m.bind fun _ => guardR (big (Clr.len b)) (.ok ()) else .stuck
section
variable {X : Cx} {W : WX} {ss : List Slot} {e e2 : Expr} {pos : Pos} {rest : List Stmt}
end
structure Pv where
  v : V
instance : Enc Pv := ⟨fun _ _ v a => v = a.v, fun _ h => h⟩
abbrev PvT (α : Type) := (α × Pv) ⊕ T3 α Pv Pv
def pvs {α : Type} (x : PvT α) : List Pv := x.elim (fun x => [x.2]) (fun x => [x.b, x.c])
def cps {α : Type} [Enc α] (o : V) (x : PvT α) (k : Nat) : Slot :=
  ⟨fun K F G o' => o' = some o ∧ Enc.rep K F o x ∧ ∀ m a, (pvs x)[m]? = some a → ∃ q ws, a.v = .ref q ∧ G q = some (.lst ws) ∧ (m < k → ws = []),
   fun s t ⟨e, r, h⟩ => ⟨e, Enc.mono s r, fun m a z => by
     obtain ⟨q, ws, h1, h2, h3⟩ := h m a z
     exact ⟨q, ws, h1, t _ _ h2, h3⟩⟩⟩
def clrR {α β : Type} [Enc β] [Clr β] (t : (α × β) ⊕ T3 α β β) : Res ((α × β) ⊕ T3 α β β) := match t with
  | .inl x => if Clr.ok x.2 = true then .ok (.inl (x.1, Clr.clr x.2)) else .stuck
  | .inr x => if Clr.ok x.b = true ∧ Clr.ok x.c = true then .ok (.inr ⟨x.a, Clr.clr x.b, Clr.clr x.c⟩) else .stuck
theorem cps_of {α β : Type} [Enc α] [Imm α] [Enc β] [Clr β] {K : Frag} {F H G : Hp} {v : V} {t t' : (α × β) ⊕ T3 α β β} (h : (rgO (α := (α × β) ⊕ T3 α β β)).own K F G v t) (sF : Same F H) (sG : Same G H) (pr : ∀ a u, G a = some u → isT u = false) (e : clrR t = .ok t') :
    ∃ x : PvT α, (cps v x 0).P K F G (some v) ∧ ∀ F' G', Same F F' → (cps v x (pvs x).length).P K F' G' (some v) → (rgO (α := (α × β) ⊕ T3 α β β)).own K F' G' v t' := by
  have sT := (tups_le F).trans sF
  have r := h (join (tups F) G) join_l (join_r sT sG)
  have tf : ∀ {p us}, join (tups F) G p = some (.tup us) → tups F p = some (.tup us) := fun {p us} z => (join_or z).elim id fun z => by cases pr _ _ z
  have lg : ∀ {p us}, join (tups F) G p = some (.lst us) → G p = some (.lst us) := fun {p us} z => (join_or z).elim (fun z => by cases tups_isT z) id
  have hr : ∀ {u : V} {a : α}, Enc.rep K (join (tups F) G) u a → Enc.rep K F u a := fun {u a} z => by
    refine Enc.mono (fun c w y => ?_) (Imm.imm z)
    have y1 := tups_le _ _ _ y
    exact (join_or y1).elim (fun y => tups_le _ _ _ y) fun y2 => by have := tups_isT y; rw [pr _ _ y2] at this; cases this
  cases t with
  | inl t =>
    obtain ⟨p, u1, u2, rfl, g, r1, r2⟩ := (show Enc.rep K (join (tups F) G) v t from r)
    unfold clrR at e
    dsimp only at e
    by_cases ok : Clr.ok t.2 = true
    · rw [if_pos ok] at e
      cases e
      obtain ⟨q, ws, rfl, hq, _⟩ := Clr.lst r2 ok
      refine ⟨.inl (t.1, ⟨.ref q⟩), ⟨rfl, (⟨p, u1, _, rfl, tups_le _ _ _ (tf g), hr r1, rfl⟩ : Enc.rep K F (.ref p) (t.1, (⟨.ref q⟩ : Pv))), fun m a z => ?_⟩, fun F' G' sF' ⟨_, rr, hh⟩ H' aF aG => ?_⟩
      · have : a = ⟨.ref q⟩ := by
          have := List.mem_of_getElem? z
          exact List.mem_singleton.mp this
        subst this
        exact ⟨q, ws, rfl, lg hq, fun h => absurd h (Nat.not_lt_zero _)⟩
      · obtain ⟨q', ws', e1, g', hw⟩ := hh 0 ⟨.ref q⟩ rfl
        cases e1
        rw [hw (by show 0 < 1; omega)] at g'
        exact (⟨p, u1, _, rfl, aF _ _ (tups_mono sF' _ _ (tf g)), Enc.mono ((tups_mono sF').trans aF) (Imm.imm (hr r1)), Clr.emp (aG _ _ g') ok⟩ : Enc.rep K H' (.ref p) (t.1, Clr.clr t.2))
    · rw [if_neg ok] at e; cases e
  | inr t =>
    obtain ⟨p, u1, u2, u3, rfl, g, r1, r2, r3⟩ := (show Enc.rep K (join (tups F) G) v t from r)
    unfold clrR at e
    dsimp only at e
    by_cases ok : Clr.ok t.b = true ∧ Clr.ok t.c = true
    · rw [if_pos ok] at e
      cases e
      obtain ⟨q, ws, rfl, hq, _⟩ := Clr.lst r2 ok.1
      obtain ⟨q2, ws2, rfl, hq2, _⟩ := Clr.lst r3 ok.2
      refine ⟨.inr ⟨t.a, ⟨.ref q⟩, ⟨.ref q2⟩⟩, ⟨rfl, (⟨p, u1, _, _, rfl, tups_le _ _ _ (tf g), hr r1, rfl, rfl⟩ : Enc.rep K F (.ref p) (⟨t.a, ⟨.ref q⟩, ⟨.ref q2⟩⟩ : T3 α Pv Pv)), fun m a z => ?_⟩, fun F' G' sF' ⟨_, rr, hh⟩ H' aF aG => ?_⟩
      · have : a = ⟨.ref q⟩ ∨ a = ⟨.ref q2⟩ := by
          rcases List.mem_cons.mp (List.mem_of_getElem? z) with h | h
          · exact .inl h
          · exact .inr (List.mem_singleton.mp h)
        rcases this with rfl | rfl
        · exact ⟨q, ws, rfl, lg hq, fun h => absurd h (Nat.not_lt_zero _)⟩
        · exact ⟨q2, ws2, rfl, lg hq2, fun h => absurd h (Nat.not_lt_zero _)⟩
      · obtain ⟨q', ws', e1, g', hw⟩ := hh 0 ⟨.ref q⟩ rfl
        cases e1
        obtain ⟨q2', ws2', e2, g2', hw2⟩ := hh 1 ⟨.ref q2⟩ rfl
        cases e2
        rw [hw (by show 0 < 2; omega)] at g'
        rw [hw2 (by show 1 < 2; omega)] at g2'
        exact (⟨p, u1, _, _, rfl, aF _ _ (tups_mono sF' _ _ (tf g)), Enc.mono ((tups_mono sF').trans aF) (Imm.imm (hr r1)), Clr.emp (aG _ _ g') ok.1, Clr.emp (aG _ _ g2') ok.2⟩ : Enc.rep K H' (.ref p) (⟨t.a, Clr.clr t.b, Clr.clr t.c⟩ : T3 α β β))
    · rw [if_neg ok] at e; cases e
section
variable {X : Cx} {W : WX} {ss : List Slot} {pos : Pos}
def absI (i : Int) : Int := if i < 0 then -i else i
end
end G

namespace G
open PySem PySem.Spec PyProof.Rows L2
section
variable [Pw] {κ β : Type} [Enc κ] [DecidableEq κ] [NKc κ] [Enc β]
def dnO : Ow (Dic κ β) := ⟨fun K F G v d => ∃ p kvs, v = .ref p ∧ G p = some (hN Pw.prog Pw.w p kvs) ∧ RepN K F kvs d.l,
  fun s ⟨p, kvs, e, h, r⟩ => ⟨p, kvs, e, h, RepN.mono s r⟩, fun s ⟨p, kvs, e, h, r⟩ => ⟨p, kvs, e, s _ _ h, r⟩,
  fun ⟨p, kvs, e, h, r⟩ s t => ⟨p, kvs, e, .inl (t _ _ h), RepN.mono s r⟩⟩
def osn : OSl (dnO (κ := κ) (β := β)) := ⟨owN, fun ⟨p, kvs, e, h, r⟩ => ⟨.ref p, e, p, kvs, rfl, h, r⟩, fun _ ⟨p, kvs, e, h, r⟩ => ⟨p, kvs, by rw [e], h, r⟩⟩
end
section
variable {X : Cx} {W : WX} {ss : List Slot} {pos : Pos} {e a : Expr}
variable [Pw] {κ β : Type} [Enc κ] [DecidableEq κ] [NKc κ] [NKr κ] [Enc β]
end
end G

namespace G
open PySem PySem.Spec PyProof.Rows L2
instance {α β γ δ ε : Type} [Enc α] [Enc β] [Enc γ] [Enc δ] [Enc ε] : TV (T5 α β γ δ ε) := ⟨5, fun K H vs x => ∃ v1 v2 v3 v4 v5, vs = [v1, v2, v3, v4, v5] ∧ Enc.rep K H v1 x.a ∧ Enc.rep K H v2 x.b ∧ Enc.rep K H v3 x.c ∧ Enc.rep K H v4 x.d ∧ Enc.rep K H v5 x.e, fun ⟨v1, v2, v3, v4, v5, e, _⟩ => by rw [e]; rfl,
  fun ⟨p, v1, v2, v3, v4, v5, e, h, r⟩ => ⟨p, _, e, SqT.of h, v1, v2, v3, v4, v5, rfl, r⟩, fun h ⟨v1, v2, v3, v4, v5, e, r⟩ => by subst e; exact ⟨_, v1, v2, v3, v4, v5, rfl, h, r⟩, fun s ⟨v1, v2, v3, v4, v5, e, r1, r2, r3, r4, r5⟩ => ⟨v1, v2, v3, v4, v5, e, Enc.mono s r1, Enc.mono s r2, Enc.mono s r3, Enc.mono s r4, Enc.mono s r5⟩⟩
section
variable {α β γ δ ε : Type} [Enc α] [Enc β] [Enc γ] [Enc δ] [Enc ε]
end
def t3ix {α β : Type} (x : T3 α β β) (i : Int) : Res β := if i = 1 then .ok x.b else if i = 2 then .ok x.c else .stuck
section
variable {X : Cx} {W : WX} {ss : List Slot} {pos : Pos} {a b : Expr}
end
end G

namespace G
open PySem PySem.Spec PyProof.Rows L2
abbrev O3 (α β : Type) [Enc α] [Enc β] : Ow (T3 α (List β) (List β)) := t3O (fzO (α := α)) (l1 (α := β)) (l1 (α := β))
def alS {α β : Type} [Enc α] [Enc β] (n : Int) (u : V) (t : T3 α (List β) (List β)) : Slot :=
  ⟨fun K F G o => ∃ p us, o = some (.ref p) ∧ F p = some (.tup us) ∧ atI us n = some u ∧ (O3 α β).own K F G (.ref p) t,
   fun s t' ⟨p, us, e, g, a, h⟩ => ⟨p, us, e, s _ _ g, a, (O3 α β).mG t' ((O3 α β).mF s h)⟩⟩
def t3put {α β : Type} (t : T3 α (List β) (List β)) (n : Int) (l : List β) : T3 α (List β) (List β) := if n = 1 then ⟨t.a, l, t.c⟩ else ⟨t.a, t.b, l⟩
section
variable {X : Cx} {W : WX} {ss : List Slot} {pos : Pos} {rest : List Stmt} {α β : Type} [Enc α] [Enc β]
end
end G

namespace G
open PySem PySem.Spec PyProof.Rows L2
abbrev D5 := T5 Dy Dy Dy Dy Dy
def t5dy {α β γ δ ε : Type} [Enc α] [Enc β] [Enc γ] [Enc δ] [Enc ε] [ToDy α] [ToDy β] [ToDy γ] [ToDy δ] [ToDy ε] (x : T5 α β γ δ ε) : D5 := ⟨ToDy.dy x.a, ToDy.dy x.b, ToDy.dy x.c, ToDy.dy x.d, ToDy.dy x.e⟩
section
variable {α β γ δ ε : Type} [Enc α] [Enc β] [Enc γ] [Enc δ] [Enc ε] [ToDy α] [ToDy β] [ToDy γ] [ToDy δ] [ToDy ε]
variable {X : Cx} {W : WX} {ss : List Slot} {e : Expr}
end
end G

namespace G
open PySem PySem.Spec PyProof.Rows L2
def dyOI : Dy → Res (Option Int) | .non => .ok none | .int i => .ok (some i) | _ => .stuck
abbrev SP4 := T4 Str (Option Int) Bool Int
def sp4C (x : T4 Dy Dy Dy Dy) : Res SP4 := (dyS x.a).bind fun a => (dyOI x.b).bind fun b => (dyB x.c).bind fun c => (dyI x.d).bind fun d => .ok ⟨a, b, c, d⟩
section
variable {X : Cx} {W : WX} {ss : List Slot} {e : Expr}
end
end G

namespace G
open PySem PySem.Spec PyProof.Rows L2
section
variable {X : Cx} {pins : List (Addr × Obj)} {σ : L2.St} {H : Hp} {s : Shared}
theorem dic_at (I : Inv X pins σ H s) {p : Addr} (hp : H p = some (.dK [])) : ∃ o es n, s.heap.get? p = some o ∧ o.cls = .type "dict" ∧ o.data = .dict es n ∧ es.toList = [] ∧ (p == sysModules) = false := by
  obtain ⟨_, hne, vs, rel, o, es, ep, ho, hx, hdt, _, hpr, _⟩ := I.hok p _ hp
  cases rel
  refine ⟨o, es, ep, ho, hx.1, hdt, ?_, hne⟩
  cases q : es.toList with
  | nil => rfl
  | cons e es' => rw [q] at hpr; cases hpr
theorem most_nil {h : Heap} {n : Nat} : ReadAtMost h n [] := fun _ m => nomatch m
mutual
theorem dy_rk (I : Inv X pins σ H s) : ∀ (d : Dy) (v : V) (u : Value), dyDep d ≤ 60 → DyR X.K H v d → RelV v u → (dyPy d).showable = true → (dyPy d).shown.length ≤ sizeLine → ∃ as bs, Reads s.heap u (dyPy d) as ∧ ReadAtMost s.heap (dyPy d).depth bs ∧ ReprK X.prog X.w bs s.heap (dyPy d).depth u (dyPy d).shown
  | .non, _, _, _, h, r, _, _ => by
    cases h; cases r; simp only [dyPy, PyData.shown]; exact ⟨[], [], .none, most_nil, .of_is ReprIs.none _ _ _⟩
  | .bl b, _, _, _, h, r, _, _ => by
    cases h; cases r; simp only [dyPy, PyData.shown]; exact ⟨[], [], .bool b, most_nil, .of_is (ReprIs.bool b) _ _ _⟩
  | .int i, _, _, _, h, r, hs, _ => by
    cases h; obtain ⟨t, rfl⟩ := r
    simp only [dyPy, PyData.shown, PyData.showable] at hs ⊢
    exact ⟨[], [], .int i t, most_nil, .of_is (ReprIs.int t (by simpa using hs)) _ _ _⟩
  | .str x, _, _, _, h, r, _, hz => by
    cases h; obtain ⟨t, rfl⟩ := r
    simp only [dyPy, PyData.shown] at hz ⊢
    exact ⟨[], [], .str x t, most_nil, .of_is (ReprIs.str x t hz) _ _ _⟩
  | .lst xs, _, _, hd, h, r, hs, hz => by
    cases h with
    | @lst p _ _ hp ha =>
      cases r
      obtain ⟨its, rv, ⟨o, n, ho, hc, vsA, hd'⟩, _⟩ := I.list (SqL.of hp)
      simp only [dyDep] at hd
      simp only [dyPy, PyData.shown, PyData.showable, PyData.depth] at hs hz ⊢
      obtain ⟨as, bs, hr, hb, hk⟩ := dy_rks I xs _ its (by omega) ha rv hs fun t ht => Nat.le_trans (listText_mem_le ht) hz
      have rd : Reads s.heap (.ref p) (.list (dyPys xs)) (p :: as) := .list ho hc hd' hr
      have hna : p ∉ bs := not_mem_of_deeper rd (by simp only [PyData.depth]; omega) hb
      refine ⟨p :: as, p :: bs, rd, ?_, ?_⟩
      · have := ReadAtMost.cons rd (by simp only [PyData.depth]; omega) hb
        simpa only [PyData.depth] using this
      cases its with
      | nil =>
        have hr' : ReadsAll s.heap [] (dyPys xs) as := hr
        generalize hq : dyPys xs = ys at hr' ⊢
        cases hr'
        simp only [PyData.shownAll, listText_nil]
        exact ReprK.listEmpty ho hc hd'
      | cons x l => exact ReprK.list ho hc hd' hna (by simpa using hk.length_eq) fun i y e => hk.item i y (by simpa using e)
  | .tup xs, _, _, hd, h, r, hs, hz => by
    cases h with
    | tup hsq ha =>
      cases r
      obtain ⟨its, rv, ⟨o, ho, hc, n, hd'⟩, _⟩ := I.tuple hsq
      simp only [dyDep] at hd
      simp only [dyPy, PyData.shown, PyData.showable, PyData.depth] at hs hz ⊢
      obtain ⟨as, bs, hr, hb, hk⟩ := dy_rks I xs _ its (by omega) ha rv hs fun t ht => Nat.le_trans (tupleText_mem_le ht) hz
      have rd : Reads s.heap (.ref _) (.tuple (dyPys xs)) as := .tuple ho hc hd' hr
      have hna := not_mem_of_deeper rd (by simp only [PyData.depth]; omega) hb
      refine ⟨as, _ :: bs, rd, ?_, ReprK.tuple ho hc hd' hna hk⟩
      have := ReadAtMost.cons rd (by simp only [PyData.depth]; omega) hb
      simpa only [PyData.depth] using this
  | .dic, _, _, _, h, r, _, _ => by
    cases h with
    | @dic p hp =>
      cases r
      obtain ⟨o, es, n, ho, hc, hdt, ee, hne⟩ := dic_at I hp
      have rd : Reads s.heap (.ref p) (.dict []) (p :: [] ++ []) := .dict ho hc hdt (by rw [ee]; exact .nil) (by rw [ee]; exact .nil)
      simp only [dyPy]
      refine ⟨_, p :: [], rd, ?_, ?_⟩
      · have := ReadAtMost.cons (n := 0) rd (Nat.zero_le _) most_nil
        exact this
      · simp only [PyData.depth, PyData.shown, PyData.shownKv]
        exact ReprK.dict ho hc hdt hne List.not_mem_nil (by rw [ee]; exact .nil)
  | .dc, _, _, hd, _, _, _, _ => by simp [dyDep] at hd
theorem dy_rks (I : Inv X pins σ H s) : ∀ (ds : List Dy) (vs : List V) (us : List Value), dyDeps ds ≤ 60 → DyA X.K H vs ds → Vals vs us → PyData.showableAll (dyPys ds) = true → (∀ t ∈ PyData.shownAll (dyPys ds), t.length ≤ sizeLine) → ∃ as bs, ReadsAll s.heap us (dyPys ds) as ∧ ReadAtMost s.heap (PyData.depthAll (dyPys ds)) bs ∧ ReprAllK X.prog X.w bs s.heap (PyData.depthAll (dyPys ds)) us (PyData.shownAll (dyPys ds))
  | [], _, _, _, h, r, _, _ => by cases h; cases r; simp only [dyPys, PyData.shownAll]; exact ⟨[], [], .nil, most_nil, .nil⟩
  | d :: ds, _, _, hd, h, r, hs, hz => by
    cases h with
    | cons h1 h2 =>
      cases r with
      | cons r1 r2 =>
        simp only [dyDeps] at hd
        simp only [dyPys, PyData.showableAll, PyData.shownAll, PyData.depthAll, Bool.and_eq_true] at hs hz ⊢
        obtain ⟨as1, b1, q1, hb1, k1⟩ := dy_rk I d _ _ (by omega) h1 r1 hs.1 (hz _ List.mem_cons_self)
        obtain ⟨as2, b2, q2, hb2, k2⟩ := dy_rks I ds _ _ (by omega) h2 r2 hs.2 fun t ht => hz t (List.mem_cons_of_mem _ ht)
        refine ⟨as1 ++ as2, b1 ++ b2, .cons q1 q2, (hb1.mono (Nat.le_max_left _ _)).append (hb2.mono (Nat.le_max_right _ _)), ?_⟩
        exact .cons ((k1.more fun b hb => List.mem_append_left _ hb).level_le (Nat.le_max_left _ _)) (k2.more_le (fun b hb => List.mem_append_right _ hb) (Nat.le_max_right _ _))
end
end
section
variable {X : Cx}
def rReprX (K : Frag) : List V → Hp → VK → Prop := fun xs H Q => ∃ x d, xs = [x] ∧ DyR K H x d ∧ dyDep d ≤ 60 ∧ (dyPy d).showable = true ∧ (dyPy d).depth ≤ 60 ∧ tellable (dyPy d) = true ∧ (dyPy d).shown.length ≤ sizeLine ∧ Q (.str (dyPy d).shown) H
def reprX (d : Dy) : Res Str := guardR (decide (dyDep d ≤ 60) && ((dyPy d).showable && (decide ((dyPy d).depth ≤ 60) && (tellable (dyPy d) && decide ((dyPy d).shown.length ≤ sizeLine))))) (.ok (dyPy d).shown)
end
end G

namespace G
open PySem PySem.Spec PyProof.Rows L2
section
variable [Pw] {κ β : Type} [Enc κ] [DecidableEq κ] [NKc κ] [Enc β]
def dlO : Ow (Dic κ (List β)) := ⟨fun K F G v d => ∃ (p : Addr) (kvs : List NKV), v = .ref p ∧ (G p = some (hN Pw.prog Pw.w p kvs) ∧ (kvs.map fun x : NKV => x.2.2).Nodup ∧ (dkeys d).Nodup) ∧ RepL K F G kvs d.l,
  fun s ⟨p, kvs, e, h, r⟩ => ⟨p, kvs, e, h, RepL.mono s (Same.refl _) r⟩, fun s ⟨p, kvs, e, h, r⟩ => ⟨p, kvs, e, ⟨s _ _ h.1, h.2.1, h.2.2⟩, RepL.mono (Same.refl _) s r⟩,
  fun ⟨p, kvs, e, h, r⟩ s t => ⟨p, kvs, e, .inl (t _ _ h.1), RepL.view s t r⟩⟩
def osnL : OSl (dlO (κ := κ) (β := β)) := ⟨owL, fun ⟨p, kvs, e, h, r⟩ => ⟨.ref p, e, p, kvs, rfl, h, r⟩, fun _ ⟨p, kvs, e, h, r⟩ => ⟨p, kvs, by rw [e], h, r⟩⟩
def adS (v0 : V) (q : Addr) (d : Dic κ (List β)) (k : κ) (l : List β) : Slot :=
  ⟨fun K F G o => o = some v0 ∧ ∃ (p : Addr) (kvs : List NKV) (ws : List V), v0 = .ref p ∧ (G p = some (hN Pw.prog Pw.w p kvs) ∧ (kvs.map fun x : NKV => x.2.2).Nodup ∧ (dkeys d).Nodup) ∧ (G q = some (.lst ws) ∧ All2 (fun v a => Enc.rep K F v a) ws l) ∧
    ((valN kvs (NKc.nk k) = some (.ref q) ∧ dhas d k = true ∧ RepL K F G kvs (dput d k l).l) ∨ (dhas d k = false ∧ RepL K F G kvs d.l ∧ V.ref q ∉ kvs.map fun x : NKV => x.2.2)),
   fun s t ⟨e, p, kvs, ws, e0, h, ⟨hq, r⟩, c⟩ => ⟨e, p, kvs, ws, e0, ⟨t _ _ h.1, h.2.1, h.2.2⟩, ⟨t _ _ hq, r.mono s⟩, c.imp (fun ⟨a, b, r⟩ => ⟨a, b, RepL.mono s t r⟩) fun ⟨a, r, n⟩ => ⟨a, RepL.mono s t r, n⟩⟩⟩
end
section
variable {X : Cx} {o i b value : Expr} {pos : Pos} {td ty tz : TE}
end
section
variable {X : Cx} {W : WX} {ss : List Slot} {pos : Pos} {rest : List Stmt} {e a b : Expr}
variable [Pw] {κ β : Type} [Enc κ] [DecidableEq κ] [NKc κ] [NKr κ] [Enc β]
end
end G

namespace G
open PySem PySem.Spec PyProof.Rows L2
instance {α : Type} [DecidableEq α] : DecidableEq (Tup α) := fun ⟨a⟩ ⟨b⟩ => if h : a = b then .isTrue (by rw [h]) else .isFalse fun e => h (by injection e)
section
variable {X : Cx} {W : WX} {ss : List Slot} {pos : Pos} {rest : List Stmt} {e a b : Expr}
variable [Pw] {κ β : Type} [Enc κ] [DecidableEq κ] [NKc κ] [NKr κ] [Enc β] {mk : Res κ}
end
end G

namespace G
open PySem PySem.Spec PyProof.Rows L2
section
variable {X : Cx} {W : WX} {ss : List Slot} {pos : Pos} {a : Expr}
end
end G

namespace G
open PySem PySem.Spec PyProof.Rows L2
section
variable {X : Cx} {W : WX} {ss : List Slot} {pos : Pos} {rest : List Stmt} {e a b : Expr}
variable [Pw] {κ β : Type} [Enc κ] [DecidableEq κ] [NKc κ] [NKr κ] [Enc β] {mk : Res κ}
end
end G

namespace G
open PySem PySem.Spec PyProof.Rows L2
section
variable {X : Cx} {W : WX} {ss : List Slot} {pos : Pos} {e a b : Expr}
end
end G

namespace G
open PySem PySem.Spec PyProof.Rows L2
section
variable {κ β : Type} [Enc κ] [DecidableEq κ] [DK κ] [Enc β]
def dfO : Ow (Dic κ β) := ⟨fun K F G v d => ∃ p kvs, v = .ref p ∧ G p = some (DK.ho kvs) ∧ RepD K F kvs d.l,
  fun s ⟨p, kvs, e, h, r⟩ => ⟨p, kvs, e, h, r.mono s⟩, fun s ⟨p, kvs, e, h, r⟩ => ⟨p, kvs, e, s _ _ h, r⟩,
  fun ⟨p, kvs, e, h, r⟩ s t => ⟨p, kvs, e, .inl (t _ _ h), r.mono s⟩⟩
instance [Imm β] : ImmO (dfO (κ := κ) (β := β)) := ⟨fun ⟨p, kvs, e, h, r⟩ => ⟨p, kvs, e, h, All2.imp (fun _ _ x => ⟨x.1, Imm.imm x.2⟩) r⟩⟩
theorem xk_dfo {X : Cx} {W : WX} {ss : List Slot} {e : Expr} {m : Res (Dic κ β)} (h : XK X W ss e m owd) : XK X W ss e m (os dfO) := h.kd fun a K F G o ⟨p, kvs, e, g, r⟩ => ⟨.ref p, e, p, kvs, rfl, g, r⟩
end
section
variable [Pw] {κ β : Type} [Enc κ] [DecidableEq κ] [NKc κ] [Enc β]
end
section
variable {X : Cx} {W : WX} {ss : List Slot} {pos : Pos} {e a : Expr} {rest : List Stmt} {nm : String} [ObN nm] [ObC nm]
theorem Asn.fldOne {α β : Type} [EncF α] [Enc β] {D : OwF α} {f : Str} {get : α → β} {put : α → β → α} {d' : Ow β} (L : OSl (obO (nm := nm) D)) (SO : SelO D (ObN.fs nm) f get put d') {K : Frag} {B F0 H F : Hp} {σ : L2.St} {Gs : List Hp} {i : Nat} {G : Hp} {v : V} {o : Ob nm α}
    (A : Asn K B F0 ss σ H F Gs) (hG : Gs[i]? = some G) (hσ : σ[i]? = some (some v)) (hS : (L.S o).P K F G (some v)) (ho : (obO (nm := nm) D).own K F G v o) (hd : ∀ {K : Frag} {F G : Hp} {v : V} {a : β}, d'.own K F G v a → ∃ q u, v = .ref q ∧ G q = some u) :
    ∃ p dx l q u Gf, v = .ref p ∧ H p = some (.ins (ObC.C nm) dx l) ∧ l.lookup f = some (.ref q) ∧ H q = some u ∧ Gf q = some u ∧ d'.own K F Gf (.ref q) (get o.v) ∧
      ∀ {H1 F1 : Hp} {u' : HO} {b' : β}, Same H H1 → Ext F H F1 H1 → isT u' = false → d'.own K F1 (upd noHp q u') (.ref q) b' → ∃ Gs', Asn K B F0 (ss.set i (L.S ⟨put o.v b'⟩)) σ (upd H1 q u') F1 Gs' := by
  obtain ⟨p, dx, l, G1, e, hp, s1, n1, r⟩ := ho
  subst e
  obtain ⟨y, Gf, hl, sf, rq, back⟩ := SO.sel r
  obtain ⟨q, u, ey, hq⟩ := hd rq
  subst ey
  have hm := List.mem_of_getElem? hG
  have gq := s1 _ _ (sf _ _ hq)
  have hpq : q ≠ p := fun e => by subst e; rw [sf _ _ hq] at n1; cases n1
  refine ⟨p, dx, l, q, u, Gf, rfl, A.sub G hm _ _ hp, hl, A.sub G hm _ _ gq, hq, rq, fun {H1 F1 u' b'} s ex nt r' => ?_⟩
  have A' := A.grow s ex
  have hS' := (L.S o).mono ex.le (Same.refl G) hS
  have b := back (N := upd noHp q u') (y' := .ref q) (b' := b') ex.le r' (fun c g1 g2 => by
    by_cases e : c = q
    · subst e; rw [hq] at g2; cases g2
    · rw [upd_ne e]; rfl)
  refine A'.fldPut (f := f) (d' := d') L hG hσ hS' hp s1 n1 sf (N := upd noHp q u') (y' := .ref q) (o' := ⟨put o.v b'⟩) (fun c u z h => by rw [upd_ne (fun e => by rw [e, gq] at z; cases z)]; exact h)
    (fun c u _ z z2 => by rw [upd_ne (fun e => by rw [e, hq] at z2; cases z2)]; exact A'.sub G hm _ _ z) (by rw [upd_ne (Ne.symm hpq), putF_same _ _ _ hl]; exact A'.sub G hm _ _ hp) (fun c u z => ?_) b
  by_cases e : c = q
  · subst e
    rw [upd_same] at z ⊢; cases z
    exact ⟨rfl, nt, .inl (by rw [hq]; exact fun h => nomatch h)⟩
  · rw [upd_ne e] at z; cases z
theorem s1_fdput (i : Nat) {α κ β : Type} [EncF α] [Enc κ] [DecidableEq κ] [DK κ] [Enc β] {D : OwF α} {f : Str} {get : α → Dic κ β} {put : α → Dic κ β → α} (L : OSl (obO (nm := nm) D)) (ok : ObOk X.K nm) (SO : SelO D (ObN.fs nm) f get put (dfO (κ := κ) (β := β))) {o : Ob nm α} {m : Res β} {mk : Res κ} {x : Str} {p fp tpos : Pos}
    (hu : X.A.units + 1 < cLine) (hv : XK X W ss e m fr) (hk : XI X W ss a mk) (hs : ss[i]? = some (L.S o) := by rfl) (hp : PE X (.Name x p) (tVar i) := by exact pv _)
    (hfb : attributeBase (.Name x p) f X.env (eval (.Name x p) X.env) = eval (.Name x p) X.env := by rfl)
    (hsw : swapsWith e (some (.Subscript (.Attribute (.Name x p) f fp) a tpos)) pos.line X.env = pure false := by rfl) :
    S1 X W ss (.Assign [.Subscript (.Attribute (.Name x p) f fp) a tpos] e pos) (m.bind fun v => mk.bind fun k => (dputR (get o.v) k v).bind fun d => .ok (⟨put o.v d⟩ : Ob nm α)) (fun o' => ss.set i (L.S o')) := by
  refine PS_imp (ps_dput hu (pe_fld hp hfb) hk hv hsw) fun D' σ H ⟨B, F0, F, Gs, A, q⟩ => ⟨F, A.ext.sub, A.sl, wpS_R (wpS_bind q) A.base fun b q v H1 F1 G1 s1 ex1 _ ⟨v', e1, rb⟩ => ?_⟩
  cases e1
  have A1 := A.grow s1 ex1
  obtain ⟨G, v0, hG, hσ, hS, ho⟩ := all3_osl L A1.all hs
  obtain ⟨pp, dx, l, qa, u, Gf, e0, hP, hl, hq, gq, own, back⟩ := A1.fldOne L SO hG hσ hS ho fun {K F G v a} ⟨p, kvs, e, h, _⟩ => ⟨p, _, e, h⟩
  subst e0
  obtain ⟨qb, kvs, eq, gq2, r⟩ := own
  cases eq
  rw [gq] at gq2; cases gq2
  refine ⟨.ref pp, hσ, pp, _, dx, l, .ref qa, rfl, hP, ok.cl, ok.na f SO.mem, hl, A1.sl.mono A1.ext.sub (Same.refl H1), wpS_R (wpS_bind q) A1.base fun k q y H2 s2 rk => ?_⟩
  unfold dputR at q
  cases gd : big (get o.v).l.length with
  | false => rw [gd] at q; exact q.elim
  | true =>
    rw [gd] at q
    refine ⟨qa, _, rfl, DK.put (s2 _ _ hq) rk (by rw [r.length]; exact Nat.lt_of_le_of_lt (of_decide_eq_true gd) (by decide)), ?_⟩
    obtain ⟨Gs', A2⟩ := back (b' := dput (get o.v) k b) (u' := DK.ho (putK kvs k v)) s2 ⟨Same.refl F1, A1.ext.sub.trans s2, fun _ _ h => .inl h⟩ (DK.notT _) ⟨qa, _, rfl, upd_same, repD_put r rb⟩
    exact q _ _ _ _ A2
end
theorem nob_po {nm : String} [ObN nm] [ObC nm] {p : Addr} {α : Type} [EncF α] {D : OwF α} {a : α} : ∀ K F G o, (nobO (ObC.C nm) p (ObN.fs nm) D a).P K F G o → (po (.ref p) (obO (nm := nm) D) ⟨a⟩).P K F G o :=
  fun K F G o ⟨e, dx, l, G1, h, a, b, r⟩ => ⟨e, p, dx, l, G1, rfl, h, a, b, r⟩
section
variable {X : Cx} {W : WX} {ss : List Slot} {nm : String} [ObN nm] [ObC nm]
theorem st_iniP (i : Nat) {p : Addr} {α : Type} [EncF α] {D : OwF α} {o : Ob nm α} (hs : ss[i]? = some (po (.ref p) (obO D) o) := by rfl) : ST X W true ss [] (.ok o.v) (iniO (ObC.C nm) p (ObN.fs nm) D) :=
  PSs_imp pss_nil fun D' σ H ⟨B, F0, F, Gs, A, hD, q⟩ => by
    obtain ⟨G, v, hG, hσ, e2, p', dx, l, G1, e3, hl, s1, n1, r⟩ := A.all.get hs
    subst e2
    cases e3
    exact hD rfl σ H (q .non H F G A.base A.ext (A.priv G (List.mem_of_getElem? hG)) ⟨rfl, dx, l, G1, hl, s1, n1, r⟩)
end
end G

namespace G
open PySem PySem.Spec PyProof.Rows L2
def strLe (i j : Str) : Bool := !decide (j.cps.toList < i.cps.toList)
section
variable {X : Cx} {W : WX} {ss : List Slot} {e : Expr} {pos : Pos}
end
end G

namespace G
open PySem PySem.Spec PyProof.Rows L2
instance {α : Type} [Enc α] [ToDy α] : Cst (ToDy.dy : α → Dy) := ⟨fun h => ToDy.rep h⟩
def RgL {α : Type} [Enc α] (n : Nat) (K : Frag) (F G : Hp) (vs : List V) (xs : List α) : Prop := vs.length = n ∧ ∀ H, Same (tups F) H → Same G H → All2 (fun v a => Enc.rep K H v a) vs xs
section
variable {X : Cx} {W : WX} {ss : List Slot} {e : Expr} {es : List Expr} {pos : Pos} {rest : List Stmt}
variable (X W) in
def XAR {α : Type} [Enc α] (n : Nat) (ss : List Slot) (es : List Expr) (m : Res (List α)) : Prop := PA X es fun σ H Q =>
  ∃ F, Same F H ∧ Sl X.K F H ss σ ∧ wpR X W m σ H fun a => ∀ vs H' F' G', Same H H' → Ext F H F' H' → Priv G' H F' H' → RgL n X.K F' G' vs a → Q vs H'
end
end G

namespace G
open PySem PySem.Spec PyProof.Rows L2
inductive EntsB (w : World) : List (Str × Bool) → List DictEntry → Prop
  | nil : EntsB w [] []
  | cons {x : Str} {b : Bool} {l : List (Str × Bool)} {e : DictEntry} {es : List DictEntry} (h : ∃ t, e = ⟨PyData.keyHash w.params x, .str x t, .bool b⟩) (r : EntsB w l es) : EntsB w ((x, b) :: l) (e :: es)
structure GDic (P : Program) (w : World) (K : Frag) (mg : Str → Option Value) (x : Str) (d : Dic Str Bool) : Prop where
  ex : ∃ p, mg x = some (.ref p) ∧ (p == sysModules) = false ∧ ∀ h : Heap, K.In h → h.DictOf (mixKind P w) p (d.l.map fun kv => ((.inr kv.1 : Key), Value.bool kv.2))
section
variable {X : Cx} {W : WX} {ss : List Slot} {a : Expr} {pos p : Pos}
end
end G

namespace G
open PySem PySem.Spec PyProof.Rows L2
section
variable {X : Cx} {W : WX} {ss : List Slot} {R T : Type} {e b : Expr} {es rest : List Expr} {st : Stmt} {sts : List Stmt} {pos : Pos} {post : T → List Slot} {kr : R → Slot}
end
end G

namespace G
open PySem PySem.Spec PyProof.Rows L2
def joins : List Hp → Hp
  | [] => noHp
  | g :: gs => join g (joins gs)
section
variable {X : Cx} {W : WX} {ss : List Slot} {e : Expr} {es : List Expr} {pos : Pos}
variable (X W) in
def XAOd {α : Type} [Enc α] (d : Ow α) (n : Nat) (ss : List Slot) (es : List Expr) (m : Res (List α)) : Prop := PA X es fun σ H Q =>
  ∃ F, Same F H ∧ Sl X.K F H ss σ ∧ wpR X W m σ H fun a => ∀ vs H' F' Gs, Same H H' → Ext F H F' H' → (∀ G ∈ Gs, Priv G H F' H') → Gs.Pairwise Dj → vs.length = n → AllO (d.own X.K F') vs Gs a → Q vs H'
end
end G

namespace G
open PySem PySem.Spec PyProof.Rows L2
section
variable {X : Cx}
def tSlV (K : Frag) (te : TE) (tl th ts : TO) : TE := fun σ H Q => te σ H fun x H1 => tl σ H1 fun l H2 => th σ H2 fun u H3 => ts σ H3 fun o H4 => ∃ c a xs, o = some c ∧ c ≠ 0 ∧ x = .ref a ∧ SqL K H4 a xs ∧ (cutC xs l u c).length ≤ sizeLine ∧ ∀ p, H4 p = none → Q (.ref p) (upd H4 p (.lst (cutC xs l u c)))
variable {W : WX} {ss : List Slot} {pos : Pos} {a st : Expr}
def sliceV {α : Type} (xs : List α) (l u c : Option Int) : Res (List α) := match c with
  | some c => guardR (decide (c ≠ 0) && big (cutC xs l u c).length) (.ok (cutC xs l u c))
  | none => .stuck
end
end G

namespace PySem.SumL
open PySem
section
variable {prog : Program} {w : World} {A : Around} {R : Result → Shared → Prop} {I ax : Addr} {its : Array Value}
variable {E : Value → Shared → Prop} {s : Shared}
end
end PySem.SumL
namespace G
open PySem PySem.Spec PyProof.Rows L2
def rSumL : List V → Hp → VK → Prop := fun vs H Q => ∃ (a b : Addr) (ps : List Addr) (xss : List (List V)), vs = [V.ref a, V.ref b] ∧ H a = some (.lst (ps.map V.ref)) ∧ H b = some (.lst []) ∧ All2 (fun p xs => H p = some (.lst xs)) ps xss ∧ ps ≠ [] ∧ xss.flatten.length ≤ sizeLine ∧ ∀ q, H q = none → Q (.ref q) (upd H q (.lst xss.flatten))
section
variable {X : Cx}
end
def sumLL {α : Type} (x : List (List α)) : Res (List α) := guardR (!x.isEmpty && big x.flatten.length) (.ok x.flatten)
section
variable {X : Cx} {W : WX} {ss : List Slot} {a : Expr} {pos : Pos}
end
end G

namespace G
open PySem PySem.Spec PyProof.Rows L2
def Sat {α : Type} (m : Res α) (P : α → Prop) : Prop := ∃ a, m = .ok a ∧ P a
theorem Sat.ok {α : Type} {a : α} {P : α → Prop} (h : P a) : Sat (.ok a) P := ⟨a, rfl, h⟩
theorem Sat.bind {α β : Type} {m : Res α} {k : α → Res β} {P : α → Prop} {Q : β → Prop} (h : Sat m P) (hk : ∀ a, P a → Sat (k a) Q) : Sat (m.bind k) Q := by
  obtain ⟨a, e, p⟩ := h
  rw [e]
  exact hk a p
theorem Sat.imp {α : Type} {m : Res α} {P Q : α → Prop} (h : Sat m P) (f : ∀ a, P a → Q a) : Sat m Q := let ⟨a, e, p⟩ := h; ⟨a, e, f a p⟩
theorem Sat.eq {α : Type} {m : Res α} {a : α} (h : Sat m (fun b => b = a)) : m = .ok a := by obtain ⟨b, e, q⟩ := h; rw [e, q]
theorem Sat.of_eq {α : Type} {m : Res α} {a : α} {P : α → Prop} (e : m = .ok a) (h : P a) : Sat m P := ⟨a, e, h⟩
theorem Sat.guard {α : Type} {c : Bool} {m : Res α} {P : α → Prop} (hc : c = true) (h : Sat m P) : Sat (guardR c m) P := by rw [hc]; exact h
theorem Sat.ite {α : Type} {c : Bool} {a b : Res α} {P : α → Prop} (h1 : c = true → Sat a P) (h2 : c = false → Sat b P) : Sat (if c = true then a else b) P := by
  cases c with
  | true => exact h1 rfl
  | false => exact h2 rfl
theorem Sat.idx {α : Type} {xs : List α} {i : Nat} {P : α → Prop} (hi : i < xs.length) (h : P xs[i]) : Sat (G.idx xs (i : Int)) P := ⟨_, idx_nat (List.getElem?_eq_getElem hi), h⟩
theorem idx_int {α : Type} {xs : List α} {i : Int} {a : α} (h0 : 0 ≤ i) (h : xs[i.toNat]? = some a) : G.idx xs i = .ok a := by
  have h2 := idx_nat (xs := xs) (i := i.toNat) h
  rw [Int.toNat_of_nonneg h0] at h2
  exact h2
theorem Sat.idxI {α : Type} {xs : List α} {i : Int} {P : α → Prop} (h0 : 0 ≤ i) (hi : i < xs.length) (h : ∀ a, xs[i.toNat]? = some a → P a) : Sat (G.idx xs i) P := by
  have hl : i.toNat < xs.length := by omega
  exact ⟨_, idx_int h0 (List.getElem?_eq_getElem hl), h _ (List.getElem?_eq_getElem hl)⟩
theorem Sat.foldR {S α : Type} {f : S → α → Res S} {xs : List α} {s0 : S} (I : Nat → S → Prop) (h0 : I 0 s0) (hs : ∀ i s a, xs[i]? = some a → I i s → Sat (f s a) (I (i + 1))) : Sat (G.foldR f s0 xs) (I xs.length) := by
  induction xs generalizing s0 I with
  | nil => exact .ok h0
  | cons a as ih =>
    refine Sat.bind (hs 0 s0 a rfl h0) fun s p => ?_
    exact ih (fun i s => I (i + 1) s) p fun i s b hb q => hs (i + 1) s b hb q
theorem loopO_all {S L R α : Type} {f : S → α → Res (Out S S R)} {xs : List α} {s0 : S} (I : Nat → S → Prop) (h0 : I 0 s0) (hs : ∀ i s a, xs[i]? = some a → I i s → Sat (f s a) (fun o => ∃ s', o = .nx s' ∧ I (i + 1) s')) :
    Sat (G.loopO (L := L) f s0 xs) (fun o => ∃ s, o = .nx s ∧ I xs.length s) := by
  induction xs generalizing s0 I with
  | nil => exact .ok ⟨s0, rfl, h0⟩
  | cons a as ih =>
    refine Sat.bind (hs 0 s0 a rfl h0) fun o ⟨s', e, p⟩ => ?_
    subst e
    exact ih (fun i s => I (i + 1) s) p fun i s b hb q => hs (i + 1) s b hb q
theorem Sat.lcT {α β : Type} {p : α → Res Bool} {g : α → Res β} {xs : List α} {p' : α → Bool} {g' : α → β} {P : List β → Prop} (hl : xs.length ≤ 1000000) (hp : ∀ a ∈ xs, p a = .ok (p' a)) (hg : ∀ a ∈ xs, p' a = true → g a = .ok (g' a)) (h : P ((xs.filter p').map g')) : Sat (G.lcT p g xs) P :=
  .guard (decide_eq_true hl) (.of_eq (lcR_filter hp hg) h)
theorem lcT_map {α β : Type} {g : α → Res β} {xs : List α} {g' : α → β} (hl : xs.length ≤ 1000000) (hg : ∀ a ∈ xs, g a = .ok (g' a)) : G.lcT (fun _ => .ok true) g xs = .ok (xs.map g') := by
  unfold G.lcT
  rw [decide_eq_true hl]
  exact lcR_ok (fun _ _ => rfl) hg
theorem Sat.mod {i j : Int} {P : Int → Prop} (h1 : 0 < j) (p : P (i % j)) : Sat (modR i j) P := .of_eq (modR_of h1) p
theorem Sat.app {α : Type} {xs : List α} {a : α} {P : List α → Prop} (h : xs.length ≤ 1000000) (p : P (xs ++ [a])) : Sat (appR xs a) P := .guard (decide_eq_true h) (.ok p)
theorem appR_ok {α : Type} {xs : List α} {a : α} (h : xs.length ≤ 1000000) : appR xs a = .ok (xs ++ [a]) := guardR_of (decide_eq_true h)
theorem catR_ok {α : Type} {xs ys : List α} (h : xs.length + ys.length ≤ 1000000) : catR xs ys = .ok (xs ++ ys) := guardR_of (decide_eq_true h)
theorem extR_ok {α : Type} {xs ys : List α} (h : xs.length + ys.length ≤ 1000000) : extR xs ys = .ok (xs ++ ys) := guardR_of (decide_eq_true h)
theorem Sat.range {n : Int} {P : List Int → Prop} (h0 : 0 ≤ n) (h : n < 1000000) (p : P (rangeL 0 n.toNat)) : Sat (guardR (small62 n) (Res.ok (rangeL 0 n.toNat))) P := by
  refine .guard ?_ (.ok p)
  unfold small62
  simp only [Bool.and_eq_true, decide_eq_true_eq]
  omega
theorem range_ok {n : Int} (h0 : 0 ≤ n) (h : n < 1000000) : (guardR (small62 n) (Res.ok (rangeL 0 n.toNat))) = .ok (rangeL 0 n.toNat) := by
  refine guardR_of ?_
  unfold small62
  simp only [Bool.and_eq_true, decide_eq_true_eq]
  omega
theorem str_len_app (x y : Str) : (x ++ y).length = x.length + y.length := by
  show (x.cps ++ y.cps).size = _
  rw [Array.size_append]; rfl
theorem catS_ok {x y : Str} (h : x.length + y.length ≤ 1000000) : catS x y = .ok (x ++ y) := guardR_of (decide_eq_true h)
end G

namespace G
open PySem PySem.Spec PyProof.Rows L2
theorem Sat.bassoc {α β γ : Type} {m : Res α} {f : α → Res β} {k : β → Res γ} {P : γ → Prop} (h : Sat (m.bind fun a => (f a).bind k) P) : Sat ((m.bind f).bind k) P := by rw [Res.bind_assoc]; exact h
theorem Sat.bok {α β : Type} {a : α} {k : α → Res β} {P : β → Prop} (h : Sat (k a) P) : Sat ((Res.ok a).bind k) P := h
theorem Sat.bite {α β : Type} {c : Bool} {a b : Res α} {k : α → Res β} {P : β → Prop} (h1 : c = true → Sat (a.bind k) P) (h2 : c = false → Sat (b.bind k) P) : Sat ((if c = true then a else b).bind k) P := by
  cases c with
  | true => exact h1 rfl
  | false => exact h2 rfl
theorem Sat.beq {α β : Type} {m : Res α} {a : α} {k : α → Res β} {P : β → Prop} (e : m = .ok a) (h : Sat (k a) P) : Sat (m.bind k) P := by rw [e]; exact h
theorem Sat.bmul {β : Type} {i j : Int} {k : Int → Res β} {P : β → Prop} (h : (-(2 ^ 64) < i ∧ i < 2 ^ 64) ∨ (-(2 ^ 64) < j ∧ j < 2 ^ 64)) (p : Sat (k (i * j)) P) : Sat ((mulR i j).bind k) P := by
  rcases h with ⟨a, b⟩ | ⟨a, b⟩
  · exact .beq (mulR_l a b) p
  · exact .beq (mulR_r a b) p
theorem Sat.bmod {β : Type} {i j : Int} {k : Int → Res β} {P : β → Prop} (h1 : 0 < j) (p : Sat (k (i % j)) P) : Sat ((modR i j).bind k) P := .beq (modR_of h1) p
theorem Sat.bdiv {β : Type} {i j : Int} {k : Int → Res β} {P : β → Prop} (h1 : 0 < j) (h2 : j < 10 ^ 70) (p : Sat (k (i / j)) P) : Sat ((divR i j).bind k) P := .beq (divR_of h1 h2) p
theorem Sat.bapp {α β : Type} {xs : List α} {a : α} {k : List α → Res β} {P : β → Prop} (h : xs.length ≤ 1000000) (p : Sat (k (xs ++ [a])) P) : Sat ((appR xs a).bind k) P := .beq (appR_ok h) p
theorem Sat.bidx {α β : Type} {xs : List α} {i : Int} {a : α} {k : α → Res β} {P : β → Prop} (h0 : 0 ≤ i) (h : xs[i.toNat]? = some a) (p : Sat (k a) P) : Sat ((G.idx xs i).bind k) P := .beq (idx_int h0 h) p
theorem Sat.brange {β : Type} {n : Int} {k : List Int → Res β} {P : β → Prop} (h0 : 0 ≤ n) (h : n < 1000000) (p : Sat (k (rangeL 0 n.toNat)) P) : Sat ((guardR (small62 n) (Res.ok (rangeL 0 n.toNat))).bind k) P := .beq (range_ok h0 h) p
theorem rangeL0 {n i : Nat} {a : Int} (h : (rangeL 0 n)[i]? = some a) : i < n ∧ a = (i : Int) := by
  have := rangeL_get h
  omega
theorem get_of {α : Type} {xs : List α} {i : Nat} (h : i < xs.length) : xs[i]? = some xs[i] := List.getElem?_eq_getElem h
theorem joinR_ok {x : Str} {ys : List Str} (h : (ys.map (·.length)).sum + ys.length * x.length ≤ 1000000) : joinR x ys = .ok (Txt.join x ys) := guardR_of (decide_eq_true h)
end G
namespace G
open PySem PySem.Spec PyProof.Rows L2
theorem Sat.tail {S R : Type} {M : Res (Out S Empty R)} {k : S → Res R} {P : S → Prop} {Q : R → Prop} (h : Sat M (fun o => ∃ s, o = .nx s ∧ P s)) (hk : ∀ s, P s → Sat (k s) Q) : Sat (M.tail k) Q := by
  obtain ⟨o, e, s, e2, p⟩ := h
  subst e2
  unfold Res.tail
  rw [e]
  exact hk s p
theorem Sat.next {S S' L R : Type} {M : Res (Out S L R)} {k : S → Res (Out S' L R)} {P : S → Prop} {Q : Out S' L R → Prop} (h : Sat M (fun o => ∃ s, o = .nx s ∧ P s)) (hk : ∀ s, P s → Sat (k s) Q) : Sat (M.next k) Q := by
  obtain ⟨o, e, s, e2, p⟩ := h
  subst e2
  unfold Res.next
  rw [e]
  exact hk s p
theorem Sat.nx {S L R : Type} {s : S} {P : S → Prop} (p : P s) : Sat (Res.ok (Out.nx s) : Res (Out S L R)) (fun o => ∃ s, o = .nx s ∧ P s) := .ok ⟨s, rfl, p⟩
theorem Sat.loop {S L R α : Type} {f : S → α → Res (Out S S R)} {xs : List α} {s0 : S} (I : Nat → S → Prop) (h0 : I 0 s0) (hs : ∀ i s a, xs[i]? = some a → I i s → Sat (f s a) (fun o => ∃ s', o = .nx s' ∧ I (i + 1) s')) :
    Sat (G.loopO (L := L) f s0 xs) (fun o => ∃ s, o = .nx s ∧ I xs.length s) := loopO_all I h0 hs
end G

namespace G
open PySem PySem.Spec PyProof.Rows L2
def TieOk (n : Int) (t : Int × Int) : Prop := 0 ≤ t.1 ∧ t.1 < t.2 ∧ t.2 < n
structure WebOk (w : Int × Tup (Int × Int)) : Prop where
  n1 : 1 ≤ w.1
  n2 : w.1 ≤ 40
  len : w.2.l.length ≤ 200
  ok : ∀ t ∈ w.2.l, TieOk w.1 t
  nd : w.2.l.Nodup
  up : w.2.l.Pairwise fun a b => leP a b = true
def tied (ts : List (Int × Int)) (a b : Int) : Prop := (a, b) ∈ ts ∨ (b, a) ∈ ts
instance {ts : List (Int × Int)} {a b : Int} : Decidable (tied ts a b) := by unfold tied; exact inferInstance
theorem tied_symm {ts : List (Int × Int)} {a b : Int} : tied ts a b ↔ tied ts b a := Or.comm
theorem WebOk.tie {w : Int × Tup (Int × Int)} (h : WebOk w) {a b : Int} (t : tied w.2.l a b) : 0 ≤ a ∧ a < w.1 ∧ 0 ≤ b ∧ b < w.1 ∧ a ≠ b := by
  rcases t with t | t
  · have ⟨x, y, z⟩ := h.ok _ t
    have x : 0 ≤ a := x
    have y : a < b := y
    have z : b < w.1 := z
    omega
  · have ⟨x, y, z⟩ := h.ok _ t
    have x : 0 ≤ b := x
    have y : b < a := y
    have z : a < w.1 := z
    omega
def nbr (k : Int) (t : Int × Int) : List Int := (if t.1 = k then [t.2] else []) ++ (if t.2 = k then [t.1] else [])
def nbrs (ts : List (Int × Int)) (k : Int) : List Int := ts.flatMap (nbr k)
theorem mem_nbr {k m : Int} {t : Int × Int} : m ∈ nbr k t ↔ t = (k, m) ∨ t = (m, k) := by
  obtain ⟨a, b⟩ := t
  unfold nbr
  simp only [List.mem_append, Prod.mk.injEq]
  constructor
  · rintro (h | h)
    · split at h
      · rename_i e; left; exact ⟨e, (List.mem_singleton.mp h).symm⟩
      · cases h
    · split at h
      · rename_i e; right; exact ⟨(List.mem_singleton.mp h).symm, e⟩
      · cases h
  · rintro (⟨e1, e2⟩ | ⟨e1, e2⟩)
    · left; rw [if_pos e1, e2]; exact List.mem_singleton.mpr rfl
    · right; rw [if_pos e2, e1]; exact List.mem_singleton.mpr rfl
theorem mem_nbrs {ts : List (Int × Int)} {k m : Int} : m ∈ nbrs ts k ↔ tied ts k m := by
  unfold nbrs tied
  rw [List.mem_flatMap]
  constructor
  · rintro ⟨t, h, e⟩
    rcases mem_nbr.mp e with rfl | rfl
    · exact .inl h
    · exact .inr h
  · rintro (h | h)
    · exact ⟨_, h, mem_nbr.mpr (.inl rfl)⟩
    · exact ⟨_, h, mem_nbr.mpr (.inr rfl)⟩
theorem nbrs_nodup {n : Int} {k : Int} : ∀ {ts : List (Int × Int)}, ts.Nodup → (∀ t ∈ ts, TieOk n t) → (nbrs ts k).Nodup
  | [], _, _ => .nil
  | t :: ts, nd, ok => by
    obtain ⟨n1, n2⟩ := List.nodup_cons.mp nd
    have ih := nbrs_nodup (k := k) n2 fun x m => ok x (List.mem_cons_of_mem _ m)
    show (nbr k t ++ nbrs ts k).Nodup
    refine List.nodup_append.mpr ⟨?_, ih, fun x hx y hy e => ?_⟩
    · have ⟨x, y, z⟩ := ok t List.mem_cons_self
      unfold nbr
      by_cases h1 : t.1 = k
      · rw [if_pos h1, if_neg (by omega)]; simp
      · rw [if_neg h1]
        by_cases h2 : t.2 = k
        · rw [if_pos h2]; simp
        · rw [if_neg h2]; simp
    · subst e
      have ⟨a, b, c⟩ := ok t List.mem_cons_self
      rcases mem_nbr.mp hx with e | e <;> rcases mem_nbrs.mp hy with h | h
      · exact n1 (e ▸ h)
      · have ⟨d, e2, f⟩ := ok _ (List.mem_cons_of_mem _ h)
        subst e
        have b : k < x := b
        have e2 : x < k := e2
        omega
      · have ⟨d, e2, f⟩ := ok _ (List.mem_cons_of_mem _ h)
        subst e
        have b : x < k := b
        have e2 : k < x := e2
        omega
      · exact n1 (e ▸ h)
theorem nbrs_len {ts : List (Int × Int)} {k : Int} : (nbrs ts k).length ≤ 2 * ts.length := by
  induction ts with
  | nil => exact Nat.le_refl _
  | cons t ts ih =>
    have : (nbr k t).length ≤ 2 := by
      unfold nbr
      split <;> split <;> simp
    show (nbr k t ++ nbrs ts k).length ≤ _
    rw [List.length_append, List.length_cons]
    omega
theorem rise_ext : ∀ {l m : List Int}, l.Pairwise (· < ·) → m.Pairwise (· < ·) → (∀ x, x ∈ l ↔ x ∈ m) → l = m
  | [], [], _, _, _ => rfl
  | [], b :: m, _, _, h => by have := (h b).mpr List.mem_cons_self; cases this
  | a :: l, [], _, _, h => by have := (h a).mp List.mem_cons_self; cases this
  | a :: l, b :: m, h1, h2, h => by
    obtain ⟨p1, p2⟩ := List.pairwise_cons.mp h1
    obtain ⟨q1, q2⟩ := List.pairwise_cons.mp h2
    have e : a = b := by
      rcases List.mem_cons.mp ((h a).mp List.mem_cons_self) with e | e
      · exact e
      · rcases List.mem_cons.mp ((h b).mpr List.mem_cons_self) with e2 | e2
        · exact e2.symm
        · have := q1 a e
          have := p1 b e2
          omega
    subst e
    congr 1
    refine rise_ext p2 q2 fun x => ?_
    constructor
    · intro hx
      rcases List.mem_cons.mp ((h x).mp (List.mem_cons_of_mem _ hx)) with e | e
      · have := p1 x hx; omega
      · exact e
    · intro hx
      rcases List.mem_cons.mp ((h x).mpr (List.mem_cons_of_mem _ hx)) with e | e
      · have := q1 x hx; omega
      · exact e
theorem sortI_rise {l : List Int} (h : l.Nodup) : (sortI l).Pairwise (· < ·) := by
  have a := sortI_pw l
  have b : (sortI l).Nodup := (sortI_perm l).nodup_iff.mpr h
  exact a.imp₂ (fun x y h1 h2 => by omega) b
theorem mem_sortI {l : List Int} {x : Int} : x ∈ sortI l ↔ x ∈ l := (sortI_perm l).mem_iff
theorem rangeL_rise (n : Nat) : (rangeL 0 n).Pairwise (· < ·) := by
  unfold rangeL
  refine List.pairwise_map.mpr ?_
  exact List.pairwise_lt_range.imp fun h => by omega
theorem mem_rangeL {n : Nat} {x : Int} : x ∈ rangeL 0 n ↔ 0 ≤ x ∧ x < n := by
  unfold rangeL
  rw [List.mem_map]
  constructor
  · rintro ⟨i, h, rfl⟩
    have := List.mem_range.mp h
    omega
  · rintro ⟨a, b⟩
    exact ⟨x.toNat, List.mem_range.mpr (by omega), by omega⟩
def Rise (n : Int) (l : List Int) : Prop := l.Pairwise (· < ·) ∧ ∀ x ∈ l, 0 ≤ x ∧ x < n
def nextL (w : Int × Tup (Int × Int)) (k : Int) : List Int := (rangeL 0 w.1.toNat).filter fun m => decide (tied w.2.l k m)
theorem nextL_rise (w : Int × Tup (Int × Int)) (h : 0 ≤ w.1) (k : Int) : Rise w.1 (nextL w k) := ⟨(rangeL_rise _).filter _, fun x m => by
  have := mem_rangeL.mp (List.mem_filter.mp m).1
  omega⟩
theorem mem_nextL {w : Int × Tup (Int × Int)} (h : WebOk w) {k m : Int} : m ∈ nextL w k ↔ tied w.2.l k m := by
  unfold nextL
  rw [List.mem_filter, mem_rangeL, decide_eq_true_iff]
  constructor
  · exact fun h => h.2
  · intro t
    have := h.tie t
    have := h.n1
    exact ⟨by omega, t⟩
theorem sort_nbrs {w : Int × Tup (Int × Int)} (h : WebOk w) (k : Int) : sortI (nbrs w.2.l k) = nextL w k :=
  rise_ext (sortI_rise (nbrs_nodup h.nd h.ok)) (nextL_rise w (by have := h.n1; omega) k).1 fun x => by rw [mem_sortI, mem_nbrs, mem_nextL h]
theorem nextL_len (w : Int × Tup (Int × Int)) (h : WebOk w) (k : Int) : (nextL w k).length ≤ 40 := by
  unfold nextL
  refine Nat.le_trans (List.length_filter_le _ _) ?_
  rw [rangeL_len]
  have := h.n2
  omega
theorem keys_len {κ β : Type} (d : Dic κ β) : (dkeys d).length = d.l.length := by unfold dkeys; rw [List.length_map]
theorem put_len {κ β : Type} [DecidableEq κ] (d : Dic κ β) (k : κ) (v : β) : (dput d k v).l.length ≤ d.l.length + 1 := by
  unfold dput
  split
  · show (List.map _ _).length ≤ _
    rw [List.length_map]; omega
  · show (d.l ++ _).length ≤ _
    rw [List.length_append]; exact Nat.le_refl _
theorem put_mem {κ β : Type} [DecidableEq κ] (d : Dic κ β) (k : κ) (v : β) (x : κ) : x ∈ dkeys (dput d k v) ↔ x = k ∨ x ∈ dkeys d := by
  rw [dkeys_put]
  split
  · rename_i h
    constructor
    · exact .inr
    · rintro (rfl | h') <;> assumption
  · rw [List.mem_append, List.mem_singleton]; exact Or.comm
theorem put_nodup {κ β : Type} [DecidableEq κ] (d : Dic κ β) (k : κ) (v : β) (h : (dkeys d).Nodup) : (dkeys (dput d k v)).Nodup := by
  rw [dkeys_put]
  split
  · exact h
  · rename_i hk
    exact List.nodup_append.mpr ⟨h, by simp, fun x hx y hy => by cases List.mem_singleton.mp hy; exact fun e => hk (e ▸ hx)⟩
theorem dputR_ok {κ β : Type} [DecidableEq κ] {d : Dic κ β} {k : κ} {v : β} (h : d.l.length ≤ 1000000) : dputR d k v = .ok (dput d k v) := guardR_of (decide_eq_true h)
theorem Sat.bput {κ β γ : Type} [DecidableEq κ] {d : Dic κ β} {k : κ} {v : β} {kk : Dic κ β → Res γ} {P : γ → Prop} (h : d.l.length ≤ 1000000) (p : Sat (kk (dput d k v)) P) : Sat ((dputR d k v).bind kk) P := .beq (dputR_ok h) p
structure Ties (n : Int) (i : Nat) (d : Dic (Int × Int) Bool) : Prop where
  len : d.l.length ≤ i
  ok : ∀ t ∈ dkeys d, TieOk n t
  nd : (dkeys d).Nodup
theorem Ties.nil (n : Int) : Ties n 0 ⟨[]⟩ := ⟨Nat.le_refl _, (fun t m => by cases m), .nil⟩
theorem Ties.le {n : Int} {i j : Nat} {d : Dic (Int × Int) Bool} (h : Ties n i d) (l : i ≤ j) : Ties n j d := ⟨Nat.le_trans h.len l, h.ok, h.nd⟩
theorem Ties.put {n : Int} {i : Nat} {d : Dic (Int × Int) Bool} (h : Ties n i d) {t : Int × Int} (ht : TieOk n t) : Ties n (i + 1) (dput d t true) :=
  ⟨Nat.le_trans (put_len _ _ _) (Nat.succ_le_succ h.len), fun x m => (put_mem _ _ _ _ |>.mp m).elim (fun e => e ▸ ht) (h.ok x), put_nodup _ _ _ h.nd⟩
theorem Ties.web {n : Int} {i : Nat} {d : Dic (Int × Int) Bool} (h : Ties n i d) (h1 : 1 ≤ n) (h2 : n ≤ 40) (hi : i ≤ 200) : WebOk (n, ⟨sortP (dkeys d)⟩) :=
  ⟨h1, h2, by
    show (sortP (dkeys d)).length ≤ 200
    rw [(sortP_perm _).length_eq, keys_len]
    exact Nat.le_trans h.len hi, fun t m => h.ok t ((sortP_perm _).mem_iff.mp m), (sortP_perm _).nodup_iff.mpr h.nd, sortP_pw _⟩
theorem cut_len {α : Type} (xs : List α) (lo hi : Nat) : (cut xs (some (lo : Int)) (some (hi : Int))).length ≤ hi - lo := by
  unfold cut
  rw [HT.sIx_nat, HT.sIx_nat, List.length_take]
  omega
theorem two {ds : List Int} (h : ds.length = 2) : ∃ a b, ds = [a, b] := by
  match ds, h with
  | [a, b], _ => exact ⟨a, b, rfl⟩
theorem three {ds : List Int} (h : ds.length = 3) : ∃ a b c, ds = [a, b, c] := by
  match ds, h with
  | [a, b, c], _ => exact ⟨a, b, c, rfl⟩
def Digits (sizes ds : List Int) : Prop := ds.length = sizes.length ∧ ∀ (i : Nat) (d z : Int), ds[i]? = some d → sizes[i]? = some z → 0 ≤ d ∧ d < z
theorem Digits.get {sizes ds : List Int} (h : Digits sizes ds) {i : Nat} {z : Int} (e : sizes[i]? = some z) : ∃ d, ds[i]? = some d ∧ 0 ≤ d ∧ d < z := by
  have hi : i < ds.length := by rw [h.1]; exact (List.getElem?_eq_some_iff.mp e).1
  exact ⟨_, List.getElem?_eq_getElem hi, h.2 i _ z (List.getElem?_eq_getElem hi) e⟩
end G

namespace G
open PySem PySem.Spec PyProof.Rows L2
theorem Sat.while {S : Type} {c : S → Res Bool} {f : S → Res S} (I : Nat → S → Prop) {P : S → Prop} (hs : ∀ i s, I i s → ∃ b, c s = .ok b ∧ (b = true → Sat (f s) (I (i + 1))) ∧ (b = false → P s)) : ∀ (n : Nat) (i : Nat) (s0 : S), (∀ i s, I i s → i < n) → I i s0 → Sat (whileR c f (n - i) s0) P := by
  intro n
  have key : ∀ m i s0, n - i = m → (∀ i s, I i s → i < n) → I i s0 → Sat (whileR c f m s0) P := by
    intro m
    induction m with
    | zero => intro i s0 e hn h; have := hn i s0 h; omega
    | succ m ih =>
      intro i s0 e hn h
      obtain ⟨b, eb, ht, hf⟩ := hs i s0 h
      have e2 : whileR c f (m + 1) s0 = (c s0).bind fun b => if b then (f s0).bind (whileR c f m) else .ok s0 := rfl
      rw [e2, eb, Res.okb]
      cases b with
      | true => exact Sat.bind (ht rfl) fun s h' => ih (i + 1) s (by omega) hn h'
      | false => exact Sat.ok (hf rfl)
  exact fun i s0 hn h => key _ i s0 rfl hn h
def grow (okb : Int → Bool) : List Int → List Int → List Int
  | s, [] => s
  | s, a :: as => grow okb (if okb a = true ∧ a ∉ s then s ++ [a] else s) as
section
variable {okb : Int → Bool}
theorem mem_grow {x : Int} : ∀ {as s : List Int}, x ∈ grow okb s as ↔ x ∈ s ∨ (x ∈ as ∧ okb x = true)
  | [], s => by unfold grow; simp
  | a :: as, s => by
    unfold grow
    rw [mem_grow]
    split
    · rename_i h
      rw [List.mem_append, List.mem_singleton, List.mem_cons]
      constructor
      · rintro ((h1 | rfl) | h1)
        · exact .inl h1
        · exact .inr ⟨.inl rfl, h.1⟩
        · exact .inr ⟨.inr h1.1, h1.2⟩
      · rintro (h1 | ⟨rfl | h1, h2⟩)
        · exact .inl (.inl h1)
        · exact .inl (.inr rfl)
        · exact .inr ⟨h1, h2⟩
    · rename_i h
      rw [List.mem_cons]
      constructor
      · rintro (h1 | h1)
        · exact .inl h1
        · exact .inr ⟨.inr h1.1, h1.2⟩
      · rintro (h1 | ⟨rfl | h1, h2⟩)
        · exact .inl h1
        · by_cases hx : x ∈ s
          · exact .inl hx
          · exact (h ⟨h2, hx⟩).elim
        · exact .inr ⟨h1, h2⟩
theorem grow_nodup : ∀ {as s : List Int}, s.Nodup → (grow okb s as).Nodup
  | [], s, h => h
  | a :: as, s, h => by
    unfold grow
    refine grow_nodup ?_
    split
    · rename_i h'
      exact List.nodup_append.mpr ⟨h, by simp, fun x hx y hy => by cases List.mem_singleton.mp hy; exact fun e => h'.2 (e ▸ hx)⟩
    · exact h
theorem grow_pre : ∀ {as s : List Int}, s <+: grow okb s as
  | [], s => List.prefix_refl _
  | a :: as, s => by
    unfold grow
    refine List.IsPrefix.trans ?_ grow_pre
    split
    · exact List.prefix_append _ _
    · exact List.prefix_refl _
theorem foldR_grow {f : List Int → Int → Res (List Int)} {as s : List Int} (hf : ∀ a ∈ as, ∀ s : List Int, s.length ≤ 100000 → f s a = .ok (if okb a = true ∧ a ∉ s then s ++ [a] else s)) (hl : s.length + as.length ≤ 100000) : foldR f s as = .ok (grow okb s as) := by
  induction as generalizing s with
  | nil => rfl
  | cons a as ih =>
    rw [List.length_cons] at hl
    show (f s a).bind _ = _
    rw [hf a List.mem_cons_self s (by omega)]
    show foldR f _ as = .ok (grow okb (if okb a = true ∧ a ∉ s then s ++ [a] else s) as)
    refine ih (s := if okb a = true ∧ a ∉ s then s ++ [a] else s) (fun b m => hf b (List.mem_cons_of_mem _ m)) ?_
    split
    · rw [List.length_append, List.length_singleton]; omega
    · omega
end
inductive Reach (nb : Int → List Int) (okb : Int → Bool) (k : Int) : Int → Prop
  | here : Reach nb okb k k
  | on {x y : Int} : Reach nb okb k x → y ∈ nb x → okb y = true → Reach nb okb k y
theorem nodup_len : ∀ (n : Nat) {l : List Int}, l.Nodup → (∀ x ∈ l, 0 ≤ x ∧ x < n) → l.length ≤ n
  | 0, l, _, h => by
    cases l with
    | nil => exact Nat.le_refl _
    | cons a l => have := h a List.mem_cons_self; omega
  | n + 1, l, nd, h => by
    have e := List.length_filter_le (fun x => decide (x ≠ (n : Int))) l
    have ih := nodup_len n (l := l.filter fun x => decide (x ≠ (n : Int))) (nd.filter _) fun x m => by
      obtain ⟨m1, m2⟩ := List.mem_filter.mp m
      have := h x m1
      have := of_decide_eq_true m2
      omega
    have : l.length ≤ (l.filter fun x => decide (x ≠ (n : Int))).length + 1 := by
      clear ih e h
      induction l with
      | nil => simp
      | cons a l ih =>
        obtain ⟨n1, n2⟩ := List.nodup_cons.mp nd
        by_cases ha : a = (n : Int)
        · have : l.filter (fun x => decide (x ≠ (n : Int))) = l := List.filter_eq_self.mpr fun x m => decide_eq_true fun e => n1 (by rw [ha, ← e]; exact m)
          rw [List.filter_cons, if_neg (by simp [ha]), this, List.length_cons]; omega
        · rw [List.filter_cons, if_pos (by simp [ha]), List.length_cons, List.length_cons]
          have := ih n2
          omega
    omega
theorem bfs {nb : Int → List Int} {okb : Int → Bool} {k n : Int} {c : List Int × Int → Res Bool} {f : List Int × Int → Res (List Int × Int)} (hn : n ≤ 40) (hk : 0 ≤ k ∧ k < n) (hnb : ∀ x, 0 ≤ x → x < n → ∀ y ∈ nb x, 0 ≤ y ∧ y < n)
    (hc : ∀ s (i : Nat), c (s, (i : Int)) = .ok (decide ((i : Int) < (s.length : Int)))) (hf : ∀ s (i : Nat) x, s[i]? = some x → s.length ≤ 40 → (∀ y ∈ s, 0 ≤ y ∧ y < n) → f (s, (i : Int)) = .ok (grow okb s (nb x), (i : Int) + 1)) :
    Sat (whileR c f 64 ([k], 0)) (fun s => s.1.Nodup ∧ (∀ x ∈ s.1, 0 ≤ x ∧ x < n) ∧ ∀ x, x ∈ s.1 ↔ Reach nb okb k x) := by
  have hn0 : 0 ≤ n := by omega
  refine Sat.while (fun i s => s.2 = (i : Int) ∧ i ≤ s.1.length ∧ s.1.Nodup ∧ (∀ x ∈ s.1, 0 ≤ x ∧ x < n) ∧ (∀ x ∈ s.1, Reach nb okb k x) ∧ k ∈ s.1 ∧ ∀ j x, j < i → s.1[j]? = some x → ∀ y ∈ nb x, okb y = true → y ∈ s.1) ?_ 64 0 ([k], 0) ?_
    ⟨rfl, Nat.zero_le _, by simp, (fun x m => by cases List.mem_singleton.mp m; exact hk), (fun x m => by cases List.mem_singleton.mp m; exact .here), by simp, fun j x h => by omega⟩
  · rintro i ⟨s, at'⟩ ⟨e, hi, nd, rg, rc, ks, cl⟩
    have hi : i ≤ s.length := hi
    have nd' : s.Nodup := nd
    clear nd
    have nd := nd'
    have rg : ∀ x ∈ s, 0 ≤ x ∧ x < n := rg
    have rc : ∀ x ∈ s, Reach nb okb k x := rc
    have ks : k ∈ s := ks
    have cl : ∀ j x, j < i → s[j]? = some x → ∀ y ∈ nb x, okb y = true → y ∈ s := cl
    have e : at' = (i : Int) := e
    subst e
    have hl : s.length ≤ 40 := by
      have h40 : s.length ≤ n.toNat := nodup_len n.toNat nd fun x m => by have := rg x m; omega
      omega
    refine ⟨_, hc s i, fun h => ?_, fun h => ?_⟩
    · have hlt : i < s.length := by have := of_decide_eq_true h; omega
      have gx := get_of hlt
      have rx := rg s[i] (List.getElem_mem _)
      refine .of_eq (hf s i _ gx hl rg) ⟨rfl, ?_, grow_nodup nd, fun x m => ?_, fun x m => ?_, mem_grow.mpr (.inl ks), fun j x hj hx y my oy => ?_⟩
      · have := grow_pre (okb := okb) (as := nb s[i]) (s := s) |>.length_le
        show i + 1 ≤ (grow okb s (nb s[i])).length
        omega
      · rcases mem_grow.mp m with m | m
        · exact rg x m
        · exact hnb _ rx.1 rx.2 x m.1
      · rcases mem_grow.mp m with m | m
        · exact rc x m
        · exact .on (rc _ (List.getElem_mem hlt)) m.1 m.2
      · have hx : (grow okb s (nb s[i]))[j]? = some x := hx
        have hpre := grow_pre (okb := okb) (as := nb s[i]) (s := s)
        have hjs : s[j]? = some x := by
          obtain ⟨t, ht⟩ := hpre
          rw [← ht, List.getElem?_append_left (by omega)] at hx
          exact hx
        by_cases e : j = i
        · subst e
          rw [gx] at hjs
          cases hjs
          exact mem_grow.mpr (.inr ⟨my, oy⟩)
        · exact mem_grow.mpr (.inl (cl j x (by omega) hjs y my oy))
    · refine ⟨nd, rg, fun x => ⟨rc x, fun r => ?_⟩⟩
      have hge : s.length ≤ i := by have := of_decide_eq_false h; omega
      show x ∈ s
      induction r with
      | here => exact ks
      | on r my oy ih =>
        have ih : _ ∈ s := ih
        obtain ⟨j, hj⟩ := List.getElem?_of_mem ih
        have := (List.getElem?_eq_some_iff.mp hj).1
        exact cl j _ (by omega) hj _ my oy
  · rintro i s ⟨e, hi, nd, rg, _⟩
    have := nodup_len n.toNat nd fun x m => by have := rg x m; omega
    omega
def sgn (b : Str) (k : Int) : Str := ⟨#[b.cps.toList.getD k.toNat 0]⟩
theorem strIx_sgn {b : Str} {k : Int} (hl : b.length ≤ 1000000) (h0 : 0 ≤ k) (h1 : k < b.length) : strIx b k = .ok (sgn b k) := by
  unfold strIx
  rw [decide_eq_true hl]
  have hi : k.toNat < b.cps.toList.length := by rw [Array.length_toList]; show k.toNat < b.length; omega
  have e : atI b.cps.toList k = some b.cps.toList[k.toNat] := by
    have := atI_nat (get_of hi)
    rw [Int.toNat_of_nonneg h0] at this
    exact this
  rw [e]
  show Res.ok _ = Res.ok _
  unfold sgn
  rw [List.getD_eq_getElem?_getD, get_of hi]; rfl
theorem setI_nat {α : Type} {xs : List α} {i : Int} {a : α} (h0 : 0 ≤ i) (h1 : i < xs.length) : setI xs i a = xs.set i.toNat a := by
  unfold setI ixN
  rw [if_pos h0, if_pos (by omega)]
theorem idx_rangeMap {α : Type} {n : Nat} {f : Int → α} {i : Int} (h0 : 0 ≤ i) (h1 : i < n) : G.idx ((rangeL 0 n).map f) i = .ok (f i) := idx_int h0 (by
  rw [List.getElem?_map]
  have : (rangeL 0 n)[i.toNat]? = some i := by
    unfold rangeL
    rw [List.getElem?_map, List.getElem?_range (by omega)]
    show some (0 + (i.toNat : Int)) = _
    congr 1; omega
  rw [this]; rfl)
theorem set_rangeMap {α : Type} {n : Nat} {f : Int → α} {i : Int} {a : α} (h0 : 0 ≤ i) (h1 : i < n) : setI ((rangeL 0 n).map f) i a = (rangeL 0 n).map (fun k => if k = i then a else f k) := by
  rw [setI_nat h0 (by rw [List.length_map, rangeL_len]; exact h1)]
  apply List.ext_getElem?
  intro j
  rw [List.getElem?_set, List.getElem?_map, List.getElem?_map]
  by_cases hj : j < n
  · have : (rangeL 0 n)[j]? = some (j : Int) := by
      unfold rangeL
      rw [List.getElem?_map, List.getElem?_range hj]
      show some (0 + (j : Int)) = _
      congr 1; omega
    rw [this, List.length_map, rangeL_len]
    by_cases e : i.toNat = j
    · rw [if_pos e, if_pos (by omega)]
      show some a = some (if (j : Int) = i then a else f (j : Int))
      rw [if_pos (by omega)]
    · rw [if_neg e]
      show some (f (j : Int)) = some (if (j : Int) = i then a else f (j : Int))
      rw [if_neg (by omega)]
  · have : (rangeL 0 n)[j]? = none := List.getElem?_eq_none (by rw [rangeL_len]; omega)
    rw [this, if_neg (by omega)]; rfl
end G

namespace G
open PySem PySem.Spec PyProof.Rows L2
theorem Reach.trans {nb : Int → List Int} {okb : Int → Bool} {a b c : Int} (h1 : G.Reach nb okb a b) (h2 : G.Reach nb okb b c) : G.Reach nb okb a c := by
  induction h2 with
  | here => exact h1
  | on _ m o ih => exact .on ih m o
theorem Reach.ok {nb : Int → List Int} {okb : Int → Bool} {a b : Int} (h : G.Reach nb okb a b) (ha : okb a = true) : okb b = true := by
  cases h with
  | here => exact ha
  | on _ _ o => exact o
theorem Reach.symm {nb : Int → List Int} {okb : Int → Bool} (hs : ∀ x y, y ∈ nb x → x ∈ nb y) {a b : Int} (ha : okb a = true) (h : G.Reach nb okb a b) : G.Reach nb okb b a := by
  induction h with
  | here => exact .here
  | on r m o ih => exact Reach.trans (.on .here (hs _ _ m) (Reach.ok r ha)) ih
theorem nextL_symm {w : Int × Tup (Int × Int)} (h : WebOk w) (x y : Int) (m : y ∈ nextL w x) : x ∈ nextL w y := (mem_nextL h).mpr (tied_symm.mp ((mem_nextL h).mp m))
theorem Reach.range {w : Int × Tup (Int × Int)} (h : WebOk w) {okb : Int → Bool} {k x : Int} (hk : 0 ≤ k ∧ k < w.1) (r : G.Reach (nextL w) okb k x) : 0 ≤ x ∧ x < w.1 := by
  cases r with
  | here => exact hk
  | on _ m _ => exact (nextL_rise w (by have := h.n1; omega) _).2 x m
theorem bfs2 {D : Type} (J : D → List Int → Prop) {nb : Int → List Int} {okb : Int → Bool} {k n : Int} {c : D × List Int × Int → Res Bool} {f : D × List Int × Int → Res (D × List Int × Int)} {d0 : D} (hn : n ≤ 40) (hk : 0 ≤ k ∧ k < n) (hnb : ∀ x, 0 ≤ x → x < n → ∀ y ∈ nb x, 0 ≤ y ∧ y < n) (h0 : J d0 [k])
    (hc : ∀ d s (i : Nat), c (d, s, (i : Int)) = .ok (decide ((i : Int) < (s.length : Int)))) (hf : ∀ d s (i : Nat) x, s[i]? = some x → J d s → s.length ≤ 40 → (∀ y ∈ s, 0 ≤ y ∧ y < n) → ∃ d', f (d, s, (i : Int)) = .ok (d', grow okb s (nb x), (i : Int) + 1) ∧ J d' (grow okb s (nb x))) :
    Sat (whileR c f 64 (d0, [k], 0)) (fun s => s.2.1.Nodup ∧ (∀ x ∈ s.2.1, 0 ≤ x ∧ x < n) ∧ ∀ x, x ∈ s.2.1 ↔ G.Reach nb okb k x) := by
  have hn0 : 0 ≤ n := by omega
  refine Sat.while (fun i s => J s.1 s.2.1 ∧ s.2.2 = (i : Int) ∧ i ≤ s.2.1.length ∧ s.2.1.Nodup ∧ (∀ x ∈ s.2.1, 0 ≤ x ∧ x < n) ∧ (∀ x ∈ s.2.1, G.Reach nb okb k x) ∧ k ∈ s.2.1 ∧ ∀ j x, j < i → s.2.1[j]? = some x → ∀ y ∈ nb x, okb y = true → y ∈ s.2.1) ?_ 64 0 (d0, [k], 0) ?_
    ⟨h0, rfl, Nat.zero_le _, by simp, (fun x m => by cases List.mem_singleton.mp m; exact hk), (fun x m => by cases List.mem_singleton.mp m; exact .here), by simp, fun j x h => by omega⟩
  · rintro i ⟨d, s, at'⟩ ⟨hJ, e, hi, nd, rg, rc, ks, cl⟩
    have hJ : J d s := hJ
    have hi : i ≤ s.length := hi
    have nd' : s.Nodup := nd
    clear nd
    have nd := nd'
    have rg : ∀ x ∈ s, 0 ≤ x ∧ x < n := rg
    have rc : ∀ x ∈ s, G.Reach nb okb k x := rc
    have ks : k ∈ s := ks
    have cl : ∀ j x, j < i → s[j]? = some x → ∀ y ∈ nb x, okb y = true → y ∈ s := cl
    have e : at' = (i : Int) := e
    subst e
    have hl : s.length ≤ 40 := by
      have h40 : s.length ≤ n.toNat := nodup_len n.toNat nd fun x m => by have := rg x m; omega
      omega
    refine ⟨_, hc d s i, fun h => ?_, fun h => ?_⟩
    · have hlt : i < s.length := by have := of_decide_eq_true h; omega
      have gx := get_of hlt
      have rx := rg s[i] (List.getElem_mem _)
      obtain ⟨d', ef, hJ'⟩ := hf d s i _ gx hJ hl rg
      refine .of_eq ef ⟨hJ', rfl, ?_, grow_nodup nd, fun x m => ?_, fun x m => ?_, mem_grow.mpr (.inl ks), fun j x hj hx y my oy => ?_⟩
      · have := grow_pre (okb := okb) (as := nb s[i]) (s := s) |>.length_le
        show i + 1 ≤ (grow okb s (nb s[i])).length
        omega
      · rcases mem_grow.mp m with m | m
        · exact rg x m
        · exact hnb _ rx.1 rx.2 x m.1
      · rcases mem_grow.mp m with m | m
        · exact rc x m
        · exact .on (rc _ (List.getElem_mem hlt)) m.1 m.2
      · have hx : (grow okb s (nb s[i]))[j]? = some x := hx
        have hpre := grow_pre (okb := okb) (as := nb s[i]) (s := s)
        have hjs : s[j]? = some x := by
          obtain ⟨t, ht⟩ := hpre
          rw [← ht, List.getElem?_append_left (by omega)] at hx
          exact hx
        by_cases e : j = i
        · subst e
          rw [gx] at hjs
          cases hjs
          exact mem_grow.mpr (.inr ⟨my, oy⟩)
        · exact mem_grow.mpr (.inl (cl j x (by omega) hjs y my oy))
    · refine ⟨nd, rg, fun x => ⟨rc x, fun r => ?_⟩⟩
      have hge : s.length ≤ i := by have := of_decide_eq_false h; omega
      show x ∈ s
      induction r with
      | here => exact ks
      | on r my oy ih =>
        have ih : _ ∈ s := ih
        obtain ⟨j, hj⟩ := List.getElem?_of_mem ih
        have := (List.getElem?_eq_some_iff.mp hj).1
        exact cl j _ (by omega) hj _ my oy
  · rintro i s ⟨_, e, hi, nd, rg, _⟩
    have := nodup_len n.toNat nd fun x m => by have := rg x m; omega
    omega
theorem dhas_put {κ β : Type} [DecidableEq κ] (d : Dic κ β) (k : κ) (v : β) (x : κ) : dhas (dput d k v) x = (decide (x = k) || dhas d x) := by
  rw [dhas_keys, dhas_keys, Bool.eq_iff_iff, decide_eq_true_iff, put_mem, Bool.or_eq_true, decide_eq_true_iff, decide_eq_true_iff]
theorem foldR_put {s : Dic Int Bool} {xs : List Int} (hl : s.l.length + xs.length ≤ 1000000) : Sat (foldR (fun (s3 : (Dic Int Bool)) (a4 : Int) => (Res.bind (dputR s3 a4 true) fun inside5 => (Res.ok inside5))) s xs) (fun d => d.l.length ≤ s.l.length + xs.length ∧ ∀ x, dhas d x = (decide (x ∈ xs) || dhas s x)) := by
  refine (Sat.foldR (fun i d => d.l.length ≤ s.l.length + i ∧ ∀ x, dhas d x = (decide (x ∈ xs.take i) || dhas s x)) ⟨Nat.le_refl _, fun x => by simp⟩ ?_).imp fun d ⟨h1, h2⟩ => ⟨h1, fun x => by rw [h2, List.take_length]⟩
  rintro i d a ha ⟨h1, h2⟩
  have hi := (List.getElem?_eq_some_iff.mp ha).1
  refine .bput (by omega) (.ok ⟨Nat.le_trans (put_len _ _ _) (by omega), fun x => ?_⟩)
  rw [dhas_put, h2, List.take_succ, ha]
  by_cases e : x = a
  · simp [e]
  · simp [e]
theorem dget_put {κ β : Type} [DecidableEq κ] (d : Dic κ β) (k : κ) (v : β) (x : κ) : dget (dput d k v) x = if x = k then some v else dget d x := by
  have hf : ∀ l : List (κ × β), (l.map fun kv => if kv.1 = k then (kv.1, v) else kv).find? (fun kv => decide (kv.1 = x)) = ((l.find? fun kv => decide (kv.1 = x)).map fun kv => if kv.1 = k then (kv.1, v) else kv) := by
    intro l
    induction l with
    | nil => rfl
    | cons a l ih =>
      rw [List.map_cons, List.find?_cons, List.find?_cons]
      have e : (if a.1 = k then (a.1, v) else a).1 = a.1 := by split <;> rfl
      rw [e]
      by_cases h : a.1 = x
      · rw [decide_eq_true h]; rfl
      · rw [decide_eq_false h]; exact ih
  unfold dput dget
  by_cases hk : dhas d k = true
  · rw [if_pos hk]
    show Option.map (fun z : κ × β => z.2) ((d.l.map fun kv => if kv.1 = k then (kv.1, v) else kv).find? fun kv => decide (kv.1 = x)) = _
    rw [hf, Option.map_map]
    by_cases e : x = k
    · subst e
      rw [if_pos rfl]
      have : (dget d x).isSome = true := by rw [dget_isSome]; exact hk
      unfold dget at this
      cases h : d.l.find? (fun kv => decide (kv.1 = x)) with
      | none => rw [h] at this; cases this
      | some kv =>
        have := List.find?_some h
        have : kv.1 = x := of_decide_eq_true this
        show some (if kv.1 = x then (kv.1, v) else kv).2 = _
        rw [if_pos this]
    · rw [if_neg e]
      cases h : d.l.find? (fun kv => decide (kv.1 = x)) with
      | none => rfl
      | some kv =>
        have hz := List.find?_some h
        have : kv.1 = x := of_decide_eq_true hz
        show some (if kv.1 = k then (kv.1, v) else kv).2 = some kv.2
        rw [if_neg (by rw [this]; exact e)]
  · rw [if_neg hk]
    show Option.map (fun z : κ × β => z.2) ((d.l ++ [(k, v)]).find? fun kv => decide (kv.1 = x)) = _
    rw [List.find?_append]
    by_cases e : x = k
    · subst e
      rw [if_pos rfl]
      have : (dget d x) = none := by
        have h := dget_isSome d x
        cases e : dget d x with
        | none => rfl
        | some _ => rw [e] at h; rw [← h] at hk; exact (hk rfl).elim
      unfold dget at this
      cases h : d.l.find? (fun kv => decide (kv.1 = x)) with
      | none =>
        rw [Option.none_or, List.find?_cons, decide_eq_true rfl]; rfl
      | some kv => rw [h] at this; cases this
    · rw [if_neg e]
      cases h : d.l.find? (fun kv => decide (kv.1 = x)) with
      | none =>
        rw [Option.none_or, List.find?_cons, decide_eq_false (fun h => e h.symm)]; rfl
      | some kv => rfl
noncomputable def PL (w : Int × Tup (Int × Int)) (ok : Int → Bool) (k : Int) : List Int := (rangeL 0 w.1.toNat).filter fun x => @decide (G.Reach (nextL w) ok k x) (Classical.propDecidable _)
section
variable {w : Int × Tup (Int × Int)} {ok : Int → Bool}
open Classical in
theorem mem_PL (h : WebOk w) {k x : Int} (hk : 0 ≤ k ∧ k < w.1) : x ∈ PL w ok k ↔ G.Reach (nextL w) ok k x := by
  unfold PL
  rw [List.mem_filter, mem_rangeL]
  rw [@decide_eq_true_iff _ (Classical.propDecidable _)]
  exact ⟨fun h => h.2, fun r => ⟨by have := Reach.range h hk r; have := h.n1; omega, r⟩⟩
theorem PL_rise (h : WebOk w) (k : Int) : Rise w.1 (PL w ok k) := ⟨(rangeL_rise _).filter _, fun x m => by
  have := mem_rangeL.mp (List.mem_filter.mp m).1
  have := h.n1
  omega⟩
theorem PL_len (h : WebOk w) (k : Int) : (PL w ok k).length ≤ 40 := by
  unfold PL
  refine Nat.le_trans (List.length_filter_le _ _) ?_
  rw [rangeL_len]
  have := h.n2
  omega
theorem PL_self (h : WebOk w) {k : Int} (hk : 0 ≤ k ∧ k < w.1) : k ∈ PL w ok k := (mem_PL h hk).mpr .here
theorem PL_eq (h : WebOk w) {k x : Int} (hk : 0 ≤ k ∧ k < w.1) (ho : ok k = true) (m : x ∈ PL w ok k) : PL w ok x = PL w ok k := by
  have r := (mem_PL h hk).mp m
  have hx := Reach.range h hk r
  have r' := Reach.symm (nextL_symm h) ho r
  refine rise_ext (PL_rise h x).1 (PL_rise h k).1 fun y => ?_
  rw [mem_PL h hx, mem_PL h hk]
  exact ⟨fun z => Reach.trans r z, fun z => Reach.trans r' z⟩
theorem PL_ok (h : WebOk w) {k x : Int} (hk : 0 ≤ k ∧ k < w.1) (ho : ok k = true) (m : x ∈ PL w ok k) : ok x = true := Reach.ok ((mem_PL h hk).mp m) ho
noncomputable def isrep (w : Int × Tup (Int × Int)) (ok : Int → Bool) (k : Int) : Bool := ok k && (PL w ok k).all fun x => decide (k ≤ x)
theorem isrep_iff {k : Int} : isrep w ok k = true ↔ ok k = true ∧ ∀ x ∈ PL w ok k, k ≤ x := by
  unfold isrep
  rw [Bool.and_eq_true, List.all_eq_true]
  exact ⟨fun ⟨a, b⟩ => ⟨a, fun x m => of_decide_eq_true (b x m)⟩, fun ⟨a, b⟩ => ⟨a, fun x m => decide_eq_true (b x m)⟩⟩
theorem rep_uniq (h : WebOk w) {r r' x : Int} (hr : 0 ≤ r ∧ r < w.1) (hr' : 0 ≤ r' ∧ r' < w.1) (i : isrep w ok r = true) (i' : isrep w ok r' = true) (m : x ∈ PL w ok r) (m' : x ∈ PL w ok r') : r = r' := by
  obtain ⟨o, l⟩ := isrep_iff.mp i
  obtain ⟨o', l'⟩ := isrep_iff.mp i'
  have e := (PL_eq h hr o m).symm.trans (PL_eq h hr' o' m')
  have a := l r' (by rw [e]; exact PL_self h hr')
  have b := l' r (by rw [← e]; exact PL_self h hr)
  omega
theorem has_rep (h : WebOk w) {k : Int} (hk : 0 ≤ k ∧ k < w.1) (ho : ok k = true) : ∃ r, (0 ≤ r ∧ r < w.1) ∧ isrep w ok r = true ∧ k ∈ PL w ok r ∧ r ≤ k := by
  have hs := PL_self (ok := ok) h hk
  have hne : PL w ok k ≠ [] := fun e => by rw [e] at hs; cases hs
  have m := minL_mem hne
  have hl : ∀ x ∈ PL w ok k, minL (PL w ok k) ≤ x := fun x m => minL_le m
  have hr := (PL_rise (ok := ok) h k).2 _ m
  have e := PL_eq h hk ho m
  refine ⟨_, hr, isrep_iff.mpr ⟨PL_ok h hk ho m, fun x mx => hl x (by rw [e] at mx; exact mx)⟩, by rw [e]; exact hs, hl _ hs⟩
theorem PL_head (h : WebOk w) {k : Int} (hk : 0 ≤ k ∧ k < w.1) (i : isrep w ok k = true) : (PL w ok k)[0]? = some k := by
  obtain ⟨o, l⟩ := isrep_iff.mp i
  have hs := PL_self (ok := ok) h hk
  have hr := (PL_rise (ok := ok) h k).1
  cases e : PL w ok k with
  | nil => rw [e] at hs; cases hs
  | cons a r =>
    rw [e] at hs hr l
    rcases List.mem_cons.mp hs with z | z
    · rw [z]; rfl
    · have := (List.pairwise_cons.mp hr).1 k z
      have := l a List.mem_cons_self
      omega
noncomputable def reps (w : Int × Tup (Int × Int)) (ok : Int → Bool) (i : Nat) : List Int := (rangeL 0 i).filter (isrep w ok)
noncomputable def PS (w : Int × Tup (Int × Int)) (ok : Int → Bool) : List (List Int) := (reps w ok w.1.toNat).map (PL w ok)
theorem rangeL_succ (i : Nat) : rangeL 0 (i + 1) = rangeL 0 i ++ [(i : Int)] := by
  unfold rangeL
  rw [List.range_succ, List.map_append]
  simp
theorem reps_succ (i : Nat) : reps w ok (i + 1) = if isrep w ok (i : Int) = true then reps w ok i ++ [(i : Int)] else reps w ok i := by
  unfold reps
  rw [rangeL_succ, List.filter_append, List.filter_cons]
  split <;> simp
theorem mem_reps {i : Nat} {r : Int} : r ∈ reps w ok i ↔ (0 ≤ r ∧ r < i) ∧ isrep w ok r = true := by
  unfold reps
  rw [List.mem_filter, mem_rangeL]
theorem reps_len (i : Nat) : (reps w ok i).length ≤ i := by
  unfold reps
  exact Nat.le_trans (List.length_filter_le _ _) (by rw [rangeL_len]; exact Nat.le_refl _)
theorem seen_iff (h : WebOk w) {i : Nat} (hi : i < w.1.toNat) (ho : ok (i : Int) = true) : isrep w ok (i : Int) = true ↔ ¬ ∃ r ∈ reps w ok i, (i : Int) ∈ PL w ok r := by
  have n1 := h.n1
  have hk : 0 ≤ (i : Int) ∧ (i : Int) < w.1 := by omega
  constructor
  · rintro hr ⟨r, mr, m⟩
    obtain ⟨⟨r0, r1⟩, ir⟩ := mem_reps.mp mr
    have := rep_uniq h ⟨r0, by omega⟩ hk ir hr m (PL_self h hk)
    omega
  · intro hn
    obtain ⟨r, hr, ir, m, le⟩ := has_rep h hk ho
    by_cases e : r = (i : Int)
    · rw [← e]; exact ir
    · exact (hn ⟨r, mem_reps.mpr ⟨⟨hr.1, by omega⟩, ir⟩, m⟩).elim
end
end G

namespace G
open PySem PySem.Spec PyProof.Rows L2
theorem cps_app (x y : Str) : (x ++ y).cps.toList = x.cps.toList ++ y.cps.toList := by
  show (x.cps ++ y.cps).toList = _
  exact Array.toList_append
def cpOf (b : Str) (k : Int) : Nat := b.cps.toList.getD k.toNat 0
theorem sgn_eq {b : Str} {k : Int} {c : Nat} : sgn b k = ⟨#[c]⟩ ↔ cpOf b k = c := by
  unfold sgn cpOf
  constructor
  · intro h
    injection h with h
    have := congrArg (fun a : Array Nat => a.toList) h
    simpa using this
  · intro h; rw [h]
theorem join_cps : ∀ l : List Str, (Txt.join (PySem.Str.ofString "") l).cps.toList = l.flatMap fun x => x.cps.toList := by
  have e : ∀ l : List Str, Txt.join (PySem.Str.ofString "") l = Str.join (PySem.Str.ofString "") l := fun l => by
    show Builtin.Str.glued _ _ = _
    rw [StrLaws.glued_eq_join]
  intro l
  rw [e]
  induction l with
  | nil => rfl
  | cons a l ih =>
    cases l with
    | nil => show a.cps.toList = _; simp
    | cons b l =>
      rw [show Str.join (PySem.Str.ofString "") (a :: b :: l) = a ++ PySem.Str.ofString "" ++ Str.join (PySem.Str.ofString "") (b :: l) from rfl, cps_app, cps_app, ih]
      have : (PySem.Str.ofString "").cps.toList = [] := by decide
      rw [this, List.append_nil]; rfl
end G

namespace G
open PySem PySem.Spec PyProof.Rows L2
theorem cutS_len (z : Str) (lo hi : Option Int) : (cutS z lo hi).length ≤ z.length := by
  unfold cutS
  show (Array.size (List.toArray _)) ≤ z.cps.size
  rw [List.size_toArray, List.length_take, List.length_drop, Array.length_toList]
  omega
theorem listS_ok {x : Str} (h : x.length ≤ 1000000) : listS x = .ok (signsOf x) := guardR_of (decide_eq_true h)
theorem strLen_ok {x : Str} (h : x.length ≤ 1000000) : strLen x = .ok (x.length : Int) := guardR_of (decide_eq_true h)
theorem cut_from {α : Type} (xs : List α) (k : Nat) : cut xs (some (k : Int)) none = xs.drop k := by
  unfold cut
  rw [HT.sIx_nat, HT.sIx_none]
  by_cases h : k ≤ xs.length
  · rw [Nat.min_eq_left h, List.take_of_length_le (by rw [List.length_drop]; exact Nat.le_refl _)]
  · rw [Nat.min_eq_right (by omega), List.drop_eq_nil_of_le (Nat.le_refl _), List.drop_eq_nil_of_le (by omega)]; simp
theorem cut_upto {α : Type} (xs : List α) (k : Nat) : cut xs none (some (k : Int)) = xs.take k := by
  unfold cut
  rw [HT.sIx_nat, HT.sIx_none, List.drop_zero, Nat.sub_zero]
  by_cases h : k ≤ xs.length
  · rw [Nat.min_eq_left h]
  · rw [Nat.min_eq_right (by omega), List.take_of_length_le (Nat.le_refl _), List.take_of_length_le (by omega)]
end G

namespace G
open PySem PySem.Spec PyProof.Rows L2
def nextsL (w : Int × Tup (Int × Int)) : List (List Int) := (rangeL 0 w.1.toNat).map (nextL w)
def Chain (w : Int × Tup (Int × Int)) (b : Str) (k : Int) (l : List Int) : Prop := Rise w.1 l ∧ l.length ≤ 40 ∧ ∀ x, x ∈ l ↔ Reach (nextL w) (fun y => decide (sgn b y = sgn b k)) k x
theorem chain_of_bfs {w : Int × Tup (Int × Int)} (h : WebOk w) {b : Str} {k : Int} {s : List Int} (h1 : s.Nodup) (h2 : ∀ x ∈ s, 0 ≤ x ∧ x < w.1) (h3 : ∀ x, x ∈ s ↔ Reach (nextL w) (fun y => decide (sgn b y = sgn b k)) k x) : Chain w b k (sortI s) := by
  have n1 := h.n1
  have n2 := h.n2
  refine ⟨⟨sortI_rise h1, fun x m => h2 x (mem_sortI.mp m)⟩, ?_, fun x => by rw [mem_sortI, h3]⟩
  rw [(sortI_perm s).length_eq]
  have : s.length ≤ w.1.toNat := nodup_len _ h1 fun x m => by have := h2 x m; omega
  omega
theorem inner {w : Int × Tup (Int × Int)} (h : WebOk w) {b : Str} (hb : b.length = w.1.toNat) {k x : Int} (hk : 0 ≤ k ∧ k < w.1) {s : List Int} (hs : s.length ≤ 40) :
    foldR (fun (s11 : (List Int)) (a12 : Int) => (Res.bind (Res.bind (Res.bind (Res.bind (strIx b a12) fun v13 => (Res.bind (strIx b k) fun v14 => (Res.ok (ScaEq.eq v13 v14)))) fun v15 => (if v15 then (Res.ok (!decide (a12 ∈ s11))) else (Res.ok false))) fun v18 => (if v18 then (Res.bind (appR s11 a12) fun found17 => (Res.ok found17)) else (Res.ok s11))) fun s16 => (Res.ok s16))) s (nextL w x) = .ok (grow (fun y => decide (sgn b y = sgn b k)) s (nextL w x)) := by
  have n1 := h.n1
  have n2 := h.n2
  have hn := nextL_len w h x
  refine foldR_grow (fun a ha s hs => ?_) (by omega)
  have ra := (nextL_rise w (by omega) x).2 a ha
  rw [strIx_sgn (by omega) ra.1 (by omega), strIx_sgn (by omega) hk.1 (by omega)]
  simp only [Res.okb, eqSS]
  by_cases e : sgn b a = sgn b k
  · by_cases m : a ∈ s
    · simp [e, m]
    · simp only [e, decide_true, if_true, m, decide_false, Bool.not_false, Res.okb, not_false_eq_true, and_self]
      rw [appR_ok (by omega)]; rfl
  · simp [e]
def Breath (w : Int × Tup (Int × Int)) (b : Str) (ch l : List Int) : Prop := Rise w.1 l ∧ l.length ≤ 40 ∧ ∀ x, x ∈ l ↔ (∃ c ∈ ch, x ∈ nextL w c) ∧ sgn b x = PySem.Str.ofString "."
theorem breath_of {w : Int × Tup (Int × Int)} (h : WebOk w) {b : Str} {ch s : List Int} (h1 : s.Nodup) (h2 : ∀ x ∈ s, 0 ≤ x ∧ x < w.1) (h3 : ∀ x, x ∈ s ↔ (∃ c ∈ ch, x ∈ nextL w c) ∧ sgn b x = PySem.Str.ofString ".") : Breath w b ch (sortI s) := by
  have n1 := h.n1
  have n2 := h.n2
  refine ⟨⟨sortI_rise h1, fun x m => h2 x (mem_sortI.mp m)⟩, ?_, fun x => by rw [mem_sortI, h3]⟩
  rw [(sortI_perm s).length_eq]
  have : s.length ≤ w.1.toNat := nodup_len _ h1 fun x m => by have := h2 x m; omega
  omega
abbrev dotb (b : Str) : Int → Bool := fun y => decide (sgn b y = PySem.Str.ofString ".")
theorem grow_step (w : Int × Tup (Int × Int)) (h : WebOk w) (b : Str) {ch : List Int} {i : Nat} {k : Int} (hk : ch[i]? = some k) {s : List Int} (h1 : s.Nodup) (h2 : ∀ x ∈ s, 0 ≤ x ∧ x < w.1) (h3 : ∀ x, x ∈ s ↔ (∃ c ∈ ch.take i, x ∈ nextL w c) ∧ sgn b x = PySem.Str.ofString ".") :
    (grow (dotb b) s (nextL w k)).Nodup ∧ (∀ x ∈ grow (dotb b) s (nextL w k), 0 ≤ x ∧ x < w.1) ∧ ∀ x, x ∈ grow (dotb b) s (nextL w k) ↔ (∃ c ∈ ch.take (i + 1), x ∈ nextL w c) ∧ sgn b x = PySem.Str.ofString "." := by
  have n1 := h.n1
  refine ⟨grow_nodup h1, fun x m => ?_, fun x => ?_⟩
  · rcases mem_grow.mp m with m | m
    · exact h2 x m
    · exact (nextL_rise w (by omega) k).2 x m.1
  · rw [mem_grow, h3, List.take_succ, hk]
    unfold dotb
    rw [decide_eq_true_iff]
    constructor
    · rintro (⟨⟨c, m, e⟩, d⟩ | ⟨m, d⟩)
      · exact ⟨⟨c, List.mem_append_left _ m, e⟩, d⟩
      · exact ⟨⟨k, by simp, m⟩, d⟩
    · rintro ⟨⟨c, m, e⟩, d⟩
      rcases List.mem_append.mp m with m | m
      · exact .inl ⟨⟨c, m, e⟩, d⟩
      · have : c = k := by simpa using m
        subst this
        exact .inr ⟨e, d⟩
theorem filt_grow {okb : Int → Bool} : ∀ {as : List Int} {s t : List Int}, as.Nodup → (∀ x ∈ as, x ∈ t ↔ x ∈ s) → grow okb t as = t ++ as.filter (fun x => okb x && !decide (x ∈ s))
  | [], s, t, _, _ => by unfold grow; simp
  | a :: as, s, t, nd, e => by
    obtain ⟨n1, n2⟩ := List.nodup_cons.mp nd
    unfold grow
    have ea := e a List.mem_cons_self
    by_cases h : okb a = true ∧ a ∉ t
    · rw [if_pos h, filt_grow (s := s) n2 fun x m => by
        rw [List.mem_append, List.mem_singleton]
        constructor
        · rintro (z | rfl)
          · exact (e x (List.mem_cons_of_mem _ m)).mp z
          · exact (n1 m).elim
        · exact fun z => .inl ((e x (List.mem_cons_of_mem _ m)).mpr z)]
      have h2 : a ∉ s := fun z => h.2 (ea.mpr z)
      rw [List.filter_cons, if_pos (by simp [h.1, h2])]
      simp
    · rw [if_neg h, filt_grow (s := s) n2 fun x m => e x (List.mem_cons_of_mem _ m)]
      rw [List.filter_cons, if_neg]
      simp only [Bool.and_eq_true, Bool.not_eq_true', decide_eq_false_iff_not, not_and]
      intro h1 h2
      exact h ⟨h1, fun z => h2 (ea.mp z)⟩
abbrev dot : Str := PySem.Str.ofString "."
abbrev xS : Str := PySem.Str.ofString "x"
abbrev oS : Str := PySem.Str.ofString "o"
def adj (w : Int × Tup (Int × Int)) (b : Str) (z : Str) (p : List Int) : Bool := p.any fun k => (nextL w k).any fun y => decide (sgn b y = z)
def handsOf (w : Int × Tup (Int × Int)) (b : Str) (p : List Int) : Str := Txt.join (PySem.Str.ofString "") ([xS, oS].filter fun z => adj w b z p)
def emp (w : Int × Tup (Int × Int)) (b : Str) : List Int := (rangeL 0 w.1.toNat).filter fun k => decide (sgn b k = dot)
def signOk (b : Str) : Prop := ∀ c ∈ b.cps.toList, c = 46 ∨ c = 120 ∨ c = 111
def putL (b : Str) (some' : List Int) (c : Nat) : Str := ⟨((rangeL 0 b.length).map fun k => if k ∈ some' then c else cpOf b k).toArray⟩
theorem putL_cps (b : Str) (some' : List Int) (c : Nat) : (putL b some' c).cps.toList = (rangeL 0 b.length).map fun k => if k ∈ some' then c else cpOf b k := by unfold putL; simp
theorem putL_len (b : Str) (some' : List Int) (c : Nat) : (putL b some' c).length = b.length := by
  show (putL b some' c).cps.size = _
  rw [← Array.length_toList, putL_cps, List.length_map, rangeL_len]
theorem rangeL_at {n : Nat} {k : Int} (h0 : 0 ≤ k) (h1 : k < n) : (rangeL 0 n)[k.toNat]? = some k := by
  have h : k.toNat < (rangeL 0 n).length := by rw [rangeL_len]; omega
  have := (rangeL0 (get_of h)).2
  rw [get_of h, this]
  congr 1; omega
theorem putL_at {b : Str} {some' : List Int} {c : Nat} {k : Int} (h0 : 0 ≤ k) (h1 : k < b.length) : cpOf (putL b some' c) k = if k ∈ some' then c else cpOf b k := by
  unfold cpOf
  rw [putL_cps, List.getD_eq_getElem?_getD, List.getElem?_map, rangeL_at h0 h1]; rfl
theorem sgn_cp {b : Str} {k : Int} : sgn b k = ⟨#[cpOf b k]⟩ := rfl
theorem str1_inj {c d : Nat} : (⟨#[c]⟩ : Str) = ⟨#[d]⟩ ↔ c = d := by simp
theorem sgn_iff {b b' : Str} {k k' : Int} : sgn b k = sgn b' k' ↔ cpOf b k = cpOf b' k' := by rw [sgn_cp, sgn_cp, str1_inj]
theorem dot_eq : dot = ⟨#[46]⟩ := by decide
theorem signOk_at {b : Str} (h : signOk b) {k : Int} (h0 : 0 ≤ k) (h1 : k < b.length) : cpOf b k = 46 ∨ cpOf b k = 120 ∨ cpOf b k = 111 := by
  have hl : k.toNat < b.cps.toList.length := by rw [Array.length_toList]; show k.toNat < b.length; omega
  have : cpOf b k = b.cps.toList[k.toNat] := by unfold cpOf; rw [List.getD_eq_getElem?_getD, get_of hl]; rfl
  rw [this]
  exact h _ (List.getElem_mem hl)
theorem putL_ok {b : Str} (h : signOk b) (some' : List Int) {c : Nat} (hc : c = 46 ∨ c = 120 ∨ c = 111) : signOk (putL b some' c) := fun d m => by
  rw [putL_cps] at m
  obtain ⟨k, mk, rfl⟩ := List.mem_map.mp m
  have := mem_rangeL.mp mk
  split
  · exact hc
  · exact signOk_at h this.1 (by omega)
def Breathes (w : Int × Tup (Int × Int)) (b : Str) (k : Int) : Prop := ∃ x, G.Reach (nextL w) (fun y => decide (sgn b y = sgn b k)) k x ∧ ∃ y ∈ nextL w x, sgn b y = dot
noncomputable def breathB (w : Int × Tup (Int × Int)) (b : Str) (k : Int) : Bool := @decide (Breathes w b k) (Classical.propDecidable _)
theorem breathB_iff {w : Int × Tup (Int × Int)} {b : Str} {k : Int} : breathB w b k = true ↔ Breathes w b k := by unfold breathB; exact @decide_eq_true_iff _ (Classical.propDecidable _)
def Sound (w : Int × Tup (Int × Int)) (b : Str) : Prop := ∀ k, 0 ≤ k → k < w.1 → sgn b k ≠ dot → Breathes w b k
noncomputable def goneL (w : Int × Tup (Int × Int)) (b : Str) : List Int := (rangeL 0 w.1.toNat).filter fun k => !decide (sgn b k = dot) && !breathB w b k
noncomputable def clearedL (w : Int × Tup (Int × Int)) (b : Str) : Str := putL b (goneL w b) 46
theorem breathes_of {w : Int × Tup (Int × Int)} (h : WebOk w) {b : Str} {k x : Int} (r : G.Reach (nextL w) (fun y => decide (sgn b y = sgn b k)) k x) (hb : Breathes w b k) : Breathes w b x := by
  obtain ⟨z, rz, y, my, hy⟩ := hb
  have ex : sgn b x = sgn b k := by
    have := Reach.ok r (decide_eq_true rfl)
    exact of_decide_eq_true this
  refine ⟨z, ?_, y, my, hy⟩
  rw [ex]
  exact Reach.trans (Reach.symm (nextL_symm h) (decide_eq_true rfl) r) rz
theorem cleared_sound {w : Int × Tup (Int × Int)} (h : WebOk w) {b : Str} (hb : b.length = w.1.toNat) : Sound w (clearedL w b) := by
  intro k h0 h1 hd
  have n1 := h.n1
  have at' : ∀ {x : Int}, 0 ≤ x → x < w.1 → cpOf (clearedL w b) x = if x ∈ goneL w b then 46 else cpOf b x := fun {x} a c => putL_at a (by omega)
  have ng : k ∉ goneL w b := fun m => hd (by rw [dot_eq]; exact sgn_eq.mpr (by rw [at' h0 h1, if_pos m]))
  have ek : cpOf (clearedL w b) k = cpOf b k := by rw [at' h0 h1, if_neg ng]
  have hdb : sgn b k ≠ dot := fun e => hd (by rw [dot_eq] at e ⊢; exact sgn_eq.mpr (by rw [ek]; exact sgn_eq.mp e))
  have br : Breathes w b k := by
    by_cases e : breathB w b k = true
    · exact breathB_iff.mp e
    · refine (ng ?_).elim
      unfold goneL
      refine List.mem_filter.mpr ⟨mem_rangeL.mpr ⟨h0, by omega⟩, ?_⟩
      rw [decide_eq_false hdb]
      simpa using e
  obtain ⟨x, r, y, my, hy⟩ := br
  have stay : ∀ {x : Int}, G.Reach (nextL w) (fun y => decide (sgn b y = sgn b k)) k x → x ∉ goneL w b ∧ cpOf b x = cpOf b k := fun {x} r => by
    have ex : sgn b x = sgn b k := of_decide_eq_true (Reach.ok r (decide_eq_true rfl))
    refine ⟨fun m => ?_, sgn_iff.mp ex⟩
    unfold goneL at m
    have q := (List.mem_filter.mp m).2
    rw [Bool.and_eq_true] at q
    have := breathes_of h r ⟨_, by assumption, y, my, hy⟩
    rw [breathB_iff.mpr this] at q
    exact absurd q.2 (by decide)
  have rr : ∀ {x : Int}, G.Reach (nextL w) (fun y => decide (sgn b y = sgn b k)) k x → G.Reach (nextL w) (fun y => decide (sgn (clearedL w b) y = sgn (clearedL w b) k)) k x := fun {x} r => by
    induction r with
    | here => exact .here
    | on r m o ih =>
      refine .on ih m (decide_eq_true (sgn_iff.mpr ?_))
      have s := stay (.on r m o)
      have rg := Reach.range h ⟨h0, h1⟩ (.on r m o)
      rw [at' rg.1 rg.2, if_neg s.1, ek, s.2]
  have ry := (nextL_rise w (by omega) x).2 y my
  refine ⟨x, rr r, y, my, ?_⟩
  rw [dot_eq] at hy ⊢
  refine sgn_eq.mpr ?_
  rw [at' ry.1 ry.2]
  split
  · rfl
  · exact sgn_eq.mp hy
def swap (c : Nat) : Nat := if c = 120 then 111 else if c = 111 then 120 else c
abbrev XD : Dic Str Str := dofL (((PySem.Str.ofString "x"), (PySem.Str.ofString "o")) :: (((PySem.Str.ofString "o"), (PySem.Str.ofString "x")) :: (((PySem.Str.ofString "."), (PySem.Str.ofString ".")) :: [])))
end G

namespace G
open PySem PySem.Spec PyProof.Rows L2
theorem eqD_lay {α : Type} [Enc α] [Dat α] [DatEq α] [DecidableEq α] {a b : α} (ha : Dat.lay a = true) (hb : Dat.lay b = true) : eqD a b = .ok (decide (a = b)) := by
  unfold eqD
  rw [ha, hb]
  show Res.ok _ = _
  congr 1
  by_cases e : a = b
  · rw [decide_eq_true e]; exact (DatEq.iff a b).mpr e
  · rw [decide_eq_false e]
    cases q : PyData.eqv (Dat.py a) (Dat.py b) with
    | false => rfl
    | true => exact absurd ((DatEq.iff a b).mp q) e
theorem neD_lay {α : Type} [Enc α] [Dat α] [DatEq α] [DecidableEq α] {a b : α} (ha : Dat.lay a = true) (hb : Dat.lay b = true) : neD a b = .ok (!decide (a = b)) := by
  have h := eqD_lay ha hb
  unfold eqD at h
  unfold neD
  rw [ha, hb] at h ⊢
  have h : Res.ok _ = Res.ok _ := h
  injection h with h
  show Res.ok _ = _
  rw [h]
theorem strOk_of {b : Str} (h : ∀ c ∈ b.cps.toList, c < 128) : PyData.strOk b = true := by
  unfold PyData.strOk
  rw [← Array.all_toList, List.all_eq_true]
  intro c m
  have := h c m
  exact decide_eq_true (by omega)
def shT (n : Int) (t : Int × Int) : Int × Int := (t.1 + n, t.2 + n)
def besW (w1 w2 : Int × Tup (Int × Int)) : Int × Tup (Int × Int) := (w1.1 + w2.1, ⟨w1.2.l ++ w2.2.l.map (shT w1.1)⟩)
section
variable {w1 w2 : Int × Tup (Int × Int)}
def mvL (n : Int) (l : List Int) : List Int := l.map fun x => x + n
variable (h1 : WebOk w1) (h2 : WebOk w2) (hU : WebOk (besW w1 w2))
include h1 h2 hU
variable {ok ok1 ok2 : Int → Bool} (o1 : ∀ x, 0 ≤ x → x < w1.1 → ok x = ok1 x) (o2 : ∀ x, 0 ≤ x → x < w2.1 → ok (x + w1.1) = ok2 x)
include o1 in
include o2 in
include o1 in
include o2 in
include o1 in
include o2 in
omit h1 h2 hU in
include o1 o2 in
end
theorem cp_app1 {b1 b2 : Str} {k : Int} (h0 : 0 ≤ k) (h : k < b1.length) : cpOf (b1 ++ b2) k = cpOf b1 k := by
  have : k.toNat < b1.cps.toList.length := by rw [Array.length_toList]; show k.toNat < b1.length; omega
  unfold cpOf
  rw [cps_app, List.getD_eq_getElem?_getD, List.getD_eq_getElem?_getD, List.getElem?_append_left this]
section
variable {w1 w2 : Int × Tup (Int × Int)} (h1 : WebOk w1) (h2 : WebOk w2) (hU : WebOk (besW w1 w2)) {b1 b2 : Str} (l1 : b1.length = w1.1.toNat) (l2 : b2.length = w2.1.toNat)
include h1 h2 hU l1 l2
end
theorem reach_congrR {w : Int × Tup (Int × Int)} (h : WebOk w) {p q : Int → Bool} (e : ∀ x, 0 ≤ x → x < w.1 → p x = q x) {k x : Int} (r : G.Reach (nextL w) p k x) : G.Reach (nextL w) q k x := by
  induction r with
  | here => exact .here
  | on r m o ih =>
    have rg := (nextL_rise w (by have := h.n1; omega) _).2 _ m
    exact .on ih m (by rw [← e _ rg.1 rg.2]; exact o)
theorem PL_congr {w : Int × Tup (Int × Int)} (h : WebOk w) {p q : Int → Bool} (e : ∀ x, 0 ≤ x → x < w.1 → p x = q x) {k : Int} (hk : 0 ≤ k ∧ k < w.1) : PL w p k = PL w q k := by
  refine rise_ext (PL_rise h k).1 (PL_rise h k).1 fun x => ?_
  rw [mem_PL h hk, mem_PL h hk]
  exact ⟨reach_congrR h e, reach_congrR h fun x a b => (e x a b).symm⟩
theorem isrep_congr {w : Int × Tup (Int × Int)} (h : WebOk w) {p q : Int → Bool} (e : ∀ x, 0 ≤ x → x < w.1 → p x = q x) {k : Int} (hk : 0 ≤ k ∧ k < w.1) : isrep w p k = isrep w q k := by
  unfold isrep
  rw [PL_congr h e hk, e k hk.1 hk.2]
theorem PS_congr {w : Int × Tup (Int × Int)} (h : WebOk w) {p q : Int → Bool} (e : ∀ x, 0 ≤ x → x < w.1 → p x = q x) : PS w p = PS w q := by
  have n1 := h.n1
  unfold PS reps
  rw [List.filter_congr (q := isrep w q) fun k m => isrep_congr h e (by have := mem_rangeL.mp m; omega)]
  exact List.map_congr_left fun k m => PL_congr h e (by have := mem_rangeL.mp (List.mem_filter.mp m).1; omega)
theorem PS_len {w : Int × Tup (Int × Int)} (h : WebOk w) (ok : Int → Bool) : (PS w ok).length ≤ w.1.toNat := by
  unfold PS
  rw [List.length_map]
  exact reps_len _
end G

namespace G
open PySem PySem.Spec PyProof.Rows L2
abbrev LI := List Int
theorem nodup_sub_len {α : Type} [DecidableEq α] : ∀ {l m : List α}, l.Nodup → (∀ x ∈ l, x ∈ m) → l.length ≤ m.length
  | [], _, _, _ => Nat.zero_le _
  | a :: l, m, nd, hs => by
    have ⟨h1, h2⟩ := List.nodup_cons.mp nd
    have ma := hs a List.mem_cons_self
    have := nodup_sub_len (l := l) (m := m.erase a) h2 fun x mx => by
      have ne : x ≠ a := fun e => by subst e; exact h1 mx
      exact (List.mem_erase_of_ne ne).mpr (hs x (List.mem_cons_of_mem _ mx))
    rw [List.length_erase_of_mem ma] at this
    have := List.length_pos_of_mem ma
    rw [List.length_cons]; omega
section
variable (CL YL : List LI) (SV BD : LI → LI → Bool)
def srv (c : LI) (Y : List LI) : Nat := (Y.filter (SV c)).length
def bwi (y : LI) (C : List LI) : Bool := !(CL.filter (BD y)).any fun c => !decide (c ∈ C)
theorem bwi_iff {CL : List LI} {BD : LI → LI → Bool} {y : LI} {C : List LI} : bwi CL BD y C = true ↔ ∀ c ∈ CL, BD y c = true → c ∈ C := by
  unfold bwi
  rw [Bool.not_eq_true', ← Bool.not_eq_true, List.any_eq_true]
  constructor
  · intro h c m e
    by_cases q : c ∈ C
    · exact q
    · exact (h ⟨c, List.mem_filter.mpr ⟨m, e⟩, by simp [q]⟩).elim
  · rintro h ⟨c, m, e⟩
    have := h c (List.mem_filter.mp m).1 (List.mem_filter.mp m).2
    simp [this] at e
structure Lets (C Y : List LI) : Prop where
  c : ∀ x ∈ C, x ∈ CL
  cn : C.Nodup
  y : ∀ x ∈ Y, x ∈ YL
  yn : Y.Nodup
  s : ∀ c ∈ C, 2 ≤ srv SV c Y
  b : ∀ y ∈ Y, bwi CL BD y C = true
structure Great (p : List LI × List LI) : Prop where
  c : p.1.Sublist CL
  y : p.2.Sublist YL
  lets : Lets CL YL SV BD p.1 p.2
  all : ∀ C Y, Lets CL YL SV BD C Y → (∀ x ∈ C, x ∈ p.1) ∧ ∀ x ∈ Y, x ∈ p.2
variable {CL YL SV BD}
theorem srv_mono {c : LI} {Y Z : List LI} (nd : Y.Nodup) (h : ∀ x ∈ Y, x ∈ Z) : srv SV c Y ≤ srv SV c Z := by
  unfold srv
  exact nodup_sub_len (nd.filter _) fun x m => List.mem_filter.mpr ⟨h x (List.mem_filter.mp m).1, (List.mem_filter.mp m).2⟩
def joinB (a b : List LI) : List LI := a ++ b.filter fun x => !decide (x ∈ a)
theorem mem_joinB {a b : List LI} {x : LI} : x ∈ joinB a b ↔ x ∈ a ∨ x ∈ b := by
  unfold joinB
  rw [List.mem_append, List.mem_filter]
  constructor
  · rintro (h | h)
    · exact .inl h
    · exact .inr h.1
  · rintro (h | h)
    · exact .inl h
    · by_cases m : x ∈ a
      · exact .inl m
      · exact .inr ⟨h, by simp [m]⟩
theorem joinB_nodup {a b : List LI} (ha : a.Nodup) (hb : b.Nodup) : (joinB a b).Nodup := by
  unfold joinB
  refine List.nodup_append.mpr ⟨ha, hb.filter _, fun x m y m' e => ?_⟩
  subst e
  have := (List.mem_filter.mp m').2
  simp [m] at this
theorem Lets.join {C Y C' Y' : List LI} (h : Lets CL YL SV BD C Y) (h' : Lets CL YL SV BD C' Y') : Lets CL YL SV BD (joinB C C') (joinB Y Y') where
  c := fun x m => (mem_joinB.mp m).elim (h.c x) (h'.c x)
  cn := joinB_nodup h.cn h'.cn
  y := fun x m => (mem_joinB.mp m).elim (h.y x) (h'.y x)
  yn := joinB_nodup h.yn h'.yn
  s := fun c m => by
    rcases mem_joinB.mp m with m | m
    · exact Nat.le_trans (h.s c m) (srv_mono h.yn fun x mx => mem_joinB.mpr (.inl mx))
    · exact Nat.le_trans (h'.s c m) (srv_mono h'.yn fun x mx => mem_joinB.mpr (.inr mx))
  b := fun y m => by
    rw [bwi_iff]
    intro c mc e
    rcases mem_joinB.mp m with m | m
    · exact mem_joinB.mpr (.inl (bwi_iff.mp (h.b y m) c mc e))
    · exact mem_joinB.mpr (.inr (bwi_iff.mp (h'.b y m) c mc e))
def stC (C Y : List LI) : List LI := C.filter fun c => decide (1 < srv SV c Y)
def stY (C Y : List LI) : List LI := Y.filter fun y => bwi CL BD y C
abbrev GS := Int × List LI × List LI
end
def someBad (ls th : List LI) (a : Int × LI) : Bool := !decide (a.2 ∈ ls) || decide (a.2 ∈ th.take a.1.toNat)
theorem enumL_mem {α : Type} {xs : List α} {a : Int × α} (m : a ∈ enumL xs) : ∃ i : Nat, a.1 = i ∧ xs[i]? = some a.2 := by
  unfold enumL at m
  obtain ⟨i, hi, rfl⟩ := List.mem_mapIdx.mp m
  exact ⟨i, rfl, get_of hi⟩
theorem enumL_len {α : Type} (xs : List α) : (enumL xs).length = xs.length := by unfold enumL; rw [List.length_mapIdx]
end G

namespace G
open PySem PySem.Spec PyProof.Rows L2
def EndsR {S L R : Type} (P : S → Prop) (Q : R → Prop) (o : Out S L R) : Prop := (∃ s, o = .nx s ∧ P s) ∨ ∃ r, o = .rt r ∧ Q r
end G

namespace G
open PySem PySem.Spec PyProof.Rows L2
theorem loop_find {S α L R : Type} {f : S → α → Res (Out S S R)} {s : S} {P : α → Bool} {g : α → R} : ∀ {xs : List α}, (∀ a ∈ xs, P a = false → f s a = .ok (.nx s)) → (∀ a, xs.find? P = some a → f s a = .ok (.rt (g a))) →
    loopO (L := L) f s xs = .ok (match xs.find? P with | some a => .rt (g a) | none => .nx s)
  | [], _, _ => rfl
  | a :: xs, h1, h2 => by
    show (f s a).bind _ = _
    cases e : P a with
    | true =>
      have ef : (a :: xs).find? P = some a := by rw [List.find?_cons, e]
      rw [h2 a ef, ef]; rfl
    | false =>
      have ef : (a :: xs).find? P = xs.find? P := by rw [List.find?_cons, e]
      rw [h1 a List.mem_cons_self e, ef]
      exact loop_find (fun b m => h1 b (List.mem_cons_of_mem _ m)) fun b m => h2 b (ef.trans m)
structure IsPart (n : Nat) (r : List Int) : Prop where
  nd : r.Nodup
  rg : ∀ x ∈ r, 0 ≤ x ∧ x < n
structure IsOrd (n : Nat) (r : List Int) : Prop extends IsPart n r where
  len : r.length = n
theorem IsPart.le {n : Nat} {r : List Int} (h : IsPart n r) : r.length ≤ n := nodup_len n h.nd h.rg
theorem IsOrd.all {n : Nat} {r : List Int} (h : IsOrd n r) {x : Int} (h0 : 0 ≤ x) (h1 : x < n) : x ∈ r := by
  by_cases m : x ∈ r
  · exact m
  · have := nodup_len n (List.nodup_cons.mpr ⟨m, h.nd⟩) fun y my => (List.mem_cons.mp my).elim (fun e => by rw [e]; exact ⟨h0, h1⟩) (h.rg y)
    rw [List.length_cons, h.len] at this
    omega
def nameOf (r : List Int) (i : Int) : Int := r.getD i.toNat 0
theorem nameOf_get {r : List Int} {i : Int} (h1 : i.toNat < r.length) : r[i.toNat]? = some (nameOf r i) := by
  unfold nameOf
  rw [List.getD_eq_getElem?_getD, List.getElem?_eq_getElem h1]; rfl
theorem IsPart.inj {n : Nat} {r : List Int} (h : IsPart n r) {i j : Int} (hi : 0 ≤ i) (hi1 : i < r.length) (hj : 0 ≤ j) (hj1 : j < r.length) (e : nameOf r i = nameOf r j) : i = j := by
  have a := nameOf_get (r := r) (i := i) (by omega)
  have b := nameOf_get (r := r) (i := j) (by omega)
  rw [e, ← b] at a
  have := (List.getElem?_inj (by omega : i.toNat < r.length) h.nd).mp a
  omega
def callT (r : List Int) (t : Int × Int) : Int × Int := (min (nameOf r t.1) (nameOf r t.2), max (nameOf r t.1) (nameOf r t.2))
def callW (w : Int × Tup (Int × Int)) (r : List Int) : Int × Tup (Int × Int) := (w.1, ⟨sortP (w.2.l.map (callT r))⟩)
def FitK (ts ts' : List (Int × Int)) (r : List Int) (k : Nat) : Prop := ∀ a : Int, 0 ≤ a → a < k → ((a, (k : Int)) ∈ ts ↔ callT r (a, (k : Int)) ∈ ts')
def ext (n : Nat) : Nat → List Int → List (List Int)
  | 0, p => [p]
  | m + 1, p => ((rangeL 0 n).filter fun s => !decide (s ∈ p)).flatMap fun s => ext n m (p ++ [s])
instance instDecTupG {α : Type} [DecidableEq α] : DecidableEq (Tup α) := fun a b => if h : a.l = b.l then isTrue (by cases a; cases b; cases h; rfl) else isFalse (fun e => h (by rw [e]))
noncomputable def dec (P : Prop) : Bool := @decide P (Classical.propDecidable P)
end G

namespace G
open PySem PySem.Spec PyProof.Rows L2
def spotOf (r : List Int) (x : Int) : Int := (r.idxOf x : Nat)
def compO (o l : List Int) : List Int := l.map (nameOf o)
def invO (n : Nat) (l : List Int) : List Int := (rangeL 0 n).map (spotOf l)
def calB (b : Str) (r : List Int) : Str := ⟨((rangeL 0 b.length).map fun k => cpOf b (spotOf r k)).toArray⟩
noncomputable def autL (w : Int × Tup (Int × Int)) : List (List Int) := (ext w.1.toNat w.1.toNat []).filter fun r => dec (callW w r = w)
end G

namespace G
open PySem PySem.Spec PyProof.Rows L2
instance : DatEq (Option Int) := ⟨fun a b => by
  cases a <;> cases b
  · exact ⟨fun _ => rfl, fun _ => rfl⟩
  · exact ⟨fun h => (nomatch h), fun h => (nomatch h)⟩
  · exact ⟨fun h => (nomatch h), fun h => (nomatch h)⟩
  · rename_i i j
    show PyData.eqv (Dat.py i) (Dat.py j) = true ↔ _
    rw [DatEq.iff]; simp⟩
instance : DatEq (Option Str) := ⟨fun a b => by
  cases a <;> cases b
  · exact ⟨fun _ => rfl, fun _ => rfl⟩
  · exact ⟨fun h => (nomatch h), fun h => (nomatch h)⟩
  · exact ⟨fun h => (nomatch h), fun h => (nomatch h)⟩
  · rename_i i j
    show PyData.eqv (Dat.py i) (Dat.py j) = true ↔ _
    rw [DatEq.iff]; simp⟩
@[simp] theorem noX_ok' {α : Type} (a : α) : noX (Res.ok a) = .ok a := rfl
@[simp] theorem noX_exc' {α : Type} (x : Exn) : noX (Res.exc x : Res α) = .stuck := rfl
@[simp] theorem noX_stuck' {α : Type} : noX (Res.stuck : Res α) = .stuck := rfl
theorem Sat.noX {α : Type} {m : Res α} {P : α → Prop} (h : Sat m P) : Sat (noX m) P := by
  obtain ⟨a, e, p⟩ := h
  rw [e]; exact .ok p
end G
namespace G
open PySem PySem.Spec PyProof.Rows L2
end G

namespace K77
open PySem PySem.Spec PyProof.Rows L2 G
def topS (i : Nat) : Stmt := PySem.Challenge.pw_ringstones_k77_whole_fields_apart.main.body.getD i (.Pass ⟨0, 0, 0, 0⟩)
abbrev FlT_Surroundings : Type := (((Unit × (Int × (G.Tup (Int × Int)))) × PySem.Str) × (G.Dic Int Int))
instance : ObN "Surroundings" := ⟨["owners", "signs", "the_web"]⟩
abbrev OwF_Surroundings : G.OwF FlT_Surroundings := (G.coF (G.coF (G.coF G.unF (G.fzO (α := (Int × (G.Tup (Int × Int)))))) (G.fzO (α := PySem.Str))) (G.dfO (κ := Int) (β := Int)))
abbrev OwD_Surroundings [ObC "Surroundings"] : G.Ow (G.Ob "Surroundings" FlT_Surroundings) := G.obO OwF_Surroundings
def ct_tab_Occupied : ETab := [((PySem.Str.ofString "Occupied"), true), ((PySem.Str.ofString "Still"), false), ((PySem.Str.ofString "Breathless"), false), ((PySem.Str.ofString "NoField"), false)]
def ct_tab_Breathless : ETab := [((PySem.Str.ofString "Occupied"), false), ((PySem.Str.ofString "Still"), false), ((PySem.Str.ofString "Breathless"), true), ((PySem.Str.ofString "NoField"), false)]
section
variable [ObC "Surroundings"]
section
variable [Pw]
section
variable [Md]
def m_next_to (web : (Int × (G.Tup (Int × Int)))) (k : Int) : Res (List Int) :=
  (Res.bind (Res.ok ([] : (List Int))) fun (found1 : (List Int)) => (Res.bind (foldR (fun (s2 : (List Int)) (a3 : (Int × Int)) => (Res.bind (if (ScaEq.eq a3.1 k) then (Res.bind (appR s2 a3.2) fun found5 => (Res.ok found5)) else (Res.ok s2)) fun s4 => (Res.bind (if (ScaEq.eq a3.2 k) then (Res.bind (appR s4 a3.1) fun found7 => (Res.ok found7)) else (Res.ok s4)) fun s6 => (Res.ok s6)))) found1 (web.2).l) fun s2 => (Res.ok (sortI s2))))
abbrev s_next_to : Stmt := topS 7
abbrev N_next_to : List Str := ["web", "k", "found", "one", "other"]
theorem S_next_to : FnScope N_next_to ["web", "k"] (defScope s_next_to) := ⟨rfl, rfl, rfl, by decide +kernel, rfl, by decide +kernel, by decide +kernel⟩
set_option maxHeartbeats 4000000 in
theorem cal_next_to {K : Frag} {base : Heap} (D : IsDef K Md.mg "next_to" s_next_to) (b_sorted : Md.mg "sorted" = none) :
    Cal Pw.prog Pw.w K Md.mg base 1 "next_to" (fun a : (Int × (G.Tup (Int × Int))) × Int × Unit => a) (fun a : (Int × (G.Tup (Int × Int))) × Int × Unit => m_next_to a.1 a.2.1) ow :=
  cal_mk (N := N_next_to) (ps := ["web", "k"]) D S_next_to rfl (fun _ _ _ _ _ _ us hl => match us, hl with | [_, _], _ => rfl) fun a f cdv A' outer s H E hr => by
    obtain ⟨web, k, _⟩ := a
    have S := S_next_to
    have tk := takes_of (X := cxOf (L2.CX Pw.prog Pw.w) Pw.prog Pw.w K Md.mg base N_next_to "next_to" (defScope s_next_to) f cdv A' outer s H E) (E := E) rfl rfl rfl rfl
    refine' ST.slots (ss' := [G.fr web, G.fr k, G.any, G.any, G.any]) (ST.cast ?h ?q) rfl
    (case h => exact (st_seq (s1_set 2 (xk_lst (xhk_nil (α := Int))) S.nd) fun (found1 : (List Int)) => (st_seq (s1_for (S := (List Int)) (fun (s2 : (List Int)) => [G.fr web, G.fr k, G.ow s2, G.any, G.any]) found1 (it_tup (xk_imm (xi_p2 (xi_fr 0)))) (tg_two (tg_name 3 S.nd) (tg_name 4 S.nd)) (fun s2 a3 => (sn_seq (s1_if (post := (fun (s4 : (List Int)) => [G.fr web, G.fr k, G.ow s4, G.fr a3.1, G.fr a3.2])) (t_cmp op_eq (b_eqS (α := Int) (β := Int)) (nomark _) (xi_fr 3) (xi_fr 1)) (sn_seq (s1_append 2 (xk_fr 4)) fun found5 => (sn_nil (s := found5) (wk_eq (wk_eq (wk_eq (wk_eq (wk_eq wk_nil))))))) (sn_nil (s := s2) (wk_eq (wk_eq (wk_eq (wk_eq (wk_eq wk_nil))))))) fun s4 => (sn_seq (s1_if (post := (fun (s6 : (List Int)) => [G.fr web, G.fr k, G.ow s6, G.fr a3.1, G.fr a3.2])) (t_cmp op_eq (b_eqS (α := Int) (β := Int)) (nomark _) (xi_fr 4) (xi_fr 1)) (sn_seq (s1_append 2 (xk_fr 3)) fun found7 => (sn_nil (s := found7) (wk_eq (wk_eq (wk_eq (wk_eq (wk_eq wk_nil))))))) (sn_nil (s := s4) (wk_eq (wk_eq (wk_eq (wk_eq (wk_eq wk_nil))))))) fun s6 => (sn_nil (s := s6) (wk_eq (wk_eq (wk_eq (wk_any (wk_any wk_nil))))))))) (wk_eq (wk_eq (wk_eq (wk_eq (wk_eq wk_nil)))))) fun s2 => (st_ret (xk_sortedI (xa_cons (xi_ow 2) xa_nil) b_sorted)))))
    (case q => first | (unfold m_next_to; simp only [Res.okb, Res.bind_assoc, memB]; done) | rfl)
def m_all_next (web : (Int × (G.Tup (Int × Int)))) : Res (List (List Int)) :=
  (Res.bind (Res.bind (guardR (small62 (web.1)) (Res.ok (rangeL 0 ((web.1)).toNat))) fun v3 => (lcT (fun _ => Res.ok true) (fun a2 => (Res.ok ([] : (List Int)))) v3)) fun (found1 : (List (List Int))) => (Res.bind (foldR (fun (s4 : (List (List Int))) (a5 : (Int × Int)) => (Res.bind (Res.bind (idx s4 a5.1) fun v7 => (Res.bind (appR v7 a5.2) fun v8 => (Res.ok (setI s4 a5.1 v8)))) fun found6 => (Res.bind (Res.bind (idx found6 a5.2) fun v10 => (Res.bind (appR v10 a5.1) fun v11 => (Res.ok (setI found6 a5.2 v11)))) fun found9 => (Res.ok found9)))) found1 (web.2).l) fun s4 => (lcT (fun _ => Res.ok true) (fun a12 => (Res.ok (sortI a12))) s4)))
abbrev s_all_next : Stmt := topS 8
abbrev N_all_next : List Str := ["web", "found", "one", "other", "k", "row"]
theorem S_all_next : FnScope N_all_next ["web"] (defScope s_all_next) := ⟨rfl, rfl, rfl, by decide +kernel, rfl, by decide +kernel, by decide +kernel⟩
set_option maxHeartbeats 4000000 in
theorem cal_all_next {K : Frag} {base : Heap} (D : IsDef K Md.mg "all_next" s_all_next) (b_range : Md.mg "range" = none) (b_sorted : Md.mg "sorted" = none) :
    Cal Pw.prog Pw.w K Md.mg base 1 "all_next" (fun a : (Int × (G.Tup (Int × Int))) × Unit => a) (fun a : (Int × (G.Tup (Int × Int))) × Unit => m_all_next a.1) fr :=
  cal_mk (N := N_all_next) (ps := ["web"]) D S_all_next rfl (fun _ _ _ _ _ _ us hl => match us, hl with | [_], _ => rfl) fun a f cdv A' outer s H E hr => by
    obtain ⟨web, _⟩ := a
    have S := S_all_next
    have tk := takes_of (X := cxOf (L2.CX Pw.prog Pw.w) Pw.prog Pw.w K Md.mg base N_all_next "all_next" (defScope s_all_next) f cdv A' outer s H E) (E := E) rfl rfl rfl rfl
    refine' ST.slots (ss' := [G.fr web, G.any, G.any, G.any, G.any, G.any]) (ST.cast ?h ?q) rfl
    (case h => exact (st_seq (s1_lcO 1 (own := [("k", 4)]) (it_range1 (xa_cons (xi_p1 (xi_fr 0)) xa_nil) b_range) (tc_name 4 S.nd) (fun a2 _ _ _ _ _ => (xk_os (xk_lst (xhk_nil (α := Int))))) S.nd (blkOk_by (N := N_all_next) (sc := defScope s_all_next) (by decide +kernel)) (sw_true rfl rfl rfl (by decide +kernel))) fun (found1 : (List (List Int))) => (st_seq (s1_for (S := (List (List Int))) (fun (s4 : (List (List Int))) => [G.fr web, G.os (G.lsO G.l1) s4, G.any, G.any, G.any, G.any]) found1 (it_tup (xk_imm (xi_p2 (xi_fr 0)))) (tg_two (tg_name 2 S.nd) (tg_name 3 S.nd)) (fun s4 a5 => (sn_seq (s1_app2 1 (xi_fr 2) (xk_fr 3)) fun found6 => (sn_seq (s1_app2 1 (xi_fr 3) (xk_fr 2)) fun found9 => (sn_nil (s := found9) (wk_eq (wk_eq (wk_any (wk_any (wk_eq (wk_eq wk_nil)))))))))) (wk_eq (wk_eq (wk_eq (wk_eq (wk_eq (wk_eq wk_nil))))))) fun s4 => (st_frozO 1 (st_ret (xk_free (xk_lc (own := [("row", 5)]) (it_list (xk_fr 1)) (tc_name 5 S.nd) (fun a12 _ _ _ _ _ => (xk_free (xk_sortedI (xa_cons (xi_fr 5) xa_nil) b_sorted))) S.nd (blkOk_by (N := N_all_next) (sc := defScope s_all_next) (by decide +kernel)))))))))
    (case q => first | (unfold m_all_next; simp only [Res.okb, Res.bind_assoc, memB]; done) | rfl)
def m_hanging_with (nexts : (List (List Int))) (k : Int) (inside : (G.Dic Int Bool)) : Res (List Int) :=
  (Res.bind (Res.ok (k :: [])) fun (found1 : (List Int)) => (Res.bind (Res.ok (dofL ((k, true) :: []))) fun (seen2 : (G.Dic Int Bool)) => (Res.bind (Res.ok (0 : Int)) fun (at'3 : Int) => (Res.bind (whileR (fun (s4 : (G.Dic Int Bool) × (List Int) × Int) => (Res.ok (decide (s4.2.2 < (s4.2.1.length : Int))))) (fun (s4 : (G.Dic Int Bool) × (List Int) × Int) => (Res.bind (Res.bind (Res.bind (idx s4.2.1 s4.2.2) fun v7 => (idx nexts v7)) fun v14 => (foldR (fun (s8 : (G.Dic Int Bool) × (List Int)) (a9 : Int) => (Res.bind (Res.bind (if (dhas inside a9) then (Res.ok (!dhas s8.1 a9)) else (Res.ok false)) fun v13 => (if v13 then (Res.bind (dputR s8.1 a9 true) fun seen11 => (Res.bind (appR s8.2 a9) fun found12 => (Res.ok (seen11, found12)))) else (Res.ok (s8.1, s8.2)))) fun s10 => (Res.ok (s10.1, s10.2)))) (s4.1, s4.2.1) v14)) fun s8 => (Res.bind (Res.ok (s4.2.2 + (1 : Int))) fun at'15 => (Res.ok (s8.1, s8.2, at'15))))) (64) (seen2, found1, at'3)) fun s4 => (Res.ok (sortI s4.2.1))))))
abbrev s_hanging_with : Stmt := topS 9
abbrev N_hanging_with : List Str := ["nexts", "k", "inside", "found", "seen", "at", "one"]
theorem S_hanging_with : FnScope N_hanging_with ["nexts", "k", "inside"] (defScope s_hanging_with) := ⟨rfl, rfl, rfl, by decide +kernel, rfl, by decide +kernel, by decide +kernel⟩
set_option maxHeartbeats 4000000 in
theorem cal_hanging_with {K : Frag} {base : Heap} (D : IsDef K Md.mg "hanging_with" s_hanging_with) (b_len : Md.mg "len" = none) (b_sorted : Md.mg "sorted" = none) :
    Cal Pw.prog Pw.w K Md.mg base 1 "hanging_with" (fun a : (List (List Int)) × Int × (G.Dic Int Bool) × Unit => a) (fun a : (List (List Int)) × Int × (G.Dic Int Bool) × Unit => m_hanging_with a.1 a.2.1 a.2.2.1) ow :=
  cal_mk (N := N_hanging_with) (ps := ["nexts", "k", "inside"]) D S_hanging_with rfl (fun _ _ _ _ _ _ us hl => match us, hl with | [_, _, _], _ => rfl) fun a f cdv A' outer s H E hr => by
    obtain ⟨nexts, k, inside, _⟩ := a
    have S := S_hanging_with
    have tk := takes_of (X := cxOf (L2.CX Pw.prog Pw.w) Pw.prog Pw.w K Md.mg base N_hanging_with "hanging_with" (defScope s_hanging_with) f cdv A' outer s H E) (E := E) rfl rfl rfl rfl
    refine' ST.slots (ss' := [G.fr nexts, G.fr k, G.fr inside, G.any, G.any, G.any, G.any]) (ST.cast ?h ?q) rfl
    (case h => exact (st_seq (s1_set 3 (xk_lst (xak_imm (xh_cons (xi_fr 1) (xh_nil)))) S.nd) fun (found1 : (List Int)) => (st_seq (s1_set 4 (xk_disp (κ := Int) (β := Bool) (xpp_cons (xi_fr 1) (xk_imm xi_bl) xpp_nil)) S.nd) fun (seen2 : (G.Dic Int Bool)) => (st_seq (s1_set 5 (xk_imm xi_int) S.nd) fun (at'3 : Int) => (st_seq (s1_while (S := (G.Dic Int Bool) × (List Int) × Int) (64) (fun (s4 : (G.Dic Int Bool) × (List Int) × Int) => [G.fr nexts, G.fr k, G.fr inside, G.ow s4.2.1, G.owd s4.1, G.fr s4.2.2, G.any]) (seen2, found1, at'3) (fun s4 => (t_cmp op_lt b_lt (nomark _) (xi_fr 5) (xi_bf call_len c_lenL b_len PySem.boot_len (xa_cons (xi_ow 3) xa_nil)))) (fun s4 => (sn_seq (s1_for (S := (G.Dic Int Bool) × (List Int)) (fun (s8 : (G.Dic Int Bool) × (List Int)) => [G.fr nexts, G.fr k, G.fr inside, G.ow s8.2, G.owd s8.1, G.fr s4.2.2, G.any]) (s4.1, s4.2.1) (it_list (xk_ixL (xk_fr 0) (xi_ixL (xi_ow 3) (xi_fr 5)))) (tg_name 6 S.nd) (fun s8 a9 => (sn_seq (s1_if (post := (fun (s10 : (G.Dic Int Bool) × (List Int)) => [G.fr nexts, G.fr k, G.fr inside, G.ow s10.2, G.owd s10.1, G.fr s4.2.2, G.fr a9])) (xt_w (xw_and (t_din (hu1 hr) (xi_fr 6) (xi_fr 2)) (xw_and1 (t_dnin (hu1 hr) (xi_fr 6) (xi_owd 4))))) (sn_seq (s1_dput 4 (hu1 hr) (xk_imm xi_bl) (xi_fr 6)) fun seen11 => (sn_seq (s1_append 3 (xk_fr 6)) fun found12 => (sn_nil (s := (seen11, found12)) (wk_eq (wk_eq (wk_eq (wk_eq (wk_eq (wk_eq (wk_eq wk_nil)))))))))) (sn_nil (s := (s8.1, s8.2)) (wk_eq (wk_eq (wk_eq (wk_eq (wk_eq (wk_eq (wk_eq wk_nil))))))))) fun s10 => (sn_nil (s := (s10.1, s10.2)) (wk_eq (wk_eq (wk_eq (wk_eq (wk_eq (wk_eq (wk_any wk_nil)))))))))) (wk_eq (wk_eq (wk_eq (wk_eq (wk_eq (wk_eq (wk_eq wk_nil)))))))) fun s8 => (sn_seq (s1_augI 5 xi_int S.nd) fun at'15 => (sn_nil (s := (s8.1, s8.2, at'15)) (wk_eq (wk_eq (wk_eq (wk_eq (wk_eq (wk_eq (wk_eq wk_nil))))))))))) (wk_eq (wk_eq (wk_eq (wk_eq (wk_eq (wk_eq (wk_eq wk_nil)))))))) fun s4 => (st_ret (xk_sortedI (xa_cons (xi_ow 3) xa_nil) b_sorted)))))))
    (case q => first | (unfold m_hanging_with; simp only [Res.okb, Res.bind_assoc, memB]; done) | rfl)
def m_pieces (web : (Int × (G.Tup (Int × Int)))) (some' : (List Int)) : Res (List (List Int)) :=
  (Res.bind (m_all_next web) fun (nexts1 : (List (List Int))) => (Res.bind (Res.ok (⟨[]⟩ : (G.Dic Int Bool))) fun (inside2 : (G.Dic Int Bool)) => (Res.bind (foldR (fun (s3 : (G.Dic Int Bool)) (a4 : Int) => (Res.bind (dputR s3 a4 true) fun inside5 => (Res.ok inside5))) inside2 some') fun s3 => (Res.bind (Res.ok ([] : (List (List Int)))) fun (found6 : (List (List Int))) => (Res.bind (Res.ok (⟨[]⟩ : (G.Dic Int Bool))) fun (seen7 : (G.Dic Int Bool)) => (Res.bind (Res.bind (guardR (small62 (web.1)) (Res.ok (rangeL 0 ((web.1)).toNat))) fun v19 => (foldR (fun (s8 : (List (List Int)) × (G.Dic Int Bool)) (a9 : Int) => (Res.bind (Res.bind (if (dhas s3 a9) then (Res.ok (!dhas s8.2 a9)) else (Res.ok false)) fun v18 => (if v18 then (Res.bind (m_hanging_with nexts1 a9 s3) fun (piece11 : (List Int)) => (Res.bind (foldR (fun (s12 : (G.Dic Int Bool)) (a13 : Int) => (Res.bind (dputR s12 a13 true) fun seen16 => (Res.ok seen16))) s8.2 piece11) fun s12 => (Res.bind (appR s8.1 piece11) fun found17 => (Res.ok (s12, found17))))) else (Res.ok (s8.2, s8.1)))) fun s10 => (Res.ok (s10.2, s10.1)))) (found6, seen7) v19)) fun s8 => (Res.ok s8.1)))))))
abbrev s_pieces : Stmt := topS 10
abbrev N_pieces : List Str := ["web", "some", "nexts", "inside", "k", "found", "seen", "piece", "one"]
theorem S_pieces : FnScope N_pieces ["web", "some"] (defScope s_pieces) := ⟨rfl, rfl, rfl, by decide +kernel, rfl, by decide +kernel, by decide +kernel⟩
set_option maxHeartbeats 4000000 in
theorem cal_pieces {K : Frag} {base : Heap} (D : IsDef K Md.mg "pieces" s_pieces) (c_all_next : Cal Pw.prog Pw.w K Md.mg base 1 "all_next" (fun a : (Int × (G.Tup (Int × Int))) × Unit => a) (fun a : (Int × (G.Tup (Int × Int))) × Unit => m_all_next a.1) fr) (c_hanging_with : Cal Pw.prog Pw.w K Md.mg base 1 "hanging_with" (fun a : (List (List Int)) × Int × (G.Dic Int Bool) × Unit => a) (fun a : (List (List Int)) × Int × (G.Dic Int Bool) × Unit => m_hanging_with a.1 a.2.1 a.2.2.1) ow) (b_range : Md.mg "range" = none) :
    Cal Pw.prog Pw.w K Md.mg base 2 "pieces" (fun a : (Int × (G.Tup (Int × Int))) × (List Int) × Unit => a) (fun a : (Int × (G.Tup (Int × Int))) × (List Int) × Unit => m_pieces a.1 a.2.1) (G.os (G.lsO G.l1)) :=
  cal_mk (N := N_pieces) (ps := ["web", "some"]) D S_pieces rfl (fun _ _ _ _ _ _ us hl => match us, hl with | [_, _], _ => rfl) fun a f cdv A' outer s H E hr => by
    obtain ⟨web, some', _⟩ := a
    have S := S_pieces
    have tk := takes_of (X := cxOf (L2.CX Pw.prog Pw.w) Pw.prog Pw.w K Md.mg base N_pieces "pieces" (defScope s_pieces) f cdv A' outer s H E) (E := E) rfl rfl rfl rfl
    refine' ST.slots (ss' := [G.fr web, G.fr some', G.any, G.any, G.any, G.any, G.any, G.any, G.any]) (ST.cast ?h ?q) rfl
    (case h => exact (st_seq (s1_set 2 (xk_calF c_all_next hr tk (xak_cons (xk_imm (xi_fr 0)) xak_nil)) S.nd) fun (nexts1 : (List (List Int))) => (st_seq (s1_set 3 (xk_dnew (κ := Int) (β := Bool)) S.nd) fun (inside2 : (G.Dic Int Bool)) => (st_seq (s1_for (S := (G.Dic Int Bool)) (fun (s3 : (G.Dic Int Bool)) => [G.fr web, G.fr some', G.fr nexts1, G.owd s3, G.any, G.any, G.any, G.any, G.any]) inside2 (it_list (xk_fr 1)) (tg_name 4 S.nd) (fun s3 a4 => (sn_seq (s1_dput 3 (hu1 hr) (xk_imm xi_bl) (xi_fr 4)) fun inside5 => (sn_nil (s := inside5) (wk_eq (wk_eq (wk_eq (wk_eq (wk_any (wk_eq (wk_eq (wk_eq (wk_eq wk_nil)))))))))))) (wk_eq (wk_eq (wk_eq (wk_eq (wk_eq (wk_eq (wk_eq (wk_eq (wk_eq wk_nil)))))))))) fun s3 => (st_seq (s1_set 5 (xk_nilO (xk_lst (xhk_nil (α := (List Int))))) S.nd) fun (found6 : (List (List Int))) => (st_seq (s1_set 6 (xk_dnew (κ := Int) (β := Bool)) S.nd) fun (seen7 : (G.Dic Int Bool)) => (st_seq (s1_for (S := (List (List Int)) × (G.Dic Int Bool)) (fun (s8 : (List (List Int)) × (G.Dic Int Bool)) => [G.fr web, G.fr some', G.fr nexts1, G.owd s3, G.any, G.os (G.lsO G.l1) s8.1, G.owd s8.2, G.any, G.any]) (found6, seen7) (it_range1 (xa_cons (xi_p1 (xi_fr 0)) xa_nil) b_range) (tg_name 4 S.nd) (fun s8 a9 => (sn_seq (s1_if (post := (fun (s10 : (G.Dic Int Bool) × (List (List Int))) => [G.fr web, G.fr some', G.fr nexts1, G.owd s3, G.fr a9, G.os (G.lsO G.l1) s10.2, G.owd s10.1, G.any, G.any])) (xt_w (xw_and (t_din (hu1 hr) (xi_fr 4) (xi_owd 3)) (xw_and1 (t_dnin (hu1 hr) (xi_fr 4) (xi_owd 6))))) (sn_seq (s1_set 7 (xk_cal c_hanging_with hr tk (xa_cons (xi_fr 2) (xa_cons (xi_fr 4) (xa_cons (xi_owd 3) xa_nil)))) S.nd) fun (piece11 : (List Int)) => (sn_slot 7 ow_os (sn_seq (s1_forP (S := (G.Dic Int Bool)) (d := G.l1) 7 (fun (s12 : (G.Dic Int Bool)) => [G.fr web, G.fr some', G.fr nexts1, G.owd s3, G.fr a9, G.os (G.lsO G.l1) s8.1, G.owd s12, G.any, G.any]) s8.2 (it_list (xk_fr 7)) (tg_name 8 S.nd) (fun _ => rfl) (fun g14 v15 s12 a13 => (sn_seq (s1_dput 6 (hu1 hr) (xk_imm xi_bl) (xi_fr 8)) fun seen16 => (sn_nil (s := seen16) (wk_eq (wk_eq (wk_eq (wk_eq (wk_eq (wk_eq (wk_eq (wk_eq (wk_any wk_nil)))))))))))) rfl (wk_eq (wk_eq (wk_eq (wk_eq (wk_eq (wk_eq (wk_eq (wk_eq (wk_eq wk_nil)))))))))) fun s12 => (sn_seq (s1_appMv 5 7) fun found17 => (sn_nil (s := (s12, found17)) (wk_eq (wk_eq (wk_eq (wk_eq (wk_eq (wk_eq (wk_eq (wk_eq (wk_eq wk_nil)))))))))))))) (sn_nil (s := (s8.2, s8.1)) (wk_eq (wk_eq (wk_eq (wk_eq (wk_eq (wk_eq (wk_eq (wk_eq (wk_eq wk_nil))))))))))) fun s10 => (sn_nil (s := (s10.2, s10.1)) (wk_eq (wk_eq (wk_eq (wk_eq (wk_any (wk_eq (wk_eq (wk_eq (wk_eq wk_nil)))))))))))) (wk_eq (wk_eq (wk_eq (wk_eq (wk_eq (wk_eq (wk_eq (wk_eq (wk_eq wk_nil)))))))))) fun s8 => (st_retO 5))))))))
    (case q => first | (unfold m_pieces; simp only [Res.okb, Res.bind_assoc, memB]; done) | rfl)
def m_other_hand (hand : PySem.Str) : Res PySem.Str :=
  (if (ScaEq.eq hand (PySem.Str.ofString "x")) then (Res.ok (PySem.Str.ofString "o")) else (Res.ok (PySem.Str.ofString "x")))
abbrev s_other_hand : Stmt := topS 12
abbrev N_other_hand : List Str := ["hand"]
theorem S_other_hand : FnScope N_other_hand ["hand"] (defScope s_other_hand) := ⟨rfl, rfl, rfl, by decide +kernel, rfl, by decide +kernel, by decide +kernel⟩
set_option maxHeartbeats 4000000 in
theorem cal_other_hand {K : Frag} {base : Heap} (D : IsDef K Md.mg "other_hand" s_other_hand)  :
    Cal Pw.prog Pw.w K Md.mg base 1 "other_hand" (fun a : PySem.Str × Unit => a) (fun a : PySem.Str × Unit => m_other_hand a.1) fr :=
  cal_mk (N := N_other_hand) (ps := ["hand"]) D S_other_hand rfl (fun _ _ _ _ _ _ us hl => match us, hl with | [_], _ => rfl) fun a f cdv A' outer s H E hr => by
    obtain ⟨hand, _⟩ := a
    have S := S_other_hand
    have tk := takes_of (X := cxOf (L2.CX Pw.prog Pw.w) Pw.prog Pw.w K Md.mg base N_other_hand "other_hand" (defScope s_other_hand) f cdv A' outer s H E) (E := E) rfl rfl rfl rfl
    refine' ST.slots (ss' := [G.fr hand]) (ST.cast ?h ?q) rfl
    (case h => exact (st_guard (t_cmp op_eq (b_eqS (α := PySem.Str) (β := PySem.Str)) (nomark _) (xi_fr 0) xi_str) (st_ret (xk_imm xi_str)) (st_ret (xk_imm xi_str))))
    (case q => first | (unfold m_other_hand; simp only [Res.okb, Res.bind_assoc, memB]; done) | rfl)
def m_chain_of (web : (Int × (G.Tup (Int × Int)))) (board : PySem.Str) (k : Int) : Res (List Int) :=
  (Res.bind (Res.bind (strIx board k) fun v1 => (Res.ok (ScaEq.eq v1 (PySem.Str.ofString ".")))) fun v21 => (if v21 then (Res.ok ([] : (List Int))) else (Res.bind (Res.ok (k :: [])) fun (found2 : (List Int)) => (Res.bind (Res.ok (0 : Int)) fun (at'3 : Int) => (Res.bind (whileR (fun (s4 : (List Int) × Int) => (Res.ok (decide (s4.2 < (s4.1.length : Int))))) (fun (s4 : (List Int) × Int) => (Res.bind (Res.bind (Res.bind (Res.bind (Res.bind (idx s4.1 s4.2) fun v8 => (Res.ok (v8, ()))) fun v9 => (Res.ok (web, v9))) fun a10 => (m_next_to a10.1 a10.2.1)) fun v19 => (foldR (fun (s11 : (List Int)) (a12 : Int) => (Res.bind (Res.bind (Res.bind (Res.bind (strIx board a12) fun v13 => (Res.bind (strIx board k) fun v14 => (Res.ok (ScaEq.eq v13 v14)))) fun v15 => (if v15 then (Res.ok (!decide (a12 ∈ s11))) else (Res.ok false))) fun v18 => (if v18 then (Res.bind (appR s11 a12) fun found17 => (Res.ok found17)) else (Res.ok s11))) fun s16 => (Res.ok s16))) s4.1 v19)) fun s11 => (Res.bind (Res.ok (s4.2 + (1 : Int))) fun (at'20 : Int) => (Res.ok (s11, at'20))))) (64) (found2, at'3)) fun s4 => (Res.ok (sortI s4.1)))))))
abbrev s_chain_of : Stmt := topS 13
abbrev N_chain_of : List Str := ["web", "board", "k", "found", "at", "one"]
theorem S_chain_of : FnScope N_chain_of ["web", "board", "k"] (defScope s_chain_of) := ⟨rfl, rfl, rfl, by decide +kernel, rfl, by decide +kernel, by decide +kernel⟩
set_option maxHeartbeats 4000000 in
theorem cal_chain_of {K : Frag} {base : Heap} (D : IsDef K Md.mg "chain_of" s_chain_of) (c_next_to : Cal Pw.prog Pw.w K Md.mg base 1 "next_to" (fun a : (Int × (G.Tup (Int × Int))) × Int × Unit => a) (fun a : (Int × (G.Tup (Int × Int))) × Int × Unit => m_next_to a.1 a.2.1) ow) (b_len : Md.mg "len" = none) (b_sorted : Md.mg "sorted" = none) :
    Cal Pw.prog Pw.w K Md.mg base 2 "chain_of" (fun a : (Int × (G.Tup (Int × Int))) × PySem.Str × Int × Unit => a) (fun a : (Int × (G.Tup (Int × Int))) × PySem.Str × Int × Unit => m_chain_of a.1 a.2.1 a.2.2.1) ow :=
  cal_mk (N := N_chain_of) (ps := ["web", "board", "k"]) D S_chain_of rfl (fun _ _ _ _ _ _ us hl => match us, hl with | [_, _, _], _ => rfl) fun a f cdv A' outer s H E hr => by
    obtain ⟨web, board, k, _⟩ := a
    have S := S_chain_of
    have tk := takes_of (X := cxOf (L2.CX Pw.prog Pw.w) Pw.prog Pw.w K Md.mg base N_chain_of "chain_of" (defScope s_chain_of) f cdv A' outer s H E) (E := E) rfl rfl rfl rfl
    refine' ST.slots (ss' := [G.fr web, G.fr board, G.fr k, G.any, G.any, G.any]) (ST.cast ?h ?q) rfl
    (case h => exact (st_guard (t_cmp op_eq (b_eqS (α := PySem.Str) (β := PySem.Str)) (nomark _) (xi_ixStr (xi_fr 1) (xi_fr 2)) xi_str) (st_ret (xk_lst (xhk_nil (α := Int)))) (st_seq (s1_set 3 (xk_lst (xak_imm (xh_cons (xi_fr 2) (xh_nil)))) S.nd) fun (found2 : (List Int)) => (st_seq (s1_set 4 (xk_imm xi_int) S.nd) fun (at'3 : Int) => (st_seq (s1_while (S := (List Int) × Int) (64) (fun (s4 : (List Int) × Int) => [G.fr web, G.fr board, G.fr k, G.ow s4.1, G.fr s4.2, G.any]) (found2, at'3) (fun s4 => (t_cmp op_lt b_lt (nomark _) (xi_fr 4) (xi_bf call_len c_lenL b_len PySem.boot_len (xa_cons (xi_ow 3) xa_nil)))) (fun s4 => (sn_seq (s1_for (S := (List Int)) (fun (s11 : (List Int)) => [G.fr web, G.fr board, G.fr k, G.ow s11, G.fr s4.2, G.any]) s4.1 (it_list (xk_free (xk_cal c_next_to hr tk (xa_cons (xi_fr 0) (xa_cons (xi_ixL (xi_ow 3) (xi_fr 4)) xa_nil))))) (tg_name 5 S.nd) (fun s11 a12 => (sn_seq (s1_if (post := (fun (s16 : (List Int)) => [G.fr web, G.fr board, G.fr k, G.ow s16, G.fr s4.2, G.fr a12])) (xt_w (xw_and (t_cmp op_eq (b_eqS (α := PySem.Str) (β := PySem.Str)) (nomark _) (xi_ixStr (xi_fr 1) (xi_fr 5)) (xi_ixStr (xi_fr 1) (xi_fr 2))) (xw_and1 (t_cmp op_notIn_seq (b_ninL (α := Int)) (by with_unfolding_all rfl) (xi_fr 5) (xi_ow 3))))) (sn_seq (s1_append 3 (xk_fr 5)) fun found17 => (sn_nil (s := found17) (wk_eq (wk_eq (wk_eq (wk_eq (wk_eq (wk_eq wk_nil)))))))) (sn_nil (s := s11) (wk_eq (wk_eq (wk_eq (wk_eq (wk_eq (wk_eq wk_nil)))))))) fun s16 => (sn_nil (s := s16) (wk_eq (wk_eq (wk_eq (wk_eq (wk_eq (wk_any wk_nil))))))))) (wk_eq (wk_eq (wk_eq (wk_eq (wk_eq (wk_eq wk_nil))))))) fun s11 => (sn_seq (s1_set 4 (xk_imm (x_bin op_add b_add (xi_fr 4) xi_int)) S.nd) fun (at'20 : Int) => (sn_nil (s := (s11, at'20)) (wk_eq (wk_eq (wk_eq (wk_eq (wk_eq (wk_eq wk_nil)))))))))) (wk_eq (wk_eq (wk_eq (wk_eq (wk_eq (wk_eq wk_nil))))))) fun s4 => (st_ret (xk_sortedI (xa_cons (xi_ow 3) xa_nil) b_sorted)))))))
    (case q => first | (unfold m_chain_of; simp only [Res.okb, Res.bind_assoc, memB]; done) | rfl)
def m_empties_by (web : (Int × (G.Tup (Int × Int)))) (board : PySem.Str) (some' : (List Int)) : Res (List Int) :=
  (Res.bind (Res.ok ([] : (List Int))) fun (found1 : (List Int)) => (Res.bind (foldR (fun (s2 : (List Int)) (a3 : Int) => (Res.bind (Res.bind (m_next_to web a3) fun v11 => (foldR (fun (s4 : (List Int)) (a5 : Int) => (Res.bind (Res.bind (Res.bind (Res.bind (strIx board a5) fun v6 => (Res.ok (ScaEq.eq v6 (PySem.Str.ofString ".")))) fun v7 => (if v7 then (Res.ok (!decide (a5 ∈ s4))) else (Res.ok false))) fun v10 => (if v10 then (Res.bind (appR s4 a5) fun found9 => (Res.ok found9)) else (Res.ok s4))) fun s8 => (Res.ok s8))) s2 v11)) fun s4 => (Res.ok s4))) found1 some') fun s2 => (Res.ok (sortI s2))))
abbrev s_empties_by : Stmt := topS 14
abbrev N_empties_by : List Str := ["web", "board", "some", "found", "k", "one"]
theorem S_empties_by : FnScope N_empties_by ["web", "board", "some"] (defScope s_empties_by) := ⟨rfl, rfl, rfl, by decide +kernel, rfl, by decide +kernel, by decide +kernel⟩
set_option maxHeartbeats 4000000 in
theorem cal_empties_by {K : Frag} {base : Heap} (D : IsDef K Md.mg "empties_by" s_empties_by) (c_next_to : Cal Pw.prog Pw.w K Md.mg base 1 "next_to" (fun a : (Int × (G.Tup (Int × Int))) × Int × Unit => a) (fun a : (Int × (G.Tup (Int × Int))) × Int × Unit => m_next_to a.1 a.2.1) ow) (b_sorted : Md.mg "sorted" = none) :
    Cal Pw.prog Pw.w K Md.mg base 2 "empties_by" (fun a : (Int × (G.Tup (Int × Int))) × PySem.Str × (List Int) × Unit => a) (fun a : (Int × (G.Tup (Int × Int))) × PySem.Str × (List Int) × Unit => m_empties_by a.1 a.2.1 a.2.2.1) ow :=
  cal_mk (N := N_empties_by) (ps := ["web", "board", "some"]) D S_empties_by rfl (fun _ _ _ _ _ _ us hl => match us, hl with | [_, _, _], _ => rfl) fun a f cdv A' outer s H E hr => by
    obtain ⟨web, board, some', _⟩ := a
    have S := S_empties_by
    have tk := takes_of (X := cxOf (L2.CX Pw.prog Pw.w) Pw.prog Pw.w K Md.mg base N_empties_by "empties_by" (defScope s_empties_by) f cdv A' outer s H E) (E := E) rfl rfl rfl rfl
    refine' ST.slots (ss' := [G.fr web, G.fr board, G.fr some', G.any, G.any, G.any]) (ST.cast ?h ?q) rfl
    (case h => exact (st_seq (s1_set 3 (xk_lst (xhk_nil (α := Int))) S.nd) fun (found1 : (List Int)) => (st_seq (s1_for (S := (List Int)) (fun (s2 : (List Int)) => [G.fr web, G.fr board, G.fr some', G.ow s2, G.any, G.any]) found1 (it_list (xk_fr 2)) (tg_name 4 S.nd) (fun s2 a3 => (sn_seq (s1_for (S := (List Int)) (fun (s4 : (List Int)) => [G.fr web, G.fr board, G.fr some', G.ow s4, G.fr a3, G.any]) s2 (it_list (xk_free (xk_cal c_next_to hr tk (xa_cons (xi_fr 0) (xa_cons (xi_fr 4) xa_nil))))) (tg_name 5 S.nd) (fun s4 a5 => (sn_seq (s1_if (post := (fun (s8 : (List Int)) => [G.fr web, G.fr board, G.fr some', G.ow s8, G.fr a3, G.fr a5])) (xt_w (xw_and (t_cmp op_eq (b_eqS (α := PySem.Str) (β := PySem.Str)) (nomark _) (xi_ixStr (xi_fr 1) (xi_fr 5)) xi_str) (xw_and1 (t_cmp op_notIn_seq (b_ninL (α := Int)) (by with_unfolding_all rfl) (xi_fr 5) (xi_ow 3))))) (sn_seq (s1_append 3 (xk_fr 5)) fun found9 => (sn_nil (s := found9) (wk_eq (wk_eq (wk_eq (wk_eq (wk_eq (wk_eq wk_nil)))))))) (sn_nil (s := s4) (wk_eq (wk_eq (wk_eq (wk_eq (wk_eq (wk_eq wk_nil)))))))) fun s8 => (sn_nil (s := s8) (wk_eq (wk_eq (wk_eq (wk_eq (wk_eq (wk_any wk_nil))))))))) (wk_eq (wk_eq (wk_eq (wk_eq (wk_eq (wk_eq wk_nil))))))) fun s4 => (sn_nil (s := s4) (wk_eq (wk_eq (wk_eq (wk_eq (wk_any (wk_eq wk_nil))))))))) (wk_eq (wk_eq (wk_eq (wk_eq (wk_eq (wk_eq wk_nil))))))) fun s2 => (st_ret (xk_sortedI (xa_cons (xi_ow 3) xa_nil) b_sorted)))))
    (case q => first | (unfold m_empties_by; simp only [Res.okb, Res.bind_assoc, memB]; done) | rfl)
def m_breaths_of (web : (Int × (G.Tup (Int × Int)))) (board : PySem.Str) (k : Int) : Res (List Int) :=
  (Res.bind (Res.bind (Res.bind (Res.bind (m_chain_of web board k) fun v1 => (Res.ok (v1, ()))) fun v2 => (Res.ok (board, v2))) fun v3 => (Res.ok (web, v3))) fun a4 => (m_empties_by a4.1 a4.2.1 a4.2.2.1))
abbrev s_breaths_of : Stmt := topS 15
abbrev N_breaths_of : List Str := ["web", "board", "k"]
theorem S_breaths_of : FnScope N_breaths_of ["web", "board", "k"] (defScope s_breaths_of) := ⟨rfl, rfl, rfl, by decide +kernel, rfl, by decide +kernel, by decide +kernel⟩
set_option maxHeartbeats 4000000 in
theorem cal_breaths_of {K : Frag} {base : Heap} (D : IsDef K Md.mg "breaths_of" s_breaths_of) (c_chain_of : Cal Pw.prog Pw.w K Md.mg base 2 "chain_of" (fun a : (Int × (G.Tup (Int × Int))) × PySem.Str × Int × Unit => a) (fun a : (Int × (G.Tup (Int × Int))) × PySem.Str × Int × Unit => m_chain_of a.1 a.2.1 a.2.2.1) ow) (c_empties_by : Cal Pw.prog Pw.w K Md.mg base 2 "empties_by" (fun a : (Int × (G.Tup (Int × Int))) × PySem.Str × (List Int) × Unit => a) (fun a : (Int × (G.Tup (Int × Int))) × PySem.Str × (List Int) × Unit => m_empties_by a.1 a.2.1 a.2.2.1) ow) :
    Cal Pw.prog Pw.w K Md.mg base 3 "breaths_of" (fun a : (Int × (G.Tup (Int × Int))) × PySem.Str × Int × Unit => a) (fun a : (Int × (G.Tup (Int × Int))) × PySem.Str × Int × Unit => m_breaths_of a.1 a.2.1 a.2.2.1) ow :=
  cal_mk (N := N_breaths_of) (ps := ["web", "board", "k"]) D S_breaths_of rfl (fun _ _ _ _ _ _ us hl => match us, hl with | [_, _, _], _ => rfl) fun a f cdv A' outer s H E hr => by
    obtain ⟨web, board, k, _⟩ := a
    have S := S_breaths_of
    have tk := takes_of (X := cxOf (L2.CX Pw.prog Pw.w) Pw.prog Pw.w K Md.mg base N_breaths_of "breaths_of" (defScope s_breaths_of) f cdv A' outer s H E) (E := E) rfl rfl rfl rfl
    refine' ST.slots (ss' := [G.fr web, G.fr board, G.fr k]) (ST.cast ?h ?q) rfl
    (case h => exact (st_ret (xk_cal c_empties_by hr tk (xa_cons (xi_fr 0) (xa_cons (xi_fr 1) (xa_cons (xi_cal c_chain_of hr tk (xa_cons (xi_fr 0) (xa_cons (xi_fr 1) (xa_cons (xi_fr 2) xa_nil)))) xa_nil))))))
    (case q => first | (unfold m_breaths_of; simp only [Res.okb, Res.bind_assoc, memB]; done) | rfl)
def m_signed (board : PySem.Str) (some' : (List Int)) (sign : PySem.Str) : Res PySem.Str :=
  (Res.bind (listS board) fun (signs1 : (List PySem.Str)) => (Res.bind (foldR (fun (s2 : (List PySem.Str)) (a3 : Int) => (Res.bind (setR s2 a3 sign) fun (signs4 : (List PySem.Str)) => (Res.ok signs4))) signs1 some') fun s2 => (joinR (PySem.Str.ofString "") s2)))
abbrev s_signed : Stmt := topS 17
abbrev N_signed : List Str := ["board", "some", "sign", "signs", "k"]
theorem S_signed : FnScope N_signed ["board", "some", "sign"] (defScope s_signed) := ⟨rfl, rfl, rfl, by decide +kernel, rfl, by decide +kernel, by decide +kernel⟩
set_option maxHeartbeats 4000000 in
theorem cal_signed {K : Frag} {base : Heap} (D : IsDef K Md.mg "signed" s_signed) (b_list : Md.mg "list" = none) :
    Cal Pw.prog Pw.w K Md.mg base 1 "signed" (fun a : PySem.Str × (List Int) × PySem.Str × Unit => a) (fun a : PySem.Str × (List Int) × PySem.Str × Unit => m_signed a.1 a.2.1 a.2.2.1) fr :=
  cal_mk (N := N_signed) (ps := ["board", "some", "sign"]) D S_signed rfl (fun _ _ _ _ _ _ us hl => match us, hl with | [_, _, _], _ => rfl) fun a f cdv A' outer s H E hr => by
    obtain ⟨board, some', sign, _⟩ := a
    have S := S_signed
    have tk := takes_of (X := cxOf (L2.CX Pw.prog Pw.w) Pw.prog Pw.w K Md.mg base N_signed "signed" (defScope s_signed) f cdv A' outer s H E) (E := E) rfl rfl rfl rfl
    refine' ST.slots (ss' := [G.fr board, G.fr some', G.fr sign, G.any, G.any]) (ST.cast ?h ?q) rfl
    (case h => exact (st_seq (s1_set 3 (xk_listS (xi_fr 0) b_list) S.nd) fun (signs1 : (List PySem.Str)) => (st_seq (s1_for (S := (List PySem.Str)) (fun (s2 : (List PySem.Str)) => [G.fr board, G.fr some', G.fr sign, G.ow s2, G.any]) signs1 (it_list (xk_fr 1)) (tg_name 4 S.nd) (fun s2 a3 => (sn_seq (s1_setI 3 (xk_imm (xi_fr 2)) (xi_fr 4) (hg := pg_sub (pv 3) (xi_fr 4) set_list)) fun (signs4 : (List PySem.Str)) => (sn_nil (s := signs4) (wk_eq (wk_eq (wk_eq (wk_eq (wk_any wk_nil)))))))) (wk_eq (wk_eq (wk_eq (wk_eq (wk_eq wk_nil)))))) fun s2 => (st_ret (xk_imm (xi_join xi_str (xi_ow 3)))))))
    (case q => first | (unfold m_signed; simp only [Res.okb, Res.bind_assoc, memB]; done) | rfl)
def m_choked (web : (Int × (G.Tup (Int × Int)))) (full : PySem.Str) (hand : PySem.Str) (k : Int) : Res (List Int) :=
  (Res.bind (Res.ok ([] : (List Int))) fun (found1 : (List Int)) => (Res.bind (Res.bind (m_next_to web k) fun v14 => (foldR (fun (s2 : (List Int)) (a3 : Int) => (Res.bind (Res.bind (Res.bind (Res.bind (strIx full a3) fun v4 => (Res.bind (m_other_hand hand) fun v5 => (Res.ok (ScaEq.eq v4 v5)))) fun v6 => (if v6 then (Res.ok (!decide (a3 ∈ s2))) else (Res.ok false))) fun v13 => (if v13 then (Res.bind (Res.bind (Res.bind (m_breaths_of web full a3) fun v8 => (eqD v8 ([] : (List Int)))) fun v12 => (if v12 then (Res.bind (Res.bind (m_chain_of web full a3) fun v11 => (extR s2 v11)) fun found10 => (Res.ok found10)) else (Res.ok s2))) fun s9 => (Res.ok s9)) else (Res.ok s2))) fun s7 => (Res.ok s7))) found1 v14)) fun s2 => (Res.ok (sortI s2))))
abbrev s_choked : Stmt := topS 18
abbrev N_choked : List Str := ["web", "full", "hand", "k", "found", "one"]
theorem S_choked : FnScope N_choked ["web", "full", "hand", "k"] (defScope s_choked) := ⟨rfl, rfl, rfl, by decide +kernel, rfl, by decide +kernel, by decide +kernel⟩
set_option maxHeartbeats 4000000 in
theorem cal_choked {K : Frag} {base : Heap} (D : IsDef K Md.mg "choked" s_choked) (c_next_to : Cal Pw.prog Pw.w K Md.mg base 1 "next_to" (fun a : (Int × (G.Tup (Int × Int))) × Int × Unit => a) (fun a : (Int × (G.Tup (Int × Int))) × Int × Unit => m_next_to a.1 a.2.1) ow) (c_other_hand : Cal Pw.prog Pw.w K Md.mg base 1 "other_hand" (fun a : PySem.Str × Unit => a) (fun a : PySem.Str × Unit => m_other_hand a.1) fr) (c_chain_of : Cal Pw.prog Pw.w K Md.mg base 2 "chain_of" (fun a : (Int × (G.Tup (Int × Int))) × PySem.Str × Int × Unit => a) (fun a : (Int × (G.Tup (Int × Int))) × PySem.Str × Int × Unit => m_chain_of a.1 a.2.1 a.2.2.1) ow) (c_breaths_of : Cal Pw.prog Pw.w K Md.mg base 3 "breaths_of" (fun a : (Int × (G.Tup (Int × Int))) × PySem.Str × Int × Unit => a) (fun a : (Int × (G.Tup (Int × Int))) × PySem.Str × Int × Unit => m_breaths_of a.1 a.2.1 a.2.2.1) ow) (b_sorted : Md.mg "sorted" = none) :
    Cal Pw.prog Pw.w K Md.mg base 4 "choked" (fun a : (Int × (G.Tup (Int × Int))) × PySem.Str × PySem.Str × Int × Unit => a) (fun a : (Int × (G.Tup (Int × Int))) × PySem.Str × PySem.Str × Int × Unit => m_choked a.1 a.2.1 a.2.2.1 a.2.2.2.1) ow :=
  cal_mk (N := N_choked) (ps := ["web", "full", "hand", "k"]) D S_choked rfl (fun _ _ _ _ _ _ us hl => match us, hl with | [_, _, _, _], _ => rfl) fun a f cdv A' outer s H E hr => by
    obtain ⟨web, full, hand, k, _⟩ := a
    have S := S_choked
    have tk := takes_of (X := cxOf (L2.CX Pw.prog Pw.w) Pw.prog Pw.w K Md.mg base N_choked "choked" (defScope s_choked) f cdv A' outer s H E) (E := E) rfl rfl rfl rfl
    refine' ST.slots (ss' := [G.fr web, G.fr full, G.fr hand, G.fr k, G.any, G.any]) (ST.cast ?h ?q) rfl
    (case h => exact (st_seq (s1_set 4 (xk_lst (xhk_nil (α := Int))) S.nd) fun (found1 : (List Int)) => (st_seq (s1_for (S := (List Int)) (fun (s2 : (List Int)) => [G.fr web, G.fr full, G.fr hand, G.fr k, G.ow s2, G.any]) found1 (it_list (xk_free (xk_cal c_next_to hr tk (xa_cons (xi_fr 0) (xa_cons (xi_fr 3) xa_nil))))) (tg_name 5 S.nd) (fun s2 a3 => (sn_seq (s1_if (post := (fun (s7 : (List Int)) => [G.fr web, G.fr full, G.fr hand, G.fr k, G.ow s7, G.fr a3])) (xt_w (xw_and (t_cmp op_eq (b_eqS (α := PySem.Str) (β := PySem.Str)) (nomark _) (xi_ixStr (xi_fr 1) (xi_fr 5)) (xi_cal c_other_hand hr tk (xa_cons (xi_fr 2) xa_nil))) (xw_and1 (t_cmp op_notIn_seq (b_ninL (α := Int)) (by with_unfolding_all rfl) (xi_fr 5) (xi_ow 4))))) (sn_seq (s1_if (post := (fun (s9 : (List Int)) => [G.fr web, G.fr full, G.fr hand, G.fr k, G.ow s9, G.fr a3])) (t_cmp (op_eqD (hu64 hr)) (b_eqD (α := (List Int)) (β := (List Int))) (nomark _) (xi_cal c_breaths_of hr tk (xa_cons (xi_fr 0) (xa_cons (xi_fr 1) (xa_cons (xi_fr 5) xa_nil)))) (xi_of (xk_lst (xhk_nil (α := Int))))) (sn_seq (s1_extI 4 (xi_cal c_chain_of hr tk (xa_cons (xi_fr 0) (xa_cons (xi_fr 1) (xa_cons (xi_fr 5) xa_nil))))) fun found10 => (sn_nil (s := found10) (wk_eq (wk_eq (wk_eq (wk_eq (wk_eq (wk_eq wk_nil)))))))) (sn_nil (s := s2) (wk_eq (wk_eq (wk_eq (wk_eq (wk_eq (wk_eq wk_nil)))))))) fun s9 => (sn_nil (s := s9) (wk_eq (wk_eq (wk_eq (wk_eq (wk_eq (wk_eq wk_nil)))))))) (sn_nil (s := s2) (wk_eq (wk_eq (wk_eq (wk_eq (wk_eq (wk_eq wk_nil)))))))) fun s7 => (sn_nil (s := s7) (wk_eq (wk_eq (wk_eq (wk_eq (wk_eq (wk_any wk_nil))))))))) (wk_eq (wk_eq (wk_eq (wk_eq (wk_eq (wk_eq wk_nil))))))) fun s2 => (st_ret (xk_sortedI (xa_cons (xi_ow 4) xa_nil) b_sorted)))))
    (case q => first | (unfold m_choked; simp only [Res.okb, Res.bind_assoc, memB]; done) | rfl)
def m_lay (web : (Int × (G.Tup (Int × Int)))) (board : PySem.Str) (hand : PySem.Str) (k : Int) (suicide : Bool) : Res (G.T3 PySem.Str (List Int) (List Int)) :=
  (Res.bind (Res.bind (strIx board k) fun v1 => (Res.ok (!ScaEq.eq v1 (PySem.Str.ofString ".")))) fun v12 => (if v12 then (Res.exc ⟨(PySem.Str.ofString "Occupied"), .no⟩) else (Res.bind (m_signed board (k :: []) hand) fun (full2 : PySem.Str) => (Res.bind (m_choked web full2 hand k) fun (taken3 : (List Int)) => (Res.bind (m_signed full2 taken3 (PySem.Str.ofString ".")) fun (behind4 : PySem.Str) => (Res.bind (Res.ok ([] : (List Int))) fun (lost5 : (List Int)) => (Res.bind (Res.bind (Res.bind (m_breaths_of web behind4 k) fun v6 => (eqD v6 ([] : (List Int)))) fun v11 => (if v11 then (Res.bind (if (!suicide) then (Res.exc ⟨(PySem.Str.ofString "Breathless"), .no⟩) else (Res.ok ())) fun s8 => (Res.bind (m_chain_of web behind4 k) fun (lost9 : (List Int)) => (Res.bind (m_signed behind4 lost9 (PySem.Str.ofString ".")) fun (behind10 : PySem.Str) => (Res.ok (lost9, behind10))))) else (Res.ok (lost5, behind4)))) fun s7 => (if (ScaEq.eq s7.2 board) then (Res.exc ⟨(PySem.Str.ofString "Still"), .no⟩) else (Res.ok (⟨s7.2, taken3, s7.1⟩ : (G.T3 PySem.Str (List Int) (List Int))))))))))))
abbrev s_lay : Stmt := topS 19
abbrev N_lay : List Str := ["web", "board", "hand", "k", "suicide", "full", "taken", "behind", "lost"]
theorem S_lay : FnScope N_lay ["web", "board", "hand", "k", "suicide"] (defScope s_lay) := ⟨rfl, rfl, rfl, by decide +kernel, rfl, by decide +kernel, by decide +kernel⟩
set_option maxHeartbeats 4000000 in
theorem cal_lay {K : Frag} {base : Heap} (D : IsDef K Md.mg "lay" s_lay) (c_chain_of : Cal Pw.prog Pw.w K Md.mg base 2 "chain_of" (fun a : (Int × (G.Tup (Int × Int))) × PySem.Str × Int × Unit => a) (fun a : (Int × (G.Tup (Int × Int))) × PySem.Str × Int × Unit => m_chain_of a.1 a.2.1 a.2.2.1) ow) (c_breaths_of : Cal Pw.prog Pw.w K Md.mg base 3 "breaths_of" (fun a : (Int × (G.Tup (Int × Int))) × PySem.Str × Int × Unit => a) (fun a : (Int × (G.Tup (Int × Int))) × PySem.Str × Int × Unit => m_breaths_of a.1 a.2.1 a.2.2.1) ow) (c_signed : Cal Pw.prog Pw.w K Md.mg base 1 "signed" (fun a : PySem.Str × (List Int) × PySem.Str × Unit => a) (fun a : PySem.Str × (List Int) × PySem.Str × Unit => m_signed a.1 a.2.1 a.2.2.1) fr) (c_choked : Cal Pw.prog Pw.w K Md.mg base 4 "choked" (fun a : (Int × (G.Tup (Int × Int))) × PySem.Str × PySem.Str × Int × Unit => a) (fun a : (Int × (G.Tup (Int × Int))) × PySem.Str × PySem.Str × Int × Unit => m_choked a.1 a.2.1 a.2.2.1 a.2.2.2.1) ow) (x_Occupied : HasCl K Md.mg "Occupied") (x_Breathless : HasCl K Md.mg "Breathless") (x_Still : HasCl K Md.mg "Still") :
    Cal Pw.prog Pw.w K Md.mg base 5 "lay" (fun a : (Int × (G.Tup (Int × Int))) × PySem.Str × PySem.Str × Int × Bool × Unit => a) (fun a : (Int × (G.Tup (Int × Int))) × PySem.Str × PySem.Str × Int × Bool × Unit => m_lay a.1 a.2.1 a.2.2.1 a.2.2.2.1 a.2.2.2.2.1) fr :=
  cal_mk (N := N_lay) (ps := ["web", "board", "hand", "k", "suicide"]) D S_lay rfl (fun _ _ _ _ _ _ us hl => match us, hl with | [_, _, _, _, _], _ => rfl) fun a f cdv A' outer s H E hr => by
    obtain ⟨web, board, hand, k, suicide, _⟩ := a
    have S := S_lay
    have tk := takes_of (X := cxOf (L2.CX Pw.prog Pw.w) Pw.prog Pw.w K Md.mg base N_lay "lay" (defScope s_lay) f cdv A' outer s H E) (E := E) rfl rfl rfl rfl
    refine' ST.slots (ss' := [G.fr web, G.fr board, G.fr hand, G.fr k, G.fr suicide, G.any, G.any, G.any, G.any]) (ST.cast ?h ?q) rfl
    (case h => exact (st_guard (t_cmp op_ne (b_neS (α := PySem.Str) (β := PySem.Str)) (nomark _) (xi_ixStr (xi_fr 1) (xi_fr 3)) xi_str) (st_raise x_Occupied tk) (st_seq (s1_set 5 (xk_imm (xi_cal c_signed hr tk (xa_cons (xi_fr 1) (xa_cons (xi_of (xk_lst (xak_imm (xh_cons (xi_fr 3) (xh_nil))))) (xa_cons (xi_fr 2) xa_nil))))) S.nd) fun (full2 : PySem.Str) => (st_seq (s1_set 6 (xk_free (xk_cal c_choked hr tk (xa_cons (xi_fr 0) (xa_cons (xi_fr 5) (xa_cons (xi_fr 2) (xa_cons (xi_fr 3) xa_nil)))))) S.nd) fun (taken3 : (List Int)) => (st_seq (s1_set 7 (xk_imm (xi_cal c_signed hr tk (xa_cons (xi_fr 5) (xa_cons (xi_fr 6) (xa_cons xi_str xa_nil))))) S.nd) fun (behind4 : PySem.Str) => (st_seq (s1_set 8 (xk_free (xk_lst (xhk_nil (α := Int)))) S.nd) fun (lost5 : (List Int)) => (st_seq (s1_if (post := (fun (s7 : (List Int) × PySem.Str) => [G.fr web, G.fr board, G.fr hand, G.fr k, G.fr suicide, G.fr full2, G.fr taken3, G.fr s7.2, G.fr s7.1])) (t_cmp (op_eqD (hu64 hr)) (b_eqD (α := (List Int)) (β := (List Int))) (nomark _) (xi_cal c_breaths_of hr tk (xa_cons (xi_fr 0) (xa_cons (xi_fr 7) (xa_cons (xi_fr 3) xa_nil)))) (xi_of (xk_lst (xhk_nil (α := Int))))) (sn_seq (s1_if (post := (fun (s8 : Unit) => [G.fr web, G.fr board, G.fr hand, G.fr k, G.fr suicide, G.fr full2, G.fr taken3, G.fr behind4, G.fr lost5])) (xt_not (xt_val (xi_fr 4))) (sn_raise x_Breathless tk) (sn_nil (s := ()) (wk_eq (wk_eq (wk_eq (wk_eq (wk_eq (wk_eq (wk_eq (wk_eq (wk_eq wk_nil))))))))))) fun s8 => (sn_seq (s1_set 8 (xk_free (xk_cal c_chain_of hr tk (xa_cons (xi_fr 0) (xa_cons (xi_fr 7) (xa_cons (xi_fr 3) xa_nil))))) S.nd) fun (lost9 : (List Int)) => (sn_seq (s1_set 7 (xk_imm (xi_cal c_signed hr tk (xa_cons (xi_fr 7) (xa_cons (xi_fr 8) (xa_cons xi_str xa_nil))))) S.nd) fun (behind10 : PySem.Str) => (sn_nil (s := (lost9, behind10)) (wk_eq (wk_eq (wk_eq (wk_eq (wk_eq (wk_eq (wk_eq (wk_eq (wk_eq wk_nil))))))))))))) (sn_nil (s := (lost5, behind4)) (wk_eq (wk_eq (wk_eq (wk_eq (wk_eq (wk_eq (wk_eq (wk_eq (wk_eq wk_nil))))))))))) fun s7 => (st_guard (t_cmp op_eq (b_eqS (α := PySem.Str) (β := PySem.Str)) (nomark _) (xi_fr 7) (xi_fr 1)) (st_raise x_Still tk) (st_ret (xk_triple (xak_cons (xk_imm (xi_fr 7)) (xak_cons (xk_fr 6) (xak_cons (xk_fr 8) xak_nil)))))))))))))
    (case q => first | (unfold m_lay; simp only [Res.okb, Res.bind_assoc, memB]; done) | rfl)
def m_is_crossing (web : (Int × (G.Tup (Int × Int)))) (thing : Int) : Res Bool :=
  (if true then (if (!false) then (if (decide ((0 : Int) ≤ thing)) then (Res.ok (decide (thing < (web.1)))) else (Res.ok false)) else (Res.ok false)) else (Res.ok false))
abbrev s_is_crossing : Stmt := topS 21
abbrev N_is_crossing : List Str := ["web", "thing"]
theorem S_is_crossing : FnScope N_is_crossing ["web", "thing"] (defScope s_is_crossing) := ⟨rfl, rfl, rfl, by decide +kernel, rfl, by decide +kernel, by decide +kernel⟩
set_option maxHeartbeats 4000000 in
theorem cal_is_crossing {K : Frag} {base : Heap} (D : IsDef K Md.mg "is_crossing" s_is_crossing) (b_isinstance : Md.mg "isinstance" = none) (b_int : Md.mg "int" = none) (b_bool : Md.mg "bool" = none) :
    Cal Pw.prog Pw.w K Md.mg base 1 "is_crossing" (fun a : (Int × (G.Tup (Int × Int))) × Int × Unit => a) (fun a : (Int × (G.Tup (Int × Int))) × Int × Unit => m_is_crossing a.1 a.2.1) fr :=
  cal_mk (N := N_is_crossing) (ps := ["web", "thing"]) D S_is_crossing rfl (fun _ _ _ _ _ _ us hl => match us, hl with | [_, _], _ => rfl) fun a f cdv A' outer s H E hr => by
    obtain ⟨web, thing, _⟩ := a
    have S := S_is_crossing
    have tk := takes_of (X := cxOf (L2.CX Pw.prog Pw.w) Pw.prog Pw.w K Md.mg base N_is_crossing "is_crossing" (defScope s_is_crossing) f cdv A' outer s H E) (E := E) rfl rfl rfl rfl
    refine' ST.slots (ss' := [G.fr web, G.fr thing]) (ST.cast ?h ?q) rfl
    (case h => exact (st_ret (xk_imm (xi_and (xi_isi (α := Int) (TT := "int") (r := true) (xi_fr 1) (pe_ty b_int (by decide +kernel)) (by decide +kernel) b_isinstance) (xi_and (xi_not (xi_isi (α := Int) (TT := "bool") (r := false) (xi_fr 1) (pe_ty b_bool (by decide +kernel)) (by decide +kernel) b_isinstance)) (xi_one (x_chain op_le b_le op_lt b_lt xi_int (xi_fr 1) (xi_p1 (xi_fr 0)))))))))
    (case q => first | (unfold m_is_crossing; simp only [Res.okb, Res.bind_assoc, memB]; done) | rfl)
def m_is_field (web : (Int × (G.Tup (Int × Int)))) (thing : (List Int)) : Res Bool :=
  (Res.bind (if (!true) then (Res.ok true) else (eqD thing ([] : (List Int)))) fun v9 => (if v9 then (Res.ok false) else (Res.bind (Res.ok (-(1 : Int))) fun (last1 : Int) => (Res.tail (S := Int) (R := Bool) (loopO (fun (s2 : Int) (a3 : Int) => ((Res.next (S := Unit) (Res.bind (Res.bind (Res.bind (m_is_crossing web a3) fun v4 => (Res.ok (!v4))) fun v5 => (if v5 then (Res.ok true) else (Res.ok (decide (a3 ≤ s2))))) fun v7 => (if v7 then (Res.ok (Out.rt false)) else (Res.ok (Out.nx ())))) fun s6 => (Res.bind (Res.ok a3) fun (last8 : Int) => (Res.ok (Out.nx last8)))) : Res (Out (Int) (Int) Bool))) last1 thing) fun s2 => (Res.ok true)))))
abbrev s_is_field : Stmt := topS 22
abbrev N_is_field : List Str := ["web", "thing", "last", "one"]
theorem S_is_field : FnScope N_is_field ["web", "thing"] (defScope s_is_field) := ⟨rfl, rfl, rfl, by decide +kernel, rfl, by decide +kernel, by decide +kernel⟩
set_option maxHeartbeats 4000000 in
theorem cal_is_field {K : Frag} {base : Heap} (D : IsDef K Md.mg "is_field" s_is_field) (c_is_crossing : Cal Pw.prog Pw.w K Md.mg base 1 "is_crossing" (fun a : (Int × (G.Tup (Int × Int))) × Int × Unit => a) (fun a : (Int × (G.Tup (Int × Int))) × Int × Unit => m_is_crossing a.1 a.2.1) fr) (b_isinstance : Md.mg "isinstance" = none) (b_list : Md.mg "list" = none) :
    Cal Pw.prog Pw.w K Md.mg base 2 "is_field" (fun a : (Int × (G.Tup (Int × Int))) × (List Int) × Unit => a) (fun a : (Int × (G.Tup (Int × Int))) × (List Int) × Unit => m_is_field a.1 a.2.1) fr :=
  cal_mk (N := N_is_field) (ps := ["web", "thing"]) D S_is_field rfl (fun _ _ _ _ _ _ us hl => match us, hl with | [_, _], _ => rfl) fun a f cdv A' outer s H E hr => by
    obtain ⟨web, thing, _⟩ := a
    have S := S_is_field
    have tk := takes_of (X := cxOf (L2.CX Pw.prog Pw.w) Pw.prog Pw.w K Md.mg base N_is_field "is_field" (defScope s_is_field) f cdv A' outer s H E) (E := E) rfl rfl rfl rfl
    refine' ST.slots (ss' := [G.fr web, G.fr thing, G.any, G.any]) (ST.cast ?h ?q) rfl
    (case h => exact (st_guard (xt_w (xw_or (xt_not (xt_val (xi_isi (α := (List Int)) (TT := "list") (r := true) (xi_fr 1) (pe_ty b_list (by decide +kernel)) (by decide +kernel) b_isinstance))) (xw_or1 (t_cmp (op_eqD (hu64 hr)) (b_eqD (α := (List Int)) (β := (List Int))) (nomark _) (xi_fr 1) (xi_of (xk_lst (xhk_nil (α := Int)))))))) (st_ret (xk_imm xi_bl)) (st_seq (s1_set 2 (xk_imm (xi_neg xi_int)) S.nd) fun (last1 : Int) => (st_b1 (S := Int) (R := Bool) (pl := fun x => nomatch x) (b1_for (S := Int) (R := Bool) (fun (s2 : Int) => [G.fr web, G.fr thing, G.fr s2, G.any]) last1 (it_list (xk_fr 1)) (tg_name 3 S.nd) (fun s2 a3 => (sb_b1 (S := Unit) (b1_if (post := (fun (s6 : Unit) => [G.fr web, G.fr thing, G.fr s2, G.fr a3])) (xt_w (xw_or (xt_not (xt_val (xi_cal c_is_crossing hr tk (xa_cons (xi_fr 0) (xa_cons (xi_fr 3) xa_nil))))) (xw_or1 (t_cmp op_le b_le (nomark _) (xi_fr 3) (xi_fr 2))))) (sb_ret (xk_imm xi_bl)) (sb_nil (s := ()) (wk_eq (wk_eq (wk_eq (wk_eq wk_nil)))))) fun s6 => (sb_seq (s1_set 2 (xk_imm (xi_fr 3)) S.nd) fun (last8 : Int) => (sb_nil (s := last8) (wk_eq (wk_eq (wk_eq (wk_any wk_nil)))))))) (wk_eq (wk_eq (wk_eq (wk_eq wk_nil))))) fun s2 => (st_ret (xk_imm xi_bl))))))
    (case q => first | (unfold m_is_field; simp only [Res.okb, Res.bind_assoc, memB]; done) | rfl)
def m_are_fields (web : (Int × (G.Tup (Int × Int)))) (thing : (List (List Int))) : Res Bool :=
  (Res.bind (if (!true) then (Res.ok true) else (Res.ok (decide ((thing.length : Int) < (2 : Int))))) fun v11 => (if v11 then (Res.ok false) else (Res.bind (Res.ok ([] : (List Int))) fun (known1 : (List Int)) => (Res.tail (S := (List Int)) (R := Bool) (loopO (fun (s2 : (List Int)) (a3 : (List Int)) => ((Res.next (S := Unit) (Res.bind (Res.bind (Res.bind (m_is_field web a3) fun v4 => (Res.ok (!v4))) fun v7 => (if v7 then (Res.ok true) else (Res.bind (lcT (fun a5 => (Res.ok (decide (a5 ∈ s2)))) (fun a5 => (Res.ok a5)) a3) fun v6 => (neD v6 ([] : (List Int)))))) fun v9 => (if v9 then (Res.ok (Out.rt false)) else (Res.ok (Out.nx ())))) fun s8 => (Res.bind (extR s2 a3) fun known10 => (Res.ok (Out.nx known10)))) : Res (Out ((List Int)) ((List Int)) Bool))) known1 thing) fun s2 => (Res.ok true)))))
abbrev s_are_fields : Stmt := topS 24
abbrev N_are_fields : List Str := ["web", "thing", "known", "one", "k"]
theorem S_are_fields : FnScope N_are_fields ["web", "thing"] (defScope s_are_fields) := ⟨rfl, rfl, rfl, by decide +kernel, rfl, by decide +kernel, by decide +kernel⟩
set_option maxHeartbeats 4000000 in
theorem cal_are_fields {K : Frag} {base : Heap} (D : IsDef K Md.mg "are_fields" s_are_fields) (c_is_field : Cal Pw.prog Pw.w K Md.mg base 2 "is_field" (fun a : (Int × (G.Tup (Int × Int))) × (List Int) × Unit => a) (fun a : (Int × (G.Tup (Int × Int))) × (List Int) × Unit => m_is_field a.1 a.2.1) fr) (b_isinstance : Md.mg "isinstance" = none) (b_list : Md.mg "list" = none) (b_len : Md.mg "len" = none) :
    Cal Pw.prog Pw.w K Md.mg base 3 "are_fields" (fun a : (Int × (G.Tup (Int × Int))) × (List (List Int)) × Unit => a) (fun a : (Int × (G.Tup (Int × Int))) × (List (List Int)) × Unit => m_are_fields a.1 a.2.1) fr :=
  cal_mk (N := N_are_fields) (ps := ["web", "thing"]) D S_are_fields rfl (fun _ _ _ _ _ _ us hl => match us, hl with | [_, _], _ => rfl) fun a f cdv A' outer s H E hr => by
    obtain ⟨web, thing, _⟩ := a
    have S := S_are_fields
    have tk := takes_of (X := cxOf (L2.CX Pw.prog Pw.w) Pw.prog Pw.w K Md.mg base N_are_fields "are_fields" (defScope s_are_fields) f cdv A' outer s H E) (E := E) rfl rfl rfl rfl
    refine' ST.slots (ss' := [G.fr web, G.fr thing, G.any, G.any, G.any]) (ST.cast ?h ?q) rfl
    (case h => exact (st_guard (xt_w (xw_or (xt_not (xt_val (xi_isi (α := (List (List Int))) (TT := "list") (r := true) (xi_fr 1) (pe_ty b_list (by decide +kernel)) (by decide +kernel) b_isinstance))) (xw_or1 (t_cmp op_lt b_lt (nomark _) (xi_bf call_len c_lenL b_len PySem.boot_len (xa_cons (xi_fr 1) xa_nil)) xi_int)))) (st_ret (xk_imm xi_bl)) (st_seq (s1_set 2 (xk_lst (xhk_nil (α := Int))) S.nd) fun (known1 : (List Int)) => (st_b1 (S := (List Int)) (R := Bool) (pl := fun x => nomatch x) (b1_for (S := (List Int)) (R := Bool) (fun (s2 : (List Int)) => [G.fr web, G.fr thing, G.ow s2, G.any, G.any]) known1 (it_list (xk_fr 1)) (tg_name 3 S.nd) (fun s2 a3 => (sb_b1 (S := Unit) (b1_if (post := (fun (s8 : Unit) => [G.fr web, G.fr thing, G.ow s2, G.fr a3, G.any])) (xt_w (xw_or (xt_not (xt_val (xi_cal c_is_field hr tk (xa_cons (xi_fr 0) (xa_cons (xi_fr 3) xa_nil))))) (xw_or1 (t_cmp (op_neD (hu64 hr)) (b_neD (α := (List Int)) (β := (List Int))) (nomark _) (xi_of (xk_lcIf (own := [("k", 4)]) (it_list (xk_fr 3)) (tc_name 4 S.nd) (fun a5 _ _ _ _ _ => (t_cmp op_in_seq (b_inL (α := Int)) (by with_unfolding_all rfl) (xi_fr 4) (xi_ow 2))) (fun a5 _ _ _ _ _ => (xk_fr 4)) S.nd (blkOk_by (N := N_are_fields) (sc := defScope s_are_fields) (by decide +kernel)))) (xi_of (xk_lst (xhk_nil (α := Int)))))))) (sb_ret (xk_imm xi_bl)) (sb_nil (s := ()) (wk_eq (wk_eq (wk_eq (wk_eq (wk_eq wk_nil))))))) fun s8 => (sb_seq (s1_extI 2 (xi_fr 3)) fun known10 => (sb_nil (s := known10) (wk_eq (wk_eq (wk_eq (wk_any (wk_eq wk_nil))))))))) (wk_eq (wk_eq (wk_eq (wk_eq (wk_eq wk_nil)))))) fun s2 => (st_ret (xk_imm xi_bl))))))
    (case q => first | (unfold m_are_fields; simp only [Res.okb, Res.bind_assoc, memB]; done) | rfl)
def m_Surroundings___init__ (web : (Int × (G.Tup (Int × Int)))) (board : PySem.Str) (fields : (List (List Int))) : Res FlT_Surroundings :=
  (Res.bind (Res.ok web) fun (the_web1 : (Int × (G.Tup (Int × Int)))) => (Res.bind (Res.ok board) fun (signs2 : PySem.Str) => (Res.bind (Res.ok (⟨[]⟩ : (G.Dic Int Int))) fun (owners3 : (G.Dic Int Int)) => (Res.bind (foldR (fun (s4 : (G.Ob "Surroundings" FlT_Surroundings)) (a5 : (Int × (List Int))) => (Res.bind (foldR (fun (s6 : (G.Ob "Surroundings" FlT_Surroundings)) (a7 : Int) => (Res.bind (Res.bind (dputR (s6.v.2) a7 a5.1) fun d9 => (Res.ok (⟨(s6.v.1, d9)⟩ : (G.Ob "Surroundings" FlT_Surroundings)))) fun (self8 : (G.Ob "Surroundings" FlT_Surroundings)) => (Res.ok self8))) s4 a5.2) fun s6 => (Res.ok s6))) (⟨((((), the_web1), signs2), owners3)⟩ : (G.Ob "Surroundings" FlT_Surroundings)) (enumL fields)) fun s4 => (Res.ok s4.v)))))
abbrev s_Surroundings___init__ : Stmt := inClass (topS 25) 0
abbrev N_Surroundings___init__ : List Str := ["self", "web", "board", "fields", "number", "one", "k"]
theorem S_Surroundings___init__ : FnScope N_Surroundings___init__ ["self", "web", "board", "fields"] (defScope s_Surroundings___init__) := ⟨rfl, rfl, rfl, by decide +kernel, rfl, by decide +kernel, by decide +kernel⟩
set_option maxHeartbeats 4000000 in
theorem cal_Surroundings___init__ {K : Frag} {base : Heap} (D : IsIni K "Surroundings" "Surroundings.__init__" s_Surroundings___init__) (gl : Md.mg "Surroundings" = some (.ref (ObC.C "Surroundings"))) (b_enumerate : Md.mg "enumerate" = none) (ok_Surroundings : ObOk K "Surroundings") :
    CalIO Pw.prog Pw.w K Md.mg base 1 "Surroundings" OwF_Surroundings (fun a : (Int × (G.Tup (Int × Int))) × PySem.Str × (List (List Int)) × Unit => a) (fun a : (Int × (G.Tup (Int × Int))) × PySem.Str × (List (List Int)) × Unit => m_Surroundings___init__ a.1 a.2.1 a.2.2.1) :=
  cal_mkIO (N := N_Surroundings___init__) (ps := ["self", "web", "board", "fields"]) D gl S_Surroundings___init__ rfl (fun _ _ _ _ _ _ us hl => match us, hl with | [_, _, _, _], _ => rfl) fun p_ a f cdv A' outer s H E hr => by
    obtain ⟨web, board, fields, _⟩ := a
    have S := S_Surroundings___init__
    have tk := takes_of (X := cxOf (L2.CX Pw.prog Pw.w) Pw.prog Pw.w K Md.mg base N_Surroundings___init__ "Surroundings.__init__" (defScope s_Surroundings___init__) f cdv A' outer s H E) (E := E) rfl rfl rfl rfl
    refine' ST.slots (ss' := [(G.nobO (ObC.C "Surroundings") p_ [] G.unF (() : Unit)), G.fr web, G.fr board, G.fr fields, G.any, G.any, G.any]) (ST.cast ?h ?q) rfl
    (case h => exact (st_seq (s1_setFO 0 rfl (xk_fz (xk_fr 1)) ok_Surroundings.cl (ok_Surroundings.na _ (by decide +kernel)) (by decide)) fun (the_web1 : (Int × (G.Tup (Int × Int)))) => (st_seq (s1_setFO 0 rfl (xk_fz (xk_fr 2)) ok_Surroundings.cl (ok_Surroundings.na _ (by decide +kernel)) (by decide)) fun (signs2 : PySem.Str) => (st_seq (s1_setFO 0 rfl (xk_dfo (xk_dnew (κ := Int) (β := Int))) ok_Surroundings.cl (ok_Surroundings.na _ (by decide +kernel)) (by decide)) fun (owners3 : (G.Dic Int Int)) => (st_slot 0 nob_po (st_seq (s1_for (S := (G.Ob "Surroundings" FlT_Surroundings)) (fun (s4 : (G.Ob "Surroundings" FlT_Surroundings)) => [G.po (.ref p_) OwD_Surroundings s4, G.fr web, G.fr board, G.fr fields, G.any, G.any, G.any]) (⟨((((), the_web1), signs2), owners3)⟩ : (G.Ob "Surroundings" FlT_Surroundings)) (it_enum (xak_cons (xk_fr 3) xak_nil) b_enumerate) (tg_two (tg_name 4 S.nd) (tg_name 5 S.nd)) (fun s4 a5 => (sn_seq (s1_for (S := (G.Ob "Surroundings" FlT_Surroundings)) (fun (s6 : (G.Ob "Surroundings" FlT_Surroundings)) => [G.po (.ref p_) OwD_Surroundings s6, G.fr web, G.fr board, G.fr fields, G.fr a5.1, G.fr a5.2, G.any]) s4 (it_list (xk_fr 5)) (tg_name 6 S.nd) (fun s6 a7 => (sn_seq (s1_fdput 0 (G.osp (.ref p_) OwD_Surroundings) ok_Surroundings sel_0O (hu1 hr) (xk_fr 4) (xi_fr 6)) fun (self8 : (G.Ob "Surroundings" FlT_Surroundings)) => (sn_nil (s := self8) (wk_eq (wk_eq (wk_eq (wk_eq (wk_eq (wk_eq (wk_any wk_nil)))))))))) (wk_eq (wk_eq (wk_eq (wk_eq (wk_eq (wk_eq (wk_eq wk_nil)))))))) fun s6 => (sn_nil (s := s6) (wk_eq (wk_eq (wk_eq (wk_eq (wk_any (wk_any (wk_eq wk_nil)))))))))) (wk_eq (wk_eq (wk_eq (wk_eq (wk_eq (wk_eq (wk_eq wk_nil)))))))) fun s4 => (st_iniP 0)))))))
    (case q => first | (unfold m_Surroundings___init__; simp only [Res.okb, Res.bind_assoc, memB]; done) | rfl)
def m_Surroundings_outside (self : (G.Ob "Surroundings" FlT_Surroundings)) (sign : PySem.Str) : Res (List Int) :=
  (Res.bind (guardR (small62 ((self.v.1.1.2).1)) (Res.ok (rangeL 0 (((self.v.1.1.2).1)).toNat))) fun v4 => (lcT (fun a1 => (Res.bind (Res.bind (strIx (self.v.1.2) a1) fun v2 => (Res.ok (ScaEq.eq v2 sign))) fun v3 => (if v3 then (Res.ok (!dhas (self.v.2) a1)) else (Res.ok false)))) (fun a1 => (Res.ok a1)) v4))
abbrev s_Surroundings_outside : Stmt := inClass (topS 25) 1
abbrev N_Surroundings_outside : List Str := ["self", "sign", "k"]
theorem S_Surroundings_outside : FnScope N_Surroundings_outside ["self", "sign"] (defScope s_Surroundings_outside) := ⟨rfl, rfl, rfl, by decide +kernel, rfl, by decide +kernel, by decide +kernel⟩
set_option maxHeartbeats 4000000 in
theorem cal_Surroundings_outside {K : Frag} {base : Heap} (D : IsMeth K "Surroundings" "Surroundings.outside" "outside" s_Surroundings_outside) (b_range : Md.mg "range" = none) (ok_Surroundings : ObOk K "Surroundings") :
    CalM Pw.prog Pw.w K Md.mg base 1 "Surroundings" "outside" (fun a : (G.Ob "Surroundings" FlT_Surroundings) × PySem.Str × Unit => a) (fun a : (G.Ob "Surroundings" FlT_Surroundings) × PySem.Str × Unit => m_Surroundings_outside a.1 a.2.1) ow :=
  cal_mkM (N := N_Surroundings_outside) (ps := ["self", "sign"]) D S_Surroundings_outside rfl (fun _ _ _ _ _ _ us hl => match us, hl with | [_, _], _ => rfl) fun a f cdv A' outer s H E hr => by
    obtain ⟨self, sign, _⟩ := a
    have S := S_Surroundings_outside
    have tk := takes_of (X := cxOf (L2.CX Pw.prog Pw.w) Pw.prog Pw.w K Md.mg base N_Surroundings_outside "Surroundings.outside" (defScope s_Surroundings_outside) f cdv A' outer s H E) (E := E) rfl rfl rfl rfl
    refine' ST.slots (ss' := [G.fr self, G.fr sign, G.any]) (ST.cast ?h ?q) rfl
    (case h => exact (st_ret (xk_lcIf (own := [("k", 2)]) (it_range1 (xa_cons (xi_p1 (xi_of (xk_fld ok_Surroundings (sel_s (sel_s sel_0)) (xk_fr 0)))) xa_nil) b_range) (tc_name 2 S.nd) (fun a1 _ _ _ _ _ => (xt_w (xw_and (t_cmp op_eq (b_eqS (α := PySem.Str) (β := PySem.Str)) (nomark _) (xi_ixStr (xi_of (xk_fld ok_Surroundings (sel_s sel_0) (xk_fr 0))) (xi_fr 2)) (xi_fr 1)) (xw_and1 (t_dnin (hu1 hr) (xi_fr 2) (xi_of (xk_fld ok_Surroundings sel_0 (xk_fr 0)))))))) (fun a1 _ _ _ _ _ => (xk_fr 2)) S.nd (blkOk_by (N := N_Surroundings_outside) (sc := defScope s_Surroundings_outside) (by decide +kernel)))))
    (case q => first | (unfold m_Surroundings_outside; simp only [Res.okb, Res.bind_assoc, memB]; done) | rfl)
def m_Surroundings_touched (self : (G.Ob "Surroundings" FlT_Surroundings)) (piece : (List Int)) : Res (List Int) :=
  (Res.bind (Res.ok ([] : (List Int))) fun (found1 : (List Int)) => (Res.bind (foldR (fun (s2 : (List Int)) (a3 : Int) => (Res.bind (Res.bind (Res.bind (m_next_to (self.v.1.1.2) a3) fun v6 => (lcT (fun a5 => (Res.ok (dhas (self.v.2) a5))) (fun a5 => (unw (dget (self.v.2) a5))) v6)) fun v7 => (extR s2 v7)) fun found4 => (Res.ok found4))) found1 piece) fun s2 => (guardR (decide (s2.length < 60)) (Res.ok (setI' s2)))))
abbrev s_Surroundings_touched : Stmt := inClass (topS 25) 2
abbrev N_Surroundings_touched : List Str := ["self", "piece", "found", "k", "one"]
theorem S_Surroundings_touched : FnScope N_Surroundings_touched ["self", "piece"] (defScope s_Surroundings_touched) := ⟨rfl, rfl, rfl, by decide +kernel, rfl, by decide +kernel, by decide +kernel⟩
set_option maxHeartbeats 4000000 in
theorem cal_Surroundings_touched {K : Frag} {base : Heap} (D : IsMeth K "Surroundings" "Surroundings.touched" "touched" s_Surroundings_touched) (c_next_to : Cal Pw.prog Pw.w K Md.mg base 1 "next_to" (fun a : (Int × (G.Tup (Int × Int))) × Int × Unit => a) (fun a : (Int × (G.Tup (Int × Int))) × Int × Unit => m_next_to a.1 a.2.1) ow) (b_sorted : Md.mg "sorted" = none) (b_set : Md.mg "set" = none) (ok_Surroundings : ObOk K "Surroundings") :
    CalM Pw.prog Pw.w K Md.mg base 2 "Surroundings" "touched" (fun a : (G.Ob "Surroundings" FlT_Surroundings) × (List Int) × Unit => a) (fun a : (G.Ob "Surroundings" FlT_Surroundings) × (List Int) × Unit => m_Surroundings_touched a.1 a.2.1) ow :=
  cal_mkM (N := N_Surroundings_touched) (ps := ["self", "piece"]) D S_Surroundings_touched rfl (fun _ _ _ _ _ _ us hl => match us, hl with | [_, _], _ => rfl) fun a f cdv A' outer s H E hr => by
    obtain ⟨self, piece, _⟩ := a
    have S := S_Surroundings_touched
    have tk := takes_of (X := cxOf (L2.CX Pw.prog Pw.w) Pw.prog Pw.w K Md.mg base N_Surroundings_touched "Surroundings.touched" (defScope s_Surroundings_touched) f cdv A' outer s H E) (E := E) rfl rfl rfl rfl
    refine' ST.slots (ss' := [G.fr self, G.fr piece, G.any, G.any, G.any]) (ST.cast ?h ?q) rfl
    (case h => exact (st_seq (s1_set 2 (xk_lst (xhk_nil (α := Int))) S.nd) fun (found1 : (List Int)) => (st_seq (s1_for (S := (List Int)) (fun (s2 : (List Int)) => [G.fr self, G.fr piece, G.ow s2, G.any, G.any]) found1 (it_list (xk_fr 1)) (tg_name 3 S.nd) (fun s2 a3 => (sn_seq (s1_extI 2 (xi_of (xk_lcIf (own := [("one", 4)]) (it_list (xk_free (xk_cal c_next_to hr tk (xa_cons (xi_of (xk_fld ok_Surroundings (sel_s (sel_s sel_0)) (xk_fr 0))) (xa_cons (xi_fr 3) xa_nil))))) (tc_name 4 S.nd) (fun a5 _ _ _ _ _ => (t_din (hu1 hr) (xi_fr 4) (xi_of (xk_fld ok_Surroundings sel_0 (xk_fr 0))))) (fun a5 _ _ _ _ _ => (xk_imm (x_dget (hu1 hr) (xi_of (xk_fld ok_Surroundings sel_0 (xk_fr 0))) (xi_fr 4)))) S.nd (blkOk_by (N := N_Surroundings_touched) (sc := defScope s_Surroundings_touched) (by decide +kernel))))) fun found4 => (sn_nil (s := found4) (wk_eq (wk_eq (wk_eq (wk_any (wk_eq wk_nil)))))))) (wk_eq (wk_eq (wk_eq (wk_eq (wk_eq wk_nil)))))) fun s2 => (st_ret (xk_sortedSet (xa_cons (xi_ow 2) xa_nil) b_sorted b_set)))))
    (case q => first | (unfold m_Surroundings_touched; simp only [Res.okb, Res.bind_assoc, memB]; done) | rfl)
def m_Surroundings_is_shaky (self : (G.Ob "Surroundings" FlT_Surroundings)) (piece : (List Int)) : Res Bool :=
  (Res.tail (S := Unit) (R := Bool) (loopO (fun (s1 : Unit) (a2 : Int) => ((Res.next (S := Unit) (Res.bind (m_next_to (self.v.1.1.2) a2) fun v9 => (loopO (fun (s3 : Unit) (a4 : Int) => ((Res.next (S := Unit) (Res.bind (Res.bind (Res.bind (strIx (self.v.1.2) a4) fun v5 => (Res.ok (ScaEq.eq v5 (PySem.Str.ofString ".")))) fun v6 => (if v6 then (Res.ok (!dhas (self.v.2) a4)) else (Res.ok false))) fun v8 => (if v8 then (Res.ok (Out.rt false)) else (Res.ok (Out.nx ())))) fun s7 => (Res.ok (Out.nx ()))) : Res (Out (Unit) (Unit) Bool))) () v9)) fun s3 => (Res.ok (Out.nx ()))) : Res (Out (Unit) (Unit) Bool))) () piece) fun s1 => (Res.ok true))
abbrev s_Surroundings_is_shaky : Stmt := inClass (topS 25) 3
abbrev N_Surroundings_is_shaky : List Str := ["self", "piece", "k", "one"]
theorem S_Surroundings_is_shaky : FnScope N_Surroundings_is_shaky ["self", "piece"] (defScope s_Surroundings_is_shaky) := ⟨rfl, rfl, rfl, by decide +kernel, rfl, by decide +kernel, by decide +kernel⟩
set_option maxHeartbeats 4000000 in
theorem cal_Surroundings_is_shaky {K : Frag} {base : Heap} (D : IsMeth K "Surroundings" "Surroundings.is_shaky" "is_shaky" s_Surroundings_is_shaky) (c_next_to : Cal Pw.prog Pw.w K Md.mg base 1 "next_to" (fun a : (Int × (G.Tup (Int × Int))) × Int × Unit => a) (fun a : (Int × (G.Tup (Int × Int))) × Int × Unit => m_next_to a.1 a.2.1) ow) (ok_Surroundings : ObOk K "Surroundings") :
    CalM Pw.prog Pw.w K Md.mg base 2 "Surroundings" "is_shaky" (fun a : (G.Ob "Surroundings" FlT_Surroundings) × (List Int) × Unit => a) (fun a : (G.Ob "Surroundings" FlT_Surroundings) × (List Int) × Unit => m_Surroundings_is_shaky a.1 a.2.1) fr :=
  cal_mkM (N := N_Surroundings_is_shaky) (ps := ["self", "piece"]) D S_Surroundings_is_shaky rfl (fun _ _ _ _ _ _ us hl => match us, hl with | [_, _], _ => rfl) fun a f cdv A' outer s H E hr => by
    obtain ⟨self, piece, _⟩ := a
    have S := S_Surroundings_is_shaky
    have tk := takes_of (X := cxOf (L2.CX Pw.prog Pw.w) Pw.prog Pw.w K Md.mg base N_Surroundings_is_shaky "Surroundings.is_shaky" (defScope s_Surroundings_is_shaky) f cdv A' outer s H E) (E := E) rfl rfl rfl rfl
    refine' ST.slots (ss' := [G.fr self, G.fr piece, G.any, G.any]) (ST.cast ?h ?q) rfl
    (case h => exact (st_b1 (S := Unit) (R := Bool) (pl := fun x => nomatch x) (b1_for (S := Unit) (R := Bool) (fun (s1 : Unit) => [G.fr self, G.fr piece, G.any, G.any]) () (it_list (xk_fr 1)) (tg_name 2 S.nd) (fun s1 a2 => (sb_b1 (S := Unit) (b1_for (S := Unit) (R := Bool) (fun (s3 : Unit) => [G.fr self, G.fr piece, G.fr a2, G.any]) () (it_list (xk_free (xk_cal c_next_to hr tk (xa_cons (xi_of (xk_fld ok_Surroundings (sel_s (sel_s sel_0)) (xk_fr 0))) (xa_cons (xi_fr 2) xa_nil))))) (tg_name 3 S.nd) (fun s3 a4 => (sb_b1 (S := Unit) (b1_if (post := (fun (s7 : Unit) => [G.fr self, G.fr piece, G.fr a2, G.fr a4])) (xt_w (xw_and (t_cmp op_eq (b_eqS (α := PySem.Str) (β := PySem.Str)) (nomark _) (xi_ixStr (xi_of (xk_fld ok_Surroundings (sel_s sel_0) (xk_fr 0))) (xi_fr 3)) xi_str) (xw_and1 (t_dnin (hu1 hr) (xi_fr 3) (xi_of (xk_fld ok_Surroundings sel_0 (xk_fr 0))))))) (sb_ret (xk_imm xi_bl)) (sb_nil (s := ()) (wk_eq (wk_eq (wk_eq (wk_eq wk_nil)))))) fun s7 => (sb_nil (s := ()) (wk_eq (wk_eq (wk_eq (wk_any wk_nil))))))) (wk_eq (wk_eq (wk_eq (wk_eq wk_nil))))) fun s3 => (sb_nil (s := ()) (wk_eq (wk_eq (wk_any (wk_eq wk_nil))))))) (wk_eq (wk_eq (wk_eq (wk_eq wk_nil))))) fun s1 => (st_ret (xk_imm xi_bl))))
    (case q => first | (unfold m_Surroundings_is_shaky; simp only [Res.okb, Res.bind_assoc, memB]; done) | rfl)
def m_Surroundings_shaky (self : (G.Ob "Surroundings" FlT_Surroundings)) : Res (List (List Int)) :=
  (Res.bind (Res.bind (Res.bind (Res.bind (Res.bind (m_Surroundings_outside self (PySem.Str.ofString "x")) fun v11 => (Res.ok (v11, ()))) fun v12 => (Res.ok ((self.v.1.1.2), v12))) fun a13 => (m_pieces a13.1 a13.2.1)) fun v17 => (Res.bind (Res.bind (Res.bind (Res.bind (m_Surroundings_outside self (PySem.Str.ofString "o")) fun v14 => (Res.ok (v14, ()))) fun v15 => (Res.ok ((self.v.1.1.2), v15))) fun a16 => (m_pieces a16.1 a16.2.1)) fun v18 => (catR v17 v18))) fun (found1 : (List (List Int))) => (Res.bind (lcT (fun a20 => (m_Surroundings_is_shaky self a20)) (fun a20 => (Res.ok a20)) found1) fun v21 => (sortD v21)))
abbrev s_Surroundings_shaky : Stmt := inClass (topS 25) 4
abbrev N_Surroundings_shaky : List Str := ["self", "found", "piece"]
theorem S_Surroundings_shaky : FnScope N_Surroundings_shaky ["self"] (defScope s_Surroundings_shaky) := ⟨rfl, rfl, rfl, by decide +kernel, rfl, by decide +kernel, by decide +kernel⟩
set_option maxHeartbeats 4000000 in
theorem cal_Surroundings_shaky {K : Frag} {base : Heap} (D : IsMeth K "Surroundings" "Surroundings.shaky" "shaky" s_Surroundings_shaky) (c_pieces : Cal Pw.prog Pw.w K Md.mg base 2 "pieces" (fun a : (Int × (G.Tup (Int × Int))) × (List Int) × Unit => a) (fun a : (Int × (G.Tup (Int × Int))) × (List Int) × Unit => m_pieces a.1 a.2.1) (G.os (G.lsO G.l1))) (c_Surroundings_outside : CalM Pw.prog Pw.w K Md.mg base 1 "Surroundings" "outside" (fun a : (G.Ob "Surroundings" FlT_Surroundings) × PySem.Str × Unit => a) (fun a : (G.Ob "Surroundings" FlT_Surroundings) × PySem.Str × Unit => m_Surroundings_outside a.1 a.2.1) ow) (c_Surroundings_is_shaky : CalM Pw.prog Pw.w K Md.mg base 2 "Surroundings" "is_shaky" (fun a : (G.Ob "Surroundings" FlT_Surroundings) × (List Int) × Unit => a) (fun a : (G.Ob "Surroundings" FlT_Surroundings) × (List Int) × Unit => m_Surroundings_is_shaky a.1 a.2.1) fr) (b_sorted : Md.mg "sorted" = none) (ok_Surroundings : ObOk K "Surroundings") :
    CalM Pw.prog Pw.w K Md.mg base 3 "Surroundings" "shaky" (fun a : (G.Ob "Surroundings" FlT_Surroundings) × Unit => a) (fun a : (G.Ob "Surroundings" FlT_Surroundings) × Unit => m_Surroundings_shaky a.1) fr :=
  cal_mkM (N := N_Surroundings_shaky) (ps := ["self"]) D S_Surroundings_shaky rfl (fun _ _ _ _ _ _ us hl => match us, hl with | [_], _ => rfl) fun a f cdv A' outer s H E hr => by
    obtain ⟨self, _⟩ := a
    have S := S_Surroundings_shaky
    have tk := takes_of (X := cxOf (L2.CX Pw.prog Pw.w) Pw.prog Pw.w K Md.mg base N_Surroundings_shaky "Surroundings.shaky" (defScope s_Surroundings_shaky) f cdv A' outer s H E) (E := E) rfl rfl rfl rfl
    refine' ST.slots (ss' := [G.fr self, G.any, G.any]) (ST.cast ?h ?q) rfl
    (case h => exact (st_seq (s1_set 1 (xk_free (xk_catL (xl_fr (xk_freeO (xk_cal c_pieces hr tk (xa_cons (xi_of (xk_fld ok_Surroundings (sel_s (sel_s sel_0)) (xk_fr 0))) (xa_cons (xi_of (xk_meth ok_Surroundings c_Surroundings_outside hr tk (xk_fr 0) (xak_cons (xk_imm xi_str) xak_nil))) xa_nil))))) (xl_fr (xk_freeO (xk_cal c_pieces hr tk (xa_cons (xi_of (xk_fld ok_Surroundings (sel_s (sel_s sel_0)) (xk_fr 0))) (xa_cons (xi_of (xk_meth ok_Surroundings c_Surroundings_outside hr tk (xk_fr 0) (xak_cons (xk_imm xi_str) xak_nil))) xa_nil))))))) S.nd) fun (found1 : (List (List Int))) => (st_ret (xk_free (xk_sortD (α := (List Int)) hr (xl_own (xk_lcIf (own := [("piece", 2)]) (it_list (xk_fr 1)) (tc_name 2 S.nd) (fun a20 _ _ _ _ _ => (xt_val (xi_of (xk_meth ok_Surroundings c_Surroundings_is_shaky hr takes0 (xk_fr 0) (xak_cons (xk_fr 2) xak_nil))))) (fun a20 _ _ _ _ _ => (xk_fr 2)) S.nd (blkOk_by (N := N_Surroundings_shaky) (sc := defScope s_Surroundings_shaky) (by decide +kernel)))) b_sorted)))))
    (case q => first | (unfold m_Surroundings_shaky; simp only [Res.okb, Res.bind_assoc, memB]; done) | rfl)
def m_Surroundings_tie_between (self : (G.Ob "Surroundings" FlT_Surroundings)) : Res (Option (G.T3 PySem.Str Int Int)) :=
  (Res.tail (S := Unit) (R := (Option (G.T3 PySem.Str Int Int))) (loopO (fun (s1 : Unit) (a2 : (Int × Int)) => ((Res.next (S := Unit) (Res.bind (if (dhas (self.v.2) a2.1) then (if (dhas (self.v.2) a2.2) then (Res.bind (unw (dget (self.v.2) a2.1)) fun v3 => (Res.bind (unw (dget (self.v.2) a2.2)) fun v4 => (Res.ok (!ScaEq.eq v3 v4)))) else (Res.ok false)) else (Res.ok false)) fun v6 => (if v6 then (Res.ok (Out.rt (some (⟨(PySem.Str.ofString "tie"), a2.1, a2.2⟩ : (G.T3 PySem.Str Int Int))))) else (Res.ok (Out.nx ())))) fun s5 => (Res.ok (Out.nx ()))) : Res (Out (Unit) (Unit) (Option (G.T3 PySem.Str Int Int))))) () ((self.v.1.1.2).2).l) fun s1 => (Res.ok (none : (Option (G.T3 PySem.Str Int Int)))))
abbrev s_Surroundings_tie_between : Stmt := inClass (topS 25) 5
abbrev N_Surroundings_tie_between : List Str := ["self", "one", "other"]
theorem S_Surroundings_tie_between : FnScope N_Surroundings_tie_between ["self"] (defScope s_Surroundings_tie_between) := ⟨rfl, rfl, rfl, by decide +kernel, rfl, by decide +kernel, by decide +kernel⟩
set_option maxHeartbeats 4000000 in
theorem cal_Surroundings_tie_between {K : Frag} {base : Heap} (D : IsMeth K "Surroundings" "Surroundings.tie_between" "tie_between" s_Surroundings_tie_between) (ok_Surroundings : ObOk K "Surroundings") :
    CalM Pw.prog Pw.w K Md.mg base 1 "Surroundings" "tie_between" (fun a : (G.Ob "Surroundings" FlT_Surroundings) × Unit => a) (fun a : (G.Ob "Surroundings" FlT_Surroundings) × Unit => m_Surroundings_tie_between a.1) fr :=
  cal_mkM (N := N_Surroundings_tie_between) (ps := ["self"]) D S_Surroundings_tie_between rfl (fun _ _ _ _ _ _ us hl => match us, hl with | [_], _ => rfl) fun a f cdv A' outer s H E hr => by
    obtain ⟨self, _⟩ := a
    have S := S_Surroundings_tie_between
    have tk := takes_of (X := cxOf (L2.CX Pw.prog Pw.w) Pw.prog Pw.w K Md.mg base N_Surroundings_tie_between "Surroundings.tie_between" (defScope s_Surroundings_tie_between) f cdv A' outer s H E) (E := E) rfl rfl rfl rfl
    refine' ST.slots (ss' := [G.fr self, G.any, G.any]) (ST.cast ?h ?q) rfl
    (case h => exact (st_b1 (S := Unit) (R := (Option (G.T3 PySem.Str Int Int))) (pl := fun x => nomatch x) (b1_for (S := Unit) (R := (Option (G.T3 PySem.Str Int Int))) (fun (s1 : Unit) => [G.fr self, G.any, G.any]) () (it_tup (xk_imm (xi_p2 (xi_of (xk_fld ok_Surroundings (sel_s (sel_s sel_0)) (xk_fr 0)))))) (tg_two (tg_name 1 S.nd) (tg_name 2 S.nd)) (fun s1 a2 => (sb_b1 (S := Unit) (b1_if (post := (fun (s5 : Unit) => [G.fr self, G.fr a2.1, G.fr a2.2])) (xt_w (xw_and (t_din (hu1 hr) (xi_fr 1) (xi_of (xk_fld ok_Surroundings sel_0 (xk_fr 0)))) (xw_and (t_din (hu1 hr) (xi_fr 2) (xi_of (xk_fld ok_Surroundings sel_0 (xk_fr 0)))) (xw_and1 (t_cmp op_ne (b_neS (α := Int) (β := Int)) (nomark _) (x_dget (hu1 hr) (xi_of (xk_fld ok_Surroundings sel_0 (xk_fr 0))) (xi_fr 1)) (x_dget (hu1 hr) (xi_of (xk_fld ok_Surroundings sel_0 (xk_fr 0))) (xi_fr 2))))))) (sb_ret (xk_imm (xi_some (xi_triple (xa_cons xi_str (xa_cons (xi_fr 1) (xa_cons (xi_fr 2) xa_nil))))))) (sb_nil (s := ()) (wk_eq (wk_eq (wk_eq wk_nil))))) fun s5 => (sb_nil (s := ()) (wk_eq (wk_any (wk_any wk_nil)))))) (wk_eq (wk_eq (wk_eq wk_nil)))) fun s1 => (st_ret (xk_imm xi_none))))
    (case q => first | (unfold m_Surroundings_tie_between; simp only [Res.okb, Res.bind_assoc, memB]; done) | rfl)
def m_Surroundings_are_tied (self : (G.Ob "Surroundings" FlT_Surroundings)) (piece : (List Int)) (other : (List Int)) : Res Bool :=
  (Res.tail (S := Unit) (R := Bool) (loopO (fun (s1 : Unit) (a2 : Int) => ((Res.next (S := Unit) (Res.bind (Res.bind (Res.bind (m_next_to (self.v.1.1.2) a2) fun v4 => (lcT (fun a3 => (Res.ok (decide (a3 ∈ other)))) (fun a3 => (Res.ok a3)) v4)) fun v5 => (neD v5 ([] : (List Int)))) fun v7 => (if v7 then (Res.ok (Out.rt true)) else (Res.ok (Out.nx ())))) fun s6 => (Res.ok (Out.nx ()))) : Res (Out (Unit) (Unit) Bool))) () piece) fun s1 => (Res.ok false))
abbrev s_Surroundings_are_tied : Stmt := inClass (topS 25) 6
abbrev N_Surroundings_are_tied : List Str := ["self", "piece", "other", "k", "one"]
theorem S_Surroundings_are_tied : FnScope N_Surroundings_are_tied ["self", "piece", "other"] (defScope s_Surroundings_are_tied) := ⟨rfl, rfl, rfl, by decide +kernel, rfl, by decide +kernel, by decide +kernel⟩
set_option maxHeartbeats 4000000 in
theorem cal_Surroundings_are_tied {K : Frag} {base : Heap} (D : IsMeth K "Surroundings" "Surroundings.are_tied" "are_tied" s_Surroundings_are_tied) (c_next_to : Cal Pw.prog Pw.w K Md.mg base 1 "next_to" (fun a : (Int × (G.Tup (Int × Int))) × Int × Unit => a) (fun a : (Int × (G.Tup (Int × Int))) × Int × Unit => m_next_to a.1 a.2.1) ow) (ok_Surroundings : ObOk K "Surroundings") :
    CalM Pw.prog Pw.w K Md.mg base 2 "Surroundings" "are_tied" (fun a : (G.Ob "Surroundings" FlT_Surroundings) × (List Int) × (List Int) × Unit => a) (fun a : (G.Ob "Surroundings" FlT_Surroundings) × (List Int) × (List Int) × Unit => m_Surroundings_are_tied a.1 a.2.1 a.2.2.1) fr :=
  cal_mkM (N := N_Surroundings_are_tied) (ps := ["self", "piece", "other"]) D S_Surroundings_are_tied rfl (fun _ _ _ _ _ _ us hl => match us, hl with | [_, _, _], _ => rfl) fun a f cdv A' outer s H E hr => by
    obtain ⟨self, piece, other, _⟩ := a
    have S := S_Surroundings_are_tied
    have tk := takes_of (X := cxOf (L2.CX Pw.prog Pw.w) Pw.prog Pw.w K Md.mg base N_Surroundings_are_tied "Surroundings.are_tied" (defScope s_Surroundings_are_tied) f cdv A' outer s H E) (E := E) rfl rfl rfl rfl
    refine' ST.slots (ss' := [G.fr self, G.fr piece, G.fr other, G.any, G.any]) (ST.cast ?h ?q) rfl
    (case h => exact (st_b1 (S := Unit) (R := Bool) (pl := fun x => nomatch x) (b1_for (S := Unit) (R := Bool) (fun (s1 : Unit) => [G.fr self, G.fr piece, G.fr other, G.any, G.any]) () (it_list (xk_fr 1)) (tg_name 3 S.nd) (fun s1 a2 => (sb_b1 (S := Unit) (b1_if (post := (fun (s6 : Unit) => [G.fr self, G.fr piece, G.fr other, G.fr a2, G.any])) (t_cmp (op_neD (hu64 hr)) (b_neD (α := (List Int)) (β := (List Int))) (nomark _) (xi_of (xk_lcIf (own := [("one", 4)]) (it_list (xk_free (xk_cal c_next_to hr tk (xa_cons (xi_of (xk_fld ok_Surroundings (sel_s (sel_s sel_0)) (xk_fr 0))) (xa_cons (xi_fr 3) xa_nil))))) (tc_name 4 S.nd) (fun a3 _ _ _ _ _ => (t_cmp op_in_seq (b_inL (α := Int)) (by with_unfolding_all rfl) (xi_fr 4) (xi_fr 2))) (fun a3 _ _ _ _ _ => (xk_fr 4)) S.nd (blkOk_by (N := N_Surroundings_are_tied) (sc := defScope s_Surroundings_are_tied) (by decide +kernel)))) (xi_of (xk_lst (xhk_nil (α := Int))))) (sb_ret (xk_imm xi_bl)) (sb_nil (s := ()) (wk_eq (wk_eq (wk_eq (wk_eq (wk_eq wk_nil))))))) fun s6 => (sb_nil (s := ()) (wk_eq (wk_eq (wk_eq (wk_any (wk_eq wk_nil)))))))) (wk_eq (wk_eq (wk_eq (wk_eq (wk_eq wk_nil)))))) fun s1 => (st_ret (xk_imm xi_bl))))
    (case q => first | (unfold m_Surroundings_are_tied; simp only [Res.okb, Res.bind_assoc, memB]; done) | rfl)
def m_Surroundings_pieces_between (self : (G.Ob "Surroundings" FlT_Surroundings)) : Res (Option (Sum (PySem.Str × Int) (G.T3 PySem.Str Int Int))) :=
  (Res.bind (m_Surroundings_shaky self) fun (found1 : (List (List Int))) => (Res.tail (S := Unit) (R := (Option (Sum (PySem.Str × Int) (G.T3 PySem.Str Int Int)))) (loopO (fun (s2 : Unit) (a3 : (List Int)) => ((Res.next (S := Unit) (Res.bind (Res.bind (Res.bind (m_Surroundings_touched self a3) fun v4 => (Res.ok (v4.length : Int))) fun v5 => (Res.ok (decide (v5 > (1 : Int))))) fun v13 => (if v13 then (Res.bind (Res.bind (Res.bind (Res.bind (Res.bind (Res.bind (idx a3 (0 : Int)) fun v7 => (Res.ok (v7, ()))) fun v8 => (Res.ok ((PySem.Str.ofString "piece"), v8))) fun v9 => (Res.ok (v9.1, v9.2.1))) fun v10 => (Res.ok (Sum.inl v10 : (Sum (PySem.Str × Int) (G.T3 PySem.Str Int Int))))) fun v11 => (Res.ok (some v11))) fun v12 => (Res.ok (Out.rt v12))) else (Res.ok (Out.nx ())))) fun s6 => (Res.ok (Out.nx ()))) : Res (Out (Unit) (Unit) (Option (Sum (PySem.Str × Int) (G.T3 PySem.Str Int Int)))))) () found1) fun s2 => (Res.tail (S := Unit) (R := (Option (Sum (PySem.Str × Int) (G.T3 PySem.Str Int Int)))) (loopO (fun (s14 : Unit) (a15 : (Int × (List Int))) => ((Res.next (S := Unit) (loopO (fun (s16 : Unit) (a17 : (List Int)) => ((Res.next (S := Unit) (Res.bind (Res.bind (m_Surroundings_are_tied self a15.2 a17) fun v20 => (if v20 then (Res.bind (m_Surroundings_touched self a15.2) fun v18 => (Res.bind (m_Surroundings_touched self a17) fun v19 => (neD v18 v19))) else (Res.ok false))) fun v30 => (if v30 then (Res.bind (Res.bind (Res.bind (Res.bind (Res.bind (Res.bind (idx a15.2 (0 : Int)) fun v23 => (Res.bind (Res.bind (idx a17 (0 : Int)) fun v22 => (Res.ok (v22, ()))) fun v24 => (Res.ok (v23, v24)))) fun v25 => (Res.ok ((PySem.Str.ofString "pieces"), v25))) fun v26 => (Res.ok (⟨v26.1, v26.2.1, v26.2.2.1⟩ : (G.T3 PySem.Str Int Int)))) fun v27 => (Res.ok (Sum.inr v27 : (Sum (PySem.Str × Int) (G.T3 PySem.Str Int Int))))) fun v28 => (Res.ok (some v28))) fun v29 => (Res.ok (Out.rt v29))) else (Res.ok (Out.nx ())))) fun s21 => (Res.ok (Out.nx ()))) : Res (Out (Unit) (Unit) (Option (Sum (PySem.Str × Int) (G.T3 PySem.Str Int Int)))))) () (cut found1 (some (a15.1 + (1 : Int))) none)) fun s16 => (Res.ok (Out.nx ()))) : Res (Out (Unit) (Unit) (Option (Sum (PySem.Str × Int) (G.T3 PySem.Str Int Int)))))) () (enumL found1)) fun s14 => (Res.ok (none : (Option (Sum (PySem.Str × Int) (G.T3 PySem.Str Int Int))))))))
abbrev s_Surroundings_pieces_between : Stmt := inClass (topS 25) 7
abbrev N_Surroundings_pieces_between : List Str := ["self", "found", "piece", "at", "other"]
theorem S_Surroundings_pieces_between : FnScope N_Surroundings_pieces_between ["self"] (defScope s_Surroundings_pieces_between) := ⟨rfl, rfl, rfl, by decide +kernel, rfl, by decide +kernel, by decide +kernel⟩
set_option maxHeartbeats 4000000 in
theorem cal_Surroundings_pieces_between {K : Frag} {base : Heap} (D : IsMeth K "Surroundings" "Surroundings.pieces_between" "pieces_between" s_Surroundings_pieces_between) (c_Surroundings_touched : CalM Pw.prog Pw.w K Md.mg base 2 "Surroundings" "touched" (fun a : (G.Ob "Surroundings" FlT_Surroundings) × (List Int) × Unit => a) (fun a : (G.Ob "Surroundings" FlT_Surroundings) × (List Int) × Unit => m_Surroundings_touched a.1 a.2.1) ow) (c_Surroundings_shaky : CalM Pw.prog Pw.w K Md.mg base 3 "Surroundings" "shaky" (fun a : (G.Ob "Surroundings" FlT_Surroundings) × Unit => a) (fun a : (G.Ob "Surroundings" FlT_Surroundings) × Unit => m_Surroundings_shaky a.1) fr) (c_Surroundings_are_tied : CalM Pw.prog Pw.w K Md.mg base 2 "Surroundings" "are_tied" (fun a : (G.Ob "Surroundings" FlT_Surroundings) × (List Int) × (List Int) × Unit => a) (fun a : (G.Ob "Surroundings" FlT_Surroundings) × (List Int) × (List Int) × Unit => m_Surroundings_are_tied a.1 a.2.1 a.2.2.1) fr) (b_len : Md.mg "len" = none) (b_enumerate : Md.mg "enumerate" = none) (ok_Surroundings : ObOk K "Surroundings") :
    CalM Pw.prog Pw.w K Md.mg base 4 "Surroundings" "pieces_between" (fun a : (G.Ob "Surroundings" FlT_Surroundings) × Unit => a) (fun a : (G.Ob "Surroundings" FlT_Surroundings) × Unit => m_Surroundings_pieces_between a.1) fr :=
  cal_mkM (N := N_Surroundings_pieces_between) (ps := ["self"]) D S_Surroundings_pieces_between rfl (fun _ _ _ _ _ _ us hl => match us, hl with | [_], _ => rfl) fun a f cdv A' outer s H E hr => by
    obtain ⟨self, _⟩ := a
    have S := S_Surroundings_pieces_between
    have tk := takes_of (X := cxOf (L2.CX Pw.prog Pw.w) Pw.prog Pw.w K Md.mg base N_Surroundings_pieces_between "Surroundings.pieces_between" (defScope s_Surroundings_pieces_between) f cdv A' outer s H E) (E := E) rfl rfl rfl rfl
    refine' ST.slots (ss' := [G.fr self, G.any, G.any, G.any, G.any]) (ST.cast ?h ?q) rfl
    (case h => exact (st_seq (s1_set 1 (xk_meth0 ok_Surroundings c_Surroundings_shaky hr tk (xk_fr 0)) S.nd) fun (found1 : (List (List Int))) => (st_b1 (S := Unit) (R := (Option (Sum (PySem.Str × Int) (G.T3 PySem.Str Int Int)))) (pl := fun x => nomatch x) (b1_for (S := Unit) (R := (Option (Sum (PySem.Str × Int) (G.T3 PySem.Str Int Int)))) (fun (s2 : Unit) => [G.fr self, G.fr found1, G.any, G.any, G.any]) () (it_list (xk_fr 1)) (tg_name 2 S.nd) (fun s2 a3 => (sb_b1 (S := Unit) (b1_if (post := (fun (s6 : Unit) => [G.fr self, G.fr found1, G.fr a3, G.any, G.any])) (t_cmp op_gt b_gt (nomark _) (xi_bf call_len c_lenL b_len PySem.boot_len (xa_cons (xi_of (xk_meth ok_Surroundings c_Surroundings_touched hr tk (xk_fr 0) (xak_cons (xk_fr 2) xak_nil))) xa_nil)) xi_int) (sb_ret (xk_imm (xi_some (xi_inl (α := (PySem.Str × Int)) (β := (G.T3 PySem.Str Int Int)) (xi_pair (xa_cons xi_str (xa_cons (xi_ixL (xi_fr 2) xi_int) xa_nil))))))) (sb_nil (s := ()) (wk_eq (wk_eq (wk_eq (wk_eq (wk_eq wk_nil))))))) fun s6 => (sb_nil (s := ()) (wk_eq (wk_eq (wk_any (wk_eq (wk_eq wk_nil)))))))) (wk_eq (wk_eq (wk_eq (wk_eq (wk_eq wk_nil)))))) fun s2 => (st_b1 (S := Unit) (R := (Option (Sum (PySem.Str × Int) (G.T3 PySem.Str Int Int)))) (pl := fun x => nomatch x) (b1_for (S := Unit) (R := (Option (Sum (PySem.Str × Int) (G.T3 PySem.Str Int Int)))) (fun (s14 : Unit) => [G.fr self, G.fr found1, G.any, G.any, G.any]) () (it_enum (xak_cons (xk_fr 1) xak_nil) b_enumerate) (tg_two (tg_name 3 S.nd) (tg_name 2 S.nd)) (fun s14 a15 => (sb_b1 (S := Unit) (b1_for (S := Unit) (R := (Option (Sum (PySem.Str × Int) (G.T3 PySem.Str Int Int)))) (fun (s16 : Unit) => [G.fr self, G.fr found1, G.fr a15.2, G.fr a15.1, G.any]) () (it_list (xk_free (xk_sliceL (xl_fr (xk_fr 1)) (xo_some (x_bin op_add b_add (xi_fr 3) xi_int)) xo_none))) (tg_name 4 S.nd) (fun s16 a17 => (sb_b1 (S := Unit) (b1_if (post := (fun (s21 : Unit) => [G.fr self, G.fr found1, G.fr a15.2, G.fr a15.1, G.fr a17])) (xt_w (xw_and (xt_val (xi_of (xk_meth ok_Surroundings c_Surroundings_are_tied hr tk (xk_fr 0) (xak_cons (xk_fr 2) (xak_cons (xk_fr 4) xak_nil))))) (xw_and1 (t_cmp (op_neD (hu64 hr)) (b_neD (α := (List Int)) (β := (List Int))) (nomark _) (xi_of (xk_meth ok_Surroundings c_Surroundings_touched hr tk (xk_fr 0) (xak_cons (xk_fr 2) xak_nil))) (xi_of (xk_meth ok_Surroundings c_Surroundings_touched hr tk (xk_fr 0) (xak_cons (xk_fr 4) xak_nil))))))) (sb_ret (xk_imm (xi_some (xi_inr (α := (PySem.Str × Int)) (β := (G.T3 PySem.Str Int Int)) (xi_triple (xa_cons xi_str (xa_cons (xi_ixL (xi_fr 2) xi_int) (xa_cons (xi_ixL (xi_fr 4) xi_int) xa_nil)))))))) (sb_nil (s := ()) (wk_eq (wk_eq (wk_eq (wk_eq (wk_eq wk_nil))))))) fun s21 => (sb_nil (s := ()) (wk_eq (wk_eq (wk_eq (wk_eq (wk_any wk_nil)))))))) (wk_eq (wk_eq (wk_eq (wk_eq (wk_eq wk_nil)))))) fun s16 => (sb_nil (s := ()) (wk_eq (wk_eq (wk_any (wk_any (wk_eq wk_nil)))))))) (wk_eq (wk_eq (wk_eq (wk_eq (wk_eq wk_nil)))))) fun s14 => (st_ret (xk_imm xi_none))))))
    (case q => first | (unfold m_Surroundings_pieces_between; simp only [Res.okb, Res.bind_assoc, memB]; done) | rfl)
def m_meddling (web : (Int × (G.Tup (Int × Int)))) (board : PySem.Str) (fields : (List (List Int))) : Res (Option (Sum (PySem.Str × Int) (G.T3 PySem.Str Int Int))) :=
  (Res.bind (Res.bind (m_are_fields web fields) fun v1 => (Res.ok (!v1))) fun v7 => (if v7 then (Res.exc ⟨(PySem.Str.ofString "NoField"), .no⟩) else (Res.bind (Res.bind (m_Surroundings___init__ web board fields) fun v3 => (Res.ok (⟨v3⟩ : (G.Ob "Surroundings" FlT_Surroundings)))) fun (around2 : (G.Ob "Surroundings" FlT_Surroundings)) => (Res.bind (m_Surroundings_tie_between around2) fun (found4 : (Option (G.T3 PySem.Str Int Int))) => (if (Option.isSome found4) then (Res.bind (Res.bind (unw found4) fun v5 => (Res.ok (Sum.inr v5 : (Sum (PySem.Str × Int) (G.T3 PySem.Str Int Int))))) fun v6 => (Res.ok (some v6))) else (m_Surroundings_pieces_between around2))))))
abbrev s_meddling : Stmt := topS 26
abbrev N_meddling : List Str := ["web", "board", "fields", "around", "found"]
theorem S_meddling : FnScope N_meddling ["web", "board", "fields"] (defScope s_meddling) := ⟨rfl, rfl, rfl, by decide +kernel, rfl, by decide +kernel, by decide +kernel⟩
set_option maxHeartbeats 4000000 in
theorem cal_meddling {K : Frag} {base : Heap} (D : IsDef K Md.mg "meddling" s_meddling) (c_are_fields : Cal Pw.prog Pw.w K Md.mg base 3 "are_fields" (fun a : (Int × (G.Tup (Int × Int))) × (List (List Int)) × Unit => a) (fun a : (Int × (G.Tup (Int × Int))) × (List (List Int)) × Unit => m_are_fields a.1 a.2.1) fr) (c_Surroundings___init__ : CalIO Pw.prog Pw.w K Md.mg base 1 "Surroundings" OwF_Surroundings (fun a : (Int × (G.Tup (Int × Int))) × PySem.Str × (List (List Int)) × Unit => a) (fun a : (Int × (G.Tup (Int × Int))) × PySem.Str × (List (List Int)) × Unit => m_Surroundings___init__ a.1 a.2.1 a.2.2.1)) (c_Surroundings_tie_between : CalM Pw.prog Pw.w K Md.mg base 1 "Surroundings" "tie_between" (fun a : (G.Ob "Surroundings" FlT_Surroundings) × Unit => a) (fun a : (G.Ob "Surroundings" FlT_Surroundings) × Unit => m_Surroundings_tie_between a.1) fr) (c_Surroundings_pieces_between : CalM Pw.prog Pw.w K Md.mg base 4 "Surroundings" "pieces_between" (fun a : (G.Ob "Surroundings" FlT_Surroundings) × Unit => a) (fun a : (G.Ob "Surroundings" FlT_Surroundings) × Unit => m_Surroundings_pieces_between a.1) fr) (x_NoField : HasCl K Md.mg "NoField") (ok_Surroundings : ObOk K "Surroundings") :
    Cal Pw.prog Pw.w K Md.mg base 5 "meddling" (fun a : (Int × (G.Tup (Int × Int))) × PySem.Str × (List (List Int)) × Unit => a) (fun a : (Int × (G.Tup (Int × Int))) × PySem.Str × (List (List Int)) × Unit => m_meddling a.1 a.2.1 a.2.2.1) fr :=
  cal_mk (N := N_meddling) (ps := ["web", "board", "fields"]) D S_meddling rfl (fun _ _ _ _ _ _ us hl => match us, hl with | [_, _, _], _ => rfl) fun a f cdv A' outer s H E hr => by
    obtain ⟨web, board, fields, _⟩ := a
    have S := S_meddling
    have tk := takes_of (X := cxOf (L2.CX Pw.prog Pw.w) Pw.prog Pw.w K Md.mg base N_meddling "meddling" (defScope s_meddling) f cdv A' outer s H E) (E := E) rfl rfl rfl rfl
    refine' ST.slots (ss' := [G.fr web, G.fr board, G.fr fields, G.any, G.any]) (ST.cast ?h ?q) rfl
    (case h => exact (st_guard (xt_not (xt_val (xi_cal c_are_fields hr tk (xa_cons (xi_fr 0) (xa_cons (xi_fr 2) xa_nil))))) (st_raise x_NoField tk) (st_seq (s1_set 3 (xk_freeO (xk_makeO (nm := "Surroundings") c_Surroundings___init__ hr tk (xak_cons (xk_imm (xi_fr 0)) (xak_cons (xk_imm (xi_fr 1)) (xak_cons (xk_fr 2) xak_nil))))) S.nd) fun (around2 : (G.Ob "Surroundings" FlT_Surroundings)) => (st_seq (s1_set 4 (xk_imm (xi_of (xk_meth0 ok_Surroundings c_Surroundings_tie_between hr tk (xk_fr 3)))) S.nd) fun (found4 : (Option (G.T3 PySem.Str Int Int))) => (st_guard (xt_notN (xi_fr 4)) (st_ret (xk_imm (xi_some (xi_inr (α := (PySem.Str × Int)) (β := (G.T3 PySem.Str Int Int)) (xi_unw (xi_fr 4)))))) (st_ret (xk_imm (xi_of (xk_meth0 ok_Surroundings c_Surroundings_pieces_between hr tk (xk_fr 3))))))))))
    (case q => first | (unfold m_meddling; simp only [Res.okb, Res.bind_assoc, memB]; done) | rfl)
def m_l_numbers (l_cell : Int) (l_sizes : (List Int)) : Res (List Int) :=
  (Res.bind (Res.ok (max l_cell ((-(1 : Int)) - l_cell))) fun (l_number1 : Int) => (Res.bind (Res.ok l_number1) fun (l_left2 : Int) => (Res.bind (Res.ok ([] : (List Int))) fun (l_found3 : (List Int)) => (Res.bind (Res.bind (guardR (small62 (l_sizes.length : Int)) (Res.ok (rangeL 0 ((l_sizes.length : Int)).toNat))) fun v35 => (foldR (fun (s4 : (List Int) × Int) (a5 : Int) => (Res.bind (Res.bind (if (decide (l_number1 ≥ ((10 : Int) ^ (18 : Int).toNat))) then (Res.ok (decide (s4.2 > (0 : Int)))) else (Res.ok false)) fun v34 => (if v34 then (Res.bind (Res.bind (Res.bind (idx l_sizes a5) fun v8 => (modR s4.2 v8)) fun v9 => (appR s4.1 v9)) fun l_found7 => (Res.bind (Res.bind (idx l_sizes a5) fun v11 => (divR s4.2 v11)) fun (l_left10 : Int) => (Res.ok (l_found7, l_left10)))) else (Res.bind (Res.bind (Res.bind (Res.bind (Res.bind (Res.bind (Res.bind (mulR (101 : Int) a5) fun v18 => (mulR v18 a5)) fun v19 => (Res.ok (l_number1 + v19))) fun v20 => (Res.ok (v20 + a5))) fun v21 => (modR v21 (2147483647 : Int))) fun v22 => (mulR v22 (48271 : Int))) fun v23 => (modR v23 (2147483647 : Int))) fun (l_one12 : Int) => (Res.bind (Res.bind (Res.bind (Res.bind (mulR l_one12 l_one12) fun v27 => (modR v27 (2147483629 : Int))) fun v28 => (mulR v28 (48271 : Int))) fun v29 => (modR v29 (2147483647 : Int))) fun (l_one24 : Int) => (Res.bind (Res.bind (Res.bind (divR l_one24 (16 : Int)) fun v31 => (Res.bind (idx l_sizes a5) fun v32 => (modR v31 v32))) fun v33 => (appR s4.1 v33)) fun l_found30 => (Res.ok (l_found30, s4.2))))))) fun s6 => (Res.ok (s6.1, s6.2)))) (l_found3, l_left2) v35)) fun s4 => (Res.ok s4.1)))))
abbrev s__law_numbers : Stmt := topS 28
abbrev N__law_numbers : List Str := ["_law_cell", "_law_sizes", "_law_number", "_law_left", "_law_found", "_law_k", "_law_one"]
theorem S__law_numbers : FnScope N__law_numbers ["_law_cell", "_law_sizes"] (defScope s__law_numbers) := ⟨rfl, rfl, rfl, by decide +kernel, rfl, by decide +kernel, by decide +kernel⟩
set_option maxHeartbeats 4000000 in
theorem cal__law_numbers {K : Frag} {base : Heap} (D : IsDef K Md.mg "_law_numbers" s__law_numbers) (b_max : Md.mg "max" = none) (b_len : Md.mg "len" = none) (b_range : Md.mg "range" = none) :
    Cal Pw.prog Pw.w K Md.mg base 1 "_law_numbers" (fun a : Int × (List Int) × Unit => a) (fun a : Int × (List Int) × Unit => m_l_numbers a.1 a.2.1) ow :=
  cal_mk (N := N__law_numbers) (ps := ["_law_cell", "_law_sizes"]) D S__law_numbers rfl (fun _ _ _ _ _ _ us hl => match us, hl with | [_, _], _ => rfl) fun a f cdv A' outer s H E hr => by
    obtain ⟨l_cell, l_sizes, _⟩ := a
    have S := S__law_numbers
    have tk := takes_of (X := cxOf (L2.CX Pw.prog Pw.w) Pw.prog Pw.w K Md.mg base N__law_numbers "_law_numbers" (defScope s__law_numbers) f cdv A' outer s H E) (E := E) rfl rfl rfl rfl
    refine' ST.slots (ss' := [G.fr l_cell, G.fr l_sizes, G.any, G.any, G.any, G.any, G.any]) (ST.cast ?h ?q) rfl
    (case h => exact (st_seq (s1_set 2 (xk_imm (xi_bf (call_max2 rfl) c_max b_max (by decide +kernel) (xa_cons (xi_fr 0) (xa_cons (x_bin op_sub b_sub (xi_neg xi_int) (xi_fr 0)) xa_nil)))) S.nd) fun (l_number1 : Int) => (st_seq (s1_set 3 (xk_fr 2) S.nd) fun (l_left2 : Int) => (st_seq (s1_set 4 (xk_lst (xhk_nil (α := Int))) S.nd) fun (l_found3 : (List Int)) => (st_seq (s1_for (S := (List Int) × Int) (fun (s4 : (List Int) × Int) => [G.fr l_cell, G.fr l_sizes, G.fr l_number1, G.fr s4.2, G.ow s4.1, G.any, G.any]) (l_found3, l_left2) (it_range1 (xa_cons (xi_bf call_len c_lenL b_len PySem.boot_len (xa_cons (xi_fr 1) xa_nil)) xa_nil) b_range) (tg_name 5 S.nd) (fun s4 a5 => (sn_seq (s1_if (post := (fun (s6 : (List Int) × Int) => [G.fr l_cell, G.fr l_sizes, G.fr l_number1, G.fr s6.2, G.ow s6.1, G.fr a5, G.any])) (xt_w (xw_and (t_cmp op_ge b_ge (nomark _) (xi_fr 2) (xi_pow (by unfold CPow; decide))) (xw_and1 (t_cmp op_gt b_gt (nomark _) (xi_fr 3) xi_int)))) (sn_seq (s1_append 4 (xk_imm (x_bin op_mod b_mod (xi_fr 3) (xi_ixL (xi_fr 1) (xi_fr 5))))) fun l_found7 => (sn_seq (s1_set 3 (xk_imm (x_bin op_fdivW b_div (xi_fr 3) (xi_ixL (xi_fr 1) (xi_fr 5)))) S.nd) fun (l_left10 : Int) => (sn_nil (s := (l_found7, l_left10)) (wk_eq (wk_eq (wk_eq (wk_eq (wk_eq (wk_eq (wk_eq wk_nil)))))))))) (sn_seq (s1_set 6 (xk_imm (x_bin op_mod b_mod (x_bin op_mul b_mul (x_bin op_mod b_mod (x_bin op_add b_add (x_bin op_add b_add (xi_fr 2) (x_bin op_mul b_mul (x_bin op_mul b_mul xi_int (xi_fr 5)) (xi_fr 5))) (xi_fr 5)) xi_int) xi_int) xi_int)) S.nd) fun (l_one12 : Int) => (sn_seq (s1_set 6 (xk_imm (x_bin op_mod b_mod (x_bin op_mul b_mul (x_bin op_mod b_mod (x_bin op_mul b_mul (xi_fr 6) (xi_fr 6)) xi_int) xi_int) xi_int)) S.nd) fun (l_one24 : Int) => (sn_seq (s1_append 4 (xk_imm (x_bin op_mod b_mod (x_bin op_fdivW b_div (xi_fr 6) xi_int) (xi_ixL (xi_fr 1) (xi_fr 5))))) fun l_found30 => (sn_nil (s := (l_found30, s4.2)) (wk_eq (wk_eq (wk_eq (wk_eq (wk_eq (wk_eq (wk_any wk_nil)))))))))))) fun s6 => (sn_nil (s := (s6.1, s6.2)) (wk_eq (wk_eq (wk_eq (wk_eq (wk_eq (wk_any (wk_eq wk_nil)))))))))) (wk_eq (wk_eq (wk_eq (wk_eq (wk_eq (wk_eq (wk_eq wk_nil)))))))) fun s4 => (st_retOw 4))))))
    (case q => first | (unfold m_l_numbers; simp only [Res.okb, Res.bind_assoc, memB]; done) | rfl)
def m_l_nexts (l_web : (Int × (G.Tup (Int × Int)))) : Res (List (List Int)) :=
  (Res.bind (Res.bind (guardR (small62 (l_web.1)) (Res.ok (rangeL 0 ((l_web.1)).toNat))) fun v3 => (lcT (fun _ => Res.ok true) (fun a2 => (Res.ok ([] : (List Int)))) v3)) fun (l_found1 : (List (List Int))) => (Res.bind (foldR (fun (s4 : (List (List Int))) (a5 : (Int × Int)) => (Res.bind (Res.bind (idx s4 a5.1) fun v7 => (Res.bind (appR v7 a5.2) fun v8 => (Res.ok (setI s4 a5.1 v8)))) fun l_found6 => (Res.bind (Res.bind (idx l_found6 a5.2) fun v10 => (Res.bind (appR v10 a5.1) fun v11 => (Res.ok (setI l_found6 a5.2 v11)))) fun l_found9 => (Res.ok l_found9)))) l_found1 (l_web.2).l) fun s4 => (lcT (fun _ => Res.ok true) (fun a12 => (Res.ok (sortI a12))) s4)))
abbrev s__law_nexts : Stmt := topS 29
abbrev N__law_nexts : List Str := ["_law_web", "_law_found", "_law_one", "_law_other", "_law_k", "_law_row"]
theorem S__law_nexts : FnScope N__law_nexts ["_law_web"] (defScope s__law_nexts) := ⟨rfl, rfl, rfl, by decide +kernel, rfl, by decide +kernel, by decide +kernel⟩
set_option maxHeartbeats 4000000 in
theorem cal__law_nexts {K : Frag} {base : Heap} (D : IsDef K Md.mg "_law_nexts" s__law_nexts) (b_range : Md.mg "range" = none) (b_sorted : Md.mg "sorted" = none) :
    Cal Pw.prog Pw.w K Md.mg base 1 "_law_nexts" (fun a : (Int × (G.Tup (Int × Int))) × Unit => a) (fun a : (Int × (G.Tup (Int × Int))) × Unit => m_l_nexts a.1) fr :=
  cal_mk (N := N__law_nexts) (ps := ["_law_web"]) D S__law_nexts rfl (fun _ _ _ _ _ _ us hl => match us, hl with | [_], _ => rfl) fun a f cdv A' outer s H E hr => by
    obtain ⟨l_web, _⟩ := a
    have S := S__law_nexts
    have tk := takes_of (X := cxOf (L2.CX Pw.prog Pw.w) Pw.prog Pw.w K Md.mg base N__law_nexts "_law_nexts" (defScope s__law_nexts) f cdv A' outer s H E) (E := E) rfl rfl rfl rfl
    refine' ST.slots (ss' := [G.fr l_web, G.any, G.any, G.any, G.any, G.any]) (ST.cast ?h ?q) rfl
    (case h => exact (st_seq (s1_lcO 1 (own := [("_law_k", 4)]) (it_range1 (xa_cons (xi_p1 (xi_fr 0)) xa_nil) b_range) (tc_name 4 S.nd) (fun a2 _ _ _ _ _ => (xk_os (xk_lst (xhk_nil (α := Int))))) S.nd (blkOk_by (N := N__law_nexts) (sc := defScope s__law_nexts) (by decide +kernel)) (sw_true rfl rfl rfl (by decide +kernel))) fun (l_found1 : (List (List Int))) => (st_seq (s1_for (S := (List (List Int))) (fun (s4 : (List (List Int))) => [G.fr l_web, G.os (G.lsO G.l1) s4, G.any, G.any, G.any, G.any]) l_found1 (it_tup (xk_imm (xi_p2 (xi_fr 0)))) (tg_two (tg_name 2 S.nd) (tg_name 3 S.nd)) (fun s4 a5 => (sn_seq (s1_app2 1 (xi_fr 2) (xk_fr 3)) fun l_found6 => (sn_seq (s1_app2 1 (xi_fr 3) (xk_fr 2)) fun l_found9 => (sn_nil (s := l_found9) (wk_eq (wk_eq (wk_any (wk_any (wk_eq (wk_eq wk_nil)))))))))) (wk_eq (wk_eq (wk_eq (wk_eq (wk_eq (wk_eq wk_nil))))))) fun s4 => (st_frozO 1 (st_ret (xk_free (xk_lc (own := [("_law_row", 5)]) (it_list (xk_fr 1)) (tc_name 5 S.nd) (fun a12 _ _ _ _ _ => (xk_free (xk_sortedI (xa_cons (xi_fr 5) xa_nil) b_sorted))) S.nd (blkOk_by (N := N__law_nexts) (sc := defScope s__law_nexts) (by decide +kernel)))))))))
    (case q => first | (unfold m_l_nexts; simp only [Res.okb, Res.bind_assoc, memB]; done) | rfl)
def m_l_chain (l_nexts_here : (List (List Int))) (l_board : PySem.Str) (l_k : Int) : Res (List Int) :=
  (Res.bind (Res.ok (l_k :: [])) fun (l_found1 : (List Int)) => (Res.bind (Res.ok (0 : Int)) fun (l_at2 : Int) => (Res.bind (whileR (fun (s3 : (List Int) × Int) => (Res.ok (decide (s3.2 < (s3.1.length : Int))))) (fun (s3 : (List Int) × Int) => (Res.bind (Res.bind (Res.bind (idx s3.1 s3.2) fun v6 => (idx l_nexts_here v6)) fun v15 => (foldR (fun (s7 : (List Int)) (a8 : Int) => (Res.bind (Res.bind (Res.bind (Res.bind (strIx l_board a8) fun v9 => (Res.bind (strIx l_board l_k) fun v10 => (Res.ok (ScaEq.eq v9 v10)))) fun v11 => (if v11 then (Res.ok (!decide (a8 ∈ s7))) else (Res.ok false))) fun v14 => (if v14 then (Res.bind (appR s7 a8) fun l_found13 => (Res.ok l_found13)) else (Res.ok s7))) fun s12 => (Res.ok s12))) s3.1 v15)) fun s7 => (Res.bind (Res.ok (s3.2 + (1 : Int))) fun (l_at16 : Int) => (Res.ok (s7, l_at16))))) (64) (l_found1, l_at2)) fun s3 => (Res.ok (sortI s3.1)))))
abbrev s__law_chain : Stmt := topS 30
abbrev N__law_chain : List Str := ["_law_nexts_here", "_law_board", "_law_k", "_law_found", "_law_at", "_law_one"]
theorem S__law_chain : FnScope N__law_chain ["_law_nexts_here", "_law_board", "_law_k"] (defScope s__law_chain) := ⟨rfl, rfl, rfl, by decide +kernel, rfl, by decide +kernel, by decide +kernel⟩
set_option maxHeartbeats 4000000 in
theorem cal__law_chain {K : Frag} {base : Heap} (D : IsDef K Md.mg "_law_chain" s__law_chain) (b_len : Md.mg "len" = none) (b_sorted : Md.mg "sorted" = none) :
    Cal Pw.prog Pw.w K Md.mg base 1 "_law_chain" (fun a : (List (List Int)) × PySem.Str × Int × Unit => a) (fun a : (List (List Int)) × PySem.Str × Int × Unit => m_l_chain a.1 a.2.1 a.2.2.1) ow :=
  cal_mk (N := N__law_chain) (ps := ["_law_nexts_here", "_law_board", "_law_k"]) D S__law_chain rfl (fun _ _ _ _ _ _ us hl => match us, hl with | [_, _, _], _ => rfl) fun a f cdv A' outer s H E hr => by
    obtain ⟨l_nexts_here, l_board, l_k, _⟩ := a
    have S := S__law_chain
    have tk := takes_of (X := cxOf (L2.CX Pw.prog Pw.w) Pw.prog Pw.w K Md.mg base N__law_chain "_law_chain" (defScope s__law_chain) f cdv A' outer s H E) (E := E) rfl rfl rfl rfl
    refine' ST.slots (ss' := [G.fr l_nexts_here, G.fr l_board, G.fr l_k, G.any, G.any, G.any]) (ST.cast ?h ?q) rfl
    (case h => exact (st_seq (s1_set 3 (xk_lst (xak_imm (xh_cons (xi_fr 2) (xh_nil)))) S.nd) fun (l_found1 : (List Int)) => (st_seq (s1_set 4 (xk_imm xi_int) S.nd) fun (l_at2 : Int) => (st_seq (s1_while (S := (List Int) × Int) (64) (fun (s3 : (List Int) × Int) => [G.fr l_nexts_here, G.fr l_board, G.fr l_k, G.ow s3.1, G.fr s3.2, G.any]) (l_found1, l_at2) (fun s3 => (t_cmp op_lt b_lt (nomark _) (xi_fr 4) (xi_bf call_len c_lenL b_len PySem.boot_len (xa_cons (xi_ow 3) xa_nil)))) (fun s3 => (sn_seq (s1_for (S := (List Int)) (fun (s7 : (List Int)) => [G.fr l_nexts_here, G.fr l_board, G.fr l_k, G.ow s7, G.fr s3.2, G.any]) s3.1 (it_list (xk_ixL (xk_fr 0) (xi_ixL (xi_ow 3) (xi_fr 4)))) (tg_name 5 S.nd) (fun s7 a8 => (sn_seq (s1_if (post := (fun (s12 : (List Int)) => [G.fr l_nexts_here, G.fr l_board, G.fr l_k, G.ow s12, G.fr s3.2, G.fr a8])) (xt_w (xw_and (t_cmp op_eq (b_eqS (α := PySem.Str) (β := PySem.Str)) (nomark _) (xi_ixStr (xi_fr 1) (xi_fr 5)) (xi_ixStr (xi_fr 1) (xi_fr 2))) (xw_and1 (t_cmp op_notIn_seq (b_ninL (α := Int)) (by with_unfolding_all rfl) (xi_fr 5) (xi_ow 3))))) (sn_seq (s1_append 3 (xk_fr 5)) fun l_found13 => (sn_nil (s := l_found13) (wk_eq (wk_eq (wk_eq (wk_eq (wk_eq (wk_eq wk_nil)))))))) (sn_nil (s := s7) (wk_eq (wk_eq (wk_eq (wk_eq (wk_eq (wk_eq wk_nil)))))))) fun s12 => (sn_nil (s := s12) (wk_eq (wk_eq (wk_eq (wk_eq (wk_eq (wk_any wk_nil))))))))) (wk_eq (wk_eq (wk_eq (wk_eq (wk_eq (wk_eq wk_nil))))))) fun s7 => (sn_seq (s1_set 4 (xk_imm (x_bin op_add b_add (xi_fr 4) xi_int)) S.nd) fun (l_at16 : Int) => (sn_nil (s := (s7, l_at16)) (wk_eq (wk_eq (wk_eq (wk_eq (wk_eq (wk_eq wk_nil)))))))))) (wk_eq (wk_eq (wk_eq (wk_eq (wk_eq (wk_eq wk_nil))))))) fun s3 => (st_ret (xk_sortedI (xa_cons (xi_ow 3) xa_nil) b_sorted))))))
    (case q => first | (unfold m_l_chain; simp only [Res.okb, Res.bind_assoc, memB]; done) | rfl)
def m_l_breaths (l_nexts_here : (List (List Int))) (l_board : PySem.Str) (l_chain_here : (List Int)) : Res (List Int) :=
  (Res.bind (Res.ok ([] : (List Int))) fun (l_found1 : (List Int)) => (Res.bind (foldR (fun (s2 : (List Int)) (a3 : Int) => (Res.bind (Res.bind (Res.bind (idx l_nexts_here a3) fun v8 => (lcT (fun a5 => (Res.bind (Res.bind (strIx l_board a5) fun v6 => (Res.ok (ScaEq.eq v6 (PySem.Str.ofString ".")))) fun v7 => (if v7 then (Res.ok (!decide (a5 ∈ s2))) else (Res.ok false)))) (fun a5 => (Res.ok a5)) v8)) fun v9 => (extR s2 v9)) fun l_found4 => (Res.ok l_found4))) l_found1 l_chain_here) fun s2 => (Res.ok (sortI s2))))
abbrev s__law_breaths : Stmt := topS 31
abbrev N__law_breaths : List Str := ["_law_nexts_here", "_law_board", "_law_chain_here", "_law_found", "_law_k", "_law_one"]
theorem S__law_breaths : FnScope N__law_breaths ["_law_nexts_here", "_law_board", "_law_chain_here"] (defScope s__law_breaths) := ⟨rfl, rfl, rfl, by decide +kernel, rfl, by decide +kernel, by decide +kernel⟩
set_option maxHeartbeats 4000000 in
theorem cal__law_breaths {K : Frag} {base : Heap} (D : IsDef K Md.mg "_law_breaths" s__law_breaths) (b_sorted : Md.mg "sorted" = none) :
    Cal Pw.prog Pw.w K Md.mg base 1 "_law_breaths" (fun a : (List (List Int)) × PySem.Str × (List Int) × Unit => a) (fun a : (List (List Int)) × PySem.Str × (List Int) × Unit => m_l_breaths a.1 a.2.1 a.2.2.1) ow :=
  cal_mk (N := N__law_breaths) (ps := ["_law_nexts_here", "_law_board", "_law_chain_here"]) D S__law_breaths rfl (fun _ _ _ _ _ _ us hl => match us, hl with | [_, _, _], _ => rfl) fun a f cdv A' outer s H E hr => by
    obtain ⟨l_nexts_here, l_board, l_chain_here, _⟩ := a
    have S := S__law_breaths
    have tk := takes_of (X := cxOf (L2.CX Pw.prog Pw.w) Pw.prog Pw.w K Md.mg base N__law_breaths "_law_breaths" (defScope s__law_breaths) f cdv A' outer s H E) (E := E) rfl rfl rfl rfl
    refine' ST.slots (ss' := [G.fr l_nexts_here, G.fr l_board, G.fr l_chain_here, G.any, G.any, G.any]) (ST.cast ?h ?q) rfl
    (case h => exact (st_seq (s1_set 3 (xk_lst (xhk_nil (α := Int))) S.nd) fun (l_found1 : (List Int)) => (st_seq (s1_for (S := (List Int)) (fun (s2 : (List Int)) => [G.fr l_nexts_here, G.fr l_board, G.fr l_chain_here, G.ow s2, G.any, G.any]) l_found1 (it_list (xk_fr 2)) (tg_name 4 S.nd) (fun s2 a3 => (sn_seq (s1_extI 3 (xi_of (xk_lcIf (own := [("_law_one", 5)]) (it_list (xk_ixL (xk_fr 0) (xi_fr 4))) (tc_name 5 S.nd) (fun a5 _ _ _ _ _ => (xt_w (xw_and (t_cmp op_eq (b_eqS (α := PySem.Str) (β := PySem.Str)) (nomark _) (xi_ixStr (xi_fr 1) (xi_fr 5)) xi_str) (xw_and1 (t_cmp op_notIn_seq (b_ninL (α := Int)) (by with_unfolding_all rfl) (xi_fr 5) (xi_ow 3)))))) (fun a5 _ _ _ _ _ => (xk_fr 5)) S.nd (blkOk_by (N := N__law_breaths) (sc := defScope s__law_breaths) (by decide +kernel))))) fun l_found4 => (sn_nil (s := l_found4) (wk_eq (wk_eq (wk_eq (wk_eq (wk_any (wk_eq wk_nil))))))))) (wk_eq (wk_eq (wk_eq (wk_eq (wk_eq (wk_eq wk_nil))))))) fun s2 => (st_ret (xk_sortedI (xa_cons (xi_ow 3) xa_nil) b_sorted)))))
    (case q => first | (unfold m_l_breaths; simp only [Res.okb, Res.bind_assoc, memB]; done) | rfl)
def m_l_put (l_board : PySem.Str) (l_some : (List Int)) (l_sign : PySem.Str) : Res PySem.Str :=
  (Res.bind (Res.bind (Res.bind (Res.bind (strLen l_board) fun v1 => (Res.ok (v1, ()))) fun v2 => (guardR (small62 v2.1) (Res.ok (rangeL 0 (v2.1).toNat)))) fun v9 => (lcT (fun _ => Res.ok true) (fun a3 => (Res.bind (Res.bind (strIx l_board a3) fun v7 => (Res.ok (v7 :: (l_sign :: [])))) fun v8 => (idx v8 (if (decide (a3 ∈ l_some)) then (1 : Int) else 0)))) v9)) fun v10 => (joinR (PySem.Str.ofString "") v10))
abbrev s__law_put : Stmt := topS 32
abbrev N__law_put : List Str := ["_law_board", "_law_some", "_law_sign", "_law_k"]
theorem S__law_put : FnScope N__law_put ["_law_board", "_law_some", "_law_sign"] (defScope s__law_put) := ⟨rfl, rfl, rfl, by decide +kernel, rfl, by decide +kernel, by decide +kernel⟩
set_option maxHeartbeats 4000000 in
theorem cal__law_put {K : Frag} {base : Heap} (D : IsDef K Md.mg "_law_put" s__law_put) (b_len : Md.mg "len" = none) (b_range : Md.mg "range" = none) (b_int : Md.mg "int" = none) :
    Cal Pw.prog Pw.w K Md.mg base 1 "_law_put" (fun a : PySem.Str × (List Int) × PySem.Str × Unit => a) (fun a : PySem.Str × (List Int) × PySem.Str × Unit => m_l_put a.1 a.2.1 a.2.2.1) fr :=
  cal_mk (N := N__law_put) (ps := ["_law_board", "_law_some", "_law_sign"]) D S__law_put rfl (fun _ _ _ _ _ _ us hl => match us, hl with | [_, _, _], _ => rfl) fun a f cdv A' outer s H E hr => by
    obtain ⟨l_board, l_some, l_sign, _⟩ := a
    have S := S__law_put
    have tk := takes_of (X := cxOf (L2.CX Pw.prog Pw.w) Pw.prog Pw.w K Md.mg base N__law_put "_law_put" (defScope s__law_put) f cdv A' outer s H E) (E := E) rfl rfl rfl rfl
    refine' ST.slots (ss' := [G.fr l_board, G.fr l_some, G.fr l_sign, G.any]) (ST.cast ?h ?q) rfl
    (case h => exact (st_ret (xk_imm (xi_join xi_str (xi_of (xk_lc (own := [("_law_k", 3)]) (it_range1 (xa_cons (xi_bf call_len c_lenStr b_len PySem.boot_len (xa_cons (xi_fr 0) xa_nil)) xa_nil) b_range) (tc_name 3 S.nd) (fun a3 _ _ _ _ _ => (xk_imm (xi_ixL (xi_of (xk_lst (xak_imm (xh_cons (xi_ixStr (xi_fr 0) (xi_fr 3)) (xh_cons (xi_fr 2) (xh_nil)))))) (xi_bt call_int1 c_intB b_int (by decide +kernel) (xa_cons (x_cmp op_in_seq (b_inL (α := Int)) (by with_unfolding_all rfl) (xi_fr 3) (xi_fr 1)) xa_nil))))) S.nd (blkOk_by (N := N__law_put) (sc := defScope s__law_put) (by decide +kernel))))))))
    (case q => first | (unfold m_l_put; simp only [Res.okb, Res.bind_assoc, memB]; done) | rfl)
def m_l_laid (l_nexts_here : (List (List Int))) (l_board : PySem.Str) (l_hand : PySem.Str) (l_k : Int) : Res (G.T3 PySem.Str (List Int) (List Int)) :=
  (Res.bind (m_l_put l_board (l_k :: []) l_hand) fun (l_full1 : PySem.Str) => (Res.bind (Res.ok ([] : (List Int))) fun (l_taken2 : (List Int)) => (Res.bind (Res.bind (idx l_nexts_here l_k) fun v14 => (foldR (fun (s3 : (List Int)) (a4 : Int) => (Res.bind (Res.bind (Res.bind (Res.bind (strIx l_full1 a4) fun v5 => (Res.ok (!decide (v5 ∈ (⟨(l_hand :: ((PySem.Str.ofString ".") :: []))⟩ : (G.Tup PySem.Str)).l)))) fun v6 => (if v6 then (Res.ok (!decide (a4 ∈ s3))) else (Res.ok false))) fun v13 => (if v13 then (Res.bind (m_l_chain l_nexts_here l_full1 a4) fun (l_chain_here8 : (List Int)) => (Res.bind (Res.bind (Res.bind (m_l_breaths l_nexts_here l_full1 l_chain_here8) fun v9 => (eqD v9 ([] : (List Int)))) fun v12 => (if v12 then (Res.bind (extR s3 l_chain_here8) fun l_taken11 => (Res.ok l_taken11)) else (Res.ok s3))) fun s10 => (Res.ok s10))) else (Res.ok s3))) fun s7 => (Res.ok s7))) l_taken2 v14)) fun s3 => (Res.bind (m_l_put l_full1 s3 (PySem.Str.ofString ".")) fun (l_full15 : PySem.Str) => (Res.bind (m_l_chain l_nexts_here l_full15 l_k) fun (l_own16 : (List Int)) => (Res.bind (Res.ok ([] : (List Int))) fun (l_lost17 : (List Int)) => (Res.bind (Res.bind (Res.bind (m_l_breaths l_nexts_here l_full15 l_own16) fun v18 => (eqD v18 ([] : (List Int)))) fun v21 => (if v21 then (Res.bind (Res.ok l_own16) fun (l_lost20 : (List Int)) => (Res.ok l_lost20)) else (Res.ok l_lost17))) fun s19 => (Res.bind (Res.bind (m_l_put l_full15 s19 (PySem.Str.ofString ".")) fun v22 => (Res.ok (v22, ((sortI s3), (s19, ()))))) fun v23 => (Res.ok (⟨v23.1, v23.2.1, v23.2.2.1⟩ : (G.T3 PySem.Str (List Int) (List Int))))))))))))
abbrev s__law_laid : Stmt := topS 33
abbrev N__law_laid : List Str := ["_law_nexts_here", "_law_board", "_law_hand", "_law_k", "_law_full", "_law_taken", "_law_one", "_law_chain_here", "_law_own", "_law_lost"]
theorem S__law_laid : FnScope N__law_laid ["_law_nexts_here", "_law_board", "_law_hand", "_law_k"] (defScope s__law_laid) := ⟨rfl, rfl, rfl, by decide +kernel, rfl, by decide +kernel, by decide +kernel⟩
set_option maxHeartbeats 4000000 in
theorem cal__law_laid {K : Frag} {base : Heap} (D : IsDef K Md.mg "_law_laid" s__law_laid) (c__law_chain : Cal Pw.prog Pw.w K Md.mg base 1 "_law_chain" (fun a : (List (List Int)) × PySem.Str × Int × Unit => a) (fun a : (List (List Int)) × PySem.Str × Int × Unit => m_l_chain a.1 a.2.1 a.2.2.1) ow) (c__law_breaths : Cal Pw.prog Pw.w K Md.mg base 1 "_law_breaths" (fun a : (List (List Int)) × PySem.Str × (List Int) × Unit => a) (fun a : (List (List Int)) × PySem.Str × (List Int) × Unit => m_l_breaths a.1 a.2.1 a.2.2.1) ow) (c__law_put : Cal Pw.prog Pw.w K Md.mg base 1 "_law_put" (fun a : PySem.Str × (List Int) × PySem.Str × Unit => a) (fun a : PySem.Str × (List Int) × PySem.Str × Unit => m_l_put a.1 a.2.1 a.2.2.1) fr) (b_sorted : Md.mg "sorted" = none) :
    Cal Pw.prog Pw.w K Md.mg base 2 "_law_laid" (fun a : (List (List Int)) × PySem.Str × PySem.Str × Int × Unit => a) (fun a : (List (List Int)) × PySem.Str × PySem.Str × Int × Unit => m_l_laid a.1 a.2.1 a.2.2.1 a.2.2.2.1) fr :=
  cal_mk (N := N__law_laid) (ps := ["_law_nexts_here", "_law_board", "_law_hand", "_law_k"]) D S__law_laid rfl (fun _ _ _ _ _ _ us hl => match us, hl with | [_, _, _, _], _ => rfl) fun a f cdv A' outer s H E hr => by
    obtain ⟨l_nexts_here, l_board, l_hand, l_k, _⟩ := a
    have S := S__law_laid
    have tk := takes_of (X := cxOf (L2.CX Pw.prog Pw.w) Pw.prog Pw.w K Md.mg base N__law_laid "_law_laid" (defScope s__law_laid) f cdv A' outer s H E) (E := E) rfl rfl rfl rfl
    refine' ST.slots (ss' := [G.fr l_nexts_here, G.fr l_board, G.fr l_hand, G.fr l_k, G.any, G.any, G.any, G.any, G.any, G.any]) (ST.cast ?h ?q) rfl
    (case h => exact (st_seq (s1_set 4 (xk_imm (xi_cal c__law_put hr tk (xa_cons (xi_fr 1) (xa_cons (xi_of (xk_lst (xak_imm (xh_cons (xi_fr 3) (xh_nil))))) (xa_cons (xi_fr 2) xa_nil))))) S.nd) fun (l_full1 : PySem.Str) => (st_seq (s1_set 5 (xk_lst (xhk_nil (α := Int))) S.nd) fun (l_taken2 : (List Int)) => (st_seq (s1_for (S := (List Int)) (fun (s3 : (List Int)) => [G.fr l_nexts_here, G.fr l_board, G.fr l_hand, G.fr l_k, G.fr l_full1, G.ow s3, G.any, G.any, G.any, G.any]) l_taken2 (it_list (xk_ixL (xk_fr 0) (xi_fr 3))) (tg_name 6 S.nd) (fun s3 a4 => (sn_seq (s1_if (post := (fun (s7 : (List Int)) => [G.fr l_nexts_here, G.fr l_board, G.fr l_hand, G.fr l_k, G.fr l_full1, G.ow s7, G.fr a4, G.any, G.any, G.any])) (xt_w (xw_and (t_cmp op_notIn_seq (b_ninT (α := PySem.Str)) (by with_unfolding_all rfl) (xi_ixStr (xi_fr 4) (xi_fr 6)) (xi_tup (xh_cons (xi_fr 2) (xh_cons xi_str (xh_nil))))) (xw_and1 (t_cmp op_notIn_seq (b_ninL (α := Int)) (by with_unfolding_all rfl) (xi_fr 6) (xi_ow 5))))) (sn_seq (s1_set 7 (xk_free (xk_cal c__law_chain hr tk (xa_cons (xi_fr 0) (xa_cons (xi_fr 4) (xa_cons (xi_fr 6) xa_nil))))) S.nd) fun (l_chain_here8 : (List Int)) => (sn_seq (s1_if (post := (fun (s10 : (List Int)) => [G.fr l_nexts_here, G.fr l_board, G.fr l_hand, G.fr l_k, G.fr l_full1, G.ow s10, G.fr a4, G.fr l_chain_here8, G.any, G.any])) (t_cmp (op_eqD (hu64 hr)) (b_eqD (α := (List Int)) (β := (List Int))) (nomark _) (xi_cal c__law_breaths hr tk (xa_cons (xi_fr 0) (xa_cons (xi_fr 4) (xa_cons (xi_fr 7) xa_nil)))) (xi_of (xk_lst (xhk_nil (α := Int))))) (sn_seq (s1_extI 5 (xi_fr 7)) fun l_taken11 => (sn_nil (s := l_taken11) (wk_eq (wk_eq (wk_eq (wk_eq (wk_eq (wk_eq (wk_eq (wk_eq (wk_eq (wk_eq wk_nil)))))))))))) (sn_nil (s := s3) (wk_eq (wk_eq (wk_eq (wk_eq (wk_eq (wk_eq (wk_eq (wk_eq (wk_eq (wk_eq wk_nil)))))))))))) fun s10 => (sn_nil (s := s10) (wk_eq (wk_eq (wk_eq (wk_eq (wk_eq (wk_eq (wk_eq (wk_any (wk_eq (wk_eq wk_nil))))))))))))) (sn_nil (s := s3) (wk_eq (wk_eq (wk_eq (wk_eq (wk_eq (wk_eq (wk_eq (wk_eq (wk_eq (wk_eq wk_nil)))))))))))) fun s7 => (sn_nil (s := s7) (wk_eq (wk_eq (wk_eq (wk_eq (wk_eq (wk_eq (wk_any (wk_eq (wk_eq (wk_eq wk_nil))))))))))))) (wk_eq (wk_eq (wk_eq (wk_eq (wk_eq (wk_eq (wk_eq (wk_eq (wk_eq (wk_eq wk_nil))))))))))) fun s3 => (st_seq (s1_set 4 (xk_imm (xi_cal c__law_put hr tk (xa_cons (xi_fr 4) (xa_cons (xi_ow 5) (xa_cons xi_str xa_nil))))) S.nd) fun (l_full15 : PySem.Str) => (st_seq (s1_set 8 (xk_free (xk_cal c__law_chain hr tk (xa_cons (xi_fr 0) (xa_cons (xi_fr 4) (xa_cons (xi_fr 3) xa_nil))))) S.nd) fun (l_own16 : (List Int)) => (st_seq (s1_set 9 (xk_free (xk_lst (xhk_nil (α := Int)))) S.nd) fun (l_lost17 : (List Int)) => (st_seq (s1_if (post := (fun (s19 : (List Int)) => [G.fr l_nexts_here, G.fr l_board, G.fr l_hand, G.fr l_k, G.fr l_full15, G.ow s3, G.any, G.any, G.fr l_own16, G.fr s19])) (t_cmp (op_eqD (hu64 hr)) (b_eqD (α := (List Int)) (β := (List Int))) (nomark _) (xi_cal c__law_breaths hr tk (xa_cons (xi_fr 0) (xa_cons (xi_fr 4) (xa_cons (xi_fr 8) xa_nil)))) (xi_of (xk_lst (xhk_nil (α := Int))))) (sn_seq (s1_set 9 (xk_fr 8) S.nd) fun (l_lost20 : (List Int)) => (sn_nil (s := l_lost20) (wk_eq (wk_eq (wk_eq (wk_eq (wk_eq (wk_eq (wk_eq (wk_eq (wk_eq (wk_eq wk_nil)))))))))))) (sn_nil (s := l_lost17) (wk_eq (wk_eq (wk_eq (wk_eq (wk_eq (wk_eq (wk_eq (wk_eq (wk_eq (wk_eq wk_nil)))))))))))) fun s19 => (st_ret (xk_triple (xak_cons (xk_imm (xi_cal c__law_put hr tk (xa_cons (xi_fr 4) (xa_cons (xi_fr 9) (xa_cons xi_str xa_nil))))) (xak_cons (xk_free (xk_sortedI (xa_cons (xi_ow 5) xa_nil) b_sorted)) (xak_cons (xk_fr 9) xak_nil)))))))))))))
    (case q => first | (unfold m_l_laid; simp only [Res.okb, Res.bind_assoc, memB]; done) | rfl)
def m_l_cleared (l_nexts_here : (List (List Int))) (l_board : PySem.Str) : Res PySem.Str :=
  (Res.bind (Res.ok ([] : (List Int))) fun (l_gone1 : (List Int)) => (Res.bind (Res.bind (Res.bind (Res.bind (strLen l_board) fun v2 => (Res.ok (v2, ()))) fun v3 => (guardR (small62 v3.1) (Res.ok (rangeL 0 (v3.1).toNat)))) fun v13 => (foldR (fun (s4 : (List Int)) (a5 : Int) => (Res.bind (m_l_chain l_nexts_here l_board a5) fun (l_chain_here6 : (List Int)) => (Res.bind (Res.bind (Res.bind (Res.bind (strIx l_board a5) fun v7 => (Res.ok (!ScaEq.eq v7 (PySem.Str.ofString ".")))) fun v9 => (if v9 then (Res.bind (m_l_breaths l_nexts_here l_board l_chain_here6) fun v8 => (eqD v8 ([] : (List Int)))) else (Res.ok false))) fun v12 => (if v12 then (Res.bind (appR s4 a5) fun l_gone11 => (Res.ok l_gone11)) else (Res.ok s4))) fun s10 => (Res.ok s10)))) l_gone1 v13)) fun s4 => (m_l_put l_board s4 (PySem.Str.ofString "."))))
abbrev s__law_cleared : Stmt := topS 34
abbrev N__law_cleared : List Str := ["_law_nexts_here", "_law_board", "_law_gone", "_law_k", "_law_chain_here"]
theorem S__law_cleared : FnScope N__law_cleared ["_law_nexts_here", "_law_board"] (defScope s__law_cleared) := ⟨rfl, rfl, rfl, by decide +kernel, rfl, by decide +kernel, by decide +kernel⟩
set_option maxHeartbeats 4000000 in
theorem cal__law_cleared {K : Frag} {base : Heap} (D : IsDef K Md.mg "_law_cleared" s__law_cleared) (c__law_chain : Cal Pw.prog Pw.w K Md.mg base 1 "_law_chain" (fun a : (List (List Int)) × PySem.Str × Int × Unit => a) (fun a : (List (List Int)) × PySem.Str × Int × Unit => m_l_chain a.1 a.2.1 a.2.2.1) ow) (c__law_breaths : Cal Pw.prog Pw.w K Md.mg base 1 "_law_breaths" (fun a : (List (List Int)) × PySem.Str × (List Int) × Unit => a) (fun a : (List (List Int)) × PySem.Str × (List Int) × Unit => m_l_breaths a.1 a.2.1 a.2.2.1) ow) (c__law_put : Cal Pw.prog Pw.w K Md.mg base 1 "_law_put" (fun a : PySem.Str × (List Int) × PySem.Str × Unit => a) (fun a : PySem.Str × (List Int) × PySem.Str × Unit => m_l_put a.1 a.2.1 a.2.2.1) fr) (b_len : Md.mg "len" = none) (b_range : Md.mg "range" = none) :
    Cal Pw.prog Pw.w K Md.mg base 2 "_law_cleared" (fun a : (List (List Int)) × PySem.Str × Unit => a) (fun a : (List (List Int)) × PySem.Str × Unit => m_l_cleared a.1 a.2.1) fr :=
  cal_mk (N := N__law_cleared) (ps := ["_law_nexts_here", "_law_board"]) D S__law_cleared rfl (fun _ _ _ _ _ _ us hl => match us, hl with | [_, _], _ => rfl) fun a f cdv A' outer s H E hr => by
    obtain ⟨l_nexts_here, l_board, _⟩ := a
    have S := S__law_cleared
    have tk := takes_of (X := cxOf (L2.CX Pw.prog Pw.w) Pw.prog Pw.w K Md.mg base N__law_cleared "_law_cleared" (defScope s__law_cleared) f cdv A' outer s H E) (E := E) rfl rfl rfl rfl
    refine' ST.slots (ss' := [G.fr l_nexts_here, G.fr l_board, G.any, G.any, G.any]) (ST.cast ?h ?q) rfl
    (case h => exact (st_seq (s1_set 2 (xk_lst (xhk_nil (α := Int))) S.nd) fun (l_gone1 : (List Int)) => (st_seq (s1_for (S := (List Int)) (fun (s4 : (List Int)) => [G.fr l_nexts_here, G.fr l_board, G.ow s4, G.any, G.any]) l_gone1 (it_range1 (xa_cons (xi_bf call_len c_lenStr b_len PySem.boot_len (xa_cons (xi_fr 1) xa_nil)) xa_nil) b_range) (tg_name 3 S.nd) (fun s4 a5 => (sn_seq (s1_set 4 (xk_free (xk_cal c__law_chain hr tk (xa_cons (xi_fr 0) (xa_cons (xi_fr 1) (xa_cons (xi_fr 3) xa_nil))))) S.nd) fun (l_chain_here6 : (List Int)) => (sn_seq (s1_if (post := (fun (s10 : (List Int)) => [G.fr l_nexts_here, G.fr l_board, G.ow s10, G.fr a5, G.fr l_chain_here6])) (xt_w (xw_and (t_cmp op_ne (b_neS (α := PySem.Str) (β := PySem.Str)) (nomark _) (xi_ixStr (xi_fr 1) (xi_fr 3)) xi_str) (xw_and1 (t_cmp (op_eqD (hu64 hr)) (b_eqD (α := (List Int)) (β := (List Int))) (nomark _) (xi_cal c__law_breaths hr tk (xa_cons (xi_fr 0) (xa_cons (xi_fr 1) (xa_cons (xi_fr 4) xa_nil)))) (xi_of (xk_lst (xhk_nil (α := Int)))))))) (sn_seq (s1_append 2 (xk_fr 3)) fun l_gone11 => (sn_nil (s := l_gone11) (wk_eq (wk_eq (wk_eq (wk_eq (wk_eq wk_nil))))))) (sn_nil (s := s4) (wk_eq (wk_eq (wk_eq (wk_eq (wk_eq wk_nil))))))) fun s10 => (sn_nil (s := s10) (wk_eq (wk_eq (wk_eq (wk_any (wk_any wk_nil))))))))) (wk_eq (wk_eq (wk_eq (wk_eq (wk_eq wk_nil)))))) fun s4 => (st_ret (xk_imm (xi_cal c__law_put hr tk (xa_cons (xi_fr 1) (xa_cons (xi_ow 2) (xa_cons xi_str xa_nil)))))))))
    (case q => first | (unfold m_l_cleared; simp only [Res.okb, Res.bind_assoc, memB]; done) | rfl)
def m_l_cell_at (l_script : G.Scr) (l_k : Int) : Res Int :=
  (if (decide (l_k < (l_script.ns.length : Int))) then (idx l_script.ns l_k) else (Res.ok (0 : Int)))
abbrev s__law_cell_at : Stmt := topS 35
abbrev N__law_cell_at : List Str := ["_law_script", "_law_k"]
theorem S__law_cell_at : FnScope N__law_cell_at ["_law_script", "_law_k"] (defScope s__law_cell_at) := ⟨rfl, rfl, rfl, by decide +kernel, rfl, by decide +kernel, by decide +kernel⟩
set_option maxHeartbeats 4000000 in
theorem cal__law_cell_at {K : Frag} {base : Heap} (D : IsDef K Md.mg "_law_cell_at" s__law_cell_at) (b_len : Md.mg "len" = none) :
    Cal Pw.prog Pw.w K Md.mg base 1 "_law_cell_at" (fun a : G.Scr × Int × Unit => a) (fun a : G.Scr × Int × Unit => m_l_cell_at a.1 a.2.1) fr :=
  cal_mk (N := N__law_cell_at) (ps := ["_law_script", "_law_k"]) D S__law_cell_at rfl (fun _ _ _ _ _ _ us hl => match us, hl with | [_, _], _ => rfl) fun a f cdv A' outer s H E hr => by
    obtain ⟨l_script, l_k, _⟩ := a
    have S := S__law_cell_at
    have tk := takes_of (X := cxOf (L2.CX Pw.prog Pw.w) Pw.prog Pw.w K Md.mg base N__law_cell_at "_law_cell_at" (defScope s__law_cell_at) f cdv A' outer s H E) (E := E) rfl rfl rfl rfl
    refine' ST.slots (ss' := [G.fr l_script, G.fr l_k]) (ST.cast ?h ?q) rfl
    (case h => exact (st_guard (t_cmp op_lt b_lt (nomark _) (xi_fr 1) (xi_bf call_len c_lenScr b_len PySem.boot_len (xa_cons (xi_fr 0) xa_nil))) (st_ret (xk_imm (xi_ixS (xi_fr 0) (xi_fr 1)))) (st_ret (xk_imm xi_int))))
    (case q => first | (unfold m_l_cell_at; simp only [Res.okb, Res.bind_assoc, memB]; done) | rfl)
def m_l_part (l_cell : Int) (l_first : Int) : Res (G.T3 PySem.Str (List (Int × Int)) (List Int)) :=
  (Res.bind (Res.bind (Res.bind (Res.bind (Res.bind (repR ((3 : Int) :: ((2 : Int) :: ((2 : Int) :: ((2 : Int) :: ((3 : Int) :: []))))) (5 : Int)) fun v2 => (catR ((3 : Int) :: ((3 : Int) :: [])) v2)) fun v3 => (Res.ok (v3, ()))) fun v4 => (Res.ok (l_cell, v4))) fun a5 => (m_l_numbers a5.1 a5.2.1)) fun (l_digits1 : (List Int)) => (Res.bind (Res.bind (idx l_digits1 (0 : Int)) fun v7 => (Res.ok ((1 : Int) + v7))) fun (l_many6 : Int) => (Res.bind (Res.ok (PySem.Str.ofString "")) fun (l_signs8 : PySem.Str) => (Res.bind (Res.ok ([] : (List (Int × Int)))) fun (l_ties9 : (List (Int × Int))) => (Res.bind (Res.bind (Res.bind (Res.bind (Res.bind (idx l_digits1 (1 : Int)) fun v10 => (Res.ok (l_many6 + v10))) fun v11 => (Res.ok (v11, ()))) fun v12 => (guardR (small62 v12.1) (Res.ok (rangeL 0 (v12.1).toNat)))) fun v41 => (foldR (fun (s13 : PySem.Str × (List (Int × Int))) (a14 : Int) => (Res.bind (Res.bind (Res.bind (Res.bind (Res.bind (mulR (5 : Int) a14) fun v15 => (Res.ok ((2 : Int) + v15))) fun v16 => (Res.ok (some v16))) fun v19 => (Res.bind (Res.bind (Res.bind (mulR (5 : Int) a14) fun v17 => (Res.ok ((7 : Int) + v17))) fun v18 => (Res.ok (some v18))) fun v20 => (Res.ok (cut l_digits1 v19 v20)))) fun v22 => (guardR (decide (v22.length = 5)) (Res.ok v22))) fun p21 => (Res.bind (Res.ok (l_first + a14)) fun (l_here23 : Int) => (Res.bind (if (decide (a14 < l_many6)) then (Res.bind (Res.bind (strIx (PySem.Str.ofString ".xo") (p21.headD default)) fun v26 => (catS s13.1 v26)) fun (l_signs25 : PySem.Str) => (Res.ok l_signs25)) else (Res.bind (Res.bind (strIx (PySem.Str.ofString "xox") (p21.headD default)) fun v28 => (catS s13.1 v28)) fun (l_signs27 : PySem.Str) => (Res.ok l_signs27))) fun s24 => (Res.bind (if (ScaEq.eq (p21.tail.headD default) (0 : Int)) then (Res.bind (appR s13.2 ((0 : Int), l_here23)) fun l_ties30 => (Res.ok l_ties30)) else (Res.ok s13.2)) fun s29 => (Res.bind (if (ScaEq.eq (p21.tail.tail.headD default) (0 : Int)) then (Res.bind (appR s29 ((2 : Int), l_here23)) fun l_ties32 => (Res.ok l_ties32)) else (Res.ok s29)) fun s31 => (Res.bind (Res.bind (if (decide (a14 > (0 : Int))) then (if (ScaEq.eq (p21.tail.tail.tail.headD default) (0 : Int)) then (Res.ok true) else (Res.ok (decide (a14 ≥ l_many6)))) else (Res.ok false)) fun v40 => (if v40 then (Res.bind (Res.bind (Res.bind (Res.bind (Res.bind (modR (p21.tail.tail.tail.tail.headD default) a14) fun v36 => (Res.ok (l_first + v36))) fun v37 => (Res.ok (v37, (l_here23, ())))) fun v38 => (Res.ok (v38.1, v38.2.1))) fun v39 => (appR s31 v39)) fun l_ties34 => (Res.ok l_ties34)) else (Res.ok s31))) fun s33 => (Res.ok (s24, s33))))))))) (l_signs8, l_ties9) v41)) fun s13 => (Res.bind (Res.bind (Res.bind (Res.bind (Res.bind (guardR (small62 l_many6) (Res.ok (rangeL 0 (l_many6).toNat))) fun v43 => (lcT (fun _ => Res.ok true) (fun a42 => (Res.ok (l_first + a42))) v43)) fun v44 => (Res.ok (v44, ()))) fun v45 => (Res.ok (s13.2, v45))) fun v46 => (Res.ok (s13.1, v46))) fun v47 => (Res.ok (⟨v47.1, v47.2.1, v47.2.2.1⟩ : (G.T3 PySem.Str (List (Int × Int)) (List Int))))))))))
abbrev s__law_part : Stmt := topS 36
abbrev N__law_part : List Str := ["_law_cell", "_law_first", "_law_digits", "_law_many", "_law_signs", "_law_ties", "_law_k", "_law_sign", "_law_one", "_law_two", "_law_three", "_law_near", "_law_here"]
theorem S__law_part : FnScope N__law_part ["_law_cell", "_law_first"] (defScope s__law_part) := ⟨rfl, rfl, rfl, by decide +kernel, rfl, by decide +kernel, by decide +kernel⟩
set_option maxHeartbeats 4000000 in
theorem cal__law_part {K : Frag} {base : Heap} (D : IsDef K Md.mg "_law_part" s__law_part) (c__law_numbers : Cal Pw.prog Pw.w K Md.mg base 1 "_law_numbers" (fun a : Int × (List Int) × Unit => a) (fun a : Int × (List Int) × Unit => m_l_numbers a.1 a.2.1) ow) (b_range : Md.mg "range" = none) :
    Cal Pw.prog Pw.w K Md.mg base 2 "_law_part" (fun a : Int × Int × Unit => a) (fun a : Int × Int × Unit => m_l_part a.1 a.2.1) fr :=
  cal_mk (N := N__law_part) (ps := ["_law_cell", "_law_first"]) D S__law_part rfl (fun _ _ _ _ _ _ us hl => match us, hl with | [_, _], _ => rfl) fun a f cdv A' outer s H E hr => by
    obtain ⟨l_cell, l_first, _⟩ := a
    have S := S__law_part
    have tk := takes_of (X := cxOf (L2.CX Pw.prog Pw.w) Pw.prog Pw.w K Md.mg base N__law_part "_law_part" (defScope s__law_part) f cdv A' outer s H E) (E := E) rfl rfl rfl rfl
    refine' ST.slots (ss' := [G.fr l_cell, G.fr l_first, G.any, G.any, G.any, G.any, G.any, G.any, G.any, G.any, G.any, G.any, G.any]) (ST.cast ?h ?q) rfl
    (case h => exact (st_seq (s1_set 2 (xk_free (xk_cal c__law_numbers hr tk (xa_cons (xi_fr 0) (xa_cons (xi_of (xk_cat (xi_of (xk_lst (xak_imm (xh_cons xi_int (xh_cons xi_int (xh_nil)))))) (xi_of (xk_rep (xi_of (xk_lst (xak_imm (xh_cons xi_int (xh_cons xi_int (xh_cons xi_int (xh_cons xi_int (xh_cons xi_int (xh_nil))))))))) xi_int)))) xa_nil)))) S.nd) fun (l_digits1 : (List Int)) => (st_seq (s1_set 3 (xk_imm (x_bin op_add b_add xi_int (xi_ixL (xi_fr 2) xi_int))) S.nd) fun (l_many6 : Int) => (st_seq (s1_set 4 (xk_imm xi_str) S.nd) fun (l_signs8 : PySem.Str) => (st_seq (s1_set 5 (xk_lst (xhk_nil (α := (Int × Int)))) S.nd) fun (l_ties9 : (List (Int × Int))) => (st_seq (s1_for (S := PySem.Str × (List (Int × Int))) (fun (s13 : PySem.Str × (List (Int × Int))) => [G.fr l_cell, G.fr l_first, G.fr l_digits1, G.fr l_many6, G.fr s13.1, G.ow s13.2, G.any, G.any, G.any, G.any, G.any, G.any, G.any]) (l_signs8, l_ties9) (it_range1 (xa_cons (x_bin op_add b_add (xi_fr 3) (xi_ixL (xi_fr 2) xi_int)) xa_nil) b_range) (tg_name 6 S.nd) (fun s13 a14 => (sn_seq (s1_unl (xk_free (xk_slice (xi_fr 2) (xo_some (x_bin op_add b_add xi_int (x_bin op_mul b_mul xi_int (xi_fr 6)))) (xo_some (x_bin op_add b_add xi_int (x_bin op_mul b_mul xi_int (xi_fr 6)))))) (tl_cons (tg_name 7 S.nd) (tl_cons (tg_name 8 S.nd) (tl_cons (tg_name 9 S.nd) (tl_cons (tg_name 10 S.nd) (tl_cons (tg_name 11 S.nd) tl_nil)))))) fun p21 => (sn_seq (s1_set 12 (xk_imm (x_bin op_add b_add (xi_fr 1) (xi_fr 6))) S.nd) fun (l_here23 : Int) => (sn_seq (s1_if (post := (fun (s24 : PySem.Str) => [G.fr l_cell, G.fr l_first, G.fr l_digits1, G.fr l_many6, G.fr s24, G.ow s13.2, G.fr a14, G.fr (p21.headD default), G.fr (p21.tail.headD default), G.fr (p21.tail.tail.headD default), G.fr (p21.tail.tail.tail.headD default), G.fr (p21.tail.tail.tail.tail.headD default), G.fr l_here23])) (t_cmp op_lt b_lt (nomark _) (xi_fr 6) (xi_fr 3)) (sn_seq (s1_set 4 (xk_imm (x_bin op_add_str b_catS (xi_fr 4) (xi_ixStr xi_str (xi_fr 7)))) S.nd) fun (l_signs25 : PySem.Str) => (sn_nil (s := l_signs25) (wk_eq (wk_eq (wk_eq (wk_eq (wk_eq (wk_eq (wk_eq (wk_eq (wk_eq (wk_eq (wk_eq (wk_eq (wk_eq wk_nil))))))))))))))) (sn_seq (s1_set 4 (xk_imm (x_bin op_add_str b_catS (xi_fr 4) (xi_ixStr xi_str (xi_fr 7)))) S.nd) fun (l_signs27 : PySem.Str) => (sn_nil (s := l_signs27) (wk_eq (wk_eq (wk_eq (wk_eq (wk_eq (wk_eq (wk_eq (wk_eq (wk_eq (wk_eq (wk_eq (wk_eq (wk_eq wk_nil)))))))))))))))) fun s24 => (sn_seq (s1_if (post := (fun (s29 : (List (Int × Int))) => [G.fr l_cell, G.fr l_first, G.fr l_digits1, G.fr l_many6, G.fr s24, G.ow s29, G.fr a14, G.fr (p21.headD default), G.fr (p21.tail.headD default), G.fr (p21.tail.tail.headD default), G.fr (p21.tail.tail.tail.headD default), G.fr (p21.tail.tail.tail.tail.headD default), G.fr l_here23])) (t_cmp op_eq (b_eqS (α := Int) (β := Int)) (nomark _) (xi_fr 8) xi_int) (sn_seq (s1_append 5 (xk_imm (xi_pair (xa_cons xi_int (xa_cons (xi_fr 12) xa_nil))))) fun l_ties30 => (sn_nil (s := l_ties30) (wk_eq (wk_eq (wk_eq (wk_eq (wk_eq (wk_eq (wk_eq (wk_eq (wk_eq (wk_eq (wk_eq (wk_eq (wk_eq wk_nil))))))))))))))) (sn_nil (s := s13.2) (wk_eq (wk_eq (wk_eq (wk_eq (wk_eq (wk_eq (wk_eq (wk_eq (wk_eq (wk_eq (wk_eq (wk_eq (wk_eq wk_nil))))))))))))))) fun s29 => (sn_seq (s1_if (post := (fun (s31 : (List (Int × Int))) => [G.fr l_cell, G.fr l_first, G.fr l_digits1, G.fr l_many6, G.fr s24, G.ow s31, G.fr a14, G.fr (p21.headD default), G.fr (p21.tail.headD default), G.fr (p21.tail.tail.headD default), G.fr (p21.tail.tail.tail.headD default), G.fr (p21.tail.tail.tail.tail.headD default), G.fr l_here23])) (t_cmp op_eq (b_eqS (α := Int) (β := Int)) (nomark _) (xi_fr 9) xi_int) (sn_seq (s1_append 5 (xk_imm (xi_pair (xa_cons xi_int (xa_cons (xi_fr 12) xa_nil))))) fun l_ties32 => (sn_nil (s := l_ties32) (wk_eq (wk_eq (wk_eq (wk_eq (wk_eq (wk_eq (wk_eq (wk_eq (wk_eq (wk_eq (wk_eq (wk_eq (wk_eq wk_nil))))))))))))))) (sn_nil (s := s29) (wk_eq (wk_eq (wk_eq (wk_eq (wk_eq (wk_eq (wk_eq (wk_eq (wk_eq (wk_eq (wk_eq (wk_eq (wk_eq wk_nil))))))))))))))) fun s31 => (sn_seq (s1_if (post := (fun (s33 : (List (Int × Int))) => [G.fr l_cell, G.fr l_first, G.fr l_digits1, G.fr l_many6, G.fr s24, G.ow s33, G.fr a14, G.fr (p21.headD default), G.fr (p21.tail.headD default), G.fr (p21.tail.tail.headD default), G.fr (p21.tail.tail.tail.headD default), G.fr (p21.tail.tail.tail.tail.headD default), G.fr l_here23])) (xt_w (xw_and (t_cmp op_gt b_gt (nomark _) (xi_fr 6) xi_int) (xw_and1 (xt_w (xw_or (t_cmp op_eq (b_eqS (α := Int) (β := Int)) (nomark _) (xi_fr 10) xi_int) (xw_or1 (t_cmp op_ge b_ge (nomark _) (xi_fr 6) (xi_fr 3)))))))) (sn_seq (s1_append 5 (xk_imm (xi_pair (xa_cons (x_bin op_add b_add (xi_fr 1) (x_bin op_mod b_mod (xi_fr 11) (xi_fr 6))) (xa_cons (xi_fr 12) xa_nil))))) fun l_ties34 => (sn_nil (s := l_ties34) (wk_eq (wk_eq (wk_eq (wk_eq (wk_eq (wk_eq (wk_eq (wk_eq (wk_eq (wk_eq (wk_eq (wk_eq (wk_eq wk_nil))))))))))))))) (sn_nil (s := s31) (wk_eq (wk_eq (wk_eq (wk_eq (wk_eq (wk_eq (wk_eq (wk_eq (wk_eq (wk_eq (wk_eq (wk_eq (wk_eq wk_nil))))))))))))))) fun s33 => (sn_nil (s := (s24, s33)) (wk_eq (wk_eq (wk_eq (wk_eq (wk_eq (wk_eq (wk_any (wk_any (wk_any (wk_any (wk_any (wk_any (wk_any wk_nil))))))))))))))))))))) (wk_eq (wk_eq (wk_eq (wk_eq (wk_eq (wk_eq (wk_eq (wk_eq (wk_eq (wk_eq (wk_eq (wk_eq (wk_eq wk_nil)))))))))))))) fun s13 => (st_froz (as := s13.2) 5 (st_ret (xk_triple (xak_cons (xk_imm (xi_fr 4)) (xak_cons (xk_fr 5) (xak_cons (xk_free (xk_lc (own := [("_law_k", 6)]) (it_range1 (xa_cons (xi_fr 3) xa_nil) b_range) (tc_name 6 S.nd) (fun a42 _ _ _ _ _ => (xk_imm (x_bin op_add b_add (xi_fr 1) (xi_fr 6)))) S.nd (blkOk_by (N := N__law_part) (sc := defScope s__law_part) (by decide +kernel)))) xak_nil))))))))))))
    (case q => first | (unfold m_l_part; simp only [Res.okb, Res.bind_assoc, memB]; done) | rfl)
def m_l_drawn (l_cells : (List Int)) : Res (G.T3 (Int × (G.Tup (Int × Int))) PySem.Str (List (List Int))) :=
  (Res.bind (Res.ok (PySem.Str.ofString "x.o.")) fun (l_signs1 : PySem.Str) => (Res.bind (Res.ok (((0 : Int), (1 : Int)) :: (((2 : Int), (3 : Int)) :: []))) fun (l_ties2 : (List (Int × Int))) => (Res.bind (Res.ok ([] : (List (List Int)))) fun (l_fields3 : (List (List Int))) => (Res.bind (foldR (fun (s4 : PySem.Str × (List (Int × Int)) × (List (List Int))) (a5 : Int) => (Res.bind (Res.bind (Res.bind (Res.bind (strLen s4.1) fun v6 => (Res.ok (v6, ()))) fun v7 => (Res.ok (a5, v7))) fun a8 => (m_l_part a8.1 a8.2.1)) fun (p9 : (G.T3 PySem.Str (List (Int × Int)) (List Int))) => (Res.bind (catS s4.1 p9.a) fun (l_signs10 : PySem.Str) => (Res.bind (extR s4.2.1 p9.b) fun l_ties11 => (Res.bind (appR s4.2.2 p9.c) fun l_fields12 => (Res.ok (l_signs10, l_ties11, l_fields12))))))) (l_signs1, l_ties2, l_fields3) l_cells) fun s4 => (Res.bind (Res.bind (Res.bind (strLen s4.1) fun v14 => (Res.ok (v14, ((⟨(sortP s4.2.1)⟩ : (G.Tup (Int × Int))), ())))) fun v15 => (Res.ok (v15.1, v15.2.1))) fun (l_web13 : (Int × (G.Tup (Int × Int)))) => (Res.bind (Res.bind (Res.bind (Res.bind (Res.bind (m_l_nexts l_web13) fun v16 => (Res.ok (v16, (s4.1, ())))) fun a17 => (m_l_cleared a17.1 a17.2.1)) fun v18 => (Res.ok (v18, (s4.2.2, ())))) fun v19 => (Res.ok (l_web13, v19))) fun v20 => (Res.ok (⟨v20.1, v20.2.1, v20.2.2.1⟩ : (G.T3 (Int × (G.Tup (Int × Int))) PySem.Str (List (List Int)))))))))))
abbrev s__law_drawn : Stmt := topS 37
abbrev N__law_drawn : List Str := ["_law_cells", "_law_signs", "_law_ties", "_law_fields", "_law_cell", "_law_more", "_law_others", "_law_field", "_law_web"]
theorem S__law_drawn : FnScope N__law_drawn ["_law_cells"] (defScope s__law_drawn) := ⟨rfl, rfl, rfl, by decide +kernel, rfl, by decide +kernel, by decide +kernel⟩
set_option maxHeartbeats 4000000 in
theorem cal__law_drawn {K : Frag} {base : Heap} (D : IsDef K Md.mg "_law_drawn" s__law_drawn) (c__law_nexts : Cal Pw.prog Pw.w K Md.mg base 1 "_law_nexts" (fun a : (Int × (G.Tup (Int × Int))) × Unit => a) (fun a : (Int × (G.Tup (Int × Int))) × Unit => m_l_nexts a.1) fr) (c__law_cleared : Cal Pw.prog Pw.w K Md.mg base 2 "_law_cleared" (fun a : (List (List Int)) × PySem.Str × Unit => a) (fun a : (List (List Int)) × PySem.Str × Unit => m_l_cleared a.1 a.2.1) fr) (c__law_part : Cal Pw.prog Pw.w K Md.mg base 2 "_law_part" (fun a : Int × Int × Unit => a) (fun a : Int × Int × Unit => m_l_part a.1 a.2.1) fr) (b_len : Md.mg "len" = none) (b_sorted : Md.mg "sorted" = none) (b_tuple : Md.mg "tuple" = none) :
    Cal Pw.prog Pw.w K Md.mg base 3 "_law_drawn" (fun a : (List Int) × Unit => a) (fun a : (List Int) × Unit => m_l_drawn a.1) fr :=
  cal_mk (N := N__law_drawn) (ps := ["_law_cells"]) D S__law_drawn rfl (fun _ _ _ _ _ _ us hl => match us, hl with | [_], _ => rfl) fun a f cdv A' outer s H E hr => by
    obtain ⟨l_cells, _⟩ := a
    have S := S__law_drawn
    have tk := takes_of (X := cxOf (L2.CX Pw.prog Pw.w) Pw.prog Pw.w K Md.mg base N__law_drawn "_law_drawn" (defScope s__law_drawn) f cdv A' outer s H E) (E := E) rfl rfl rfl rfl
    refine' ST.slots (ss' := [G.fr l_cells, G.any, G.any, G.any, G.any, G.any, G.any, G.any, G.any]) (ST.cast ?h ?q) rfl
    (case h => exact (st_seq (s1_set 1 (xk_imm xi_str) S.nd) fun (l_signs1 : PySem.Str) => (st_seq (s1_set 2 (xk_lst (xak_imm (xh_cons (xi_pair (xa_cons xi_int (xa_cons xi_int xa_nil))) (xh_cons (xi_pair (xa_cons xi_int (xa_cons xi_int xa_nil))) (xh_nil))))) S.nd) fun (l_ties2 : (List (Int × Int))) => (st_seq (s1_set 3 (xk_lst (xhk_nil (α := (List Int)))) S.nd) fun (l_fields3 : (List (List Int))) => (st_seq (s1_for (S := PySem.Str × (List (Int × Int)) × (List (List Int))) (fun (s4 : PySem.Str × (List (Int × Int)) × (List (List Int))) => [G.fr l_cells, G.fr s4.1, G.ow s4.2.1, G.ow s4.2.2, G.any, G.any, G.any, G.any, G.any]) (l_signs1, l_ties2, l_fields3) (it_list (xk_fr 0)) (tg_name 4 S.nd) (fun s4 a5 => (sn_seq (s1_asg (xk_calF c__law_part hr tk (xak_cons (xk_imm (xi_fr 4)) (xak_cons (xk_imm (xi_bf call_len c_lenStr b_len PySem.boot_len (xa_cons (xi_fr 1) xa_nil))) xak_nil))) (tg_three (tg_name 5 S.nd) (tg_name 6 S.nd) (tg_name 7 S.nd))) fun (p9 : (G.T3 PySem.Str (List (Int × Int)) (List Int))) => (sn_seq (s1_set 1 (xk_imm (x_bin op_add_str b_catS (xi_fr 1) (xi_fr 5))) S.nd) fun (l_signs10 : PySem.Str) => (sn_seq (s1_extI 2 (xi_fr 6)) fun l_ties11 => (sn_seq (s1_append 3 (xk_fr 7)) fun l_fields12 => (sn_nil (s := (l_signs10, l_ties11, l_fields12)) (wk_eq (wk_eq (wk_eq (wk_eq (wk_any (wk_any (wk_any (wk_any (wk_eq wk_nil))))))))))))))) (wk_eq (wk_eq (wk_eq (wk_eq (wk_eq (wk_eq (wk_eq (wk_eq (wk_eq wk_nil)))))))))) fun s4 => (st_seq (s1_set 8 (xk_imm (xi_pair (xa_cons (xi_bf call_len c_lenStr b_len PySem.boot_len (xa_cons (xi_fr 1) xa_nil)) (xa_cons (xi_bt call_tuple_of c_tuple b_tuple (by decide +kernel) (xa_cons (xi_of (xk_sortedP (xa_cons (xi_ow 2) xa_nil) b_sorted)) xa_nil)) xa_nil)))) S.nd) fun (l_web13 : (Int × (G.Tup (Int × Int)))) => (st_froz (as := s4.2.2) 3 (st_ret (xk_triple (xak_cons (xk_imm (xi_fr 8)) (xak_cons (xk_imm (xi_cal c__law_cleared hr tk (xa_cons (xi_cal c__law_nexts hr tk (xa_cons (xi_fr 8) xa_nil)) (xa_cons (xi_fr 1) xa_nil)))) (xak_cons (xk_fr 3) xak_nil))))))))))))
    (case q => first | (unfold m_l_drawn; simp only [Res.okb, Res.bind_assoc, memB]; done) | rfl)
def m_l_told (l_web : (Int × (G.Tup (Int × Int)))) (l_board : PySem.Str) (l_hand : PySem.Str) (l_k : Int) : Res (Option (G.T3 PySem.Str (List Int) (List Int))) :=
  (Res.tail (S := Unit) (R := (Option (G.T3 PySem.Str (List Int) (List Int)))) (catchR ((Res.bind (Res.bind (m_lay l_web l_board l_hand l_k false) fun v2 => (Res.ok (some v2))) fun r => (Res.ok (Out.rt r))) : Res (Out (Unit) (Empty) (Option (G.T3 PySem.Str (List Int) (List Int))))) [(ct_tab_Occupied, fun (x : Exn) => (Res.ok (Out.rt (none : (Option (G.T3 PySem.Str (List Int) (List Int))))))), (ct_tab_Breathless, fun (x : Exn) => (Res.ok (Out.rt (none : (Option (G.T3 PySem.Str (List Int) (List Int)))))))]) fun s1 => Res.stuck)
abbrev s__law_told : Stmt := topS 38
abbrev N__law_told : List Str := ["_law_web", "_law_board", "_law_hand", "_law_k"]
theorem S__law_told : FnScope N__law_told ["_law_web", "_law_board", "_law_hand", "_law_k"] (defScope s__law_told) := ⟨rfl, rfl, rfl, by decide +kernel, rfl, by decide +kernel, by decide +kernel⟩
set_option maxHeartbeats 4000000 in
theorem cal__law_told {K : Frag} {base : Heap} (D : IsDef K Md.mg "_law_told" s__law_told) (c_lay : Cal Pw.prog Pw.w K Md.mg base 5 "lay" (fun a : (Int × (G.Tup (Int × Int))) × PySem.Str × PySem.Str × Int × Bool × Unit => a) (fun a : (Int × (G.Tup (Int × Int))) × PySem.Str × PySem.Str × Int × Bool × Unit => m_lay a.1 a.2.1 a.2.2.1 a.2.2.2.1 a.2.2.2.2.1) fr) (ct_Occupied : CTab K Md.mg "Occupied" ct_tab_Occupied) (ct_Breathless : CTab K Md.mg "Breathless" ct_tab_Breathless) :
    Cal Pw.prog Pw.w K Md.mg base 6 "_law_told" (fun a : (Int × (G.Tup (Int × Int))) × PySem.Str × PySem.Str × Int × Unit => a) (fun a : (Int × (G.Tup (Int × Int))) × PySem.Str × PySem.Str × Int × Unit => m_l_told a.1 a.2.1 a.2.2.1 a.2.2.2.1) fr :=
  cal_mk (N := N__law_told) (ps := ["_law_web", "_law_board", "_law_hand", "_law_k"]) D S__law_told rfl (fun _ _ _ _ _ _ us hl => match us, hl with | [_, _, _, _], _ => rfl) fun a f cdv A' outer s H E hr => by
    obtain ⟨l_web, l_board, l_hand, l_k, _⟩ := a
    have S := S__law_told
    have tk := takes_of (X := cxOf (L2.CX Pw.prog Pw.w) Pw.prog Pw.w K Md.mg base N__law_told "_law_told" (defScope s__law_told) f cdv A' outer s H E) (E := E) rfl rfl rfl rfl
    refine' ST.slots (ss' := [G.fr l_web, G.fr l_board, G.fr l_hand, G.fr l_k]) (ST.cast ?h ?q) rfl
    (case h => exact (st_b1 (S := Unit) (R := (Option (G.T3 PySem.Str (List Int) (List Int)))) (pl := fun x => nomatch x) (b1_try (post := (fun (s1 : Unit) => [G.fr l_web, G.fr l_board, G.fr l_hand, G.fr l_k])) tk (fun W' pn xe tk => (eb_ret (xk_someF (xk_calF c_lay hr tk (xak_cons (xk_imm (xi_fr 0)) (xak_cons (xk_imm (xi_fr 1)) (xak_cons (xk_imm (xi_fr 2)) (xak_cons (xk_imm (xi_fr 3)) (xak_cons (xk_imm xi_bl) xak_nil))))))))) (HX.cons ct_Occupied rfl (by decide) (fun x a oe pn => (have tk : ∀ {X : L2.Cx}, L2.Takes X G.wNo := takes_no; (sb_ret xk_noneF))) (HX.cons ct_Breathless rfl (by decide) (fun x a oe pn => (have tk : ∀ {X : L2.Cx}, L2.Takes X G.wNo := takes_no; (sb_ret xk_noneF))) HX.nil))) fun s1 => st_stuck))
    (case q => first | (unfold m_l_told; simp only [Res.okb, Res.bind_assoc, memB]; done) | rfl)
def m_l_due (l_nexts_here : (List (List Int))) (l_board : PySem.Str) (l_hand : PySem.Str) (l_k : Int) : Res (Option (G.T3 PySem.Str (List Int) (List Int))) :=
  (Res.bind (Res.bind (strIx l_board l_k) fun v1 => (Res.ok (!ScaEq.eq v1 (PySem.Str.ofString ".")))) fun v5 => (if v5 then (Res.ok (none : (Option (G.T3 PySem.Str (List Int) (List Int))))) else (Res.bind (m_l_laid l_nexts_here l_board l_hand l_k) fun (l_found2 : (G.T3 PySem.Str (List Int) (List Int))) => (Res.bind (Res.bind (neD (l_found2.c) ([] : (List Int))) fun v3 => (Res.ok (if v3 then (1 : Int) else 0))) fun v4 => (idx ((some l_found2) :: ((none : (Option (G.T3 PySem.Str (List Int) (List Int)))) :: [])) v4)))))
abbrev s__law_due : Stmt := topS 39
abbrev N__law_due : List Str := ["_law_nexts_here", "_law_board", "_law_hand", "_law_k", "_law_found"]
theorem S__law_due : FnScope N__law_due ["_law_nexts_here", "_law_board", "_law_hand", "_law_k"] (defScope s__law_due) := ⟨rfl, rfl, rfl, by decide +kernel, rfl, by decide +kernel, by decide +kernel⟩
set_option maxHeartbeats 4000000 in
theorem cal__law_due {K : Frag} {base : Heap} (D : IsDef K Md.mg "_law_due" s__law_due) (c__law_laid : Cal Pw.prog Pw.w K Md.mg base 2 "_law_laid" (fun a : (List (List Int)) × PySem.Str × PySem.Str × Int × Unit => a) (fun a : (List (List Int)) × PySem.Str × PySem.Str × Int × Unit => m_l_laid a.1 a.2.1 a.2.2.1 a.2.2.2.1) fr) (b_int : Md.mg "int" = none) :
    Cal Pw.prog Pw.w K Md.mg base 3 "_law_due" (fun a : (List (List Int)) × PySem.Str × PySem.Str × Int × Unit => a) (fun a : (List (List Int)) × PySem.Str × PySem.Str × Int × Unit => m_l_due a.1 a.2.1 a.2.2.1 a.2.2.2.1) fr :=
  cal_mk (N := N__law_due) (ps := ["_law_nexts_here", "_law_board", "_law_hand", "_law_k"]) D S__law_due rfl (fun _ _ _ _ _ _ us hl => match us, hl with | [_, _, _, _], _ => rfl) fun a f cdv A' outer s H E hr => by
    obtain ⟨l_nexts_here, l_board, l_hand, l_k, _⟩ := a
    have S := S__law_due
    have tk := takes_of (X := cxOf (L2.CX Pw.prog Pw.w) Pw.prog Pw.w K Md.mg base N__law_due "_law_due" (defScope s__law_due) f cdv A' outer s H E) (E := E) rfl rfl rfl rfl
    refine' ST.slots (ss' := [G.fr l_nexts_here, G.fr l_board, G.fr l_hand, G.fr l_k, G.any]) (ST.cast ?h ?q) rfl
    (case h => exact (st_guard (t_cmp op_ne (b_neS (α := PySem.Str) (β := PySem.Str)) (nomark _) (xi_ixStr (xi_fr 1) (xi_fr 3)) xi_str) (st_ret xk_noneF) (st_seq (s1_set 4 (xk_calF c__law_laid hr tk (xak_cons (xk_fr 0) (xak_cons (xk_imm (xi_fr 1)) (xak_cons (xk_imm (xi_fr 2)) (xak_cons (xk_imm (xi_fr 3)) xak_nil))))) S.nd) fun (l_found2 : (G.T3 PySem.Str (List Int) (List Int))) => (st_ret (xk_ixLL (xl_own (xk_lst (xhk_cons (xk_someF (xk_fr 4)) (xhk_cons xk_noneF (xhk_nil))))) (xi_bt call_int1 c_intB b_int (by decide +kernel) (xa_cons (x_cmp (op_neD (hu64 hr)) (b_neD (α := (List Int)) (β := (List Int))) (nomark _) (xi_t3 (xi_fr 4)) (xi_of (xk_lst (xhk_nil (α := Int))))) xa_nil)))))))
    (case q => first | (unfold m_l_due; simp only [Res.okb, Res.bind_assoc, memB]; done) | rfl)
def m_l_of (l_board : PySem.Str) (l_field : (List Int)) (l_fields : (List (List Int))) : Res PySem.Str :=
  (Res.bind (strLen l_board) fun (l_last1 : Int) => (Res.bind (foldR (fun (s2 : Int) (a3 : (List Int)) => (Res.bind (Res.bind (Res.bind (idx a3 (0 : Int)) fun v4 => (Res.bind (idx l_field (0 : Int)) fun v5 => (Res.ok (decide (v4 > v5))))) fun v9 => (if v9 then (Res.bind (Res.bind (idx a3 (0 : Int)) fun v8 => (Res.ok (min s2 v8))) fun (l_last7 : Int) => (Res.ok l_last7)) else (Res.ok s2))) fun s6 => (Res.ok s6))) l_last1 l_fields) fun s2 => (Res.bind (Res.bind (idx l_field (0 : Int)) fun v10 => (Res.ok (some v10))) fun v11 => (cutStr l_board v11 (some s2)))))
abbrev s__law_of : Stmt := topS 40
abbrev N__law_of : List Str := ["_law_board", "_law_field", "_law_fields", "_law_last", "_law_other"]
theorem S__law_of : FnScope N__law_of ["_law_board", "_law_field", "_law_fields"] (defScope s__law_of) := ⟨rfl, rfl, rfl, by decide +kernel, rfl, by decide +kernel, by decide +kernel⟩
set_option maxHeartbeats 4000000 in
theorem cal__law_of {K : Frag} {base : Heap} (D : IsDef K Md.mg "_law_of" s__law_of) (b_len : Md.mg "len" = none) (b_min : Md.mg "min" = none) :
    Cal Pw.prog Pw.w K Md.mg base 1 "_law_of" (fun a : PySem.Str × (List Int) × (List (List Int)) × Unit => a) (fun a : PySem.Str × (List Int) × (List (List Int)) × Unit => m_l_of a.1 a.2.1 a.2.2.1) fr :=
  cal_mk (N := N__law_of) (ps := ["_law_board", "_law_field", "_law_fields"]) D S__law_of rfl (fun _ _ _ _ _ _ us hl => match us, hl with | [_, _, _], _ => rfl) fun a f cdv A' outer s H E hr => by
    obtain ⟨l_board, l_field, l_fields, _⟩ := a
    have S := S__law_of
    have tk := takes_of (X := cxOf (L2.CX Pw.prog Pw.w) Pw.prog Pw.w K Md.mg base N__law_of "_law_of" (defScope s__law_of) f cdv A' outer s H E) (E := E) rfl rfl rfl rfl
    refine' ST.slots (ss' := [G.fr l_board, G.fr l_field, G.fr l_fields, G.any, G.any]) (ST.cast ?h ?q) rfl
    (case h => exact (st_seq (s1_set 3 (xk_imm (xi_bf call_len c_lenStr b_len PySem.boot_len (xa_cons (xi_fr 0) xa_nil))) S.nd) fun (l_last1 : Int) => (st_seq (s1_for (S := Int) (fun (s2 : Int) => [G.fr l_board, G.fr l_field, G.fr l_fields, G.fr s2, G.any]) l_last1 (it_list (xk_fr 2)) (tg_name 4 S.nd) (fun s2 a3 => (sn_seq (s1_if (post := (fun (s6 : Int) => [G.fr l_board, G.fr l_field, G.fr l_fields, G.fr s6, G.fr a3])) (t_cmp op_gt b_gt (nomark _) (xi_ixL (xi_fr 4) xi_int) (xi_ixL (xi_fr 1) xi_int)) (sn_seq (s1_set 3 (xk_imm (xi_bf (call_min2 rfl) c_min b_min (by decide +kernel) (xa_cons (xi_fr 3) (xa_cons (xi_ixL (xi_fr 4) xi_int) xa_nil)))) S.nd) fun (l_last7 : Int) => (sn_nil (s := l_last7) (wk_eq (wk_eq (wk_eq (wk_eq (wk_eq wk_nil))))))) (sn_nil (s := s2) (wk_eq (wk_eq (wk_eq (wk_eq (wk_eq wk_nil))))))) fun s6 => (sn_nil (s := s6) (wk_eq (wk_eq (wk_eq (wk_eq (wk_any wk_nil)))))))) (wk_eq (wk_eq (wk_eq (wk_eq (wk_eq wk_nil)))))) fun s2 => (st_ret (xk_imm (xi_sliceStr (xi_fr 0) (xo_some (xi_ixL (xi_fr 1) xi_int)) (xo_some (xi_fr 3))))))))
    (case q => first | (unfold m_l_of; simp only [Res.okb, Res.bind_assoc, memB]; done) | rfl)
def m_l_put_of (l_board : PySem.Str) (l_field : (List Int)) (l_fields : (List (List Int))) (l_signs : PySem.Str) : Res PySem.Str :=
  (Res.bind (Res.bind (Res.bind (Res.bind (idx l_field (0 : Int)) fun v14 => (Res.ok (some v14))) fun v15 => (cutStr l_board none v15)) fun v16 => (catS v16 l_signs)) fun v21 => (Res.bind (Res.bind (Res.bind (Res.bind (idx l_field (0 : Int)) fun v17 => (Res.bind (strLen l_signs) fun v18 => (Res.ok (v17 + v18)))) fun v19 => (Res.ok (some v19))) fun v20 => (cutStr l_board v20 none)) fun v22 => (catS v21 v22)))
abbrev s__law_put_of : Stmt := topS 41
abbrev N__law_put_of : List Str := ["_law_board", "_law_field", "_law_fields", "_law_signs"]
theorem S__law_put_of : FnScope N__law_put_of ["_law_board", "_law_field", "_law_fields", "_law_signs"] (defScope s__law_put_of) := ⟨rfl, rfl, rfl, by decide +kernel, rfl, by decide +kernel, by decide +kernel⟩
set_option maxHeartbeats 4000000 in
theorem cal__law_put_of {K : Frag} {base : Heap} (D : IsDef K Md.mg "_law_put_of" s__law_put_of) (b_len : Md.mg "len" = none) :
    Cal Pw.prog Pw.w K Md.mg base 1 "_law_put_of" (fun a : PySem.Str × (List Int) × (List (List Int)) × PySem.Str × Unit => a) (fun a : PySem.Str × (List Int) × (List (List Int)) × PySem.Str × Unit => m_l_put_of a.1 a.2.1 a.2.2.1 a.2.2.2.1) fr :=
  cal_mk (N := N__law_put_of) (ps := ["_law_board", "_law_field", "_law_fields", "_law_signs"]) D S__law_put_of rfl (fun _ _ _ _ _ _ us hl => match us, hl with | [_, _, _, _], _ => rfl) fun a f cdv A' outer s H E hr => by
    obtain ⟨l_board, l_field, l_fields, l_signs, _⟩ := a
    have S := S__law_put_of
    have tk := takes_of (X := cxOf (L2.CX Pw.prog Pw.w) Pw.prog Pw.w K Md.mg base N__law_put_of "_law_put_of" (defScope s__law_put_of) f cdv A' outer s H E) (E := E) rfl rfl rfl rfl
    refine' ST.slots (ss' := [G.fr l_board, G.fr l_field, G.fr l_fields, G.fr l_signs]) (ST.cast ?h ?q) rfl
    (case h => exact (st_ret (xk_imm (x_bin op_add_str b_catS (x_bin op_add_str b_catS (xi_sliceStr (xi_fr 0) xo_none (xo_some (xi_ixL (xi_fr 1) xi_int))) (xi_fr 3)) (xi_sliceStr (xi_fr 0) (xo_some (x_bin op_add b_add (xi_ixL (xi_fr 1) xi_int) (xi_bf call_len c_lenStr b_len PySem.boot_len (xa_cons (xi_fr 3) xa_nil)))) xo_none)))))
    (case q => first | (unfold m_l_put_of; simp only [Res.okb, Res.bind_assoc, memB]; done) | rfl)
def m_law (l_script : G.Scr) : Res Bool :=
  (Res.bind (Res.bind (Res.bind (m_l_cell_at l_script (1 : Int)) fun v3 => (Res.bind (Res.bind (m_l_cell_at l_script (2 : Int)) fun v2 => (Res.ok (v2 :: []))) fun v4 => (Res.ok (v3 :: v4)))) fun v5 => (catR v5 (cut l_script.ns (some (3 : Int)) (some (4 : Int))))) fun (l_cells1 : (List Int)) => (Res.bind (m_l_drawn l_cells1) fun (p6 : (G.T3 (Int × (G.Tup (Int × Int))) PySem.Str (List (List Int)))) => (Res.bind (m_l_nexts p6.a) fun (l_nexts_here7 : (List (List Int))) => (Res.bind (lcT (fun _ => Res.ok true) (fun a9 => (Res.ok p6.b)) p6.c) fun (l_alone8 : (List PySem.Str)) => (Res.bind (Res.bind (m_meddling p6.a p6.b p6.c) fun v10 => (Res.ok (Option.isSome v10))) fun v59 => (if v59 then (Res.ok false) else (Res.tail (S := (List PySem.Str) × PySem.Str) (R := Bool) (Res.bind (Res.bind (Res.bind (m_l_cell_at l_script (0 : Int)) fun v14 => (Res.ok (v14 :: []))) fun v15 => (catR v15 (cut l_script.ns (some (4 : Int)) (some (63 : Int))))) fun v57 => (loopO (fun (s16 : (List PySem.Str) × PySem.Str) (a17 : Int) => ((Res.bind (m_l_numbers a17 ((2 : Int) :: ((p6.c.length : Int) :: ((3 : Int) :: [])))) fun (l_digits18 : (List Int)) => (Res.bind (Res.bind (idx l_digits18 (1 : Int)) fun v21 => (idx p6.c v21)) fun (l_field19 : (List Int)) => (Res.bind (Res.bind (idx l_digits18 (0 : Int)) fun v24 => (strIx (PySem.Str.ofString "xo") v24)) fun (l_hand22 : PySem.Str) => (Res.bind (Res.bind (Res.bind (idx l_digits18 (2 : Int)) fun v28 => (modR v28 (l_field19.length : Int))) fun v29 => (idx l_field19 v29)) fun (l_k25 : Int) => (Res.bind (m_l_told p6.a s16.2 l_hand22 l_k25) fun (l_told_here30 : (Option (G.T3 PySem.Str (List Int) (List Int)))) => (Res.bind (Res.bind (idx l_digits18 (1 : Int)) fun v33 => (idx s16.1 v33)) fun (l_mine31 : PySem.Str) => (Res.next (S := Unit) (Res.bind (Res.bind (Res.bind (m_l_due l_nexts_here7 s16.2 l_hand22 l_k25) fun v34 => (neD l_told_here30 v34)) fun v37 => (if v37 then (Res.ok true) else (Res.bind (Res.bind (m_l_due l_nexts_here7 l_mine31 l_hand22 l_k25) fun v35 => (Res.ok (Option.isNone v35))) fun v36 => (Res.ok (!ScaEq.eq (Option.isNone l_told_here30) v36))))) fun v39 => (if v39 then (Res.ok (Out.rt false)) else (Res.ok (Out.nx ())))) fun s38 => (Res.next (S := (List PySem.Str) × PySem.Str) (if (Option.isSome l_told_here30) then (Res.bind (Res.bind (Res.bind (m_l_laid l_nexts_here7 l_mine31 l_hand22 l_k25) fun v41 => (Res.ok (v41.a))) fun v43 => (Res.bind (idx l_digits18 (1 : Int)) fun v44 => (setR s16.1 v44 v43))) fun (l_alone42 : (List PySem.Str)) => (Res.bind (Res.bind (Res.bind (Res.bind (idx l_digits18 (1 : Int)) fun v46 => (idx l_alone42 v46)) fun v47 => (Res.ok (v47, (l_field19, (p6.c, ()))))) fun a48 => (m_l_of a48.1 a48.2.1 a48.2.2.1)) fun (l_signs45 : PySem.Str) => (Res.next (S := Unit) (Res.bind (Res.bind (Res.bind (unw l_told_here30) fun v49 => (Res.ok (v49.a))) fun v50 => (Res.bind (m_l_put_of s16.2 l_field19 p6.c l_signs45) fun v51 => (Res.ok (!ScaEq.eq v50 v51)))) fun v53 => (if v53 then (Res.ok (Out.rt false)) else (Res.ok (Out.nx ())))) fun s52 => (Res.bind (Res.bind (unw l_told_here30) fun v56 => (Res.ok (v56.a))) fun (l_board54 : PySem.Str) => (Res.ok (Out.nx (l_alone42, l_board54))))))) else (Res.ok (Out.nx (s16.1, s16.2)))) fun s40 => (Res.ok (Out.nx (s40.1, s40.2))))))))))) : Res (Out ((List PySem.Str) × PySem.Str) ((List PySem.Str) × PySem.Str) Bool))) (l_alone8, p6.b) v57)) fun s16 => (Res.bind (m_meddling p6.a s16.2 p6.c) fun v58 => (Res.ok (Option.isNone v58))))))))))
abbrev s_law : Stmt := topS 42
abbrev N_law : List Str := ["_law_script", "_law_cells", "_law_web", "_law_board", "_law_fields", "_law_nexts_here", "_law_field", "_law_alone", "_law_cell", "_law_digits", "_law_hand", "_law_k", "_law_told_here", "_law_mine", "_law_signs"]
theorem S_law : FnScope N_law ["_law_script"] (defScope s_law) := ⟨rfl, rfl, rfl, by decide +kernel, rfl, by decide +kernel, by decide +kernel⟩
set_option maxHeartbeats 4000000 in
theorem fn_law {K : Frag} {base : Heap} {f : Addr} {fd : FuncData} (F : Fun K "law" "law" s_law f fd) (c_meddling : Cal Pw.prog Pw.w K Md.mg base 5 "meddling" (fun a : (Int × (G.Tup (Int × Int))) × PySem.Str × (List (List Int)) × Unit => a) (fun a : (Int × (G.Tup (Int × Int))) × PySem.Str × (List (List Int)) × Unit => m_meddling a.1 a.2.1 a.2.2.1) fr) (c__law_numbers : Cal Pw.prog Pw.w K Md.mg base 1 "_law_numbers" (fun a : Int × (List Int) × Unit => a) (fun a : Int × (List Int) × Unit => m_l_numbers a.1 a.2.1) ow) (c__law_nexts : Cal Pw.prog Pw.w K Md.mg base 1 "_law_nexts" (fun a : (Int × (G.Tup (Int × Int))) × Unit => a) (fun a : (Int × (G.Tup (Int × Int))) × Unit => m_l_nexts a.1) fr) (c__law_laid : Cal Pw.prog Pw.w K Md.mg base 2 "_law_laid" (fun a : (List (List Int)) × PySem.Str × PySem.Str × Int × Unit => a) (fun a : (List (List Int)) × PySem.Str × PySem.Str × Int × Unit => m_l_laid a.1 a.2.1 a.2.2.1 a.2.2.2.1) fr) (c__law_cell_at : Cal Pw.prog Pw.w K Md.mg base 1 "_law_cell_at" (fun a : G.Scr × Int × Unit => a) (fun a : G.Scr × Int × Unit => m_l_cell_at a.1 a.2.1) fr) (c__law_drawn : Cal Pw.prog Pw.w K Md.mg base 3 "_law_drawn" (fun a : (List Int) × Unit => a) (fun a : (List Int) × Unit => m_l_drawn a.1) fr) (c__law_told : Cal Pw.prog Pw.w K Md.mg base 6 "_law_told" (fun a : (Int × (G.Tup (Int × Int))) × PySem.Str × PySem.Str × Int × Unit => a) (fun a : (Int × (G.Tup (Int × Int))) × PySem.Str × PySem.Str × Int × Unit => m_l_told a.1 a.2.1 a.2.2.1 a.2.2.2.1) fr) (c__law_due : Cal Pw.prog Pw.w K Md.mg base 3 "_law_due" (fun a : (List (List Int)) × PySem.Str × PySem.Str × Int × Unit => a) (fun a : (List (List Int)) × PySem.Str × PySem.Str × Int × Unit => m_l_due a.1 a.2.1 a.2.2.1 a.2.2.2.1) fr) (c__law_of : Cal Pw.prog Pw.w K Md.mg base 1 "_law_of" (fun a : PySem.Str × (List Int) × (List (List Int)) × Unit => a) (fun a : PySem.Str × (List Int) × (List (List Int)) × Unit => m_l_of a.1 a.2.1 a.2.2.1) fr) (c__law_put_of : Cal Pw.prog Pw.w K Md.mg base 1 "_law_put_of" (fun a : PySem.Str × (List Int) × (List (List Int)) × PySem.Str × Unit => a) (fun a : PySem.Str × (List Int) × (List (List Int)) × PySem.Str × Unit => m_l_put_of a.1 a.2.1 a.2.2.1 a.2.2.2.1) fr) (b_len : Md.mg "len" = none) :
    FnOk Pw.prog Pw.w K Md.mg base (L2.CX Pw.prog Pw.w) 7 f fd ["_law_script"] (spOf K Md.mg (fun a : G.Scr × Unit => m_law a.1) fr) :=
  fn_ok (N := N_law) F S_law rfl fun a cdv A' outer s H E hr => by
    obtain ⟨l_script, _⟩ := a
    have S := S_law
    have tk := takes_of (X := cxOf (L2.CX Pw.prog Pw.w) Pw.prog Pw.w K Md.mg base N_law "law" (defScope s_law) f cdv A' outer s H E) (E := E) rfl rfl rfl rfl
    refine' ST.slots (ss' := [G.fr l_script, G.any, G.any, G.any, G.any, G.any, G.any, G.any, G.any, G.any, G.any, G.any, G.any, G.any, G.any]) (ST.cast ?h ?q) rfl
    (case h => exact (st_seq (s1_set 1 (xk_free (xk_cat (xi_of (xk_lst (xak_imm (xh_cons (xi_cal c__law_cell_at hr tk (xa_cons (xi_fr 0) (xa_cons xi_int xa_nil))) (xh_cons (xi_cal c__law_cell_at hr tk (xa_cons (xi_fr 0) (xa_cons xi_int xa_nil))) (xh_nil)))))) (xi_of (xk_sliceS (xi_fr 0) (xo_some xi_int) (xo_some xi_int))))) S.nd) fun (l_cells1 : (List Int)) => (st_seq (s1_asg (xk_calF c__law_drawn hr tk (xak_cons (xk_fr 1) xak_nil)) (tg_three (tg_name 2 S.nd) (tg_name 3 S.nd) (tg_name 4 S.nd))) fun (p6 : (G.T3 (Int × (G.Tup (Int × Int))) PySem.Str (List (List Int)))) => (st_seq (s1_set 5 (xk_calF c__law_nexts hr tk (xak_cons (xk_imm (xi_fr 2)) xak_nil)) S.nd) fun (l_nexts_here7 : (List (List Int))) => (st_seq (s1_lc 7 (own := [("_law_field", 6)]) (it_list (xk_fr 4)) (tc_name 6 S.nd) (fun a9 _ _ _ _ _ => (xk_fr 3)) S.nd (blkOk_by (N := N_law) (sc := defScope s_law) (by decide +kernel)) (sw_true rfl rfl rfl (by decide +kernel))) fun (l_alone8 : (List PySem.Str)) => (st_guard (xt_notN (xi_cal c_meddling hr tk (xa_cons (xi_fr 2) (xa_cons (xi_fr 3) (xa_cons (xi_fr 4) xa_nil))))) (st_ret (xk_imm xi_bl)) (st_b1 (S := (List PySem.Str) × PySem.Str) (R := Bool) (pl := fun x => nomatch x) (b1_for (S := (List PySem.Str) × PySem.Str) (R := Bool) (fun (s16 : (List PySem.Str) × PySem.Str) => [G.fr l_script, G.fr l_cells1, G.fr p6.a, G.fr s16.2, G.fr p6.c, G.fr l_nexts_here7, G.any, G.ow s16.1, G.any, G.any, G.any, G.any, G.any, G.any, G.any]) (l_alone8, p6.b) (it_list (xk_free (xk_cat (xi_of (xk_lst (xak_imm (xh_cons (xi_cal c__law_cell_at hr tk (xa_cons (xi_fr 0) (xa_cons xi_int xa_nil))) (xh_nil))))) (xi_of (xk_sliceS (xi_fr 0) (xo_some xi_int) (xo_some xi_int)))))) (tg_name 8 S.nd) (fun s16 a17 => (sb_seq (s1_set 9 (xk_free (xk_cal c__law_numbers hr tk (xa_cons (xi_fr 8) (xa_cons (xi_of (xk_lst (xak_imm (xh_cons xi_int (xh_cons (xi_bf call_len c_lenL b_len PySem.boot_len (xa_cons (xi_fr 4) xa_nil)) (xh_cons xi_int (xh_nil))))))) xa_nil)))) S.nd) fun (l_digits18 : (List Int)) => (sb_seq (s1_set 6 (xk_ixL (xk_fr 4) (xi_ixL (xi_fr 9) xi_int)) S.nd) fun (l_field19 : (List Int)) => (sb_seq (s1_set 10 (xk_imm (xi_ixStr xi_str (xi_ixL (xi_fr 9) xi_int))) S.nd) fun (l_hand22 : PySem.Str) => (sb_seq (s1_set 11 (xk_imm (xi_ixL (xi_fr 6) (x_bin op_mod b_mod (xi_ixL (xi_fr 9) xi_int) (xi_bf call_len c_lenL b_len PySem.boot_len (xa_cons (xi_fr 6) xa_nil))))) S.nd) fun (l_k25 : Int) => (sb_seq (s1_set 12 (xk_calF c__law_told hr tk (xak_cons (xk_imm (xi_fr 2)) (xak_cons (xk_imm (xi_fr 3)) (xak_cons (xk_imm (xi_fr 10)) (xak_cons (xk_imm (xi_fr 11)) xak_nil))))) S.nd) fun (l_told_here30 : (Option (G.T3 PySem.Str (List Int) (List Int)))) => (sb_seq (s1_set 13 (xk_imm (xi_ixL (xi_ow 7) (xi_ixL (xi_fr 9) xi_int))) S.nd) fun (l_mine31 : PySem.Str) => (sb_b1 (S := Unit) (b1_if (post := (fun (s38 : Unit) => [G.fr l_script, G.fr l_cells1, G.fr p6.a, G.fr s16.2, G.fr p6.c, G.fr l_nexts_here7, G.fr l_field19, G.ow s16.1, G.fr a17, G.fr l_digits18, G.fr l_hand22, G.fr l_k25, G.fr l_told_here30, G.fr l_mine31, G.any])) (xt_w (xw_or (t_cmp (op_neD (hu64 hr)) (b_neD (α := (Option (G.T3 PySem.Str (List Int) (List Int)))) (β := (Option (G.T3 PySem.Str (List Int) (List Int))))) (nomark _) (xi_fr 12) (xi_cal c__law_due hr tk (xa_cons (xi_fr 5) (xa_cons (xi_fr 3) (xa_cons (xi_fr 10) (xa_cons (xi_fr 11) xa_nil)))))) (xw_or1 (t_cmp op_ne (b_neS (α := Bool) (β := Bool)) (nomark _) (xi_isN (xi_fr 12)) (xi_isN (xi_cal c__law_due hr tk (xa_cons (xi_fr 5) (xa_cons (xi_fr 13) (xa_cons (xi_fr 10) (xa_cons (xi_fr 11) xa_nil)))))))))) (sb_ret (xk_imm xi_bl)) (sb_nil (s := ()) (wk_eq (wk_eq (wk_eq (wk_eq (wk_eq (wk_eq (wk_eq (wk_eq (wk_eq (wk_eq (wk_eq (wk_eq (wk_eq (wk_eq (wk_eq wk_nil))))))))))))))))) fun s38 => (sb_b1 (S := (List PySem.Str) × PySem.Str) (b1_if (post := (fun (s40 : (List PySem.Str) × PySem.Str) => [G.fr l_script, G.fr l_cells1, G.fr p6.a, G.fr s40.2, G.fr p6.c, G.fr l_nexts_here7, G.fr l_field19, G.ow s40.1, G.fr a17, G.fr l_digits18, G.fr l_hand22, G.fr l_k25, G.fr l_told_here30, G.fr l_mine31, G.any])) (xt_notN (xi_fr 12)) (sb_seq (s1_setI 7 (xk_imm (xi_t1 (xi_cal c__law_laid hr tk (xa_cons (xi_fr 5) (xa_cons (xi_fr 13) (xa_cons (xi_fr 10) (xa_cons (xi_fr 11) xa_nil))))))) (xi_ixL (xi_fr 9) xi_int) (hg := pg_sub (pv 7) (xi_ixL (xi_fr 9) xi_int) set_list)) fun (l_alone42 : (List PySem.Str)) => (sb_seq (s1_set 14 (xk_imm (xi_cal c__law_of hr tk (xa_cons (xi_ixL (xi_ow 7) (xi_ixL (xi_fr 9) xi_int)) (xa_cons (xi_fr 6) (xa_cons (xi_fr 4) xa_nil))))) S.nd) fun (l_signs45 : PySem.Str) => (sb_b1 (S := Unit) (b1_if (post := (fun (s52 : Unit) => [G.fr l_script, G.fr l_cells1, G.fr p6.a, G.fr s16.2, G.fr p6.c, G.fr l_nexts_here7, G.fr l_field19, G.ow l_alone42, G.fr a17, G.fr l_digits18, G.fr l_hand22, G.fr l_k25, G.fr l_told_here30, G.fr l_mine31, G.fr l_signs45])) (t_cmp op_ne (b_neS (α := PySem.Str) (β := PySem.Str)) (nomark _) (xi_t1 (xi_unw (xi_fr 12))) (xi_cal c__law_put_of hr tk (xa_cons (xi_fr 3) (xa_cons (xi_fr 6) (xa_cons (xi_fr 4) (xa_cons (xi_fr 14) xa_nil)))))) (sb_ret (xk_imm xi_bl)) (sb_nil (s := ()) (wk_eq (wk_eq (wk_eq (wk_eq (wk_eq (wk_eq (wk_eq (wk_eq (wk_eq (wk_eq (wk_eq (wk_eq (wk_eq (wk_eq (wk_eq wk_nil))))))))))))))))) fun s52 => (sb_seq (s1_set 3 (xk_imm (xi_t1 (xi_unw (xi_fr 12)))) S.nd) fun (l_board54 : PySem.Str) => (sb_nil (s := (l_alone42, l_board54)) (wk_eq (wk_eq (wk_eq (wk_eq (wk_eq (wk_eq (wk_eq (wk_eq (wk_eq (wk_eq (wk_eq (wk_eq (wk_eq (wk_eq (wk_any wk_nil)))))))))))))))))))) (sb_nil (s := (s16.1, s16.2)) (wk_eq (wk_eq (wk_eq (wk_eq (wk_eq (wk_eq (wk_eq (wk_eq (wk_eq (wk_eq (wk_eq (wk_eq (wk_eq (wk_eq (wk_eq wk_nil))))))))))))))))) fun s40 => (sb_nil (s := (s40.1, s40.2)) (wk_eq (wk_eq (wk_eq (wk_eq (wk_eq (wk_eq (wk_any (wk_eq (wk_any (wk_any (wk_any (wk_any (wk_any (wk_any (wk_eq wk_nil))))))))))))))))))))))))) (wk_eq (wk_eq (wk_eq (wk_eq (wk_eq (wk_eq (wk_eq (wk_eq (wk_eq (wk_eq (wk_eq (wk_eq (wk_eq (wk_eq (wk_eq wk_nil)))))))))))))))) fun s16 => (st_ret (xk_imm (xi_isN (xi_cal c_meddling hr tk (xa_cons (xi_fr 2) (xa_cons (xi_fr 3) (xa_cons (xi_fr 4) xa_nil))))))))))))))
    (case q => first | (unfold m_law; simp only [Res.okb, Res.bind_assoc, memB]; done) | rfl)
end
end
end
theorem all_mk {l : PySem.W.OpenLaw} {w : World} {K : Frag} {h : Heap} {mg : PySem.Str → Option Value} {fa : Addr} (X : K.In h) (G : h.Ns mainGlobals mg) (hfa : mg "law" = some (.ref fa)) (hg : ∀ ns : List Int, ns.length ≤ 63 → m_law ⟨ns⟩ = .ok true) {od0 an0 : Option Addr} {sl0 : Array (Option Value)} {oc0 kV0 dc0 pm0 cd0 ct0 : Value} {f0 : Addr} {od1 an1 : Option Addr} {sl1 : Array (Option Value)} {oc1 kV1 dc1 pm1 cd1 ct1 : Value} {f1 : Addr} {od2 an2 : Option Addr} {sl2 : Array (Option Value)} {oc2 kV2 dc2 pm2 cd2 ct2 : Value} {f2 : Addr} {od3 an3 : Option Addr} {sl3 : Array (Option Value)} {oc3 kV3 dc3 pm3 cd3 ct3 : Value} {f3 : Addr} {od4 an4 : Option Addr} {sl4 : Array (Option Value)} {oc4 kV4 dc4 pm4 cd4 ct4 : Value} {f4 : Addr} {od5 an5 : Option Addr} {sl5 : Array (Option Value)} {oc5 kV5 dc5 pm5 cd5 ct5 : Value} {f5 : Addr} {od6 an6 : Option Addr} {sl6 : Array (Option Value)} {oc6 kV6 dc6 pm6 cd6 ct6 : Value} {f6 : Addr} {od7 an7 : Option Addr} {sl7 : Array (Option Value)} {oc7 kV7 dc7 pm7 cd7 ct7 : Value} {f7 : Addr} {od8 an8 : Option Addr} {sl8 : Array (Option Value)} {oc8 kV8 dc8 pm8 cd8 ct8 : Value} {f8 : Addr} {od9 an9 : Option Addr} {sl9 : Array (Option Value)} {oc9 kV9 dc9 pm9 cd9 ct9 : Value} {f9 : Addr} {od10 an10 : Option Addr} {sl10 : Array (Option Value)} {oc10 kV10 dc10 pm10 cd10 ct10 : Value} {f10 : Addr} {od11 an11 : Option Addr} {sl11 : Array (Option Value)} {oc11 kV11 dc11 pm11 cd11 ct11 : Value} {f11 : Addr} {od12 an12 : Option Addr} {sl12 : Array (Option Value)} {oc12 kV12 dc12 pm12 cd12 ct12 : Value} {f12 : Addr} {od13 an13 : Option Addr} {sl13 : Array (Option Value)} {oc13 kV13 dc13 pm13 cd13 ct13 : Value} {f13 : Addr} {od14 an14 : Option Addr} {sl14 : Array (Option Value)} {oc14 kV14 dc14 pm14 cd14 ct14 : Value} {f14 : Addr} {od15 an15 : Option Addr} {sl15 : Array (Option Value)} {oc15 kV15 dc15 pm15 cd15 ct15 : Value} {f15 : Addr} {od16 an16 : Option Addr} {sl16 : Array (Option Value)} {oc16 kV16 dc16 pm16 cd16 ct16 : Value} {f16 : Addr} {od17 an17 : Option Addr} {sl17 : Array (Option Value)} {oc17 kV17 dc17 pm17 cd17 ct17 : Value} {f17 : Addr} {od18 an18 : Option Addr} {sl18 : Array (Option Value)} {oc18 kV18 dc18 pm18 cd18 ct18 : Value} {f18 : Addr} {od19 an19 : Option Addr} {sl19 : Array (Option Value)} {oc19 kV19 dc19 pm19 cd19 ct19 : Value} {f19 : Addr} {od20 an20 : Option Addr} {sl20 : Array (Option Value)} {oc20 kV20 dc20 pm20 cd20 ct20 : Value} {f20 : Addr} {od21 an21 : Option Addr} {sl21 : Array (Option Value)} {oc21 kV21 dc21 pm21 cd21 ct21 : Value} {f21 : Addr} {od22 an22 : Option Addr} {sl22 : Array (Option Value)} {oc22 kV22 dc22 pm22 cd22 ct22 : Value} {f22 : Addr} {od23 an23 : Option Addr} {sl23 : Array (Option Value)} {oc23 kV23 dc23 pm23 cd23 ct23 : Value} {f23 : Addr} {od24 an24 : Option Addr} {sl24 : Array (Option Value)} {oc24 kV24 dc24 pm24 cd24 ct24 : Value} {f24 : Addr} {od25 an25 : Option Addr} {sl25 : Array (Option Value)} {oc25 kV25 dc25 pm25 cd25 ct25 : Value} {f25 : Addr} {od26 an26 : Option Addr} {sl26 : Array (Option Value)} {oc26 kV26 dc26 pm26 cd26 ct26 : Value} {f26 : Addr} {od27 an27 : Option Addr} {sl27 : Array (Option Value)} {oc27 kV27 dc27 pm27 cd27 ct27 : Value} {f27 : Addr} {od28 an28 : Option Addr} {sl28 : Array (Option Value)} {oc28 kV28 dc28 pm28 cd28 ct28 : Value} {f28 : Addr} {od29 an29 : Option Addr} {sl29 : Array (Option Value)} {oc29 kV29 dc29 pm29 cd29 ct29 : Value} {f29 : Addr} {od30 an30 : Option Addr} {sl30 : Array (Option Value)} {oc30 kV30 dc30 pm30 cd30 ct30 : Value} {f30 : Addr} {od31 an31 : Option Addr} {sl31 : Array (Option Value)} {oc31 kV31 dc31 pm31 cd31 ct31 : Value} {f31 : Addr} {od32 an32 : Option Addr} {sl32 : Array (Option Value)} {oc32 kV32 dc32 pm32 cd32 ct32 : Value} {f32 : Addr} {od33 an33 : Option Addr} {sl33 : Array (Option Value)} {oc33 kV33 dc33 pm33 cd33 ct33 : Value} {f33 : Addr} {od34 an34 : Option Addr} {sl34 : Array (Option Value)} {oc34 kV34 dc34 pm34 cd34 ct34 : Value} {f34 : Addr} {od35 an35 : Option Addr} {sl35 : Array (Option Value)} {oc35 kV35 dc35 pm35 cd35 ct35 : Value} {f35 : Addr} {od36 an36 : Option Addr} {sl36 : Array (Option Value)} {oc36 kV36 dc36 pm36 cd36 ct36 : Value} {f36 : Addr} {od37 an37 : Option Addr} {sl37 : Array (Option Value)} {oc37 kV37 dc37 pm37 cd37 ct37 : Value} {f37 : Addr} {C_Occupied : Addr} {C_Breathless : Addr} {C_Still : Addr} {C_NoField : Addr} {C_Surroundings : Addr}
    (a0 : PySem.W.nsIn K mainGlobals "next_to" = some (some (.ref f0))) (l0 : K.lookup f0 = some ⟨oc0, od0, .func (PySem.W.fnOf "next_to" "next_to" (defArgs s_next_to) (defBody s_next_to) (defScope s_next_to) .none kV0 dc0 pm0 an0 cd0 ct0), sl0⟩) (c0 : PySem.W.codeIn K cd0 "next_to" = true) (k0 : PySem.W.keepIn K (.ref f0) = true)
    (a1 : PySem.W.nsIn K mainGlobals "all_next" = some (some (.ref f1))) (l1 : K.lookup f1 = some ⟨oc1, od1, .func (PySem.W.fnOf "all_next" "all_next" (defArgs s_all_next) (defBody s_all_next) (defScope s_all_next) .none kV1 dc1 pm1 an1 cd1 ct1), sl1⟩) (c1 : PySem.W.codeIn K cd1 "all_next" = true) (k1 : PySem.W.keepIn K (.ref f1) = true)
    (a2 : PySem.W.nsIn K mainGlobals "hanging_with" = some (some (.ref f2))) (l2 : K.lookup f2 = some ⟨oc2, od2, .func (PySem.W.fnOf "hanging_with" "hanging_with" (defArgs s_hanging_with) (defBody s_hanging_with) (defScope s_hanging_with) .none kV2 dc2 pm2 an2 cd2 ct2), sl2⟩) (c2 : PySem.W.codeIn K cd2 "hanging_with" = true) (k2 : PySem.W.keepIn K (.ref f2) = true)
    (a3 : PySem.W.nsIn K mainGlobals "pieces" = some (some (.ref f3))) (l3 : K.lookup f3 = some ⟨oc3, od3, .func (PySem.W.fnOf "pieces" "pieces" (defArgs s_pieces) (defBody s_pieces) (defScope s_pieces) .none kV3 dc3 pm3 an3 cd3 ct3), sl3⟩) (c3 : PySem.W.codeIn K cd3 "pieces" = true) (k3 : PySem.W.keepIn K (.ref f3) = true)
    (a4 : PySem.W.nsIn K mainGlobals "other_hand" = some (some (.ref f4))) (l4 : K.lookup f4 = some ⟨oc4, od4, .func (PySem.W.fnOf "other_hand" "other_hand" (defArgs s_other_hand) (defBody s_other_hand) (defScope s_other_hand) .none kV4 dc4 pm4 an4 cd4 ct4), sl4⟩) (c4 : PySem.W.codeIn K cd4 "other_hand" = true) (k4 : PySem.W.keepIn K (.ref f4) = true)
    (a5 : PySem.W.nsIn K mainGlobals "chain_of" = some (some (.ref f5))) (l5 : K.lookup f5 = some ⟨oc5, od5, .func (PySem.W.fnOf "chain_of" "chain_of" (defArgs s_chain_of) (defBody s_chain_of) (defScope s_chain_of) .none kV5 dc5 pm5 an5 cd5 ct5), sl5⟩) (c5 : PySem.W.codeIn K cd5 "chain_of" = true) (k5 : PySem.W.keepIn K (.ref f5) = true)
    (a6 : PySem.W.nsIn K mainGlobals "empties_by" = some (some (.ref f6))) (l6 : K.lookup f6 = some ⟨oc6, od6, .func (PySem.W.fnOf "empties_by" "empties_by" (defArgs s_empties_by) (defBody s_empties_by) (defScope s_empties_by) .none kV6 dc6 pm6 an6 cd6 ct6), sl6⟩) (c6 : PySem.W.codeIn K cd6 "empties_by" = true) (k6 : PySem.W.keepIn K (.ref f6) = true)
    (a7 : PySem.W.nsIn K mainGlobals "breaths_of" = some (some (.ref f7))) (l7 : K.lookup f7 = some ⟨oc7, od7, .func (PySem.W.fnOf "breaths_of" "breaths_of" (defArgs s_breaths_of) (defBody s_breaths_of) (defScope s_breaths_of) .none kV7 dc7 pm7 an7 cd7 ct7), sl7⟩) (c7 : PySem.W.codeIn K cd7 "breaths_of" = true) (k7 : PySem.W.keepIn K (.ref f7) = true)
    (a8 : PySem.W.nsIn K mainGlobals "signed" = some (some (.ref f8))) (l8 : K.lookup f8 = some ⟨oc8, od8, .func (PySem.W.fnOf "signed" "signed" (defArgs s_signed) (defBody s_signed) (defScope s_signed) .none kV8 dc8 pm8 an8 cd8 ct8), sl8⟩) (c8 : PySem.W.codeIn K cd8 "signed" = true) (k8 : PySem.W.keepIn K (.ref f8) = true)
    (a9 : PySem.W.nsIn K mainGlobals "choked" = some (some (.ref f9))) (l9 : K.lookup f9 = some ⟨oc9, od9, .func (PySem.W.fnOf "choked" "choked" (defArgs s_choked) (defBody s_choked) (defScope s_choked) .none kV9 dc9 pm9 an9 cd9 ct9), sl9⟩) (c9 : PySem.W.codeIn K cd9 "choked" = true) (k9 : PySem.W.keepIn K (.ref f9) = true)
    (a10 : PySem.W.nsIn K mainGlobals "lay" = some (some (.ref f10))) (l10 : K.lookup f10 = some ⟨oc10, od10, .func (PySem.W.fnOf "lay" "lay" (defArgs s_lay) (defBody s_lay) (defScope s_lay) .none kV10 dc10 pm10 an10 cd10 ct10), sl10⟩) (c10 : PySem.W.codeIn K cd10 "lay" = true) (k10 : PySem.W.keepIn K (.ref f10) = true)
    (a11 : PySem.W.nsIn K mainGlobals "is_crossing" = some (some (.ref f11))) (l11 : K.lookup f11 = some ⟨oc11, od11, .func (PySem.W.fnOf "is_crossing" "is_crossing" (defArgs s_is_crossing) (defBody s_is_crossing) (defScope s_is_crossing) .none kV11 dc11 pm11 an11 cd11 ct11), sl11⟩) (c11 : PySem.W.codeIn K cd11 "is_crossing" = true) (k11 : PySem.W.keepIn K (.ref f11) = true)
    (a12 : PySem.W.nsIn K mainGlobals "is_field" = some (some (.ref f12))) (l12 : K.lookup f12 = some ⟨oc12, od12, .func (PySem.W.fnOf "is_field" "is_field" (defArgs s_is_field) (defBody s_is_field) (defScope s_is_field) .none kV12 dc12 pm12 an12 cd12 ct12), sl12⟩) (c12 : PySem.W.codeIn K cd12 "is_field" = true) (k12 : PySem.W.keepIn K (.ref f12) = true)
    (a13 : PySem.W.nsIn K mainGlobals "are_fields" = some (some (.ref f13))) (l13 : K.lookup f13 = some ⟨oc13, od13, .func (PySem.W.fnOf "are_fields" "are_fields" (defArgs s_are_fields) (defBody s_are_fields) (defScope s_are_fields) .none kV13 dc13 pm13 an13 cd13 ct13), sl13⟩) (c13 : PySem.W.codeIn K cd13 "are_fields" = true) (k13 : PySem.W.keepIn K (.ref f13) = true)
    (a14 : PySem.W.findIn K (.ref C_Surroundings) "__init__" = some (some (.ref f14))) (l14 : K.lookup f14 = some ⟨oc14, od14, .func (PySem.W.fnOf "__init__" "Surroundings.__init__" (defArgs s_Surroundings___init__) (defBody s_Surroundings___init__) (defScope s_Surroundings___init__) .none kV14 dc14 pm14 an14 cd14 ct14), sl14⟩) (c14 : PySem.W.codeIn K cd14 "Surroundings.__init__" = true) (k14 : PySem.W.keepIn K (.ref f14) = true)
    (a15 : PySem.W.findIn K (.ref C_Surroundings) "outside" = some (some (.ref f15))) (l15 : K.lookup f15 = some ⟨oc15, od15, .func (PySem.W.fnOf "outside" "Surroundings.outside" (defArgs s_Surroundings_outside) (defBody s_Surroundings_outside) (defScope s_Surroundings_outside) .none kV15 dc15 pm15 an15 cd15 ct15), sl15⟩) (c15 : PySem.W.codeIn K cd15 "Surroundings.outside" = true) (k15 : PySem.W.keepIn K (.ref f15) = true)
    (a16 : PySem.W.findIn K (.ref C_Surroundings) "touched" = some (some (.ref f16))) (l16 : K.lookup f16 = some ⟨oc16, od16, .func (PySem.W.fnOf "touched" "Surroundings.touched" (defArgs s_Surroundings_touched) (defBody s_Surroundings_touched) (defScope s_Surroundings_touched) .none kV16 dc16 pm16 an16 cd16 ct16), sl16⟩) (c16 : PySem.W.codeIn K cd16 "Surroundings.touched" = true) (k16 : PySem.W.keepIn K (.ref f16) = true)
    (a17 : PySem.W.findIn K (.ref C_Surroundings) "is_shaky" = some (some (.ref f17))) (l17 : K.lookup f17 = some ⟨oc17, od17, .func (PySem.W.fnOf "is_shaky" "Surroundings.is_shaky" (defArgs s_Surroundings_is_shaky) (defBody s_Surroundings_is_shaky) (defScope s_Surroundings_is_shaky) .none kV17 dc17 pm17 an17 cd17 ct17), sl17⟩) (c17 : PySem.W.codeIn K cd17 "Surroundings.is_shaky" = true) (k17 : PySem.W.keepIn K (.ref f17) = true)
    (a18 : PySem.W.findIn K (.ref C_Surroundings) "shaky" = some (some (.ref f18))) (l18 : K.lookup f18 = some ⟨oc18, od18, .func (PySem.W.fnOf "shaky" "Surroundings.shaky" (defArgs s_Surroundings_shaky) (defBody s_Surroundings_shaky) (defScope s_Surroundings_shaky) .none kV18 dc18 pm18 an18 cd18 ct18), sl18⟩) (c18 : PySem.W.codeIn K cd18 "Surroundings.shaky" = true) (k18 : PySem.W.keepIn K (.ref f18) = true)
    (a19 : PySem.W.findIn K (.ref C_Surroundings) "tie_between" = some (some (.ref f19))) (l19 : K.lookup f19 = some ⟨oc19, od19, .func (PySem.W.fnOf "tie_between" "Surroundings.tie_between" (defArgs s_Surroundings_tie_between) (defBody s_Surroundings_tie_between) (defScope s_Surroundings_tie_between) .none kV19 dc19 pm19 an19 cd19 ct19), sl19⟩) (c19 : PySem.W.codeIn K cd19 "Surroundings.tie_between" = true) (k19 : PySem.W.keepIn K (.ref f19) = true)
    (a20 : PySem.W.findIn K (.ref C_Surroundings) "are_tied" = some (some (.ref f20))) (l20 : K.lookup f20 = some ⟨oc20, od20, .func (PySem.W.fnOf "are_tied" "Surroundings.are_tied" (defArgs s_Surroundings_are_tied) (defBody s_Surroundings_are_tied) (defScope s_Surroundings_are_tied) .none kV20 dc20 pm20 an20 cd20 ct20), sl20⟩) (c20 : PySem.W.codeIn K cd20 "Surroundings.are_tied" = true) (k20 : PySem.W.keepIn K (.ref f20) = true)
    (a21 : PySem.W.findIn K (.ref C_Surroundings) "pieces_between" = some (some (.ref f21))) (l21 : K.lookup f21 = some ⟨oc21, od21, .func (PySem.W.fnOf "pieces_between" "Surroundings.pieces_between" (defArgs s_Surroundings_pieces_between) (defBody s_Surroundings_pieces_between) (defScope s_Surroundings_pieces_between) .none kV21 dc21 pm21 an21 cd21 ct21), sl21⟩) (c21 : PySem.W.codeIn K cd21 "Surroundings.pieces_between" = true) (k21 : PySem.W.keepIn K (.ref f21) = true)
    (a22 : PySem.W.nsIn K mainGlobals "meddling" = some (some (.ref f22))) (l22 : K.lookup f22 = some ⟨oc22, od22, .func (PySem.W.fnOf "meddling" "meddling" (defArgs s_meddling) (defBody s_meddling) (defScope s_meddling) .none kV22 dc22 pm22 an22 cd22 ct22), sl22⟩) (c22 : PySem.W.codeIn K cd22 "meddling" = true) (k22 : PySem.W.keepIn K (.ref f22) = true)
    (a23 : PySem.W.nsIn K mainGlobals "_law_numbers" = some (some (.ref f23))) (l23 : K.lookup f23 = some ⟨oc23, od23, .func (PySem.W.fnOf "_law_numbers" "_law_numbers" (defArgs s__law_numbers) (defBody s__law_numbers) (defScope s__law_numbers) .none kV23 dc23 pm23 an23 cd23 ct23), sl23⟩) (c23 : PySem.W.codeIn K cd23 "_law_numbers" = true) (k23 : PySem.W.keepIn K (.ref f23) = true)
    (a24 : PySem.W.nsIn K mainGlobals "_law_nexts" = some (some (.ref f24))) (l24 : K.lookup f24 = some ⟨oc24, od24, .func (PySem.W.fnOf "_law_nexts" "_law_nexts" (defArgs s__law_nexts) (defBody s__law_nexts) (defScope s__law_nexts) .none kV24 dc24 pm24 an24 cd24 ct24), sl24⟩) (c24 : PySem.W.codeIn K cd24 "_law_nexts" = true) (k24 : PySem.W.keepIn K (.ref f24) = true)
    (a25 : PySem.W.nsIn K mainGlobals "_law_chain" = some (some (.ref f25))) (l25 : K.lookup f25 = some ⟨oc25, od25, .func (PySem.W.fnOf "_law_chain" "_law_chain" (defArgs s__law_chain) (defBody s__law_chain) (defScope s__law_chain) .none kV25 dc25 pm25 an25 cd25 ct25), sl25⟩) (c25 : PySem.W.codeIn K cd25 "_law_chain" = true) (k25 : PySem.W.keepIn K (.ref f25) = true)
    (a26 : PySem.W.nsIn K mainGlobals "_law_breaths" = some (some (.ref f26))) (l26 : K.lookup f26 = some ⟨oc26, od26, .func (PySem.W.fnOf "_law_breaths" "_law_breaths" (defArgs s__law_breaths) (defBody s__law_breaths) (defScope s__law_breaths) .none kV26 dc26 pm26 an26 cd26 ct26), sl26⟩) (c26 : PySem.W.codeIn K cd26 "_law_breaths" = true) (k26 : PySem.W.keepIn K (.ref f26) = true)
    (a27 : PySem.W.nsIn K mainGlobals "_law_put" = some (some (.ref f27))) (l27 : K.lookup f27 = some ⟨oc27, od27, .func (PySem.W.fnOf "_law_put" "_law_put" (defArgs s__law_put) (defBody s__law_put) (defScope s__law_put) .none kV27 dc27 pm27 an27 cd27 ct27), sl27⟩) (c27 : PySem.W.codeIn K cd27 "_law_put" = true) (k27 : PySem.W.keepIn K (.ref f27) = true)
    (a28 : PySem.W.nsIn K mainGlobals "_law_laid" = some (some (.ref f28))) (l28 : K.lookup f28 = some ⟨oc28, od28, .func (PySem.W.fnOf "_law_laid" "_law_laid" (defArgs s__law_laid) (defBody s__law_laid) (defScope s__law_laid) .none kV28 dc28 pm28 an28 cd28 ct28), sl28⟩) (c28 : PySem.W.codeIn K cd28 "_law_laid" = true) (k28 : PySem.W.keepIn K (.ref f28) = true)
    (a29 : PySem.W.nsIn K mainGlobals "_law_cleared" = some (some (.ref f29))) (l29 : K.lookup f29 = some ⟨oc29, od29, .func (PySem.W.fnOf "_law_cleared" "_law_cleared" (defArgs s__law_cleared) (defBody s__law_cleared) (defScope s__law_cleared) .none kV29 dc29 pm29 an29 cd29 ct29), sl29⟩) (c29 : PySem.W.codeIn K cd29 "_law_cleared" = true) (k29 : PySem.W.keepIn K (.ref f29) = true)
    (a30 : PySem.W.nsIn K mainGlobals "_law_cell_at" = some (some (.ref f30))) (l30 : K.lookup f30 = some ⟨oc30, od30, .func (PySem.W.fnOf "_law_cell_at" "_law_cell_at" (defArgs s__law_cell_at) (defBody s__law_cell_at) (defScope s__law_cell_at) .none kV30 dc30 pm30 an30 cd30 ct30), sl30⟩) (c30 : PySem.W.codeIn K cd30 "_law_cell_at" = true) (k30 : PySem.W.keepIn K (.ref f30) = true)
    (a31 : PySem.W.nsIn K mainGlobals "_law_part" = some (some (.ref f31))) (l31 : K.lookup f31 = some ⟨oc31, od31, .func (PySem.W.fnOf "_law_part" "_law_part" (defArgs s__law_part) (defBody s__law_part) (defScope s__law_part) .none kV31 dc31 pm31 an31 cd31 ct31), sl31⟩) (c31 : PySem.W.codeIn K cd31 "_law_part" = true) (k31 : PySem.W.keepIn K (.ref f31) = true)
    (a32 : PySem.W.nsIn K mainGlobals "_law_drawn" = some (some (.ref f32))) (l32 : K.lookup f32 = some ⟨oc32, od32, .func (PySem.W.fnOf "_law_drawn" "_law_drawn" (defArgs s__law_drawn) (defBody s__law_drawn) (defScope s__law_drawn) .none kV32 dc32 pm32 an32 cd32 ct32), sl32⟩) (c32 : PySem.W.codeIn K cd32 "_law_drawn" = true) (k32 : PySem.W.keepIn K (.ref f32) = true)
    (a33 : PySem.W.nsIn K mainGlobals "_law_told" = some (some (.ref f33))) (l33 : K.lookup f33 = some ⟨oc33, od33, .func (PySem.W.fnOf "_law_told" "_law_told" (defArgs s__law_told) (defBody s__law_told) (defScope s__law_told) .none kV33 dc33 pm33 an33 cd33 ct33), sl33⟩) (c33 : PySem.W.codeIn K cd33 "_law_told" = true) (k33 : PySem.W.keepIn K (.ref f33) = true)
    (a34 : PySem.W.nsIn K mainGlobals "_law_due" = some (some (.ref f34))) (l34 : K.lookup f34 = some ⟨oc34, od34, .func (PySem.W.fnOf "_law_due" "_law_due" (defArgs s__law_due) (defBody s__law_due) (defScope s__law_due) .none kV34 dc34 pm34 an34 cd34 ct34), sl34⟩) (c34 : PySem.W.codeIn K cd34 "_law_due" = true) (k34 : PySem.W.keepIn K (.ref f34) = true)
    (a35 : PySem.W.nsIn K mainGlobals "_law_of" = some (some (.ref f35))) (l35 : K.lookup f35 = some ⟨oc35, od35, .func (PySem.W.fnOf "_law_of" "_law_of" (defArgs s__law_of) (defBody s__law_of) (defScope s__law_of) .none kV35 dc35 pm35 an35 cd35 ct35), sl35⟩) (c35 : PySem.W.codeIn K cd35 "_law_of" = true) (k35 : PySem.W.keepIn K (.ref f35) = true)
    (a36 : PySem.W.nsIn K mainGlobals "_law_put_of" = some (some (.ref f36))) (l36 : K.lookup f36 = some ⟨oc36, od36, .func (PySem.W.fnOf "_law_put_of" "_law_put_of" (defArgs s__law_put_of) (defBody s__law_put_of) (defScope s__law_put_of) .none kV36 dc36 pm36 an36 cd36 ct36), sl36⟩) (c36 : PySem.W.codeIn K cd36 "_law_put_of" = true) (k36 : PySem.W.keepIn K (.ref f36) = true)
    (a37 : PySem.W.nsIn K mainGlobals "law" = some (some (.ref f37))) (l37 : K.lookup f37 = some ⟨oc37, od37, .func (PySem.W.fnOf "law" "law" (defArgs s_law) (defBody s_law) (defScope s_law) .none kV37 dc37 pm37 an37 cd37 ct37), sl37⟩) (c37 : PySem.W.codeIn K cd37 "law" = true) (k37 : PySem.W.keepIn K (.ref f37) = true)
    (z_sorted : PySem.W.nsIn K mainGlobals "sorted" = some none)
    (z_range : PySem.W.nsIn K mainGlobals "range" = some none)
    (z_len : PySem.W.nsIn K mainGlobals "len" = some none)
    (z_list : PySem.W.nsIn K mainGlobals "list" = some none)
    (z_isinstance : PySem.W.nsIn K mainGlobals "isinstance" = some none)
    (z_int : PySem.W.nsIn K mainGlobals "int" = some none)
    (z_bool : PySem.W.nsIn K mainGlobals "bool" = some none)
    (z_enumerate : PySem.W.nsIn K mainGlobals "enumerate" = some none)
    (z_set : PySem.W.nsIn K mainGlobals "set" = some none)
    (z_max : PySem.W.nsIn K mainGlobals "max" = some none)
    (z_tuple : PySem.W.nsIn K mainGlobals "tuple" = some none)
    (z_min : PySem.W.nsIn K mainGlobals "min" = some none)
    (xa_Occupied : PySem.W.nsIn K mainGlobals "Occupied" = some (some (.ref C_Occupied)))
    (xk_Occupied : PySem.W.keepIn K (.ref C_Occupied) = true)
    (xb_Occupied : PySem.W.subIn K (.ref C_Occupied) (.type "BaseException") = some true)
    (xt_Occupied : PySem.W.typeIn K (.ref C_Occupied) = some (.type "type"))
    (xi_Occupied : PySem.W.isClsIn K C_Occupied = true)
    (xg_Occupied : PySem.W.findIn K (.ref C_Occupied) "__getattribute__" = some (some (.builtin "BaseException.__getattribute__")))
    (xr_Occupied : PySem.W.findIn K (.ref C_Occupied) "__getattr__" = some none)
    (xd_Occupied : PySem.W.hasDictIn K C_Occupied = true)
    (xc_Occupied : PySem.W.findIn K (.ref C_Occupied) "__class__" = some (some (.builtin "object.__class__")))
    (xm_Occupied : PySem.W.mroIn K C_Occupied (.type "object") = some true)
    (xs_Occupied : PySem.W.subIn K (.ref C_Occupied) (.ref C_Occupied) = some true)
    (xx_Occupied : PySem.W.excIn K C_Occupied vB "ValueError.__new__" = true)
    (xa_Breathless : PySem.W.nsIn K mainGlobals "Breathless" = some (some (.ref C_Breathless)))
    (xk_Breathless : PySem.W.keepIn K (.ref C_Breathless) = true)
    (xb_Breathless : PySem.W.subIn K (.ref C_Breathless) (.type "BaseException") = some true)
    (xt_Breathless : PySem.W.typeIn K (.ref C_Breathless) = some (.type "type"))
    (xi_Breathless : PySem.W.isClsIn K C_Breathless = true)
    (xg_Breathless : PySem.W.findIn K (.ref C_Breathless) "__getattribute__" = some (some (.builtin "BaseException.__getattribute__")))
    (xr_Breathless : PySem.W.findIn K (.ref C_Breathless) "__getattr__" = some none)
    (xd_Breathless : PySem.W.hasDictIn K C_Breathless = true)
    (xc_Breathless : PySem.W.findIn K (.ref C_Breathless) "__class__" = some (some (.builtin "object.__class__")))
    (xm_Breathless : PySem.W.mroIn K C_Breathless (.type "object") = some true)
    (xs_Breathless : PySem.W.subIn K (.ref C_Breathless) (.ref C_Breathless) = some true)
    (xx_Breathless : PySem.W.excIn K C_Breathless vB "ValueError.__new__" = true)
    (xa_Still : PySem.W.nsIn K mainGlobals "Still" = some (some (.ref C_Still)))
    (xk_Still : PySem.W.keepIn K (.ref C_Still) = true)
    (xb_Still : PySem.W.subIn K (.ref C_Still) (.type "BaseException") = some true)
    (xt_Still : PySem.W.typeIn K (.ref C_Still) = some (.type "type"))
    (xi_Still : PySem.W.isClsIn K C_Still = true)
    (xg_Still : PySem.W.findIn K (.ref C_Still) "__getattribute__" = some (some (.builtin "BaseException.__getattribute__")))
    (xr_Still : PySem.W.findIn K (.ref C_Still) "__getattr__" = some none)
    (xd_Still : PySem.W.hasDictIn K C_Still = true)
    (xc_Still : PySem.W.findIn K (.ref C_Still) "__class__" = some (some (.builtin "object.__class__")))
    (xm_Still : PySem.W.mroIn K C_Still (.type "object") = some true)
    (xs_Still : PySem.W.subIn K (.ref C_Still) (.ref C_Still) = some true)
    (xx_Still : PySem.W.excIn K C_Still vB "ValueError.__new__" = true)
    (xa_NoField : PySem.W.nsIn K mainGlobals "NoField" = some (some (.ref C_NoField)))
    (xk_NoField : PySem.W.keepIn K (.ref C_NoField) = true)
    (xb_NoField : PySem.W.subIn K (.ref C_NoField) (.type "BaseException") = some true)
    (xt_NoField : PySem.W.typeIn K (.ref C_NoField) = some (.type "type"))
    (xi_NoField : PySem.W.isClsIn K C_NoField = true)
    (xg_NoField : PySem.W.findIn K (.ref C_NoField) "__getattribute__" = some (some (.builtin "BaseException.__getattribute__")))
    (xr_NoField : PySem.W.findIn K (.ref C_NoField) "__getattr__" = some none)
    (xd_NoField : PySem.W.hasDictIn K C_NoField = true)
    (xc_NoField : PySem.W.findIn K (.ref C_NoField) "__class__" = some (some (.builtin "object.__class__")))
    (xm_NoField : PySem.W.mroIn K C_NoField (.type "object") = some true)
    (xs_NoField : PySem.W.subIn K (.ref C_NoField) (.ref C_NoField) = some true)
    (xx_NoField : PySem.W.excIn K C_NoField vB "ValueError.__new__" = true)
    (xn : PySem.W.specialIn K (.builtin "object.__class__") "__get__" = some (some (.builtin "getset_descriptor.__get__")))
    (xz : PySem.W.takesIn K (.builtin "object.__class__") = some true)
    (sb_Still_Occupied : PySem.W.subIn K (.ref C_Still) (.ref C_Occupied) = some false)
    (sb_Breathless_Occupied : PySem.W.subIn K (.ref C_Breathless) (.ref C_Occupied) = some false)
    (sb_NoField_Occupied : PySem.W.subIn K (.ref C_NoField) (.ref C_Occupied) = some false)
    (sb_Occupied_Breathless : PySem.W.subIn K (.ref C_Occupied) (.ref C_Breathless) = some false)
    (sb_Still_Breathless : PySem.W.subIn K (.ref C_Still) (.ref C_Breathless) = some false)
    (sb_NoField_Breathless : PySem.W.subIn K (.ref C_NoField) (.ref C_Breathless) = some false)
    (oa_Surroundings : PySem.W.nsIn K mainGlobals "Surroundings" = some (some (.ref C_Surroundings)))
    (og_Surroundings : PySem.W.plainGet K C_Surroundings PySem.Str.empty = true)
    (oh_Surroundings : PySem.W.hasDictIn K C_Surroundings = true)
    (oo_Surroundings : PySem.W.plainOver K C_Surroundings = true)
    (os_Surroundings : PySem.W.findIn K (.ref C_Surroundings) "__setattr__" = some (some (.builtin "object.__setattr__")))
    (om_Surroundings : PySem.W.makesIn K C_Surroundings = true)
    (oq_Surroundings : PySem.W.keepIn K (.ref C_Surroundings) = true)
    (of_Surroundings_the_web : PySem.W.findIn K (.ref C_Surroundings) "the_web" = some none)
    (of_Surroundings_signs : PySem.W.findIn K (.ref C_Surroundings) "signs" = some none)
    (of_Surroundings_owners : PySem.W.findIn K (.ref C_Surroundings) "owners" = some none)
    (im14 : PySem.W.isFn K (.ref f14) = true)
    (im15 : PySem.W.isFn K (.ref f15) = true)
    (im16 : PySem.W.isFn K (.ref f16) = true)
    (im17 : PySem.W.isFn K (.ref f17) = true)
    (im18 : PySem.W.isFn K (.ref f18) = true)
    (im19 : PySem.W.isFn K (.ref f19) = true)
    (im20 : PySem.W.isFn K (.ref f20) = true)
    (im21 : PySem.W.isFn K (.ref f21) = true)
    : ∃ fd : FuncData, (∀ (s : Shared) (v : Value), BindsTo s fd ⟨[v], []⟩ [("_law_script", v)]) ∧ ∀ base : Heap, K.In base → base.Ns mainGlobals mg → FnOk l.prog w K mg base (L2.CX l.prog w) 7 fa fd ["_law_script"] (spLaw K) := by
  have e := hfa.symm.trans (PySem.W.mg_of X G a37)
  cases e
  letI : Md := ⟨mg⟩
  letI : Pw := ⟨l.prog, w⟩
  have b_sorted := PySem.W.mg_none_of X G z_sorted
  have b_range := PySem.W.mg_none_of X G z_range
  have b_len := PySem.W.mg_none_of X G z_len
  have b_list := PySem.W.mg_none_of X G z_list
  have b_isinstance := PySem.W.mg_none_of X G z_isinstance
  have b_int := PySem.W.mg_none_of X G z_int
  have b_bool := PySem.W.mg_none_of X G z_bool
  have b_enumerate := PySem.W.mg_none_of X G z_enumerate
  have b_set := PySem.W.mg_none_of X G z_set
  have b_max := PySem.W.mg_none_of X G z_max
  have b_tuple := PySem.W.mg_none_of X G z_tuple
  have b_min := PySem.W.mg_none_of X G z_min
  have cl_Occupied : Cl K mg "Occupied" C_Occupied := ⟨PySem.W.mg_of X G xa_Occupied, xk_Occupied, xb_Occupied, xt_Occupied, xi_Occupied, ⟨xg_Occupied, xr_Occupied, xb_Occupied, xd_Occupied, xc_Occupied, xn, xz, xm_Occupied⟩, xs_Occupied⟩
  have cl_Breathless : Cl K mg "Breathless" C_Breathless := ⟨PySem.W.mg_of X G xa_Breathless, xk_Breathless, xb_Breathless, xt_Breathless, xi_Breathless, ⟨xg_Breathless, xr_Breathless, xb_Breathless, xd_Breathless, xc_Breathless, xn, xz, xm_Breathless⟩, xs_Breathless⟩
  have cl_Still : Cl K mg "Still" C_Still := ⟨PySem.W.mg_of X G xa_Still, xk_Still, xb_Still, xt_Still, xi_Still, ⟨xg_Still, xr_Still, xb_Still, xd_Still, xc_Still, xn, xz, xm_Still⟩, xs_Still⟩
  have cl_NoField : Cl K mg "NoField" C_NoField := ⟨PySem.W.mg_of X G xa_NoField, xk_NoField, xb_NoField, xt_NoField, xi_NoField, ⟨xg_NoField, xr_NoField, xb_NoField, xd_NoField, xc_NoField, xn, xz, xm_NoField⟩, xs_NoField⟩
  have x_Occupied : HasCl K mg "Occupied" := ⟨C_Occupied, cl_Occupied, xx_Occupied⟩
  have x_Breathless : HasCl K mg "Breathless" := ⟨C_Breathless, cl_Breathless, xx_Breathless⟩
  have x_Still : HasCl K mg "Still" := ⟨C_Still, cl_Still, xx_Still⟩
  have x_NoField : HasCl K mg "NoField" := ⟨C_NoField, cl_NoField, xx_NoField⟩
  have ct_Occupied : CTab K mg "Occupied" ct_tab_Occupied := ctab_mk cl_Occupied (tabs_cons cl_Occupied xs_Occupied (tabs_cons cl_Still sb_Still_Occupied (tabs_cons cl_Breathless sb_Breathless_Occupied (tabs_cons cl_NoField sb_NoField_Occupied tabs_nil))))
  have ct_Breathless : CTab K mg "Breathless" ct_tab_Breathless := ctab_mk cl_Breathless (tabs_cons cl_Occupied sb_Occupied_Breathless (tabs_cons cl_Still sb_Still_Breathless (tabs_cons cl_Breathless xs_Breathless (tabs_cons cl_NoField sb_NoField_Breathless tabs_nil))))
  letI : ObC "Surroundings" := ⟨C_Surroundings⟩
  have ok_Surroundings : ObOk K "Surroundings" := ⟨⟨og_Surroundings, oh_Surroundings, oo_Surroundings, os_Surroundings⟩, fun f m => by
    have m : f ∈ (["owners", "signs", "the_web"] : List PySem.Str) := m
    simp only [List.mem_cons, List.not_mem_nil, or_false] at m
    rcases m with rfl | rfl | rfl
    · exact of_Surroundings_owners
    · exact of_Surroundings_signs
    · exact of_Surroundings_the_web
    , by decide⟩
  have d_next_to := isDef_mk (st := s_next_to) X G a0 l0 c0 k0
  have d_all_next := isDef_mk (st := s_all_next) X G a1 l1 c1 k1
  have d_hanging_with := isDef_mk (st := s_hanging_with) X G a2 l2 c2 k2
  have d_pieces := isDef_mk (st := s_pieces) X G a3 l3 c3 k3
  have d_other_hand := isDef_mk (st := s_other_hand) X G a4 l4 c4 k4
  have d_chain_of := isDef_mk (st := s_chain_of) X G a5 l5 c5 k5
  have d_empties_by := isDef_mk (st := s_empties_by) X G a6 l6 c6 k6
  have d_breaths_of := isDef_mk (st := s_breaths_of) X G a7 l7 c7 k7
  have d_signed := isDef_mk (st := s_signed) X G a8 l8 c8 k8
  have d_choked := isDef_mk (st := s_choked) X G a9 l9 c9 k9
  have d_lay := isDef_mk (st := s_lay) X G a10 l10 c10 k10
  have d_is_crossing := isDef_mk (st := s_is_crossing) X G a11 l11 c11 k11
  have d_is_field := isDef_mk (st := s_is_field) X G a12 l12 c12 k12
  have d_are_fields := isDef_mk (st := s_are_fields) X G a13 l13 c13 k13
  have d_Surroundings___init__ : IsIni K "Surroundings" "Surroundings.__init__" s_Surroundings___init__ := ⟨f14, _, fun_mk (st := s_Surroundings___init__) l14 c14 k14, ⟨om_Surroundings, a14, im14, oq_Surroundings⟩⟩
  have d_Surroundings_outside : IsMeth K "Surroundings" "Surroundings.outside" "outside" s_Surroundings_outside := ⟨f15, _, fun_mk (st := s_Surroundings_outside) l15 c15 k15, ⟨a15, im15, k15⟩⟩
  have d_Surroundings_touched : IsMeth K "Surroundings" "Surroundings.touched" "touched" s_Surroundings_touched := ⟨f16, _, fun_mk (st := s_Surroundings_touched) l16 c16 k16, ⟨a16, im16, k16⟩⟩
  have d_Surroundings_is_shaky : IsMeth K "Surroundings" "Surroundings.is_shaky" "is_shaky" s_Surroundings_is_shaky := ⟨f17, _, fun_mk (st := s_Surroundings_is_shaky) l17 c17 k17, ⟨a17, im17, k17⟩⟩
  have d_Surroundings_shaky : IsMeth K "Surroundings" "Surroundings.shaky" "shaky" s_Surroundings_shaky := ⟨f18, _, fun_mk (st := s_Surroundings_shaky) l18 c18 k18, ⟨a18, im18, k18⟩⟩
  have d_Surroundings_tie_between : IsMeth K "Surroundings" "Surroundings.tie_between" "tie_between" s_Surroundings_tie_between := ⟨f19, _, fun_mk (st := s_Surroundings_tie_between) l19 c19 k19, ⟨a19, im19, k19⟩⟩
  have d_Surroundings_are_tied : IsMeth K "Surroundings" "Surroundings.are_tied" "are_tied" s_Surroundings_are_tied := ⟨f20, _, fun_mk (st := s_Surroundings_are_tied) l20 c20 k20, ⟨a20, im20, k20⟩⟩
  have d_Surroundings_pieces_between : IsMeth K "Surroundings" "Surroundings.pieces_between" "pieces_between" s_Surroundings_pieces_between := ⟨f21, _, fun_mk (st := s_Surroundings_pieces_between) l21 c21 k21, ⟨a21, im21, k21⟩⟩
  have d_meddling := isDef_mk (st := s_meddling) X G a22 l22 c22 k22
  have d__law_numbers := isDef_mk (st := s__law_numbers) X G a23 l23 c23 k23
  have d__law_nexts := isDef_mk (st := s__law_nexts) X G a24 l24 c24 k24
  have d__law_chain := isDef_mk (st := s__law_chain) X G a25 l25 c25 k25
  have d__law_breaths := isDef_mk (st := s__law_breaths) X G a26 l26 c26 k26
  have d__law_put := isDef_mk (st := s__law_put) X G a27 l27 c27 k27
  have d__law_laid := isDef_mk (st := s__law_laid) X G a28 l28 c28 k28
  have d__law_cleared := isDef_mk (st := s__law_cleared) X G a29 l29 c29 k29
  have d__law_cell_at := isDef_mk (st := s__law_cell_at) X G a30 l30 c30 k30
  have d__law_part := isDef_mk (st := s__law_part) X G a31 l31 c31 k31
  have d__law_drawn := isDef_mk (st := s__law_drawn) X G a32 l32 c32 k32
  have d__law_told := isDef_mk (st := s__law_told) X G a33 l33 c33 k33
  have d__law_due := isDef_mk (st := s__law_due) X G a34 l34 c34 k34
  have d__law_of := isDef_mk (st := s__law_of) X G a35 l35 c35 k35
  have d__law_put_of := isDef_mk (st := s__law_put_of) X G a36 l36 c36 k36
  refine ⟨PySem.W.fnOf "law" "law" (defArgs s_law) (defBody s_law) (defScope s_law) .none kV37 dc37 pm37 an37 cd37 ct37, fun s v => .of_eq rfl, fun base _ _ => ?_⟩
  have c_next_to := cal_next_to (base := base) d_next_to  b_sorted  
  have c_all_next := cal_all_next (base := base) d_all_next  b_range b_sorted  
  have c_hanging_with := cal_hanging_with (base := base) d_hanging_with  b_len b_sorted  
  have c_pieces := cal_pieces (base := base) d_pieces c_all_next c_hanging_with b_range  
  have c_other_hand := cal_other_hand (base := base) d_other_hand    
  have c_chain_of := cal_chain_of (base := base) d_chain_of c_next_to b_len b_sorted  
  have c_empties_by := cal_empties_by (base := base) d_empties_by c_next_to b_sorted  
  have c_breaths_of := cal_breaths_of (base := base) d_breaths_of c_chain_of c_empties_by   
  have c_signed := cal_signed (base := base) d_signed  b_list  
  have c_choked := cal_choked (base := base) d_choked c_next_to c_other_hand c_chain_of c_breaths_of b_sorted  
  have c_lay := cal_lay (base := base) d_lay c_chain_of c_breaths_of c_signed c_choked   x_Occupied x_Breathless x_Still
  have c_is_crossing := cal_is_crossing (base := base) d_is_crossing  b_isinstance b_int b_bool  
  have c_is_field := cal_is_field (base := base) d_is_field c_is_crossing b_isinstance b_list  
  have c_are_fields := cal_are_fields (base := base) d_are_fields c_is_field b_isinstance b_list b_len  
  have c_Surroundings___init__ := cal_Surroundings___init__ (base := base) d_Surroundings___init__ (PySem.W.mg_of X G oa_Surroundings)  b_enumerate  ok_Surroundings
  have c_Surroundings_outside := cal_Surroundings_outside (base := base) d_Surroundings_outside  b_range  ok_Surroundings
  have c_Surroundings_touched := cal_Surroundings_touched (base := base) d_Surroundings_touched c_next_to b_sorted b_set  ok_Surroundings
  have c_Surroundings_is_shaky := cal_Surroundings_is_shaky (base := base) d_Surroundings_is_shaky c_next_to   ok_Surroundings
  have c_Surroundings_shaky := cal_Surroundings_shaky (base := base) d_Surroundings_shaky c_pieces c_Surroundings_outside c_Surroundings_is_shaky b_sorted  ok_Surroundings
  have c_Surroundings_tie_between := cal_Surroundings_tie_between (base := base) d_Surroundings_tie_between    ok_Surroundings
  have c_Surroundings_are_tied := cal_Surroundings_are_tied (base := base) d_Surroundings_are_tied c_next_to   ok_Surroundings
  have c_Surroundings_pieces_between := cal_Surroundings_pieces_between (base := base) d_Surroundings_pieces_between c_Surroundings_touched c_Surroundings_shaky c_Surroundings_are_tied b_len b_enumerate  ok_Surroundings
  have c_meddling := cal_meddling (base := base) d_meddling c_are_fields c_Surroundings___init__ c_Surroundings_tie_between c_Surroundings_pieces_between   x_NoField ok_Surroundings
  have c__law_numbers := cal__law_numbers (base := base) d__law_numbers  b_max b_len b_range  
  have c__law_nexts := cal__law_nexts (base := base) d__law_nexts  b_range b_sorted  
  have c__law_chain := cal__law_chain (base := base) d__law_chain  b_len b_sorted  
  have c__law_breaths := cal__law_breaths (base := base) d__law_breaths  b_sorted  
  have c__law_put := cal__law_put (base := base) d__law_put  b_len b_range b_int  
  have c__law_laid := cal__law_laid (base := base) d__law_laid c__law_chain c__law_breaths c__law_put b_sorted  
  have c__law_cleared := cal__law_cleared (base := base) d__law_cleared c__law_chain c__law_breaths c__law_put b_len b_range  
  have c__law_cell_at := cal__law_cell_at (base := base) d__law_cell_at  b_len  
  have c__law_part := cal__law_part (base := base) d__law_part c__law_numbers b_range  
  have c__law_drawn := cal__law_drawn (base := base) d__law_drawn c__law_nexts c__law_cleared c__law_part b_len b_sorted b_tuple  
  have c__law_told := cal__law_told (base := base) d__law_told c_lay   ct_Occupied ct_Breathless
  have c__law_due := cal__law_due (base := base) d__law_due c__law_laid b_int  
  have c__law_of := cal__law_of (base := base) d__law_of  b_len b_min  
  have c__law_put_of := cal__law_put_of (base := base) d__law_put_of  b_len  
  exact law_ok (fn_law (fun_mk (st := s_law) l37 c37 k37) c_meddling c__law_numbers c__law_nexts c__law_laid c__law_cell_at c__law_drawn c__law_told c__law_due c__law_of c__law_put_of b_len  ) hg
end K77

namespace K77
open PySem PySem.Spec PyProof.Rows L2 G
theorem numbers (c : Int) (sizes : List Int) (hl : sizes.length ≤ 100000) (hs : ∀ z ∈ sizes, 0 < z ∧ z < 10 ^ 70) : Sat (m_l_numbers c sizes) (Digits sizes) := by
  unfold m_l_numbers
  refine .bok (.bok (.bok (.bassoc (.brange (by omega) (by omega) ?_))))
  rw [Int.toNat_natCast]
  refine .bind (P := fun s => Digits sizes s.1) ?_ fun s p => .ok p
  refine (Sat.foldR (fun i s => s.1.length = i ∧ ∀ (j : Nat) (d z : Int), s.1[j]? = some d → sizes[j]? = some z → 0 ≤ d ∧ d < z) ⟨rfl, fun j d z h => by cases h⟩ ?_).imp fun s ⟨a, b⟩ => ⟨by rw [a, rangeL_len], b⟩
  intro i s a ha ⟨l, p⟩
  obtain ⟨hi, rfl⟩ := rangeL0 ha
  obtain ⟨z, hz⟩ : ∃ z, sizes[i]? = some z := ⟨_, get_of hi⟩
  have hz0 := hs z (List.mem_of_getElem? hz)
  have fin : ∀ (x : Int) (y : Int), Sat (Res.ok ((s.1 ++ [x % z]), y)) (fun s : List Int × Int => s.1.length = i + 1 ∧ ∀ (j : Nat) (d z : Int), s.1[j]? = some d → sizes[j]? = some z → 0 ≤ d ∧ d < z) := by
    intro x y
    refine .ok ⟨by rw [List.length_append, l]; rfl, fun j d z' hd hz' => ?_⟩
    by_cases hj : j < s.1.length
    · rw [List.getElem?_append_left hj] at hd
      exact p j d z' hd hz'
    · rw [List.getElem?_append_right (by omega)] at hd
      have : j = i := by
        have := (List.getElem?_eq_some_iff.mp hd).1
        rw [List.length_singleton] at this
        omega
      subst this
      rw [l, Nat.sub_self] at hd
      injection hd with hd
      rw [hz] at hz'
      injection hz' with hz'
      subst hz' hd
      exact ⟨Int.emod_nonneg _ (by omega), Int.emod_lt_of_pos _ hz0.1⟩
  have gz : sizes[(i : Int).toNat]? = some z := by rw [Int.toNat_natCast]; exact hz
  have B1 : ∀ x : Int, -(2 ^ 64) < x % 2147483647 ∧ x % 2147483647 < 2 ^ 64 := fun x => by omega
  repeat' first
    | with_reducible refine Sat.bassoc ?_
    | with_reducible refine Sat.bok ?_
    | with_reducible refine Sat.bite (fun _ => ?_) (fun _ => ?_)
    | with_reducible refine Sat.bidx (by omega) gz ?_
    | with_reducible refine Sat.bmul (by first | exact .inl (by omega) | exact .inr (by omega) | exact .inl (B1 _)) ?_
    | with_reducible refine Sat.bmod (by first | exact hz0.1 | omega) ?_
    | with_reducible refine Sat.bdiv (by first | exact hz0.1 | omega) (by first | exact hz0.2 | omega) ?_
    | with_reducible refine Sat.bapp (by omega) ?_
    | exact fin _ _
theorem nextTo (w : Int × Tup (Int × Int)) (h : WebOk w) (k : Int) : m_next_to w k = .ok (nextL w k) := by
  refine Sat.eq ?_
  unfold m_next_to
  have hl := h.len
  refine .bok ?_
  refine .bind (Sat.foldR (fun i s => s = nbrs (w.2.l.take i) k) (by rw [List.take_zero]; rfl) ?_) fun s e => ?_
  · rintro i s t ht rfl
    have hi := (List.getElem?_eq_some_iff.mp ht).1
    have hb := nbrs_len (ts := w.2.l.take i) (k := k)
    rw [List.length_take] at hb
    have e : nbrs (w.2.l.take (i + 1)) k = nbrs (w.2.l.take i) k ++ nbr k t := by
      unfold nbrs
      rw [List.take_succ, ht, List.flatMap_append]
      simp
    rw [e]
    unfold nbr
    by_cases h1 : t.1 = k <;> by_cases h2 : t.2 = k
    · rw [eqII, eqII, decide_eq_true h1, decide_eq_true h2, if_pos h1, if_pos h2]
      refine .bassoc (.bapp (by omega) (.bok (.bassoc (.bapp (by rw [List.length_append, List.length_singleton]; omega) (.bok (.ok ?_))))))
      rw [List.append_assoc]
    · rw [eqII, eqII, decide_eq_true h1, decide_eq_false h2, if_pos h1, if_neg h2, List.append_nil]
      exact .bassoc (.bapp (by omega) (.bok (.bok (.ok rfl))))
    · rw [eqII, eqII, decide_eq_false h1, decide_eq_true h2, if_neg h1, if_pos h2, List.nil_append]
      exact .bok (.bassoc (.bapp (by omega) (.bok (.ok rfl))))
    · rw [eqII, eqII, decide_eq_false h1, decide_eq_false h2, if_neg h1, if_neg h2, List.append_nil, List.append_nil]
      exact .bok (.bok (.ok rfl))
  · subst e
    rw [List.take_length]
    exact .ok (sort_nbrs h k)
theorem allNext (w : Int × Tup (Int × Int)) (h : WebOk w) : m_all_next w = .ok (nextsL w) := by
  refine Sat.eq ?_
  unfold m_all_next
  have hl := h.len
  have n1 := h.n1
  have n2 := h.n2
  have rl : (rangeL 0 w.1.toNat).length ≤ 40 := by rw [rangeL_len]; omega
  refine .bassoc (.brange (by omega) (by omega) ?_)
  rw [lcT_map (g' := fun _ => ([] : List Int)) (by omega) (fun _ _ => rfl)]
  refine .bok ?_
  refine .bind (Sat.foldR (fun i s => s = (rangeL 0 w.1.toNat).map (nbrs (w.2.l.take i))) (by rw [List.take_zero]; rfl) ?_) fun s e => ?_
  · rintro i s t ht rfl
    have hi := (List.getElem?_eq_some_iff.mp ht).1
    have ⟨ta, tb, tc⟩ := h.ok t (List.mem_of_getElem? ht)
    have hb : ∀ k, (nbrs (w.2.l.take i) k).length ≤ 400 := fun k => by
      have := nbrs_len (ts := w.2.l.take i) (k := k)
      rw [List.length_take] at this
      omega
    have e : ∀ k, nbrs (w.2.l.take (i + 1)) k = nbrs (w.2.l.take i) k ++ nbr k t := fun k => by
      unfold nbrs
      rw [List.take_succ, ht, List.flatMap_append]
      simp
    refine .bassoc ?_
    rw [idx_rangeMap (by omega) (by omega)]
    refine .bok (.bassoc (.bapp (Nat.le_trans (hb _) (by decide)) (.bok ?_)))
    rw [set_rangeMap (by omega) (by omega)]
    refine .bassoc ?_
    rw [idx_rangeMap (by omega) (by omega)]
    rw [if_neg (by omega)]
    refine .bok (.bassoc (.bapp (Nat.le_trans (hb _) (by decide)) (.bok ?_)))
    rw [set_rangeMap (by omega) (by omega)]
    refine .ok ?_
    refine List.map_congr_left fun k _ => ?_
    rw [e]
    unfold nbr
    by_cases h1 : t.1 = k <;> by_cases h2 : t.2 = k
    · omega
    · rw [if_neg (by omega), if_pos h1.symm, if_pos h1, if_neg h2, h1, List.append_nil]
    · rw [if_pos h2.symm, if_neg h1, if_pos h2, h2, List.nil_append]
    · rw [if_neg (by omega), if_neg (by omega), if_neg h1, if_neg h2, List.append_nil, List.append_nil]
  · subst e
    rw [List.take_length, lcT_map (g' := sortI) (by rw [List.length_map]; omega) (fun _ _ => rfl), List.map_map]
    refine .ok ?_
    unfold nextsL
    exact List.map_congr_left fun k _ => sort_nbrs h k
def hf (inside : Dic Int Bool) : (G.Dic Int Bool) × (List Int) → Int → Res ((G.Dic Int Bool) × (List Int)) := fun (s8 : (G.Dic Int Bool) × (List Int)) (a9 : Int) => (Res.bind (Res.bind (if (dhas inside a9) then (Res.ok (!dhas s8.1 a9)) else (Res.ok false)) fun v13 => (if v13 then (Res.bind (dputR s8.1 a9 true) fun seen11 => (Res.bind (appR s8.2 a9) fun found12 => (Res.ok (seen11, found12)))) else (Res.ok (s8.1, s8.2)))) fun s10 => (Res.ok (s10.1, s10.2)))
theorem hf_one {inside : Dic Int Bool} {okb : Int → Bool} (hin : ∀ x, dhas inside x = okb x) {d : Dic Int Bool} {s : List Int} {a : Int} (h : ∀ x, dhas d x = decide (x ∈ s)) (l1 : d.l.length ≤ 100000) (l2 : s.length ≤ 100000) :
    hf inside (d, s) a = .ok (if okb a = true ∧ a ∉ s then (dput d a true, s ++ [a]) else (d, s)) := by
  unfold hf
  rw [hin]
  show Res.bind (Res.bind (if okb a = true then Res.ok (!dhas d a) else Res.ok false) _) _ = _
  rw [h]
  by_cases ho : okb a = true
  · by_cases hm : a ∈ s
    · rw [if_pos ho, decide_eq_true hm, if_neg (fun z : okb a = true ∧ a ∉ s => z.2 hm)]; rfl
    · rw [if_pos ho, decide_eq_false hm, if_pos (show okb a = true ∧ a ∉ s from ⟨ho, hm⟩)]
      show Res.bind (Res.bind (dputR d a true) _) _ = _
      rw [dputR_ok (by omega)]
      show Res.bind (Res.bind (appR s a) _) _ = _
      rw [appR_ok (by omega)]; rfl
  · rw [if_neg ho, if_neg (fun z : okb a = true ∧ a ∉ s => ho z.1)]; rfl
theorem hang_inner {inside : Dic Int Bool} {okb : Int → Bool} (hin : ∀ x, dhas inside x = okb x) : ∀ (xs : List Int) (d : Dic Int Bool) (s : List Int), (∀ x, dhas d x = decide (x ∈ s)) → d.l.length ≤ s.length → s.length + xs.length ≤ 100000 →
    ∃ d', foldR (hf inside) (d, s) xs = .ok (d', grow okb s xs) ∧ (∀ x, dhas d' x = decide (x ∈ grow okb s xs)) ∧ d'.l.length ≤ (grow okb s xs).length
  | [], d, s, h, l, _ => ⟨d, rfl, h, l⟩
  | a :: xs, d, s, h, l1, l2 => by
    rw [List.length_cons] at l2
    have e0 := hf_one hin (a := a) h (by omega) (by omega)
    have e1 : foldR (hf inside) (d, s) (a :: xs) = (hf inside (d, s) a).bind fun s' => foldR (hf inside) s' xs := rfl
    rw [e1, e0, Res.okb]
    unfold grow
    by_cases hc : okb a = true ∧ a ∉ s
    · rw [if_pos hc, if_pos hc]
      exact hang_inner hin xs (dput d a true) (s ++ [a]) (fun x => by rw [dhas_put, h]; by_cases e : x = a <;> simp [e]) (by have := put_len d a true; rw [List.length_append, List.length_singleton]; omega) (by rw [List.length_append, List.length_singleton]; omega)
    · rw [if_neg hc, if_neg hc]
      exact hang_inner hin xs d s h l1 (by omega)
theorem hanging (w : Int × Tup (Int × Int)) (h : WebOk w) {inside : Dic Int Bool} {ok : Int → Bool} (hin : ∀ x, dhas inside x = ok x) {k : Int} (hk : 0 ≤ k ∧ k < w.1) : m_hanging_with (nextsL w) k inside = .ok (PL w ok k) := by
  refine Sat.eq ?_
  unfold m_hanging_with
  have n1 := h.n1
  have n2 := h.n2
  refine .bok (.bok (.bok ?_))
  refine .bind (bfs2 (nb := nextL w) (okb := ok) (J := fun (d : Dic Int Bool) s => (∀ x, dhas d x = decide (x ∈ s)) ∧ d.l.length ≤ s.length) n2 hk (fun x _ _ y my => (nextL_rise w (by omega) x).2 y my) ⟨fun x => ?_, Nat.le_refl 1⟩ (fun d s i => rfl) (fun d s i x hx hJ hs hr => ?_)) fun s ⟨h1, h2, h3⟩ => .ok ?_
  · show dhas (dput ⟨[]⟩ k true) x = _
    rw [dhas_put]
    by_cases e : x = k <;> simp [e, dhas]
  · have hx' := hr x (List.mem_of_getElem? hx)
    have hn := nextL_len w h x
    obtain ⟨d', e, p, q⟩ := hang_inner hin (nextL w x) d s hJ.1 hJ.2 (by omega)
    refine ⟨d', ?_, p, q⟩
    show Res.bind (Res.bind (Res.bind (idx s (i : Int)) fun v7 => idx (nextsL w) v7) fun v14 => foldR (hf inside) (d, s) v14) _ = _
    rw [idx_int (by omega) (by rw [Int.toNat_natCast]; exact hx)]
    simp only [Res.okb]
    unfold nextsL
    rw [idx_rangeMap hx'.1 (by omega)]
    simp only [Res.okb]
    rw [e]; rfl
  · refine rise_ext (sortI_rise h1) (PL_rise h k).1 fun x => ?_
    rw [mem_sortI, h3, mem_PL h hk]
theorem pieces_are (w : Int × Tup (Int × Int)) (h : WebOk w) (some' : List Int) (hl : some'.length ≤ 100000) : m_pieces w some' = .ok (PS w fun x => decide (x ∈ some')) := by
  refine Sat.eq ?_
  unfold m_pieces
  have n1 := h.n1
  have n2 := h.n2
  rw [allNext w h]
  refine .bok (.bok (.bind (foldR_put (s := ⟨[]⟩) (xs := some') (by show 0 + some'.length ≤ _; omega)) fun inside ⟨_, hin⟩ => ?_))
  have hin : ∀ x, dhas inside x = (fun x => decide (x ∈ some')) x := fun x => by rw [hin]; simp [dhas]
  generalize (fun x => decide (x ∈ some')) = ok at hin
  refine .bok (.bok (.bassoc (.brange (by omega) (by omega) ?_)))
  refine .bind (Sat.foldR (fun i s => s.1 = (reps w ok i).map (PL w ok) ∧ (∀ x, dhas s.2 x = true ↔ ∃ r ∈ reps w ok i, x ∈ PL w ok r) ∧ s.2.l.length ≤ 40 * i) ⟨rfl, fun x => ?_, Nat.zero_le _⟩ ?_) fun s ⟨e, _⟩ => .ok (by rw [e, rangeL_len]; rfl)
  · constructor
    · intro h; cases h
    · rintro ⟨r, m, _⟩; cases m
  · rintro i ⟨found, seen⟩ k hk ⟨e1, e2, e3⟩
    have e1 : found = (reps w ok i).map (PL w ok) := e1
    have e2 : ∀ x, dhas seen x = true ↔ ∃ r ∈ reps w ok i, x ∈ PL w ok r := e2
    have e3 : seen.l.length ≤ 40 * i := e3
    obtain ⟨hi, rfl⟩ := rangeL0 hk
    have hk : 0 ≤ (i : Int) ∧ (i : Int) < w.1 := by omega
    have rl := reps_len (w := w) (ok := ok) i
    have stay : ∀ (hz : ¬ isrep w ok (i : Int) = true), Sat (Res.ok (found, seen)) (fun s : List (List Int) × Dic Int Bool => s.1 = (reps w ok (i + 1)).map (PL w ok) ∧ (∀ x, dhas s.2 x = true ↔ ∃ r ∈ reps w ok (i + 1), x ∈ PL w ok r) ∧ s.2.l.length ≤ 40 * (i + 1)) := fun hz => by
      refine .ok ⟨?_, ?_, by show seen.l.length ≤ _; omega⟩
      · rw [reps_succ, if_neg hz]; exact e1
      · rw [reps_succ, if_neg hz]; exact e2
    rw [hin]
    by_cases ho : ok (i : Int) = true
    · have hs := seen_iff h hi ho
      rw [← e2] at hs
      rw [if_pos ho]
      refine .bassoc (.bok (.bite (fun hv => ?_) (fun hv => .bok (stay fun z => ?_))))
      · have hv : dhas seen (i : Int) = false := by simpa using hv
        have hr : isrep w ok (i : Int) = true := hs.mpr (by rw [hv]; exact Bool.false_ne_true)
        rw [hanging w h hin hk]
        have pl := PL_len (ok := ok) h (i : Int)
        refine .bassoc (.bok (.bassoc (.bind (foldR_put (s := seen) (xs := PL w ok (i : Int)) (by omega)) fun d ⟨dl, dh⟩ => ?_)))
        refine .bassoc ?_
        have fl : found.length ≤ i := by rw [e1, List.length_map]; exact rl
        refine .bapp (by show found.length ≤ _; omega) (.bok (.ok ⟨?_, fun x => ?_, ?_⟩))
        · rw [reps_succ, if_pos hr, List.map_append, ← e1]; rfl
        · show dhas d x = true ↔ _
          rw [dh, Bool.or_eq_true, decide_eq_true_iff, e2, reps_succ, if_pos hr]
          constructor
          · rintro (m | ⟨r, m, q⟩)
            · exact ⟨(i : Int), by simp, m⟩
            · exact ⟨r, List.mem_append_left _ m, q⟩
          · rintro ⟨r, m, q⟩
            rcases List.mem_append.mp m with m | m
            · exact .inr ⟨r, m, q⟩
            · cases List.mem_singleton.mp m
              exact .inl q
        · show d.l.length ≤ _
          omega
      · have hv : dhas seen (i : Int) = true := by simpa using hv
        exact hs.mp z hv
    · rw [if_neg ho]
      refine .bok (.bok (stay fun z => ho (isrep_iff.mp z).1))
theorem nexts (w : Int × Tup (Int × Int)) (h : WebOk w) : m_l_nexts w = .ok (nextsL w) := by
  refine Sat.eq ?_
  unfold m_l_nexts
  have hl := h.len
  have n1 := h.n1
  have n2 := h.n2
  have rl : (rangeL 0 w.1.toNat).length ≤ 40 := by rw [rangeL_len]; omega
  refine .bassoc (.brange (by omega) (by omega) ?_)
  rw [lcT_map (g' := fun _ => ([] : List Int)) (by omega) (fun _ _ => rfl)]
  refine .bok ?_
  refine .bind (Sat.foldR (fun i s => s = (rangeL 0 w.1.toNat).map (nbrs (w.2.l.take i))) (by rw [List.take_zero]; rfl) ?_) fun s e => ?_
  · rintro i s t ht rfl
    have hi := (List.getElem?_eq_some_iff.mp ht).1
    have ⟨ta, tb, tc⟩ := h.ok t (List.mem_of_getElem? ht)
    have hb : ∀ k, (nbrs (w.2.l.take i) k).length ≤ 400 := fun k => by
      have := nbrs_len (ts := w.2.l.take i) (k := k)
      rw [List.length_take] at this
      omega
    have e : ∀ k, nbrs (w.2.l.take (i + 1)) k = nbrs (w.2.l.take i) k ++ nbr k t := fun k => by
      unfold nbrs
      rw [List.take_succ, ht, List.flatMap_append]
      simp
    refine .bassoc ?_
    rw [idx_rangeMap (by omega) (by omega)]
    refine .bok (.bassoc (.bapp (Nat.le_trans (hb _) (by decide)) (.bok ?_)))
    rw [set_rangeMap (by omega) (by omega)]
    refine .bassoc ?_
    rw [idx_rangeMap (by omega) (by omega)]
    rw [if_neg (by omega)]
    refine .bok (.bassoc (.bapp (Nat.le_trans (hb _) (by decide)) (.bok ?_)))
    rw [set_rangeMap (by omega) (by omega)]
    refine .ok ?_
    refine List.map_congr_left fun k _ => ?_
    rw [e]
    unfold nbr
    by_cases h1 : t.1 = k <;> by_cases h2 : t.2 = k
    · omega
    · rw [if_neg (by omega), if_pos h1.symm, if_pos h1, if_neg h2, h1, List.append_nil]
    · rw [if_pos h2.symm, if_neg h1, if_pos h2, h2, List.nil_append]
    · rw [if_neg (by omega), if_neg (by omega), if_neg h1, if_neg h2, List.append_nil, List.append_nil]
  · subst e
    rw [List.take_length, lcT_map (g' := sortI) (by rw [List.length_map]; omega) (fun _ _ => rfl), List.map_map]
    refine .ok ?_
    unfold nextsL
    exact List.map_congr_left fun k _ => sort_nbrs h k
theorem lawChain (w : Int × Tup (Int × Int)) (h : WebOk w) (b : Str) (hb : b.length = w.1.toNat) (k : Int) (hk : 0 ≤ k ∧ k < w.1) : Sat (m_l_chain (nextsL w) b k) (Chain w b k) := by
  unfold m_l_chain
  have n1 := h.n1
  have n2 := h.n2
  simp only [Res.okb]
  refine .bind (bfs (nb := nextL w) (okb := fun y => decide (sgn b y = sgn b k)) n2 hk (fun x _ _ y my => (nextL_rise w (by omega) x).2 y my) (fun s i => rfl) (fun s i x hx hs hr => ?_)) fun s ⟨h1, h2, h3⟩ => .ok (chain_of_bfs h h1 h2 h3)
  have hx' := hr x (List.mem_of_getElem? hx)
  rw [idx_int (by omega) (by rw [Int.toNat_natCast]; exact hx)]
  simp only [Res.okb]
  unfold nextsL
  rw [idx_rangeMap hx'.1 (by omega)]
  simp only [Res.okb]
  rw [inner h hb hk hs]
  rfl
theorem chainOf (w : Int × Tup (Int × Int)) (h : WebOk w) (b : Str) (hb : b.length = w.1.toNat) (k : Int) (hk : 0 ≤ k ∧ k < w.1) (hd : sgn b k ≠ PySem.Str.ofString ".") : Sat (m_chain_of w b k) (Chain w b k) := by
  unfold m_chain_of
  have n1 := h.n1
  have n2 := h.n2
  refine .bassoc (.beq (strIx_sgn (by omega) hk.1 (by omega)) (.bok ?_))
  rw [eqSS, decide_eq_false hd]
  refine .ite (fun h => by cases h) (fun _ => .bok (.bok ?_))
  refine .bind (bfs (nb := nextL w) (okb := fun y => decide (sgn b y = sgn b k)) n2 hk (fun x _ _ y my => (nextL_rise w (by omega) x).2 y my) (fun s i => rfl) (fun s i x hx hs _ => ?_)) fun s ⟨h1, h2, h3⟩ => .ok (chain_of_bfs h h1 h2 h3)
  rw [idx_int (by omega) (by rw [Int.toNat_natCast]; exact hx)]
  simp only [Res.okb]
  rw [nextTo w h]
  simp only [Res.okb]
  rw [inner h hb hk hs]
  rfl
theorem lawBreaths (w : Int × Tup (Int × Int)) (h : WebOk w) (b : Str) (hb : b.length = w.1.toNat) (ch : List Int) (hc : ∀ c ∈ ch, 0 ≤ c ∧ c < w.1) : Sat (m_l_breaths (nextsL w) b ch) (Breath w b ch) := by
  unfold m_l_breaths
  have n1 := h.n1
  have n2 := h.n2
  refine .bok (.bind (Sat.foldR (fun i s => s.Nodup ∧ (∀ x ∈ s, 0 ≤ x ∧ x < w.1) ∧ ∀ x, x ∈ s ↔ (∃ c ∈ ch.take i, x ∈ nextL w c) ∧ sgn b x = PySem.Str.ofString ".") ⟨.nil, (fun x m => by cases m), fun x => by simp⟩ ?_) fun s ⟨h1, h2, h3⟩ => .ok (breath_of h h1 h2 fun x => by rw [h3, List.take_length]))
  rintro i s k hk ⟨h1, h2, h3⟩
  have rk := hc k (List.mem_of_getElem? hk)
  have hl : s.length ≤ w.1.toNat := nodup_len _ h1 fun x m => by have := h2 x m; omega
  have hn := nextL_len w h k
  unfold nextsL
  rw [idx_rangeMap rk.1 (by omega)]
  refine .bassoc (.bassoc (.bok ?_))
  have e : lcT (fun a5 => (Res.bind (Res.bind (strIx b a5) fun v6 => (Res.ok (ScaEq.eq v6 (PySem.Str.ofString ".")))) fun v7 => (if v7 then (Res.ok (!decide (a5 ∈ s))) else (Res.ok false)))) (fun a5 => (Res.ok a5)) (nextL w k) = .ok ((nextL w k).filter fun x => dotb b x && !decide (x ∈ s)) := by
    refine Sat.eq (.lcT (p' := fun x => dotb b x && !decide (x ∈ s)) (g' := fun x => x) (by omega) (fun a ha => ?_) (fun _ _ _ => rfl) (by rw [List.map_id']))
    have ra := (nextL_rise w (by omega) k).2 a ha
    rw [strIx_sgn (by omega) ra.1 (by omega)]
    simp only [Res.okb, eqSS]
    unfold dotb
    by_cases e : sgn b a = PySem.Str.ofString "."
    · simp [e]
    · simp [e]
  rw [e]
  have hf : ((nextL w k).filter fun x => dotb b x && !decide (x ∈ s)).length ≤ (nextL w k).length := List.length_filter_le _ _
  refine .bok ?_
  rw [extR_ok (by omega)]
  refine .bok (.ok ?_)
  have g := filt_grow (okb := dotb b) (as := nextL w k) (s := s) (t := s) ((nextL_rise w (by omega) k).1.imp fun h => by omega) fun x _ => Iff.rfl
  rw [← g]
  exact grow_step w h b hk h1 h2 h3
theorem emptiesBy (w : Int × Tup (Int × Int)) (h : WebOk w) (b : Str) (hb : b.length = w.1.toNat) (ch : List Int) : Sat (m_empties_by w b ch) (Breath w b ch) := by
  unfold m_empties_by
  have n1 := h.n1
  have n2 := h.n2
  refine .bok (.bind (Sat.foldR (fun i s => s.Nodup ∧ (∀ x ∈ s, 0 ≤ x ∧ x < w.1) ∧ ∀ x, x ∈ s ↔ (∃ c ∈ ch.take i, x ∈ nextL w c) ∧ sgn b x = PySem.Str.ofString ".") ⟨.nil, (fun x m => by cases m), fun x => by simp⟩ ?_) fun s ⟨h1, h2, h3⟩ => .ok (breath_of h h1 h2 fun x => by rw [h3, List.take_length]))
  rintro i s k hk ⟨h1, h2, h3⟩
  rw [nextTo w h]
  have hl : s.length ≤ w.1.toNat := nodup_len _ h1 fun x m => by have := h2 x m; omega
  have hn := nextL_len w h k
  refine .bassoc (.bok ?_)
  rw [foldR_grow (okb := dotb b) (fun a ha s hs => ?_) (by omega)]
  · exact .ok (grow_step w h b hk h1 h2 h3)
  · have ra := (nextL_rise w (by omega) k).2 a ha
    rw [strIx_sgn (by omega) ra.1 (by omega)]
    simp only [Res.okb, eqSS]
    unfold dotb
    by_cases e : sgn b a = PySem.Str.ofString "."
    · by_cases m : a ∈ s
      · simp [e, m]
      · simp only [e, decide_true, if_true, m, decide_false, Bool.not_false, Res.okb, not_false_eq_true, and_self]
        rw [appR_ok (by omega)]; rfl
    · simp [e]
theorem put_is {b : Str} (hl : b.length ≤ 1000) (some' : List Int) (c : Nat) : m_l_put b some' ⟨#[c]⟩ = .ok (putL b some' c) := by
  refine Sat.eq ?_
  unfold m_l_put
  rw [strLen_ok (by omega)]
  simp only [Res.okb]
  rw [range_ok (by omega) (by omega), Int.toNat_natCast]
  simp only [Res.okb]
  rw [lcT_map (g' := fun k => (⟨#[if k ∈ some' then c else cpOf b k]⟩ : Str)) (by rw [rangeL_len]; omega) (fun k m => by
    have hk := mem_rangeL.mp m
    rw [strIx_sgn (by omega) hk.1 (by omega)]
    simp only [Res.okb]
    by_cases e : k ∈ some'
    · rw [decide_eq_true e, if_pos rfl, if_pos e]; rfl
    · rw [decide_eq_false e, if_neg Bool.false_ne_true, if_neg e]; rfl)]
  have p1 : ∀ x ∈ ((rangeL 0 b.length).map fun k => (⟨#[if k ∈ some' then c else cpOf b k]⟩ : Str)), x.length = 1 := fun x m => by
    obtain ⟨k, _, rfl⟩ := List.mem_map.mp m; rfl
  have hs := sumLen_of_ones _ p1
  have z : (PySem.Str.ofString "").length = 0 := by decide
  have ml : ((rangeL 0 b.length).map fun k => (⟨#[if k ∈ some' then c else cpOf b k]⟩ : Str)).length = b.length := by rw [List.length_map, rangeL_len]
  simp only [Res.okb]
  rw [joinR_ok (by rw [z]; omega)]
  refine .ok ?_
  have : (Txt.join (PySem.Str.ofString "") ((rangeL 0 b.length).map fun k => (⟨#[if k ∈ some' then c else cpOf b k]⟩ : Str))).cps.toList = (putL b some' c).cps.toList := by
    rw [join_cps, putL_cps, List.flatMap_map]
    induction rangeL 0 b.length with
    | nil => rfl
    | cons a l ih => rw [List.flatMap_cons, ih]; rfl
  cases h : Txt.join (PySem.Str.ofString "") ((rangeL 0 b.length).map fun k => (⟨#[if k ∈ some' then c else cpOf b k]⟩ : Str)) with
  | mk x =>
    rw [h] at this
    cases h2 : putL b some' c with
    | mk y =>
      rw [h2] at this
      congr 1
      exact Array.ext' this
theorem cleared_is {w : Int × Tup (Int × Int)} (h : WebOk w) {b : Str} (hb : b.length = w.1.toNat) : m_l_cleared (nextsL w) b = .ok (clearedL w b) := by
  refine Sat.eq ?_
  unfold m_l_cleared
  have n1 := h.n1
  have n2 := h.n2
  simp only [Res.okb]
  rw [strLen_ok (by omega)]
  simp only [Res.okb]
  rw [range_ok (by omega) (by omega), Int.toNat_natCast]
  simp only [Res.okb]
  refine .bind (P := fun g => g = goneL w b) ((Sat.foldR (fun i s => s = (rangeL 0 i).filter fun k => !decide (sgn b k = dot) && !breathB w b k) rfl fun i s k hk hs => ?_).imp fun g e => by rw [e, rangeL_len, hb]; rfl) fun g e => ?_
  · obtain ⟨hi, rfl⟩ := rangeL0 hk
    have hk : 0 ≤ (i : Int) ∧ (i : Int) < w.1 := by omega
    refine .bind (lawChain w h b hb _ hk) fun ch hch => ?_
    have hl : s.length ≤ i := by
      rw [hs]
      exact Nat.le_trans (List.length_filter_le _ _) (by rw [rangeL_len]; exact Nat.le_refl _)
    rw [rangeL_succ, List.filter_append, ← hs, List.filter_cons, strIx_sgn (by omega) hk.1 (by omega)]
    simp only [Res.okb, eqSS]
    by_cases hd : sgn b (i : Int) = dot
    · rw [decide_eq_true hd, if_neg (by simp)]
      simp only [Bool.not_true, Bool.false_eq_true, if_false, Res.okb, List.filter_nil, List.append_nil, Bool.false_and]
      exact .ok rfl
    · rw [decide_eq_false hd]
      simp only [Bool.not_false, if_true, Res.bind_assoc, Bool.true_and]
      refine .bind (lawBreaths w h b hb ch fun c m => hch.1.2 c m) fun br hbr => ?_
      rw [eqD_eq]
      simp only [Res.okb]
      have key : decide (br = []) = !breathB w b (i : Int) := by
        rw [Bool.eq_iff_iff, decide_eq_true_iff, Bool.not_eq_true', ← Bool.not_eq_true, breathB_iff]
        constructor
        · rintro rfl ⟨x, r, y, my, hy⟩
          have := (hbr.2.2 y).mpr ⟨⟨x, (hch.2.2 x).mpr r, my⟩, hy⟩
          cases this
        · intro hn
          cases e : br with
          | nil => rfl
          | cons a l =>
            have := (hbr.2.2 a).mp (by rw [e]; exact List.mem_cons_self)
            obtain ⟨⟨c, mc, ma⟩, ha⟩ := this
            exact (hn ⟨c, (hch.2.2 c).mp mc, a, ma, ha⟩).elim
      rw [key]
      cases breathB w b (i : Int) with
      | true =>
        simp only [Bool.not_true, Bool.false_eq_true, if_false, Res.okb, List.filter_nil, List.append_nil]
        exact .ok rfl
      | false =>
        simp only [Bool.not_false, if_true, List.filter_nil]
        exact .bassoc (.bapp (xs := s) (by omega) (.bok (.ok rfl)))
  · subst e
    show Sat (m_l_put b _ dot) _
    rw [dot_eq, put_is (by omega)]
    exact .ok rfl
theorem cps_map (b : Str) : b.cps.toList = (rangeL 0 b.length).map (cpOf b) := by
  have bl : b.cps.toList.length = b.length := by rw [Array.length_toList]; rfl
  refine List.ext_getElem? fun i => ?_
  by_cases hi : i < b.length
  · have := rangeL_at (n := b.length) (k := (i : Int)) (by omega) (by omega)
    rw [Int.toNat_natCast] at this
    rw [List.getElem?_map, this, get_of (by omega)]
    show _ = some (cpOf b (i : Int))
    unfold cpOf
    rw [Int.toNat_natCast, List.getD_eq_getElem?_getD, get_of (by omega)]; rfl
  · rw [List.getElem?_eq_none (by omega), List.getElem?_eq_none (by rw [List.length_map, rangeL_len]; omega)]
theorem str_ext {a b : Str} (h : a.cps.toList = b.cps.toList) : a = b := by
  cases a with
  | mk x =>
    cases b with
    | mk y =>
      congr 1
      exact Array.toList_inj.mp h
theorem putL_ext {b b' : Str} {some' : List Int} {c : Nat} (hl : b'.length = b.length) (h : ∀ k : Int, 0 ≤ k → k < b.length → cpOf b' k = if k ∈ some' then c else cpOf b k) : putL b some' c = b' := by
  refine str_ext ?_
  rw [putL_cps, cps_map b', hl]
  exact List.map_congr_left fun k m => by
    have := mem_rangeL.mp m
    exact (h k this.1 this.2).symm
theorem putL_nil (b : Str) (c : Nat) : putL b [] c = b := putL_ext rfl fun k _ _ => by simp
theorem joinMap {n : Nat} (hn : n ≤ 1000) (f : Int → Nat) : joinR (PySem.Str.ofString "") ((rangeL 0 n).map fun k => (⟨#[f k]⟩ : Str)) = .ok ⟨((rangeL 0 n).map f).toArray⟩ := by
  have p1 : ∀ x ∈ ((rangeL 0 n).map fun k => (⟨#[f k]⟩ : Str)), x.length = 1 := fun x m => by
    obtain ⟨k, _, rfl⟩ := List.mem_map.mp m; rfl
  have hs := sumLen_of_ones _ p1
  have z : (PySem.Str.ofString "").length = 0 := by decide
  have ml : ((rangeL 0 n).map fun k => (⟨#[f k]⟩ : Str)).length = n := by rw [List.length_map, rangeL_len]
  rw [joinR_ok (by rw [z]; omega)]
  congr 1
  refine str_ext ?_
  rw [join_cps, List.flatMap_map]
  induction rangeL 0 n with
  | nil => rfl
  | cons a l ih => rw [List.flatMap_cons, ih]; simp
abbrev sameS (b : Str) (k : Int) : Int → Bool := fun y => decide (sgn b y = sgn b k)
def Choked (w : Int × Tup (Int × Int)) (b : Str) (c : Nat) (k x : Int) : Prop := ∃ y ∈ nextL w k, cpOf b y = c ∧ ¬ Breathes w b y ∧ x ∈ PL w (sameS b y) y
noncomputable def chokedL (w : Int × Tup (Int × Int)) (b : Str) (c : Nat) (k : Int) : List Int := (rangeL 0 w.1.toNat).filter fun x => @decide (Choked w b c k x) (Classical.propDecidable _)
theorem mem_chokedL {w : Int × Tup (Int × Int)} (h : WebOk w) {b : Str} {c : Nat} {k x : Int} : x ∈ chokedL w b c k ↔ Choked w b c k x := by
  unfold chokedL
  rw [List.mem_filter, mem_rangeL, @decide_eq_true_iff _ (Classical.propDecidable _)]
  have n1 := h.n1
  exact ⟨fun q => q.2, fun q => ⟨by obtain ⟨y, _, _, _, m⟩ := q; have := (PL_rise h y).2 x m; omega, q⟩⟩
theorem choked_not {w : Int × Tup (Int × Int)} (h : WebOk w) {b : Str} {c c' : Nat} (hc : c ≠ c') {k : Int} (e : cpOf b k = c) : k ∉ chokedL w b c' k := fun m => by
  obtain ⟨y, my, hy, _, p⟩ := (mem_chokedL h).mp m
  have ry := (nextL_rise w (by have := h.n1; omega) k).2 y my
  have es : sgn b k = sgn b y := of_decide_eq_true (PL_ok (ok := sameS b y) h ry (decide_eq_true rfl) p)
  have := sgn_iff.mp es
  omega
theorem signed_is {b : Str} (hl : b.length ≤ 1000) {some' : List Int} (hs : ∀ k ∈ some', 0 ≤ k ∧ k < b.length) (c : Nat) : m_signed b some' ⟨#[c]⟩ = .ok (putL b some' c) := by
  refine Sat.eq ?_
  unfold m_signed
  rw [listS_ok (by omega), Res.okb]
  refine .bind (P := fun s : List Str => s = (rangeL 0 b.length).map fun k => (⟨#[if k ∈ some' then c else cpOf b k]⟩ : Str)) ((Sat.foldR (fun i (s : List Str) => s = (rangeL 0 b.length).map fun k => (⟨#[if k ∈ some'.take i then c else cpOf b k]⟩ : Str)) ?_ fun i s k hk e => ?_).imp fun s e => by rw [List.take_length] at e; exact e) fun s e => ?_
  · unfold signsOf
    rw [cps_map, List.map_map]
    exact List.map_congr_left fun k _ => by simp
  · subst e
    have rk := hs k (List.mem_of_getElem? hk)
    have e0 : ixN ((rangeL 0 b.length).map fun k => (⟨#[if k ∈ some'.take i then c else cpOf b k]⟩ : Str)).length k = some k.toNat := by
      rw [List.length_map, rangeL_len]
      unfold ixN
      rw [if_pos rk.1, if_pos (by omega)]
    have e1 : setR ((rangeL 0 b.length).map fun k => (⟨#[if k ∈ some'.take i then c else cpOf b k]⟩ : Str)) k ⟨#[c]⟩ = .ok (setI ((rangeL 0 b.length).map fun k => (⟨#[if k ∈ some'.take i then c else cpOf b k]⟩ : Str)) k ⟨#[c]⟩) := by
      unfold setR setI
      rw [e0]
    rw [e1, Res.okb, set_rangeMap rk.1 rk.2]
    refine .ok (List.map_congr_left fun y _ => ?_)
    rw [List.take_succ, hk]
    by_cases ey : y = k
    · subst ey; simp
    · simp [ey]
  · subst e
    rw [joinMap (by omega) (fun k => if k ∈ some' then c else cpOf b k)]
    exact .ok rfl
theorem breaths_is {w : Int × Tup (Int × Int)} (h : WebOk w) {b : Str} (hb : b.length = w.1.toNat) {k : Int} (hk : 0 ≤ k ∧ k < w.1) (hd : sgn b k ≠ dot) : Sat (m_breaths_of w b k) (fun l => l = [] ↔ ¬ Breathes w b k) := by
  unfold m_breaths_of
  simp only [Res.bind_assoc, Res.okb]
  refine .bind (chainOf w h b hb k hk hd) fun ch hch => (emptiesBy w h b hb ch).imp fun l hl => ?_
  constructor
  · rintro rfl ⟨x, r, y, my, hy⟩
    have := (hl.2.2 y).mpr ⟨⟨x, (hch.2.2 x).mpr r, my⟩, hy⟩
    cases this
  · intro hn
    refine List.eq_nil_iff_forall_not_mem.mpr fun y my => hn ?_
    obtain ⟨⟨x, mx, m⟩, hy⟩ := (hl.2.2 y).mp my
    exact ⟨x, (hch.2.2 x).mp mx, y, m, hy⟩
theorem breaths_eq {w : Int × Tup (Int × Int)} (h : WebOk w) {b : Str} (hb : b.length = w.1.toNat) {k : Int} (hk : 0 ≤ k ∧ k < w.1) (hd : sgn b k ≠ dot) : Res.bind (m_breaths_of w b k) (fun v => eqD v ([] : List Int)) = .ok (!breathB w b k) := by
  refine Sat.eq (.bind (breaths_is h hb hk hd) fun l hl => ?_)
  rw [eqD_eq]
  refine .ok ?_
  rw [Bool.eq_iff_iff, decide_eq_true_iff, hl, Bool.not_eq_true', ← Bool.not_eq_true, breathB_iff]
theorem chainPL {w : Int × Tup (Int × Int)} (h : WebOk w) {b : Str} (hb : b.length = w.1.toNat) {k : Int} (hk : 0 ≤ k ∧ k < w.1) (hd : sgn b k ≠ dot) : m_chain_of w b k = .ok (PL w (sameS b k) k) := by
  refine Sat.eq ((chainOf w h b hb k hk hd).imp fun l hl => rise_ext hl.1.1 (PL_rise h k).1 fun x => ?_)
  rw [hl.2.2, mem_PL h hk]
theorem othC {z : Str} {c c' : Nat} (hz : z = ⟨#[c]⟩) (hc : (c = 120 ∧ c' = 111) ∨ (c = 111 ∧ c' = 120)) : m_other_hand z = .ok ⟨#[c']⟩ := by
  unfold m_other_hand
  rcases hc with ⟨rfl, rfl⟩ | ⟨rfl, rfl⟩ <;> subst hz <;> rfl
theorem choked_is {w : Int × Tup (Int × Int)} (h : WebOk w) {b : Str} (hb : b.length = w.1.toNat) {z : Str} {c c' : Nat} (hz : z = ⟨#[c]⟩) (hc : (c = 120 ∧ c' = 111) ∨ (c = 111 ∧ c' = 120)) (k : Int) : m_choked w b z k = .ok (chokedL w b c' k) := by
  refine Sat.eq ?_
  unfold m_choked
  have n1 := h.n1
  have n2 := h.n2
  rw [Res.okb, nextTo w h, Res.okb]
  refine .bind (P := fun s : List Int => s.Nodup ∧ ∀ x, x ∈ s ↔ Choked w b c' k x) ((Sat.foldR (fun i (s : List Int) => s.Nodup ∧ ∀ x, x ∈ s ↔ ∃ y ∈ (nextL w k).take i, cpOf b y = c' ∧ ¬ Breathes w b y ∧ x ∈ PL w (sameS b y) y) ⟨.nil, fun x => by simp⟩ fun i s y hy hs => ?_).imp fun s ⟨a, b⟩ => ⟨a, fun x => by rw [b, List.take_length]; exact Iff.rfl⟩) fun s ⟨nd, hm⟩ => .ok ?_
  · obtain ⟨nd, hm⟩ := hs
    have my := List.mem_of_getElem? hy
    have ry := (nextL_rise w (by omega) k).2 y my
    have sub : ∀ x ∈ s, 0 ≤ x ∧ x < w.1 := fun x m => by
      obtain ⟨y', _, _, _, m⟩ := (hm x).mp m
      exact (PL_rise h y').2 x m
    have sl : s.length ≤ w.1.toNat := nodup_len _ nd fun x m => by have := sub x m; omega
    have same : ∀ x, (¬ (cpOf b y = c' ∧ ¬ Breathes w b y) ∨ y ∈ s) → (x ∈ s ↔ ∃ y ∈ (nextL w k).take (i + 1), cpOf b y = c' ∧ ¬ Breathes w b y ∧ x ∈ PL w (sameS b y) y) := fun x hor => by
      rw [hm, List.take_succ, hy]
      constructor
      · rintro ⟨y', m, q⟩
        exact ⟨y', List.mem_append_left _ m, q⟩
      · rintro ⟨y', m, q1, q2, q3⟩
        rcases List.mem_append.mp m with m | m
        · exact ⟨y', m, q1, q2, q3⟩
        · have : y' = y := by simpa using m
          subst this
          rcases hor with hn | hs
          · exact (hn ⟨q1, q2⟩).elim
          · obtain ⟨y2, m2, p1, p2, p3⟩ := (hm _).mp hs
            have r2 := (nextL_rise w (by omega) k).2 y2 (List.mem_of_mem_take m2)
            refine ⟨y2, m2, p1, p2, ?_⟩
            have es : sgn b y' = sgn b y2 := of_decide_eq_true (PL_ok (ok := sameS b y2) h r2 (decide_eq_true rfl) p3)
            have eo : sameS b y' = sameS b y2 := by unfold sameS; rw [es]
            rw [← PL_eq (ok := sameS b y2) h r2 (decide_eq_true rfl) p3, ← eo]
            exact q3
    rw [strIx_sgn (by omega) ry.1 (by omega), othC hz hc]
    simp only [Res.okb, eqSS]
    by_cases hc' : cpOf b y = c'
    · have es : sgn b y = ⟨#[c']⟩ := sgn_eq.mpr hc'
      rw [decide_eq_true es, if_pos rfl]
      have hd : sgn b y ≠ dot := by rw [es, dot_eq]; rcases hc with ⟨_, rfl⟩ | ⟨_, rfl⟩ <;> decide
      by_cases m : y ∈ s
      · simp only [m, decide_true, Bool.not_true, Bool.false_eq_true, if_false, Res.okb]
        exact .ok ⟨nd, fun x => same x (.inr m)⟩
      · simp only [m, decide_false, Bool.not_false, if_true, Res.okb]
        rw [breaths_eq h hb ry hd]
        simp only [Res.okb]
        by_cases hbr : Breathes w b y
        · rw [breathB_iff.mpr hbr]
          simp only [Bool.not_true, Bool.false_eq_true, if_false, Res.okb]
          exact .ok ⟨nd, fun x => same x (.inl fun q => q.2 hbr)⟩
        · have : breathB w b y = false := by rw [← Bool.not_eq_true, breathB_iff]; exact hbr
          rw [this]
          simp only [Bool.not_false, if_true]
          rw [chainPL h hb ry hd]
          simp only [Res.okb]
          have pl := PL_len (ok := sameS b y) h y
          rw [extR_ok (by omega)]
          refine .ok ⟨List.nodup_append.mpr ⟨nd, (PL_rise h y).1.imp fun l e => by omega, fun x mx x' mx' e => ?_⟩, fun x => ?_⟩
          · subst e
            refine m ((hm y).mpr ?_)
            obtain ⟨y2, m2, p1, p2, p3⟩ := (hm x).mp mx
            have r2 := (nextL_rise w (by omega) k).2 y2 (List.mem_of_mem_take m2)
            refine ⟨y2, m2, p1, p2, ?_⟩
            have e1 : sgn b x = sgn b y2 := of_decide_eq_true (PL_ok (ok := sameS b y2) h r2 (decide_eq_true rfl) p3)
            have e2 : sgn b x = sgn b y := of_decide_eq_true (PL_ok (ok := sameS b y) h ry (decide_eq_true rfl) mx')
            have eo : sameS b y = sameS b y2 := by unfold sameS; rw [← e2, e1]
            have q1 := PL_eq (ok := sameS b y2) h r2 (decide_eq_true rfl) p3
            have q2 := PL_eq (ok := sameS b y) h ry (decide_eq_true rfl) mx'
            rw [eo] at q2
            rw [← q1, q2]
            exact PL_self h ry
          · rw [List.mem_append, hm, List.take_succ, hy]
            constructor
            · rintro (⟨y', m, q⟩ | m)
              · exact ⟨y', List.mem_append_left _ m, q⟩
              · exact ⟨y, by simp, hc', hbr, m⟩
            · rintro ⟨y', m, q⟩
              rcases List.mem_append.mp m with m | m
              · exact .inl ⟨y', m, q⟩
              · have : y' = y := by simpa using m
                subst this
                exact .inr q.2.2
    · have es : ¬ sgn b y = ⟨#[c']⟩ := fun e => hc' (sgn_eq.mp e)
      rw [decide_eq_false es, if_neg Bool.false_ne_true]
      simp only [Res.okb, Bool.false_eq_true, if_false]
      exact .ok ⟨nd, fun x => same x (.inl fun q => hc' q.1)⟩
  · refine rise_ext (sortI_rise nd) ((rangeL_rise _).filter _) fun x => ?_
    rw [mem_sortI, hm]
    exact (mem_chokedL h).symm
noncomputable def layR (w : Int × Tup (Int × Int)) (b : Str) (c c' : Nat) (k : Int) (su : Bool) : Res (T3 Str (List Int) (List Int)) :=
  let full := putL b [k] c
  let taken := chokedL w full c' k
  let behind := putL full taken 46
  if breathB w behind k = true then (if behind = b then .exc ⟨PySem.Str.ofString "Still", .no⟩ else .ok ⟨behind, taken, []⟩)
  else if su = true then
    (if putL behind (PL w (sameS behind k) k) 46 = b then .exc ⟨PySem.Str.ofString "Still", .no⟩ else .ok ⟨putL behind (PL w (sameS behind k) k) 46, taken, PL w (sameS behind k) k⟩)
  else .exc ⟨PySem.Str.ofString "Breathless", .no⟩
theorem lay_occ {w : Int × Tup (Int × Int)} (h : WebOk w) {b : Str} (hb : b.length = w.1.toNat) {z : Str} {k : Int} (hk : 0 ≤ k ∧ k < w.1) (su : Bool) (hd : sgn b k ≠ dot) : m_lay w b z k su = .exc ⟨PySem.Str.ofString "Occupied", .no⟩ := by
  unfold m_lay
  have n2 := h.n2
  rw [strIx_sgn (by omega) hk.1 (by omega)]
  simp only [Res.okb, eqSS]
  rw [decide_eq_false hd]; rfl
theorem lay_is {w : Int × Tup (Int × Int)} (h : WebOk w) {b : Str} (hb : b.length = w.1.toNat) {z : Str} {c c' : Nat} (hz : z = ⟨#[c]⟩) (hc : (c = 120 ∧ c' = 111) ∨ (c = 111 ∧ c' = 120)) {k : Int} (hk : 0 ≤ k ∧ k < w.1) (su : Bool) (hd : sgn b k = dot) : m_lay w b z k su = layR w b c c' k su := by
  unfold m_lay layR
  have n1 := h.n1
  have n2 := h.n2
  rw [strIx_sgn (by omega) hk.1 (by omega)]
  simp only [Res.okb, eqSS]
  rw [decide_eq_true hd]
  simp only [Bool.not_true, Bool.false_eq_true, if_false]
  subst hz
  rw [signed_is (by omega) (fun x m => by cases List.mem_singleton.mp m; omega) c, Res.okb]
  have l1 : (putL b [k] c).length = w.1.toNat := (putL_len _ _ _).trans hb
  rw [choked_is h l1 rfl hc, Res.okb]
  have rt : ∀ x ∈ chokedL w (putL b [k] c) c' k, 0 ≤ x ∧ x < w.1 := fun x m => by
    have := mem_rangeL.mp (List.mem_filter.mp m).1
    omega
  rw [show PySem.Str.ofString "." = ⟨#[46]⟩ from dot_eq]
  rw [signed_is (by omega) (fun x m => by have := rt x m; omega) 46]
  simp only [Res.okb]
  have l2 : (putL (putL b [k] c) (chokedL w (putL b [k] c) c' k) 46).length = w.1.toNat := (putL_len _ _ _).trans l1
  have ck : cpOf (putL b [k] c) k = c := by rw [putL_at hk.1 (by omega), if_pos (by simp)]
  have cb : cpOf (putL (putL b [k] c) (chokedL w (putL b [k] c) c' k) 46) k = c := by
    rw [putL_at hk.1 (by omega), if_neg (choked_not h (by omega) ck), ck]
  generalize hbh : putL (putL b [k] c) (chokedL w (putL b [k] c) c' k) 46 = behind at l2 cb
  generalize chokedL w (putL b [k] c) c' k = taken
  have hdk : sgn behind k ≠ dot := fun e => by
    rw [dot_eq] at e
    have := sgn_eq.mp e
    omega
  simp only [Res.bind_assoc]
  have eb := breaths_eq h l2 hk hdk
  rw [← Res.bind_assoc, eb, Res.okb]
  cases hbr : breathB w behind k with
  | true =>
    simp only [Bool.not_true, Bool.false_eq_true, if_false, if_true, Res.okb, eqSS, decide_eq_true_eq]
  | false =>
    simp only [Bool.not_false, Bool.false_eq_true, if_false, if_true]
    cases su with
    | false => rfl
    | true =>
      simp only [Bool.not_true, Bool.false_eq_true, if_false, if_true, Res.okb]
      rw [chainPL h l2 hk hdk, Res.okb, signed_is (by omega) (fun x m => by have := (PL_rise h k).2 x m; omega) 46]
      simp only [Res.okb, eqSS, decide_eq_true_eq]
theorem lchainPL {w : Int × Tup (Int × Int)} (h : WebOk w) {b : Str} (hb : b.length = w.1.toNat) {k : Int} (hk : 0 ≤ k ∧ k < w.1) : m_l_chain (nextsL w) b k = .ok (PL w (sameS b k) k) := by
  refine Sat.eq ((lawChain w h b hb k hk).imp fun l hl => rise_ext hl.1.1 (PL_rise h k).1 fun x => ?_)
  rw [hl.2.2, mem_PL h hk]
theorem lbreaths_eq {w : Int × Tup (Int × Int)} (h : WebOk w) {b : Str} (hb : b.length = w.1.toNat) {k : Int} (hk : 0 ≤ k ∧ k < w.1) : Res.bind (m_l_breaths (nextsL w) b (PL w (sameS b k) k)) (fun v => eqD v ([] : List Int)) = .ok (!breathB w b k) := by
  refine Sat.eq (.bind (lawBreaths w h b hb _ (PL_rise h k).2) fun l hl => ?_)
  rw [eqD_eq]
  refine .ok ?_
  rw [Bool.eq_iff_iff, decide_eq_true_iff, Bool.not_eq_true', ← Bool.not_eq_true, breathB_iff]
  constructor
  · rintro rfl ⟨x, r, y, my, hy⟩
    have := (hl.2.2 y).mpr ⟨⟨x, (mem_PL h hk).mpr r, my⟩, hy⟩
    cases this
  · intro hn
    refine List.eq_nil_iff_forall_not_mem.mpr fun y my => hn ?_
    obtain ⟨⟨x, mx, m⟩, hy⟩ := (hl.2.2 y).mp my
    exact ⟨x, (mem_PL h hk).mp mx, y, m, hy⟩
noncomputable def laidT (w : Int × Tup (Int × Int)) (b : Str) (c c' : Nat) (k : Int) : T3 Str (List Int) (List Int) :=
  let full := putL b [k] c
  let taken := chokedL w full c' k
  let behind := putL full taken 46
  if breathB w behind k = true then ⟨behind, taken, []⟩ else ⟨putL behind (PL w (sameS behind k) k) 46, taken, PL w (sameS behind k) k⟩
theorem putL_perm {b : Str} {s t : List Int} {c : Nat} (e : ∀ x, x ∈ s ↔ x ∈ t) : putL b s c = putL b t c := by
  unfold putL
  have : (fun k => if k ∈ s then c else cpOf b k) = fun k => if k ∈ t then c else cpOf b k := funext fun k => by
    by_cases m : k ∈ s
    · rw [if_pos m, if_pos ((e k).mp m)]
    · rw [if_neg m, if_neg fun q => m ((e k).mpr q)]
  rw [this]
theorem laidT_len {w : Int × Tup (Int × Int)} {b : Str} (hb : b.length = w.1.toNat) {c c' : Nat} {k : Int} : (laidT w b c c' k).a.length = w.1.toNat := by
  unfold laidT
  dsimp only
  split
  · show (putL _ _ _).length = _
    rw [putL_len, putL_len]; exact hb
  · show (putL _ _ _).length = _
    rw [putL_len, putL_len, putL_len]; exact hb
theorem laidT_b {w : Int × Tup (Int × Int)} {b : Str} {c c' : Nat} {k : Int} : (laidT w b c c' k).b = chokedL w (putL b [k] c) c' k := by
  unfold laidT
  dsimp only
  split <;> rfl
noncomputable def mayB (w : Int × Tup (Int × Int)) (b : Str) (c c' : Nat) (k : Int) (su : Bool) : Bool := decide (sgn b k = dot) && (su || decide ((laidT w b c c' k).c = [])) && !decide ((laidT w b c c' k).a = b)
theorem choke_fold {w : Int × Tup (Int × Int)} (h : WebOk w) {b : Str} {c' : Nat} (k : Int) {f : List Int → Int → Res (List Int)}
    (hf : ∀ (s : List Int) (y : Int), y ∈ nextL w k → s.length ≤ 40 → f s y = .ok (if cpOf b y = c' ∧ y ∉ s ∧ breathB w b y = false then s ++ PL w (sameS b y) y else s)) :
    Sat (foldR f [] (nextL w k)) (fun s => s.Nodup ∧ s.length ≤ 40 ∧ ∀ x, x ∈ s ↔ Choked w b c' k x) := by
  have n1 := h.n1
  have n2 := h.n2
  refine (Sat.foldR (fun i (s : List Int) => s.Nodup ∧ ∀ x, x ∈ s ↔ ∃ y ∈ (nextL w k).take i, cpOf b y = c' ∧ ¬ Breathes w b y ∧ x ∈ PL w (sameS b y) y) ⟨.nil, fun x => by simp⟩ fun i s y hy hs => ?_).imp fun s ⟨a, b⟩ => ?_
  · obtain ⟨nd, hm⟩ := hs
    have my := List.mem_of_getElem? hy
    have ry := (nextL_rise w (by omega) k).2 y my
    have sub : ∀ x ∈ s, 0 ≤ x ∧ x < w.1 := fun x m => by
      obtain ⟨y', _, _, _, m⟩ := (hm x).mp m
      exact (PL_rise h y').2 x m
    have sl : s.length ≤ w.1.toNat := nodup_len _ nd fun x m => by have := sub x m; omega
    rw [hf s y my (by omega)]
    have back : ∀ {y' x : Int}, y' ∈ (nextL w k).take i → x ∈ PL w (sameS b y') y' → x ∈ PL w (sameS b y) y → PL w (sameS b y') y' = PL w (sameS b y) y := fun {y' x} m2 p3 mx' => by
      have r2 := (nextL_rise w (by omega) k).2 y' (List.mem_of_mem_take m2)
      have e1 : sgn b x = sgn b y' := of_decide_eq_true (PL_ok (ok := sameS b y') h r2 (decide_eq_true rfl) p3)
      have e2 : sgn b x = sgn b y := of_decide_eq_true (PL_ok (ok := sameS b y) h ry (decide_eq_true rfl) mx')
      have eo : sameS b y = sameS b y' := by unfold sameS; rw [← e2, e1]
      have q1 := PL_eq (ok := sameS b y') h r2 (decide_eq_true rfl) p3
      have q2 := PL_eq (ok := sameS b y) h ry (decide_eq_true rfl) mx'
      rw [← q1, ← q2, eo]
    by_cases hc : cpOf b y = c' ∧ y ∉ s ∧ breathB w b y = false
    · rw [if_pos hc]
      have hnb : ¬ Breathes w b y := fun q => by rw [breathB_iff.mpr q] at hc; cases hc.2.2
      refine .ok ⟨List.nodup_append.mpr ⟨nd, (PL_rise h y).1.imp fun l e => by omega, fun x mx x' mx' e => ?_⟩, fun x => ?_⟩
      · subst e
        refine hc.2.1 ((hm y).mpr ?_)
        obtain ⟨y2, m2, p1, p2, p3⟩ := (hm x).mp mx
        refine ⟨y2, m2, p1, p2, ?_⟩
        rw [back m2 p3 mx']
        exact PL_self h ry
      · rw [List.mem_append, hm, List.take_succ, hy]
        constructor
        · rintro (⟨y', m, q⟩ | m)
          · exact ⟨y', List.mem_append_left _ m, q⟩
          · exact ⟨y, by simp, hc.1, hnb, m⟩
        · rintro ⟨y', m, q⟩
          rcases List.mem_append.mp m with m | m
          · exact .inl ⟨y', m, q⟩
          · have : y' = y := by simpa using m
            subst this
            exact .inr q.2.2
    · rw [if_neg hc]
      refine .ok ⟨nd, fun x => ?_⟩
      rw [hm, List.take_succ, hy]
      constructor
      · rintro ⟨y', m, q⟩
        exact ⟨y', List.mem_append_left _ m, q⟩
      · rintro ⟨y', m, q1, q2, q3⟩
        rcases List.mem_append.mp m with m | m
        · exact ⟨y', m, q1, q2, q3⟩
        · have : y' = y := by simpa using m
          subst this
          by_cases ms : y' ∈ s
          · obtain ⟨y2, m2, p1, p2, p3⟩ := (hm _).mp ms
            refine ⟨y2, m2, p1, p2, ?_⟩
            rw [back m2 p3 (PL_self h ry)]
            exact q3
          · refine (hc ⟨q1, ms, ?_⟩).elim
            rw [← Bool.not_eq_true, breathB_iff]; exact q2
  · have hm : ∀ x, x ∈ s ↔ Choked w _ c' k x := fun x => by rw [b, List.take_length]; exact Iff.rfl
    refine ⟨a, ?_, hm⟩
    have := nodup_len w.1.toNat a fun x m => by
      obtain ⟨y', _, _, _, m⟩ := (hm x).mp m
      have := (PL_rise h y').2 x m
      omega
    omega
theorem laid_is {w : Int × Tup (Int × Int)} (h : WebOk w) {b : Str} (hb : b.length = w.1.toNat) (ho : signOk b) {z : Str} {c c' : Nat} (hz : z = ⟨#[c]⟩) (hc : (c = 120 ∧ c' = 111) ∨ (c = 111 ∧ c' = 120)) {k : Int} (hk : 0 ≤ k ∧ k < w.1) : m_l_laid (nextsL w) b z k = .ok (laidT w b c c' k) := by
  refine Sat.eq ?_
  unfold m_l_laid
  have n1 := h.n1
  have n2 := h.n2
  subst hz
  rw [put_is (by omega)]
  simp only [Res.okb]
  have l1 : (putL b [k] c).length = w.1.toNat := (putL_len _ _ _).trans hb
  have ok1 : signOk (putL b [k] c) := putL_ok ho _ (by omega)
  have ei : idx (nextsL w) k = .ok (nextL w k) := by unfold nextsL; exact idx_rangeMap hk.1 (by omega)
  rw [ei, Res.okb]
  refine .bind (choke_fold h (b := putL b [k] c) (c' := c') k fun s y my sl => ?_) fun s ⟨nd, sl, hm⟩ => ?_
  · have ry := (nextL_rise w (by omega) k).2 y my
    rw [strIx_sgn (by omega) ry.1 (by omega)]
    simp only [Res.okb]
    have hin : (sgn (putL b [k] c) y ∈ [(⟨#[c]⟩ : Str), PySem.Str.ofString "."]) ↔ ¬ cpOf (putL b [k] c) y = c' := by
      rw [show PySem.Str.ofString "." = ⟨#[46]⟩ from dot_eq]
      simp only [List.mem_cons, List.not_mem_nil, or_false, sgn_eq]
      have := signOk_at ok1 ry.1 (by omega)
      omega
    by_cases hcc : cpOf (putL b [k] c) y = c'
    · have hn : ¬ sgn (putL b [k] c) y ∈ [(⟨#[c]⟩ : Str), PySem.Str.ofString "."] := fun q => hin.mp q hcc
      simp only [hn, decide_false, Bool.not_false, if_true, Res.okb]
      by_cases ms : y ∈ s
      · simp only [ms, decide_true, Bool.not_true, Bool.false_eq_true, if_false, Res.okb, not_true_eq_false, false_and, and_false]
      · simp only [ms, decide_false, Bool.not_false, if_true, Res.okb]
        rw [lchainPL h l1 ry]
        simp only [Res.okb]
        rw [lbreaths_eq h l1 ry]
        simp only [Res.okb]
        have pl := PL_len (ok := sameS (putL b [k] c) y) h y
        cases hbr : breathB w (putL b [k] c) y with
        | true => simp [hcc, ms]
        | false =>
          simp only [Bool.not_false, if_true, hcc, ms, not_false_eq_true, and_self]
          rw [extR_ok (by omega)]; rfl
    · have hy : sgn (putL b [k] c) y ∈ [(⟨#[c]⟩ : Str), PySem.Str.ofString "."] := hin.mpr hcc
      simp only [hy, decide_true, Bool.not_true, Bool.false_eq_true, if_false, Res.okb, hcc, false_and]
  · have es : sortI s = chokedL w (putL b [k] c) c' k := rise_ext (sortI_rise nd) ((rangeL_rise _).filter _) fun x => by
      rw [mem_sortI, hm]
      exact (mem_chokedL h).symm
    have ep : putL (putL b [k] c) s 46 = putL (putL b [k] c) (chokedL w (putL b [k] c) c' k) 46 := putL_perm fun x => by rw [hm]; exact (mem_chokedL h).symm
    rw [show PySem.Str.ofString "." = ⟨#[46]⟩ from dot_eq, put_is (by omega), ep, es]
    simp only [Res.okb]
    unfold laidT
    have l2 : (putL (putL b [k] c) (chokedL w (putL b [k] c) c' k) 46).length = w.1.toNat := (putL_len _ _ _).trans l1
    rw [lchainPL h l2 hk]
    simp only [Res.okb]
    rw [lbreaths_eq h l2 hk]
    simp only [Res.okb]
    cases hbr : breathB w (putL (putL b [k] c) (chokedL w (putL b [k] c) c' k) 46) k with
    | true =>
      simp only [Bool.not_true, Bool.false_eq_true, if_false, if_true, Res.okb]
      rw [put_is (by omega), putL_nil]
      exact .ok rfl
    | false =>
      simp only [Bool.not_false, Bool.false_eq_true, if_false, if_true, Res.okb]
      rw [put_is (by omega)]
      exact .ok rfl
theorem lay_laid {w : Int × Tup (Int × Int)} (h : WebOk w) {b : Str} {c c' : Nat} {k : Int} (hk : 0 ≤ k ∧ k < w.1) {su : Bool} : layR w b c c' k su = if (laidT w b c c' k).c ≠ [] ∧ su = false then .exc ⟨PySem.Str.ofString "Breathless", .no⟩ else if (laidT w b c c' k).a = b then .exc ⟨PySem.Str.ofString "Still", .no⟩ else .ok (laidT w b c c' k) := by
  unfold layR laidT
  dsimp only
  by_cases hbr : breathB w (putL (putL b [k] c) (chokedL w (putL b [k] c) c' k) 46) k = true
  · simp only [hbr, if_true]
    simp
  · have hne : PL w (sameS (putL (putL b [k] c) (chokedL w (putL b [k] c) c' k) 46) k) k ≠ [] := fun e => by
      have := PL_self (ok := sameS (putL (putL b [k] c) (chokedL w (putL b [k] c) c' k) 46) k) h hk
      rw [e] at this; cases this
    simp only [hbr, if_false, Bool.false_eq_true]
    cases su <;> simp [hne]
structure FSok (n : Int) (fs : List (List Int)) : Prop where
  two : 2 ≤ fs.length
  five : fs.length ≤ 5
  ne : ∀ f ∈ fs, f ≠ []
  up : ∀ f ∈ fs, f.Pairwise (· < ·)
  rng : ∀ f ∈ fs, ∀ k ∈ f, 0 ≤ k ∧ k < n
  dj : fs.Pairwise fun f g => ∀ k ∈ f, k ∉ g
def own (fs : List (List Int)) (k : Int) : Option Int := (fs.findIdx? fun f => decide (k ∈ f)).map Int.ofNat
theorem own_lt {fs : List (List Int)} {k a : Int} (h : own fs k = some a) : 0 ≤ a ∧ a < fs.length ∧ ∃ f, fs[a.toNat]? = some f ∧ k ∈ f := by
  unfold own at h
  obtain ⟨j, e, rfl⟩ := Option.map_eq_some_iff.mp h
  obtain ⟨h1, h2, h3⟩ := List.findIdx?_eq_some_iff_getElem.mp e
  refine ⟨Int.natCast_nonneg j, by show (j : Int) < _; omega, fs[j], ?_, by simpa using h2⟩
  show fs[(j : Int).toNat]? = _
  rw [Int.toNat_natCast, List.getElem?_eq_getElem h1]
theorem own_none {fs : List (List Int)} {k : Int} : own fs k = none ↔ ∀ f ∈ fs, k ∉ f := by
  unfold own
  rw [Option.map_eq_none_iff, List.findIdx?_eq_none_iff]
  constructor
  · intro h f m; simpa using h f m
  · intro h f m; simpa using h f m
theorem own_at {fs : List (List Int)} (dj : fs.Pairwise fun f g => ∀ k ∈ f, k ∉ g) {j : Nat} {f : List Int} (hj : fs[j]? = some f) {k : Int} (m : k ∈ f) : own fs k = some (j : Int) := by
  have hl := List.getElem?_eq_some_iff.mp hj
  cases e : own fs k with
  | none => exact absurd m (own_none.mp e f (List.mem_of_getElem? hj))
  | some a =>
    obtain ⟨a0, a1, g, eg, mg⟩ := own_lt e
    have hg := List.getElem?_eq_some_iff.mp eg
    rcases Nat.lt_trichotomy a.toNat j with q | q | q
    · have := List.pairwise_iff_getElem.mp dj a.toNat j hg.1 hl.1 q k (by rw [hg.2]; exact mg)
      rw [hl.2] at this
      exact absurd m this
    · congr 1; omega
    · have := List.pairwise_iff_getElem.mp dj j a.toNat hl.1 hg.1 q k (by rw [hl.2]; exact m)
      rw [hg.2] at this
      exact absurd mg this
def surr (w : Int × Tup (Int × Int)) (b : Str) (d : Dic Int Int) : Ob "Surroundings" FlT_Surroundings := ⟨((((), w), b), d)⟩
theorem own_snoc {fs : List (List Int)} {f : List Int} {k : Int} : own (fs ++ [f]) k = (match own fs k with | some a => some a | none => if k ∈ f then some (fs.length : Int) else none) := by
  unfold own
  rw [List.findIdx?_append]
  cases e : fs.findIdx? fun f => decide (k ∈ f) with
  | some j => rfl
  | none =>
    rw [List.findIdx?_cons]
    by_cases q : k ∈ f
    · rw [decide_eq_true q, if_pos q]; simp
    · rw [decide_eq_false q, if_neg q]; simp
theorem surr_init {w : Int × Tup (Int × Int)} {b : Str} {fs : List (List Int)} {n : Int} (h : FSok n fs) (hn : n ≤ 40) : ∃ d : Dic Int Int, m_Surroundings___init__ w b fs = .ok (surr w b d).v ∧ ∀ k, dget d k = own fs k := by
  have hs : Sat (m_Surroundings___init__ w b fs) (fun v => ∃ d : Dic Int Int, v = (surr w b d).v ∧ ∀ k, dget d k = own fs k) := by
    unfold m_Surroundings___init__
    simp only [Res.okb]
    have ll : (enumL fs).length = fs.length := enumL_len fs
    have h5 := h.five
    refine .bind (P := fun s => ∃ d : Dic Int Int, s = surr w b d ∧ ∀ k, dget d k = own fs k) ((Sat.foldR (fun i s => ∃ d : Dic Int Int, s = surr w b d ∧ (∀ k, dget d k = own (fs.take i) k) ∧ d.l.length ≤ 100 * i) ⟨⟨[]⟩, rfl, fun k => rfl, Nat.zero_le _⟩ fun i s a ha hi => ?_).imp fun s ⟨d, e, q, _⟩ => ⟨d, e, fun k => by rw [q k, ll, List.take_length]⟩) fun s ⟨d, e, q⟩ => .ok ⟨d, by rw [e], q⟩
    obtain ⟨d, rfl, hd, hl⟩ := hi
    obtain ⟨ea, ef⟩ : a.1 = (i : Int) ∧ fs[i]? = some a.2 := by
      unfold enumL at ha
      rw [List.getElem?_mapIdx] at ha
      obtain ⟨x, e1, e2⟩ := Option.map_eq_some_iff.mp ha
      exact ⟨by rw [← e2], by rw [e1, ← e2]⟩
    have il := (List.getElem?_eq_some_iff.mp ef).1
    have mf := List.mem_of_getElem? ef
    have fl : a.2.length ≤ 40 := by
      have := nodup_len n.toNat ((h.up a.2 mf).imp fun h => Int.ne_of_lt h) (fun k m => by have := h.rng a.2 mf k m; omega)
      omega
    have tk : fs.take (i + 1) = fs.take i ++ [a.2] := by rw [List.take_succ, ef]; rfl
    have lt : (fs.take i).length = i := by rw [List.length_take]; omega
    refine .bind (P := fun s => ∃ d : Dic Int Int, s = surr w b d ∧ (∀ k, dget d k = own (fs.take (i + 1)) k) ∧ d.l.length ≤ 100 * (i + 1)) ((Sat.foldR (fun j s => ∃ d : Dic Int Int, s = surr w b d ∧ (∀ k, dget d k = if k ∈ a.2.take j then some (i : Int) else own (fs.take i) k) ∧ d.l.length ≤ 100 * i + j) ⟨d, rfl, fun k => by rw [List.take_zero]; exact (hd k).trans (by simp), hl⟩ fun j s x hx hj => ?_).imp fun s ⟨d2, e, q1, q2⟩ => ⟨d2, e, fun k => ?_, by omega⟩) fun s q => .ok q
    · obtain ⟨d2, rfl, q1, q2⟩ := hj
      have jl := (List.getElem?_eq_some_iff.mp hx).1
      have tj : a.2.take (j + 1) = a.2.take j ++ [x] := by rw [List.take_succ, hx]; rfl
      show Sat (Res.bind (Res.bind (dputR d2 x a.1) _) _) _
      rw [dputR_ok (by omega)]
      simp only [Res.okb]
      refine .ok ⟨dput d2 x a.1, rfl, fun k => ?_, ?_⟩
      · rw [dget_put, tj]
        by_cases e : k = x
        · rw [if_pos e, if_pos (List.mem_append_right _ (List.mem_singleton.mpr e)), ea]
        · rw [if_neg e, q1 k]
          by_cases e2 : k ∈ a.2.take j
          · rw [if_pos e2, if_pos (List.mem_append_left _ e2)]
          · rw [if_neg e2, if_neg (fun m => by
              rcases List.mem_append.mp m with m | m
              · exact e2 m
              · exact e (List.mem_singleton.mp m))]
      · show (dput d2 x a.1).l.length ≤ _
        unfold dput
        dsimp only
        split
        · rw [List.length_map]; omega
        · rw [List.length_append, List.length_singleton]; omega
    · rw [q1 k, List.take_length, tk, own_snoc, lt]
      by_cases e : k ∈ a.2
      · rw [if_pos e]
        have : own (fs.take i) k = none := by
          rw [own_none]
          intro g mg hk
          obtain ⟨jj, hj, ej⟩ := List.mem_iff_getElem.mp mg
          rw [List.length_take] at hj
          rw [List.getElem_take] at ej
          have := List.pairwise_iff_getElem.mp h.dj jj i (by omega) il (by omega) k (by rw [ej]; exact hk)
          rw [(List.getElem?_eq_some_iff.mp ef).2] at this
          exact this e
        rw [this, if_pos e]
      · rw [if_neg e]
        cases own (fs.take i) k with
        | some a => rfl
        | none => rw [if_neg e]
  obtain ⟨v, e, d, e2, q⟩ := hs
  exact ⟨d, by rw [e, e2], q⟩

theorem loop_find {L α R : Type} {f : Unit → α → Res (Out Unit Unit R)} {g : α → Option R} : ∀ {xs : List α}, (∀ a ∈ xs, f () a = .ok (match g a with | some r => .rt r | none => .nx ())) → loopO (L := L) f () xs = .ok (match xs.findSome? g with | some r => .rt r | none => .nx ())
  | [], _ => rfl
  | a :: xs, h => by
    have i := loop_find (L := L) (f := f) (g := g) (xs := xs) fun x m => h x (List.mem_cons_of_mem _ m)
    unfold loopO
    rw [h a List.mem_cons_self, List.findSome?_cons]
    cases g a with
    | some r => rfl
    | none => exact i
section
variable {w : Int × Tup (Int × Int)} {b : Str} {fs : List (List Int)} {d : Dic Int Int}
theorem dhas_own (hd : ∀ k, dget d k = own fs k) (k : Int) : dhas d k = (own fs k).isSome := by rw [← dget_isSome, hd]
def outB (b : Str) (fs : List (List Int)) (z : Str) (k : Int) : Bool := decide (sgn b k = z) && (own fs k).isNone
theorem outside_is (h : WebOk w) (hb : b.length = w.1.toNat) (hd : ∀ k, dget d k = own fs k) (z : Str) : m_Surroundings_outside (surr w b d) z = .ok ((rangeL 0 w.1.toNat).filter (outB b fs z)) := by
  have n1 := h.n1
  have n2 := h.n2
  unfold m_Surroundings_outside
  show Res.bind (guardR (small62 w.1) _) _ = _
  rw [guardR_of (show small62 w.1 = true from by unfold small62; simp; omega)]
  simp only [Res.okb]
  unfold lcT
  rw [show rangeL 0 ((surr w b d).v.1.1.2).1.toNat = rangeL 0 w.1.toNat from rfl, decide_eq_true (by rw [rangeL_len]; omega)]
  show lcR _ _ (rangeL 0 w.1.toNat) = _
  rw [lcR_filter (p' := outB b fs z) (g' := fun k => k) (fun k m => ?_) fun _ _ _ => rfl, List.map_id']
  have hk := mem_rangeL.mp m
  show Res.bind (Res.bind (strIx b k) _) _ = _
  rw [strIx_sgn (by omega) (by omega) (by omega)]
  simp only [Res.okb]
  unfold outB
  by_cases e : sgn b k = z
  · rw [show ScaEq.eq (sgn b k) z = true from decide_eq_true e, decide_eq_true e]
    simp only [if_true, Bool.true_and]
    show Res.ok (!dhas d k) = _
    rw [dhas_own hd]
    cases own fs k <;> rfl
  · rw [show ScaEq.eq (sgn b k) z = false from decide_eq_false e, decide_eq_false e]
    simp
theorem pieces_out (h : WebOk w) (hb : b.length = w.1.toNat) (hd : ∀ k, dget d k = own fs k) (z : Str) : m_pieces w ((rangeL 0 w.1.toNat).filter (outB b fs z)) = .ok (G.PS w (outB b fs z)) := by
  have n2 := h.n2
  rw [pieces_are w h _ (by have := List.length_filter_le (outB b fs z) (rangeL 0 w.1.toNat); rw [rangeL_len] at this; omega)]
  congr 1
  refine PS_congr h fun x x0 x1 => ?_
  cases e : outB b fs z x with
  | true => exact decide_eq_true (List.mem_filter.mpr ⟨mem_rangeL.mpr ⟨by omega, by omega⟩, e⟩)
  | false => exact decide_eq_false fun m => by rw [(List.mem_filter.mp m).2] at e; cases e
def touchL (w : Int × Tup (Int × Int)) (fs : List (List Int)) (p : List Int) : List Int := p.flatMap fun k => (nextL w k).filterMap (own fs)
def badB (b : Str) (fs : List (List Int)) (o : Int) : Bool := decide (sgn b o = dot) && (own fs o).isNone
def shakyB (w : Int × Tup (Int × Int)) (b : Str) (fs : List (List Int)) (p : List Int) : Bool := p.all fun k => (nextL w k).all fun o => !badB b fs o
def tiedB (w : Int × Tup (Int × Int)) (p q : List Int) : Bool := p.any fun k => (nextL w k).any fun o => decide (o ∈ q)
theorem find_all {α : Type} (q : α → Bool) (r : Bool) : ∀ l : List α, l.findSome? (fun a => if q a = true then some r else none) = if l.all (fun a => !q a) = true then none else some r
  | [] => rfl
  | a :: l => by
    rw [List.findSome?_cons, List.all_cons]
    cases e : q a with
    | true => rfl
    | false =>
      simp only [Bool.false_eq_true, if_false, Bool.not_false, Bool.true_and]
      exact find_all q r l
theorem shaky_is (h : WebOk w) (hb : b.length = w.1.toNat) (hd : ∀ k, dget d k = own fs k) (p : List Int) : m_Surroundings_is_shaky (surr w b d) p = .ok (shakyB w b fs p) := by
  have n2 := h.n2
  unfold m_Surroundings_is_shaky
  rw [loop_find (g := fun k => if (!(nextL w k).all fun o => !badB b fs o) = true then some false else none) fun k _ => ?_]
  · rw [find_all]
    unfold shakyB
    simp only [Bool.not_not]
    cases e : p.all fun k => (nextL w k).all fun o => !badB b fs o with
    | true => rfl
    | false => rfl
  · show Res.next (Res.bind (m_next_to w k) _) _ = _
    rw [nextTo w h k]
    simp only [Res.okb]
    rw [loop_find (g := fun o => if badB b fs o = true then some false else none) fun o mo => ?_]
    · rw [find_all]
      cases e : (nextL w k).all fun o => !badB b fs o with
      | true => rfl
      | false => rfl
    · have n1 := h.n1
      have ho := (nextL_rise w (by omega) k).2 o mo
      show Res.next (Res.bind (Res.bind (Res.bind (strIx b o) _) _) _) _ = _
      rw [strIx_sgn (by omega) (by omega) (by omega)]
      simp only [Res.okb]
      unfold badB
      by_cases e : sgn b o = dot
      · rw [show ScaEq.eq (sgn b o) (PySem.Str.ofString ".") = true from decide_eq_true e, decide_eq_true e]
        simp only [if_true, Bool.true_and]
        show Res.next (Res.bind (Res.ok (!dhas d o)) _) _ = _
        rw [dhas_own hd]
        cases own fs o <;> rfl
      · rw [show ScaEq.eq (sgn b o) (PySem.Str.ofString ".") = false from decide_eq_false e, decide_eq_false e]
        rfl
theorem tied_is (h : WebOk w) (p q : List Int) : m_Surroundings_are_tied (surr w b d) p q = .ok (tiedB w p q) := by
  unfold m_Surroundings_are_tied
  rw [loop_find (g := fun k => if ((nextL w k).any fun o => decide (o ∈ q)) = true then some true else none) fun k _ => ?_]
  · rw [find_all]
    unfold tiedB
    rw [List.any_eq_not_all_not]
    cases e : p.all fun k => !(nextL w k).any fun o => decide (o ∈ q) with
    | true => rfl
    | false => rfl
  · show Res.next (Res.bind (Res.bind (Res.bind (m_next_to w k) _) _) _) _ = _
    rw [nextTo w h k]
    simp only [Res.okb]
    have e1 : lcT (fun a3 : Int => (Res.ok (decide (a3 ∈ q)) : Res Bool)) (fun a3 => (Res.ok a3)) (nextL w k) = .ok ((nextL w k).filter fun o => decide (o ∈ q)) := by
      have := nextL_len w h k
      unfold lcT
      rw [decide_eq_true (by omega)]
      show lcR _ _ (nextL w k) = _
      rw [lcR_filter (p' := fun o => decide (o ∈ q)) (g' := fun o => o) (fun _ _ => rfl) fun _ _ _ => rfl, List.map_id']
    rw [e1]
    simp only [Res.okb]
    rw [neD_eq]
    simp only [Res.okb]
    cases e : (nextL w k).any fun o => decide (o ∈ q) with
    | true =>
      rw [decide_eq_false fun z => by
        obtain ⟨x, m, hx⟩ := List.any_eq_true.mp e
        have : x ∈ ([] : List Int) := z ▸ List.mem_filter.mpr ⟨m, hx⟩
        cases this]
      rfl
    | false =>
      rw [decide_eq_true (List.filter_eq_nil_iff.mpr fun x m hx => by
        have := List.any_eq_false.mp e x m
        exact this hx)]
      rfl
theorem touched_is (h : WebOk w) (hd : ∀ k, dget d k = own fs k) {p : List Int} (hl : p.length ≤ 40) : m_Surroundings_touched (surr w b d) p = guardR (decide ((touchL w fs p).length < 60)) (.ok (setI' (touchL w fs p))) := by
  have go : foldR (fun (s2 : (List Int)) (a3 : Int) => (Res.bind (Res.bind (Res.bind (m_next_to (surr w b d).v.1.1.2 a3) fun v6 => (lcT (fun a5 => (Res.ok (dhas (surr w b d).v.2 a5))) (fun a5 => (unw (dget (surr w b d).v.2 a5))) v6)) fun v7 => (extR s2 v7)) fun found4 => (Res.ok found4))) [] p = .ok (touchL w fs p) := by
    refine Sat.eq ((Sat.foldR (fun i s => s = touchL w fs (p.take i) ∧ s.length ≤ 40 * i) ⟨rfl, Nat.zero_le _⟩ fun i s a ha hi => ?_).imp fun s e => by rw [e.1, List.take_length])
    obtain ⟨rfl, hi⟩ := hi
    have il := (List.getElem?_eq_some_iff.mp ha).1
    show Sat (Res.bind (Res.bind (Res.bind (m_next_to w a) _) _) _) _
    rw [nextTo w h a]
    simp only [Res.okb]
    have nl := nextL_len w h a
    have e1 : lcT (fun a5 : Int => (Res.ok (dhas d a5) : Res Bool)) (fun a5 => (unw (dget d a5))) (nextL w a) = .ok ((nextL w a).filterMap (own fs)) := by
      unfold lcT
      rw [decide_eq_true (by omega)]
      show lcR _ _ (nextL w a) = _
      rw [lcR_filter (p' := fun o => (own fs o).isSome) (g' := fun o => (own fs o).getD 0) (fun o _ => by rw [dhas_own hd]) fun o _ e => by
        rw [hd]
        cases q : own fs o with
        | none => rw [q] at e; cases e
        | some a => rfl]
      congr 1
      generalize nextL w a = l
      induction l with
      | nil => rfl
      | cons x l ih =>
        cases q : own fs x with
        | none => rw [List.filter_cons_of_neg (by rw [q]; simp), List.filterMap_cons_none q]; exact ih
        | some y => rw [List.filter_cons_of_pos (by rw [q]; rfl), List.filterMap_cons_some q, List.map_cons, ih, q]; rfl
    show Sat (Res.bind (Res.bind (lcT (fun a5 : Int => (Res.ok (dhas d a5) : Res Bool)) (fun a5 => (unw (dget d a5))) (nextL w a)) _) _) _
    rw [e1]
    simp only [Res.okb]
    have fl := List.length_filterMap_le (own fs) (nextL w a)
    rw [extR_ok (by omega)]
    have tk : p.take (i + 1) = p.take i ++ [a] := by rw [List.take_succ, ha]; rfl
    refine .ok ⟨?_, by rw [List.length_append]; omega⟩
    rw [tk]
    unfold touchL
    rw [List.flatMap_append]
    simp
  unfold m_Surroundings_touched
  simp only [Res.okb]
  rw [go]
  rfl
end
def sortLL (xs : List (List Int)) : List (List Int) := xs.mergeSort fun p q => decide (p ≤ q)
theorem sortLL_perm (xs : List (List Int)) : (sortLL xs).Perm xs := List.mergeSort_perm _ _
theorem leLL_trans (a b c : List Int) (h1 : decide (a ≤ b) = true) (h2 : decide (b ≤ c) = true) : decide (a ≤ c) = true := decide_eq_true (List.le_trans (of_decide_eq_true h1) (of_decide_eq_true h2))
theorem leLL_total (a b : List Int) : (decide (a ≤ b) || decide (b ≤ a)) = true := by
  rcases List.le_total a b with h | h
  · rw [decide_eq_true h]; rfl
  · rw [decide_eq_true h]; exact Bool.or_true _
theorem sortLL_pw (xs : List (List Int)) : (sortLL xs).Pairwise (· ≤ ·) := (List.pairwise_mergeSort (le := fun p q : List Int => decide (p ≤ q)) leLL_trans leLL_total xs).imp fun h => of_decide_eq_true h
theorem sortLL_ext {xs ys : List (List Int)} (h : xs.Perm ys) : sortLL xs = sortLL ys :=
  List.Perm.eq_of_pairwise (le := (· ≤ ·)) (fun _ _ _ _ a b => List.le_antisymm a b) (sortLL_pw xs) (sortLL_pw ys) ((sortLL_perm xs).trans (h.trans (sortLL_perm ys).symm))
theorem sortLL_self {xs : List (List Int)} (h : xs.Pairwise (· ≤ ·)) : sortLL xs = xs :=
  List.Perm.eq_of_pairwise (le := (· ≤ ·)) (fun _ _ _ _ a b => List.le_antisymm a b) (sortLL_pw xs) h (sortLL_perm xs)
theorem alike_ints : ∀ a b : List Int, PySem.W.alikeAll (a.map .int) (b.map .int) = true
  | [], _ => by simp [PySem.W.alikeAll]
  | _ :: _, [] => by simp [PySem.W.alikeAll]
  | x :: a, y :: b => by
    show (PySem.W.alike (.int x) (.int y) && PySem.W.alikeAll (a.map .int) (b.map .int)) = true
    rw [alike_ints a b]
    simp [PySem.W.alike]
theorem sortD_rows (xs : List (List Int)) : sortD xs = .ok (sortLL xs) := by
  unfold sortD
  have h1 : xs.all (Kpy.fit : List Int → Bool) = true := List.all_eq_true.mpr fun x _ => rfl
  have h2 : srtB (xs.map Kpy.py) = true := by
    unfold srtB
    refine Bool.and_eq_true_iff.mpr ⟨List.all_eq_true.mpr fun a ma => List.all_eq_true.mpr fun b mb => ?_, Bool.or_eq_true_iff.mpr (.inr (List.all_eq_true.mpr fun a ma => ?_))⟩
    · obtain ⟨x, _, rfl⟩ := List.mem_map.mp ma
      obtain ⟨y, _, rfl⟩ := List.mem_map.mp mb
      show PySem.W.alike (.list (x.map .int)) (.list (y.map .int)) = true
      unfold PySem.W.alike
      exact alike_ints x y
    · obtain ⟨x, _, rfl⟩ := List.mem_map.mp ma
      rfl
  rw [h1, h2]
  show Res.ok (srtD xs) = _
  unfold srtD sortLL
  have e : (fun a : List Int => (Kpy.py a : PyData)) = fun b => .list ((fun z : List Int => z) b |>.map .int) := rfl
  rw [e, PySem.W.dataLe_rows]
theorem heads_lt {l : List Int} {F : Int → List Int} (h : l.Pairwise (· < ·)) (hf : ∀ k ∈ l, (F k)[0]? = some k) : (l.map F).Pairwise (· < ·) := by
  rw [List.pairwise_map]
  refine h.imp_of_mem fun {a b} ma mb hab => ?_
  have ea := hf a ma
  have eb := hf b mb
  cases ha : F a with
  | nil => rw [ha] at ea; cases ea
  | cons x xs =>
    cases hb : F b with
    | nil => rw [hb] at eb; cases eb
    | cons y ys =>
      rw [ha] at ea; rw [hb] at eb
      cases ea; cases eb
      exact List.cons_lt_cons_iff.mpr (.inl hab)
theorem ll_le {a b : List Int} (h : a < b) : a ≤ b := fun z => (List.lt_irrefl a) (List.lt_trans h z)
theorem PS_lt {w : Int × Tup (Int × Int)} (h : WebOk w) (ok : Int → Bool) : (G.PS w ok).Pairwise (· < ·) := by
  have n1 := h.n1
  refine heads_lt ((rangeL_rise _).filter _) fun k m => ?_
  have := mem_reps.mp m
  exact PL_head h (by omega) this.2
theorem lt_nodup {l : List (List Int)} (h : l.Pairwise (· < ·)) : l.Nodup := by
  show l.Pairwise (· ≠ ·)
  exact List.Pairwise.imp (S := fun a b : List Int => a ≠ b) (fun {a b} z e => by subst e; exact List.lt_irrefl a z) h
def xZ : Str := ⟨#[120]⟩
def oZ : Str := ⟨#[111]⟩
def OB (b : Str) (fs : List (List Int)) : Str := putL b fs.flatten 45
section
variable {w : Int × Tup (Int × Int)} {b : Str} {fs : List (List Int)} {d : Dic Int Int}
theorem own_flat {k : Int} : k ∈ fs.flatten ↔ own fs k ≠ none := by
  rw [Ne, own_none, List.mem_flatten]
  constructor
  · rintro ⟨f, m, hk⟩ z; exact z f m hk
  · intro z
    refine Classical.byContradiction fun q => z fun f m hk => q ⟨f, m, hk⟩
theorem OB_at (h : WebOk w) (hb : b.length = w.1.toNat) {k : Int} (hk : 0 ≤ k ∧ k < w.1) : cpOf (OB b fs) k = if own fs k = none then cpOf b k else 45 := by
  have n1 := h.n1
  unfold OB
  rw [putL_at hk.1 (by omega)]
  by_cases e : own fs k = none
  · rw [if_pos e, if_neg (fun m => own_flat.mp m e)]
  · rw [if_neg e, if_pos (own_flat.mpr e)]
theorem sgn_OB (h : WebOk w) (hb : b.length = w.1.toNat) {k : Int} (hk : 0 ≤ k ∧ k < w.1) {c : Nat} (hc : c ≠ 45) : decide (sgn (OB b fs) k = ⟨#[c]⟩) = outB b fs ⟨#[c]⟩ k := by
  unfold outB
  by_cases e : own fs k = none
  · rw [e]
    show _ = (decide (sgn b k = ⟨#[c]⟩) && true)
    rw [Bool.and_true]
    have : (sgn (OB b fs) k = ⟨#[c]⟩) ↔ (sgn b k = ⟨#[c]⟩) := by rw [sgn_eq, sgn_eq, OB_at h hb hk, if_pos e]
    by_cases q : sgn b k = ⟨#[c]⟩
    · rw [decide_eq_true q, decide_eq_true (this.mpr q)]
    · rw [decide_eq_false q, decide_eq_false (fun z => q (this.mp z))]
  · have : ¬ sgn (OB b fs) k = ⟨#[c]⟩ := by
      rw [sgn_eq, OB_at h hb hk, if_neg e]; omega
    rw [decide_eq_false this]
    cases q : own fs k with
    | none => exact absurd q e
    | some a => simp
def isXO (b : Str) (fs : List (List Int)) (k : Int) : Bool := decide (cpOf (OB b fs) k = 120 ∨ cpOf (OB b fs) k = 111)
noncomputable def pcK (w : Int × Tup (Int × Int)) (b : Str) (fs : List (List Int)) (k : Int) : List Int := PL w (outB b fs (sgn (OB b fs) k)) k
noncomputable def shk (w : Int × Tup (Int × Int)) (b : Str) (fs : List (List Int)) (k : Int) : Bool := isXO b fs k && (isrep w (outB b fs (sgn (OB b fs) k)) k && shakyB w b fs (pcK w b fs k))
noncomputable def SHK (w : Int × Tup (Int × Int)) (b : Str) (fs : List (List Int)) : List (List Int) := ((rangeL 0 w.1.toNat).filter (shk w b fs)).map (pcK w b fs)
theorem xo_of (h : WebOk w) (hb : b.length = w.1.toNat) {k : Int} (hk : 0 ≤ k ∧ k < w.1) (e : isXO b fs k = true) : (sgn (OB b fs) k = xZ ∨ sgn (OB b fs) k = oZ) ∧ outB b fs (sgn (OB b fs) k) k = true := by
  unfold isXO at e
  rcases of_decide_eq_true e with e | e
  · have q : sgn (OB b fs) k = xZ := sgn_eq.mpr e
    refine ⟨.inl q, ?_⟩
    rw [q]
    have := sgn_OB (fs := fs) h hb hk (c := 120) (by decide)
    exact this.symm.trans (decide_eq_true q)
  · have q : sgn (OB b fs) k = oZ := sgn_eq.mpr e
    refine ⟨.inr q, ?_⟩
    rw [q]
    have := sgn_OB (fs := fs) h hb hk (c := 111) (by decide)
    exact this.symm.trans (decide_eq_true q)
theorem out_xo (h : WebOk w) (hb : b.length = w.1.toNat) {k : Int} (hk : 0 ≤ k ∧ k < w.1) {z : Str} (hz : z = xZ ∨ z = oZ) (e : outB b fs z k = true) : isXO b fs k = true ∧ sgn (OB b fs) k = z := by
  rcases hz with rfl | rfl
  · have q : sgn (OB b fs) k = xZ := of_decide_eq_true ((sgn_OB (fs := fs) h hb hk (c := 120) (by decide)).trans e)
    exact ⟨decide_eq_true (.inl (sgn_eq.mp q)), q⟩
  · have q : sgn (OB b fs) k = oZ := of_decide_eq_true ((sgn_OB (fs := fs) h hb hk (c := 111) (by decide)).trans e)
    exact ⟨decide_eq_true (.inr (sgn_eq.mp q)), q⟩
theorem pc_same (h : WebOk w) (hb : b.length = w.1.toNat) {r k : Int} (hr : 0 ≤ r ∧ r < w.1) (e : isXO b fs r = true) (m : k ∈ pcK w b fs r) : (0 ≤ k ∧ k < w.1) ∧ isXO b fs k = true ∧ sgn (OB b fs) k = sgn (OB b fs) r ∧ pcK w b fs k = pcK w b fs r := by
  obtain ⟨hz, ho⟩ := xo_of h hb hr e
  have hk : 0 ≤ k ∧ k < w.1 := (PL_rise h r).2 k m
  have o2 := PL_ok h hr ho m
  obtain ⟨q1, q2⟩ := out_xo h hb hk hz o2
  refine ⟨hk, q1, q2, ?_⟩
  unfold pcK
  rw [q2]
  exact PL_eq h hr ho m
theorem sortD_shaky (h : WebOk w) (hb : b.length = w.1.toNat) (hd : ∀ k, dget d k = own fs k) : m_Surroundings_shaky (surr w b d) = .ok (SHK w b fs) := by
  have n1 := h.n1
  have n2 := h.n2
  unfold m_Surroundings_shaky
  rw [show PySem.Str.ofString "x" = xZ by decide, show PySem.Str.ofString "o" = oZ by decide, outside_is h hb hd]
  simp only [Res.okb]
  show Res.bind (Res.bind (m_pieces w _) _) _ = _
  rw [pieces_out h hb hd]
  simp only [Res.okb]
  rw [outside_is h hb hd]
  simp only [Res.okb]
  rw [show m_pieces (surr w b d).v.1.1.2 = m_pieces w from rfl]
  rw [pieces_out h hb hd]
  simp only [Res.okb]
  have l1 := PS_len h (outB b fs xZ)
  have l2 := PS_len h (outB b fs oZ)
  rw [catR_ok (by omega)]
  simp only [Res.okb]
  have e1 : lcT (fun a20 => (m_Surroundings_is_shaky (surr w b d) a20)) (fun a20 => (Res.ok a20)) (G.PS w (outB b fs xZ) ++ G.PS w (outB b fs oZ)) = .ok ((G.PS w (outB b fs xZ) ++ G.PS w (outB b fs oZ)).filter (shakyB w b fs)) := by
    unfold lcT
    rw [decide_eq_true (by rw [List.length_append]; omega)]
    show lcR _ _ (G.PS w (outB b fs xZ) ++ G.PS w (outB b fs oZ)) = _
    rw [lcR_filter (p' := shakyB w b fs) (g' := fun p => p) (fun p _ => shaky_is h hb hd p) fun _ _ _ => rfl, List.map_id']
  rw [e1]
  simp only [Res.okb]
  rw [sortD_rows]
  congr 1
  have up : (SHK w b fs).Pairwise (· < ·) := by
    unfold SHK
    refine heads_lt ((rangeL_rise _).filter _) fun k m => ?_
    obtain ⟨m1, m2⟩ := List.mem_filter.mp m
    have hk := mem_rangeL.mp m1
    unfold shk at m2
    rw [Bool.and_eq_true, Bool.and_eq_true] at m2
    exact PL_head h (by omega) m2.2.1
  have mem : ∀ p, p ∈ (G.PS w (outB b fs xZ) ++ G.PS w (outB b fs oZ)).filter (shakyB w b fs) ↔ p ∈ SHK w b fs := by
    have half : ∀ z, (z = xZ ∨ z = oZ) → ∀ p, p ∈ G.PS w (outB b fs z) → shakyB w b fs p = true → p ∈ SHK w b fs := by
      intro z hz p m hs
      unfold G.PS at m
      obtain ⟨r, mr, rfl⟩ := List.mem_map.mp m
      obtain ⟨r1, r2⟩ := mem_reps.mp mr
      have hr : 0 ≤ r ∧ r < w.1 := by omega
      obtain ⟨q1, q2⟩ := out_xo h hb hr hz (isrep_iff.mp r2).1
      unfold SHK
      refine List.mem_map.mpr ⟨r, List.mem_filter.mpr ⟨mem_rangeL.mpr (by omega), ?_⟩, by unfold pcK; rw [q2]⟩
      unfold shk pcK
      rw [q2, q1, r2, hs]; rfl
    intro p
    constructor
    · intro m
      obtain ⟨m1, m2⟩ := List.mem_filter.mp m
      rcases List.mem_append.mp m1 with m1 | m1
      · exact half xZ (.inl rfl) p m1 m2
      · exact half oZ (.inr rfl) p m1 m2
    · intro m
      unfold SHK at m
      obtain ⟨k, mk, rfl⟩ := List.mem_map.mp m
      obtain ⟨m1, m2⟩ := List.mem_filter.mp mk
      have hk := mem_rangeL.mp m1
      unfold shk at m2
      rw [Bool.and_eq_true, Bool.and_eq_true] at m2
      obtain ⟨a1, a2, a3⟩ := m2
      refine List.mem_filter.mpr ⟨?_, a3⟩
      obtain ⟨hz, _⟩ := xo_of (fs := fs) h hb (by omega : 0 ≤ k ∧ k < w.1) a1
      rcases hz with q | q
      · refine List.mem_append_left _ (List.mem_map.mpr ⟨k, mem_reps.mpr ⟨by omega, by rw [← q]; exact a2⟩, by unfold pcK; rw [q]⟩)
      · refine List.mem_append_right _ (List.mem_map.mpr ⟨k, mem_reps.mpr ⟨by omega, by rw [← q]; exact a2⟩, by unfold pcK; rw [q]⟩)
  have nd1 : ((G.PS w (outB b fs xZ) ++ G.PS w (outB b fs oZ)).filter (shakyB w b fs)).Nodup := by
    refine List.Pairwise.filter _ (List.nodup_append.mpr ⟨lt_nodup (PS_lt h _), lt_nodup (PS_lt h _), fun p mp q mq e => ?_⟩)
    subst e
    unfold G.PS at mp mq
    obtain ⟨r, mr, rfl⟩ := List.mem_map.mp mp
    obtain ⟨r', mr', e⟩ := List.mem_map.mp mq
    obtain ⟨r1, r2⟩ := mem_reps.mp mr
    obtain ⟨r1', r2'⟩ := mem_reps.mp mr'
    have hr : 0 ≤ r ∧ r < w.1 := by omega
    have ho := (isrep_iff.mp r2).1
    have m : r ∈ PL w (outB b fs oZ) r' := by rw [e]; exact PL_self h hr
    have ho' := PL_ok h (by omega) (isrep_iff.mp r2').1 m
    have q1 := (out_xo h hb hr (.inl rfl) ho).2
    have q2 := (out_xo h hb hr (.inr rfl) ho').2
    rw [q1] at q2
    exact absurd q2 (by decide)
  have pm : ((G.PS w (outB b fs xZ) ++ G.PS w (outB b fs oZ)).filter (shakyB w b fs)).Perm (SHK w b fs) := (List.perm_ext_iff_of_nodup nd1 (lt_nodup up)).mpr mem
  rw [sortLL_ext pm, sortLL_self (up.imp fun h => ll_le h)]
end
section
variable {w : Int × Tup (Int × Int)} {b : Str} {fs : List (List Int)} {d : Dic Int Int}
theorem shk_mem (h : WebOk w) (hb : b.length = w.1.toNat) {p : List Int} (m : p ∈ SHK w b fs) : p ≠ [] ∧ p.length ≤ 40 ∧ p.Nodup ∧ ∀ k ∈ p, (0 ≤ k ∧ k < w.1) ∧ own fs k = none := by
  have n1 := h.n1
  unfold SHK at m
  obtain ⟨k, mk, rfl⟩ := List.mem_map.mp m
  obtain ⟨m1, m2⟩ := List.mem_filter.mp mk
  have hk : 0 ≤ k ∧ k < w.1 := by have := mem_rangeL.mp m1; omega
  unfold shk at m2
  rw [Bool.and_eq_true] at m2
  refine ⟨?_, PL_len h k, (PL_rise h k).1.imp (fun {x y} (z : x < y) => by show x ≠ y; omega), fun x mx => ?_⟩
  · intro z
    have : k ∈ pcK w b fs k := PL_self h hk
    rw [z] at this; cases this
  · obtain ⟨r, q, _, _⟩ := pc_same h hb hk m2.1 mx
    refine ⟨r, ?_⟩
    have := (xo_of h hb r q).2
    unfold outB at this
    rw [Bool.and_eq_true] at this
    exact Option.isNone_iff_eq_none.mp this.2
theorem fm_len {α β : Type} (f : α → Option β) : ∀ l : List α, (l.filterMap f).length = (l.filter fun a => (f a).isSome).length
  | [] => rfl
  | a :: l => by
    have ih := fm_len f l
    cases q : f a with
    | none => rw [List.filterMap_cons_none q, List.filter_cons_of_neg (by rw [q]; simp)]; exact ih
    | some y => rw [List.filterMap_cons_some q, List.filter_cons_of_pos (by rw [q]; rfl), List.length_cons, List.length_cons, ih]
def outIn (fs : List (List Int)) (t : Int × Int) : Bool := (own fs t.1).isNone && (own fs t.2).isSome
theorem count_oi : ∀ l : List (Int × Int), (l.filter (outIn fs)).length + ((l.map fun t => (t.2, t.1)).filter (outIn fs)).length ≤ l.length
  | [] => Nat.le_refl _
  | t :: l => by
    have ih := count_oi l
    rw [List.map_cons, List.filter_cons, List.filter_cons]
    unfold outIn at ih ⊢
    cases own fs t.1 <;> cases own fs t.2 <;> simp <;> omega
theorem touch_len (h : WebOk w) (ht : w.2.l.length ≤ 59) {p : List Int} (nd : p.Nodup) (ho : ∀ k ∈ p, own fs k = none) : (touchL w fs p).length < 60 := by
  have n1 := h.n1
  have e1 : (touchL w fs p).length = (p.flatMap fun k => ((nextL w k).filter fun o => (own fs o).isSome).map fun o => (k, o)).length := by
    unfold touchL
    rw [List.length_flatMap, List.length_flatMap]
    congr 1
    refine List.map_congr_left fun k _ => ?_
    rw [List.length_map, fm_len]
  have e2 : (p.flatMap fun k => ((nextL w k).filter fun o => (own fs o).isSome).map fun o => (k, o)).Nodup := by
    refine List.pairwise_flatMap.mpr ⟨fun k _ => ?_, nd.imp fun {x y} ne => ?_⟩
    · refine List.pairwise_map.mpr ?_
      refine List.Pairwise.imp ?_ (List.Pairwise.filter _ ((nextL_rise w (by omega) k).1.imp (fun {x y} (z : x < y) => (by show x ≠ y; omega : x ≠ y))))
      intro a c ne z
      exact ne (Prod.mk.inj z).2
    · intro t mt u mu z
      obtain ⟨_, _, rfl⟩ := List.mem_map.mp mt
      obtain ⟨_, _, rfl⟩ := List.mem_map.mp mu
      exact ne (Prod.mk.inj z).1
  have e3 := nodup_sub_len e2 (m := w.2.l.filter (outIn fs) ++ (w.2.l.map fun t => (t.2, t.1)).filter (outIn fs)) fun t mt => by
    obtain ⟨k, mk, m⟩ := List.mem_flatMap.mp mt
    obtain ⟨o, mo, rfl⟩ := List.mem_map.mp m
    obtain ⟨m1, m2⟩ := List.mem_filter.mp mo
    have q : outIn fs (k, o) = true := by unfold outIn; rw [ho k mk, m2]; rfl
    rcases (mem_nextL h).mp m1 with z | z
    · exact List.mem_append_left _ (List.mem_filter.mpr ⟨z, q⟩)
    · exact List.mem_append_right _ (List.mem_filter.mpr ⟨List.mem_map.mpr ⟨_, z, rfl⟩, q⟩)
  rw [List.length_append] at e3
  have := count_oi (fs := fs) w.2.l
  omega
abbrev RS := Option (Sum (Str × Int) (T3 Str Int Int))
noncomputable def TT (w : Int × Tup (Int × Int)) (fs : List (List Int)) (p : List Int) : List Int := setI' (touchL w fs p)
def tieT (fs : List (List Int)) (t : Int × Int) : Option (T3 Str Int Int) := match own fs t.1, own fs t.2 with
  | some a, some c => if a = c then none else some ⟨PySem.Str.ofString "tie", t.1, t.2⟩
  | _, _ => none
noncomputable def pieceG (w : Int × Tup (Int × Int)) (fs : List (List Int)) (p : List Int) : Option RS := if (TT w fs p).length > 1 then some (some (.inl (PySem.Str.ofString "piece", p.headD 0))) else none
noncomputable def pairG (w : Int × Tup (Int × Int)) (fs : List (List Int)) (p q : List Int) : Option RS := if tiedB w p q = true ∧ TT w fs p ≠ TT w fs q then some (some (.inr ⟨PySem.Str.ofString "pieces", p.headD 0, q.headD 0⟩)) else none
noncomputable def betw (w : Int × Tup (Int × Int)) (b : Str) (fs : List (List Int)) : RS := match (SHK w b fs).findSome? (pieceG w fs) with
  | some r => r
  | none => match (SHK w b fs).findSome? (fun p => (SHK w b fs).findSome? fun q => if p.headD 0 < q.headD 0 then pairG w fs p q else none) with
    | some r => r
    | none => none
noncomputable def DUE (w : Int × Tup (Int × Int)) (b : Str) (fs : List (List Int)) : RS := match w.2.l.findSome? (tieT fs) with
  | some t => some (.inr t)
  | none => betw w b fs
def outO {L R : Type} : Option R → Out Unit L R
  | some r => .rt r
  | none => .nx ()
theorem tail_ok {R : Type} (o : Option R) (k : Unit → Res R) : Res.tail (S := Unit) (R := R) (.ok (outO o)) k = (match o with | some r => .ok r | none => k ()) := by cases o <;> rfl
theorem loop_fo {L α R : Type} {f : Unit → α → Res (Out Unit Unit R)} (g : α → Option R) {xs : List α} (h : ∀ a ∈ xs, f () a = .ok (outO (g a))) : loopO (L := L) f () xs = .ok (outO (xs.findSome? g)) := by
  rw [loop_find (g := g) fun a m => by rw [h a m]; cases g a <;> rfl]
  cases xs.findSome? g <;> rfl
theorem idx_head {p : List Int} (h : p ≠ []) : idx p 0 = .ok (p.headD 0) := by
  cases p with
  | nil => exact absurd rfl h
  | cons a p => exact idx_int (by decide) rfl

end
theorem fs_congr {α R : Type} {f g : α → Option R} : ∀ {l : List α}, (∀ a ∈ l, f a = g a) → l.findSome? f = l.findSome? g
  | [], _ => rfl
  | a :: l, h => by
    rw [List.findSome?_cons, List.findSome?_cons, h a List.mem_cons_self, fs_congr fun x m => h x (List.mem_cons_of_mem _ m)]
theorem fs_none {α R : Type} {f : α → Option R} {l : List α} (h : ∀ a ∈ l, f a = none) : l.findSome? f = none := List.findSome?_eq_none_iff.mpr h
theorem enum_pairs {α R : Type} (hd : α → Int) (F : α → α → Option R) {l : List α} (pw : l.Pairwise fun p q => hd p < hd q) : (enumL l).findSome? (fun a => (l.drop (a.1.toNat + 1)).findSome? (F a.2)) = l.findSome? fun p => l.findSome? fun q => if hd p < hd q then F p q else none := by
  have e1 : (enumL l).map Prod.snd = l := by
    unfold enumL
    refine List.ext_getElem? fun i => ?_
    rw [List.getElem?_map, List.getElem?_mapIdx]
    cases l[i]? <;> rfl
  have e2 : l.findSome? (fun p => l.findSome? fun q => if hd p < hd q then F p q else none) = (enumL l).findSome? fun a => l.findSome? fun q => if hd a.2 < hd q then F a.2 q else none := by
    conv => lhs; arg 2; rw [← e1]
    rw [List.findSome?_map]
    rfl
  rw [e2]
  refine fs_congr fun a ma => ?_
  obtain ⟨i, hi, ha⟩ := enumL_mem ma
  rw [hi, Int.toNat_natCast]
  obtain ⟨il, ia⟩ := List.getElem?_eq_some_iff.mp ha
  have sp : l = l.take i ++ a.2 :: l.drop (i + 1) := by
    rw [← ia, ← List.drop_eq_getElem_cons il, List.take_append_drop]
  generalize l.take i = A at sp
  generalize l.drop (i + 1) = B at sp ⊢
  generalize a.2 = p at sp ⊢
  subst sp
  obtain ⟨_, p2, p3⟩ := List.pairwise_append.mp pw
  obtain ⟨p4, _⟩ := List.pairwise_cons.mp p2
  rw [List.findSome?_append, fs_none (l := A) fun x m => ?_, Option.none_or, List.findSome?_cons, if_neg (by omega)]
  · refine (fs_congr fun q mq => ?_).symm
    rw [if_pos (p4 q mq)]
  · have := p3 x m p List.mem_cons_self
    rw [if_neg (by omega)]
section
variable {w : Int × Tup (Int × Int)} {b : Str} {fs : List (List Int)} {d : Dic Int Int}
theorem SHK_heads (h : WebOk w) (hb : b.length = w.1.toNat) : (SHK w b fs).Pairwise fun p q => p.headD 0 < q.headD 0 := by
  have hh : ∀ k ∈ (rangeL 0 w.1.toNat).filter (shk w b fs), (pcK w b fs k).headD 0 = k := fun k m => by
    obtain ⟨m1, m2⟩ := List.mem_filter.mp m
    have hk := mem_rangeL.mp m1
    unfold shk at m2
    rw [Bool.and_eq_true, Bool.and_eq_true] at m2
    have e : (pcK w b fs k)[0]? = some k := PL_head h (by omega) m2.2.1
    cases q : pcK w b fs k with
    | nil => rw [q] at e; cases e
    | cons x t => rw [q] at e; exact Option.some.inj e
  unfold SHK
  refine List.pairwise_map.mpr (List.Pairwise.imp_of_mem ?_ ((rangeL_rise _).filter _))
  intro x y mx my lt
  rw [hh x mx, hh y my]; exact lt
theorem prog_tie (hd : ∀ k, dget d k = own fs k) : m_Surroundings_tie_between (surr w b d) = .ok (w.2.l.findSome? (tieT fs)) := by
  unfold m_Surroundings_tie_between
  show Res.tail (loopO _ () w.2.l) _ = _
  rw [loop_fo (fun t => (tieT fs t).map some) fun t _ => ?_, tail_ok]
  · rw [show (w.2.l.findSome? fun t => (tieT fs t).map some) = (w.2.l.findSome? (tieT fs)).map some from List.map_findSome?.symm]
    cases w.2.l.findSome? (tieT fs) <;> rfl
  · show Res.next (Res.bind (if dhas d t.1 = true then (if dhas d t.2 = true then (Res.bind (unw (dget d t.1)) fun v3 => (Res.bind (unw (dget d t.2)) fun v4 => (Res.ok (!ScaEq.eq v3 v4)))) else (Res.ok false)) else (Res.ok false)) _) _ = _
    rw [dhas_own hd, dhas_own hd, hd, hd]
    unfold tieT
    cases q1 : own fs t.1 with
    | none => rfl
    | some a =>
      cases q2 : own fs t.2 with
      | none => rfl
      | some c =>
        show Res.next (Res.bind (Res.ok (!ScaEq.eq a c)) _) _ = _
        by_cases e : a = c
        · rw [show ScaEq.eq a c = true from decide_eq_true e]
          simp only [if_pos e]; rfl
        · rw [show ScaEq.eq a c = false from decide_eq_false e]
          simp only [if_neg e]; rfl
theorem prog_betw (h : WebOk w) (hb : b.length = w.1.toNat) (ht : w.2.l.length ≤ 59) (hd : ∀ k, dget d k = own fs k) : m_Surroundings_pieces_between (surr w b d) = .ok (betw w b fs) := by
  have n1 := h.n1
  have n2 := h.n2
  unfold m_Surroundings_pieces_between
  rw [sortD_shaky h hb hd]
  simp only [Res.okb]
  have tch : ∀ p ∈ SHK w b fs, m_Surroundings_touched (surr w b d) p = .ok (TT w fs p) := fun p m => by
    obtain ⟨_, a2, a3, a4⟩ := shk_mem h hb m
    rw [touched_is h hd a2, guardR_of (decide_eq_true (touch_len h ht a3 fun k mk => (a4 k mk).2))]
    rfl
  rw [loop_fo (pieceG w fs) fun p mp => ?g2, tail_ok]
  case g2 =>
    obtain ⟨a1, a2, a3, a4⟩ := shk_mem h hb mp
    rw [tch p mp]
    simp only [Res.okb]
    unfold pieceG
    by_cases e : ((TT w fs p).length : Int) > 1
    · rw [decide_eq_true e, if_pos (show (TT w fs p).length > 1 by omega), idx_head a1]; rfl
    · rw [decide_eq_false e, if_neg (show ¬ (TT w fs p).length > 1 by omega)]; rfl
  unfold betw
  rw [← enum_pairs (fun p : List Int => p.headD 0) (pairG w fs) (SHK_heads h hb)]
  cases (SHK w b fs).findSome? (pieceG w fs) with
  | some t => rfl
  | none =>
    simp only
    rw [loop_fo (fun a => ((SHK w b fs).drop (a.1.toNat + 1)).findSome? (pairG w fs a.2)) fun a ma => ?g3, tail_ok]
    case g3 =>
      obtain ⟨i, hi, ha⟩ := enumL_mem ma
      have mp := List.mem_of_getElem? ha
      obtain ⟨a1, a2, a3, a4⟩ := shk_mem h hb mp
      rw [hi, show (i : Int) + 1 = ((i + 1 : Nat) : Int) by omega, cut_from, Int.toNat_natCast]
      generalize a.2 = p at *
      rw [loop_fo (pairG w fs p) fun q mq => ?g4]
      · cases ((SHK w b fs).drop (i + 1)).findSome? (pairG w fs p) <;> rfl
      case g4 =>
        have mq := List.mem_of_mem_drop mq
        obtain ⟨c1, c2, c3, c4⟩ := shk_mem h hb mq
        rw [tied_is h, tch p mp, tch q mq]
        simp only [Res.okb]
        rw [neD_eq, idx_head a1, idx_head c1]
        simp only [Res.okb]
        unfold pairG
        cases g6 : tiedB w p q with
        | true =>
          by_cases g7 : TT w fs p = TT w fs q
          · rw [decide_eq_true g7, if_neg (show ¬ (true = true ∧ TT w fs p ≠ TT w fs q) from fun z => z.2 g7)]; rfl
          · rw [decide_eq_false g7, if_pos (show true = true ∧ TT w fs p ≠ TT w fs q from ⟨rfl, g7⟩)]; rfl
        | false =>
          rw [if_neg (show ¬ (false = true ∧ TT w fs p ≠ TT w fs q) from fun z => by cases z.1)]; rfl
    cases ((enumL (SHK w b fs)).findSome? fun a => ((SHK w b fs).drop (a.1.toNat + 1)).findSome? (pairG w fs a.2)) <;> rfl
end

theorem loop_nx {S L R α : Type} {f : S → α → Res (Out S S R)} (P : S → List α → Prop) (hs : ∀ s a l, P s (a :: l) → ∃ s', f s a = .ok (.nx s') ∧ P s' l) : ∀ (l : List α) (s : S), P s l → ∃ s', loopO (L := L) f s l = .ok (.nx s')
  | [], s, _ => ⟨s, rfl⟩
  | a :: l, s, h => by
    obtain ⟨s1, e1, h1⟩ := hs s a l h
    obtain ⟨s2, e2⟩ := loop_nx (L := L) P hs l s1 h1
    exact ⟨s2, by unfold loopO; rw [e1]; exact e2⟩
section
variable {w : Int × Tup (Int × Int)} {b : Str} {fs : List (List Int)} {d : Dic Int Int}
theorem crossing_is (k : Int) : m_is_crossing w k = .ok (decide (0 ≤ k ∧ k < w.1)) := by
  unfold m_is_crossing
  by_cases h0 : 0 ≤ k
  · by_cases h1 : k < w.1
    · simp [h0, h1]
    · simp [h0, h1]
  · simp [h0]
theorem field_is {f : List Int} (ne : f ≠ []) (up : f.Pairwise (· < ·)) (rg : ∀ k ∈ f, 0 ≤ k ∧ k < w.1) : m_is_field w f = .ok true := by
  unfold m_is_field
  rw [eqD_eq, decide_eq_false ne]
  show Res.tail (loopO _ (-1 : Int) f) _ = _
  obtain ⟨s', e⟩ := loop_nx (L := Empty) (R := Bool) (f := (fun (s2 : Int) (a3 : Int) => ((Res.next (S := Unit) (Res.bind (Res.bind (Res.bind (m_is_crossing w a3) fun v4 => (Res.ok (!v4))) fun v5 => (if v5 then (Res.ok true) else (Res.ok (decide (a3 ≤ s2))))) fun v7 => (if v7 then (Res.ok (Out.rt false)) else (Res.ok (Out.nx ())))) fun s6 => (Res.bind (Res.ok a3) fun (last8 : Int) => (Res.ok (Out.nx last8)))) : Res (Out (Int) (Int) Bool)))) (fun s l => l.Pairwise (· < ·) ∧ ∀ k ∈ l, (0 ≤ k ∧ k < w.1) ∧ s < k) (fun s a l ⟨p, q⟩ => by
    obtain ⟨p1, p2⟩ := List.pairwise_cons.mp p
    have qa := q a List.mem_cons_self
    refine ⟨a, ?_, p2, fun k m => ⟨(q k (List.mem_cons_of_mem _ m)).1, p1 k m⟩⟩
    rw [crossing_is, decide_eq_true qa.1]
    simp only [Res.okb, Bool.not_true, Bool.false_eq_true, if_false]
    rw [decide_eq_false (by omega)]; rfl) f (-1) ⟨up, fun k m => ⟨rg k m, by have := rg k m; omega⟩⟩
  rw [e]; rfl
theorem fields_are (hn : w.1 ≤ 40) (h : FSok w.1 fs) : m_are_fields w fs = .ok true := by
  have h2 := h.two
  have h5 := h.five
  unfold m_are_fields
  show Res.bind (Res.ok (decide ((fs.length : Int) < 2))) _ = _
  rw [decide_eq_false (by omega)]
  show Res.tail (loopO _ ([] : List Int) fs) _ = _
  obtain ⟨s', e⟩ := loop_nx (L := Empty) (R := Bool) (f := (fun (s2 : (List Int)) (a3 : (List Int)) => ((Res.next (S := Unit) (Res.bind (Res.bind (Res.bind (m_is_field w a3) fun v4 => (Res.ok (!v4))) fun v7 => (if v7 then (Res.ok true) else (Res.bind (lcT (fun a5 => (Res.ok (decide (a5 ∈ s2)))) (fun a5 => (Res.ok a5)) a3) fun v6 => (neD v6 ([] : (List Int)))))) fun v9 => (if v9 then (Res.ok (Out.rt false)) else (Res.ok (Out.nx ())))) fun s8 => (Res.bind (extR s2 a3) fun known10 => (Res.ok (Out.nx known10)))) : Res (Out ((List Int)) ((List Int)) Bool)))) (fun s l => (l.Pairwise fun f g => ∀ k ∈ f, k ∉ g) ∧ (∀ f ∈ l, f ≠ [] ∧ f.Pairwise (· < ·) ∧ (∀ k ∈ f, 0 ≤ k ∧ k < w.1) ∧ ∀ k ∈ f, k ∉ s) ∧ s.length + 41 * l.length ≤ 1000) (fun s f l ⟨p, q, r⟩ => by
    obtain ⟨p1, p2⟩ := List.pairwise_cons.mp p
    obtain ⟨q1, q2, q3, q4⟩ := q f List.mem_cons_self
    have fl : f.length ≤ 40 := by
      have := nodup_len 40 (q2.imp fun {x y} (z : x < y) => by show x ≠ y; omega) fun k m => by have := q3 k m; omega
      exact this
    rw [List.length_cons] at r
    refine ⟨s ++ f, ?_, p2, fun g mg => ?_, by rw [List.length_append]; omega⟩
    · rw [field_is q1 q2 q3]
      simp only [Res.okb, Bool.not_true, Bool.false_eq_true, if_false]
      have e1 : lcT (fun a5 : Int => (Res.ok (decide (a5 ∈ s)) : Res Bool)) (fun a5 => (Res.ok a5)) f = .ok [] := by
        unfold lcT
        rw [decide_eq_true (by omega)]
        show lcR _ _ f = _
        rw [lcR_filter (p' := fun o => decide (o ∈ s)) (g' := fun o => o) (fun _ _ => rfl) (fun _ _ _ => rfl), List.map_id', List.filter_eq_nil_iff.mpr fun x m hx => q4 x m (of_decide_eq_true hx)]
      rw [e1]
      simp only [Res.okb]
      rw [neD_eq, decide_eq_true rfl, extR_ok (by omega)]; rfl
    · obtain ⟨g1, g2, g3, g4⟩ := q g (List.mem_cons_of_mem _ mg)
      refine ⟨g1, g2, g3, fun k mk z => ?_⟩
      rcases List.mem_append.mp z with z | z
      · exact g4 k mk z
      · exact p1 g mg k z mk) fs [] ⟨h.dj, fun f m => ⟨h.ne f m, h.up f m, h.rng f m, fun _ _ z => by cases z⟩, by show 0 + _ ≤ _; omega⟩
  rw [e]; rfl
end
theorem signOk_app7 {x y : Str} (h : signOk x) (h' : signOk y) : signOk (x ++ y) := fun c m => by
  rw [cps_app] at m
  rcases List.mem_append.mp m with m | m
  · exact h c m
  · exact h' c m
theorem nd_app7 {ts : List (Int × Int)} {t : Int × Int} (h : ts.Nodup) (n : t ∉ ts) : (ts ++ [t]).Nodup := List.nodup_append.mpr ⟨h, by simp, fun x mx y my => by cases List.mem_singleton.mp my; exact fun e => n (e ▸ mx)⟩
theorem five_of {ds : List Int} {k : Nat} (h : k + 5 ≤ ds.length) : cut ds (some (k : Int)) (some ((k + 5 : Nat) : Int)) = [ds[k], ds[k + 1], ds[k + 2], ds[k + 3], ds[k + 4]] := by
  unfold cut
  rw [HT.sIx_nat, HT.sIx_nat, Nat.min_eq_left h, Nat.min_eq_left (by omega : k ≤ ds.length), show k + 5 - k = 5 by omega]
  rw [List.drop_eq_getElem_cons (by omega), List.drop_eq_getElem_cons (by omega), List.drop_eq_getElem_cons (by omega), List.drop_eq_getElem_cons (by omega), List.drop_eq_getElem_cons (by omega)]
  rfl
abbrev psizes : List Int := [3, 3, 3, 2, 2, 2, 3, 3, 2, 2, 2, 3, 3, 2, 2, 2, 3, 3, 2, 2, 2, 3, 3, 2, 2, 2, 3]
structure PartOk (lo : Int) (many more : Nat) (p : T3 Str (List (Int × Int)) (List Int)) : Prop where
  m1 : 1 ≤ many
  m3 : many ≤ 3
  o2 : more ≤ 2
  sl : p.a.length = many + more
  so : signOk p.a
  fl : p.c = rangeL lo many
  nd : p.b.Nodup
  ln : p.b.length ≤ 15
  tie : ∀ t ∈ p.b, t.1 < t.2 ∧ lo ≤ t.2 ∧ t.2 < lo + many + more ∧ (t.1 = 0 ∨ t.1 = 2 ∨ lo ≤ t.1)
  uni : ∀ t ∈ p.b, ∀ t' ∈ p.b, t.2 = t'.2 → lo ≤ t.1 → lo ≤ t'.1 → t = t'
structure PInv (lo : Int) (k : Nat) (s : Str × List (Int × Int)) : Prop where
  sl : s.1.length = k
  so : signOk s.1
  nd : s.2.Nodup
  ln : s.2.length ≤ 3 * k
  tie : ∀ t ∈ s.2, t.1 < t.2 ∧ lo ≤ t.2 ∧ t.2 < lo + k ∧ (t.1 = 0 ∨ t.1 = 2 ∨ lo ≤ t.1)
  uni : ∀ t ∈ s.2, ∀ t' ∈ s.2, t.2 = t'.2 → lo ≤ t.1 → lo ≤ t'.1 → t = t'
theorem range_shift (lo : Int) (n : Nat) : (rangeL 0 n).map (fun a => lo + a) = rangeL lo n := by
  unfold rangeL
  rw [List.map_map]
  refine List.map_congr_left fun i _ => ?_
  show lo + (0 + _) = lo + _
  omega
theorem part_is (c lo : Int) (l4 : 4 ≤ lo) (l1 : lo ≤ 1000) : Sat (m_l_part c lo) (fun p => ∃ many more : Nat, PartOk lo many more p) := by
  unfold m_l_part
  have e1 : repR ((3 : Int) :: ((2 : Int) :: ((2 : Int) :: ((2 : Int) :: ((3 : Int) :: []))))) (5 : Int) = .ok [3, 2, 2, 2, 3, 3, 2, 2, 2, 3, 3, 2, 2, 2, 3, 3, 2, 2, 2, 3, 3, 2, 2, 2, 3] := rfl
  have e2 : catR ((3 : Int) :: ((3 : Int) :: [])) [3, 2, 2, 2, 3, 3, 2, 2, 2, 3, 3, 2, 2, 2, 3, 3, 2, 2, 2, 3, 3, 2, 2, 2, 3] = .ok psizes := rfl
  simp only [e1, e2, Res.okb, Res.bind_assoc]
  refine .bind (numbers c psizes (by decide) (by decide)) fun ds hd => ?_
  obtain ⟨d0, g0, d00, d01⟩ := hd.get (i := 0) (z := 3) rfl
  obtain ⟨d1, g1, d10, d11⟩ := hd.get (i := 1) (z := 3) rfl
  have dl : ds.length = 27 := hd.1
  refine .bidx (by decide) g0 ?_
  refine .bidx (by decide) g1 ?_
  obtain ⟨many, em⟩ : ∃ many : Nat, (1 : Int) + d0 = (many : Int) := ⟨(1 + d0).toNat, by omega⟩
  obtain ⟨more, eo⟩ : ∃ more : Nat, d1 = (more : Int) := ⟨d1.toNat, by omega⟩
  rw [em, eo]
  refine .brange (by omega) (by omega) ?_
  rw [show ((many : Int) + (more : Int)).toNat = many + more by omega]
  refine .bind (P := PInv lo (many + more)) ?_ fun s I => ?_
  · refine (Sat.foldR (fun k s => PInv lo k s) ⟨rfl, fun c m => absurd (show c ∈ (#[] : Array Nat).toList from m) (by simp), List.nodup_nil, Nat.zero_le _, (fun t m => by cases m), fun t m => by cases m⟩ fun k s a ha I => ?_).imp fun s I => by rw [rangeL_len] at I; exact I
    obtain ⟨signs, ties⟩ := s
    obtain ⟨isl, iso, ind, iln, itie, iuni⟩ := I
    dsimp only at isl iso ind iln itie iuni
    have hk : k < many + more := by have := (List.getElem?_eq_some_iff.mp ha).1; rw [rangeL_len] at this; exact this
    have ea : a = (k : Int) := by
      have := rangeL_at (n := many + more) (k := (k : Int)) (by omega) (by omega)
      rw [Int.toNat_natCast] at this
      rw [this] at ha; exact (Option.some.inj ha).symm
    subst ea
    have k5 : k < 5 := by omega
    dsimp only
    rw [mulR_l (by omega) (by omega)]
    simp only [Res.okb]
    rw [show (2 : Int) + 5 * (k : Int) = ((2 + 5 * k : Nat) : Int) by omega, show (7 : Int) + 5 * (k : Int) = ((2 + 5 * k + 5 : Nat) : Int) by omega, five_of (by omega)]
    have sz : ∀ k < 5, psizes[2 + 5 * k]? = some 3 ∧ psizes[2 + 5 * k + 1]? = some 2 ∧ psizes[2 + 5 * k + 2]? = some 2 ∧ psizes[2 + 5 * k + 3]? = some 2 ∧ psizes[2 + 5 * k + 4]? = some 3 := by decide
    obtain ⟨z0, z1, z2, z3, z4⟩ := sz k k5
    have b0 := hd.2 _ _ _ (List.getElem?_eq_getElem (show 2 + 5 * k < ds.length by omega)) z0
    have b4 := hd.2 _ _ _ (List.getElem?_eq_getElem (show 2 + 5 * k + 4 < ds.length by omega)) z4
    generalize ds[2 + 5 * k] = x0 at b0 ⊢
    generalize ds[2 + 5 * k + 1] = x1
    generalize ds[2 + 5 * k + 2] = x2
    generalize ds[2 + 5 * k + 3] = x3
    generalize ds[2 + 5 * k + 4] = x4 at b4 ⊢
    rw [guardR_of (by rfl)]
    simp only [Res.okb, List.headD_cons, List.tail_cons]
    have sg : ∀ z : String, z = ".xo" ∨ z = "xox" → ∃ sg, strIx (PySem.Str.ofString z) x0 = .ok sg ∧ sg.length = 1 ∧ signOk sg := fun z hz => by
      have : x0 = 0 ∨ x0 = 1 ∨ x0 = 2 := by omega
      rcases hz with rfl | rfl <;> rcases this with rfl | rfl | rfl
      · exact ⟨⟨#[46]⟩, rfl, rfl, fun c m => .inl (by simpa using m)⟩
      · exact ⟨⟨#[120]⟩, rfl, rfl, fun c m => .inr (.inl (by simpa using m))⟩
      · exact ⟨⟨#[111]⟩, rfl, rfl, fun c m => .inr (.inr (by simpa using m))⟩
      · exact ⟨⟨#[120]⟩, rfl, rfl, fun c m => .inr (.inl (by simpa using m))⟩
      · exact ⟨⟨#[111]⟩, rfl, rfl, fun c m => .inr (.inr (by simpa using m))⟩
      · exact ⟨⟨#[120]⟩, rfl, rfl, fun c m => .inr (.inl (by simpa using m))⟩
    refine .bind (P := fun sn : Str => sn.length = k + 1 ∧ signOk sn) ?_ fun sn ⟨sn1, sn2⟩ => ?_
    · refine .ite (fun _ => ?_) fun _ => ?_
      · obtain ⟨sg, es, sl, so⟩ := sg ".xo" (.inl rfl)
        rw [es]
        simp only [Res.okb]
        rw [catS_ok (by omega)]
        exact .ok ⟨by rw [str_len_app, isl, sl], signOk_app7 iso so⟩
      · obtain ⟨sg, es, sl, so⟩ := sg "xox" (.inr rfl)
        rw [es]
        simp only [Res.okb]
        rw [catS_ok (by omega)]
        exact .ok ⟨by rw [str_len_app, isl, sl], signOk_app7 iso so⟩
    -- the tie to the first wall
    have k1 : (((k + 1 : Nat)) : Int) = (k : Int) + 1 := by omega
    refine .bind (P := fun ts : List (Int × Int) => ts.Nodup ∧ ts.length ≤ 3 * k + 1 ∧ (∀ t ∈ ts, t ∈ ties ∨ t = (0, lo + (k : Int)))) ?_ fun ts ⟨t1, t2, t3⟩ => ?_
    · refine .ite (fun _ => ?_) fun _ => .ok ⟨ind, by omega, fun t m => .inl m⟩
      rw [appR_ok (by omega)]
      refine .ok ⟨nd_app7 ind fun m => by have := itie _ m; omega, by rw [List.length_append, List.length_singleton]; omega, fun t m => ?_⟩
      rcases List.mem_append.mp m with m | m
      · exact .inl m
      · exact .inr (List.mem_singleton.mp m)
    refine .bind (P := fun ts : List (Int × Int) => ts.Nodup ∧ ts.length ≤ 3 * k + 2 ∧ (∀ t ∈ ts, t ∈ ties ∨ t = (0, lo + (k : Int)) ∨ t = (2, lo + (k : Int)))) ?_ fun us ⟨u1, u2, u3⟩ => ?_
    · refine .ite (fun _ => ?_) fun _ => .ok ⟨t1, by omega, fun t m => by rcases t3 t m with q | q <;> simp [q]⟩
      rw [appR_ok (by omega)]
      refine .ok ⟨nd_app7 t1 (fun m => (by
        rcases t3 _ m with q | q
        · have := itie _ q; omega
        · exact absurd (congrArg Prod.fst q) (show ¬ (2 : Int) = 0 by omega))), by rw [List.length_append, List.length_singleton]; omega, fun t m => ?_⟩
      rcases List.mem_append.mp m with m | m
      · rcases t3 t m with q | q
        · exact .inl q
        · exact .inr (.inl q)
      · exact .inr (.inr (List.mem_singleton.mp m))
    refine .bind (P := fun v : Bool => v = true → (k : Int) > 0) ?_ fun v hv => ?_
    · refine .ite (fun h => ?_) fun _ => .ok (fun z => by cases z)
      exact .ite (fun _ => .ok fun _ => of_decide_eq_true h) fun _ => .ok fun _ => of_decide_eq_true h
    refine .bind (P := fun ts : List (Int × Int) => ts.Nodup ∧ ts.length ≤ 3 * k + 3 ∧ ∃ q : Int, lo ≤ q ∧ q < lo + (k : Int) + 1 ∧ (∀ t ∈ ts, t ∈ ties ∨ t = (0, lo + (k : Int)) ∨ t = (2, lo + (k : Int)) ∨ (t = (q, lo + (k : Int)) ∧ q < lo + (k : Int)))) ?_ fun vs ⟨v1, v2, q, q0, q1, v3⟩ => .ok (PInv.mk (s := (sn, vs)) sn1 sn2 v1 (by show vs.length ≤ _; omega) (fun t m => ?_) fun t m t' m' e h1 h2 => ?_)
    · have no : Sat (.ok us : Res (List (Int × Int))) (fun ts : List (Int × Int) => ts.Nodup ∧ ts.length ≤ 3 * k + 3 ∧ ∃ q : Int, lo ≤ q ∧ q < lo + (k : Int) + 1 ∧ (∀ t ∈ ts, t ∈ ties ∨ t = (0, lo + (k : Int)) ∨ t = (2, lo + (k : Int)) ∨ (t = (q, lo + (k : Int)) ∧ q < lo + (k : Int)))) := .ok ⟨u1, by omega, lo, by omega, by omega, fun t m => by rcases u3 t m with z | z | z <;> simp [z]⟩
      cases v with
      | false => exact no
      | true =>
        have p0 := hv rfl
        simp only [if_true]
        rw [modR_of p0]
        simp only [Res.okb]
        have m0 := Int.emod_nonneg x4 (b := (k : Int)) (by omega)
        have m1 := Int.emod_lt_of_pos x4 (b := (k : Int)) p0
        rw [appR_ok (by omega)]
        refine .ok ⟨nd_app7 u1 (fun m => (by
          rcases u3 _ m with z | z | z
          · have := itie _ z; omega
          · have := congrArg Prod.fst z
            have : lo + x4 % (k : Int) = 0 := this
            omega
          · have := congrArg Prod.fst z
            have : lo + x4 % (k : Int) = 2 := this
            omega)), by rw [List.length_append, List.length_singleton]; omega, lo + x4 % (k : Int), by omega, by omega, fun t m => ?_⟩
        rcases List.mem_append.mp m with m | m
        · rcases u3 t m with z | z | z <;> simp [z]
        · exact .inr (.inr (.inr ⟨List.mem_singleton.mp m, by omega⟩))
    · rw [k1]
      rcases v3 t m with z | z | z | ⟨z, zl⟩
      · have := itie t z; omega
      · subst z; exact ⟨by show 0 < lo + (k : Int); omega, by show lo ≤ lo + (k : Int); omega, by show lo + (k : Int) < _; omega, .inl rfl⟩
      · subst z; exact ⟨by show 2 < lo + (k : Int); omega, by show lo ≤ lo + (k : Int); omega, by show lo + (k : Int) < _; omega, .inr (.inl rfl)⟩
      · subst z; exact ⟨zl, by show lo ≤ lo + (k : Int); omega, by show lo + (k : Int) < _; omega, .inr (.inr q0)⟩
    · rcases v3 t m with z | z | z | ⟨z, zl⟩ <;> rcases v3 t' m' with z' | z' | z' | ⟨z', zl'⟩
      · exact iuni t z t' z' e h1 h2
      · subst z'; exact absurd h2 (show ¬ lo ≤ (0 : Int) by omega)
      · subst z'; exact absurd h2 (show ¬ lo ≤ (2 : Int) by omega)
      · have := itie t z; subst z'
        have e : t.2 = lo + (k : Int) := e
        omega
      · subst z; exact absurd h1 (show ¬ lo ≤ (0 : Int) by omega)
      · subst z; exact absurd h1 (show ¬ lo ≤ (0 : Int) by omega)
      · subst z; exact absurd h1 (show ¬ lo ≤ (0 : Int) by omega)
      · subst z; exact absurd h1 (show ¬ lo ≤ (0 : Int) by omega)
      · subst z; exact absurd h1 (show ¬ lo ≤ (2 : Int) by omega)
      · subst z; exact absurd h1 (show ¬ lo ≤ (2 : Int) by omega)
      · subst z; exact absurd h1 (show ¬ lo ≤ (2 : Int) by omega)
      · subst z; exact absurd h1 (show ¬ lo ≤ (2 : Int) by omega)
      · have := itie t' z'; subst z
        have e : lo + (k : Int) = t'.2 := e
        omega
      · subst z'; exact absurd h2 (show ¬ lo ≤ (0 : Int) by omega)
      · subst z'; exact absurd h2 (show ¬ lo ≤ (2 : Int) by omega)
      · rw [z, z']
  · refine .brange (by omega) (by omega) ?_
    refine .beq (a := rangeL lo many) ?_ ?_
    · rw [Int.toNat_natCast]
      unfold lcT
      rw [decide_eq_true (by rw [rangeL_len]; omega)]
      show lcR _ _ _ = _
      rw [lcR_filter (p' := fun _ => true) (g' := fun a => lo + a) (fun _ _ => rfl) fun _ _ _ => rfl, List.filter_eq_self.mpr fun _ _ => rfl, range_shift]
    · exact .ok ⟨many, more, by omega, by omega, by omega, I.sl, I.so, rfl, I.nd, by show s.2.length ≤ 15; have := I.ln; omega, fun t m => by have := I.tie t m; omega, I.uni⟩
structure PT where
  lo : Int
  mid : Int
  hi : Int
structure D7 (n : Int) (ps : List PT) (ties : List (Int × Int)) : Prop where
  pos : ∀ p ∈ ps, 4 ≤ p.lo ∧ p.lo < p.mid ∧ p.mid ≤ p.hi ∧ p.hi ≤ n ∧ p.hi ≤ p.mid + 2 ∧ p.mid ≤ p.lo + 3
  ord : ps.Pairwise fun p q => p.hi ≤ q.lo
  nxt : ∀ p ∈ ps, p.hi = n ∨ ∃ q ∈ ps, q.lo = p.hi
  cov : ∀ x, 4 ≤ x → x < n → ∃ p ∈ ps, p.lo ≤ x ∧ x < p.hi
  w0 : (0, 1) ∈ ties
  w2 : (2, 3) ∈ ties
  tie : ∀ t ∈ ties, t = (0, 1) ∨ t = (2, 3) ∨ ∃ p ∈ ps, (p.lo ≤ t.2 ∧ t.2 < p.hi) ∧ t.1 < t.2 ∧ (t.1 = 0 ∨ t.1 = 2 ∨ p.lo ≤ t.1)
  uni : ∀ t ∈ ties, ∀ t' ∈ ties, t.2 = t'.2 → 4 ≤ t.1 → 4 ≤ t'.1 → t = t'
def fieldOf (p : PT) : List Int := rangeL p.lo (p.mid - p.lo).toNat
structure Walls (b : Str) : Prop where
  w0 : cpOf b 0 = 120
  w1 : cpOf b 1 = 46
  w2 : cpOf b 2 = 111
  w3 : cpOf b 3 = 46
structure DI7 (i : Nat) (ps : List PT) (s : Str × List (Int × Int) × List (List Int)) : Prop where
  len : ps.length = i
  n4 : 4 ≤ s.1.length
  nm : s.1.length ≤ 4 + 5 * i
  d : D7 (s.1.length : Int) ps s.2.1
  nd : s.2.1.Nodup
  tl : s.2.1.length ≤ 2 + 15 * i
  fl : s.2.2 = ps.map fieldOf
  so : signOk s.1
  wl : Walls s.1
theorem di_start : DI7 0 [] (PySem.Str.ofString "x.o.", ((0 : Int), (1 : Int)) :: (((2 : Int), (3 : Int)) :: []), []) := by
  refine ⟨rfl, by decide, by decide, ⟨fun p m => (by cases m), .nil, fun p m => (by cases m), fun x h1 h2 => absurd h2 (by show ¬ x < ((4 : Nat) : Int); omega), by simp, by simp, fun t m => ?_, fun t m t' m' e h1 h2 => ?_⟩, by decide, by decide, rfl, ?_, ⟨by decide, by decide, by decide, by decide⟩⟩
  · simp at m
    rcases m with m | m
    · exact .inl m
    · exact .inr (.inl m)
  · simp at m
    rcases m with rfl | rfl
    · exact absurd h1 (show ¬ (4 : Int) ≤ 0 by omega)
    · exact absurd h1 (show ¬ (4 : Int) ≤ 2 by omega)
  · intro c m
    rw [show (PySem.Str.ofString "x.o.").cps.toList = [120, 46, 111, 46] by decide] at m
    simp at m
    omega
theorem rangeL_mem {lo x : Int} {n : Nat} : x ∈ rangeL lo n ↔ lo ≤ x ∧ x < lo + n := by
  unfold rangeL
  rw [List.mem_map]
  constructor
  · rintro ⟨i, m, rfl⟩
    have := List.mem_range.mp m
    omega
  · intro h
    exact ⟨(x - lo).toNat, List.mem_range.mpr (by omega), by omega⟩
theorem di_step {i : Nat} (hi : i < 3) {ps : List PT} {s : Str × List (Int × Int) × List (List Int)} (D : DI7 i ps s) {p : T3 Str (List (Int × Int)) (List Int)} {many more : Nat} (P : PartOk (s.1.length : Int) many more p) :
    DI7 (i + 1) (ps ++ [⟨(s.1.length : Int), (s.1.length : Int) + many, (s.1.length : Int) + many + more⟩]) (s.1 ++ p.a, s.2.1 ++ p.b, s.2.2 ++ [p.c]) := by
  have hl : (s.1 ++ p.a).length = s.1.length + (many + more) := by rw [str_len_app, P.sl]
  have hlI : (((s.1 ++ p.a).length : Nat) : Int) = (s.1.length : Int) + many + more := by rw [hl]; omega
  have n4 := D.n4
  have nm := D.nm
  have p1 := P.m1
  have p3 := P.m3
  have p2 := P.o2
  have old : ∀ t ∈ s.2.1, t.2 < (s.1.length : Int) := fun t m => by
    rcases D.d.tie t m with rfl | rfl | ⟨q, mq, h1, _⟩
    · show (1 : Int) < _; omega
    · show (3 : Int) < _; omega
    · have := D.d.pos q mq; omega
  refine ⟨by rw [List.length_append, D.len]; rfl, by show 4 ≤ (s.1 ++ p.a).length; omega, by show (s.1 ++ p.a).length ≤ _; omega, ⟨fun q m => ?_, ?_, fun q m => ?_, fun x x0 x1 => ?_, List.mem_append_left _ D.d.w0, List.mem_append_left _ D.d.w2, fun t m => ?_, fun t m t' m' e h1 h2 => ?_⟩, ?_, ?_, ?_, signOk_app7 D.so P.so, ?_⟩
  · rw [hlI]
    rcases List.mem_append.mp m with m | m
    · have := D.d.pos q m; omega
    · cases List.mem_singleton.mp m
      refine ⟨by show 4 ≤ (s.1.length : Int); omega, by show (s.1.length : Int) < (s.1.length : Int) + many; omega, by show (s.1.length : Int) + many ≤ (s.1.length : Int) + many + more; omega, Int.le_refl _, by show (s.1.length : Int) + many + more ≤ (s.1.length : Int) + many + 2; omega, by show (s.1.length : Int) + many ≤ (s.1.length : Int) + 3; omega⟩
  · refine List.pairwise_append.mpr ⟨D.d.ord, List.pairwise_singleton _ _, fun q m r mr => ?_⟩
    cases List.mem_singleton.mp mr
    exact (D.d.pos q m).2.2.2.1
  · rw [hlI]
    rcases List.mem_append.mp m with m | m
    · rcases D.d.nxt q m with e | ⟨r, mr, e⟩
      · exact .inr ⟨_, List.mem_append_right _ (List.mem_singleton.mpr rfl), e.symm⟩
      · exact .inr ⟨r, List.mem_append_left _ mr, e⟩
    · cases List.mem_singleton.mp m
      exact .inl rfl
  · rw [hlI] at x1
    by_cases hx : x < (s.1.length : Int)
    · obtain ⟨q, mq, h⟩ := D.d.cov x x0 hx
      exact ⟨q, List.mem_append_left _ mq, h⟩
    · exact ⟨_, List.mem_append_right _ (List.mem_singleton.mpr rfl), by show (s.1.length : Int) ≤ x; omega, x1⟩
  · rcases List.mem_append.mp m with m | m
    · rcases D.d.tie t m with q | q | ⟨q, mq, h⟩
      · exact .inl q
      · exact .inr (.inl q)
      · exact .inr (.inr ⟨q, List.mem_append_left _ mq, h⟩)
    · obtain ⟨a1, a2, a3, a4⟩ := P.tie t m
      exact .inr (.inr ⟨_, List.mem_append_right _ (List.mem_singleton.mpr rfl), ⟨a2, a3⟩, a1, a4⟩)
  · rcases List.mem_append.mp m with m | m <;> rcases List.mem_append.mp m' with m' | m'
    · exact D.d.uni t m t' m' e h1 h2
    · have := old t m
      have := P.tie t' m'
      omega
    · have := old t' m'
      have := P.tie t m
      omega
    · have q := P.tie t m
      have q' := P.tie t' m'
      exact P.uni t m t' m' e (by omega) (by omega)
  · refine List.nodup_append.mpr ⟨D.nd, P.nd, fun x mx y my e => ?_⟩
    subst e
    have := old x mx
    have := P.tie x my
    omega
  · show (s.2.1 ++ p.b).length ≤ _
    rw [List.length_append]
    have := D.tl
    have := P.ln
    omega
  · show s.2.2 ++ [p.c] = _
    rw [D.fl, List.map_append, P.fl]
    show _ = _ ++ [fieldOf _]
    unfold fieldOf
    dsimp only
    rw [show ((s.1.length : Int) + many - (s.1.length : Int)).toNat = many by omega]
  · have W := D.wl
    refine ⟨?_, ?_, ?_, ?_⟩
    · show cpOf (s.1 ++ p.a) 0 = _; rw [cp_app1 (by omega) (by omega)]; exact W.w0
    · show cpOf (s.1 ++ p.a) 1 = _; rw [cp_app1 (by omega) (by omega)]; exact W.w1
    · show cpOf (s.1 ++ p.a) 2 = _; rw [cp_app1 (by omega) (by omega)]; exact W.w2
    · show cpOf (s.1 ++ p.a) 3 = _; rw [cp_app1 (by omega) (by omega)]; exact W.w3
structure Drawn7 (w : Int × Tup (Int × Int)) (ps : List PT) (b : Str) (fs : List (List Int)) : Prop where
  web : WebOk w
  n19 : w.1 ≤ 19
  d : D7 w.1 ps w.2.l
  tl : w.2.l.length ≤ 47
  two : 2 ≤ ps.length
  three : ps.length ≤ 3
  len : b.length = w.1.toNat
  ok : signOk b
  wl : Walls b
  sound : Sound w b
  fl : fs = ps.map fieldOf
theorem D7.perm {n : Int} {ps : List PT} {ts us : List (Int × Int)} (h : D7 n ps ts) (p : us.Perm ts) : D7 n ps us :=
  ⟨h.pos, h.ord, h.nxt, h.cov, p.mem_iff.mpr h.w0, p.mem_iff.mpr h.w2, fun t m => h.tie t (p.mem_iff.mp m), fun t m t' m' => h.uni t (p.mem_iff.mp m) t' (p.mem_iff.mp m')⟩
theorem breathes_wall {w : Int × Tup (Int × Int)} (h : WebOk w) {ps : List PT} {ts : List (Int × Int)} (hw : ∀ t, t ∈ ts ↔ t ∈ w.2.l) (d : D7 w.1 ps ts) {b : Str} (W : Walls b) : Breathes w b 0 ∧ Breathes w b 2 := by
  refine ⟨⟨0, .here, 1, (mem_nextL h).mpr (.inl ((hw _).mp d.w0)), ?_⟩, ⟨2, .here, 3, (mem_nextL h).mpr (.inl ((hw _).mp d.w2)), ?_⟩⟩
  · rw [sgn_cp, W.w1]; rfl
  · rw [sgn_cp, W.w3]; rfl
theorem drawn7 (cells : List Int) (h2 : 2 ≤ cells.length) (h3 : cells.length ≤ 3) : Sat (m_l_drawn cells) (fun p => ∃ ps, Drawn7 p.a ps p.b p.c) := by
  unfold m_l_drawn
  simp only [Res.okb]
  refine .bind (P := fun s => ∃ ps, DI7 cells.length ps s) (Sat.foldR (fun i s => ∃ ps, DI7 i ps s) ⟨[], di_start⟩ fun i s c hc ⟨ps, D⟩ => ?_) fun s ⟨ps, D⟩ => ?_
  · obtain ⟨signs, ties, fields⟩ := s
    have hi : i < 3 := by have := (List.getElem?_eq_some_iff.mp hc).1; omega
    have n4 : 4 ≤ signs.length := D.n4
    have nm : signs.length ≤ 4 + 5 * i := D.nm
    have tl : ties.length ≤ 2 + 15 * i := D.tl
    have ll := D.len
    have fl : fields = ps.map fieldOf := D.fl
    dsimp only
    rw [show strLen signs = .ok (signs.length : Int) from guardR_of (decide_eq_true (by omega))]
    simp only [Res.okb]
    refine .bind (part_is c _ (by omega) (by omega)) fun p ⟨many, more, P⟩ => ?_
    have := P.sl
    have := P.m3
    have := P.o2
    have := P.ln
    rw [catS_ok (by omega)]
    simp only [Res.okb]
    rw [extR_ok (by omega)]
    simp only [Res.okb]
    rw [appR_ok (by rw [fl, List.length_map]; omega)]
    exact .ok ⟨_, di_step hi D P⟩
  · obtain ⟨signs, ties, fields⟩ := s
    have n4 : 4 ≤ signs.length := D.n4
    have nm : signs.length ≤ 4 + 5 * cells.length := D.nm
    have tl : ties.length ≤ 2 + 15 * cells.length := D.tl
    dsimp only
    rw [show strLen signs = .ok (signs.length : Int) from guardR_of (decide_eq_true (by omega))]
    simp only [Res.okb]
    have pm := sortP_perm ties
    have wk : WebOk ((signs.length : Int), (⟨sortP ties⟩ : Tup (Int × Int))) := ⟨by show (1 : Int) ≤ (signs.length : Int); omega, by show (signs.length : Int) ≤ 40; omega, by show (sortP ties).length ≤ 200; rw [pm.length_eq]; omega, fun t m => by
      have m := pm.mem_iff.mp m
      rcases D.d.tie t m with rfl | rfl | ⟨q, mq, a, b, c⟩
      · exact ⟨by decide, by decide, by show (1 : Int) < (signs.length : Int); omega⟩
      · exact ⟨by decide, by decide, by show (3 : Int) < (signs.length : Int); omega⟩
      · have z := D.d.pos q mq
        have z4 : q.hi ≤ (signs.length : Int) := z.2.2.2.1
        exact ⟨by omega, b, by show t.2 < (signs.length : Int); omega⟩, pm.nodup_iff.mpr D.nd, sortP_pw ties⟩
    have hb : signs.length = (((signs.length : Int), (⟨sortP ties⟩ : Tup (Int × Int))) : Int × Tup (Int × Int)).1.toNat := by show signs.length = (signs.length : Int).toNat; omega
    rw [nexts _ wk]
    simp only [Res.okb]
    rw [cleared_is wk hb]
    simp only [Res.okb]
    have br := breathes_wall wk (ps := ps) (ts := ties) (fun t => pm.mem_iff.symm) D.d D.wl
    have cl : ∀ k : Int, 0 ≤ k → k < (signs.length : Int) → k ∉ goneL ((signs.length : Int), (⟨sortP ties⟩ : Tup (Int × Int))) signs → cpOf (clearedL ((signs.length : Int), (⟨sortP ties⟩ : Tup (Int × Int))) signs) k = cpOf signs k := fun k h0 h1 hn => by
      unfold clearedL
      rw [putL_at h0 (by omega), if_neg hn]
    have ng : ∀ k, (cpOf signs k = 46 ∨ Breathes ((signs.length : Int), (⟨sortP ties⟩ : Tup (Int × Int))) signs k) → k ∉ goneL ((signs.length : Int), (⟨sortP ties⟩ : Tup (Int × Int))) signs := fun k q m => by
      unfold goneL at m
      have m := (List.mem_filter.mp m).2
      rw [Bool.and_eq_true] at m
      rcases q with q | q
      · rw [sgn_cp, q] at m
        exact absurd m.1 (by decide)
      · rw [breathB_iff.mpr q] at m
        exact absurd m.2 (by decide)
    refine .ok ⟨ps, wk, by show (signs.length : Int) ≤ 19; omega, D.d.perm pm, by show (sortP ties).length ≤ 47; rw [pm.length_eq]; omega, by rw [D.len]; exact h2, by rw [D.len]; exact h3, ?_, putL_ok D.so _ (.inl rfl), ?_, cleared_sound wk hb, D.fl⟩
    · show (clearedL _ _).length = _
      unfold clearedL
      rw [putL_len]; exact hb
    · have W := D.wl
      refine ⟨?_, ?_, ?_, ?_⟩
      · exact (cl 0 (by omega) (by omega) (ng _ (.inr br.1))).trans W.w0
      · exact (cl 1 (by omega) (by omega) (ng _ (.inl W.w1))).trans W.w1
      · exact (cl 2 (by omega) (by omega) (ng _ (.inr br.2))).trans W.w2
      · exact (cl 3 (by omega) (by omega) (ng _ (.inl W.w3))).trans W.w3
section
variable {w : Int × Tup (Int × Int)} {ps : List PT}
def InP (p : PT) (x : Int) : Prop := p.lo ≤ x ∧ x < p.hi
theorem part_same {n : Int} {ts : List (Int × Int)} (d : D7 n ps ts) {p q : PT} (mp : p ∈ ps) (mq : q ∈ ps) {x : Int} (hp : InP p x) (hq : InP q x) : p = q := by
  obtain ⟨i, hi, rfl⟩ := List.mem_iff_getElem.mp mp
  obtain ⟨j, hj, rfl⟩ := List.mem_iff_getElem.mp mq
  have o := List.pairwise_iff_getElem.mp d.ord
  obtain ⟨p1, p2⟩ := hp
  obtain ⟨q1, q2⟩ := hq
  rcases Nat.lt_trichotomy i j with l | rfl | l
  · have := o i j hi hj l; omega
  · rfl
  · have := o j i hj hi l; omega
theorem near7 (h : WebOk w) (d : D7 w.1 ps w.2.l) {p : PT} (mp : p ∈ ps) {x y : Int} (hx : InP p x) (m : y ∈ nextL w x) : InP p y ∨ y = 0 ∨ y = 2 := by
  have l4 := (d.pos p mp).1
  have hx1 := hx.1
  have hx2 := hx.2
  rcases (mem_nextL h).mp m with m | m
  · rcases d.tie _ m with e | e | ⟨q, mq, h1, h2, h3⟩
    · have : x = 0 := congrArg Prod.fst e
      omega
    · have : x = 2 := congrArg Prod.fst e
      omega
    · have h3 : x = 0 ∨ x = 2 ∨ q.lo ≤ x := h3
      have h2 : x < y := h2
      have h1 : q.lo ≤ y ∧ y < q.hi := h1
      have : p = q := part_same d mp mq hx ⟨by omega, by omega⟩
      subst this
      exact .inl h1
  · rcases d.tie _ m with e | e | ⟨q, mq, h1, h2, h3⟩
    · have : x = 1 := congrArg Prod.snd e
      omega
    · have : x = 3 := congrArg Prod.snd e
      omega
    · have h3 : y = 0 ∨ y = 2 ∨ q.lo ≤ y := h3
      have h2 : y < x := h2
      have h1 : q.lo ≤ x ∧ x < q.hi := h1
      have : p = q := part_same d mp mq hx h1
      subst this
      rcases h3 with e | e | e
      · exact .inr (.inl e)
      · exact .inr (.inr e)
      · exact .inl ⟨e, by omega⟩
def Agree (p : PT) (b b' : Str) : Prop := ∀ x, InP p x → cpOf b x = cpOf b' x
theorem Agree.symm {p : PT} {b b' : Str} (A : Agree p b b') : Agree p b' b := fun x m => (A x m).symm
theorem breathes_back (h : WebOk w) {b : Str} {k x : Int} (r : G.Reach (nextL w) (sameS b k) k x) (hb : Breathes w b x) : Breathes w b k := by
  have ex : sgn b x = sgn b k := of_decide_eq_true (Reach.ok r (decide_eq_true rfl))
  have r' := Reach.symm (nextL_symm h) (decide_eq_true rfl) r
  refine breathes_of h (k := x) (x := k) ?_ hb
  rw [ex]; exact r'
theorem reach_in (h : WebOk w) (d : D7 w.1 ps w.2.l) {p : PT} (mp : p ∈ ps) {b : Str} (W : Walls b) {y : Int} (hy : InP p y) (nb : ¬ Breathes w b y) {x : Int} (r : G.Reach (nextL w) (sameS b y) y x) : InP p x := by
  have bw := breathes_wall h (ts := w.2.l) (fun _ => Iff.rfl) d W
  induction r with
  | here => exact hy
  | on r m o ih =>
    rcases near7 h d mp ih m with q | q | q
    · exact q
    · subst q; exact absurd (breathes_back h (.on r m o) bw.1) nb
    · subst q; exact absurd (breathes_back h (.on r m o) bw.2) nb
theorem reach_go (h : WebOk w) (d : D7 w.1 ps w.2.l) {p : PT} (mp : p ∈ ps) {b b' : Str} (W : Walls b) (A : Agree p b b') {y : Int} (hy : InP p y) (nb : ¬ Breathes w b y) {x : Int} (r : G.Reach (nextL w) (sameS b y) y x) : G.Reach (nextL w) (sameS b' y) y x := by
  induction r with
  | here => exact .here
  | on r m o ih =>
    refine .on ih m ?_
    have hx := reach_in h d mp W hy nb (.on r m o)
    refine decide_eq_true (sgn_iff.mpr ?_)
    rw [← A _ hx, ← A _ hy]
    exact sgn_iff.mp (of_decide_eq_true o)
theorem reach_come (h : WebOk w) (d : D7 w.1 ps w.2.l) {p : PT} (mp : p ∈ ps) {b b' : Str} (W : Walls b) (W' : Walls b') (A : Agree p b b') {y : Int} (hy : InP p y) (nb : ¬ Breathes w b y) {x : Int} (r : G.Reach (nextL w) (sameS b' y) y x) : G.Reach (nextL w) (sameS b y) y x := by
  have l4 := (d.pos p mp).1
  induction r with
  | here => exact .here
  | @on z x r m o ih =>
    have hz := reach_in h d mp W hy nb ih
    have o' : cpOf b' x = cpOf b' y := sgn_iff.mp (of_decide_eq_true o)
    rcases near7 h d mp hz m with q | q | q
    · exact .on ih m (decide_eq_true (sgn_iff.mpr (by rw [A _ q, A _ hy]; exact o')))
    · subst q
      have : InP p 0 := reach_in h d mp W hy nb (.on ih m (decide_eq_true (sgn_iff.mpr (by rw [A _ hy, W.w0, ← W'.w0]; exact o'))))
      have := this.1
      omega
    · subst q
      have : InP p 2 := reach_in h d mp W hy nb (.on ih m (decide_eq_true (sgn_iff.mpr (by rw [A _ hy, W.w2, ← W'.w2]; exact o'))))
      have := this.1
      omega
theorem part_rng (d : D7 w.1 ps w.2.l) {p : PT} (mp : p ∈ ps) {x : Int} (hx : InP p x) : 0 ≤ x ∧ x < w.1 := by
  have := d.pos p mp
  have h1 := hx.1
  have h2 := hx.2
  omega
theorem chain_same (h : WebOk w) (d : D7 w.1 ps w.2.l) {p : PT} (mp : p ∈ ps) {b b' : Str} (W : Walls b) (W' : Walls b') (A : Agree p b b') {y : Int} (hy : InP p y) (nb : ¬ Breathes w b y) :
    ¬ Breathes w b' y ∧ PL w (sameS b' y) y = PL w (sameS b y) y := by
  have ry := part_rng d mp hy
  refine ⟨fun ⟨x, r, o, mo, ho⟩ => ?_, rise_ext (PL_rise h y).1 (PL_rise h y).1 fun x => ?_⟩
  · have r' := reach_come h d mp W W' A hy nb r
    have hx := reach_in h d mp W hy nb r'
    have ho : cpOf b' o = 46 := sgn_eq.mp ho
    rcases near7 h d mp hx mo with q | q | q
    · exact nb ⟨x, r', o, mo, sgn_eq.mpr (by rw [A _ q]; exact ho)⟩
    · subst q; rw [W'.w0] at ho; omega
    · subst q; rw [W'.w2] at ho; omega
  · rw [mem_PL h ry, mem_PL h ry]
    exact ⟨reach_come h d mp W W' A hy nb, reach_go h d mp W A hy nb⟩
theorem breath_same (h : WebOk w) (d : D7 w.1 ps w.2.l) {p : PT} (mp : p ∈ ps) {b b' : Str} (W : Walls b) (W' : Walls b') (A : Agree p b b') {y : Int} (hy : InP p y) : Breathes w b y ↔ Breathes w b' y :=
  ⟨fun q => Classical.byContradiction fun n => (chain_same h d mp W' W A.symm hy n).1 q, fun q => Classical.byContradiction fun n => (chain_same h d mp W W' A hy n).1 q⟩
theorem choked_in (h : WebOk w) (d : D7 w.1 ps w.2.l) {p : PT} (mp : p ∈ ps) {b : Str} (W : Walls b) {c : Nat} {k x : Int} (hk : InP p k) (m : Choked w b c k x) : InP p x := by
  obtain ⟨y, my, hy, nb, px⟩ := m
  have bw := breathes_wall h (ts := w.2.l) (fun _ => Iff.rfl) d W
  rcases near7 h d mp hk my with q | q | q
  · exact reach_in h d mp W q nb ((mem_PL h (part_rng d mp q)).mp px)
  · subst q; exact absurd bw.1 nb
  · subst q; exact absurd bw.2 nb
theorem choked_go (h : WebOk w) (d : D7 w.1 ps w.2.l) {p : PT} (mp : p ∈ ps) {b b' : Str} (W : Walls b) (W' : Walls b') (A : Agree p b b') {c : Nat} {k x : Int} (hk : InP p k) (m : Choked w b c k x) : Choked w b' c k x := by
  obtain ⟨y, my, hy, nb, px⟩ := m
  have bw := breathes_wall h (ts := w.2.l) (fun _ => Iff.rfl) d W
  rcases near7 h d mp hk my with q | q | q
  · obtain ⟨n', e⟩ := chain_same h d mp W W' A q nb
    exact ⟨y, my, by rw [← A _ q]; exact hy, n', by rw [e]; exact px⟩
  · subst q; exact absurd bw.1 nb
  · subst q; exact absurd bw.2 nb
theorem choked_same (h : WebOk w) (d : D7 w.1 ps w.2.l) {p : PT} (mp : p ∈ ps) {b b' : Str} (W : Walls b) (W' : Walls b') (A : Agree p b b') {c : Nat} {k : Int} (hk : InP p k) : chokedL w b c k = chokedL w b' c k := by
  unfold chokedL
  refine List.filter_congr fun x _ => ?_
  have : Choked w b c k x ↔ Choked w b' c k x := ⟨choked_go h d mp W W' A hk, choked_go h d mp W' W A.symm hk⟩
  show @decide (Choked w b c k x) (Classical.propDecidable _) = @decide (Choked w b' c k x) (Classical.propDecidable _)
  rw [show Choked w b c k x = Choked w b' c k x from propext this]
theorem put_in {p : PT} (p4 : 4 ≤ p.lo) {b : Str} (hl : 4 ≤ b.length) (W : Walls b) {s : List Int} (hs : ∀ x ∈ s, InP p x) (c : Nat) : Walls (putL b s c) := by
  have no : ∀ k : Int, k < 4 → k ∉ s := fun k hk m => by have := (hs k m).1; omega
  exact ⟨by rw [putL_at (by omega) (by omega), if_neg (no 0 (by omega))]; exact W.w0, by rw [putL_at (by omega) (by omega), if_neg (no 1 (by omega))]; exact W.w1, by rw [putL_at (by omega) (by omega), if_neg (no 2 (by omega))]; exact W.w2, by rw [putL_at (by omega) (by omega), if_neg (no 3 (by omega))]; exact W.w3⟩
theorem put_agree (d : D7 w.1 ps w.2.l) {p : PT} (mp : p ∈ ps) {b b' : Str} (hb : b.length = w.1.toNat) (hb' : b'.length = w.1.toNat) (A : Agree p b b') (s : List Int) (c : Nat) : Agree p (putL b s c) (putL b' s c) := fun x hx => by
  have r := part_rng d mp hx
  rw [putL_at r.1 (by omega), putL_at r.1 (by omega), A x hx]
theorem put_out {b : Str} {p : PT} {s : List Int} (hs : ∀ x ∈ s, InP p x) (c : Nat) {x : Int} (x0 : 0 ≤ x) (x1 : x < b.length) (hx : ¬ InP p x) : cpOf (putL b s c) x = cpOf b x := by
  rw [putL_at x0 x1, if_neg fun m => hx (hs x m)]
structure Laid7 (w : Int × Tup (Int × Int)) (p : PT) (b b' : Str) (c c' : Nat) (k : Int) : Prop where
  lost : (laidT w b c c' k).c = (laidT w b' c c' k).c
  agree : Agree p (laidT w b c c' k).a (laidT w b' c c' k).a
  wl : Walls (laidT w b c c' k).a
  out : ∀ x, 0 ≤ x → x < w.1 → ¬ InP p x → cpOf (laidT w b c c' k).a x = cpOf b x
theorem laid7 (h : WebOk w) (d : D7 w.1 ps w.2.l) {p : PT} (mp : p ∈ ps) {b b' : Str} (hb : b.length = w.1.toNat) (hb' : b'.length = w.1.toNat) (W : Walls b) (W' : Walls b') (A : Agree p b b') (c c' : Nat) {k : Int} (hk : InP p k) : Laid7 w p b b' c c' k := by
  have P := d.pos p mp
  have l4 : 4 ≤ w.1.toNat := by have := P; omega
  have hs1 : ∀ x ∈ [k], InP p x := fun x m => by cases List.mem_singleton.mp m; exact hk
  have W1 := put_in P.1 (by omega) W hs1 c
  have W1' := put_in P.1 (by omega) W' hs1 c
  have A1 := put_agree d mp hb hb' A [k] c
  have l1 : (putL b [k] c).length = w.1.toNat := by rw [putL_len]; exact hb
  have l1' : (putL b' [k] c).length = w.1.toNat := by rw [putL_len]; exact hb'
  have ec := choked_same h d mp W1 W1' A1 (c := c') hk
  have ci : ∀ x ∈ chokedL w (putL b [k] c) c' k, InP p x := fun x m => choked_in h d mp W1 hk ((mem_chokedL h).mp m)
  have W2 := put_in P.1 (by omega) W1 ci 46
  have W2' := put_in P.1 (by omega) W1' ci 46
  have A2 := put_agree d mp l1 l1' A1 (chokedL w (putL b [k] c) c' k) 46
  have l2 : (putL (putL b [k] c) (chokedL w (putL b [k] c) c' k) 46).length = w.1.toNat := by rw [putL_len]; exact l1
  have l2' : (putL (putL b' [k] c) (chokedL w (putL b [k] c) c' k) 46).length = w.1.toNat := by rw [putL_len]; exact l1'
  have out2 : ∀ x, 0 ≤ x → x < w.1 → ¬ InP p x → cpOf (putL (putL b [k] c) (chokedL w (putL b [k] c) c' k) 46) x = cpOf b x := fun x x0 x1 hx => by
    rw [put_out ci 46 x0 (by omega) hx, put_out hs1 c x0 (by omega) hx]
  have e1 : laidT w b c c' k = if breathB w (putL (putL b [k] c) (chokedL w (putL b [k] c) c' k) 46) k = true then ⟨putL (putL b [k] c) (chokedL w (putL b [k] c) c' k) 46, chokedL w (putL b [k] c) c' k, []⟩ else ⟨putL (putL (putL b [k] c) (chokedL w (putL b [k] c) c' k) 46) (PL w (sameS (putL (putL b [k] c) (chokedL w (putL b [k] c) c' k) 46) k) k) 46, chokedL w (putL b [k] c) c' k, PL w (sameS (putL (putL b [k] c) (chokedL w (putL b [k] c) c' k) 46) k) k⟩ := rfl
  have e2 : laidT w b' c c' k = if breathB w (putL (putL b' [k] c) (chokedL w (putL b [k] c) c' k) 46) k = true then ⟨putL (putL b' [k] c) (chokedL w (putL b [k] c) c' k) 46, chokedL w (putL b [k] c) c' k, []⟩ else ⟨putL (putL (putL b' [k] c) (chokedL w (putL b [k] c) c' k) 46) (PL w (sameS (putL (putL b' [k] c) (chokedL w (putL b [k] c) c' k) 46) k) k) 46, chokedL w (putL b [k] c) c' k, PL w (sameS (putL (putL b' [k] c) (chokedL w (putL b [k] c) c' k) 46) k) k⟩ := by rw [ec]; rfl
  rw [show (Laid7 w p b b' c c' k) ↔ ((laidT w b c c' k).c = (laidT w b' c c' k).c ∧ Agree p (laidT w b c c' k).a (laidT w b' c c' k).a ∧ Walls (laidT w b c c' k).a ∧ ∀ x, 0 ≤ x → x < w.1 → ¬ InP p x → cpOf (laidT w b c c' k).a x = cpOf b x) from ⟨fun q => ⟨q.1, q.2, q.3, q.4⟩, fun ⟨a, b, c, d⟩ => ⟨a, b, c, d⟩⟩, e1, e2]
  generalize putL (putL b [k] c) (chokedL w (putL b [k] c) c' k) 46 = g at *
  generalize putL (putL b' [k] c) (chokedL w (putL b [k] c) c' k) 46 = g' at *
  by_cases br : Breathes w g k
  · have br' := (breath_same h d mp W2 W2' A2 hk).mp br
    rw [if_pos (breathB_iff.mpr br), if_pos (breathB_iff.mpr br')]
    exact ⟨rfl, A2, W2, out2⟩
  · have br' : ¬ Breathes w g' k := fun z => br ((breath_same h d mp W2 W2' A2 hk).mpr z)
    rw [if_neg fun z => br (breathB_iff.mp z), if_neg fun z => br' (breathB_iff.mp z)]
    obtain ⟨_, e⟩ := chain_same h d mp W2 W2' A2 hk br
    have pi : ∀ x ∈ PL w (sameS g k) k, InP p x := fun x m => reach_in h d mp W2 hk br ((mem_PL h (part_rng d mp hk)).mp m)
    rw [e]
    refine ⟨rfl, put_agree d mp l2 l2' A2 _ 46, put_in P.1 (by omega) W2 pi 46, fun x x0 x1 hx => ?_⟩
    show cpOf (putL g _ 46) x = _
    rw [put_out pi 46 x0 (by omega) hx]
    exact out2 x x0 x1 hx
end
section
variable {w : Int × Tup (Int × Int)} {ps : List PT} {b : Str}
theorem field_mem {p : PT} {x : Int} (h : p.lo ≤ p.mid) : x ∈ fieldOf p ↔ p.lo ≤ x ∧ x < p.mid := by
  unfold fieldOf
  rw [rangeL_mem]
  omega
theorem fs_ok {n : Int} {ts : List (Int × Int)} (d : D7 n ps ts) (h2 : 2 ≤ ps.length) (h3 : ps.length ≤ 3) : FSok n (ps.map fieldOf) := by
  refine ⟨by rw [List.length_map]; exact h2, by rw [List.length_map]; omega, fun f m => ?_, fun f m => ?_, fun f m k mk => ?_, ?_⟩
  · obtain ⟨p, mp, rfl⟩ := List.mem_map.mp m
    have P := d.pos p mp
    intro z
    have : p.lo ∈ fieldOf p := (field_mem (by omega)).mpr ⟨Int.le_refl _, P.2.1⟩
    rw [z] at this; cases this
  · obtain ⟨p, mp, rfl⟩ := List.mem_map.mp m
    unfold fieldOf rangeL
    refine List.pairwise_map.mpr (List.Pairwise.imp (fun {x y} (z : x < y) => ?_) List.pairwise_lt_range)
    omega
  · obtain ⟨p, mp, rfl⟩ := List.mem_map.mp m
    have P := d.pos p mp
    have := (field_mem (by omega)).mp mk
    omega
  · refine List.pairwise_map.mpr (List.Pairwise.imp_of_mem (fun {p q} mp mq o k mk mk2 => ?_) d.ord)
    have P := d.pos p mp
    have Q := d.pos q mq
    have := (field_mem (by omega)).mp mk
    have := (field_mem (by omega)).mp mk2
    omega
theorem own_part {n : Int} {ts : List (Int × Int)} (d : D7 n ps ts) (h2 : 2 ≤ ps.length) (h3 : ps.length ≤ 3) {j : Nat} {p : PT} (hj : ps[j]? = some p) {x : Int} (hx : InP p x) : own (ps.map fieldOf) x = if x < p.mid then some (j : Int) else none := by
  have mp := List.mem_of_getElem? hj
  have P := d.pos p mp
  have F := fs_ok d h2 h3
  have hjf : (ps.map fieldOf)[j]? = some (fieldOf p) := by rw [List.getElem?_map, hj]; rfl
  by_cases hm : x < p.mid
  · rw [if_pos hm, own_at F.dj hjf ((field_mem (by omega)).mpr ⟨hx.1, hm⟩)]
  · rw [if_neg hm]
    refine own_none.mpr fun f m mk => ?_
    obtain ⟨q, mq, rfl⟩ := List.mem_map.mp m
    have Q := d.pos q mq
    have := (field_mem (by omega)).mp mk
    have e := part_same d mp mq hx ⟨this.1, by omega⟩
    subst e
    omega
theorem own_wall {n : Int} {ts : List (Int × Int)} (d : D7 n ps ts) {x : Int} (hx : x < 4) : own (ps.map fieldOf) x = none := by
  refine own_none.mpr fun f m mk => ?_
  obtain ⟨q, mq, rfl⟩ := List.mem_map.mp m
  have Q := d.pos q mq
  have := (field_mem (by omega)).mp mk
  omega
theorem tie_none {n : Int} {ts : List (Int × Int)} (d : D7 n ps ts) (h2 : 2 ≤ ps.length) (h3 : ps.length ≤ 3) : ts.findSome? (tieT (ps.map fieldOf)) = none := by
  refine fs_none fun t m => ?_
  unfold tieT
  rcases d.tie t m with rfl | rfl | ⟨p, mp, h1, hl, h⟩
  · rw [show own (ps.map fieldOf) ((0 : Int), (1 : Int)).1 = none from own_wall d (by decide)]
  · rw [show own (ps.map fieldOf) ((2 : Int), (3 : Int)).1 = none from own_wall d (by decide)]
  · obtain ⟨j, hj⟩ := List.mem_iff_getElem?.mp mp
    rcases h with e | e | e
    · rw [own_wall d (x := t.1) (by omega)]
    · rw [own_wall d (x := t.1) (by omega)]
    · rw [own_part d h2 h3 hj (x := t.1) ⟨e, by omega⟩, own_part d h2 h3 hj (x := t.2) h1]
      by_cases q1 : t.1 < p.mid
      · by_cases q2 : t.2 < p.mid
        · rw [if_pos q1, if_pos q2]
          simp
        · rw [if_pos q1, if_neg q2]
      · rw [if_neg q1]
theorem shk_part (h : WebOk w) (d : D7 w.1 ps w.2.l) (hb : b.length = w.1.toNat) (W : Walls b) (h2 : 2 ≤ ps.length) (h3 : ps.length ≤ 3) {P : List Int} (m : P ∈ SHK w b (ps.map fieldOf)) :
    0 ∉ P ∧ 2 ∉ P ∧ ∃ p ∈ ps, ∀ k ∈ P, InP p k ∧ p.mid ≤ k ∧ cpOf b k ≠ 46 ∧ P = pcK w b (ps.map fieldOf) k ∧ isXO b (ps.map fieldOf) k = true := by
  have n1 := h.n1
  have m0 := m
  unfold SHK at m
  obtain ⟨r, mr, rfl⟩ := List.mem_map.mp m
  obtain ⟨m1, m2⟩ := List.mem_filter.mp mr
  have hr : 0 ≤ r ∧ r < w.1 := by have := mem_rangeL.mp m1; omega
  unfold shk at m2
  rw [Bool.and_eq_true, Bool.and_eq_true] at m2
  obtain ⟨x1, x2, x3⟩ := m2
  have bad : ∀ k ∈ pcK w b (ps.map fieldOf) r, ∀ o ∈ nextL w k, badB b (ps.map fieldOf) o = false := fun k mk o mo => by
    unfold shakyB at x3
    have := List.all_eq_true.mp (List.all_eq_true.mp x3 k mk) o mo
    simpa using this
  have no : ∀ z z1 : Int, z1 < 4 → z1 ∈ nextL w z → cpOf b z1 = 46 → z ∉ pcK w b (ps.map fieldOf) r := fun z z1 hz hn hc mz => by
    have := bad z mz z1 hn
    unfold badB at this
    rw [own_wall d hz, decide_eq_true (show sgn b z1 = dot from sgn_eq.mpr hc)] at this
    exact absurd this (by decide)
  have n0 : 0 ∉ pcK w b (ps.map fieldOf) r := no 0 1 (by decide) ((mem_nextL h).mpr (.inl d.w0)) W.w1
  have n2 : 2 ∉ pcK w b (ps.map fieldOf) r := no 2 3 (by decide) ((mem_nextL h).mpr (.inl d.w2)) W.w3
  have ps' : ∀ k ∈ pcK w b (ps.map fieldOf) r, (0 ≤ k ∧ k < w.1) ∧ isXO b (ps.map fieldOf) k = true ∧ pcK w b (ps.map fieldOf) k = pcK w b (ps.map fieldOf) r ∧ cpOf b k ≠ 46 ∧ own (ps.map fieldOf) k = none := fun k mk => by
    obtain ⟨q1, q2, q3, q4⟩ := pc_same h hb hr x1 mk
    obtain ⟨z1, z2⟩ := xo_of h hb q1 q2
    unfold outB at z2
    rw [Bool.and_eq_true] at z2
    refine ⟨q1, q2, q4, fun e => ?_, Option.isNone_iff_eq_none.mp z2.2⟩
    have := of_decide_eq_true z2.1
    rw [← this] at z1
    rcases z1 with z1 | z1
    · have : cpOf b k = 120 := sgn_eq.mp z1
      omega
    · have : cpOf b k = 111 := sgn_eq.mp z1
      omega
  refine ⟨n0, n2, ?_⟩
  have r4 : 4 ≤ r := by
    have mr : r ∈ pcK w b (ps.map fieldOf) r := PL_self h hr
    have q := (ps' r mr).2.2.2.1
    have c0 : r ≠ 0 := fun e => n0 (e ▸ mr)
    have c2 : r ≠ 2 := fun e => n2 (e ▸ mr)
    have c1 : r ≠ 1 := fun e => by rw [e] at q; exact q W.w1
    have c3 : r ≠ 3 := fun e => by rw [e] at q; exact q W.w3
    omega
  obtain ⟨p, mp, hp⟩ := d.cov r r4 hr.2
  obtain ⟨j, hj⟩ := List.mem_iff_getElem?.mp mp
  have inp : ∀ k, G.Reach (nextL w) (outB b (ps.map fieldOf) (sgn (OB b (ps.map fieldOf)) r)) r k → InP p k := fun k q => by
    induction q with
    | here => exact hp
    | on q m o ih =>
      rcases near7 h d mp ih m with z | z | z
      · exact z
      · subst z; exact absurd ((mem_PL h hr).mpr (.on q m o)) n0
      · subst z; exact absurd ((mem_PL h hr).mpr (.on q m o)) n2
  refine ⟨p, mp, fun k mk => ?_⟩
  have ik := inp k ((mem_PL h hr).mp mk)
  obtain ⟨_, q2, q3, q4, q5⟩ := ps' k mk
  refine ⟨ik, ?_, q4, q3.symm, q2⟩
  rw [own_part d h2 h3 hj ik] at q5
  split at q5
  · cases q5
  · omega
theorem onceI_one : ∀ {l : List Int} {a : Int}, (∀ x ∈ l, x = a) → (onceI l).length ≤ 1 := fun {l a} h => by
  have nd := onceI_nodup l
  have al : ∀ x ∈ onceI l, x = a := fun x m => h x (mem_onceI.mp m)
  match e : onceI l with
  | [] => simp
  | [x] => simp
  | x :: y :: t =>
    rw [e] at nd al
    have a1 := al x (by simp)
    have a2 := al y (by simp)
    rw [a1, a2] at nd
    simp at nd
theorem touch_one (h : WebOk w) (d : D7 w.1 ps w.2.l) (h2 : 2 ≤ ps.length) (h3 : ps.length ≤ 3) {P : List Int} {p : PT} (mp : p ∈ ps) (hP : ∀ k ∈ P, InP p k) : (TT w (ps.map fieldOf) P).length ≤ 1 := by
  obtain ⟨j, hj⟩ := List.mem_iff_getElem?.mp mp
  unfold TT setI'
  rw [(sortI_perm _).length_eq]
  refine onceI_one (a := (j : Int)) fun x m => ?_
  unfold touchL at m
  obtain ⟨k, mk, m⟩ := List.mem_flatMap.mp m
  obtain ⟨o, mo, e⟩ := List.mem_filterMap.mp m
  rcases near7 h d mp (hP k mk) mo with q | q | q
  · rw [own_part d h2 h3 hj q] at e
    split at e
    · exact (Option.some.inj e).symm
    · cases e
  · subst q; rw [own_wall d (by decide)] at e; cases e
  · subst q; rw [own_wall d (by decide)] at e; cases e
theorem no_breath (h : WebOk w) (d : D7 w.1 ps w.2.l) (W : Walls b) {p : PT} (mp : p ∈ ps) {q m : Int} (hm : m = p.mid) (hq : q = p.mid + 1) (q1 : q < p.hi) (tq : m ∈ nextL w q) (cm : cpOf b m ≠ 46) (un : cpOf b m ≠ cpOf b q) (n0 : cpOf b 0 ≠ cpOf b q ∨ 0 ∉ nextL w q) (n2 : cpOf b 2 ≠ cpOf b q ∨ 2 ∉ nextL w q) : ¬ Breathes w b q := by
  have P := d.pos p mp
  have hm0 : (m, q) ∈ w.2.l := by
    rcases (mem_nextL h).mp tq with z | z
    · have := (h.ok _ z).2.1
      have : q < m := this
      omega
    · exact z
  have nb : ∀ y ∈ nextL w q, y = m ∨ y = 0 ∨ y = 2 := fun y my => by
    rcases near7 h d mp (x := q) ⟨by omega, q1⟩ my with z | z | z
    · obtain ⟨z1, z2⟩ := z
      rcases (mem_nextL h).mp my with t | t
      · have := (h.ok _ t).2.1
        have : q < y := this
        omega
      · have := d.uni _ t _ hm0 rfl (show 4 ≤ y by omega) (show 4 ≤ m by omega)
        exact .inl (congrArg Prod.fst this)
    · exact .inr (.inl z)
    · exact .inr (.inr z)
  have only : ∀ x, G.Reach (nextL w) (fun y => decide (sgn b y = sgn b q)) q x → x = q := fun x r => by
    induction r with
    | here => rfl
    | on r my o ih =>
      subst ih
      have o : cpOf b _ = cpOf b _ := sgn_iff.mp (of_decide_eq_true o)
      rcases nb _ my with z | z | z
      · subst z; exact absurd o un
      · subst z
        rcases n0 with z | z
        · exact absurd o z
        · exact absurd my z
      · subst z
        rcases n2 with z | z
        · exact absurd o z
        · exact absurd my z
  rintro ⟨x, r, y, my, hy⟩
  have := only x r
  subst this
  have hy : cpOf b y = 46 := sgn_eq.mp hy
  rcases nb y my with z | z | z
  · subst z; exact cm hy
  · subst z; rw [W.w0] at hy; omega
  · subst z; rw [W.w2] at hy; omega
theorem tied_no (h : WebOk w) (d : D7 w.1 ps w.2.l) (hb : b.length = w.1.toNat) (W : Walls b) (sd : Sound w b) (h2 : 2 ≤ ps.length) (h3 : ps.length ≤ 3) {P Q : List Int} (mP : P ∈ SHK w b (ps.map fieldOf)) (mQ : Q ∈ SHK w b (ps.map fieldOf)) (ne : P ≠ Q) : tiedB w P Q = false := by
  have n1 := h.n1
  obtain ⟨p0, p2, p, mp, hP⟩ := shk_part h d hb W h2 h3 mP
  obtain ⟨q0, q2, q, mq, hQ⟩ := shk_part h d hb W h2 h3 mQ
  refine Bool.eq_false_iff.mpr fun t => ?_
  unfold tiedB at t
  obtain ⟨k, mk, t⟩ := List.any_eq_true.mp t
  obtain ⟨o, mo, t⟩ := List.any_eq_true.mp t
  have mo2 := of_decide_eq_true t
  obtain ⟨k1, k2, k3, k4, k5⟩ := hP k mk
  obtain ⟨o1, o2, o3, o4, o5⟩ := hQ o mo2
  have L := d.pos q mq
  have e : p = q := by
    rcases near7 h d mp k1 mo with z | z | z
    · exact part_same d mp mq z o1
    · have := o1.1; omega
    · have := o1.1; omega
  subst e
  have kr := part_rng d mp k1
  have or' := part_rng d mp o1
  have z1 := xo_of h hb kr k5
  have z2 := xo_of h hb or' o5
  have cpk : sgn b k = sgn (OB b (ps.map fieldOf)) k := by
    have := z1.2; unfold outB at this; rw [Bool.and_eq_true] at this; exact of_decide_eq_true this.1
  have cpo : sgn b o = sgn (OB b (ps.map fieldOf)) o := by
    have := z2.2; unfold outB at this; rw [Bool.and_eq_true] at this; exact of_decide_eq_true this.1
  have own0 : ∀ z < 4, own (ps.map fieldOf) z = none := fun z hz => own_wall d hz
  -- a neighbour of the same sign outside lies in the same piece
  have join : ∀ {x y : Int} {R : List Int}, 0 ≤ x ∧ x < w.1 → R = pcK w b (ps.map fieldOf) x → sgn b x = sgn (OB b (ps.map fieldOf)) x → y ∈ nextL w x → sgn b y = sgn b x → own (ps.map fieldOf) y = none → y ∈ R := fun {x y R} hx eR ex my es eo => by
    subst eR
    refine (mem_PL h hx).mpr (.on .here my ?_)
    unfold outB
    rw [eo, es, ex, decide_eq_true rfl]; rfl
  have oo : own (ps.map fieldOf) o = none := by
    have := z2.2; unfold outB at this; rw [Bool.and_eq_true] at this; exact Option.isNone_iff_eq_none.mp this.2
  have un : cpOf b k ≠ cpOf b o := fun e => by
    have mo3 : o ∈ P := join kr k4 cpk mo (sgn_iff.mpr e.symm) oo
    exact ne ((hP o mo3).2.2.2.1.trans o4.symm)
  have kk : k ≠ o := fun e => un (by rw [e])
  have mo' := nextL_symm h _ _ mo
  have kh := k1.2
  have oh := o1.2
  by_cases hk : k = p.mid + 1
  · have nbr := no_breath h d W mp (q := k) (m := o) (by omega) hk (by omega) mo o3 (fun e => un e.symm) (by
      by_cases c : cpOf b 0 = cpOf b k
      · exact .inr fun m0 => p0 (join kr k4 cpk m0 (sgn_iff.mpr c) (own0 0 (by decide)))
      · exact .inl c) (by
      by_cases c : cpOf b 2 = cpOf b k
      · exact .inr fun m0 => p2 (join kr k4 cpk m0 (sgn_iff.mpr c) (own0 2 (by decide)))
      · exact .inl c)
    exact nbr (sd k kr.1 kr.2 fun z => k3 (sgn_eq.mp z))
  · have nbr := no_breath h d W mp (q := o) (m := k) (by omega) (by omega) (by omega) mo' k3 un (by
      by_cases c : cpOf b 0 = cpOf b o
      · exact .inr fun m0 => q0 (join or' o4 cpo m0 (sgn_iff.mpr c) (own0 0 (by decide)))
      · exact .inl c) (by
      by_cases c : cpOf b 2 = cpOf b o
      · exact .inr fun m0 => q2 (join or' o4 cpo m0 (sgn_iff.mpr c) (own0 2 (by decide)))
      · exact .inl c)
    exact nbr (sd o or'.1 or'.2 fun z => o3 (sgn_eq.mp z))
theorem meddling7 (h : WebOk w) (d : D7 w.1 ps w.2.l) (tl : w.2.l.length ≤ 47) (h2 : 2 ≤ ps.length) (h3 : ps.length ≤ 3) (hb : b.length = w.1.toNat) (W : Walls b) (sd : Sound w b) : m_meddling w b (ps.map fieldOf) = .ok none := by
  have n2 := h.n2
  have F := fs_ok d h2 h3
  unfold m_meddling
  rw [fields_are n2 F]
  obtain ⟨dd, e, hd⟩ := surr_init (w := w) (b := b) F n2
  simp only [Res.okb, Bool.not_true, Bool.false_eq_true, if_false]
  rw [e]
  show Res.bind (m_Surroundings_tie_between (surr w b dd)) _ = _
  rw [prog_tie hd, tie_none d h2 h3]
  simp only [Res.okb, Option.isSome_none, Bool.false_eq_true, if_false]
  rw [prog_betw h hb (by omega) hd]
  congr 1
  unfold betw
  rw [fs_none (f := pieceG w (ps.map fieldOf)) fun P mP => ?g1, fs_none fun P mP => fs_none fun Q mQ => ?g2]
  case g1 =>
    obtain ⟨_, _, p, mp, hP⟩ := shk_part h d hb W h2 h3 mP
    unfold pieceG
    have := touch_one h d h2 h3 mp fun k m => (hP k m).1
    rw [if_neg (by omega)]
  case g2 =>
    by_cases hl : P.headD 0 < Q.headD 0
    · rw [if_pos hl]
      unfold pairG
      rw [tied_no h d hb W sd h2 h3 mP mQ fun e => by rw [e] at hl; omega]
      rw [if_neg fun z => by cases z.1]
    · rw [if_neg hl]
end
section
variable {w : Int × Tup (Int × Int)} (h : WebOk w) {b : Str} (hb : b.length = w.1.toNat) {c c' : Nat} (hc : (c = 120 ∧ c' = 111) ∨ (c = 111 ∧ c' = 120)) {k : Int} (hk : 0 ≤ k ∧ k < w.1)
include h hb hc hk
theorem taken_at {x : Int} (m : x ∈ (laidT w b c c' k).b) : cpOf b x = c' ∧ x ≠ k ∧ 0 ≤ x ∧ x < w.1 := by
  have n1 := h.n1
  rw [laidT_b] at m
  have rx : 0 ≤ x ∧ x < w.1 := by
    have := mem_rangeL.mp (List.mem_filter.mp m).1
    omega
  have cx : cpOf (putL b [k] c) x = c' := by
    obtain ⟨y2, m2, e2, _, p⟩ := (mem_chokedL h).mp m
    have r2 := (nextL_rise w (by omega) k).2 y2 m2
    have es : sgn (putL b [k] c) x = sgn (putL b [k] c) y2 := of_decide_eq_true (PL_ok (ok := sameS (putL b [k] c) y2) h r2 (decide_eq_true rfl) p)
    rw [sgn_iff.mp es, e2]
  have xk : x ≠ k := fun e => by
    subst e
    rw [putL_at hk.1 (by omega), if_pos (by simp)] at cx
    omega
  rw [putL_at rx.1 (by omega), if_neg (by simpa using xk)] at cx
  exact ⟨cx, xk, rx⟩
theorem taken_safe (hne : (laidT w b c c' k).b ≠ []) : (laidT w b c c' k).c = [] := by
  have n1 := h.n1
  obtain ⟨x, m⟩ := List.exists_mem_of_ne_nil _ hne
  rw [laidT_b] at m
  obtain ⟨y, my, ey, nb, p⟩ := (mem_chokedL h).mp m
  have ry := (nextL_rise w (by omega) k).2 y my
  have mt : y ∈ chokedL w (putL b [k] c) c' k := (mem_chokedL h).mpr ⟨y, my, ey, nb, PL_self h ry⟩
  have hbr : breathB w (putL (putL b [k] c) (chokedL w (putL b [k] c) c' k) 46) k = true := by
    rw [breathB_iff]
    refine ⟨k, .here, y, my, ?_⟩
    rw [dot_eq, sgn_eq, putL_at ry.1 (by rw [putL_len]; omega), if_pos mt]
  unfold laidT
  dsimp only
  rw [if_pos hbr]
theorem behind_at {x : Int} (hx : 0 ≤ x ∧ x < w.1) : cpOf (laidT w b c c' k).a x = if x ∈ (laidT w b c c' k).c then 46 else if x ∈ (laidT w b c c' k).b then 46 else if x = k then c else cpOf b x := by
  have n1 := h.n1
  have key : cpOf (putL (putL b [k] c) (chokedL w (putL b [k] c) c' k) 46) x = if x ∈ chokedL w (putL b [k] c) c' k then 46 else if x = k then c else cpOf b x := by
    rw [putL_at hx.1 (by rw [putL_len]; omega), putL_at hx.1 (by omega)]
    simp only [List.mem_singleton]
  rw [laidT_b]
  unfold laidT
  dsimp only
  split
  · show cpOf (putL (putL b [k] c) (chokedL w (putL b [k] c) c' k) 46) x = _
    rw [key]
    simp
  · show cpOf (putL (putL (putL b [k] c) (chokedL w (putL b [k] c) c' k) 46) _ 46) x = _
    rw [putL_at hx.1 (by rw [putL_len, putL_len]; omega), key]
theorem lost_at {x : Int} (m : x ∈ (laidT w b c c' k).c) : (0 ≤ x ∧ x < w.1) ∧ (x = k ∨ cpOf b x = c) := by
  have n1 := h.n1
  unfold laidT at m
  dsimp only at m
  split at m
  · cases m
  · have m : x ∈ PL w (sameS (putL (putL b [k] c) (chokedL w (putL b [k] c) c' k) 46) k) k := m
    have rx := (PL_rise h k).2 x m
    refine ⟨rx, ?_⟩
    have es : sgn (putL (putL b [k] c) (chokedL w (putL b [k] c) c' k) 46) x = sgn (putL (putL b [k] c) (chokedL w (putL b [k] c) c' k) 46) k := of_decide_eq_true (PL_ok (ok := sameS (putL (putL b [k] c) (chokedL w (putL b [k] c) c' k) 46) k) h hk (decide_eq_true rfl) m)
    have e := sgn_iff.mp es
    have ck : cpOf (putL b [k] c) k = c := by rw [putL_at hk.1 (by omega), if_pos (by simp)]
    have ek : cpOf (putL (putL b [k] c) (chokedL w (putL b [k] c) c' k) 46) k = c := by
      rw [putL_at hk.1 (by rw [putL_len]; omega), if_neg (choked_not h (by omega) ck), ck]
    rw [ek, putL_at rx.1 (by rw [putL_len]; omega), putL_at rx.1 (by omega)] at e
    by_cases q : x = k
    · exact .inl q
    · right
      split at e
      · omega
      · rw [if_neg (by simpa using q)] at e; exact e
theorem lost_self (hne : (laidT w b c c' k).c ≠ []) : k ∈ (laidT w b c c' k).c := by
  unfold laidT at hne ⊢
  dsimp only at hne ⊢
  split
  · next q => rw [if_pos q] at hne; exact (hne rfl).elim
  · exact PL_self h hk
end
theorem reach_keep {nb : Int → List Int} {p q : Int → Bool} {a x : Int} (hq : ∀ y, G.Reach nb p a y → y ≠ a → q y = true) (r : G.Reach nb p a x) : G.Reach nb q a x := by
  induction r with
  | here => exact .here
  | on r m o ih =>
    rename_i x y
    by_cases e : y = a
    · rw [e]; exact .here
    · exact .on ih m (hq _ (.on r m o) e)
theorem breathes_cp {w : Int × Tup (Int × Int)} {b : Str} {k : Int} : Breathes w b k ↔ ∃ x, G.Reach (nextL w) (fun y => decide (cpOf b y = cpOf b k)) k x ∧ ∃ y ∈ nextL w x, cpOf b y = 46 := by
  have e : (fun y => decide (sgn b y = sgn b k)) = fun y => decide (cpOf b y = cpOf b k) := funext fun y => by
    by_cases q : cpOf b y = cpOf b k
    · rw [decide_eq_true q, decide_eq_true (sgn_iff.mpr q)]
    · rw [decide_eq_false q, decide_eq_false (fun z => q (sgn_iff.mp z))]
  unfold Breathes
  rw [e]
  simp only [dot_eq, sgn_eq]
section
variable {w : Int × Tup (Int × Int)} (h : WebOk w) {b : Str} (hb : b.length = w.1.toNat) (ho : signOk b) (hs : Sound w b) {c c' : Nat} (hc : (c = 120 ∧ c' = 111) ∨ (c = 111 ∧ c' = 120)) {k : Int} (hk : 0 ≤ k ∧ k < w.1) (hd : cpOf b k = 46)
include h hb hc hk hd
theorem full_at {x : Int} (hx : 0 ≤ x ∧ x < w.1) : cpOf (putL b [k] c) x = if x = k then c else cpOf b x := by
  have n1 := h.n1
  rw [putL_at hx.1 (by omega)]
  simp only [List.mem_singleton]
theorem lost_mem (hne : (laidT w b c c' k).c ≠ []) {x : Int} : x ∈ (laidT w b c c' k).c ↔ G.Reach (nextL w) (fun y => decide (cpOf (putL b [k] c) y = c)) k x := by
  have n1 := h.n1
  have tb : (laidT w b c c' k).b = [] := Classical.byContradiction fun q => hne (taken_safe h hb hc hk q)
  rw [laidT_b] at tb
  unfold laidT at hne ⊢
  dsimp only at hne ⊢
  rw [tb, putL_nil] at hne ⊢
  split
  · next q => rw [if_pos q] at hne; exact (hne rfl).elim
  · show x ∈ PL w (sameS (putL b [k] c) k) k ↔ _
    rw [mem_PL h hk]
    have ck : cpOf (putL b [k] c) k = c := by rw [full_at h hb hc hk hd hk, if_pos rfl]
    have e : sameS (putL b [k] c) k = fun y => decide (cpOf (putL b [k] c) y = c) := funext fun y => by
      unfold sameS
      by_cases q : cpOf (putL b [k] c) y = c
      · rw [decide_eq_true q, decide_eq_true (sgn_iff.mpr (q.trans ck.symm))]
      · rw [decide_eq_false q, decide_eq_false (fun z => q ((sgn_iff.mp z).trans ck))]
    rw [e]
theorem taken_mem {x : Int} : x ∈ (laidT w b c c' k).b ↔ ∃ y ∈ nextL w k, cpOf (putL b [k] c) y = c' ∧ ¬ Breathes w (putL b [k] c) y ∧ G.Reach (nextL w) (fun z => decide (cpOf (putL b [k] c) z = c')) y x := by
  have n1 := h.n1
  rw [laidT_b, mem_chokedL h]
  unfold Choked
  constructor
  · rintro ⟨y, my, cy, nb, p⟩
    have ry := (nextL_rise w (by omega) k).2 y my
    refine ⟨y, my, cy, nb, ?_⟩
    have := (mem_PL h ry).mp p
    refine reach_keep (fun z r _ => ?_) this
    have := Reach.ok r (show sameS (putL b [k] c) y y = true from decide_eq_true rfl)
    have := sgn_iff.mp (of_decide_eq_true this)
    exact decide_eq_true (this.trans cy)
  · rintro ⟨y, my, cy, nb, r⟩
    have ry := (nextL_rise w (by omega) k).2 y my
    refine ⟨y, my, cy, nb, (mem_PL h ry).mpr (reach_keep (fun z r _ => ?_) r)⟩
    have := Reach.ok r (show (fun z => decide (cpOf (putL b [k] c) z = c')) y = true from decide_eq_true cy)
    have := of_decide_eq_true this
    exact decide_eq_true (sgn_iff.mpr (this.trans cy.symm))
theorem behind_of {x : Int} (hx : 0 ≤ x ∧ x < w.1) (e : cpOf b x = c') (nt : x ∉ (laidT w b c c' k).b) : cpOf (laidT w b c c' k).a x = c' := by
  rw [behind_at h hb hc hk hx]
  have q1 : x ∉ (laidT w b c c' k).c := fun m => by
    rcases (lost_at h hb hc hk m).2 with q | q
    · subst q; omega
    · omega
  have q3 : x ≠ k := fun q => by subst q; omega
  rw [if_neg q1, if_neg nt, if_neg q3]; exact e
theorem behind_46 {x : Int} (hx : 0 ≤ x ∧ x < w.1) (e : cpOf b x = 46) (q3 : x ≠ k) : cpOf (laidT w b c c' k).a x = 46 := by
  rw [behind_at h hb hc hk hx, if_neg q3, e]
  split
  · rfl
  · split <;> rfl
include hs ho
theorem laid_sound : Sound w (laidT w b c c' k).a := by
  intro x x0 x1 hxd
  have n1 := h.n1
  have hx : 0 ≤ x ∧ x < w.1 := ⟨x0, x1⟩
  have lb := laidT_len (w := w) hb (c := c) (c' := c') (k := k)
  have hxn : cpOf (laidT w b c c' k).a x ≠ 46 := fun e => hxd (by rw [dot_eq, sgn_eq]; exact e)
  have hbx := behind_at h hb hc hk hx
  have old : ∀ y, 0 ≤ y → y < w.1 → cpOf b y ≠ 46 → ∃ z, G.Reach (nextL w) (fun y' => decide (cpOf b y' = cpOf b y)) y z ∧ ∃ e ∈ nextL w z, cpOf b e = 46 := fun y y0 y1 hy =>
    breathes_cp.mp (hs y y0 y1 fun e => hy (by rw [dot_eq, sgn_eq] at e; exact e))
  have rng : ∀ {p : Int → Bool} {a z : Int}, 0 ≤ a ∧ a < w.1 → G.Reach (nextL w) p a z → 0 ≤ z ∧ z < w.1 := fun ha r => Reach.range h ha r
  have nr : ∀ {a z : Int}, z ∈ nextL w a → 0 ≤ z ∧ z < w.1 := fun {a z} m => (nextL_rise w (by omega) a).2 z m
  have full := fun {y : Int} (hy : 0 ≤ y ∧ y < w.1) => full_at h hb hc hk hd hy
  rw [breathes_cp]
  by_cases hL : (laidT w b c c' k).c = []
  · have hbx' : cpOf (laidT w b c c' k).a x = if x ∈ (laidT w b c c' k).b then 46 else if x = k then c else cpOf b x := by rw [hbx, hL, if_neg List.not_mem_nil]
    have at' : ∀ {y : Int}, 0 ≤ y ∧ y < w.1 → cpOf (laidT w b c c' k).a y = if y ∈ (laidT w b c c' k).b then 46 else if y = k then c else cpOf b y := fun hy => by rw [behind_at h hb hc hk hy, hL, if_neg List.not_mem_nil]
    have nt : x ∉ (laidT w b c c' k).b := fun m => hxn (by rw [hbx', if_pos m])
    have nkT : k ∉ (laidT w b c c' k).b := fun m => (taken_at h hb hc hk m).2.1 rfl
    have ck : cpOf (laidT w b c c' k).a k = c := by rw [at' hk, if_neg nkT, if_pos rfl]
    -- the stone itself breathes
    have kb : ∃ z, G.Reach (nextL w) (fun y' => decide (cpOf (laidT w b c c' k).a y' = c)) k z ∧ ∃ e ∈ nextL w z, cpOf (laidT w b c c' k).a e = 46 := by
      have : breathB w (laidT w b c c' k).a k = true := by
        have hL' := hL
        unfold laidT at hL' ⊢
        dsimp only at hL' ⊢
        split
        · next q => exact q
        · next q =>
          rw [if_neg q] at hL'
          have hL' : PL w (sameS (putL (putL b [k] c) (chokedL w (putL b [k] c) c' k) 46) k) k = [] := hL'
          have := PL_self (ok := sameS (putL (putL b [k] c) (chokedL w (putL b [k] c) c' k) 46) k) h hk
          rw [hL'] at this; cases this
      have := breathes_cp.mp (breathB_iff.mp this)
      rw [ck] at this
      exact this
    by_cases q3 : x = k
    · subst q3
      rw [ck]; exact kb
    · rw [if_neg nt, if_neg q3] at hbx'
      rw [hbx'] at hxn ⊢
      have sx := signOk_at ho x0 (by omega)
      have cases2 : cpOf b x = c ∨ cpOf b x = c' := by omega
      obtain ⟨z, rz, e, me, he⟩ := old x x0 x1 hxn
      have hz := rng hx rz
      have hee := nr me
      rcases cases2 with q | q
      · -- of the hand that lays
        rw [q] at rz ⊢
        have keep : ∀ y, G.Reach (nextL w) (fun y' => decide (cpOf b y' = c)) x y → cpOf (laidT w b c c' k).a y = c := fun y r => by
          have hy := rng hx r
          have cy := of_decide_eq_true (Reach.ok r (show (fun y' => decide (cpOf b y' = c)) x = true from decide_eq_true q))
          rw [at' hy, if_neg (fun m => by have := (taken_at h hb hc hk m).1; omega), if_neg (fun e => by subst e; omega)]
          exact cy
        have rz' : G.Reach (nextL w) (fun y' => decide (cpOf (laidT w b c c' k).a y' = c)) x z := reach_keep (fun y r _ => decide_eq_true (keep y r)) rz
        by_cases ek : e = k
        · subst ek
          obtain ⟨z2, r2, f, mf, hf⟩ := kb
          exact ⟨z2, Reach.trans (.on rz' me (decide_eq_true ck)) r2, f, mf, hf⟩
        · exact ⟨z, rz', e, me, behind_46 h hb hc hk hd hee he ek⟩
      · -- of the other hand
        rw [q] at rz ⊢
        have keep : ∀ y, G.Reach (nextL w) (fun y' => decide (cpOf b y' = c')) x y → cpOf (laidT w b c c' k).a y = c' := fun y r => by
          have hy := rng hx r
          have cy := of_decide_eq_true (Reach.ok r (show (fun y' => decide (cpOf b y' = c')) x = true from decide_eq_true q))
          refine behind_of h hb hc hk hd hy cy fun m => nt ?_
          obtain ⟨y0, m0, c0, nb, r0⟩ := (taken_mem h hb hc hk hd).mp m
          refine (taken_mem h hb hc hk hd).mpr ⟨y0, m0, c0, nb, Reach.trans r0 ?_⟩
          refine reach_keep (p := fun y' => decide (cpOf b y' = c')) (fun u ru _ => ?_) (Reach.symm (nextL_symm h) (show (fun y' => decide (cpOf b y' = c')) x = true from decide_eq_true q) r)
          have hu := rng hy ru
          have cu := of_decide_eq_true (Reach.ok ru (show (fun y' => decide (cpOf b y' = c')) y = true from decide_eq_true cy))
          refine decide_eq_true ?_
          rw [full hu, if_neg (fun e => by subst e; omega)]; exact cu
        have rz' : G.Reach (nextL w) (fun y' => decide (cpOf (laidT w b c c' k).a y' = c')) x z := reach_keep (fun y r _ => decide_eq_true (keep y r)) rz
        by_cases ek : e = k
        · subst ek
          have cz : cpOf b z = c' := of_decide_eq_true (Reach.ok rz (show (fun y' => decide (cpOf b y' = c')) x = true from decide_eq_true q))
          have fz : cpOf (putL b [e] c) z = c' := by rw [full hz, if_neg (fun q => by subst q; omega)]; exact cz
          have mz : z ∈ nextL w e := nextL_symm h _ _ me
          by_cases nb : Breathes w (putL b [e] c) z
          · obtain ⟨z2, r2, f, mf, hf⟩ := breathes_cp.mp nb
            rw [fz] at r2
            have hz2 := rng hz r2
            have hfr := nr mf
            have r2' : G.Reach (nextL w) (fun y' => decide (cpOf b y' = c')) z z2 := reach_keep (fun u ru _ => by
              have hu := rng hz ru
              have cu := of_decide_eq_true (Reach.ok ru (show (fun y' => decide (cpOf (putL b [e] c) y' = c')) z = true from decide_eq_true fz))
              rw [full hu] at cu
              refine decide_eq_true ?_
              by_cases q9 : u = e
              · rw [if_pos q9] at cu; omega
              · rw [if_neg q9] at cu; exact cu) r2
            have r3 := Reach.trans rz r2'
            refine ⟨z2, reach_keep (fun y r _ => decide_eq_true (keep y r)) r3, f, mf, ?_⟩
            rw [full hfr] at hf
            by_cases q9 : f = e
            · rw [if_pos q9] at hf; omega
            · rw [if_neg q9] at hf
              exact behind_46 h hb hc hk hd hfr hf q9
          · refine (nt ((taken_mem h hb hc hk hd).mpr ⟨z, mz, fz, nb, ?_⟩)).elim
            refine reach_keep (p := fun y' => decide (cpOf b y' = c')) (fun u ru _ => ?_) (Reach.symm (nextL_symm h) (show (fun y' => decide (cpOf b y' = c')) x = true from decide_eq_true q) rz)
            have hu := rng hz ru
            have cu := of_decide_eq_true (Reach.ok ru (show (fun y' => decide (cpOf b y' = c')) z = true from decide_eq_true cz))
            refine decide_eq_true ?_
            rw [full hu, if_neg (fun e => by subst e; omega)]; exact cu
        · exact ⟨z, rz', e, me, behind_46 h hb hc hk hd hee he ek⟩
  · -- a suicide
    have tb : (laidT w b c c' k).b = [] := Classical.byContradiction fun q => hL (taken_safe h hb hc hk q)
    have lm := fun {y : Int} => lost_mem h hb hc hk hd hL (x := y)
    have kL : k ∈ (laidT w b c c' k).c := lost_self h hb hc hk hL
    have at' : ∀ {y : Int}, 0 ≤ y ∧ y < w.1 → cpOf (laidT w b c c' k).a y = if y ∈ (laidT w b c c' k).c then 46 else cpOf b y := fun {y} hy => by
      rw [behind_at h hb hc hk hy, tb, if_neg (List.not_mem_nil)]
      by_cases q : y ∈ (laidT w b c c' k).c
      · rw [if_pos q, if_pos q]
      · rw [if_neg q, if_neg q, if_neg (fun e => q (by rw [e]; exact kL))]
    have nL : x ∉ (laidT w b c c' k).c := fun m => hxn (by rw [at' hx, if_pos m])
    have hbx' : cpOf (laidT w b c c' k).a x = cpOf b x := by rw [at' hx, if_neg nL]
    rw [hbx'] at hxn ⊢
    obtain ⟨z, rz, e, me, he⟩ := old x x0 x1 hxn
    have hee := nr me
    refine ⟨z, reach_keep (fun y r _ => decide_eq_true ?_) rz, e, me, ?_⟩
    · have hy := rng hx r
      have cy := of_decide_eq_true (Reach.ok r (show (fun y' => decide (cpOf b y' = cpOf b x)) x = true from decide_eq_true rfl))
      rw [at' hy, if_neg fun m => nL ?_]
      · exact cy
      · have cyc : cpOf b y = c ∨ y = k := (lost_at h hb hc hk m).2.symm
        have yk : y ≠ k := fun e => by subst e; omega
        have cyc : cpOf b y = c := cyc.resolve_right yk
        refine lm.mpr (Reach.trans (lm.mp m) (reach_keep (p := fun y' => decide (cpOf b y' = cpOf b x)) (fun u ru _ => ?_) (Reach.symm (nextL_symm h) (show (fun y' => decide (cpOf b y' = cpOf b x)) x = true from decide_eq_true rfl) r)))
        have hu := rng hy ru
        have cu := of_decide_eq_true (Reach.ok ru (show (fun y' => decide (cpOf b y' = cpOf b x)) y = true from decide_eq_true cy))
        refine decide_eq_true ?_
        rw [full hu, if_neg (fun e => by subst e; omega)]; omega
    · rw [at' hee]
      split
      · rfl
      · exact he
end
section
variable {w : Int × Tup (Int × Int)} {ps : List PT}
theorem laidT_ok {b : Str} (ho : signOk b) {c c' : Nat} (hc : (c = 120 ∧ c' = 111) ∨ (c = 111 ∧ c' = 120)) {k : Int} : signOk (laidT w b c c' k).a := by
  have hc1 : c = 46 ∨ c = 120 ∨ c = 111 := by omega
  unfold laidT
  dsimp only
  split
  · exact putL_ok (putL_ok ho _ hc1) _ (.inl rfl)
  · exact putL_ok (putL_ok (putL_ok ho _ hc1) _ (.inl rfl)) _ (.inl rfl)
open Classical in
noncomputable def toldO (w : Int × Tup (Int × Int)) (b : Str) (c c' : Nat) (k : Int) : Option (T3 Str (List Int) (List Int)) := if cpOf b k = 46 ∧ (laidT w b c c' k).c = [] then some (laidT w b c c' k) else none
theorem told_is (h : WebOk w) {b : Str} (hb : b.length = w.1.toNat) {z : Str} {c c' : Nat} (hz : z = ⟨#[c]⟩) (hc : (c = 120 ∧ c' = 111) ∨ (c = 111 ∧ c' = 120)) {k : Int} (hk : 0 ≤ k ∧ k < w.1) (ho : signOk b) : m_l_told w b z k = .ok (toldO w b c c' k) := by
  have n1 := h.n1
  unfold m_l_told toldO
  by_cases q : cpOf b k = 46
  · have qd : sgn b k = dot := sgn_eq.mpr q
    rw [lay_is h hb hz hc hk false qd, lay_laid h hk]
    by_cases e : (laidT w b c c' k).c = []
    · have ne : (laidT w b c c' k).a ≠ b := fun z => by
        have := behind_at h hb hc hk (x := k) hk
        rw [z, q, e] at this
        rw [if_neg (by simp)] at this
        have hn : k ∉ (laidT w b c c' k).b := fun m => (taken_at h hb hc hk m).2.1 rfl
        rw [if_neg hn, if_pos rfl] at this
        omega
      rw [if_neg (show ¬ ((laidT w b c c' k).c ≠ [] ∧ false = false) from fun z => z.1 e), if_neg ne, if_pos ⟨q, e⟩]
      rfl
    · rw [if_pos ⟨e, rfl⟩, if_neg fun z => e z.2]
      simp only [Res.exc_bind, catchR, pickR, show lookB ct_tab_Occupied (PySem.Str.ofString "Breathless") = some false by decide +kernel, show lookB ct_tab_Breathless (PySem.Str.ofString "Breathless") = some true by decide +kernel]
      rfl
  · have qd : sgn b k ≠ dot := fun z => q (sgn_eq.mp z)
    rw [lay_occ h hb hk false qd, if_neg fun z => q z.1]
    simp only [Res.exc_bind, catchR, pickR, show lookB ct_tab_Occupied (PySem.Str.ofString "Occupied") = some true by decide +kernel]
    rfl
theorem due_is (h : WebOk w) {b : Str} (hb : b.length = w.1.toNat) {z : Str} {c c' : Nat} (hz : z = ⟨#[c]⟩) (hc : (c = 120 ∧ c' = 111) ∨ (c = 111 ∧ c' = 120)) {k : Int} (hk : 0 ≤ k ∧ k < w.1) (ho : signOk b) : m_l_due (nextsL w) b z k = .ok (toldO w b c c' k) := by
  have n1 := h.n1
  have n2 := h.n2
  unfold m_l_due toldO
  rw [strIx_sgn (by omega) hk.1 (by omega)]
  simp only [Res.okb]
  by_cases q : cpOf b k = 46
  · rw [show ScaEq.eq (sgn b k) (PySem.Str.ofString ".") = true from decide_eq_true (sgn_eq.mpr q)]
    simp only [Bool.not_true, Bool.false_eq_true, if_false]
    rw [laid_is h hb ho hz hc hk]
    simp only [Res.okb]
    rw [neD_eq]
    by_cases e : (laidT w b c c' k).c = []
    · rw [decide_eq_true e, if_pos ⟨q, e⟩]; rfl
    · rw [decide_eq_false e, if_neg fun z => e z.2]; rfl
  · rw [show ScaEq.eq (sgn b k) (PySem.Str.ofString ".") = false from decide_eq_false fun z => q (sgn_eq.mp z)]
    simp only [Bool.not_false, if_true]
    rw [if_neg (show ¬ (cpOf b k = 46 ∧ (laidT w b c c' k).c = []) from fun z => q z.1)]
theorem told_lay {b : Str} (ho : signOk b) {c c' : Nat} (hc : (c = 120 ∧ c' = 111) ∨ (c = 111 ∧ c' = 120)) {k : Int} : Dat.lay (toldO w b c c' k) = true := by
  unfold toldO
  split
  · show (PyData.strOk (laidT w b c c' k).a && (Dat.lay (laidT w b c c' k).b && Dat.lay (laidT w b c c' k).c)) = true
    rw [strOk_of fun x m => by have := laidT_ok (w := w) ho hc x m; omega, NoStr.lay, NoStr.lay]; rfl
  · rfl
structure Go (w : Int × Tup (Int × Int)) (ps : List PT) (s : List Str × Str) : Prop where
  len : s.2.length = w.1.toNat
  ok : signOk s.2
  wl : Walls s.2
  sd : Sound w s.2
  al : s.1.length = ps.length
  at' : ∀ (j : Nat) (p : PT), ps[j]? = some p → ∃ m, s.1[j]? = some m ∧ m.length = w.1.toNat ∧ Walls m ∧ signOk m ∧ Agree p s.2 m
theorem of_is (d : D7 w.1 ps w.2.l) (n40 : w.1 ≤ 40) {m : Str} (hm : m.length = w.1.toNat) {p : PT} (mp : p ∈ ps) : m_l_of m (fieldOf p) (ps.map fieldOf) = .ok (cutS m (some p.lo) (some p.hi)) := by
  have hd : ∀ q ∈ ps, idx (fieldOf q) 0 = .ok q.lo := fun q mq => by
    have Q := d.pos q mq
    unfold fieldOf
    obtain ⟨n, hn⟩ : ∃ n, (q.mid - q.lo).toNat = n + 1 := ⟨(q.mid - q.lo).toNat - 1, by omega⟩
    rw [hn]
    refine idx_int (by decide) ?_
    unfold rangeL
    rw [List.getElem?_map, List.getElem?_range (by show 0 < n + 1; omega)]
    show some (q.lo + ((0 : Nat) : Int)) = _
    congr 1; omega
  have P := d.pos p mp
  have w1 : ((w.1.toNat : Nat) : Int) = w.1 := by omega
  unfold m_l_of
  rw [strLen_ok (by omega), hm, w1]
  simp only [Res.okb]
  rw [hd p mp]
  simp only [Res.okb]
  have fold : ∀ (l : List PT) (a : Int), (∀ q ∈ l, q ∈ ps) → p.hi ≤ a → ∃ b, foldR (fun (s2 : Int) (a3 : (List Int)) => (Res.bind (Res.bind (Res.bind (idx a3 (0 : Int)) fun v4 => (Res.ok (decide (v4 > p.lo)))) fun v9 => (if v9 then (Res.bind (Res.bind (idx a3 (0 : Int)) fun v8 => (Res.ok (min s2 v8))) fun (l_last7 : Int) => (Res.ok l_last7)) else (Res.ok s2))) fun s6 => (Res.ok s6))) a (l.map fieldOf) = .ok b ∧ p.hi ≤ b ∧ b ≤ a ∧ ∀ q ∈ l, q.lo > p.lo → b ≤ q.lo := fun l => by
    induction l with
    | nil => exact fun a _ ha => ⟨a, rfl, ha, Int.le_refl _, fun q m => by cases m⟩
    | cons q l ih =>
      intro a hl ha
      rw [List.map_cons]
      unfold foldR
      rw [hd q (hl q List.mem_cons_self)]
      simp only [Res.okb]
      have mq := hl q List.mem_cons_self
      by_cases c : q.lo > p.lo
      · rw [decide_eq_true c]
        simp only [if_true]
        have hq : p.hi ≤ q.lo := by
          have o := d.ord
          by_cases hx : q.lo < p.hi
          · have Q := d.pos q mq
            have := part_same d mp mq (x := q.lo) ⟨by omega, hx⟩ ⟨Int.le_refl _, by omega⟩
            subst this; omega
          · omega
        obtain ⟨b, e, b1, b2, b3⟩ := ih (min a q.lo) (fun x m => hl x (List.mem_cons_of_mem _ m)) (by omega)
        refine ⟨b, e, b1, by omega, fun x m hx => ?_⟩
        rcases List.mem_cons.mp m with rfl | m
        · omega
        · exact b3 x m hx
      · rw [decide_eq_false c]
        simp only [Bool.false_eq_true, if_false]
        obtain ⟨b, e, b1, b2, b3⟩ := ih a (fun x m => hl x (List.mem_cons_of_mem _ m)) ha
        refine ⟨b, e, b1, b2, fun x m hx => ?_⟩
        rcases List.mem_cons.mp m with rfl | m
        · exact absurd hx c
        · exact b3 x m hx
  obtain ⟨b, e, b1, b2, b3⟩ := fold ps w.1 (fun _ m => m) (by omega)
  rw [e]
  have : b = p.hi := by
    rcases d.nxt p mp with q | ⟨q, mq, e⟩
    · omega
    · have := b3 q mq (by omega)
      omega
  subst this
  exact guardR_of (decide_eq_true (by omega))
theorem cps_of {b : Str} {n : Nat} (hb : b.length = n) : b.cps.toList = (List.range n).map fun i : Nat => cpOf b (i : Int) := by
  have := cps_map b
  rw [this, hb]
  unfold rangeL
  rw [List.map_map]
  refine List.map_congr_left fun i _ => ?_
  show cpOf b (0 + (i : Int)) = _
  rw [Int.zero_add]
theorem put_of_is (d : D7 w.1 ps w.2.l) (n40 : w.1 ≤ 40) {b m t : Str} (hb : b.length = w.1.toNat) (hm : m.length = w.1.toNat) (ht : t.length = w.1.toNat) {p : PT} (mp : p ∈ ps) (A : Agree p t m) (out : ∀ x, 0 ≤ x → x < w.1 → ¬ InP p x → cpOf t x = cpOf b x) :
    m_l_put_of b (fieldOf p) (ps.map fieldOf) (cutS m (some p.lo) (some p.hi)) = .ok t := by
  have P := d.pos p mp
  obtain ⟨lo, el⟩ : ∃ lo : Nat, p.lo = (lo : Int) := ⟨p.lo.toNat, by omega⟩
  obtain ⟨hi, eh⟩ : ∃ hi : Nat, p.hi = (hi : Int) := ⟨p.hi.toNat, by omega⟩
  have hd : idx (fieldOf p) 0 = .ok p.lo := by
    unfold fieldOf
    obtain ⟨n, hn⟩ : ∃ n, (p.mid - p.lo).toNat = n + 1 := ⟨(p.mid - p.lo).toNat - 1, by omega⟩
    rw [hn]
    refine idx_int (by decide) ?_
    unfold rangeL
    rw [List.getElem?_map, List.getElem?_range (by show 0 < n + 1; omega)]
    show some (p.lo + ((0 : Nat) : Int)) = _
    congr 1; omega
  have hlm : m.cps.toList.length = w.1.toNat := hm
  have cl : (cutS m (some p.lo) (some p.hi)).cps.toList = (m.cps.toList.drop lo).take (hi - lo) := by
    show (cut m.cps.toList (some p.lo) (some p.hi)) = _
    rw [el, eh]
    unfold cut
    rw [HT.sIx_nat, HT.sIx_nat, Nat.min_eq_left (by omega), Nat.min_eq_left (by omega)]
  have cll : (cutS m (some p.lo) (some p.hi)).length = hi - lo := by
    show (cutS m (some p.lo) (some p.hi)).cps.toList.length = _
    rw [cl, List.length_take, List.length_drop]; omega
  unfold m_l_put_of
  rw [hd]
  simp only [Res.okb]
  rw [show cutStr b none (some p.lo) = .ok (cutS b none (some p.lo)) from guardR_of (decide_eq_true (by omega))]
  simp only [Res.okb]
  have cl1 : (cutS b none (some p.lo)).length ≤ b.length := cutS_len _ _ _
  rw [catS_ok (by omega)]
  simp only [Res.okb]
  rw [strLen_ok (by omega), cll]
  simp only [Res.okb]
  rw [show p.lo + ((hi - lo : Nat) : Int) = (hi : Int) by omega, show cutStr b (some (hi : Int)) none = .ok (cutS b (some (hi : Int)) none) from guardR_of (decide_eq_true (by omega))]
  simp only [Res.okb]
  have cl3 : (cutS b (some (hi : Int)) none).length ≤ b.length := cutS_len _ _ _
  rw [catS_ok (by rw [str_len_app]; omega)]
  congr 1
  refine str_ext ?_
  rw [cps_app, cps_app, cl]
  have e1 : (cutS b none (some p.lo)).cps.toList = b.cps.toList.take lo := by
    show cut b.cps.toList none (some p.lo) = _
    rw [el, cut_upto]
  have e3 : (cutS b (some (hi : Int)) none).cps.toList = b.cps.toList.drop hi := by
    show cut b.cps.toList (some (hi : Int)) none = _
    rw [cut_from]
  rw [e1, e3]
  have hlb : b.cps.toList.length = w.1.toNat := hb
  have hlt : t.cps.toList.length = w.1.toNat := ht
  have ev : ∀ (s : Str), s.length = w.1.toNat → ∀ i : Nat, i < w.1.toNat → s.cps.toList[i]? = some (cpOf s (i : Int)) := fun s hs i hi => by
    rw [cps_of hs, List.getElem?_map, List.getElem?_range hi]; rfl
  refine List.ext_getElem? fun i => ?_
  by_cases i1 : i < lo
  · rw [List.getElem?_append_left (by rw [List.length_append, List.length_take]; omega), List.getElem?_append_left (by rw [List.length_take]; omega), List.getElem?_take_of_lt i1, ev b hb i (by omega), ev t ht i (by omega), out _ (by omega) (by omega) fun z => by have := z.1; omega]
  · by_cases i2 : i < hi
    · rw [List.getElem?_append_left (by rw [List.length_append, List.length_take, List.length_take, List.length_drop]; omega), List.getElem?_append_right (by rw [List.length_take]; omega), List.length_take, Nat.min_eq_left (by omega), List.getElem?_take_of_lt (by omega), List.getElem?_drop, show lo + (i - lo) = i by omega, ev m hm i (by omega), ev t ht i (by omega), A _ ⟨by omega, by omega⟩]
    · rw [List.getElem?_append_right (by rw [List.length_append, List.length_take, List.length_take, List.length_drop]; omega), List.length_append, List.length_take, List.length_take, List.length_drop, List.getElem?_drop, show hi + (i - (min lo b.cps.toList.length + min (hi - lo) (m.cps.toList.length - lo))) = i by omega]
      by_cases i3 : i < w.1.toNat
      · rw [ev b hb i i3, ev t ht i i3, out _ (by omega) (by omega) fun z => by have := z.2; omega]
      · rw [List.getElem?_eq_none (by omega), List.getElem?_eq_none (by omega)]
end
instance {α β γ : Type} [Enc α] [Enc β] [Enc γ] [Dat α] [Dat β] [Dat γ] [DatEq α] [DatEq β] [DatEq γ] : DatEq (Option (T3 α β γ)) := ⟨fun a b => by
  cases a with
  | none =>
    cases b with
    | none => exact ⟨fun _ => rfl, fun _ => rfl⟩
    | some b => exact ⟨fun h => (by cases h), fun h => (by cases h)⟩
  | some a =>
    cases b with
    | none => exact ⟨fun h => (by cases h), fun h => (by cases h)⟩
    | some b =>
      have := DatEq.iff a b
      rw [Option.some.injEq]
      exact this⟩
theorem cell7 (sc : Scr) (k : Int) (h0 : 0 ≤ k) : Sat (m_l_cell_at sc k) (fun _ => True) := by
  unfold m_l_cell_at
  refine .ite (fun h => ?_) (fun _ => .ok trivial)
  exact .idxI h0 (of_decide_eq_true h) fun _ _ => trivial
theorem isNone_same {α : Type} {a b : Option α} (h : a = none ↔ b = none) : ScaEq.eq (Option.isNone a) (Option.isNone b) = true := by
  refine decide_eq_true ?_
  cases a <;> cases b <;> simp_all
theorem setR_str {xs : List Str} {i : Int} {a : Str} (h0 : 0 ≤ i) (h : i < xs.length) : setR xs i a = .ok (xs.set i.toNat a) := by
  unfold setR
  have : ixN xs.length i = some i.toNat := by unfold ixN; rw [if_pos h0, if_pos h]
  rw [this]
theorem law_true (ns : List Int) (hl : ns.length ≤ 63) : m_law ⟨ns⟩ = .ok true := by
  refine Sat.eq ?_
  unfold m_law
  obtain ⟨c1, e1, _⟩ := cell7 ⟨ns⟩ 1 (by decide)
  obtain ⟨c2, e2, _⟩ := cell7 ⟨ns⟩ 2 (by decide)
  obtain ⟨c0, e0, _⟩ := cell7 ⟨ns⟩ 0 (by decide)
  rw [e1]
  simp only [Res.okb]
  rw [e2]
  simp only [Res.okb]
  have cl : (cut ns (some 3) (some 4)).length ≤ 1 := cut_len ns 3 4
  rw [catR_ok (by show 2 + (cut ns (some 3) (some 4)).length ≤ _; omega)]
  simp only [Res.okb]
  refine .bind (drawn7 _ (by rw [List.length_append]; show 2 ≤ 2 + _; omega) (by rw [List.length_append]; show 2 + (cut ns (some 3) (some 4)).length ≤ 3; omega)) fun p ⟨ps, D⟩ => ?_
  have h := D.web
  have n1 := h.n1
  have n2 := h.n2
  have F := fs_ok D.d D.two D.three
  rw [nexts _ h]
  simp only [Res.okb]
  rw [D.fl]
  have el : lcT (fun _ => Res.ok true) (fun a9 => (Res.ok p.b)) (ps.map fieldOf) = .ok ((ps.map fieldOf).map fun _ => p.b) := by
    unfold lcT
    rw [decide_eq_true (by rw [List.length_map]; have := D.three; omega)]
    show lcR _ _ _ = _
    rw [lcR_filter (p' := fun _ => true) (g' := fun _ => p.b) (fun _ _ => rfl) fun _ _ _ => rfl, List.filter_eq_self.mpr fun _ _ => rfl]
  rw [el]
  simp only [Res.okb]
  rw [meddling7 h D.d D.tl D.two D.three D.len D.wl D.sound]
  simp only [Res.okb, Option.isSome_none, Bool.false_eq_true, if_false]
  rw [e0]
  simp only [Res.okb]
  have cl2 : (cut ns (some 4) (some 63)).length ≤ 59 := cut_len ns 4 63
  rw [catR_ok (by show 1 + (cut ns (some 4) (some 63)).length ≤ _; omega)]
  simp only [Res.okb]
  refine .tail (P := Go p.a ps) ?_ fun s G => ?_
  · refine Sat.loop (fun _ s => Go p.a ps s) ⟨D.len, D.ok, D.wl, D.sound, by show (List.map _ _).length = _; rw [List.length_map, List.length_map], fun j q hj => ⟨p.b, by show (List.map _ (ps.map fieldOf))[j]? = _; rw [List.getElem?_map, List.getElem?_map, hj]; rfl, D.len, D.wl, D.ok, fun _ _ => rfl⟩⟩ fun i s c hc G => ?_
    obtain ⟨al, b⟩ := s
    have Gl : b.length = p.a.1.toNat := G.len
    have Go' : signOk b := G.ok
    have Ga : al.length = ps.length := G.al
    have fl : ((ps.map fieldOf).length : Int) = (ps.length : Int) := by rw [List.length_map]
    dsimp only
    refine .bind (numbers c [2, (((ps.map fieldOf).length : Nat) : Int), 3] (by simp) (fun z m => by
      have : z = 2 ∨ z = ((ps.map fieldOf).length : Int) ∨ z = 3 := by simpa using m
      have t2 := D.two
      have t3 := D.three
      rcases this with rfl | rfl | rfl
      · exact ⟨by decide, by decide⟩
      · rw [fl]
        exact ⟨by omega, Int.lt_of_le_of_lt (show (ps.length : Int) ≤ 3 by omega) (by decide)⟩
      · exact ⟨by decide, by decide⟩)) fun ds hd => ?_
    obtain ⟨d0, g0, d00, d01⟩ := hd.get (i := 0) (z := 2) rfl
    obtain ⟨d1, g1, d10, d11⟩ := hd.get (i := 1) (z := ((ps.map fieldOf).length : Int)) rfl
    obtain ⟨d2, g2, d20, d21⟩ := hd.get (i := 2) (z := 3) rfl
    rw [fl] at d11
    have i0 : idx ds 0 = .ok d0 := idx_int (by decide) g0
    have i1 : idx ds 1 = .ok d1 := idx_int (by decide) g1
    have i2 : idx ds 2 = .ok d2 := idx_int (by decide) g2
    rw [i1]
    simp only [Res.okb]
    obtain ⟨q, hq⟩ : ∃ q, ps[d1.toNat]? = some q := ⟨_, List.getElem?_eq_getElem (show d1.toNat < ps.length by omega)⟩
    have mq := List.mem_of_getElem? hq
    have Q := D.d.pos q mq
    rw [idx_int (a := fieldOf q) d10 (by rw [List.getElem?_map, hq]; rfl)]
    simp only [Res.okb]
    rw [i0]
    simp only [Res.okb]
    obtain ⟨z, c, c', ez, hz, hcc⟩ : ∃ (z : Str) (c c' : Nat), strIx (PySem.Str.ofString "xo") d0 = .ok z ∧ z = ⟨#[c]⟩ ∧ ((c = 120 ∧ c' = 111) ∨ (c = 111 ∧ c' = 120)) := by
      have : d0 = 0 ∨ d0 = 1 := by omega
      rcases this with rfl | rfl
      · exact ⟨_, 120, 111, rfl, rfl, .inl ⟨rfl, rfl⟩⟩
      · exact ⟨_, 111, 120, rfl, rfl, .inr ⟨rfl, rfl⟩⟩
    rw [ez]
    simp only [Res.okb]
    rw [i2]
    simp only [Res.okb]
    have fl0 : (fieldOf q).length = (q.mid - q.lo).toNat := by unfold fieldOf; rw [rangeL_len]
    rw [modR_of (by omega)]
    simp only [Res.okb]
    have m0 := Int.emod_nonneg d2 (b := ((fieldOf q).length : Int)) (by omega)
    have m1 := Int.emod_lt_of_pos d2 (b := ((fieldOf q).length : Int)) (by omega)
    obtain ⟨k, hk⟩ : ∃ k, (fieldOf q)[(d2 % ((fieldOf q).length : Int)).toNat]? = some k := ⟨_, List.getElem?_eq_getElem (by omega)⟩
    rw [idx_int m0 hk]
    simp only [Res.okb]
    have hkm := (field_mem (by omega)).mp (List.mem_of_getElem? hk)
    have hkq : InP q k := ⟨hkm.1, by omega⟩
    have kr := part_rng D.d mq hkq
    rw [told_is h Gl hz hcc kr Go']
    simp only [Res.okb]
    obtain ⟨m, hm, ml, mw, mo, A⟩ := G.at' _ _ hq
    rw [idx_int d10 hm]
    simp only [Res.okb]
    have LD := laid7 h D.d mq Gl ml G.wl mw A c c' hkq
    have due1 := due_is h Gl hz hcc kr Go'
    have due2 := due_is h ml hz hcc kr mo
    rw [due1]
    simp only [Res.okb]
    rw [neD_lay (told_lay Go' hcc) (told_lay Go' hcc), decide_eq_true rfl]
    simp only [Res.okb, Bool.not_true, Bool.false_eq_true, if_false]
    rw [due2]
    simp only [Res.okb]
    have hcp : cpOf b k = cpOf m k := A k hkq
    have nn : toldO p.a b c c' k = none ↔ toldO p.a m c c' k = none := by
      unfold toldO
      rw [hcp, LD.lost]
      split <;> simp
    rw [isNone_same nn]
    simp only [Res.okb, Bool.not_true, Bool.false_eq_true, if_false]
    refine .next (P := fun _ => True) (.nx trivial) fun _ _ => ?_
    by_cases tq : cpOf b k = 46 ∧ (laidT p.a b c c' k).c = []
    · have et : toldO p.a b c c' k = some (laidT p.a b c c' k) := by unfold toldO; exact if_pos tq
      rw [et]
      simp only [Option.isSome_some, if_true, show ∀ x : T3 Str (List Int) (List Int), unw (some x) = .ok x from fun _ => rfl, Res.okb]
      rw [laid_is h ml mo hz hcc kr]
      simp only [Res.okb]
      have alt : d1 < (al.length : Int) := by omega
      rw [setR_str d10 alt]
      simp only [Res.okb]
      have hset : (al.set d1.toNat (laidT p.a m c c' k).a)[d1.toNat]? = some (laidT p.a m c c' k).a := List.getElem?_set_self (by omega)
      rw [idx_int d10 hset]
      simp only [Res.okb]
      have lm : (laidT p.a m c c' k).a.length = p.a.1.toNat := laidT_len ml
      have lb : (laidT p.a b c c' k).a.length = p.a.1.toNat := laidT_len Gl
      rw [of_is D.d n2 lm mq]
      simp only [Res.okb]
      rw [put_of_is D.d n2 Gl lm lb mq LD.agree LD.out]
      simp only [Res.okb]
      rw [show ScaEq.eq (laidT p.a b c c' k).a (laidT p.a b c c' k).a = true from decide_eq_true rfl]
      simp only [Bool.not_true, Bool.false_eq_true, if_false]
      have LM := laid7 h D.d mq ml Gl mw G.wl A.symm c c' hkq
      have hdb : cpOf b k = 46 := tq.1
      refine .next (P := Go p.a ps) (.next (P := fun _ => True) (.nx trivial) fun _ _ => .nx ?_) fun s G => .nx G
      refine ⟨lb, laidT_ok Go' hcc, LD.wl, laid_sound h Gl Go' G.sd hcc kr hdb, by show (al.set _ _).length = _; rw [List.length_set]; exact Ga, fun j r hj => ?_⟩
      by_cases ej : j = d1.toNat
      · subst ej
        have : q = r := Option.some.inj (hq.symm.trans hj)
        subst this
        exact ⟨_, hset, lm, LM.wl, laidT_ok mo hcc, LD.agree⟩
      · obtain ⟨m', hm', ml', mw', mo', A'⟩ := G.at' j r hj
        refine ⟨m', by show (al.set _ _)[j]? = _; rw [List.getElem?_set_ne (fun e => ej e.symm)]; exact hm', ml', mw', mo', fun x hx => ?_⟩
        have mr := List.mem_of_getElem? hj
        have nq : ¬ InP q x := fun z => by
          have e := part_same D.d mq mr z hx
          subst e
          obtain ⟨j1, e1⟩ := List.getElem?_eq_some_iff.mp hq
          obtain ⟨j2, e2⟩ := List.getElem?_eq_some_iff.mp hj
          have o := List.pairwise_iff_getElem.mp D.d.ord
          rcases Nat.lt_trichotomy j d1.toNat with l | l | l
          · have := o _ _ j2 j1 l
            rw [e1, e2] at this; omega
          · exact ej l
          · have := o _ _ j1 j2 l
            rw [e1, e2] at this; omega
        have xr := part_rng D.d mr hx
        exact (LD.out x xr.1 xr.2 nq).trans (A' x hx)
    · have et : toldO p.a b c c' k = none := by unfold toldO; exact if_neg tq
      rw [et]
      simp only [Option.isSome_none, Bool.false_eq_true, if_false]
      exact .next (P := Go p.a ps) (.nx G) fun s G => .nx G
  · rw [meddling7 h D.d D.tl D.two D.three G.len G.wl G.sd]
    exact .ok rfl
end K77


open PySem PySem.W PyProof.Rows in
set_option maxRecDepth 100000 in
set_option maxHeartbeats 0 in
theorem PySem.Challenge.cw_ringstones_k77_whole_fields_apart_holds : PySem.Challenge.rw_ringstones_k77_whole_fields_apart.Holds := by
  w_on; o_law; k_head; (case hw => w_witness2)
  k_fill
  refine L2.walk_of (l := PySem.Challenge.rw_ringstones_k77_whole_fields_apart) (n := 63) (k := 7) (x := "_law_script") (CX := fun w => L2.CX PySem.Challenge.rw_ringstones_k77_whole_fields_apart.prog w) (sp := fun w => G.spLaw _) rfl (by decide) rfl ⟨rfl, by decide, by decide⟩ (fun w h Y => PySem.W.kIn_of Y) ?F (fun _ _ a ns hl _ hS => ⟨a, ns, rfl, hS, hl, fun _ _ h => h⟩) (fun _ _ _ _ _ h => by
    obtain ⟨_, _, _, _, _, _, _, _, _, _, _, _, z⟩ := h
    exact z.elim)
  case F =>
    intro w mg fa h KX G hmg
    refine' K77.all_mk KX G hmg K77.law_true ?a0 ?l0 ?c0 ?k0 ?a1 ?l1 ?c1 ?k1 ?a2 ?l2 ?c2 ?k2 ?a3 ?l3 ?c3 ?k3 ?a4 ?l4 ?c4 ?k4 ?a5 ?l5 ?c5 ?k5 ?a6 ?l6 ?c6 ?k6 ?a7 ?l7 ?c7 ?k7 ?a8 ?l8 ?c8 ?k8 ?a9 ?l9 ?c9 ?k9 ?a10 ?l10 ?c10 ?k10 ?a11 ?l11 ?c11 ?k11 ?a12 ?l12 ?c12 ?k12 ?a13 ?l13 ?c13 ?k13 ?a14 ?l14 ?c14 ?k14 ?a15 ?l15 ?c15 ?k15 ?a16 ?l16 ?c16 ?k16 ?a17 ?l17 ?c17 ?k17 ?a18 ?l18 ?c18 ?k18 ?a19 ?l19 ?c19 ?k19 ?a20 ?l20 ?c20 ?k20 ?a21 ?l21 ?c21 ?k21 ?a22 ?l22 ?c22 ?k22 ?a23 ?l23 ?c23 ?k23 ?a24 ?l24 ?c24 ?k24 ?a25 ?l25 ?c25 ?k25 ?a26 ?l26 ?c26 ?k26 ?a27 ?l27 ?c27 ?k27 ?a28 ?l28 ?c28 ?k28 ?a29 ?l29 ?c29 ?k29 ?a30 ?l30 ?c30 ?k30 ?a31 ?l31 ?c31 ?k31 ?a32 ?l32 ?c32 ?k32 ?a33 ?l33 ?c33 ?k33 ?a34 ?l34 ?c34 ?k34 ?a35 ?l35 ?c35 ?k35 ?a36 ?l36 ?c36 ?k36 ?a37 ?l37 ?c37 ?k37 ?z_sorted ?z_range ?z_len ?z_list ?z_isinstance ?z_int ?z_bool ?z_enumerate ?z_set ?z_max ?z_tuple ?z_min ?xa_Occupied ?xk_Occupied ?xb_Occupied ?xt_Occupied ?xi_Occupied ?xg_Occupied ?xr_Occupied ?xd_Occupied ?xc_Occupied ?xm_Occupied ?xs_Occupied ?xx_Occupied ?xa_Breathless ?xk_Breathless ?xb_Breathless ?xt_Breathless ?xi_Breathless ?xg_Breathless ?xr_Breathless ?xd_Breathless ?xc_Breathless ?xm_Breathless ?xs_Breathless ?xx_Breathless ?xa_Still ?xk_Still ?xb_Still ?xt_Still ?xi_Still ?xg_Still ?xr_Still ?xd_Still ?xc_Still ?xm_Still ?xs_Still ?xx_Still ?xa_NoField ?xk_NoField ?xb_NoField ?xt_NoField ?xi_NoField ?xg_NoField ?xr_NoField ?xd_NoField ?xc_NoField ?xm_NoField ?xs_NoField ?xx_NoField ?xn ?xz ?sb_Still_Occupied ?sb_Breathless_Occupied ?sb_NoField_Occupied ?sb_Occupied_Breathless ?sb_Still_Breathless ?sb_NoField_Breathless ?oa_Surroundings ?og_Surroundings ?oh_Surroundings ?oo_Surroundings ?os_Surroundings ?om_Surroundings ?oq_Surroundings ?of_Surroundings_the_web ?of_Surroundings_signs ?of_Surroundings_owners ?im14 ?im15 ?im16 ?im17 ?im18 ?im19 ?im20 ?im21
    (case oa_Surroundings => first | rfl | k_is)
    (case a0 => k_is)
    (case l0 => k_is)
    (case c0 => k_is)
    (case k0 => k_is)
    (case a1 => k_is)
    (case l1 => k_is)
    (case c1 => k_is)
    (case k1 => k_is)
    (case a2 => k_is)
    (case l2 => k_is)
    (case c2 => k_is)
    (case k2 => k_is)
    (case a3 => k_is)
    (case l3 => k_is)
    (case c3 => k_is)
    (case k3 => k_is)
    (case a4 => k_is)
    (case l4 => k_is)
    (case c4 => k_is)
    (case k4 => k_is)
    (case a5 => k_is)
    (case l5 => k_is)
    (case c5 => k_is)
    (case k5 => k_is)
    (case a6 => k_is)
    (case l6 => k_is)
    (case c6 => k_is)
    (case k6 => k_is)
    (case a7 => k_is)
    (case l7 => k_is)
    (case c7 => k_is)
    (case k7 => k_is)
    (case a8 => k_is)
    (case l8 => k_is)
    (case c8 => k_is)
    (case k8 => k_is)
    (case a9 => k_is)
    (case l9 => k_is)
    (case c9 => k_is)
    (case k9 => k_is)
    (case a10 => k_is)
    (case l10 => k_is)
    (case c10 => k_is)
    (case k10 => k_is)
    (case a11 => k_is)
    (case l11 => k_is)
    (case c11 => k_is)
    (case k11 => k_is)
    (case a12 => k_is)
    (case l12 => k_is)
    (case c12 => k_is)
    (case k12 => k_is)
    (case a13 => k_is)
    (case l13 => k_is)
    (case c13 => k_is)
    (case k13 => k_is)
    (case a14 => k_is)
    (case l14 => k_is)
    (case c14 => k_is)
    (case k14 => k_is)
    (case a15 => k_is)
    (case l15 => k_is)
    (case c15 => k_is)
    (case k15 => k_is)
    (case a16 => k_is)
    (case l16 => k_is)
    (case c16 => k_is)
    (case k16 => k_is)
    (case a17 => k_is)
    (case l17 => k_is)
    (case c17 => k_is)
    (case k17 => k_is)
    (case a18 => k_is)
    (case l18 => k_is)
    (case c18 => k_is)
    (case k18 => k_is)
    (case a19 => k_is)
    (case l19 => k_is)
    (case c19 => k_is)
    (case k19 => k_is)
    (case a20 => k_is)
    (case l20 => k_is)
    (case c20 => k_is)
    (case k20 => k_is)
    (case a21 => k_is)
    (case l21 => k_is)
    (case c21 => k_is)
    (case k21 => k_is)
    (case a22 => k_is)
    (case l22 => k_is)
    (case c22 => k_is)
    (case k22 => k_is)
    (case a23 => k_is)
    (case l23 => k_is)
    (case c23 => k_is)
    (case k23 => k_is)
    (case a24 => k_is)
    (case l24 => k_is)
    (case c24 => k_is)
    (case k24 => k_is)
    (case a25 => k_is)
    (case l25 => k_is)
    (case c25 => k_is)
    (case k25 => k_is)
    (case a26 => k_is)
    (case l26 => k_is)
    (case c26 => k_is)
    (case k26 => k_is)
    (case a27 => k_is)
    (case l27 => k_is)
    (case c27 => k_is)
    (case k27 => k_is)
    (case a28 => k_is)
    (case l28 => k_is)
    (case c28 => k_is)
    (case k28 => k_is)
    (case a29 => k_is)
    (case l29 => k_is)
    (case c29 => k_is)
    (case k29 => k_is)
    (case a30 => k_is)
    (case l30 => k_is)
    (case c30 => k_is)
    (case k30 => k_is)
    (case a31 => k_is)
    (case l31 => k_is)
    (case c31 => k_is)
    (case k31 => k_is)
    (case a32 => k_is)
    (case l32 => k_is)
    (case c32 => k_is)
    (case k32 => k_is)
    (case a33 => k_is)
    (case l33 => k_is)
    (case c33 => k_is)
    (case k33 => k_is)
    (case a34 => k_is)
    (case l34 => k_is)
    (case c34 => k_is)
    (case k34 => k_is)
    (case a35 => k_is)
    (case l35 => k_is)
    (case c35 => k_is)
    (case k35 => k_is)
    (case a36 => k_is)
    (case l36 => k_is)
    (case c36 => k_is)
    (case k36 => k_is)
    (case a37 => k_is)
    (case l37 => k_is)
    (case c37 => k_is)
    (case k37 => k_is)
    (case z_sorted => k_is)
    (case z_range => k_is)
    (case z_len => k_is)
    (case z_list => k_is)
    (case z_isinstance => k_is)
    (case z_int => k_is)
    (case z_bool => k_is)
    (case z_enumerate => k_is)
    (case z_set => k_is)
    (case z_max => k_is)
    (case z_tuple => k_is)
    (case z_min => k_is)
    (case xa_Occupied => first | rfl | k_is)
    (case xk_Occupied => first | rfl | k_is)
    (case xb_Occupied => first | rfl | k_is)
    (case xt_Occupied => first | rfl | k_is)
    (case xi_Occupied => first | rfl | k_is)
    (case xg_Occupied => first | rfl | k_is)
    (case xr_Occupied => first | rfl | k_is)
    (case xd_Occupied => first | rfl | k_is)
    (case xc_Occupied => first | rfl | k_is)
    (case xm_Occupied => first | rfl | k_is)
    (case xs_Occupied => first | rfl | k_is)
    (case xx_Occupied => k_exc)
    (case xa_Breathless => first | rfl | k_is)
    (case xk_Breathless => first | rfl | k_is)
    (case xb_Breathless => first | rfl | k_is)
    (case xt_Breathless => first | rfl | k_is)
    (case xi_Breathless => first | rfl | k_is)
    (case xg_Breathless => first | rfl | k_is)
    (case xr_Breathless => first | rfl | k_is)
    (case xd_Breathless => first | rfl | k_is)
    (case xc_Breathless => first | rfl | k_is)
    (case xm_Breathless => first | rfl | k_is)
    (case xs_Breathless => first | rfl | k_is)
    (case xx_Breathless => k_exc)
    (case xa_Still => first | rfl | k_is)
    (case xk_Still => first | rfl | k_is)
    (case xb_Still => first | rfl | k_is)
    (case xt_Still => first | rfl | k_is)
    (case xi_Still => first | rfl | k_is)
    (case xg_Still => first | rfl | k_is)
    (case xr_Still => first | rfl | k_is)
    (case xd_Still => first | rfl | k_is)
    (case xc_Still => first | rfl | k_is)
    (case xm_Still => first | rfl | k_is)
    (case xs_Still => first | rfl | k_is)
    (case xx_Still => k_exc)
    (case xa_NoField => first | rfl | k_is)
    (case xk_NoField => first | rfl | k_is)
    (case xb_NoField => first | rfl | k_is)
    (case xt_NoField => first | rfl | k_is)
    (case xi_NoField => first | rfl | k_is)
    (case xg_NoField => first | rfl | k_is)
    (case xr_NoField => first | rfl | k_is)
    (case xd_NoField => first | rfl | k_is)
    (case xc_NoField => first | rfl | k_is)
    (case xm_NoField => first | rfl | k_is)
    (case xs_NoField => first | rfl | k_is)
    (case xx_NoField => k_exc)
    (case xn => first | rfl | k_is)
    (case xz => first | rfl | k_is)
    (case sb_Still_Occupied => first | rfl | k_is)
    (case sb_Breathless_Occupied => first | rfl | k_is)
    (case sb_NoField_Occupied => first | rfl | k_is)
    (case sb_Occupied_Breathless => first | rfl | k_is)
    (case sb_Still_Breathless => first | rfl | k_is)
    (case sb_NoField_Breathless => first | rfl | k_is)
    (case og_Surroundings => first | rfl | k_is)
    (case oh_Surroundings => first | rfl | k_is)
    (case oo_Surroundings => first | rfl | k_is)
    (case os_Surroundings => first | rfl | k_is)
    (case om_Surroundings => first | rfl | k_is)
    (case oq_Surroundings => first | rfl | k_is)
    (case of_Surroundings_the_web => first | rfl | k_is)
    (case of_Surroundings_signs => first | rfl | k_is)
    (case of_Surroundings_owners => first | rfl | k_is)
    (case im14 => first | rfl | k_is)
    (case im15 => first | rfl | k_is)
    (case im16 => first | rfl | k_is)
    (case im17 => first | rfl | k_is)
    (case im18 => first | rfl | k_is)
    (case im19 => first | rfl | k_is)
    (case im20 => first | rfl | k_is)
    (case im21 => first | rfl | k_is)
