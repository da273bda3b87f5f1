import PyProof.Rows.All
import Wide.All
import OpenK.AllK
import Wide.FinOn
import HandS.ForMost
import HandS.ForExc
import HandS.Wide
import HandS.CallSlots
import HandS.SortRule
import HandS.SortInts
import HandS.NoneIn
import HandS.IsInst
import HandS.Deep
import HandS.TupLe
import HandS.Conv
import HandS.More
import HandS.Defaults
import HandS.Style
import HandS.StrMore
import HandS.RevRange
import KE.KEqNest
import HandS.DictComp
import HandS.ExcOwn
import HandS.TryMany
import HandS.TryOnly
import HandS.ExcIs
import HandS.TupAny
import HandS.Replace
import HandS.WordsDict
import HandS.TupLen
import HandS.Records
import HandS.TupMul
import PyProof.EqAt
import PyProof.EqKinds
import PyProof.TupleCall
import HandS.ExcField
import KE.KExcIs
import HandS.Iter
import HandS.ExcValue
import KE.DataFind
import KE.DataMinMax
import KE.SortData
import HandS.Keys
import HandS.SortKw
import HandS.WideBits
import PyProof.ReprRoads
import PyProof.CallFns
import HandS.Ends
import HandS.SetFor
import HandS.Strs
import HandS.HotCalls
import KE.KDictKeyed
import KE.KDictDisplayH
import KE.KDictWalk
import HandS.Flow
import HandS.Zip
import PyProof.Rows.StrFit
import PySem.Challenge.RW_ringstones_k58_no_standing
set_option Elab.async false
set_option linter.all false
set_option maxRecDepth 100000
set_option maxHeartbeats 4000000
namespace G
open PySem PySem.Spec PyProof.Rows L2
abbrev Frag := PySem.W.Frag
inductive Pay where
  | no | int (i : Int) | strs (xs : List Str)
structure Exn where
  cls : Str
  pay : Pay
inductive Res (α : Type) where
  | ok (a : α) | exc (x : Exn) | stuck
def Res.bind {α β : Type} (m : Res α) (k : α → Res β) : Res β :=
  match m with
  | .ok a => k a
  | .exc x => .exc x
  | .stuck => .stuck
@[simp] theorem Res.ok_bind {α β : Type} (a : α) (k : α → Res β) : (Res.ok a).bind k = k a := rfl
@[simp] theorem Res.exc_bind {α β : Type} (x : Exn) (k : α → Res β) : (Res.exc x : Res α).bind k = .exc x := rfl
@[simp] theorem Res.stuck_bind {α β : Type} (k : α → Res β) : (Res.stuck : Res α).bind k = .stuck := rfl
theorem Res.okb {α β : Type} (a : α) (k : α → Res β) : (Res.ok a).bind k = k a := Eq.trans (Eq.refl ((Res.ok a).bind k)) (Eq.refl (k a))
theorem Res.bind_assoc {α β γ : Type} (m : Res α) (k : α → Res β) (l : β → Res γ) : (m.bind k).bind l = m.bind fun a => (k a).bind l := by cases m <;> rfl
def guardR {α : Type} (c : Bool) (m : Res α) : Res α := if c then m else .stuck
@[simp] theorem guardR_true {α : Type} (m : Res α) : guardR true m = m := rfl
@[simp] theorem guardR_false {α : Type} (m : Res α) : guardR false m = .stuck := rfl
theorem guardR_of {α : Type} {c : Bool} {m : Res α} (h : c = true) : guardR c m = m := by rw [h]; rfl

def All2 {α β : Type} (P : α → β → Prop) : List α → List β → Prop
  | [], [] => True
  | a :: as, b :: bs => P a b ∧ All2 P as bs
  | _, _ => False
section
variable {α β : Type} {P R : α → β → Prop}
theorem All2.imp (h : ∀ a b, P a b → R a b) : ∀ {as : List α} {bs : List β}, All2 P as bs → All2 R as bs
  | [], [], _ => trivial
  | _ :: _, _ :: _, ⟨x, y⟩ => ⟨h _ _ x, All2.imp h y⟩
  | [], _ :: _, x => x.elim
  | _ :: _, [], x => x.elim
theorem All2.length : ∀ {as : List α} {bs : List β}, All2 P as bs → as.length = bs.length
  | [], [], _ => rfl
  | _ :: _, _ :: _, ⟨_, y⟩ => congrArg (· + 1) (All2.length y)
  | [], _ :: _, x => x.elim
  | _ :: _, [], x => x.elim
theorem All2.get : ∀ {as : List α} {bs : List β} {i : Nat} {b : β}, All2 P as bs → bs[i]? = some b → ∃ a, as[i]? = some a ∧ P a b
  | _ :: _, _ :: _, 0, b, ⟨x, _⟩, h => by
    have e : _ = b := Option.some.inj h
    subst e
    exact ⟨_, rfl, x⟩
  | _ :: as, _ :: bs, i + 1, b, ⟨_, y⟩, h => All2.get (as := as) (bs := bs) (i := i) y h
  | [], [], i, b, _, h => by simp at h
  | [], _ :: _, _, _, x, _ => x.elim
  | _ :: _, [], _, _, x, _ => x.elim
theorem All2.append : ∀ {as as' : List α} {bs bs' : List β}, All2 P as bs → All2 P as' bs' → All2 P (as ++ as') (bs ++ bs')
  | [], _, [], _, _, h => h
  | _ :: _, _, _ :: _, _, ⟨x, y⟩, h => ⟨x, All2.append y h⟩
  | [], _, _ :: _, _, x, _ => x.elim
  | _ :: _, _, [], _, x, _ => x.elim
theorem All2.take : ∀ (n : Nat) {as : List α} {bs : List β}, All2 P as bs → All2 P (as.take n) (bs.take n)
  | 0, _, _, _ => by rw [List.take_zero, List.take_zero]; exact trivial
  | n + 1, [], [], _ => trivial
  | n + 1, _ :: as, _ :: bs, ⟨x, y⟩ => ⟨x, All2.take n y⟩
  | _ + 1, [], _ :: _, x => x.elim
  | _ + 1, _ :: _, [], x => x.elim
theorem All2.drop : ∀ (n : Nat) {as : List α} {bs : List β}, All2 P as bs → All2 P (as.drop n) (bs.drop n)
  | 0, _, _, h => h
  | n + 1, [], [], _ => trivial
  | n + 1, _ :: as, _ :: bs, ⟨x, y⟩ => All2.drop n y
  | _ + 1, [], _ :: _, x => x.elim
  | _ + 1, _ :: _, [], x => x.elim
theorem All2.set : ∀ (i : Nat) {as : List α} {bs : List β} {a : α} {b : β}, All2 P as bs → P a b → All2 P (as.set i a) (bs.set i b)
  | _, [], [], _, _, _, _ => by simp [All2]
  | 0, _ :: _, _ :: _, _, _, ⟨x, y⟩, h => ⟨h, y⟩
  | i + 1, _ :: _, _ :: _, _, _, ⟨x, y⟩, h => ⟨x, All2.set i y h⟩
  | _, [], _ :: _, _, _, x, _ => x.elim
  | _, _ :: _, [], _, _, x, _ => x.elim
end
theorem All2.map_eq {α : Type} {f : α → V} : ∀ {vs : List V} {as : List α}, All2 (fun v a => v = f a) vs as → vs = as.map f
  | [], [], _ => rfl
  | _ :: _, _ :: _, ⟨x, y⟩ => by rw [x, All2.map_eq y]; rfl
  | [], _ :: _, x => x.elim
  | _ :: _, [], x => x.elim
theorem All2.of_map {α : Type} {f : α → V} : ∀ {as : List α}, All2 (fun v a => v = f a) (as.map f) as
  | [] => trivial
  | _ :: _ => ⟨rfl, All2.of_map⟩

def isT : HO → Bool
  | .tup _ => true
  | .frz _ _ => true
  | .xd _ => true
  | _ => false
def tups (H : Hp) : Hp := fun a => match H a with
  | some u => if isT u then some u else none
  | none => none
theorem tups_le (H : Hp) : Same (tups H) H := fun a u h => by
  unfold tups at h
  split at h
  · rename_i w e
    split at h
    · rw [e]; exact h
    · cases h
  · cases h
theorem tups_some {H : Hp} {a : Addr} {u : HO} (h : H a = some u) (t : isT u = true) : tups H a = some u := by
  unfold tups; rw [h]; simp [t]
theorem tups_isT {H : Hp} {a : Addr} {u : HO} (h : tups H a = some u) : isT u = true := by
  unfold tups at h
  split at h
  · split at h
    · cases h; assumption
    · cases h
  · cases h
theorem tups_mono {H H' : Hp} (h : Same H H') : Same (tups H) (tups H') := fun a u e => tups_some (h _ _ (tups_le H _ _ e)) (tups_isT e)
def noHp : Hp := fun _ => none
def join (F N : Hp) : Hp := fun a => match F a with
  | some u => some u
  | none => N a
theorem join_l {F N : Hp} : Same F (join F N) := fun a u h => by unfold join; rw [h]
theorem join_le {F N H : Hp} (h1 : Same F H) (h2 : Same N H) : Same (join F N) H := fun a u h => by
  unfold join at h
  split at h
  · rename_i w e; cases h; exact h1 _ _ e
  · exact h2 _ _ h
theorem join_r {F N H : Hp} (h1 : Same F H) (h2 : Same N H) : Same N (join F N) := fun a u h => by
  unfold join
  split
  · rename_i w e
    rw [← h1 _ _ e, h2 _ _ h]
  · exact h
theorem join_or {F N : Hp} {a : Addr} {u : HO} (h : join F N a = some u) : F a = some u ∨ N a = some u := by
  unfold join at h
  split at h
  · rename_i w e; cases h; exact .inl e
  · exact .inr h

class Enc (α : Type) where
  rep : Frag → Hp → V → α → Prop
  mono : ∀ {K : Frag} {H H' : Hp} {v : V} {a : α}, Same H H' → rep K H v a → rep K H' v a
class Imm (α : Type) [Enc α] : Prop where
  imm : ∀ {K : Frag} {H : Hp} {v : V} {a : α}, Enc.rep K H v a → Enc.rep K (tups H) v a
class Flat (α : Type) [Enc α] where
  v : α → V
  flat : ∀ {K : Frag} {H : Hp} {u : V} {a : α}, Enc.rep K H u a ↔ u = v a
instance : Enc Int := ⟨fun _ _ v i => v = .int i, fun _ h => h⟩
instance : Enc Bool := ⟨fun _ _ v i => v = .bl i, fun _ h => h⟩
instance : Enc Str := ⟨fun _ _ v i => v = .str i, fun _ h => h⟩
instance : Enc Unit := ⟨fun _ _ v _ => v = .non, fun _ h => h⟩
instance : Flat Int := ⟨.int, Iff.rfl⟩
instance : Flat Bool := ⟨.bl, Iff.rfl⟩
instance : Flat Str := ⟨.str, Iff.rfl⟩
instance : Flat Unit := ⟨fun _ => .non, Iff.rfl⟩
instance {α : Type} [Enc α] [Flat α] : Imm α := ⟨fun h => Flat.flat.mpr (Flat.flat.mp h)⟩
instance {α : Type} [Enc α] : Enc (Option α) :=
  ⟨fun K H v o => match o with
    | none => v = .non
    | some a => v ≠ .non ∧ Enc.rep K H v a,
   fun {K H H' v o} s h => by
    cases o with
    | none => exact h
    | some a => exact ⟨h.1, Enc.mono s h.2⟩⟩
instance {α : Type} [Enc α] [Imm α] : Imm (Option α) := ⟨fun {K H v o} h => by
  cases o with
  | none => exact h
  | some a => exact ⟨h.1, Imm.imm h.2⟩⟩
theorem All2.mono {α : Type} [Enc α] {K : Frag} {H H' : Hp} {vs : List V} {as : List α} (s : Same H H') (h : All2 (fun v a => Enc.rep K H v a) vs as) : All2 (fun v a => Enc.rep K H' v a) vs as :=
  All2.imp (fun _ _ x => Enc.mono s x) h
instance {α : Type} [Enc α] : Enc (List α) :=
  ⟨fun K H v as => ∃ p vs, v = .ref p ∧ H p = some (.lst vs) ∧ All2 (fun v a => Enc.rep K H v a) vs as,
   fun s ⟨p, vs, e, h, r⟩ => ⟨p, vs, e, s _ _ h, r.mono s⟩⟩
theorem seqT {K : Frag} {H H' : Hp} {a : Addr} {xs : List V} (e : Same H H') (h : SqT K H a xs) : SqT K H' a xs := by
  rcases h with (h | ⟨o, h⟩) | h
  · exact .inl (.inl (e _ _ h))
  · exact .inl (.inr ⟨o, e _ _ h⟩)
  · exact .inr h
theorem seqT_tups {K : Frag} {H : Hp} {a : Addr} {xs : List V} (h : SqT K H a xs) : SqT K (tups H) a xs := by
  rcases h with (h | ⟨o, h⟩) | h
  · exact .inl (.inl (tups_some h rfl))
  · exact .inl (.inr ⟨o, tups_some h rfl⟩)
  · exact .inr h
instance {α β : Type} [Enc α] [Enc β] : Enc (α × β) :=
  ⟨fun K H v x => ∃ p v1 v2, v = .ref p ∧ H p = some (.tup [v1, v2]) ∧ Enc.rep K H v1 x.1 ∧ Enc.rep K H v2 x.2,
   fun s ⟨p, v1, v2, e, h, r1, r2⟩ => ⟨p, v1, v2, e, s _ _ h, Enc.mono s r1, Enc.mono s r2⟩⟩
instance {α β : Type} [Enc α] [Enc β] [Imm α] [Imm β] : Imm (α × β) :=
  ⟨fun ⟨p, v1, v2, e, h, r1, r2⟩ => ⟨p, v1, v2, e, tups_some h rfl, Imm.imm r1, Imm.imm r2⟩⟩
structure T3 (α β γ : Type) where
  a : α
  b : β
  c : γ
instance {α β γ : Type} [Enc α] [Enc β] [Enc γ] : Enc (T3 α β γ) :=
  ⟨fun K H v x => ∃ p v1 v2 v3, v = .ref p ∧ H p = some (.tup [v1, v2, v3]) ∧ Enc.rep K H v1 x.a ∧ Enc.rep K H v2 x.b ∧ Enc.rep K H v3 x.c,
   fun s ⟨p, v1, v2, v3, e, h, r1, r2, r3⟩ => ⟨p, v1, v2, v3, e, s _ _ h, Enc.mono s r1, Enc.mono s r2, Enc.mono s r3⟩⟩
instance {α β γ : Type} [Enc α] [Enc β] [Enc γ] [Imm α] [Imm β] [Imm γ] : Imm (T3 α β γ) :=
  ⟨fun ⟨p, v1, v2, v3, e, h, r1, r2, r3⟩ => ⟨p, v1, v2, v3, e, tups_some h rfl, Imm.imm r1, Imm.imm r2, Imm.imm r3⟩⟩
structure Tup (α : Type) where
  l : List α
instance {α : Type} [Enc α] : Enc (Tup α) :=
  ⟨fun K H v as => ∃ p vs, v = .ref p ∧ SqT K H p vs ∧ All2 (fun v a => Enc.rep K H v a) vs as.l,
   fun s ⟨p, vs, e, h, r⟩ => ⟨p, vs, e, seqT s h, r.mono s⟩⟩
instance {α : Type} [Enc α] [Imm α] : Imm (Tup α) :=
  ⟨fun ⟨p, vs, e, h, r⟩ => ⟨p, vs, e, seqT_tups h, All2.imp (fun _ _ x => Imm.imm x) r⟩⟩
structure Scr where
  ns : List Int
instance : Enc Scr :=
  ⟨fun K H v x => ∃ p, v = .ref p ∧ SqL K H p (x.ns.map V.int), fun s ⟨p, e, h⟩ => ⟨p, e, s.seq h⟩⟩

structure Slot where
  P : Frag → Hp → Hp → Option V → Prop
  mono : ∀ {K : Frag} {F F' G G' : Hp} {o : Option V}, Same F F' → Same G G' → P K F G o → P K F' G' o
def any : Slot := ⟨fun _ _ _ _ => True, fun _ _ h => h⟩
def fr {α : Type} [Enc α] (a : α) : Slot := ⟨fun K F _ o => ∃ v, o = some v ∧ Enc.rep K F v a, fun s _ ⟨v, e, r⟩ => ⟨v, e, Enc.mono s r⟩⟩
def ow {α : Type} [Enc α] (as : List α) : Slot :=
  ⟨fun K F G o => ∃ p vs, o = some (.ref p) ∧ G p = some (.lst vs) ∧ All2 (fun v a => Enc.rep K F v a) vs as,
   fun s t ⟨p, vs, e, h, r⟩ => ⟨p, vs, e, t _ _ h, r.mono s⟩⟩
def lk {α : Type} [Enc α] (p : Addr) (vs : List V) (as : List α) : Slot :=
  ⟨fun K F G o => o = some (.ref p) ∧ G p = some (.lst vs) ∧ All2 (fun v a => Enc.rep K F v a) vs as,
   fun s t ⟨e, h, r⟩ => ⟨e, t _ _ h, r.mono s⟩⟩
def Sl (K : Frag) (F H : Hp) : List Slot → L2.St → Prop
  | [], [] => True
  | s :: ss, o :: σ => s.P K F H o ∧ Sl K F H ss σ
  | _, _ => False
theorem Sl.mono {K : Frag} {F F' H H' : Hp} (a : Same F F') (b : Same H H') : ∀ {ss : List Slot} {σ : L2.St}, Sl K F H ss σ → Sl K F' H' ss σ
  | [], [], _ => trivial
  | s :: ss, o :: σ, ⟨x, y⟩ => ⟨s.mono a b x, Sl.mono a b y⟩
  | [], _ :: _, h => h.elim
  | _ :: _, [], h => h.elim
theorem Sl.get {K : Frag} {F H : Hp} : ∀ {ss : List Slot} {σ : L2.St} {i : Nat} {s : Slot}, Sl K F H ss σ → ss[i]? = some s → ∃ o, σ[i]? = some o ∧ s.P K F H o
  | s :: ss, o :: σ, 0, t, ⟨x, y⟩, h => by
    have e : s = t := Option.some.inj h
    subst e
    exact ⟨o, rfl, x⟩
  | s :: ss, o :: σ, i + 1, t, ⟨x, y⟩, h => Sl.get (i := i) y h
  | [], [], _, _, _, h => by simp at h
  | [], _ :: _, _, _, h, _ => h.elim
  | _ :: _, [], _, _, h, _ => h.elim

def payRep (p : Pay) (d : Option Addr) (H : Hp) : Prop :=
  match p with
  | .no => d = none
  | .int i => ∃ x, d = some x ∧ H x = some (.xd [("row", .int i)])
  | .strs xs => ∃ x p o, d = some x ∧ H x = some (.xd [("boards", .ref p)]) ∧ H p = some (.frz o (.lst (xs.map V.str)))
section
variable (X : Cx) (W : WX)
def EX (σ : L2.St) (H : Hp) (x : Exn) : Prop := ∀ cls d H', X.mg x.cls = some cls → Same H H' → payRep x.pay d H' → W cls d σ H'
def wpR {α : Type} (m : Res α) (σ : L2.St) (H : Hp) (P : α → Prop) : Prop :=
  match m with
  | .ok a => P a
  | .exc x => EX X W σ H x
  | .stuck => False
def rI {α : Type} [Enc α] (ss : List Slot) (m : Res α) : TE := fun σ H Q =>
  Sl X.K H H ss σ ∧ wpR X W m σ H fun a => ∀ v H', Same H H' → Enc.rep X.K H' v a → Q v H'
def XI {α : Type} [Enc α] (ss : List Slot) (e : Expr) (m : Res α) : Prop := PE X e (rI X W ss m)
def rT (ss : List Slot) (m : Res Bool) : TT := fun σ H Q =>
  Sl X.K H H ss σ ∧ wpR X W m σ H fun a => ∀ H', Same H H' → Q a H'
def XT (ss : List Slot) (e : Expr) (m : Res Bool) : Prop := PT X e (rT X W ss m)
end
structure Ext (F H F' H' : Hp) : Prop where
  le : Same F F'
  sub : Same F' H'
  new : ∀ a u, F' a = some u → F a = some u ∨ H a = none ∨ isT u = true
def Priv (G H F' H' : Hp) : Prop := ∀ a u, G a = some u → H' a = some u ∧ H a = none ∧ F' a = none ∧ isT u = false
section
variable (X : Cx) (W : WX)
def rK {α : Type} (ss : List Slot) (m : Res α) (kd : α → Slot) : TE := fun σ H Q =>
  ∃ F, Same F H ∧ Sl X.K F H ss σ ∧ wpR X W m σ H fun a => ∀ v H' F' G', Same H H' → Ext F H F' H' → Priv G' H F' H' → (kd a).P X.K F' G' (some v) → Q v H'
def XK {α : Type} (ss : List Slot) (e : Expr) (m : Res α) (kd : α → Slot) : Prop := PE X e (rK X W ss m kd)
end
section
variable {X : Cx} {W : WX} {ss : List Slot}
theorem EX.mono {σ : L2.St} {H H' : Hp} {x : Exn} (h : EX X W σ H x) (s : Same H H') : EX X W σ H' x := fun c d H2 a b e => h c d H2 a (s.trans b) e
theorem wpR_bind {α β : Type} {m : Res α} {k : α → Res β} {σ : L2.St} {H : Hp} {P : β → Prop} (h : wpR X W (m.bind k) σ H P) : wpR X W m σ H fun a => wpR X W (k a) σ H P := by
  cases m with
  | ok a => exact h
  | exc x => exact h
  | stuck => exact h
theorem wpR_imp {α : Type} {m : Res α} {σ : L2.St} {H H' : Hp} {P P' : α → Prop} (h : wpR X W m σ H P) (s : Same H H') (f : ∀ a, P a → P' a) : wpR X W m σ H' P' := by
  cases m with
  | ok a => exact f a h
  | exc x => exact EX.mono h s
  | stuck => exact h
theorem PE_imp {e : Expr} {t t' : TE} (h : PE X e t) (f : ∀ σ H Q, t' σ H Q → t σ H Q) : PE X e t' := ⟨fun pins s σ H Q I q => h.run pins s σ H Q I (f _ _ _ q)⟩
theorem PT_imp {e : Expr} {t t' : TT} (h : PT X e t) (f : ∀ σ H Q, t' σ H Q → t σ H Q) : PT X e t' := ⟨fun pins s σ H Q I q => h.run pins s σ H Q I (f _ _ _ q)⟩
theorem PA_imp {e : List Expr} {t t' : TA} (h : PA X e t) (f : ∀ σ H Q, t' σ H Q → t σ H Q) : PA X e t' := ⟨fun pos pins s σ H Q I q => h.run pos pins s σ H Q I (f _ _ _ q)⟩
theorem PSs_imp {e : List Stmt} {t t' : TS} (h : PSs X e t) (f : ∀ D σ H, t' D σ H → t D σ H) : PSs X e t' := ⟨fun pins s σ H D I q => h.run pins s σ H D I (f D σ H q)⟩
theorem PS_imp {e : Stmt} {t t' : TS} (h : PS X e t) (f : ∀ D σ H, t' D σ H → t D σ H) : PS X e t' := ⟨fun pins s σ H D I q => h.run pins s σ H D I (f D σ H q)⟩
theorem XI.cast {α : Type} [Enc α] {e : Expr} {m m' : Res α} (h : XI X W ss e m) (q : m' = m) : XI X W ss e m' := q ▸ h
theorem XT.cast {e : Expr} {m m' : Res Bool} (h : XT X W ss e m) (q : m' = m) : XT X W ss e m' := q ▸ h
theorem XK.cast {α : Type} {e : Expr} {m m' : Res α} {kd : α → Slot} (h : XK X W ss e m kd) (q : m' = m) : XK X W ss e m' kd := q ▸ h

theorem xi_fr (i : Nat) {α : Type} [Enc α] {a : α} {x : Str} {pos : Pos} (hs : ss[i]? = some (fr a) := by rfl) (hp : PE X (.Name x pos) (tVar i) := by exact pv _) : XI X W ss (.Name x pos) (.ok a) := by
  refine PE_imp hp fun σ H Q ⟨sl, q⟩ => ?_
  obtain ⟨o, ho, v, e, r⟩ := sl.get hs
  subst e
  exact ⟨v, ho, q v H (Same.refl H) r⟩
theorem xi_ow (i : Nat) {α : Type} [Enc α] {as : List α} {x : Str} {pos : Pos} (hs : ss[i]? = some (ow as) := by rfl) (hp : PE X (.Name x pos) (tVar i) := by exact pv _) : XI X W ss (.Name x pos) (.ok as) := by
  refine PE_imp hp fun σ H Q ⟨sl, q⟩ => ?_
  obtain ⟨o, ho, p, vs, e, g, r⟩ := sl.get hs
  subst e
  exact ⟨.ref p, ho, q _ H (Same.refl H) ⟨p, vs, rfl, g, r⟩⟩
theorem xi_const {α : Type} [Enc α] {e : Expr} {v : V} {a : α} (h : PE X e (tC v)) (r : ∀ K H, Enc.rep K H v a) : XI X W ss e (.ok a) :=
  PE_imp h fun σ H Q ⟨_, q⟩ => q v H (Same.refl H) (r _ _)
theorem xi_int {i : Int} {j pos} : XI X W ss (.Constant (.int i) j pos) (.ok i) := xi_const pe_int fun _ _ => rfl
theorem xi_bl {b : Bool} {j pos} : XI X W ss (.Constant (.bool b) j pos) (.ok b) := xi_const pe_bl fun _ _ => rfl
theorem xi_str {b : Str} {j pos} : XI X W ss (.Constant (.str b) j pos) (.ok b) := xi_const pe_str fun _ _ => rfl
theorem xi_non {j pos} : XI X W ss (.Constant .none j pos) (.ok ()) := xi_const pe_non fun _ _ => rfl
def okR {γ : Type} (m : Res γ) (P : γ → Prop) : Prop :=
  match m with
  | .ok c => P c
  | _ => False
def Op2 (X : Cx) (r : R2) {α β γ : Type} [Enc α] [Enc β] [Enc γ] (g : α → β → Res γ) : Prop :=
  ∀ (a : α) (b : β) (v w : V) (H : Hp) (Q : VK), Enc.rep X.K H v a → Enc.rep X.K H w b →
    okR (g a b) (fun c => ∀ v' H', Same H H' → Enc.rep X.K H' v' c → Q v' H') → r v w H Q
def NoX {α : Type} (m : Res α) : Prop := ∀ x, m ≠ .exc x
theorem r_op2 {α β γ : Type} [Enc α] [Enc β] [Enc γ] {r : R2} {g : α → β → Res γ} {m1 : Res α} {m2 : Res β} (ho : Op2 X r g) (hg : ∀ a b, NoX (g a b)) {σ : L2.St} {H : Hp} {Q : VK}
    (h : rI X W ss (m1.bind fun a => m2.bind fun b => g a b) σ H Q) : tOp r (rI X W ss m1) (rI X W ss m2) σ H Q := by
  obtain ⟨sl, q⟩ := h
  refine ⟨sl, wpR_imp (wpR_bind q) (Same.refl H) fun a q v H1 s1 r1 => ?_⟩
  refine ⟨sl.mono s1 s1, wpR_imp (wpR_bind q) s1 fun b q w H2 s2 r2 => ?_⟩
  refine ho a b v w H2 Q (Enc.mono s2 r1) r2 ?_
  unfold okR
  cases e : g a b with
  | ok c => rw [e] at q; exact fun v' H' s3 r3 => q v' H' (s1.trans (s2.trans s3)) r3
  | exc x => exact hg a b x e
  | stuck => rw [e] at q; exact q
theorem noX_ok {α : Type} {a : α} : NoX (Res.ok a) := fun _ h => nomatch h
theorem noX_guard {α : Type} {c : Bool} {a : α} : NoX (guardR c (Res.ok a)) := fun _ h => by cases c <;> cases h
theorem xi_bin {α β γ : Type} [Enc α] [Enc β] [Enc γ] {op : Operator} {r : R2} {g : α → β → Res γ} {m1 : Res α} {m2 : Res β} {a b : Expr} {pos : Pos} (hr : OpR X (binaryOp op) r) (ho : Op2 X r g) (hg : ∀ a b, NoX (g a b))
    (h1 : XI X W ss a m1) (h2 : XI X W ss b m2) : XI X W ss (.BinOp a op b pos) (m1.bind fun a => m2.bind fun b => g a b) :=
  PE_imp (pe_op hr h1 h2) fun _ _ _ h => r_op2 ho hg h
theorem xi_cmp {α β γ : Type} [Enc α] [Enc β] [Enc γ] {op : CmpOp} {r : R2} {g : α → β → Res γ} {m1 : Res α} {m2 : Res β} {a b : Expr} {pos : Pos} (hr : OpR X (compareOp op) r) (ho : Op2 X r g) (hg : ∀ a b, NoX (g a b)) (hm : behindInMarks op b = false)
    (h1 : XI X W ss a m1) (h2 : XI X W ss b m2) : XI X W ss (.Compare a [op] [b] pos) (m1.bind fun a => m2.bind fun b => g a b) :=
  PE_imp (pe_cmpR hr h1 h2 hm) fun _ _ _ h => r_op2 ho hg h
theorem xt_cmp {α β : Type} [Enc α] [Enc β] {op : CmpOp} {r : R2} {g : α → β → Res Bool} {m1 : Res α} {m2 : Res β} {a b : Expr} {pos : Pos} (hr : OpR X (compareOp op) r) (ho : Op2 X r g) (hg : ∀ a b, NoX (g a b)) (hm : behindInMarks op b = false)
    (h1 : XI X W ss a m1) (h2 : XI X W ss b m2) : XT X W ss (.Compare a [op] [b] pos) (m1.bind fun a => m2.bind fun b => g a b) :=
  PT_imp (pt_cmpR hr h1 h2 hm) fun σ H Q ⟨sl, q⟩ => r_op2 ho hg ⟨sl, wpR_imp q (Same.refl H) fun _ q v H' s r => ⟨_, r, q H' s⟩⟩
theorem op2_I0 {g : Int → Int → V} {γ : Type} [Enc γ] {f : Int → Int → γ} (h : ∀ i j K H, Enc.rep K H (g i j) (f i j)) : Op2 X (rI0 g) (fun i j : Int => Res.ok (f i j)) := fun a b v w H Q r1 r2 q =>
  ⟨a, b, r1, r2, q _ H (Same.refl H) (h _ _ _ _)⟩
theorem op2_I {C : Int → Int → Prop} {c : Int → Int → Bool} {g : Int → Int → V} {γ : Type} [Enc γ] {f : Int → Int → γ} (hc : ∀ i j, c i j = true → C i j) (h : ∀ i j K H, Enc.rep K H (g i j) (f i j)) :
    Op2 X (L2.rI C g) (fun i j : Int => guardR (c i j) (Res.ok (f i j))) := fun a b v w H Q r1 r2 q => by
  cases e : c a b with
  | true =>
    have q : okR (guardR (c a b) (Res.ok (f a b))) _ := q
    rw [e] at q; exact ⟨a, b, r1, r2, hc _ _ e, q _ H (Same.refl H) (h _ _ _ _)⟩
  | false =>
    have q : okR (guardR (c a b) (Res.ok (f a b))) _ := q
    rw [e] at q; exact q.elim
end
end G

namespace G
open PySem PySem.Spec PyProof.Rows L2
section
variable {X : Cx} {W : WX} {ss : List Slot}
theorem priv_no {H F' H' : Hp} : Priv noHp H F' H' := fun _ _ h => nomatch h
theorem ext_imm {F H H' : Hp} (a : Same F H) (s : Same H H') : Ext F H (join F (tups H')) H' :=
  ⟨join_l, join_le (a.trans s) (tups_le H'), fun a u h => (join_or h).elim .inl fun z => .inr (.inr (tups_isT z))⟩
theorem xk_imm {α : Type} [Enc α] [Imm α] {e : Expr} {m : Res α} (h : XI X W ss e m) : XK X W ss e m fr := by
  refine PE_imp h fun σ H Q ⟨F, a, sl, q⟩ => ⟨sl.mono a (Same.refl H), wpR_imp q (Same.refl H) fun x q v H' s r => ?_⟩
  exact q v H' _ noHp s (ext_imm a s) priv_no ⟨v, rfl, Enc.mono (join_r (a.trans s) (tups_le H')) (Imm.imm r)⟩
theorem xk_fr (i : Nat) {α : Type} [Enc α] {a : α} {x : Str} {pos : Pos} (hs : ss[i]? = some (fr a) := by rfl) (hp : PE X (.Name x pos) (tVar i) := by exact pv _) : XK X W ss (.Name x pos) (.ok a) fr := by
  refine PE_imp hp fun σ H Q ⟨F, a, sl, q⟩ => ?_
  obtain ⟨o, ho, v, e, r⟩ := sl.get hs
  subst e
  exact ⟨v, ho, q v H F noHp (Same.refl H) ⟨Same.refl F, a, fun _ _ h => .inl h⟩ priv_no ⟨v, rfl, r⟩⟩
theorem xk_free {α : Type} [Enc α] {e : Expr} {m : Res (List α)} (h : XK X W ss e m ow) : XK X W ss e m fr := by
  refine PE_imp h fun σ H Q ⟨F, a, sl, q⟩ => ⟨F, a, sl, wpR_imp q (Same.refl H) fun x q v H' F' G' s ex pr k => ?_⟩
  obtain ⟨p, vs, e, g, r⟩ := k
  have gH : Same G' H' := fun a u z => (pr a u z).1
  refine q v H' (join F' G') noHp s ⟨ex.le.trans join_l, join_le ex.sub gH, fun a u z => (join_or z).elim (ex.new a u) fun z => .inr (.inl (pr a u z).2.1)⟩ priv_no ?_
  exact ⟨v, rfl, p, vs, Option.some.inj e, join_r ex.sub gH _ _ g, r.mono join_l⟩
class View {α : Type} [Enc α] (kd : α → Slot) : Prop where
  view : ∀ {K : Frag} {H : Hp} {v : V} {a : α}, (kd a).P K H H (some v) → Enc.rep K H v a
instance {α : Type} [Enc α] : View (fr (α := α)) := ⟨fun ⟨v, e, r⟩ => by cases e; exact r⟩
instance {α : Type} [Enc α] : View (ow (α := α)) := ⟨fun ⟨p, vs, e, g, r⟩ => by cases e; exact ⟨p, vs, rfl, g, r⟩⟩
theorem xi_of {α : Type} [Enc α] {kd : α → Slot} [View kd] {e : Expr} {m : Res α} (h : XK X W ss e m kd) : XI X W ss e m := by
  refine PE_imp h fun σ H Q ⟨sl, q⟩ => ⟨H, Same.refl H, sl, wpR_imp q (Same.refl H) fun x q v H' F' G' s ex pr k => ?_⟩
  exact q v H' s (View.view ((kd x).mono ex.sub (fun a u z => (pr a u z).1) k))

def Dj (G G' : Hp) : Prop := ∀ a, G a = none ∨ G' a = none
def All3 (K : Frag) (F : Hp) : List Slot → List Hp → L2.St → Prop
  | [], [], [] => True
  | s :: ss, G :: Gs, o :: σ => s.P K F G o ∧ All3 K F ss Gs σ
  | _, _, _ => False
structure Asn (K : Frag) (B F0 : Hp) (ss : List Slot) (σ : L2.St) (H : Hp) (F : Hp) (Gs : List Hp) : Prop where
  ext : Ext F0 B F H
  base : Same B H
  all : All3 K F ss Gs σ
  priv : ∀ G ∈ Gs, Priv G B F H
  dj : Gs.Pairwise Dj
end
theorem Ext.trans {F H F' H' F2 H2 : Hp} (a : Ext F H F' H') (s : Same H H') (b : Ext F' H' F2 H2) : Ext F H F2 H2 :=
  ⟨a.le.trans b.le, b.sub, fun x u h => (b.new x u h).elim (a.new x u) fun z => z.elim (fun z => .inr (.inl (Same.free s z))) fun z => .inr (.inr z)⟩
theorem All3.mono {K : Frag} {F F' : Hp} (a : Same F F') : ∀ {ss : List Slot} {Gs : List Hp} {σ : L2.St}, All3 K F ss Gs σ → All3 K F' ss Gs σ
  | [], [], [], _ => trivial
  | s :: ss, _ :: Gs, o :: σ, ⟨x, y⟩ => ⟨s.mono a (Same.refl _) x, All3.mono a y⟩
  | [], _ :: _, _, h => h.elim
  | [], [], _ :: _, h => h.elim
  | _ :: _, [], _, h => h.elim
  | _ :: _, _ :: _, [], h => h.elim
theorem All3.sl {K : Frag} {F H : Hp} : ∀ {ss : List Slot} {Gs : List Hp} {σ : L2.St}, All3 K F ss Gs σ → (∀ G ∈ Gs, Same G H) → Sl K F H ss σ
  | [], [], [], _, _ => trivial
  | s :: ss, _ :: Gs, o :: σ, ⟨x, y⟩, h => ⟨s.mono (Same.refl _) (h _ List.mem_cons_self) x, All3.sl y fun G m => h G (List.mem_cons_of_mem _ m)⟩
  | [], _ :: _, _, h, _ => h.elim
  | [], [], _ :: _, h, _ => h.elim
  | _ :: _, [], _, h, _ => h.elim
  | _ :: _, _ :: _, [], h, _ => h.elim
theorem All3.set {K : Frag} {F G : Hp} {s : Slot} {o : Option V} (x : s.P K F G o) : ∀ (i : Nat) {ss : List Slot} {Gs : List Hp} {σ : L2.St}, All3 K F ss Gs σ → All3 K F (ss.set i s) (Gs.set i G) (σ.set i o)
  | _, [], [], [], h => h
  | 0, _ :: _, _ :: _, _ :: _, ⟨_, y⟩ => ⟨x, y⟩
  | i + 1, _ :: _, _ :: _, _ :: _, ⟨z, y⟩ => ⟨z, All3.set x i y⟩
  | _, [], _ :: _, _, h => h.elim
  | _, [], [], _ :: _, h => h.elim
  | _, _ :: _, [], _, h => h.elim
  | _, _ :: _, _ :: _, [], h => h.elim
theorem All3.get {K : Frag} {F : Hp} : ∀ {ss : List Slot} {Gs : List Hp} {σ : L2.St} {i : Nat} {s : Slot}, All3 K F ss Gs σ → ss[i]? = some s → ∃ G o, Gs[i]? = some G ∧ σ[i]? = some o ∧ s.P K F G o
  | s :: ss, G :: Gs, o :: σ, 0, t, ⟨x, y⟩, h => by
    have e : s = t := Option.some.inj h
    subst e
    exact ⟨G, o, rfl, rfl, x⟩
  | s :: ss, G :: Gs, o :: σ, i + 1, t, ⟨x, y⟩, h => All3.get (i := i) y h
  | [], [], [], _, _, _, h => by simp at h
  | [], _ :: _, _, _, _, h, _ => h.elim
  | [], [], _ :: _, _, _, h, _ => h.elim
  | _ :: _, [], _, _, _, h, _ => h.elim
  | _ :: _, _ :: _, [], _, _, h, _ => h.elim
theorem pw_set {G : Hp} : ∀ {Gs : List Hp} (i : Nat), Gs.Pairwise Dj → (∀ G' ∈ Gs, Dj G G') → (Gs.set i G).Pairwise Dj
  | [], _, _, _ => List.Pairwise.nil
  | A :: Gs, 0, h, d => List.pairwise_cons.mpr ⟨fun G' m => d G' (List.mem_cons_of_mem _ m), (List.pairwise_cons.mp h).2⟩
  | A :: Gs, i + 1, h, d => by
    obtain ⟨h1, h2⟩ := List.pairwise_cons.mp h
    refine List.pairwise_cons.mpr ⟨fun G' m => ?_, pw_set i h2 fun G' m => d G' (List.mem_cons_of_mem _ m)⟩
    rcases List.mem_or_eq_of_mem_set m with z | z
    · exact h1 G' z
    · subst z
      exact fun a => (d A List.mem_cons_self a).symm
theorem Asn.sub {K : Frag} {B F0 H F : Hp} {ss : List Slot} {σ : L2.St} {Gs : List Hp} (A : Asn K B F0 ss σ H F Gs) : ∀ G ∈ Gs, Same G H := fun G m a u h => (A.priv G m a u h).1
theorem Asn.sl {K : Frag} {B F0 H F : Hp} {ss : List Slot} {σ : L2.St} {Gs : List Hp} (A : Asn K B F0 ss σ H F Gs) : Sl K F H ss σ := A.all.sl A.sub
theorem Asn.grow {K : Frag} {B F0 H F H' F' : Hp} {ss : List Slot} {σ : L2.St} {Gs : List Hp} (A : Asn K B F0 ss σ H F Gs) (s : Same H H') (ex : Ext F H F' H') : Asn K B F0 ss σ H' F' Gs := by
  refine ⟨⟨A.ext.le.trans ex.le, ex.sub, fun a u h => ?_⟩, A.base.trans s, A.all.mono ex.le, fun G m a u h => ?_, A.dj⟩
  · rcases ex.new a u h with z | z | z
    · exact A.ext.new a u z
    · exact .inr (.inl (Same.free A.base z))
    · exact .inr (.inr z)
  · obtain ⟨h1, h2, h3, h4⟩ := A.priv G m a u h
    refine ⟨s _ _ h1, h2, ?_, h4⟩
    cases e : F' a with
    | none => rfl
    | some w =>
      rcases ex.new a w e with z | z | z
      · rw [h3] at z; cases z
      · rw [h1] at z; cases z
      · have q := ex.sub _ _ e
        rw [s _ _ h1] at q
        cases q
        rw [h4] at z; cases z
theorem Asn.set {K : Frag} {B F0 H F H' F' G : Hp} {ss : List Slot} {σ : L2.St} {Gs : List Hp} {s : Slot} {o : Option V} (A : Asn K B F0 ss σ H F Gs) (sa : Same H H') (ex : Ext F H F' H') (pr : Priv G H F' H') (x : s.P K F' G o) (i : Nat) :
    Asn K B F0 (ss.set i s) (σ.set i o) H' F' (Gs.set i G) := by
  have A' := A.grow sa ex
  refine ⟨A'.ext, A'.base, A'.all.set x i, fun G' m a u h => ?_, pw_set i A'.dj fun G' m a => ?_⟩
  · rcases List.mem_or_eq_of_mem_set m with z | z
    · exact A'.priv G' z a u h
    · subst z
      obtain ⟨h1, h2, h3, h4⟩ := pr a u h
      exact ⟨h1, Same.free A.base h2, h3, h4⟩
  · cases e : G a with
    | none => exact .inl rfl
    | some u =>
      refine .inr ?_
      cases e2 : G' a with
      | none => rfl
      | some w =>
        have z := A.sub G' m _ _ e2
        rw [(pr a u e).2.1] at z
        cases z
theorem All3.any {K : Frag} {F : Hp} (i : Nat) : ∀ {ss : List Slot} {Gs : List Hp} {σ : L2.St}, All3 K F ss Gs σ → All3 K F (ss.set i any) Gs σ := by
  intro ss Gs σ h
  induction ss generalizing Gs σ i with
  | nil => exact h
  | cons s ss ih =>
    cases Gs with
    | nil => exact h.elim
    | cons G Gs =>
      cases σ with
      | nil => exact h.elim
      | cons o σ =>
        cases i with
        | zero => exact ⟨trivial, h.2⟩
        | succ i => exact ⟨h.1, ih i h.2⟩
end G

namespace G
open PySem PySem.Spec PyProof.Rows L2
section
variable (X : Cx) (W : WX)
def EXS (B : Hp) (x : Exn) : Prop := ∀ σ cls d H', X.mg x.cls = some cls → Same B H' → payRep x.pay d H' → W cls d σ H'
def wpS {α : Type} (m : Res α) (B : Hp) (P : α → Prop) : Prop :=
  match m with
  | .ok a => P a
  | .exc x => EXS X W B x
  | .stuck => False
def rdX (ss : List Slot) (w : Ends → Hp → Hp → Prop) : TS := fun D σ H => ∃ B F0 F Gs, Asn X.K B F0 ss σ H F Gs ∧ w D B F0
def RtOk {R : Type} (kr : R → Slot) (r : R) (D : Ends) (B F0 : Hp) : Prop := ∀ v H' F' G', Same B H' → Ext F0 B F' H' → Priv G' B F' H' → (kr r).P X.K F' G' (some v) → D.rt v H'
def NxOk (ss : List Slot) (D : Ends) (B F0 : Hp) : Prop := ∀ σ' H' F' Gs', Asn X.K B F0 ss σ' H' F' Gs' → D.nx σ' H'
def BkOk (ss : List Slot) (D : Ends) (B F0 : Hp) : Prop := ∀ σ' H' F' Gs', Asn X.K B F0 ss σ' H' F' Gs' → D.bk σ' H'
def CtOk (ss : List Slot) (D : Ends) (B F0 : Hp) : Prop := ∀ σ' H' F' Gs', Asn X.K B F0 ss σ' H' F' Gs' → D.ct σ' H'
def wT {R : Type} (e : Bool) (M : Res R) (kr : R → Slot) : Ends → Hp → Hp → Prop := fun D B F0 => (e = true → ∀ σ H, D.rt .non H → D.nx σ H) ∧ wpS X W M B fun r => RtOk X kr r D B F0
def wN {S : Type} (M : Res S) (post : S → List Slot) : Ends → Hp → Hp → Prop := fun D B F0 => wpS X W M B fun s => NxOk X (post s) D B F0
end
inductive Out (S L R : Type) where
  | nx (s : S) | rt (r : R) | bk (l : L) | ct (l : L)
section
variable (X : Cx) (W : WX)
def wB {S L R : Type} (M : Res (Out S L R)) (post : S → List Slot) (pl : L → List Slot) (kr : R → Slot) : Ends → Hp → Hp → Prop := fun D B F0 => wpS X W M B fun o =>
  match o with
  | .nx s => NxOk X (post s) D B F0
  | .rt r => RtOk X kr r D B F0
  | .bk l => BkOk X (pl l) D B F0
  | .ct l => CtOk X (pl l) D B F0
def ST {R : Type} (e : Bool) (ss : List Slot) (st : List Stmt) (M : Res R) (kr : R → Slot) : Prop := PSs X st (rdX X ss (wT X W e M kr))
def SN {S : Type} (ss : List Slot) (st : List Stmt) (M : Res S) (post : S → List Slot) : Prop := PSs X st (rdX X ss (wN X W M post))
def SB {S L R : Type} (ss : List Slot) (st : List Stmt) (M : Res (Out S L R)) (post : S → List Slot) (pl : L → List Slot) (kr : R → Slot) : Prop := PSs X st (rdX X ss (wB X W M post pl kr))
def S1 {S : Type} (ss : List Slot) (st : Stmt) (M : Res S) (post : S → List Slot) : Prop := PS X st (rdX X ss (wN X W M post))
end
section
variable {X : Cx} {W : WX} {ss : List Slot} {st : Stmt} {rest : List Stmt}
theorem EXS.ex {B H : Hp} {x : Exn} {σ : L2.St} (h : EXS X W B x) (s : Same B H) : EX X W σ H x := fun cls d H' a b e => h σ cls d H' a (s.trans b) e
theorem wpS_bind {α β : Type} {m : Res α} {k : α → Res β} {B : Hp} {P : β → Prop} (h : wpS X W (m.bind k) B P) : wpS X W m B fun a => wpS X W (k a) B P := by
  cases m with
  | ok a => exact h
  | exc x => exact h
  | stuck => exact h
theorem wpS_imp {α : Type} {m : Res α} {B : Hp} {P P' : α → Prop} (h : wpS X W m B P) (f : ∀ a, P a → P' a) : wpS X W m B P' := by
  cases m with
  | ok a => exact f a h
  | exc x => exact h
  | stuck => exact h
theorem wpS_R {α : Type} {m : Res α} {B H : Hp} {P P' : α → Prop} {σ : L2.St} (h : wpS X W m B P) (s : Same B H) (f : ∀ a, P a → P' a) : wpR X W m σ H P' := by
  cases m with
  | ok a => exact f a h
  | exc x => exact EXS.ex h s
  | stuck => exact h
theorem seqX {α : Type} {m : Res α} {ss' : α → List Slot} {w : α → Ends → Hp → Hp → Prop} {w0 : Ends → Hp → Hp → Prop} (h1 : S1 X W ss st m ss') (h2 : ∀ a, PSs X rest (rdX X (ss' a) (w a)))
    (hw : ∀ D B F0, w0 D B F0 → wpS X W m B fun a => w a D B F0) : PSs X (st :: rest) (rdX X ss w0) := by
  have h2' : PSs X rest fun D σ H => ∃ a, rdX X (ss' a) (w a) D σ H := ⟨fun pins s σ H D I ⟨a, q⟩ => (h2 a).run pins s σ H D I q⟩
  refine PSs_imp (pss_cons h1 h2') fun D σ H ⟨B, F0, F, Gs, A, q⟩ => ⟨B, F0, F, Gs, A, ?_⟩
  exact wpS_imp (hw D B F0 q) fun a q σ' H' F' Gs' A' => ⟨a, B, F0, F', Gs', A', q⟩
theorem st_seq {α R : Type} {e : Bool} {m : Res α} {ss' : α → List Slot} {k : α → Res R} {kr : R → Slot} (h1 : S1 X W ss st m ss') (h2 : ∀ a, ST X W e (ss' a) rest (k a) kr) : ST X W e ss (st :: rest) (m.bind k) kr :=
  seqX h1 h2 fun D B F0 ⟨a, q⟩ => wpS_imp (wpS_bind q) fun _ z => ⟨a, z⟩
theorem sn_seq {α S : Type} {m : Res α} {ss' : α → List Slot} {k : α → Res S} {post : S → List Slot} (h1 : S1 X W ss st m ss') (h2 : ∀ a, SN X W (ss' a) rest (k a) post) : SN X W ss (st :: rest) (m.bind k) post :=
  seqX h1 h2 fun D B F0 q => wpS_bind q
theorem sb_seq {α S L R : Type} {m : Res α} {ss' : α → List Slot} {k : α → Res (Out S L R)} {post : S → List Slot} {pl : L → List Slot} {kr : R → Slot} (h1 : S1 X W ss st m ss') (h2 : ∀ a, SB X W (ss' a) rest (k a) post pl kr) :
    SB X W ss (st :: rest) (m.bind k) post pl kr := seqX h1 h2 fun D B F0 q => wpS_bind q
theorem ST.cast {R : Type} {e : Bool} {sts : List Stmt} {M M' : Res R} {kr : R → Slot} (h : ST X W e ss sts M kr) (q : M' = M) : ST X W e ss sts M' kr := q ▸ h
theorem SN.cast {S : Type} {sts : List Stmt} {M M' : Res S} {post : S → List Slot} (h : SN X W ss sts M post) (q : M' = M) : SN X W ss sts M' post := q ▸ h
def Wk : List Slot → List Slot → Prop
  | [], [] => True
  | s :: ss, t :: ts => (s = t ∨ t = any) ∧ Wk ss ts
  | _, _ => False
theorem Wk.refl : ∀ ss : List Slot, Wk ss ss
  | [] => trivial
  | _ :: ss => ⟨.inl rfl, Wk.refl ss⟩
theorem All3.wk {K : Frag} {F : Hp} : ∀ {ss ts : List Slot} {Gs : List Hp} {σ : L2.St}, All3 K F ss Gs σ → Wk ss ts → All3 K F ts Gs σ
  | [], [], _, _, h, _ => h
  | s :: ss, t :: ts, G :: Gs, o :: σ, ⟨x, y⟩, ⟨a, b⟩ => ⟨by
      rcases a with rfl | rfl
      · exact x
      · exact trivial, All3.wk y b⟩
  | [], _ :: _, _, _, _, w => w.elim
  | _ :: _, [], _, _, _, w => w.elim
  | _ :: _, _ :: _, [], _, h, _ => h.elim
  | _ :: _, _ :: _, _ :: _, [], h, _ => h.elim
theorem Asn.wk {K : Frag} {B F0 H F : Hp} {ss ts : List Slot} {σ : L2.St} {Gs : List Hp} (A : Asn K B F0 ss σ H F Gs) (w : Wk ss ts) : Asn K B F0 ts σ H F Gs := ⟨A.ext, A.base, A.all.wk w, A.priv, A.dj⟩
theorem sn_nil {S : Type} {s : S} {post : S → List Slot} (w : Wk ss (post s) := by exact Wk.refl _) : SN X W ss [] (.ok s) post :=
  PSs_imp pss_nil fun D σ H ⟨B, F0, F, Gs, A, q⟩ => q σ H F Gs (A.wk w)
theorem sb_nil {S L R : Type} {s : S} {post : S → List Slot} {pl : L → List Slot} {kr : R → Slot} (w : Wk ss (post s) := by exact Wk.refl _) : SB X W ss [] (.ok (.nx s) : Res (Out S L R)) post pl kr :=
  PSs_imp pss_nil fun D σ H ⟨B, F0, F, Gs, A, q⟩ => q σ H F Gs (A.wk w)
theorem rt_core {R : Type} {m : Res R} {kr : R → Slot} {e : Expr} {pos : Pos} (h : XK X W ss e m kr) : PS X (.Return (some e) pos) (rdX X ss fun D B F0 => wpS X W m B fun r => RtOk X kr r D B F0) := by
  refine PS_imp (ps_ret h) fun D σ H ⟨B, F0, F, Gs, A, q⟩ => ⟨F, A.ext.sub, A.sl, wpS_R q A.base fun r q v H' F' G' s ex pr k => ?_⟩
  have A' := A.grow s ex
  exact q v H' F' G' A'.base A'.ext (fun a u z => ⟨(pr a u z).1, Same.free A.base (pr a u z).2.1, (pr a u z).2.2⟩) k
theorem rest_free {t : TS} (h1 : PS X st t) (hn : ∀ D D' σ H, D'.rt = D.rt → D'.bk = D.bk → D'.ct = D.ct → t D σ H → t D' σ H) : PSs X (st :: rest) t :=
  PSs_imp (pss_cons h1 (pss_never (sts := rest))) fun D σ H q => hn D { D with nx := tNever D } σ H rfl rfl rfl q
theorem st_ret {R : Type} {ee : Bool} {m : Res R} {kr : R → Slot} {e : Expr} {pos : Pos} (h : XK X W ss e m kr) : ST X W ee ss (.Return (some e) pos :: rest) m kr :=
  PSs_imp (rest_free (rt_core h) fun D D' σ H e1 _ _ ⟨B, F0, F, Gs, A, q⟩ => ⟨B, F0, F, Gs, A, wpS_imp q fun r q v H' F' G' a b c d => by rw [e1]; exact q v H' F' G' a b c d⟩)
    fun D σ H ⟨B, F0, F, Gs, A, _, q⟩ => ⟨B, F0, F, Gs, A, q⟩
theorem sb_ret {S L R : Type} {m : Res R} {post : S → List Slot} {pl : L → List Slot} {kr : R → Slot} {e : Expr} {pos : Pos} (h : XK X W ss e m kr) : SB X W ss (.Return (some e) pos :: rest) (m.bind fun r => .ok (.rt r) : Res (Out S L R)) post pl kr :=
  PSs_imp (rest_free (rt_core h) fun D D' σ H e1 _ _ ⟨B, F0, F, Gs, A, q⟩ => ⟨B, F0, F, Gs, A, wpS_imp q fun r q v H' F' G' a b c d => by rw [e1]; exact q v H' F' G' a b c d⟩)
    fun D σ H ⟨B, F0, F, Gs, A, q⟩ => ⟨B, F0, F, Gs, A, wpS_imp (wpS_bind q) fun _ z => z⟩
theorem ifX {c : Expr} {mc : Res Bool} {a b : List Stmt} {pos : Pos} {w : Bool → Ends → Hp → Hp → Prop} {w0 : Ends → Hp → Hp → Prop} (hc : XT X W ss c mc) (ha : PSs X a (rdX X ss (w true))) (hb : PSs X b (rdX X ss (w false)))
    (hw : ∀ D B F0, w0 D B F0 → wpS X W mc B fun t => w t D B F0) : PS X (.If c a b pos) (rdX X ss w0) := by
  refine PS_imp (ps_if hc ha hb) fun D σ H ⟨B, F0, F, Gs, A, q⟩ => ⟨A.sl.mono A.ext.sub (Same.refl H), wpS_R (hw D B F0 q) A.base fun t q H' s => ?_⟩
  have A' := A.grow s ⟨Same.refl F, A.ext.sub.trans s, fun _ _ h => .inl h⟩
  cases t with
  | true => exact ⟨B, F0, F, Gs, A', q⟩
  | false => exact ⟨B, F0, F, Gs, A', q⟩
theorem s1_if {S : Type} {c : Expr} {mc : Res Bool} {a b : List Stmt} {pos : Pos} {M1 M2 : Res S} {post : S → List Slot} (hc : XT X W ss c mc) (ha : SN X W ss a M1 post) (hb : SN X W ss b M2 post) :
    S1 X W ss (.If c a b pos) (mc.bind fun t => if t then M1 else M2) post :=
  ifX (w := fun t => wN X W (if t then M1 else M2) post) hc ha hb fun D B F0 q => wpS_bind q
theorem st_guard {R : Type} {e : Bool} {c : Expr} {mc : Res Bool} {a : List Stmt} {pos : Pos} {M1 M2 : Res R} {kr : R → Slot} (hc : XT X W ss c mc) (ha : ST X W false ss a M1 kr) (hr : ST X W e ss rest M2 kr) :
    ST X W e ss (.If c a [] pos :: rest) (mc.bind fun t => if t then M1 else M2) kr := by
  refine PSs_imp (pss_cons (ps_if hc ha pss_nil) hr) fun D σ H ⟨B, F0, F, Gs, A, z, q⟩ => ⟨A.sl.mono A.ext.sub (Same.refl H), wpS_R (wpS_bind q) A.base fun t q H' s => ?_⟩
  have A' := A.grow s ⟨Same.refl F, A.ext.sub.trans s, fun _ _ h => .inl h⟩
  cases t with
  | true => exact ⟨B, F0, F, Gs, A', (fun h => nomatch h), q⟩
  | false => exact ⟨B, F0, F, Gs, A', z, q⟩
def Res.next {S S' L R : Type} (M : Res (Out S L R)) (k : S → Res (Out S' L R)) : Res (Out S' L R) := M.bind fun o =>
  match o with
  | .nx s => k s
  | .rt r => .ok (.rt r)
  | .bk l => .ok (.bk l)
  | .ct l => .ok (.ct l)
theorem s1_set (i : Nat) {α : Type} {kd : α → Slot} {m : Res α} {x : Str} {e : Expr} {pos pos' : Pos} (h : XK X W ss e m kd) (hN : X.N.Nodup) (hi : X.N[i]? = some x := by rfl) (hx : Loc X.env.scope x := by first | exact Or.inl rfl | exact Or.inr rfl)
    (hs : swapsWith e (some (.Name x pos')) pos.line X.env = pure false := by rfl) (hf : X.fn x = true ∨ X.env.scope.names.lookup x = some .local := by first | exact .inl rfl | exact .inr rfl) : S1 X W ss (.Assign [.Name x pos'] e pos) m (fun a => ss.set i (kd a)) := by
  refine PS_imp (ps_set hN hi hx h hs hf) fun D σ H ⟨B, F0, F, Gs, A, q⟩ => ⟨F, A.ext.sub, A.sl, wpS_R q A.base fun a q v H' F' G' s ex pr k => ?_⟩
  exact q _ H' F' _ (A.set s ex pr k i)
end
end G

namespace G
open PySem PySem.Spec PyProof.Rows L2
class EncA (A : Type) where
  rep : Frag → Hp → List V → A → Prop
  mono : ∀ {K : Frag} {H H' : Hp} {vs : List V} {a : A}, Same H H' → rep K H vs a → rep K H' vs a
class EncP (A : Type) extends EncA A where
  len : Nat
  slots : A → List Slot
  start : ∀ {K : Frag} {H : Hp} {vs : List V} {a : A}, rep K H vs a → vs.length = len ∧ All3 K H (slots a) (List.replicate len noHp) (vs.map some)
instance : EncP Unit where
  rep := fun _ _ vs _ => vs = []
  mono := fun _ h => h
  len := 0
  slots := fun _ => []
  start := fun {K H vs a} h => by
    have h : vs = [] := h
    subst h
    exact ⟨rfl, trivial⟩
instance {α A : Type} [Enc α] [EncP A] : EncP (α × A) where
  rep := fun K H vs x => ∃ v r, vs = v :: r ∧ Enc.rep K H v x.1 ∧ EncA.rep K H r x.2
  mono := fun s ⟨v, r, e, h1, h2⟩ => ⟨v, r, e, Enc.mono s h1, EncA.mono s h2⟩
  len := EncP.len A + 1
  slots := fun x => fr x.1 :: EncP.slots x.2
  start := fun {K H vs x} ⟨v, r, e, h1, h2⟩ => by
    subst e
    obtain ⟨l, q⟩ := EncP.start h2
    exact ⟨by rw [List.length_cons, l], ⟨v, rfl, h1⟩, q⟩
structure Hom (n : Nat) (α : Type) where
  l : List α
instance {n : Nat} {α : Type} [Enc α] : EncA (Hom n α) := ⟨fun K H vs x => x.l.length = n ∧ All2 (fun v a => Enc.rep K H v a) vs x.l, fun s h => ⟨h.1, h.2.mono s⟩⟩
section
variable (X : Cx) (W : WX)
def rA {A : Type} [EncA A] (ss : List Slot) (m : Res A) : TA := fun σ H Q =>
  Sl X.K H H ss σ ∧ wpR X W m σ H fun a => ∀ vs H', Same H H' → EncA.rep X.K H' vs a → Q vs H'
def XA {A : Type} [EncA A] (ss : List Slot) (es : List Expr) (m : Res A) : Prop := PA X es (rA X W ss m)
def rAK {A : Type} [EncA A] (ss : List Slot) (m : Res A) : TA := fun σ H Q =>
  ∃ F, Same F H ∧ Sl X.K F H ss σ ∧ wpR X W m σ H fun a => ∀ vs H' F', Same H H' → Ext F H F' H' → EncA.rep X.K F' vs a → Q vs H'
def XAK {A : Type} [EncA A] (ss : List Slot) (es : List Expr) (m : Res A) : Prop := PA X es (rAK X W ss m)
end
section
variable {X : Cx} {W : WX} {ss : List Slot} {e : Expr} {es : List Expr}
theorem xa_nil : XA X W ss [] (.ok ()) := PA_imp pa_nil fun σ H Q ⟨sl, q⟩ => q [] H (Same.refl H) rfl
theorem xa_cons {α A : Type} [Enc α] [EncP A] {m : Res α} {r : Res A} (h : XI X W ss e m) (t : XA X W ss es r) (hs : starEach (e :: es) X.env = (false, eval e X.env) :: starEach es X.env := by rfl) : XA X W ss (e :: es) (m.bind fun a => r.bind fun as => .ok (a, as)) := by
  refine PA_imp (pa_cons h t hs) fun σ H Q ⟨sl, q⟩ => ⟨sl, wpR_imp (wpR_bind q) (Same.refl H) fun a q v H1 s1 r1 => ⟨sl.mono s1 s1, wpR_imp (wpR_bind q) s1 fun as q vs H2 s2 r2 => ?_⟩⟩
  exact q (v :: vs) H2 (s1.trans s2) ⟨v, vs, rfl, Enc.mono s2 r1, r2⟩
theorem xh_nil {α : Type} [Enc α] : XA X W ss [] (.ok (⟨[]⟩ : Hom 0 α)) := PA_imp pa_nil fun σ H Q ⟨sl, q⟩ => q [] H (Same.refl H) ⟨rfl, trivial⟩
theorem xh_cons {n : Nat} {α : Type} [Enc α] {m : Res α} {r : Res (Hom n α)} (h : XI X W ss e m) (t : XA X W ss es r) (hs : starEach (e :: es) X.env = (false, eval e X.env) :: starEach es X.env := by rfl) :
    XA X W ss (e :: es) (m.bind fun a => r.bind fun as => .ok (⟨a :: as.l⟩ : Hom (n + 1) α)) := by
  refine PA_imp (pa_cons h t hs) fun σ H Q ⟨sl, q⟩ => ⟨sl, wpR_imp (wpR_bind q) (Same.refl H) fun a q v H1 s1 r1 => ⟨sl.mono s1 s1, wpR_imp (wpR_bind q) s1 fun as q vs H2 s2 r2 => ?_⟩⟩
  exact q (v :: vs) H2 (s1.trans s2) ⟨by rw [List.length_cons, r2.1], Enc.mono s2 r1, r2.2⟩
theorem xak_nil : XAK X W ss [] (.ok ()) := PA_imp pa_nil fun σ H Q ⟨F, a, sl, q⟩ => q [] H F (Same.refl H) ⟨Same.refl F, a, fun _ _ h => .inl h⟩ rfl
theorem xak_cons {α A : Type} [Enc α] [EncP A] {m : Res α} {r : Res A} (h : XK X W ss e m fr) (t : XAK X W ss es r) (hs : starEach (e :: es) X.env = (false, eval e X.env) :: starEach es X.env := by rfl) : XAK X W ss (e :: es) (m.bind fun a => r.bind fun as => .ok (a, as)) := by
  refine PA_imp (pa_cons h t hs) fun σ H Q ⟨F, a, sl, q⟩ => ⟨F, a, sl, wpR_imp (wpR_bind q) (Same.refl H) fun x q v H1 F1 G1 s1 ex1 pr1 k1 => ⟨F1, ex1.sub, sl.mono ex1.le s1, wpR_imp (wpR_bind q) s1 fun as q vs H2 F2 s2 ex2 r2 => ?_⟩⟩
  obtain ⟨v', e1, r1⟩ := k1
  cases e1
  exact q (v :: vs) H2 F2 (s1.trans s2) (ex1.trans s1 ex2) ⟨v, vs, rfl, Enc.mono ex2.le r1, r2⟩
theorem xhk_nil {α : Type} [Enc α] : XAK X W ss [] (.ok (⟨[]⟩ : Hom 0 α)) := PA_imp pa_nil fun σ H Q ⟨F, a, sl, q⟩ => q [] H F (Same.refl H) ⟨Same.refl F, a, fun _ _ h => .inl h⟩ ⟨rfl, trivial⟩
theorem xhk_cons {n : Nat} {α : Type} [Enc α] {m : Res α} {r : Res (Hom n α)} (h : XK X W ss e m fr) (t : XAK X W ss es r) (hs : starEach (e :: es) X.env = (false, eval e X.env) :: starEach es X.env := by rfl) : XAK X W ss (e :: es) (m.bind fun a => r.bind fun as => .ok (⟨a :: as.l⟩ : Hom (n + 1) α)) := by
  refine PA_imp (pa_cons h t hs) fun σ H Q ⟨F, a, sl, q⟩ => ⟨F, a, sl, wpR_imp (wpR_bind q) (Same.refl H) fun x q v H1 F1 G1 s1 ex1 pr1 k1 => ⟨F1, ex1.sub, sl.mono ex1.le s1, wpR_imp (wpR_bind q) s1 fun as q vs H2 F2 s2 ex2 r2 => ?_⟩⟩
  obtain ⟨v', e1, r1⟩ := k1
  cases e1
  exact q (v :: vs) H2 F2 (s1.trans s2) (ex1.trans s1 ex2) ⟨by rw [List.length_cons, r2.1], Enc.mono ex2.le r1, r2.2⟩
theorem XA.cast {A : Type} [EncA A] {m m' : Res A} (h : XA X W ss es m) (q : m' = m) : XA X W ss es m' := q ▸ h
end
section
variable {X : Cx} {W : WX} {ss : List Slot} {e : Expr} {es : List Expr} {pos : Pos} {k : Nat}
theorem same_upd {H : Hp} {p : Addr} {o : HO} (h : H p = none) : Same H (upd H p o) := fun b u z => by
  rw [upd_ne (ne_of_none z h)]; exact z
theorem smallLine {n : Nat} (h : n ≤ 1000) : n ≤ sizeLine := Nat.le_of_lt (small1000 h)
theorem xi_pair {α β : Type} [Enc α] [Enc β] {m : Res (α × β × Unit)} {a b : Expr} (h : XA X W ss [a, b] m) : XI X W ss (.Tuple [a, b] k pos) (m.bind fun x => .ok (x.1, x.2.1)) := by
  refine PE_imp (pe_tup h) fun σ H Q ⟨sl, q⟩ => ⟨sl, wpR_imp (wpR_bind q) (Same.refl H) fun x q vs H1 s1 r1 => ?_⟩
  obtain ⟨v1, r, rfl, h1, v2, r', rfl, h2, h3⟩ := r1
  have h3 : r' = [] := h3
  subst h3
  refine ⟨smallLine (by simp), fun p hp => q _ _ (s1.trans (same_upd hp)) ⟨p, v1, v2, rfl, upd_same, Enc.mono (same_upd hp) h1, Enc.mono (same_upd hp) h2⟩⟩
theorem xi_triple {α β γ : Type} [Enc α] [Enc β] [Enc γ] {m : Res (α × β × γ × Unit)} {a b c : Expr} (h : XA X W ss [a, b, c] m) : XI X W ss (.Tuple [a, b, c] k pos) (m.bind fun x => .ok (⟨x.1, x.2.1, x.2.2.1⟩ : T3 α β γ)) := by
  refine PE_imp (pe_tup h) fun σ H Q ⟨sl, q⟩ => ⟨sl, wpR_imp (wpR_bind q) (Same.refl H) fun x q vs H1 s1 r1 => ?_⟩
  obtain ⟨v1, r, rfl, h1, v2, r', rfl, h2, v3, r'', rfl, h3, h4⟩ := r1
  have h4 : r'' = [] := h4
  subst h4
  refine ⟨smallLine (by simp), fun p hp => q _ _ (s1.trans (same_upd hp)) ⟨p, v1, v2, v3, rfl, upd_same, Enc.mono (same_upd hp) h1, Enc.mono (same_upd hp) h2, Enc.mono (same_upd hp) h3⟩⟩
theorem xk_pair {α β : Type} [Enc α] [Enc β] {m : Res (α × β × Unit)} {a b : Expr} (h : XAK X W ss [a, b] m) : XK X W ss (.Tuple [a, b] k pos) (m.bind fun x => .ok (x.1, x.2.1)) fr := by
  refine PE_imp (pe_tup h) fun σ H Q ⟨F, sf, sl, q⟩ => ⟨F, sf, sl, wpR_imp (wpR_bind q) (Same.refl H) fun x q vs H1 F1 s1 ex1 r1 => ?_⟩
  obtain ⟨v1, r, rfl, h1, v2, r', rfl, h2, h3⟩ := r1
  have h3 : r' = [] := h3
  subst h3
  refine ⟨smallLine (by simp), fun p hp => ?_⟩
  have hF : F1 p = none := Same.free ex1.sub hp
  have sF := same_upd (o := HO.tup [v1, v2]) hF
  refine q _ _ (upd F1 p (.tup [v1, v2])) noHp (s1.trans (same_upd hp)) ⟨ex1.le.trans sF, fun b u z => ?_, fun b u z => ?_⟩ priv_no ⟨_, rfl, p, v1, v2, rfl, upd_same, Enc.mono sF h1, Enc.mono sF h2⟩
  · by_cases e : b = p
    · subst e; rw [upd_same] at z ⊢; exact z
    · rw [upd_ne e] at z ⊢; exact ex1.sub _ _ z
  · by_cases e : b = p
    · subst e; exact .inr (.inl (Same.free s1 hp))
    · rw [upd_ne e] at z; exact ex1.new _ _ z
theorem xk_triple {α β γ : Type} [Enc α] [Enc β] [Enc γ] {m : Res (α × β × γ × Unit)} {a b c : Expr} (h : XAK X W ss [a, b, c] m) : XK X W ss (.Tuple [a, b, c] k pos) (m.bind fun x => .ok (⟨x.1, x.2.1, x.2.2.1⟩ : T3 α β γ)) fr := by
  refine PE_imp (pe_tup h) fun σ H Q ⟨F, sf, sl, q⟩ => ⟨F, sf, sl, wpR_imp (wpR_bind q) (Same.refl H) fun x q vs H1 F1 s1 ex1 r1 => ?_⟩
  obtain ⟨v1, r, rfl, h1, v2, r', rfl, h2, v3, r'', rfl, h3, h4⟩ := r1
  have h4 : r'' = [] := h4
  subst h4
  refine ⟨smallLine (by simp), fun p hp => ?_⟩
  have hF : F1 p = none := Same.free ex1.sub hp
  have sF := same_upd (o := HO.tup [v1, v2, v3]) hF
  refine q _ _ (upd F1 p (.tup [v1, v2, v3])) noHp (s1.trans (same_upd hp)) ⟨ex1.le.trans sF, fun b u z => ?_, fun b u z => ?_⟩ priv_no ⟨_, rfl, p, v1, v2, v3, rfl, upd_same, Enc.mono sF h1, Enc.mono sF h2, Enc.mono sF h3⟩
  · by_cases e : b = p
    · subst e; rw [upd_same] at z ⊢; exact z
    · rw [upd_ne e] at z ⊢; exact ex1.sub _ _ z
  · by_cases e : b = p
    · subst e; exact .inr (.inl (Same.free s1 hp))
    · rw [upd_ne e] at z; exact ex1.new _ _ z
theorem xi_tup {n : Nat} {α : Type} [Enc α] {m : Res (Hom n α)} (h : XA X W ss es m) (hn : n ≤ 1000 := by decide) : XI X W ss (.Tuple es k pos) (m.bind fun x => .ok (⟨x.l⟩ : Tup α)) := by
  refine PE_imp (pe_tup h) fun σ H Q ⟨sl, q⟩ => ⟨sl, wpR_imp (wpR_bind q) (Same.refl H) fun x q vs H1 s1 ⟨el, r1⟩ => ?_⟩
  have hv : vs.length = x.l.length := All2.length r1
  exact ⟨smallLine (by omega), fun p hp => q _ _ (s1.trans (same_upd hp)) ⟨p, vs, rfl, SqT.of upd_same, All2.mono (same_upd hp) r1⟩⟩
theorem new_ow {α : Type} [Enc α] {F H H1 F1 : Hp} {p : Addr} {vs : List V} {as : List α} {K : Frag} {Q : VK} (s1 : Same H H1) (ex : Ext F H F1 H1) (hp : H1 p = none) (r : All2 (fun v a => Enc.rep K F1 v a) vs as)
    (q : ∀ v H' F' G', Same H H' → Ext F H F' H' → Priv G' H F' H' → (ow as).P K F' G' (some v) → Q v H') : Q (.ref p) (upd H1 p (.lst vs)) := by
  have hF : F1 p = none := Same.free ex.sub hp
  refine q _ _ F1 (upd noHp p (.lst vs)) (s1.trans (same_upd hp)) ⟨ex.le, ex.sub.trans (same_upd hp), ex.new⟩ (fun b u z => ?_) ⟨p, vs, rfl, upd_same, r⟩
  by_cases e : b = p
  · subst e; rw [upd_same] at z; cases z
    exact ⟨upd_same, Same.free s1 hp, hF, rfl⟩
  · rw [upd_ne e] at z; cases z
theorem xk_lst {n : Nat} {α : Type} [Enc α] {m : Res (Hom n α)} (h : XAK X W ss es m) (hn : n ≤ 1000 := by decide) : XK X W ss (.List es pos) (m.bind fun x => .ok x.l) ow := by
  refine PE_imp (pe_lst h) fun σ H Q ⟨F, sf, sl, q⟩ => ⟨F, sf, sl, wpR_imp (wpR_bind q) (Same.refl H) fun x q vs H1 F1 s1 ex ⟨el, r1⟩ => ?_⟩
  have hv : vs.length = x.l.length := All2.length r1
  exact ⟨smallLine (by omega), fun p hp => new_ow s1 ex hp r1 q⟩
theorem xak_imm {n : Nat} {α : Type} [Enc α] [Imm α] {m : Res (Hom n α)} (h : XA X W ss es m) : XAK X W ss es m := by
  refine PA_imp h fun σ H Q ⟨F, a, sl, q⟩ => ⟨sl.mono a (Same.refl H), wpR_imp q (Same.refl H) fun x q v H' s r => ?_⟩
  exact q v H' _ s (ext_imm a s) ⟨r.1, All2.mono (join_r (a.trans s) (tups_le H')) (All2.imp (fun _ _ z => Imm.imm z) r.2)⟩
end

def spOf (K : Frag) (mg : Str → Option Value) {A R : Type} [EncA A] (f : A → Res R) (kr : R → Slot) : Sp := fun vs H Q E => ∃ (a : A) (F : Hp), EncA.rep K F vs a ∧ Same F H ∧
  match f a with
  | .ok r => ∀ v H' F' G', Same H H' → Ext F H F' H' → Priv G' H F' H' → (kr r).P K F' G' (some v) → Q v H'
  | .exc x => ∀ cls d H', mg x.cls = some cls → Same H H' → payRep x.pay d H' → E cls d H'
  | .stuck => False
abbrev wE (E : L2.XK) : WX := fun cls d _ H => E cls d H
section
variable {P : Program} {w : World} {K : Frag} {mg : Str → Option Value} {base : Heap}
theorem all3_any {K : Frag} {F : Hp} : ∀ n : Nat, All3 K F (List.replicate n any) (List.replicate n noHp) (List.replicate n (none : Option V))
  | 0 => trivial
  | n + 1 => by
    rw [List.replicate_succ, List.replicate_succ, List.replicate_succ]
    exact ⟨trivial, all3_any n⟩
theorem All3.append {K : Frag} {F : Hp} : ∀ {ss ts : List Slot} {Gs Gt : List Hp} {σ τ : L2.St}, All3 K F ss Gs σ → All3 K F ts Gt τ → All3 K F (ss ++ ts) (Gs ++ Gt) (σ ++ τ)
  | [], _, [], _, [], _, _, h => h
  | _ :: _, _, _ :: _, _, _ :: _, _, ⟨x, y⟩, h => ⟨x, All3.append y h⟩
  | [], _, _ :: _, _, _, _, h, _ => h.elim
  | [], _, [], _, _ :: _, _, h, _ => h.elim
  | _ :: _, _, [], _, _, _, h, _ => h.elim
  | _ :: _, _, _ :: _, _, [], _, h, _ => h.elim
theorem pw_no : ∀ n : Nat, (List.replicate n noHp).Pairwise Dj
  | 0 => List.Pairwise.nil
  | n + 1 => by
    rw [List.replicate_succ]
    exact List.pairwise_cons.mpr ⟨fun G m a => .inl rfl, pw_no n⟩
theorem fn_ok {x qual : Str} {st : Stmt} {f : Addr} {fd : FuncData} {N ps : List Str} {k : Nat} {A R : Type} [EncP A] {g : A → Res R} {kr : R → Slot} (F : Fun K x qual st f fd) (S : FnScope N ps (defScope st)) (hl : EncP.len A = ps.length)
    (hbody : ∀ (a : A) (cdv : Value) (A' : Around) (outer : List Env) (s : Shared) (H : Hp) (E : L2.XK), Room k (A'.deeper (envOfC qual (defScope st) s.heap.objs.size f cdv)) →
      ST (cxOf (L2.CX P w) P w K mg base N qual (defScope st) f cdv A' outer s H E) (wE E) true (EncP.slots a ++ List.replicate (N.length - EncP.len A) any) (defBody st) (g a) kr) :
    FnOk P w K mg base (L2.CX P w) (k + 1) f fd ps (spOf K mg g kr) := by
  refine F.okX S (fun vs H Q E ⟨a, F0, r, _⟩ => (EncP.start r).1.trans hl) fun cdv A' outer s H vs Q E hr ⟨a, F0, r, sF, q⟩ => ?_
  refine ⟨_, hbody a cdv A' outer s H E hr, H, F0, F0, List.replicate (EncP.len A) noHp ++ List.replicate (N.length - EncP.len A) noHp, ⟨⟨Same.refl _, sF, fun _ _ h => .inl h⟩, Same.refl _, ?_, ?_, ?_⟩, fun _ _ _ h => h, ?_⟩
  · obtain ⟨l, z⟩ := EncP.start r
    have e : L2.start N vs = vs.map some ++ List.replicate (N.length - EncP.len A) none := by unfold L2.start; rw [l]
    rw [e]
    exact z.append (all3_any _)
  · intro G m b u z
    rw [List.replicate_append_replicate] at m
    rw [(List.mem_replicate.mp m).2] at z
    cases z
  · rw [List.replicate_append_replicate]
    exact pw_no _
  · show wpS _ _ (g a) H _
    cases e : g a with
    | ok r' => rw [e] at q; exact fun v H' F' G' s1 ex pr k => q v H' F' G' s1 ex pr k
    | exc x => rw [e] at q; exact fun σ cls d H' h1 h2 h3 => q cls d H' h1 h2 h3
    | stuck => rw [e] at q; exact q
end
section
variable {X : Cx} {W : WX} {ss : List Slot} {k : Nat} {f : Addr} {fd : FuncData} {ps : List Str} {A R : Type} [EncA A] {g : A → Res R} {kr : R → Slot} {x : Str} {p pos : Pos} {e : Expr} {es : List Expr}
structure Fill (X : Cx) {A' A : Type} [EncA A'] [EncA A] (fd : FuncData) (ps : List Str) (c : A' → A) : Prop where
  ex : ∃ dvs ds, Binds X.K fd ps ds ∧ Vals dvs ds ∧ ∀ H vs a, EncA.rep X.K H vs a → EncA.rep X.K H (vs ++ dvs) (c a)
theorem Fill.all {X : Cx} {A : Type} [EncA A] {fd : FuncData} {ps : List Str} (b : Binds X.K fd ps []) : Fill X fd ps (fun a : A => a) := ⟨[], [], b, .nil, fun H vs a h => by rw [List.append_nil]; exact h⟩
variable {A' : Type} [EncA A'] {c : A' → A}
theorem xi_call [Enc R] [View kr] (F : FnOk X.prog X.w X.K X.mg X.base (L2.CX X.prog X.w) k f fd ps (spOf X.K X.mg g kr)) (hr : Room k X.A) (hm : X.mg x = some (.ref f)) (hk : PySem.W.keepIn X.K (.ref f) = true) (fl : Fill X fd ps c) (tk : Takes X W) {m : Res A'}
    (ha : XA X W ss (e :: es) m) (hg : Gl X x := by rfl) (hdb : (x == ("__debug__" : Str)) = false := by decide) (he : starEach (e :: es) X.env = (false, eval e X.env) :: starEach es X.env := by rfl) (hpl : (backTo pos (starEach es X.env)).any (·.1) = false := by rfl) :
    XI X W ss (.Call (.Name x p) (e :: es) [] pos) (m.bind fun a => g (c a)) := by
  obtain ⟨dvs, ds, hb, hd, hc⟩ := fl.ex
  refine PE_imp (pe_callSD (E := fun σ cls d H => W cls d σ H) F hr hg hm hk hb hd (fun σ => passAt tk σ) ha hdb he hpl) fun σ H Q ⟨sl, q⟩ => ⟨sl, wpR_imp (wpR_bind q) (Same.refl H) fun a q vs H1 s1 r1 => ?_⟩
  refine ⟨c a, H1, hc _ _ _ r1, Same.refl _, ?_⟩
  cases eg : g (c a) with
  | ok r => rw [eg] at q; exact fun v H' F' G' s2 ex pr k => q v H' (s1.trans s2) (View.view ((kr r).mono ex.sub (fun b u z => (pr b u z).1) k))
  | exc x => rw [eg] at q; exact fun cls d H' h1 h2 h3 => q cls d H' h1 (s1.trans h2) h3
  | stuck => rw [eg] at q; exact q
class KImm {R : Type} (kr : R → Slot) : Prop where
  imm : ∀ {K : Frag} {F G : Hp} {o : Option V} {r : R}, (kr r).P K F G o → (kr r).P K (tups F) G o
instance {α : Type} [Enc α] [Imm α] : KImm (fr (α := α)) := ⟨fun ⟨v, e, r⟩ => ⟨v, e, Imm.imm r⟩⟩
instance {α : Type} [Enc α] [Imm α] : KImm (ow (α := α)) := ⟨fun ⟨p, vs, e, g, r⟩ => ⟨p, vs, e, g, All2.imp (fun _ _ z => Imm.imm z) r⟩⟩
theorem xk_call [KImm kr] (F : FnOk X.prog X.w X.K X.mg X.base (L2.CX X.prog X.w) k f fd ps (spOf X.K X.mg g kr)) (hr : Room k X.A) (hm : X.mg x = some (.ref f)) (hk : PySem.W.keepIn X.K (.ref f) = true) (fl : Fill X fd ps c) (tk : Takes X W) {m : Res A'}
    (ha : XA X W ss (e :: es) m) (hg : Gl X x := by rfl) (hdb : (x == ("__debug__" : Str)) = false := by decide) (he : starEach (e :: es) X.env = (false, eval e X.env) :: starEach es X.env := by rfl) (hpl : (backTo pos (starEach es X.env)).any (·.1) = false := by rfl) :
    XK X W ss (.Call (.Name x p) (e :: es) [] pos) (m.bind fun a => g (c a)) kr := by
  obtain ⟨dvs, ds, hb, hd, hc⟩ := fl.ex
  refine PE_imp (pe_callSD (E := fun σ cls d H => W cls d σ H) F hr hg hm hk hb hd (fun σ => passAt tk σ) ha hdb he hpl) fun σ H Q ⟨F0, sf, sl, q⟩ => ⟨sl.mono sf (Same.refl H), wpR_imp (wpR_bind q) (Same.refl H) fun a q vs H1 s1 r1 => ?_⟩
  refine ⟨c a, H1, hc _ _ _ r1, Same.refl _, ?_⟩
  cases eg : g (c a) with
  | ok r =>
    rw [eg] at q
    intro v H' F' G' s2 ex pr k
    have sH := sf.trans (s1.trans s2)
    refine q v H' (join F0 (tups H')) G' (s1.trans s2) (ext_imm sf (s1.trans s2)) (fun b u z => ?_) ((kr r).mono ((tups_mono ex.sub).trans (join_r sH (tups_le H'))) (Same.refl G') (KImm.imm k))
    obtain ⟨h1, h2, h3, h4⟩ := pr b u z
    refine ⟨h1, Same.free s1 h2, ?_, h4⟩
    cases ej : join F0 (tups H') b with
    | none => rfl
    | some y =>
      rcases join_or ej with z' | z'
      · have := (sf.trans s1) _ _ z'
        rw [h2] at this; cases this
      · have t1 := tups_isT z'
        have t2 := tups_le H' _ _ z'
        rw [h1] at t2; cases t2
        rw [h4] at t1; cases t1
  | exc x => rw [eg] at q; exact fun cls d H' h1 h2 h3 => q cls d H' h1 (s1.trans h2) h3
  | stuck => rw [eg] at q; exact q
theorem xk_callF (F : FnOk X.prog X.w X.K X.mg X.base (L2.CX X.prog X.w) k f fd ps (spOf X.K X.mg g kr)) (hr : Room k X.A) (hm : X.mg x = some (.ref f)) (hk : PySem.W.keepIn X.K (.ref f) = true) (fl : Fill X fd ps c) (tk : Takes X W) {m : Res A'}
    (ha : XAK X W ss (e :: es) m) (hg : Gl X x := by rfl) (hdb : (x == ("__debug__" : Str)) = false := by decide) (he : starEach (e :: es) X.env = (false, eval e X.env) :: starEach es X.env := by rfl) (hpl : (backTo pos (starEach es X.env)).any (·.1) = false := by rfl) :
    XK X W ss (.Call (.Name x p) (e :: es) [] pos) (m.bind fun a => g (c a)) kr := by
  obtain ⟨dvs, ds, hb, hd, hc⟩ := fl.ex
  refine PE_imp (pe_callSD (E := fun σ cls d H => W cls d σ H) F hr hg hm hk hb hd (fun σ => passAt tk σ) ha hdb he hpl) fun σ H Q ⟨F0, sf, sl, q⟩ => ⟨F0, sf, sl, wpR_imp (wpR_bind q) (Same.refl H) fun a q vs H1 F1 s1 ex1 r1 => ?_⟩
  refine ⟨c a, F1, hc _ _ _ r1, ex1.sub, ?_⟩
  cases eg : g (c a) with
  | ok r =>
    rw [eg] at q
    exact fun v H' F' G' s2 ex pr k => q v H' F' G' (s1.trans s2) (ex1.trans s1 ex) (fun b u z => ⟨(pr b u z).1, Same.free s1 (pr b u z).2.1, (pr b u z).2.2⟩) k
  | exc x => rw [eg] at q; exact fun cls d H' h1 h2 h3 => q cls d H' h1 (s1.trans h2) h3
  | stuck => rw [eg] at q; exact q
end
end G

namespace G
open PySem PySem.Spec PyProof.Rows L2
structure ItOk {α : Type} [Enc α] (K : Frag) (J : It) (xs : List α) (F0 : Hp) : Prop where
  go : ∀ i F H a, Same F0 F → Same F H → xs[i]? = some a → J.go i H ∧ ∀ v H', J.yld i H v H' → Same H H' ∧ ∃ F', Ext F H F' H' ∧ Enc.rep K F' v a
  stop : ∀ i F H, Same F0 F → Same F H → xs.length ≤ i → J.stop i H
section
variable (X : Cx) (W : WX)
def rdPI {α : Type} [Enc α] (ss : List Slot) (m : Res (List α)) : TI := fun σ H R =>
  ∃ F, Same F H ∧ Sl X.K F H ss σ ∧ wpR X W m σ H fun xs => ∀ J H' F', Same H H' → Ext F H F' H' → ItOk X.K J xs F' → R J H'
def XIt {α : Type} [Enc α] (ss : List Slot) (tg iter : Expr) (m : Res (List α)) : Prop := PI X tg iter (rdPI X W ss m)
def Tg {α : Type} [Enc α] (tg : Expr) (u : α → List Slot → List Slot) : Prop :=
  ∃ g, PG X tg g ∧ ∀ (a : α) (v : V) (B F0 F H : Hp) (Gs : List Hp) (ss : List Slot) (σ : L2.St) (Q : L2.St → Hp → Prop), Asn X.K B F0 ss σ H F Gs → Enc.rep X.K F v a →
    (∀ σ' Gs', Asn X.K B F0 (u a ss) σ' H F Gs' → Q σ' H) → g v σ H Q
end
section
variable {X : Cx} {W : WX} {ss : List Slot} {tg : Expr}
theorem PI_imp {e : Expr} {t t' : TI} (h : PI X tg e t) (f : ∀ σ H R, t' σ H R → t σ H R) : PI X tg e t' := ⟨fun pins s σ H R I q => h.run pins s σ H R I (f _ _ _ q)⟩
theorem ext_refl {F H : Hp} (s : Same F H) : Ext F H F H := ⟨Same.refl _, s, fun _ _ h => .inl h⟩
theorem it_list {α : Type} [Enc α] {e : Expr} {m : Res (List α)} (h : XK X W ss e m fr) : XIt X W ss tg e m := by
  refine PI_imp (pi_list h) fun σ H R ⟨F, sf, sl, q⟩ => ⟨F, sf, sl, wpR_imp q (Same.refl H) fun xs q v H1 F1 G1 s1 ex1 _ k1 => ?_⟩
  obtain ⟨v', e1, p, vs, rfl, hp, r⟩ := k1
  cases e1
  refine ⟨p, rfl, ⟨vs, SqL.of (ex1.sub _ _ hp)⟩, q _ H1 F1 s1 ex1 ⟨fun i F2 H2 a sa sb hi => ?_, fun i F2 H2 sa sb hi => ⟨vs, SqL.of (sb _ _ (sa _ _ hp)), by rw [r.length]; exact hi⟩⟩⟩
  obtain ⟨v, hv, rv⟩ := r.get hi
  refine ⟨⟨vs, v, SqL.of (sb _ _ (sa _ _ hp)), hv⟩, fun v' H' ⟨e, y⟩ => ?_⟩
  subst e
  have ev : v' = v := Option.some.inj ((y vs (SqL.of (sb _ _ (sa _ _ hp)))).symm.trans hv)
  subst ev
  exact ⟨Same.refl _, F2, ext_refl sb, Enc.mono sa rv⟩
theorem it_tup {α : Type} [Enc α] {e : Expr} {m : Res (Tup α)} (h : XK X W ss e m fr) : XIt X W ss tg e (m.bind fun x => .ok x.l) := by
  refine PI_imp (pi_tup h) fun σ H R ⟨F, sf, sl, q⟩ => ⟨F, sf, sl, wpR_imp (wpR_bind q) (Same.refl H) fun xs q v H1 F1 G1 s1 ex1 _ k1 => ?_⟩
  obtain ⟨v', e1, p, vs, rfl, hp, r⟩ := k1
  cases e1
  refine ⟨p, rfl, ⟨vs, seqT ex1.sub hp⟩, q _ H1 F1 s1 ex1 ⟨fun i F2 H2 a sa sb hi => ?_, fun i F2 H2 sa sb hi => ⟨vs, seqT (sa.trans sb) hp, by rw [r.length]; exact hi⟩⟩⟩
  obtain ⟨v, hv, rv⟩ := r.get hi
  refine ⟨⟨vs, v, seqT (sa.trans sb) hp, hv⟩, fun v' H' ⟨e, y⟩ => ?_⟩
  subst e
  have ev : v' = v := Option.some.inj ((y vs (seqT (sa.trans sb) hp)).symm.trans hv)
  subst ev
  exact ⟨Same.refl _, F2, ext_refl sb, Enc.mono sa rv⟩
def rangeL (lo : Int) (n : Nat) : List Int := (List.range n).map fun (i : Nat) => lo + (i : Int)
theorem rangeL_get {lo : Int} {n i : Nat} {a : Int} (h : (rangeL lo n)[i]? = some a) : i < n ∧ a = lo + (i : Int) := by
  unfold rangeL at h
  rw [List.getElem?_map] at h
  by_cases hi : i < n
  · rw [List.getElem?_range hi] at h
    exact ⟨hi, (Option.some.inj h).symm⟩
  · rw [List.getElem?_eq_none (by rw [List.length_range]; omega)] at h
    cases h
theorem rangeL_len (lo : Int) (n : Nat) : (rangeL lo n).length = n := by unfold rangeL; rw [List.length_map, List.length_range]
theorem itok_range {K : Frag} {lo : Int} {n : Nat} {F0 : Hp} : ItOk K (Itr lo n) (rangeL lo n) F0 :=
  ⟨fun i F H a sa sb hi => ⟨(rangeL_get hi).1, fun v H' ⟨e, y⟩ => by
    subst e
    exact ⟨Same.refl _, F, ext_refl sb, by rw [y, (rangeL_get hi).2]; rfl⟩⟩, fun i F H sa sb hi => by rw [rangeL_len] at hi; exact hi⟩
def small62 (i : Int) : Bool := decide (-(2 ^ 62) ≤ i) && decide (i < 2 ^ 62)
theorem small62_of {i : Int} (h : small62 i = true) : -(2 ^ 62) ≤ i ∧ i < 2 ^ 62 := by
  unfold small62 at h
  rw [Bool.and_eq_true] at h
  exact ⟨of_decide_eq_true h.1, of_decide_eq_true h.2⟩
theorem wpR_guard {α : Type} {c : Bool} {m : Res α} {σ : L2.St} {H : Hp} {P : α → Prop} (h : wpR X W (guardR c m) σ H P) : c = true ∧ wpR X W m σ H P := by
  cases c with
  | true => exact ⟨rfl, h⟩
  | false => exact h.elim
theorem it_range1 {e : Expr} {m : Res (Int × Unit)} {p pos : Pos} (ha : XA X W ss [e] m) (hm : X.mg "range" = none) (hg : Gl X "range" := by rfl) (hs : starEach [e] X.env = [(false, eval e X.env)] := by rfl) :
    XIt X W ss tg (.Call (.Name "range" p) [e] [] pos) (m.bind fun n => guardR (small62 n.1) (.ok (rangeL 0 n.1.toNat))) := by
  refine PI_imp (pi_range1 hg hm ha hs) fun σ H R ⟨F, sf, sl, q⟩ => ⟨sl.mono sf (Same.refl H), wpR_imp (wpR_bind q) (Same.refl H) fun n q' vs H1 s1 r1 => ?_⟩
  obtain ⟨v, r, e1, e2, e3⟩ := r1
  have e2 : v = .int n.1 := e2
  have e3 : r = [] := e3
  subst e1; subst e2; subst e3
  obtain ⟨g, q'⟩ := wpR_guard q'
  obtain ⟨h1, h2⟩ := small62_of g
  exact ⟨n.1, rfl, h1, h2, q' _ H1 F s1 ⟨Same.refl F, sf.trans s1, fun _ _ h => .inl h⟩ itok_range⟩
theorem it_range2 {e e' : Expr} {m : Res (Int × Int × Unit)} {p pos : Pos} (ha : XA X W ss [e, e'] m) (hm : X.mg "range" = none) (hg : Gl X "range" := by rfl)
    (hs : starEach [e, e'] X.env = [(false, eval e X.env), (false, eval e' X.env)] := by rfl) (hs2 : starEach [e'] X.env = [(false, eval e' X.env)] := by rfl) :
    XIt X W ss tg (.Call (.Name "range" p) [e, e'] [] pos) (m.bind fun x => guardR (small62 x.1 && small62 x.2.1) (.ok (rangeL x.1 (x.2.1 - x.1).toNat))) := by
  refine PI_imp (pi_range2 hg hm ha hs hs2) fun σ H R ⟨F, sf, sl, q⟩ => ⟨sl.mono sf (Same.refl H), wpR_imp (wpR_bind q) (Same.refl H) fun n q' vs H1 s1 r1 => ?_⟩
  obtain ⟨v, r, e1, e2, v', r', e4, e5, e6⟩ := r1
  have e2 : v = .int n.1 := e2
  have e5 : v' = .int n.2.1 := e5
  have e6 : r' = [] := e6
  subst e1; subst e2; subst e4; subst e5; subst e6
  obtain ⟨g, q'⟩ := wpR_guard q'
  rw [Bool.and_eq_true] at g
  obtain ⟨h1, h2⟩ := small62_of g.1
  obtain ⟨h3, h4⟩ := small62_of g.2
  exact ⟨n.1, n.2.1, rfl, ⟨h1, h2, h3, h4⟩, q' _ H1 F s1 ⟨Same.refl F, sf.trans s1, fun _ _ h => .inl h⟩ itok_range⟩
def signsOf (x : Str) : List Str := x.cps.toList.map fun c => ⟨#[c]⟩
theorem it_str {e : Expr} {m : Res Str} (h : XI X W ss e m) : XIt X W ss tg e (m.bind fun x => .ok (signsOf x)) := by
  refine PI_imp (pi_str h) fun σ H R ⟨F, sf, sl, q⟩ => ⟨sl.mono sf (Same.refl H), wpR_imp (wpR_bind q) (Same.refl H) fun x q v H1 s1 r1 => ⟨x, r1, ?_⟩⟩
  refine q _ H1 F s1 ⟨Same.refl F, sf.trans s1, fun _ _ h => .inl h⟩ ⟨fun i F2 H2 a sa sb hi => ?_, fun i F2 H2 sa sb hi => ?_⟩
  · unfold signsOf at hi
    rw [List.getElem?_map] at hi
    have hl : i < x.cps.size := by
      cases e : x.cps.toList[i]? with
      | none => rw [e] at hi; cases hi
      | some c =>
        have z := (List.getElem?_eq_some_iff.mp e).1
        rw [Array.length_toList] at z; exact z
    refine ⟨hl, fun v' H' ⟨e, c, hc, y⟩ => ?_⟩
    subst e
    rw [Array.getElem?_toList, hc] at hi
    have ea : (⟨#[c]⟩ : Str) = a := Option.some.inj hi
    subst ea
    exact ⟨Same.refl _, F2, ext_refl sb, y⟩
  · have z : x.cps.size ≤ i := by
      unfold signsOf at hi
      rw [List.length_map, Array.length_toList] at hi
      exact hi
    exact z
def enumL {α : Type} (xs : List α) : List (Int × α) := xs.mapIdx fun i a => ((i : Int), a)
theorem tg_name (i : Nat) {α : Type} [Enc α] {x : Str} {pos : Pos} (hN : X.N.Nodup) (hi : X.N[i]? = some x := by rfl) (hx : Loc X.env.scope x := by first | exact Or.inl rfl | exact Or.inr rfl)
    (hf : X.fn x = true ∨ X.env.scope.names.lookup x = some .local := by first | exact .inl rfl | exact .inr rfl) : Tg X (α := α) (.Name x pos) (fun a ss => ss.set i (fr a)) :=
  ⟨_, pg_name hN hi hx hf, fun a v B F0 F H Gs ss σ Q A r q => q _ _ (A.set (s := fr a) (Same.refl H) (ext_refl A.ext.sub) priv_no ⟨v, rfl, r⟩ i)⟩
theorem tg_two {α β : Type} [Enc α] [Enc β] {t1 t2 : Expr} {k : Nat} {pos : Pos} {u1 : α → List Slot → List Slot} {u2 : β → List Slot → List Slot} (h1 : Tg X t1 u1) (h2 : Tg X t2 u2) (hc : X.calm = true := by rfl)
    (hs1 : (assignEach [t1, t2] X.env).map (·.2) = assign t1 X.env :: (assignEach [t2] X.env).map (·.2) := by rfl) (hs2 : (assignEach [t2] X.env).map (·.2) = assign t2 X.env :: (assignEach [] X.env).map (·.2) := by rfl)
    (hn : (assignEach [t1, t2] X.env).length = 2 := by rfl) (hst : (assignEach [t1, t2] X.env).findIdx? (·.1) = none := by rfl) :
    Tg X (.Tuple [t1, t2] k pos) (fun (x : α × β) ss => u2 x.2 (u1 x.1 ss)) := by
  obtain ⟨g1, p1, q1⟩ := h1
  obtain ⟨g2, p2, q2⟩ := h2
  refine ⟨_, pg_tup hc (pgs_cons p1 (pgs_cons p2 pgs_nil hs2) hs1) hn hst, fun a v B F0 F H Gs ss σ Q A r q => ?_⟩
  obtain ⟨p, v1, v2, rfl, hp, r1, r2⟩ := r
  refine ⟨p, [v1, v2], rfl, SqT.of (A.ext.sub _ _ hp), rfl, v1, [v2], rfl, q1 _ _ _ _ _ _ _ _ _ _ A r1 fun σ1 Gs1 A1 => ⟨v2, [], rfl, q2 _ _ _ _ _ _ _ _ _ _ A1 r2 fun σ2 Gs2 A2 => ⟨rfl, q σ2 Gs2 A2⟩⟩⟩
theorem s1_asg {α : Type} [Enc α] {u : α → List Slot → List Slot} {m : Res α} {e : Expr} {pos : Pos} (h : XK X W ss e m fr) (hg : Tg X tg u) (hs : swapsWithSole [tg] e pos.line X.env = pure false := by rfl) (hw : swappedStores [tg] e X.env = pure none := by rfl)
    (h1 : (assignEach [tg] X.env).map (·.2) = [assign tg X.env] := by rfl) : S1 X W ss (.Assign [tg] e pos) m (fun a => u a ss) := by
  obtain ⟨g, pg, qg⟩ := hg
  refine PS_imp (ps_asg h pg hs hw h1) fun D σ H ⟨B, F0, F, Gs, A, q⟩ => ⟨F, A.ext.sub, A.sl, wpS_R q A.base fun a q v H' F' G' s ex _ ⟨v', e1, r⟩ => ?_⟩
  cases e1
  exact qg a v B F0 F' H' Gs ss σ _ (A.grow s ex) r fun σ' Gs' A' => q σ' H' F' Gs' A'
def foldR {S α : Type} (f : S → α → Res S) : S → List α → Res S
  | s, [] => .ok s
  | s, a :: as => (f s a).bind fun s' => foldR f s' as
def loopO {S L R α : Type} (f : S → α → Res (Out S S R)) : S → List α → Res (Out S L R)
  | s, [] => .ok (.nx s)
  | s, a :: as => (f s a).bind fun o => match o with
    | .nx s' => loopO f s' as
    | .ct s' => loopO f s' as
    | .bk s' => .ok (.nx s')
    | .rt r => .ok (.rt r)
def B1 (X : Cx) (W : WX) {S L R : Type} (ss : List Slot) (st : Stmt) (M : Res (Out S L R)) (post : S → List Slot) (pl : L → List Slot) (kr : R → Slot) : Prop := PS X st (rdX X ss (wB X W M post pl kr))
theorem for_core {S L R α : Type} [Enc α] {iter : Expr} {body : List Stmt} {pos : Pos} {u : α → List Slot → List Slot} {m : Res (List α)} {f : S → α → Res (Out S S R)} {inv : S → List Slot} {s0 : S} {pl : L → List Slot} {kr : R → Slot}
    (hp : PassesOwn (model X.prog X.w) X.A X.env X.xe) (hc : X.calm = true) (hi : XIt X W ss tg iter m) (hg : Tg X tg u) (h0 : Wk ss (inv s0)) (hb : ∀ s a, SB X W (u a (inv s)) body (f s a) inv inv kr) (hs : ∀ x, foldedSetIterable iter X.env x = pure x) :
    B1 X W ss (.For tg iter body [] pos) (m.bind fun xs => loopO f s0 xs) inv pl kr := by
  obtain ⟨g, pg, qg⟩ := hg
  have hb' : PSs X body fun D σ H => ∃ s a, rdX X (u a (inv s)) (wB X W (f s a) inv inv kr) D σ H := ⟨fun pins s σ H D I ⟨s', a, q⟩ => (hb s' a).run pins s σ H D I q⟩
  refine PS_imp (ps_for hp hc hi pg hb' hs) fun D σ H ⟨B, F0, F, Gs, A, q⟩ => ⟨F, A.ext.sub, A.sl, wpS_R (wpS_bind q) A.base fun xs q J H1 F1 s1 ex1 it => ?_⟩
  have A1 := (A.grow s1 ex1).wk h0
  -- the walk's own frame: F1
  have up : ∀ {F2 H2 : Hp}, Ext F1 B F2 H2 → Ext F0 B F2 H2 := fun {F2 H2} ex => ⟨A1.ext.le.trans ex.le, ex.sub, fun b u z => (ex.new b u z).elim (A1.ext.new b u) .inr⟩
  have upA : ∀ {ss : List Slot} {σ : L2.St} {H2 F2 : Hp} {Gs : List Hp}, Asn X.K B F1 ss σ H2 F2 Gs → Asn X.K B F0 ss σ H2 F2 Gs := fun a => ⟨up a.ext, a.base, a.all, a.priv, a.dj⟩
  refine ⟨fun i n σ H => i + n = xs.length ∧ ∃ s F2 Gs2, Asn X.K B F1 (inv s) σ H F2 Gs2 ∧ wpS X W (loopO f s (xs.drop i)) B fun o => match o with
      | .nx s => NxOk X (inv s) D B F0
      | .rt r => RtOk X kr r D B F0
      | .bk l => BkOk X (pl l) D B F0
      | .ct l => CtOk X (pl l) D B F0, ⟨xs.length, by omega, s0, F1, Gs, ⟨ext_refl A1.ext.sub |> fun e => ⟨e.le, e.sub, fun _ _ h => .inl h⟩, A1.base, A1.all, A1.priv, A1.dj⟩, q⟩, fun i n σ H ⟨hn, s, F2, Gs2, A2, q2⟩ => ?_⟩
  by_cases hlt : i < xs.length
  · refine .inr ?_
    have hx : xs[i]? = some xs[i] := List.getElem?_eq_getElem hlt
    obtain ⟨hgo, hy⟩ := it.go i F2 H xs[i] A2.ext.le A2.ext.sub hx
    rw [List.drop_eq_getElem_cons hlt] at q2
    have q2 := wpS_bind (show wpS X W ((f s xs[i]).bind _) B _ from q2)
    refine ⟨hgo, fun σ' H' => ∃ s' F3 Gs3, Asn X.K B F1 (inv s') σ' H' F3 Gs3 ∧ wpS X W (loopO f s' (xs.drop (i + 1))) B fun o => match o with
      | .nx s => NxOk X (inv s) D B F0
      | .rt r => RtOk X kr r D B F0
      | .bk l => BkOk X (pl l) D B F0
      | .ct l => CtOk X (pl l) D B F0, fun σ' H' ⟨s', F3, Gs3, A3, q3⟩ => ⟨n - 1, by omega, by omega, s', F3, Gs3, A3, q3⟩, fun v H' y => ?_⟩
    obtain ⟨s3, F3, ex3, r3⟩ := hy v H' y
    refine qg xs[i] v B F1 F3 H' Gs2 (inv s) σ _ (A2.grow s3 ex3) r3 fun σ4 Gs4 A4 => ⟨s, xs[i], B, F1, F3, Gs4, A4, wpS_imp q2 fun o q5 => ?_⟩
    cases o with
    | nx s' => exact fun σ' H' F' Gs' A' => ⟨s', F', Gs', A', q5⟩
    | ct s' => exact fun σ' H' F' Gs' A' => ⟨s', F', Gs', A', q5⟩
    | bk s' => exact fun σ' H' F' Gs' A' => q5 σ' H' F' Gs' (upA A')
    | rt r => exact fun v H' F' G' a b c d => q5 v H' F' G' a (up b) c d
  · have e : xs.drop i = [] := List.drop_eq_nil_iff.mpr (by omega)
    rw [e] at q2
    exact .inl ⟨it.stop i F2 H A2.ext.le A2.ext.sub (by omega), q2 σ H F2 Gs2 (upA A2)⟩
theorem loopO_fold {S L R α : Type} (f : S → α → Res S) : ∀ (xs : List α) (s : S), loopO (L := L) (R := R) (fun s a => (f s a).bind fun s' => .ok (.nx s')) s xs = (foldR f s xs).bind fun s => .ok (.nx s)
  | [], s => rfl
  | a :: as, s => by
    show ((f s a).bind _).bind _ = ((f s a).bind _).bind _
    cases f s a with
    | ok s' => exact loopO_fold f as s'
    | exc x => rfl
    | stuck => rfl
theorem sb_of_sn {S L R : Type} {sts : List Stmt} {M : Res S} {post : S → List Slot} {pl : L → List Slot} {kr : R → Slot} (h : SN X W ss sts M post) : SB X W ss sts (M.bind fun s => .ok (.nx s)) post pl kr :=
  PSs_imp h fun D σ H ⟨B, F0, F, Gs, A, q⟩ => ⟨B, F0, F, Gs, A, wpS_imp (wpS_bind q) fun _ z => z⟩
theorem b1_for {S L R α : Type} [Enc α] {iter : Expr} {body : List Stmt} {pos : Pos} {u : α → List Slot → List Slot} {m : Res (List α)} {f : S → α → Res (Out S S R)} (inv : S → List Slot) (s0 : S) {pl : L → List Slot} {kr : R → Slot}
    (hi : XIt X W ss tg iter m) (hg : Tg X tg u) (hb : ∀ s a, SB X W (u a (inv s)) body (f s a) inv inv kr) (h0 : Wk ss (inv s0) := by exact Wk.refl _)
    (hp : PassesOwn (model X.prog X.w) X.A X.env X.xe := by exact passes_of rfl) (hc : X.calm = true := by rfl) (hs : ∀ x, foldedSetIterable iter X.env x = pure x := by intro _; rfl) :
    B1 X W ss (.For tg iter body [] pos) (m.bind fun xs => loopO f s0 xs) inv pl kr := for_core hp hc hi hg h0 hb hs
theorem s1_for {S α : Type} [Enc α] {iter : Expr} {body : List Stmt} {pos : Pos} {u : α → List Slot → List Slot} {m : Res (List α)} {f : S → α → Res S} (inv : S → List Slot) (s0 : S)
    (hi : XIt X W ss tg iter m) (hg : Tg X tg u) (hb : ∀ s a, SN X W (u a (inv s)) body (f s a) inv) (h0 : Wk ss (inv s0) := by exact Wk.refl _)
    (hp : PassesOwn (model X.prog X.w) X.A X.env X.xe := by exact passes_of rfl) (hc : X.calm = true := by rfl) (hs : ∀ x, foldedSetIterable iter X.env x = pure x := by intro _; rfl) :
    S1 X W ss (.For tg iter body [] pos) (m.bind fun xs => foldR f s0 xs) inv := by
  refine PS_imp (for_core (L := Empty) (R := Unit) (f := fun s a => (f s a).bind fun s' => .ok (.nx s')) (pl := fun x => nomatch x) (kr := fun _ => any) hp hc hi hg h0 (fun s a => sb_of_sn (hb s a)) hs) fun D σ H ⟨B, F0, F, Gs, A, q⟩ => ⟨B, F0, F, Gs, A, ?_⟩
  cases m with
  | ok xs =>
    show wpS X W (loopO _ s0 xs) B _
    rw [loopO_fold]
    have q : wpS X W (foldR f s0 xs) B _ := q
    cases e : foldR f s0 xs with
    | ok s => rw [e] at q; exact q
    | exc x => rw [e] at q; exact q
    | stuck => rw [e] at q; exact q
  | exc x => exact q
  | stuck => exact q
theorem sb_b1 {S S' L R : Type} {st : Stmt} {rest : List Stmt} {M1 : Res (Out S L R)} {k : S → Res (Out S' L R)} {mid : S → List Slot} {post : S' → List Slot} {pl : L → List Slot} {kr : R → Slot} (h1 : B1 X W ss st M1 mid pl kr) (h2 : ∀ s, SB X W (mid s) rest (k s) post pl kr) :
    SB X W ss (st :: rest) (M1.next k) post pl kr := by
  have h2' : PSs X rest fun D σ H => ∃ s, rdX X (mid s) (wB X W (k s) post pl kr) D σ H := ⟨fun pins s σ H D I ⟨a, q⟩ => (h2 a).run pins s σ H D I q⟩
  refine PSs_imp (pss_cons h1 h2') fun D σ H ⟨B, F0, F, Gs, A, q⟩ => ⟨B, F0, F, Gs, A, wpS_imp (wpS_bind q) fun o q => ?_⟩
  cases o with
  | nx s => exact fun σ' H' F' Gs' A' => ⟨s, B, F0, F', Gs', A', q⟩
  | rt r => exact q
  | bk l => exact q
  | ct l => exact q
def Res.tail {S R : Type} (M : Res (Out S Empty R)) (k : S → Res R) : Res R := M.bind fun o =>
  match o with
  | .nx s => k s
  | .rt r => .ok r
theorem st_b1 {S R : Type} {e : Bool} {st : Stmt} {rest : List Stmt} {M1 : Res (Out S Empty R)} {k : S → Res R} {mid : S → List Slot} {pl : Empty → List Slot} {kr : R → Slot} (h1 : B1 X W ss st M1 mid pl kr) (h2 : ∀ s, ST X W e (mid s) rest (k s) kr) :
    ST X W e ss (st :: rest) (M1.tail k) kr := by
  have h2' : PSs X rest fun D σ H => ∃ s, rdX X (mid s) (wT X W e (k s) kr) D σ H := ⟨fun pins s σ H D I ⟨a, q⟩ => (h2 a).run pins s σ H D I q⟩
  refine PSs_imp (pss_cons h1 h2') fun D σ H ⟨B, F0, F, Gs, A, z, q⟩ => ⟨B, F0, F, Gs, A, wpS_imp (wpS_bind q) fun o q => ?_⟩
  cases o with
  | nx s => exact fun σ' H' F' Gs' A' => ⟨s, B, F0, F', Gs', A', z, q⟩
  | rt r => exact q
  | bk l => exact nomatch l
  | ct l => exact nomatch l
theorem b1_if {S L R : Type} {c : Expr} {mc : Res Bool} {a b : List Stmt} {pos : Pos} {M1 M2 : Res (Out S L R)} {post : S → List Slot} {pl : L → List Slot} {kr : R → Slot} (hc : XT X W ss c mc) (ha : SB X W ss a M1 post pl kr) (hb : SB X W ss b M2 post pl kr) :
    B1 X W ss (.If c a b pos) (mc.bind fun t => if t then M1 else M2) post pl kr :=
  ifX (w := fun t => wB X W (if t then M1 else M2) post pl kr) hc ha hb fun D B F0 q => wpS_bind q
def whileO {S L R : Type} (c : S → Res Bool) (f : S → Res (Out S S R)) : Nat → S → Res (Out S L R)
  | 0, _ => .stuck
  | n + 1, s => (c s).bind fun b => if b then (f s).bind fun o => (match o with
    | .nx s' => whileO c f n s'
    | .ct s' => whileO c f n s'
    | .bk s' => .ok (.nx s')
    | .rt r => .ok (.rt r)) else .ok (.nx s)
theorem b1_while {S L R : Type} {c : Expr} {body : List Stmt} {pos : Pos} {mc : S → Res Bool} {f : S → Res (Out S S R)} (n : Nat) (inv : S → List Slot) (s0 : S) {pl : L → List Slot} {kr : R → Slot}
    (hc : ∀ s, XT X W (inv s) c (mc s)) (hb : ∀ s, SB X W (inv s) body (f s) inv inv kr) (h0 : Wk ss (inv s0) := by exact Wk.refl _) (hp : PassesOwn (model X.prog X.w) X.A X.env X.xe := by exact passes_of rfl) :
    B1 X W ss (.While c body [] pos) (whileO mc f n s0) inv pl kr := by
  have hb' : PSs X body fun D σ H => ∃ s, rdX X (inv s) (wB X W (f s) inv inv kr) D σ H := ⟨fun pins s σ H D I ⟨s', q⟩ => (hb s').run pins s σ H D I q⟩
  have hc' : PT X c fun σ H Q => ∃ s, rT X W (inv s) (mc s) σ H Q := ⟨fun pins s σ H Q I ⟨s', q⟩ => (hc s').run pins s σ H Q I q⟩
  refine PS_imp (ps_while hp hc' hb') fun D σ H ⟨B, F0, F, Gs, A, q⟩ => ?_
  refine ⟨fun n σ H => ∃ s F2 Gs2, Asn X.K B F0 (inv s) σ H F2 Gs2 ∧ wpS X W (whileO mc f n s) B fun o => match o with
      | .nx s => NxOk X (inv s) D B F0
      | .rt r => RtOk X kr r D B F0
      | .bk l => BkOk X (pl l) D B F0
      | .ct l => CtOk X (pl l) D B F0, ⟨n, s0, F, Gs, A.wk h0, q⟩, fun n σ H ⟨s, F2, Gs2, A2, q2⟩ => ?_⟩
  cases n with
  | zero => exact q2.elim
  | succ n =>
    refine ⟨s, A2.sl.mono A2.ext.sub (Same.refl H), wpS_R (wpS_bind (show wpS X W ((mc s).bind _) B _ from q2)) A2.base fun t q H' s1 => ?_⟩
    have A3 := A2.grow s1 ⟨Same.refl F2, A2.ext.sub.trans s1, fun _ _ h => .inl h⟩
    cases t with
    | false => exact q σ H' F2 Gs2 A3
    | true =>
      refine ⟨fun σ' H' => ∃ s F2 Gs2, Asn X.K B F0 (inv s) σ' H' F2 Gs2 ∧ wpS X W (whileO mc f n s) B fun o => match o with
        | .nx s => NxOk X (inv s) D B F0
        | .rt r => RtOk X kr r D B F0
        | .bk l => BkOk X (pl l) D B F0
        | .ct l => CtOk X (pl l) D B F0, fun σ' H' x => ⟨n, Nat.lt_succ_self n, x⟩, s, B, F0, F2, Gs2, A3, wpS_imp (wpS_bind (show wpS X W ((f s).bind _) B _ from q)) fun o q => ?_⟩
      cases o with
      | nx s' => exact fun σ' H' F' Gs' A' => ⟨s', F', Gs', A', q⟩
      | ct s' => exact fun σ' H' F' Gs' A' => ⟨s', F', Gs', A', q⟩
      | bk s' => exact q
      | rt r => exact q
def whileR {S : Type} (c : S → Res Bool) (f : S → Res S) : Nat → S → Res S
  | 0, _ => .stuck
  | n + 1, s => (c s).bind fun b => if b then (f s).bind (whileR c f n) else .ok s
theorem whileO_R {S L R : Type} (c : S → Res Bool) (f : S → Res S) : ∀ (n : Nat) (s : S), whileO (L := L) (R := R) c (fun s => (f s).bind fun s' => .ok (.nx s')) n s = (whileR c f n s).bind fun s => .ok (.nx s)
  | 0, s => rfl
  | n + 1, s => by
    show ((c s).bind _) = ((c s).bind _).bind _
    cases c s with
    | ok b =>
      cases b with
      | true =>
        show ((f s).bind _).bind _ = ((f s).bind _).bind _
        cases f s with
        | ok s' => exact whileO_R c f n s'
        | exc x => rfl
        | stuck => rfl
      | false => rfl
    | exc x => rfl
    | stuck => rfl
theorem s1_while {S : Type} {c : Expr} {body : List Stmt} {pos : Pos} {mc : S → Res Bool} {f : S → Res S} (n : Nat) (inv : S → List Slot) (s0 : S)
    (hc : ∀ s, XT X W (inv s) c (mc s)) (hb : ∀ s, SN X W (inv s) body (f s) inv) (h0 : Wk ss (inv s0) := by exact Wk.refl _) (hp : PassesOwn (model X.prog X.w) X.A X.env X.xe := by exact passes_of rfl) :
    S1 X W ss (.While c body [] pos) (whileR mc f n s0) inv := by
  refine PS_imp (b1_while (L := Empty) (R := Unit) (pl := fun x => nomatch x) (kr := fun _ => any) n inv s0 hc (fun s => sb_of_sn (hb s)) h0 hp) fun D σ H ⟨B, F0, F, Gs, A, q⟩ => ⟨B, F0, F, Gs, A, ?_⟩
  show wpS X W (whileO mc _ n s0) B _
  rw [whileO_R]
  have q : wpS X W (whileR mc f n s0) B _ := q
  cases e : whileR mc f n s0 with
  | ok s => rw [e] at q; exact q
  | exc x => rw [e] at q; exact q
  | stuck => rw [e] at q; exact q
end
end G

namespace G
open PySem PySem.Spec PyProof.Rows L2
theorem wipe_setc (i : Nat) (o : Option V) : ∀ (vs : List Nat) (σ : L2.St), wipe (σ.set i o) vs = if i ∈ vs then wipe σ vs else (wipe σ vs).set i o
  | [], σ => by simp [wipe]
  | v :: vs, σ => by
    show (wipe (σ.set i o) vs).set v none = if i ∈ v :: vs then (wipe σ vs).set v none else ((wipe σ vs).set v none).set i o
    rw [wipe_setc i o vs σ]
    by_cases h : i ∈ vs
    · rw [if_pos h, if_pos (List.mem_cons_of_mem _ h)]
    · rw [if_neg h]
      by_cases e : i = v
      · subst e
        rw [if_pos List.mem_cons_self, List.set_set]
      · rw [if_neg (by simp only [List.mem_cons, not_or]; exact ⟨e, h⟩), List.set_comm _ _ e]
theorem wipe_set {i : Nat} {o : Option V} {vs : List Nat} {σ : L2.St} (h : i ∈ vs) : wipe (σ.set i o) vs = wipe σ vs := by rw [wipe_setc, if_pos h]
theorem wipe_self : ∀ (vs ws : List Nat) (σ : L2.St), (∀ v ∈ ws, v ∈ vs) → wipe (wipe σ ws) vs = wipe σ vs
  | vs, [], σ, _ => rfl
  | vs, w :: ws, σ, h => by
    show wipe ((wipe σ ws).set w none) vs = wipe σ vs
    rw [wipe_set (h w List.mem_cons_self), wipe_self vs ws σ fun v m => h v (List.mem_cons_of_mem _ m)]
def wipeS (ss : List Slot) : List Nat → List Slot
  | [] => ss
  | v :: vs => (wipeS ss vs).set v any
theorem Sl.set {K : Frag} {F H : Hp} {s : Slot} {o : Option V} (x : s.P K F H o) : ∀ (i : Nat) {ss : List Slot} {σ : L2.St}, Sl K F H ss σ → Sl K F H (ss.set i s) (σ.set i o)
  | _, [], [], h => h
  | 0, _ :: _, _ :: _, ⟨_, y⟩ => ⟨x, y⟩
  | i + 1, _ :: _, _ :: _, ⟨z, y⟩ => ⟨z, Sl.set x i y⟩
  | _, [], _ :: _, h => h.elim
  | _, _ :: _, [], h => h.elim
theorem Sl.wipe {K : Frag} {F H : Hp} : ∀ (vs : List Nat) {ss : List Slot} {σ : L2.St}, Sl K F H ss σ → Sl K F H (wipeS ss vs) (L2.wipe σ vs)
  | [], _, _, h => h
  | v :: vs, _, _, h => Sl.set (s := any) (o := none) trivial v (Sl.wipe vs h)
abbrev WF : WX := fun _ _ _ _ => False
def TgC (X : Cx) (scope : Scope) (vs : List Nat) {α : Type} [Enc α] (tg : Expr) (u : α → List Slot → List Slot) : Prop :=
  ∃ g, (∀ (s : Shared) (H : Hp) (C : Addr) (cl : List (Str × Addr)) (fp : List Addr), PG (X.blk s H scope (compEnvC scope cl C X.env) fp) tg g) ∧
    ∀ (a : α) (v : V) (F H : Hp) (ss : List Slot) (σ : L2.St) (Q : L2.St → Hp → Prop), Sl X.K F H ss σ → Same F H → Enc.rep X.K F v a →
      (∀ σ', Sl X.K F H (u a ss) σ' → L2.wipe σ' vs = L2.wipe σ vs → Q σ' H) → g v σ H Q
section
variable {X : Cx} {W : WX} {ss : List Slot} {tg : Expr} {scope : Scope} {vs : List Nat}
theorem tc_name (i : Nat) {α : Type} [Enc α] {x : Str} {pos : Pos} (hN : X.N.Nodup) (hi : X.N[i]? = some x := by rfl) (hv : i ∈ vs := by decide)
    (hx : ∀ (s : Shared) (H : Hp) (C : Addr) (cl : List (Str × Addr)) (fp : List Addr), Loc (X.blk s H scope (compEnvC scope cl C X.env) fp).env.scope x := by intro _ _ _ _ _; first | exact Or.inl rfl | exact Or.inr rfl)
    (hf : ∀ (s : Shared) (H : Hp) (C : Addr) (cl : List (Str × Addr)) (fp : List Addr), (X.blk s H scope (compEnvC scope cl C X.env) fp).fn x = true ∨ (X.blk s H scope (compEnvC scope cl C X.env) fp).env.scope.names.lookup x = some .local := by intro _ _ _ _ _; first | exact .inl rfl | exact .inr rfl) :
    TgC X scope vs (α := α) (.Name x pos) (fun a ss => ss.set i (fr a)) :=
  ⟨gName i, fun s H C cl fp => pg_name (X := X.blk s H scope (compEnvC scope cl C X.env) fp) hN hi (hx s H C cl fp) (hf s H C cl fp), fun a v F H ss σ Q sl sf r q => q _ (sl.set (s := fr a) ⟨v, rfl, r⟩ i) (wipe_set hv)⟩
end
def lcR {α β : Type} (p : α → Res Bool) (g : α → Res β) : List α → Res (List β)
  | [] => .ok []
  | a :: as => match p a with
    | .ok true => (match g a with
      | .ok b => (lcR p g as).bind fun bs => .ok (b :: bs)
      | _ => .stuck)
    | .ok false => lcR p g as
    | _ => .stuck
def lcT {α β : Type} (p : α → Res Bool) (g : α → Res β) (xs : List α) : Res (List β) := guardR (decide (xs.length ≤ 1000000)) (lcR p g xs)
theorem lcR_ok {α β : Type} {p : α → Res Bool} {g : α → Res β} {g' : α → β} : ∀ {xs : List α}, (∀ a ∈ xs, p a = .ok true) → (∀ a ∈ xs, g a = .ok (g' a)) → lcR p g xs = .ok (xs.map g')
  | [], _, _ => rfl
  | a :: as, hp, hg => by
    unfold lcR
    rw [hp a List.mem_cons_self, hg a List.mem_cons_self, lcR_ok (fun b m => hp b (List.mem_cons_of_mem _ m)) (fun b m => hg b (List.mem_cons_of_mem _ m))]
    rfl
theorem lcR_filter {α β : Type} {p : α → Res Bool} {g : α → Res β} {p' : α → Bool} {g' : α → β} : ∀ {xs : List α}, (∀ a ∈ xs, p a = .ok (p' a)) → (∀ a ∈ xs, p' a = true → g a = .ok (g' a)) → lcR p g xs = .ok ((xs.filter p').map g')
  | [], _, _ => rfl
  | a :: as, hp, hg => by
    unfold lcR
    have ih := lcR_filter (p := p) (g := g) (p' := p') (g' := g') (xs := as) (fun b m => hp b (List.mem_cons_of_mem _ m)) (fun b m => hg b (List.mem_cons_of_mem _ m))
    rw [hp a List.mem_cons_self, ih]
    cases e : p' a with
    | true => rw [hg a List.mem_cons_self e]; simp [List.filter_cons, e]
    | false => simp [List.filter_cons, e]
section
variable {X : Cx} {W : WX} {ss : List Slot} {tg elt iter : Expr} {scope : Scope} {own : List (Str × Nat)} {pos : Pos}
theorem lc_read {α β : Type} [Enc α] [Enc β] {vs : List Nat} {u : α → List Slot → List Slot} {m : Res (List α)} {p : α → Res Bool} {gg : α → Res β} {g : TG}
    (qg : ∀ (a : α) (v : V) (F H : Hp) (ss : List Slot) (σ : L2.St) (Q : L2.St → Hp → Prop), Sl X.K F H ss σ → Same F H → Enc.rep X.K F v a → (∀ σ', Sl X.K F H (u a ss) σ' → L2.wipe σ' vs = L2.wipe σ vs → Q σ' H) → g v σ H Q)
    {σ : L2.St} {H : Hp} {Q : VK} {F : Hp} (sf : Same F H) (sl : Sl X.K F H ss σ)
    (q : wpR X W (m.bind fun xs => lcT p gg xs) σ H fun a => ∀ v H' F' G', Same H H' → Ext F H F' H' → Priv G' H F' H' → (ow a).P X.K F' G' (some v) → Q v H') :
    tLc (rdPI X W ss m) g (fun σ H Q => ∃ a, rT X WF (u a (wipeS ss vs)) (p a) σ H Q) (fun σ H Q => ∃ a, rK X WF (u a (wipeS ss vs)) (gg a) fr σ H Q) vs σ H Q := by
  refine ⟨F, sf, sl, wpR_imp (wpR_bind q) (Same.refl H) fun xs q J H1 F1 s1 ex1 it D nD => ?_⟩
  obtain ⟨hlen, q⟩ := wpR_guard q
  have hlen : xs.length ≤ 1000000 := of_decide_eq_true hlen
  have nF1 : F1 D = none := Same.free ex1.sub nD
  -- the whole comes out well
  obtain ⟨bs, ebs⟩ : ∃ bs, lcR p gg xs = .ok bs := by
    cases e : lcR p gg xs with
    | ok bs => exact ⟨bs, rfl⟩
    | stuck => rw [e] at q; exact q.elim
    | exc x =>
      exfalso
      have nx : ∀ (l : List α) (x : Exn), lcR p gg l ≠ .exc x := by
        intro l
        induction l with
        | nil => intro x h; cases h
        | cons a as ih =>
          intro x h
          unfold lcR at h
          split at h
          · split at h
            · cases e2 : lcR p gg as with
              | ok bs => rw [e2] at h; cases h
              | exc y => exact ih y e2
              | stuck => rw [e2] at h; cases h
            · cases h
          · exact ih x h
          · cases h
      exact nx xs x e
  rw [ebs] at q
  refine ⟨fun i n H => i + n = xs.length ∧ ∃ acc F2 done left, H D = some (.lst acc) ∧ acc.length ≤ i ∧ Same H1 H ∧ Ext F1 H1 F2 H ∧ F2 D = none ∧ All2 (fun v a => Enc.rep X.K F2 v a) acc done ∧ lcR p gg (xs.drop i) = .ok left ∧ bs = done ++ left,
    ⟨xs.length, by omega, [], F1, [], bs, upd_same, Nat.le_refl _, same_upd nD, ⟨Same.refl _, ex1.sub.trans (same_upd nD), fun _ _ h => .inl h⟩, nF1, trivial, ebs, rfl⟩, fun i n H2 ⟨hn, acc, F2, done, left, hD, hacc, s2, ex2, nF2, ra, el, eb⟩ => ?_⟩
  by_cases hlt : i < xs.length
  · refine .inr ?_
    have hx : xs[i]? = some xs[i] := List.getElem?_eq_getElem hlt
    obtain ⟨hgo, hy⟩ := it.go i F2 H2 xs[i] ex2.le ex2.sub hx
    rw [List.drop_eq_getElem_cons hlt] at el
    unfold lcR at el
    refine ⟨hgo, fun H' => ∃ acc F2 done left, H' D = some (.lst acc) ∧ acc.length ≤ i + 1 ∧ Same H1 H' ∧ Ext F1 H1 F2 H' ∧ F2 D = none ∧ All2 (fun v a => Enc.rep X.K F2 v a) acc done ∧ lcR p gg (xs.drop (i + 1)) = .ok left ∧ bs = done ++ left,
      fun H' x => ⟨n - 1, by omega, by omega, x⟩, fun v H' y => ?_⟩
    obtain ⟨s3, F3, ex3, r3⟩ := hy v H' y
    have keepD : ∀ {Fa Fb Ha Hb : Hp}, Fa D = none → Ext Fa Ha Fb Hb → Ha D = some (.lst acc) → Same Ha Hb → Fb D = none := fun {Fa Fb Ha Hb} n0 ex hh ss => by
      cases e : Fb D with
      | none => rfl
      | some w =>
        rcases ex.new D w e with z | z | z
        · rw [n0] at z; cases z
        · rw [hh] at z; cases z
        · have t := ex.sub _ _ e
          rw [ss _ _ hh] at t; cases t; cases z
    have nF3 := keepD nF2 ex3 hD s3
    have hD3 := s3 _ _ hD
    have slW : Sl X.K F3 H' (wipeS ss vs) (L2.wipe σ vs) := (sl.wipe vs).mono (ex1.le.trans (ex2.le.trans ex3.le)) (s1.trans (s2.trans s3))
    refine qg xs[i] v F3 H' (wipeS ss vs) (L2.wipe σ vs) _ slW ex3.sub r3 fun σ4 sl4 e4 => ⟨e4.trans (wipe_self vs vs σ fun _ m => m), xs[i], sl4.mono ex3.sub (Same.refl H'), ?_⟩
    cases ep : p xs[i] with
    | stuck => rw [ep] at el; cases el
    | exc x => rw [ep] at el; cases el
    | ok b =>
      rw [ep] at el
      intro H5 s5
      have ex5 : Ext F3 H' F3 H5 := ⟨Same.refl _, ex3.sub.trans s5, fun _ _ h => .inl h⟩
      have exF : Ext F1 H1 F3 H5 := ex2.trans s2 (ex3.trans s3 ex5)
      cases b with
      | false =>
        rw [if_neg Bool.false_ne_true]
        exact ⟨acc, F3, done, left, s5 _ _ hD3, Nat.le_succ_of_le hacc, s2.trans (s3.trans s5), exF, nF3, ra.mono ex3.le, el, eb⟩
      | true =>
        rw [if_pos rfl]
        refine ⟨xs[i], F3, ex5.sub, sl4.mono (Same.refl F3) s5, ?_⟩
        cases eg : gg xs[i] with
        | stuck => rw [eg] at el; cases el
        | exc x => rw [eg] at el; cases el
        | ok b =>
          rw [eg] at el
          intro y H6 F6 G6 s6 ex6 _ ⟨y', e6, r6⟩
          cases e6
          have hD5 := s5 _ _ hD3
          have nF6 := keepD nF3 ex6 hD5 s6
          have hD6 := s6 _ _ hD5
          obtain ⟨left', el'⟩ : ∃ l, lcR p gg (xs.drop (i + 1)) = .ok l := by
            cases e7 : lcR p gg (xs.drop (i + 1)) with
            | ok l => exact ⟨l, rfl⟩
            | exc x => rw [e7] at el; cases el
            | stuck => rw [e7] at el; cases el
          rw [el'] at el
          have el2 : b :: left' = left := by injection el
          have nD1 : H1 D = none := nD
          have sU : Same H1 (upd H6 D (.lst (acc ++ [y]))) := fun c w z => by
            rw [upd_ne (fun e => by rw [e, nD1] at z; cases z)]
            exact s6 _ _ (s5 _ _ (s3 _ _ (s2 _ _ z)))
          refine ⟨acc, hD6, Nat.lt_of_le_of_lt (by omega : acc.length ≤ 1000000) (by decide), acc ++ [y], F6, done ++ [b], left', upd_same, by rw [List.length_append, List.length_singleton]; omega, sU, ⟨exF.le.trans ex6.le, fun c w z => ?_, fun c w z => ?_⟩, nF6, All2.append (ra.mono (ex3.le.trans ex6.le)) ⟨r6, trivial⟩, el', by rw [eb, ← el2]; simp⟩
          · rw [upd_ne (fun e => by rw [e, nF6] at z; cases z)]
            exact ex6.sub _ _ z
          · rcases ex6.new c w z with z | z | z
            · exact exF.new c w z
            · exact .inr (.inl (Same.free (s2.trans (s3.trans s5)) z))
            · exact .inr (.inr z)
  · refine .inl ⟨it.stop i F2 H2 ex2.le ex2.sub (by omega), ?_⟩
    rw [List.drop_eq_nil_iff.mpr (by omega)] at el
    have e0 : ([] : List β) = left := by injection el
    subst e0
    rw [List.append_nil] at eb
    subst eb
    have nH : H D = none := Same.free s1 nD
    refine q (.ref D) H2 F2 (upd noHp D (.lst acc)) (s1.trans s2) (ex1.trans s1 ex2) (fun c w z => ?_) ⟨D, acc, rfl, upd_same, ra⟩
    by_cases e : c = D
    · subst e
      rw [upd_same] at z; cases z
      exact ⟨hD, nH, nF2, rfl⟩
    · rw [upd_ne e] at z; cases z
theorem xk_lc {α β : Type} [Enc α] [Enc β] {u : α → List Slot → List Slot} {m : Res (List α)} {gg : α → Res β} (hi : XIt X W ss tg iter m) (hg : TgC X scope (own.map (·.2)) tg u)
    (he : ∀ a s H C cl fp, XK (X.blk s H scope (compEnvC scope cl C X.env) fp) WF (u a (wipeS ss (own.map (·.2)))) elt (gg a) fr) (hN : X.N.Nodup) (ok : BlkOk X.N X.env.scope scope own) (hc : X.calm = true := by rfl) (hs : ∀ x, foldedSetIterable iter X.env x = pure x := by intro _; rfl) :
    XK X W ss (.ListComp elt [⟨tg, iter, [], 0⟩] scope pos) (m.bind fun xs => lcT (fun _ => .ok true) gg xs) ow := by
  obtain ⟨g, pg, qg⟩ := hg
  have he' : ∀ (s : Shared) (H : Hp) (C : Addr) (cl : List (Str × Addr)) (fp : List Addr), PE (X.blk s H scope (compEnvC scope cl C X.env) fp) elt (fun σ H Q => ∃ a, rK X WF (u a (wipeS ss (own.map (·.2)))) (gg a) fr σ H Q) := fun s H C cl fp =>
    ⟨fun pins s' σ H' Q I ⟨a, q⟩ => (he a s H C cl fp).run pins s' σ H' Q I q⟩
  have ht' : ∀ (s : Shared) (H : Hp) (C : Addr) (cl : List (Str × Addr)) (fp : List Addr), PTs (X.blk s H scope (compEnvC scope cl C X.env) fp) [] (fun σ H Q => ∃ a, rT X WF (u a (wipeS ss (own.map (·.2)))) ((fun _ => .ok true : α → Res Bool) a) σ H Q) := fun s H C cl fp =>
    ⟨fun pins s' σ H' Q I ⟨a, sl, q⟩ => pts_nil.run pins s' σ H' Q I (q H' (Same.refl H'))⟩
  exact PE_imp (pe_lc hc hN hi ok pg ht' he' hs) fun σ H Q ⟨F, sf, sl, q⟩ => lc_read qg sf sl q
theorem xk_lcIf {α β : Type} [Enc α] [Enc β] {cond : Expr} {u : α → List Slot → List Slot} {m : Res (List α)} {p : α → Res Bool} {gg : α → Res β} (hi : XIt X W ss tg iter m) (hg : TgC X scope (own.map (·.2)) tg u)
    (ht : ∀ a s H C cl fp, XT (X.blk s H scope (compEnvC scope cl C X.env) fp) WF (u a (wipeS ss (own.map (·.2)))) cond (p a))
    (he : ∀ a s H C cl fp, XK (X.blk s H scope (compEnvC scope cl C X.env) fp) WF (u a (wipeS ss (own.map (·.2)))) elt (gg a) fr) (hN : X.N.Nodup) (ok : BlkOk X.N X.env.scope scope own) (hc : X.calm = true := by rfl) (hs : ∀ x, foldedSetIterable iter X.env x = pure x := by intro _; rfl) :
    XK X W ss (.ListComp elt [⟨tg, iter, [cond], 0⟩] scope pos) (m.bind fun xs => lcT p gg xs) ow := by
  obtain ⟨g, pg, qg⟩ := hg
  have he' : ∀ (s : Shared) (H : Hp) (C : Addr) (cl : List (Str × Addr)) (fp : List Addr), PE (X.blk s H scope (compEnvC scope cl C X.env) fp) elt (fun σ H Q => ∃ a, rK X WF (u a (wipeS ss (own.map (·.2)))) (gg a) fr σ H Q) := fun s H C cl fp =>
    ⟨fun pins s' σ H' Q I ⟨a, q⟩ => (he a s H C cl fp).run pins s' σ H' Q I q⟩
  have ht0 : ∀ (s : Shared) (H : Hp) (C : Addr) (cl : List (Str × Addr)) (fp : List Addr), PT (X.blk s H scope (compEnvC scope cl C X.env) fp) cond (fun σ H Q => ∃ a, rT X WF (u a (wipeS ss (own.map (·.2)))) (p a) σ H Q) := fun s H C cl fp =>
    ⟨fun pins s' σ H' Q I ⟨a, q⟩ => (ht a s H C cl fp).run pins s' σ H' Q I q⟩
  exact PE_imp (pe_lc hc hN hi ok pg (fun s H C cl fp => pts_one (ht0 s H C cl fp)) he' hs) fun σ H Q ⟨F, sf, sl, q⟩ => lc_read qg sf sl q
theorem s1_lcIf (i : Nat) {α β : Type} [Enc α] [Enc β] {y : Str} {py spos : Pos} {cond : Expr} {u : α → List Slot → List Slot} {m : Res (List α)} {p : α → Res Bool} {gg : α → Res β} (hi : XIt X W ss tg iter m) (hg : TgC X scope (own.map (·.2)) tg u)
    (ht : ∀ a s H C cl fp, XT (X.blk s H scope (compEnvC scope cl C X.env) fp) WF (u a (wipeS ss (own.map (·.2)))) cond (p a))
    (he : ∀ a s H C cl fp, XK (X.blk s H scope (compEnvC scope cl C X.env) fp) WF (u a (wipeS ss (own.map (·.2)))) elt (gg a) fr) (hN : X.N.Nodup) (ok : BlkOk X.N X.env.scope scope own) (hsw : swapsWith (.ListComp elt [⟨tg, iter, [cond], 0⟩] scope pos) (some (.Name y py)) spos.line X.env = pure true)
    (hy : X.N[i]? = some y := by rfl) (hyl : X.env.scope.names.lookup y = some .local := by rfl) (hc : X.calm = true := by rfl) (hs : ∀ x, foldedSetIterable iter X.env x = pure x := by intro _; rfl) :
    S1 X W ss (.Assign [.Name y py] (.ListComp elt [⟨tg, iter, [cond], 0⟩] scope pos) spos) (m.bind fun xs => lcT p gg xs) (fun bs => ss.set i (ow bs)) := by
  obtain ⟨g, pg, qg⟩ := hg
  have he' : ∀ (s : Shared) (H : Hp) (C : Addr) (cl : List (Str × Addr)) (fp : List Addr), PE (X.blk s H scope (compEnvC scope cl C X.env) fp) elt (fun σ H Q => ∃ a, rK X WF (u a (wipeS ss (own.map (·.2)))) (gg a) fr σ H Q) := fun s H C cl fp =>
    ⟨fun pins s' σ H' Q I ⟨a, q⟩ => (he a s H C cl fp).run pins s' σ H' Q I q⟩
  have ht0 : ∀ (s : Shared) (H : Hp) (C : Addr) (cl : List (Str × Addr)) (fp : List Addr), PT (X.blk s H scope (compEnvC scope cl C X.env) fp) cond (fun σ H Q => ∃ a, rT X WF (u a (wipeS ss (own.map (·.2)))) (p a) σ H Q) := fun s H C cl fp =>
    ⟨fun pins s' σ H' Q I ⟨a, q⟩ => (ht a s H C cl fp).run pins s' σ H' Q I q⟩
  refine PS_imp (ps_setLc hc hN hy hyl hsw hi ok pg (fun s H C cl fp => pts_one (ht0 s H C cl fp)) he' hs) fun D σ H ⟨B, F0, F, Gs, A, q⟩ => lc_read qg A.ext.sub A.sl (wpS_R q A.base fun a q v H' F' G' s ex pr k => ?_)
  exact q _ H' F' _ (A.set (s := ow a) s ex pr k i)
end
end G

namespace G
open PySem PySem.Spec PyProof.Rows L2
structure Bi (X : Cx) (r : R2) {α β γ : Type} [Enc α] [Enc β] [Enc γ] (g : α → β → Res γ) : Prop where
  op : Op2 X r g
  nx : ∀ a b, NoX (g a b)
section
variable {X : Cx} {W : WX} {ss : List Slot} {pos : Pos} {a b : Expr}
theorem x_bin {α β γ : Type} [Enc α] [Enc β] [Enc γ] {op : Operator} {r : R2} {g : α → β → Res γ} {m1 : Res α} {m2 : Res β} (hr : OpR X (binaryOp op) r) (bi : Bi X r g) (h1 : XI X W ss a m1) (h2 : XI X W ss b m2) :
    XI X W ss (.BinOp a op b pos) (m1.bind fun a => m2.bind fun b => g a b) := xi_bin hr bi.op bi.nx h1 h2
theorem x_cmp {α β γ : Type} [Enc α] [Enc β] [Enc γ] {op : CmpOp} {r : R2} {g : α → β → Res γ} {m1 : Res α} {m2 : Res β} (hr : OpR X (compareOp op) r) (bi : Bi X r g) (hm : behindInMarks op b = false) (h1 : XI X W ss a m1) (h2 : XI X W ss b m2) :
    XI X W ss (.Compare a [op] [b] pos) (m1.bind fun a => m2.bind fun b => g a b) := xi_cmp hr bi.op bi.nx hm h1 h2
theorem t_cmp {α β : Type} [Enc α] [Enc β] {op : CmpOp} {r : R2} {g : α → β → Res Bool} {m1 : Res α} {m2 : Res β} (hr : OpR X (compareOp op) r) (bi : Bi X r g) (hm : behindInMarks op b = false) (h1 : XI X W ss a m1) (h2 : XI X W ss b m2) :
    XT X W ss (.Compare a [op] [b] pos) (m1.bind fun a => m2.bind fun b => g a b) := xt_cmp hr bi.op bi.nx hm h1 h2
theorem b_add : Bi X (rI0 fun i j => .int (i + j)) (fun i j : Int => Res.ok (i + j)) := ⟨op2_I0 fun _ _ _ _ => rfl, fun _ _ => noX_ok⟩
theorem b_sub : Bi X (rI0 fun i j => .int (i - j)) (fun i j : Int => Res.ok (i - j)) := ⟨op2_I0 fun _ _ _ _ => rfl, fun _ _ => noX_ok⟩
def in64 (i : Int) : Bool := decide (-(2 ^ 64) < i) && decide (i < 2 ^ 64)
def mulR (i j : Int) : Res Int := guardR (in64 i || in64 j) (.ok (i * j))
theorem b_mul : Bi X (L2.rI CMul fun i j => .int (i * j)) mulR := ⟨op2_I (fun i j h => by
  unfold in64 at h
  simp only [Bool.or_eq_true, Bool.and_eq_true, decide_eq_true_eq] at h
  exact h) fun _ _ _ _ => rfl, fun _ _ => noX_guard⟩
theorem mulR_l {i j : Int} (h1 : -(2 ^ 64) < i) (h2 : i < 2 ^ 64) : mulR i j = .ok (i * j) := guardR_of (by unfold in64; rw [decide_eq_true h1, decide_eq_true h2]; rfl)
theorem mulR_r {i j : Int} (h1 : -(2 ^ 64) < j) (h2 : j < 2 ^ 64) : mulR i j = .ok (i * j) := guardR_of (by unfold in64; rw [decide_eq_true h1, decide_eq_true h2]; exact Bool.or_true _)
def divR (i j : Int) : Res Int := guardR (decide (0 < j) && decide (j < 10 ^ 70)) (.ok (i / j))
theorem b_div : Bi X (L2.rI CDivW fun i j => .int (i / j)) divR := ⟨op2_I (fun i j h => by
  simp only [Bool.and_eq_true, decide_eq_true_eq] at h
  refine wide_div (b := 250) h.1 ?_ (by decide) (by decide)
  have h2 := h.2
  have h1 := h.1
  omega) fun _ _ _ _ => rfl, fun _ _ => noX_guard⟩
theorem divR_of {i j : Int} (h1 : 0 < j) (h2 : j < 10 ^ 70) : divR i j = .ok (i / j) := guardR_of (by rw [decide_eq_true h1, decide_eq_true h2]; rfl)
def modR (i j : Int) : Res Int := guardR (decide (0 < j)) (.ok (i % j))
theorem b_mod : Bi X (L2.rI (fun _ j => 0 < j) fun i j => .int (i % j)) modR := ⟨op2_I (fun i j h => of_decide_eq_true h) fun _ _ _ _ => rfl, fun _ _ => noX_guard⟩
theorem modR_of {i j : Int} (h1 : 0 < j) : modR i j = .ok (i % j) := guardR_of (by simp [h1])
theorem xi_pow {i j : Int} {k1 k2 : Nat} {p1 p2 : Pos} (h : CPow i j) : XI X W ss (.BinOp (.Constant (.int i) k1 p1) .Pow (.Constant (.int j) k2 p2) pos) (.ok (i ^ j.toNat)) :=
  PE_imp (pe_op op_pow pe_int pe_int) fun σ H Q ⟨_, q⟩ => ⟨i, j, rfl, rfl, h, q _ H (Same.refl H) rfl⟩
theorem xi_neg {m : Res Int} (h : XI X W ss a m) : XI X W ss (.UnaryOp .USub a pos) (m.bind fun i => .ok (-i)) :=
  PE_imp (pe_un un_neg h) fun σ H Q ⟨sl, q⟩ => ⟨sl, wpR_imp (wpR_bind q) (Same.refl H) fun i q v H1 s1 r1 => ⟨i, r1, q _ H1 s1 rfl⟩⟩
theorem b_lt : Bi X (rI0 fun i j => .bl (decide (i < j))) (fun i j : Int => Res.ok (decide (i < j))) := ⟨op2_I0 fun _ _ _ _ => rfl, fun _ _ => noX_ok⟩
theorem b_le : Bi X (rI0 fun i j => .bl (decide (i ≤ j))) (fun i j : Int => Res.ok (decide (i ≤ j))) := ⟨op2_I0 fun _ _ _ _ => rfl, fun _ _ => noX_ok⟩
theorem b_gt : Bi X (rI0 fun i j => .bl (decide (i > j))) (fun i j : Int => Res.ok (decide (i > j))) := ⟨op2_I0 fun _ _ _ _ => rfl, fun _ _ => noX_ok⟩
theorem b_ge : Bi X (rI0 fun i j => .bl (decide (i ≥ j))) (fun i j : Int => Res.ok (decide (i ≥ j))) := ⟨op2_I0 fun _ _ _ _ => rfl, fun _ _ => noX_ok⟩
class Sca (α : Type) [Enc α] where
  v : α → V
  flat : ∀ {K : Frag} {H : Hp} {u : V} {a : α}, Enc.rep K H u a → u = v a
class ScaEq (α β : Type) [Enc α] [Enc β] [Sca α] [Sca β] where
  ok : ∀ (a : α) (b : β), scal (Sca.v a) (Sca.v b) = true
  eq : α → β → Bool
  iff : ∀ (a : α) (b : β), decide (Sca.v a = Sca.v b) = eq a b
instance : Sca Int := ⟨.int, fun h => h⟩
instance : Sca Bool := ⟨.bl, fun h => h⟩
instance : Sca Str := ⟨.str, fun h => h⟩
instance : Sca (Option Int) := ⟨fun o => match o with | none => .non | some i => .int i, fun {K H u o} h => by cases o with | none => exact h | some i => exact h.2⟩
instance : Sca (Option Str) := ⟨fun o => match o with | none => .non | some i => .str i, fun {K H u o} h => by cases o with | none => exact h | some i => exact h.2⟩
instance : ScaEq Int Int := ⟨fun _ _ => rfl, fun a b => decide (a = b), fun a b => by show decide (V.int a = V.int b) = _; by_cases e : a = b <;> simp [e]⟩
instance : ScaEq Bool Bool := ⟨fun _ _ => rfl, fun a b => decide (a = b), fun a b => by show decide (V.bl a = V.bl b) = _; by_cases e : a = b <;> simp [e]⟩
instance : ScaEq Str Str := ⟨fun _ _ => rfl, fun a b => decide (a = b), fun a b => by show decide (V.str a = V.str b) = _; by_cases e : a = b <;> simp [e]⟩
instance : ScaEq (Option Int) (Option Int) := ⟨fun a b => by cases a <;> cases b <;> rfl, fun a b => decide (a = b), fun a b => by
  cases a <;> cases b <;> first
    | rfl
    | (rename_i x y; show decide (V.int x = V.int y) = _; by_cases e : x = y <;> simp [e])⟩
instance : ScaEq Int (Option Int) := ⟨fun a b => by cases b <;> rfl, fun a b => decide (some a = b), fun a b => by
  cases b with
  | none => rfl
  | some y => show decide (V.int a = V.int y) = _; by_cases e : a = y <;> simp [e]⟩
instance : ScaEq (Option Int) Int := ⟨fun a b => by cases a <;> rfl, fun a b => decide (a = some b), fun a b => by
  cases a with
  | none => rfl
  | some y => show decide (V.int y = V.int b) = _; by_cases e : y = b <;> simp [e]⟩
instance : ScaEq (Option Str) (Option Str) := ⟨fun a b => by cases a <;> cases b <;> rfl, fun a b => decide (a = b), fun a b => by
  cases a <;> cases b <;> first
    | rfl
    | (rename_i x y; show decide (V.str x = V.str y) = _; by_cases e : x = y <;> simp [e])⟩
instance : ScaEq Str (Option Str) := ⟨fun a b => by cases b <;> rfl, fun a b => decide (some a = b), fun a b => by
  cases b with
  | none => rfl
  | some y => show decide (V.str a = V.str y) = _; by_cases e : a = y <;> simp [e]⟩
instance : ScaEq (Option Str) Str := ⟨fun a b => by cases a <;> rfl, fun a b => decide (a = some b), fun a b => by
  cases a with
  | none => rfl
  | some y => show decide (V.str y = V.str b) = _; by_cases e : y = b <;> simp [e]⟩
theorem b_eqS {α β : Type} [Enc α] [Enc β] [Sca α] [Sca β] [ScaEq α β] : Bi X rEq (fun (a : α) (b : β) => Res.ok (ScaEq.eq a b)) := ⟨fun a b v w H Q r1 r2 q => by
  rw [Sca.flat r1, Sca.flat r2]
  exact ⟨ScaEq.ok a b, by rw [ScaEq.iff]; exact q _ H (Same.refl H) rfl⟩, fun _ _ => noX_ok⟩
theorem b_neS {α β : Type} [Enc α] [Enc β] [Sca α] [Sca β] [ScaEq α β] : Bi X rNe (fun (a : α) (b : β) => Res.ok (!ScaEq.eq a b)) := ⟨fun a b v w H Q r1 r2 q => by
  rw [Sca.flat r1, Sca.flat r2]
  exact ⟨ScaEq.ok a b, by rw [ScaEq.iff]; exact q _ H (Same.refl H) rfl⟩, fun _ _ => noX_ok⟩
@[simp] theorem eqII (a b : Int) : ScaEq.eq a b = decide (a = b) := rfl
@[simp] theorem eqBB (a b : Bool) : ScaEq.eq a b = decide (a = b) := rfl
@[simp] theorem eqSS (a b : Str) : ScaEq.eq a b = decide (a = b) := rfl
@[simp] theorem eqOO (a b : Option Int) : ScaEq.eq a b = decide (a = b) := rfl
@[simp] theorem eqIO (a : Int) (b : Option Int) : ScaEq.eq a b = decide (some a = b) := rfl
@[simp] theorem eqOI (a : Option Int) (b : Int) : ScaEq.eq a b = decide (a = some b) := rfl
@[simp] theorem eqTT (a b : Option Str) : ScaEq.eq a b = decide (a = b) := rfl
@[simp] theorem eqST (a : Str) (b : Option Str) : ScaEq.eq a b = decide (some a = b) := rfl
@[simp] theorem eqTS (a : Option Str) (b : Str) : ScaEq.eq a b = decide (a = some b) := rfl
theorem xt_val {m : Res Bool} (h : XI X W ss a m) (he : ∀ whole, isTrue a X.env whole = (do let v ← whole; standAt a.pos; holding [v] (truthy v)) := by intro _; rfl) : XT X W ss a m :=
  PT_imp (pt_val h he) fun σ H Q ⟨sl, q⟩ => ⟨sl, wpR_imp q (Same.refl H) fun b q v H1 s1 r1 => ⟨b, r1, q H1 s1⟩⟩
theorem xt_not {m : Res Bool} (h : XT X W ss a m) : XT X W ss (.UnaryOp .Not a pos) (m.bind fun b => .ok (!b)) :=
  PT_imp (pt_not h) fun σ H Q ⟨sl, q⟩ => ⟨sl, wpR_imp (wpR_bind q) (Same.refl H) fun b q H1 s1 => q H1 s1⟩
def XW (X : Cx) (W : WX) (ss : List Slot) (e : Expr) (m : Res Bool) : Prop := PW X e (rT X W ss m)
theorem PW_imp {e : Expr} {t t' : TT} (h : PW X e t) (f : ∀ σ H Q, t' σ H Q → t σ H Q) : PW X e t' := ⟨fun wh pins s σ H Q I q => h.run wh pins s σ H Q I (f _ _ _ q)⟩
theorem xw_and1 {m : Res Bool} (h : XT X W ss a m) : XW X W ss (.BoolOp .And [a] pos) m := pw_and1 h
theorem xw_or1 {m : Res Bool} (h : XT X W ss a m) : XW X W ss (.BoolOp .Or [a] pos) m := pw_or1 h
theorem xw_and {rest : List Expr} {m m' : Res Bool} (h : XT X W ss a m) (h' : XW X W ss (.BoolOp .And (b :: rest) pos) m') : XW X W ss (.BoolOp .And (a :: b :: rest) pos) (m.bind fun t => if t then m' else .ok false) :=
  PW_imp (pw_and h h') fun σ H Q ⟨sl, q⟩ => ⟨sl, wpR_imp (wpR_bind q) (Same.refl H) fun t q H1 s1 => by
    cases t with
    | true => exact ⟨sl.mono s1 s1, wpR_imp q s1 fun b z H2 s2 => z H2 (s1.trans s2)⟩
    | false => exact q H1 s1⟩
theorem xw_or {rest : List Expr} {m m' : Res Bool} (h : XT X W ss a m) (h' : XW X W ss (.BoolOp .Or (b :: rest) pos) m') : XW X W ss (.BoolOp .Or (a :: b :: rest) pos) (m.bind fun t => if t then .ok true else m') :=
  PW_imp (pw_or h h') fun σ H Q ⟨sl, q⟩ => ⟨sl, wpR_imp (wpR_bind q) (Same.refl H) fun t q H1 s1 => by
    cases t with
    | false => exact ⟨sl.mono s1 s1, wpR_imp q s1 fun b z H2 s2 => z H2 (s1.trans s2)⟩
    | true => exact q H1 s1⟩
theorem xt_w {m : Res Bool} (h : XW X W ss a m) : XT X W ss a m := h.pt
theorem xi_one {op : BoolOp} {m : Res Bool} (h : XI X W ss a m) : XI X W ss (.BoolOp op [a] pos) m := pe_one h
theorem xi_and {rest : List Expr} {m m' : Res Bool} (h : XI X W ss a m) (h' : XI X W ss (.BoolOp .And (b :: rest) pos) m') : XI X W ss (.BoolOp .And (a :: b :: rest) pos) (m.bind fun t => if t then m' else .ok false) :=
  PE_imp (pe_and h h') fun σ H Q ⟨sl, q⟩ => ⟨sl, wpR_imp (wpR_bind q) (Same.refl H) fun t q v H1 s1 r1 => ⟨t, r1, by
    cases t with
    | true => exact ⟨sl.mono s1 s1, wpR_imp q s1 fun b z v' H2 s2 => z v' H2 (s1.trans s2)⟩
    | false => exact q _ H1 s1 rfl⟩⟩
theorem xi_not {m : Res Bool} (h : XI X W ss a m) : XI X W ss (.UnaryOp .Not a pos) (m.bind fun b => .ok (!b)) :=
  PE_imp (pe_not h) fun σ H Q ⟨sl, q⟩ => ⟨sl, wpR_imp (wpR_bind q) (Same.refl H) fun b q v H1 s1 r1 => ⟨b, r1, q _ H1 s1 rfl⟩⟩
def unw {α : Type} (o : Option α) : Res α := match o with
  | some a => .ok a
  | none => .stuck
@[simp] theorem unw_some {α : Type} (a : α) : unw (some a) = .ok a := rfl
class NN (α : Type) [Enc α] : Prop where
  nn : ∀ {K : Frag} {H : Hp} {v : V} {a : α}, Enc.rep K H v a → v ≠ .non
instance : NN Int := ⟨fun h e => by rw [e] at h; cases h⟩
instance : NN Bool := ⟨fun h e => by rw [e] at h; cases h⟩
instance : NN Str := ⟨fun h e => by rw [e] at h; cases h⟩
instance {α : Type} [Enc α] : NN (List α) := ⟨fun ⟨_, _, e1, _⟩ e => by rw [e] at e1; cases e1⟩
instance {α : Type} [Enc α] : NN (Tup α) := ⟨fun ⟨_, _, e1, _⟩ e => by rw [e] at e1; cases e1⟩
instance {α β : Type} [Enc α] [Enc β] : NN (α × β) := ⟨fun ⟨_, _, _, e1, _⟩ e => by rw [e] at e1; cases e1⟩
instance {α β γ : Type} [Enc α] [Enc β] [Enc γ] : NN (T3 α β γ) := ⟨fun ⟨_, _, _, _, e1, _⟩ e => by rw [e] at e1; cases e1⟩
def idx {α : Type} (xs : List α) (i : Int) : Res α := match atI xs i with
  | some a => .ok a
  | none => .stuck
theorem idx_nat {α : Type} {xs : List α} {i : Nat} {a : α} (h : xs[i]? = some a) : idx xs (i : Int) = .ok a := by unfold idx; rw [atI_nat h]
theorem atI_all2 {α β : Type} {P : α → β → Prop} {xs : List α} {ys : List β} {i : Int} {b : β} (h : All2 P xs ys) (e : atI ys i = some b) : ∃ a, atI xs i = some a ∧ P a b := by
  unfold atI at e ⊢
  rw [h.length]
  cases q : ixN ys.length i with
  | none => rw [q] at e; cases e
  | some j =>
    rw [q] at e
    exact h.get e
theorem noX_idx {α : Type} {xs : List α} {i : Int} : NoX (idx xs i) := fun _ h => by
  unfold idx at h
  cases e : atI xs i with
  | none => rw [e] at h; cases h
  | some a => rw [e] at h; cases h
theorem okR_idx {α : Type} {xs : List α} {i : Int} {P : α → Prop} (h : okR (idx xs i) P) : ∃ a, atI xs i = some a ∧ P a := by
  unfold idx at h
  cases e : atI xs i with
  | none => rw [e] at h; exact h.elim
  | some a => rw [e] at h; exact ⟨a, rfl, h⟩
theorem o2_ixL {α : Type} [Enc α] : Op2 X (rIxL X.K) (fun (xs : List α) (i : Int) => idx xs i) := fun xs i v w H Q ⟨p, vs, e1, hp, r⟩ e2 q => by
  obtain ⟨a, ea, q⟩ := okR_idx q
  obtain ⟨u, hu, ru⟩ := atI_all2 r ea
  exact ⟨p, vs, i, u, e1, e2, SqL.of hp, hu, q u H (Same.refl H) ru⟩
theorem o2_ixT {α : Type} [Enc α] : Op2 X (rIxT X.K) (fun (xs : Tup α) (i : Int) => idx xs.l i) := fun xs i v w H Q ⟨p, vs, e1, hp, r⟩ e2 q => by
  obtain ⟨a, ea, q⟩ := okR_idx q
  obtain ⟨u, hu, ru⟩ := atI_all2 r ea
  exact ⟨p, vs, i, u, e1, e2, hp, hu, q u H (Same.refl H) ru⟩
theorem o2_ixS : Op2 X (rIxL X.K) (fun (xs : Scr) (i : Int) => idx xs.ns i) := fun xs i v w H Q ⟨p, e1, hp⟩ e2 q => by
  obtain ⟨a, ea, q⟩ := okR_idx q
  have r : All2 (fun v a => v = V.int a) (xs.ns.map V.int) xs.ns := All2.of_map
  obtain ⟨u, hu, ru⟩ := atI_all2 r ea
  exact ⟨p, _, i, u, e1, e2, hp, hu, q u H (Same.refl H) ru⟩
def strIx (x : Str) (i : Int) : Res Str := guardR (decide (x.length ≤ 1000000)) (match atI x.cps.toList i with
  | some c => .ok ⟨#[c]⟩
  | none => .stuck)
theorem o2_ixStr : Op2 X rIxS strIx := fun x i v w H Q e1 e2 q => by
  unfold strIx at q
  by_cases hl : x.length ≤ 1000000
  · rw [decide_eq_true hl, guardR_true] at q
    cases e : atI x.cps.toList i with
    | none => rw [e] at q; exact q.elim
    | some c => rw [e] at q; exact ⟨x, i, c, e1, e2, Nat.le_trans hl (by decide), e, q _ H (Same.refl H) rfl⟩
  · rw [decide_eq_false hl] at q; exact q.elim
theorem noX_strIx {x : Str} {i : Int} : NoX (strIx x i) := fun _ h => by
  unfold strIx guardR at h
  split at h
  · split at h <;> cases h
  · cases h
theorem x_ix {α β γ : Type} [Enc α] [Enc β] [Enc γ] {r : R2} {g : α → β → Res γ} {m1 : Res α} {m2 : Res β} (hr : IxR X r) (ho : Op2 X r g) (hg : ∀ a b, NoX (g a b)) (h1 : XI X W ss a m1) (h2 : XI X W ss b m2) (hs : PlainIx b := by exact fun _ _ => rfl) :
    XI X W ss (.Subscript a b pos) (m1.bind fun a => m2.bind fun b => g a b) := PE_imp (pe_ix hr h1 h2 hs) fun _ _ _ h => r_op2 ho hg h
theorem xi_ixL {α : Type} [Enc α] {m1 : Res (List α)} {m2 : Res Int} (h1 : XI X W ss a m1) (h2 : XI X W ss b m2) (hs : PlainIx b := by exact fun _ _ => rfl) : XI X W ss (.Subscript a b pos) (m1.bind fun xs => m2.bind fun i => idx xs i) := x_ix ix_list o2_ixL (fun _ _ => noX_idx) h1 h2 hs
theorem xi_ixS {m1 : Res Scr} {m2 : Res Int} (h1 : XI X W ss a m1) (h2 : XI X W ss b m2) (hs : PlainIx b := by exact fun _ _ => rfl) : XI X W ss (.Subscript a b pos) (m1.bind fun xs => m2.bind fun i => idx xs.ns i) := x_ix ix_list o2_ixS (fun _ _ => noX_idx) h1 h2 hs
theorem xi_ixStr {m1 : Res Str} {m2 : Res Int} (h1 : XI X W ss a m1) (h2 : XI X W ss b m2) (hs : PlainIx b := by exact fun _ _ => rfl) : XI X W ss (.Subscript a b pos) (m1.bind fun xs => m2.bind fun i => strIx xs i) := x_ix ix_str o2_ixStr (fun _ _ => noX_strIx) h1 h2 hs
theorem xi_c {α β : Type} [Enc α] [Enc β] {m : Res α} {i : Int} {k : Nat} {p : Pos} {f : α → β} (h : XI X W ss a m) (hf : ∀ (x : α) (v : V) (H : Hp), Enc.rep X.K H v x → ∃ p vs u, v = .ref p ∧ SqT X.K H p vs ∧ atI vs i = some u ∧ Enc.rep X.K H u (f x))
    (hs : PlainIx (.Constant (.int i) k p) := by exact fun _ _ => rfl) : XI X W ss (.Subscript a (.Constant (.int i) k p) pos) (m.bind fun x => .ok (f x)) :=
  PE_imp (pe_ix ix_tup h pe_int hs) fun σ H Q ⟨sl, q⟩ => ⟨sl, wpR_imp (wpR_bind q) (Same.refl H) fun x q v H1 s1 r1 => by
    obtain ⟨p, vs, u, e, hp, hu, ru⟩ := hf x v H1 r1
    exact ⟨p, vs, i, u, e, rfl, hp, hu, q u H1 s1 ru⟩⟩
theorem xi_p1 {α β : Type} [Enc α] [Enc β] {m : Res (α × β)} {k : Nat} {p : Pos} (h : XI X W ss a m) : XI X W ss (.Subscript a (.Constant (.int 0) k p) pos) (m.bind fun x => .ok x.1) :=
  xi_c h fun x v H ⟨p, v1, v2, e, hp, r1, r2⟩ => ⟨p, _, v1, e, SqT.of hp, rfl, r1⟩
theorem xi_p2 {α β : Type} [Enc α] [Enc β] {m : Res (α × β)} {k : Nat} {p : Pos} (h : XI X W ss a m) : XI X W ss (.Subscript a (.Constant (.int 1) k p) pos) (m.bind fun x => .ok x.2) :=
  xi_c h fun x v H ⟨p, v1, v2, e, hp, r1, r2⟩ => ⟨p, _, v2, e, SqT.of hp, rfl, r2⟩
end
end G

namespace G
open PySem PySem.Spec PyProof.Rows L2
section
variable {α : Type} (le : α → α → Bool)
def ins (a : α) : List α → List α
  | [] => [a]
  | b :: bs => if le a b then a :: b :: bs else b :: ins a bs
def srt : List α → List α
  | [] => []
  | a :: as => ins le a (srt as)
theorem ins_perm (a : α) : ∀ l : List α, (ins le a l).Perm (a :: l)
  | [] => .refl _
  | b :: bs => by
    unfold ins
    split
    · exact .refl _
    · exact ((ins_perm a bs).cons b).trans (.swap a b bs)
theorem srt_perm : ∀ l : List α, (srt le l).Perm l
  | [] => .refl _
  | a :: as => (ins_perm le a _).trans ((srt_perm as).cons a)
variable {le}
theorem ins_pw (tot : ∀ a b, le a b = true ∨ le b a = true) (tr : ∀ a b c, le a b = true → le b c = true → le a c = true) (a : α) : ∀ l : List α, l.Pairwise (fun x y => le x y = true) → (ins le a l).Pairwise (fun x y => le x y = true)
  | [], _ => List.pairwise_singleton _ _
  | b :: bs, h => by
    obtain ⟨h1, h2⟩ := List.pairwise_cons.mp h
    unfold ins
    split
    · rename_i e
      refine List.pairwise_cons.mpr ⟨fun x m => ?_, h⟩
      rcases List.mem_cons.mp m with q | q
      · rw [q]; exact e
      · exact tr _ _ _ e (h1 x q)
    · rename_i e
      refine List.pairwise_cons.mpr ⟨fun x m => ?_, ins_pw tot tr a bs h2⟩
      rcases List.mem_cons.mp ((ins_perm le a bs).mem_iff.mp m) with q | q
      · rw [q]
        rcases tot a b with z | z
        · exact absurd z e
        · exact z
      · exact h1 x q
theorem srt_pw (tot : ∀ a b, le a b = true ∨ le b a = true) (tr : ∀ a b c, le a b = true → le b c = true → le a c = true) : ∀ l : List α, (srt le l).Pairwise (fun x y => le x y = true)
  | [] => List.Pairwise.nil
  | a :: as => ins_pw tot tr a _ (srt_pw tot tr as)
theorem perm_sorted (anti : ∀ a b, le a b = true → le b a = true → a = b) : ∀ {l m : List α}, l.Perm m → l.Pairwise (fun x y => le x y = true) → m.Pairwise (fun x y => le x y = true) → l = m
  | [], m, p, _, _ => by rw [List.nil_perm.mp p]
  | a :: l, [], p, _, _ => absurd p (by simp)
  | a :: l, b :: m, p, h1, h2 => by
    obtain ⟨a1, a2⟩ := List.pairwise_cons.mp h1
    obtain ⟨b1, b2⟩ := List.pairwise_cons.mp h2
    have e : a = b := by
      have m1 : a ∈ b :: m := p.mem_iff.mp List.mem_cons_self
      have m2 : b ∈ a :: l := p.mem_iff.mpr List.mem_cons_self
      rcases List.mem_cons.mp m1 with z | z
      · exact z
      · rcases List.mem_cons.mp m2 with y | y
        · exact y.symm
        · exact anti a b (a1 b y) (b1 a z)
    subst e
    rw [perm_sorted anti (List.perm_cons a |>.mp p) a2 b2]
end
def leI (a b : Int) : Bool := decide (a ≤ b)
def leP (a b : Int × Int) : Bool := decide (a.1 < b.1) || (decide (a.1 = b.1) && decide (a.2 ≤ b.2))
theorem leI_iff {a b : Int} : leI a b = true ↔ a ≤ b := by unfold leI; exact decide_eq_true_iff
theorem leP_iff {a b : Int × Int} : leP a b = true ↔ a.1 < b.1 ∨ a.1 = b.1 ∧ a.2 ≤ b.2 := by unfold leP; simp
abbrev sortI : List Int → List Int := srt leI
abbrev sortP : List (Int × Int) → List (Int × Int) := srt leP
theorem sortI_perm (l : List Int) : (sortI l).Perm l := srt_perm _ l
theorem sortI_pw (l : List Int) : (sortI l).Pairwise (· ≤ ·) := (srt_pw (le := leI) (fun a b => by simp only [leI_iff]; omega) (fun a b c => by simp only [leI_iff]; omega) l).imp fun h => leI_iff.mp h
theorem sortI_uniq {l m : List Int} (p : l.Perm m) (h : l.Pairwise (· ≤ ·)) : l = sortI m :=
  perm_sorted (le := leI) (fun a b => by simp only [leI_iff]; omega) (p.trans (sortI_perm m).symm) (h.imp fun h => leI_iff.mpr h) ((sortI_pw m).imp fun h => leI_iff.mpr h)
theorem sortP_perm (l : List (Int × Int)) : (sortP l).Perm l := srt_perm _ l
theorem sortP_pw (l : List (Int × Int)) : (sortP l).Pairwise (fun a b => leP a b = true) := srt_pw (le := leP) (fun a b => by simp only [leP_iff]; omega) (fun a b c => by simp only [leP_iff]; omega) l
section
variable {X : Cx} {W : WX} {ss : List Slot} {pos : Pos} {a b e : Expr} {es : List Expr}
theorem new_owI {α : Type} [Enc α] [Imm α] {F H H1 : Hp} {p : Addr} {vs : List V} {as : List α} {K : Frag} {Q : VK} (sf : Same F H) (s1 : Same H H1) (hp : H1 p = none) (r : All2 (fun v a => Enc.rep K H1 v a) vs as)
    (q : ∀ v H' F' G', Same H H' → Ext F H F' H' → Priv G' H F' H' → (ow as).P K F' G' (some v) → Q v H') : Q (.ref p) (upd H1 p (.lst vs)) :=
  new_ow s1 (ext_imm sf s1) hp (All2.imp (fun _ _ z => Enc.mono (join_r (sf.trans s1) (tups_le H1)) (Imm.imm z)) r) q
def big (n : Nat) : Bool := decide (n ≤ 1000000)
theorem big_line {n : Nat} (h : big n = true) : n ≤ sizeLine := Nat.le_trans (of_decide_eq_true h) (by decide)
def catR {α : Type} (xs ys : List α) : Res (List α) := guardR (big (xs.length + ys.length)) (.ok (xs ++ ys))
theorem xk_cat {α : Type} [Enc α] [Imm α] {m m' : Res (List α)} (h : XI X W ss a m) (h' : XI X W ss b m') : XK X W ss (.BinOp a .Add b pos) (m.bind fun xs => m'.bind fun ys => catR xs ys) ow :=
  PE_imp (pe_op op_cat h h') fun σ H Q ⟨F, sf, sl, q⟩ => ⟨sl.mono sf (Same.refl H), wpR_imp (wpR_bind q) (Same.refl H) fun xs q v H1 s1 r1 => ⟨(sl.mono sf (Same.refl H)).mono s1 s1, wpR_imp (wpR_bind q) s1 fun ys q w H2 s2 r2 => by
    obtain ⟨g, q⟩ := wpR_guard q
    obtain ⟨p, vs, rfl, hp, rv⟩ := r1
    obtain ⟨p', ws, rfl, hp', rw'⟩ := r2
    exact ⟨p, p', vs, ws, rfl, rfl, s2 _ _ hp, hp', by rw [rv.length, rw'.length]; exact big_line g, fun o ho => new_owI sf (s1.trans s2) ho (All2.append (rv.mono s2) rw') q⟩⟩⟩
def repR {α : Type} (xs : List α) (k : Int) : Res (List α) := guardR (small62 k && big (xs.length * k.toNat)) (.ok (List.replicate k.toNat xs).flatten)
theorem all2_rep {α β : Type} {P : α → β → Prop} {xs : List α} {ys : List β} (h : All2 P xs ys) : ∀ n : Nat, All2 P (List.replicate n xs).flatten (List.replicate n ys).flatten
  | 0 => trivial
  | n + 1 => by
    rw [List.replicate_succ, List.replicate_succ, List.flatten_cons, List.flatten_cons]
    exact All2.append h (all2_rep h n)
theorem xk_rep {α : Type} [Enc α] [Imm α] {m : Res (List α)} {m' : Res Int} (h : XI X W ss a m) (h' : XI X W ss b m') : XK X W ss (.BinOp a .Mult b pos) (m.bind fun xs => m'.bind fun k => repR xs k) ow :=
  PE_imp (pe_op op_rep h h') fun σ H Q ⟨F, sf, sl, q⟩ => ⟨sl.mono sf (Same.refl H), wpR_imp (wpR_bind q) (Same.refl H) fun xs q v H1 s1 r1 => ⟨(sl.mono sf (Same.refl H)).mono s1 s1, wpR_imp (wpR_bind q) s1 fun k q w H2 s2 r2 => by
    obtain ⟨g, q⟩ := wpR_guard q
    rw [Bool.and_eq_true] at g
    obtain ⟨g1, g2⟩ := small62_of g.1
    obtain ⟨p, vs, rfl, hp, rv⟩ := r1
    exact ⟨p, k, vs, rfl, r2, s2 _ _ hp, by omega, by omega, by rw [rv.length]; exact big_line g.2, fun o ho => new_owI sf (s1.trans s2) ho (all2_rep (rv.mono s2) _) q⟩⟩⟩
def XO (X : Cx) (W : WX) (ss : List Slot) (e : Option Expr) (m : Res (Option Int)) : Prop := PO X e fun σ H Q => Sl X.K H H ss σ ∧ wpR X W m σ H fun o => ∀ H', Same H H' → Q o H'
theorem xo_none : XO X W ss none (.ok none) := ⟨fun pins s σ H Q I ⟨_, q⟩ => po_none.run pins s σ H Q I (q H (Same.refl H))⟩
theorem xo_some {m : Res Int} (h : XI X W ss e m) : XO X W ss (some e) (m.bind fun i => .ok (some i)) :=
  ⟨fun pins s σ H Q I ⟨sl, q⟩ => (po_some h).run pins s σ H Q I ⟨sl, wpR_imp (wpR_bind q) (Same.refl H) fun i q v H1 s1 r1 => ⟨i, r1, q H1 s1⟩⟩⟩
def cut {α : Type} (xs : List α) (lo hi : Option Int) : List α := (xs.drop (HT.sIx xs.length 0 lo)).take (HT.sIx xs.length xs.length hi - HT.sIx xs.length 0 lo)
theorem cut_all2 {α : Type} {P : V → α → Prop} {vs : List V} {xs : List α} (h : All2 P vs xs) (lo hi : Option Int) : All2 P (cutV vs lo hi) (cut xs lo hi) := by
  unfold cutV cut
  rw [h.length]
  exact (h.drop _).take _
theorem xk_slice {α : Type} [Enc α] [Imm α] {lo hi : Option Expr} {p2 : Pos} {m : Res (List α)} {ml mh : Res (Option Int)} (h : XI X W ss a m) (hl : XO X W ss lo ml) (hh : XO X W ss hi mh) :
    XK X W ss (.Subscript a (.Slice lo hi none p2) pos) (m.bind fun xs => ml.bind fun l => mh.bind fun u => .ok (cut xs l u)) ow :=
  PE_imp (pe_slice sl_list h hl hh) fun σ H Q ⟨F, sf, sl, q⟩ => ⟨sl.mono sf (Same.refl H), wpR_imp (wpR_bind q) (Same.refl H) fun xs q v H1 s1 r1 => ⟨(sl.mono sf (Same.refl H)).mono s1 s1, wpR_imp (wpR_bind q) s1 fun l q H2 s2 =>
    ⟨(sl.mono sf (Same.refl H)).mono (s1.trans s2) (s1.trans s2), wpR_imp (wpR_bind q) (s1.trans s2) fun u q H3 s3 => by
    obtain ⟨p, vs, rfl, hp, rv⟩ := r1
    exact ⟨p, vs, rfl, SqL.of (s3 _ _ (s2 _ _ hp)), fun o ho => new_owI sf (s1.trans (s2.trans s3)) ho (cut_all2 (rv.mono (s2.trans s3)) l u) q⟩⟩⟩⟩
theorem xk_sliceS {lo hi : Option Expr} {p2 : Pos} {m : Res Scr} {ml mh : Res (Option Int)} (h : XI X W ss a m) (hl : XO X W ss lo ml) (hh : XO X W ss hi mh) :
    XK X W ss (.Subscript a (.Slice lo hi none p2) pos) (m.bind fun xs => ml.bind fun l => mh.bind fun u => .ok (cut xs.ns l u)) ow :=
  PE_imp (pe_slice sl_list h hl hh) fun σ H Q ⟨F, sf, sl, q⟩ => ⟨sl.mono sf (Same.refl H), wpR_imp (wpR_bind q) (Same.refl H) fun xs q v H1 s1 r1 => ⟨(sl.mono sf (Same.refl H)).mono s1 s1, wpR_imp (wpR_bind q) s1 fun l q H2 s2 =>
    ⟨(sl.mono sf (Same.refl H)).mono (s1.trans s2) (s1.trans s2), wpR_imp (wpR_bind q) (s1.trans s2) fun u q H3 s3 => by
    obtain ⟨p, rfl, hp⟩ := r1
    exact ⟨p, _, rfl, (s2.trans s3).seq hp, fun o ho => new_owI sf (s1.trans (s2.trans s3)) ho (cut_all2 All2.of_map l u) q⟩⟩⟩⟩
def cutStr (z : Str) (lo hi : Option Int) : Res Str := guardR (big z.length) (.ok (cutS z lo hi))
theorem xi_sliceStr {lo hi : Option Expr} {p2 : Pos} {m : Res Str} {ml mh : Res (Option Int)} (h : XI X W ss a m) (hl : XO X W ss lo ml) (hh : XO X W ss hi mh) :
    XI X W ss (.Subscript a (.Slice lo hi none p2) pos) (m.bind fun x => ml.bind fun l => mh.bind fun u => cutStr x l u) :=
  PE_imp (pe_slice sl_str h hl hh) fun σ H Q ⟨sl, q⟩ => ⟨sl, wpR_imp (wpR_bind q) (Same.refl H) fun xs q v H1 s1 r1 => ⟨sl.mono s1 s1, wpR_imp (wpR_bind q) s1 fun l q H2 s2 =>
    ⟨sl.mono (s1.trans s2) (s1.trans s2), wpR_imp (wpR_bind q) (s1.trans s2) fun u q H3 s3 => by
    obtain ⟨g, q⟩ := wpR_guard q
    exact ⟨xs, r1, big_line g, q _ H3 (s1.trans (s2.trans s3)) rfl⟩⟩⟩⟩
structure Bc (X : Cx) (r : List V → Hp → VK → Prop) {A R : Type} [EncA A] [Enc R] (g : A → Res R) : Prop where
  op : ∀ (x : A) (vs : List V) (H : Hp) (Q : VK), EncA.rep X.K H vs x → okR (g x) (fun c => ∀ v' H', Same H H' → Enc.rep X.K H' v' c → Q v' H') → r vs H Q
  nx : ∀ x, NoX (g x)
theorem r_bc {A R : Type} [EncA A] [Enc R] {r : List V → Hp → VK → Prop} {g : A → Res R} {m : Res A} (bc : Bc X r g) {σ : L2.St} {H : Hp} {Q : VK} (h : rI X W ss (m.bind g) σ H Q) : tCB r (rA X W ss m) σ H Q := by
  obtain ⟨sl, q⟩ := h
  refine ⟨sl, wpR_imp (wpR_bind q) (Same.refl H) fun x q vs H1 s1 r1 => bc.op x vs H1 Q r1 ?_⟩
  unfold okR
  cases e : g x with
  | ok c => rw [e] at q; exact fun v' H' s3 r3 => q v' H' (s1.trans s3) r3
  | exc y => exact bc.nx x y e
  | stuck => rw [e] at q; exact q
theorem xi_bf {A R : Type} [EncA A] [Enc R] {x : Str} {id : String} {p : Pos} {r : List V → Hp → VK → Prop} {g : A → Res R} {m : Res A} (hc : CallR X (.builtin id) r) (bc : Bc X r g) (hm : X.mg x = none) (hv : bootBuiltins x = some (.builtin id)) (ha : XA X W ss (e :: es) m)
    (hg : Gl X x := by rfl) (hn : x ≠ "__name__" := by decide) (hdb : (x == ("__debug__" : Str)) = false := by decide)
    (he : starEach (e :: es) X.env = (false, eval e X.env) :: starEach es X.env := by rfl) (hpl : (backTo pos (starEach es X.env)).any (·.1) = false := by rfl) : XI X W ss (.Call (.Name x p) (e :: es) [] pos) (m.bind g) :=
  PE_imp (pe_callB hc hg hm hv ha hn hdb he hpl) fun _ _ _ h => r_bc bc h
theorem xi_bt {A R : Type} [EncA A] [Enc R] {x : Str} {T : String} {p : Pos} {r : List V → Hp → VK → Prop} {g : A → Res R} {m : Res A} (hc : CallR X (.type T) r) (bc : Bc X r g) (hm : X.mg x = none) (hv : bootBuiltins x = some (.type T)) (ha : XA X W ss (e :: es) m)
    (hg : Gl X x := by rfl) (hn : x ≠ "__name__" := by decide) (hdb : (x == ("__debug__" : Str)) = false := by decide)
    (he : starEach (e :: es) X.env = (false, eval e X.env) :: starEach es X.env := by rfl) (hpl : (backTo pos (starEach es X.env)).any (·.1) = false := by rfl) : XI X W ss (.Call (.Name x p) (e :: es) [] pos) (m.bind g) :=
  PE_imp (pe_callTy hc hg hm hv ha hn hdb he hpl) fun _ _ _ h => r_bc bc h
theorem c_lenL {α : Type} [Enc α] : Bc X (fun xs H Q => ∃ x n, xs = [x] ∧ LenV X.K x H n ∧ Q (.int n) H) (fun x : List α × Unit => Res.ok (x.1.length : Int)) :=
  ⟨fun x vs H Q ⟨v, r, e1, ⟨p, ws, e2, hp, rv⟩, e3⟩ q => by
    have e3 : r = [] := e3
    subst e1; subst e2; subst e3
    exact ⟨_, ws.length, rfl, .inl ⟨ws, SqL.of hp, rfl⟩, q _ H (Same.refl H) (by rw [rv.length]; rfl)⟩, fun _ => noX_ok⟩
theorem c_lenScr : Bc X (fun xs H Q => ∃ x n, xs = [x] ∧ LenV X.K x H n ∧ Q (.int n) H) (fun x : Scr × Unit => Res.ok (x.1.ns.length : Int)) :=
  ⟨fun x vs H Q ⟨v, r, e1, ⟨p, e2, hp⟩, e3⟩ q => by
    have e3 : r = [] := e3
    subst e1; subst e2; subst e3
    exact ⟨_, _, rfl, .inl ⟨_, hp, rfl⟩, q _ H (Same.refl H) (by rw [List.length_map]; rfl)⟩, fun _ => noX_ok⟩
def strLen (x : Str) : Res Int := guardR (big x.length) (.ok (x.length : Int))
theorem c_lenStr : Bc X (fun xs H Q => ∃ x n, xs = [x] ∧ LenV X.K x H n ∧ Q (.int n) H) (fun x : Str × Unit => strLen x.1) :=
  ⟨fun x vs H Q ⟨v, r, e1, e2, e3⟩ q => by
    have e2 : v = .str x.1 := e2
    have e3 : r = [] := e3
    subst e1; subst e2; subst e3
    unfold strLen at q
    cases g : big x.1.length with
    | false => rw [g] at q; exact q.elim
    | true => rw [g] at q; exact ⟨_, x.1.length, rfl, ⟨big_line g, rfl⟩, q _ H (Same.refl H) rfl⟩, fun _ => noX_guard⟩
theorem c_max : Bc X (fun xs H Q => ∃ i j, xs = [.int i, .int j] ∧ Q (.int (if j > i then j else i)) H) (fun x : Int × Int × Unit => Res.ok (max x.1 x.2.1)) :=
  ⟨fun x vs H Q ⟨v, r, e1, e2, v', r', e3, e4, e5⟩ q => by
    have e2 : v = .int x.1 := e2
    have e4 : v' = .int x.2.1 := e4
    have e5 : r' = [] := e5
    subst e1; subst e2; subst e3; subst e4; subst e5
    refine ⟨_, _, rfl, q _ H (Same.refl H) ?_⟩
    show V.int _ = V.int _
    rw [Int.max_def]
    congr 1
    split <;> split <;> omega, fun _ => noX_ok⟩
def strI (i : Int) : Res Str := guardR (decide (i.natAbs < 10 ^ 70)) (.ok (toString i))
theorem c_str : Bc X (fun xs H Q => ∃ i, xs = [.int i] ∧ i.natAbs.log2 < 1920 ∧ Q (.str (toString i)) H) (fun x : Int × Unit => strI x.1) :=
  ⟨fun x vs H Q ⟨v, r, e1, e2, e3⟩ q => by
    have e2 : v = .int x.1 := e2
    have e3 : r = [] := e3
    subst e1; subst e2; subst e3
    unfold strI at q
    cases g : decide (x.1.natAbs < 10 ^ 70) with
    | false => rw [g] at q; exact q.elim
    | true =>
      rw [g] at q
      have g := of_decide_eq_true g
      exact ⟨_, rfl, Nat.lt_of_lt_of_le (PySem.Flt.log2_lt_of (n := x.1.natAbs) (k := 250) (by decide) (Nat.lt_of_lt_of_le g (by decide))) (by decide), q _ H (Same.refl H) rfl⟩, fun _ => noX_guard⟩
theorem c_intB : Bc X (fun xs H Q => (∃ i, xs = [.int i] ∧ Q (.int i) H) ∨ ∃ k, xs = [.bl k] ∧ Q (.int (if k then 1 else 0)) H) (fun x : Bool × Unit => Res.ok (if x.1 then (1 : Int) else 0)) :=
  ⟨fun x vs H Q ⟨v, r, e1, e2, e3⟩ q => by
    have e2 : v = .bl x.1 := e2
    have e3 : r = [] := e3
    subst e1; subst e2; subst e3
    exact .inr ⟨x.1, rfl, q _ H (Same.refl H) rfl⟩, fun _ => noX_ok⟩
theorem xk_sortedI {m : Res (List Int × Unit)} {p : Pos} (ha : XA X W ss [a] m) (hm : X.mg "sorted" = none) (hg : Gl X "sorted" := by rfl) (he : starEach [a] X.env = (false, eval a X.env) :: starEach [] X.env := by rfl) :
    XK X W ss (.Call (.Name "sorted" p) [a] [] pos) (m.bind fun x => .ok (sortI x.1)) ow :=
  PE_imp (pe_callB cr_sortedI hg hm (by decide +kernel) ha (by decide) (by decide) he rfl) fun σ H Q ⟨F, sf, sl, q⟩ => ⟨sl.mono sf (Same.refl H), wpR_imp (wpR_bind q) (Same.refl H) fun x q vs H1 s1 ⟨v, r, e1, ⟨p, ws, e2, hp, rv⟩, e3⟩ => by
    have e3 : r = [] := e3
    subst e1; subst e2; subst e3
    have ew : ws = x.1.map V.int := All2.map_eq rv
    refine ⟨p, x.1, rfl, by rw [← ew]; exact SqL.of hp, fun ns' o h1 h2 ho => ?_⟩
    rw [sortI_uniq h1 h2]
    exact new_owI sf s1 ho All2.of_map q⟩
def pairAt (H : Hp) (v : V) : Int × Int := match v with
  | .ref t => (match H t with
    | some (.tup [.int i, .int j]) => (i, j)
    | _ => (0, 0))
  | _ => (0, 0)
theorem xk_list {α : Type} [Enc α] [Imm α] {m : Res (List α × Unit)} {p : Pos} (ha : XA X W ss [a] m) (hm : X.mg "list" = none) (hg : Gl X "list" := by rfl) (he : starEach [a] X.env = (false, eval a X.env) :: starEach [] X.env := by rfl) :
    XK X W ss (.Call (.Name "list" p) [a] [] pos) (m.bind fun x => .ok x.1) ow :=
  PE_imp (pe_callTy call_list_of hg hm (by decide +kernel) ha (by decide) (by decide) he rfl) fun σ H Q ⟨F, sf, sl, q⟩ => ⟨sl.mono sf (Same.refl H), wpR_imp (wpR_bind q) (Same.refl H) fun x q vs H1 s1 ⟨v, r, e1, ⟨p, ws, e2, hp, rv⟩, e3⟩ => by
    have e3 : r = [] := e3
    subst e1; subst e2; subst e3
    exact ⟨p, ws, rfl, .inl (SqL.of hp), fun o ho => new_owI sf s1 ho rv q⟩⟩
theorem c_tuple {α : Type} [Enc α] : Bc X (fun xs H Q => ∃ p ys, xs = [.ref p] ∧ ((SqL X.K H p ys ∧ ∀ l, H l = none → Q (.ref l) (upd H l (.tup ys))) ∨ (SqT X.K H p ys ∧ Q (.ref p) H))) (fun x : List α × Unit => Res.ok (⟨x.1⟩ : Tup α)) :=
  ⟨fun x vs H Q ⟨v, r, e1, ⟨p, ws, e2, hp, rv⟩, e3⟩ q => by
    have e3 : r = [] := e3
    subst e1; subst e2; subst e3
    exact ⟨p, ws, rfl, .inl ⟨SqL.of hp, fun o ho => q _ _ (same_upd ho) ⟨o, ws, rfl, SqT.of upd_same, rv.mono (same_upd ho)⟩⟩⟩, fun _ => noX_ok⟩
def catS (x y : Str) : Res Str := guardR (big (x.length + y.length)) (.ok (x ++ y))
theorem b_catS : Bi X (fun x y H Q => ∃ i j, x = .str i ∧ y = .str j ∧ i.length + j.length ≤ sizeLine ∧ Q (.str (i ++ j)) H) catS := ⟨fun a b v w H Q r1 r2 q => by
  unfold catS at q
  cases g : big (a.length + b.length) with
  | false => rw [g] at q; exact q.elim
  | true => rw [g] at q; exact ⟨a, b, r1, r2, big_line g, q _ H (Same.refl H) rfl⟩, fun _ _ => noX_guard⟩
def joinR (x : Str) (ys : List Str) : Res Str := guardR (big ((ys.map (·.length)).sum + ys.length * x.length)) (.ok (Txt.join x ys))
theorem xi_join {m : Res Str} {m' : Res (List Str)} {apos : Pos} (h : XI X W ss a m) (h' : XI X W ss b m') (hs : starEach [b] X.env = [(false, eval b X.env)] := by rfl) (hbase : attributeBase a "join" X.env (eval a X.env) = eval a X.env := by rfl) (hline : (apos.endLine == pos.line) = true := by rfl) :
    XI X W ss (.Call (.Attribute a "join" apos) [b] [] pos) (m.bind fun x => m'.bind fun ys => joinR x ys) :=
  PE_imp (pe_join h h' hs hbase hline) fun σ H Q ⟨sl, q⟩ => ⟨sl, wpR_imp (wpR_bind q) (Same.refl H) fun x q v H1 s1 r1 => ⟨⟨x, r1⟩, sl.mono s1 s1, wpR_imp (wpR_bind q) s1 fun ys q w H2 s2 ⟨p, ws, e2, hp, rv⟩ => by
    obtain ⟨g, q⟩ := wpR_guard q
    have ew : ws = ys.map V.str := All2.map_eq rv
    exact ⟨x, p, ys, r1, by rw [e2], .inl (by rw [← ew]; exact SqL.of hp), Nat.le_trans (of_decide_eq_true g) (by decide), q _ H2 (s1.trans s2) rfl⟩⟩⟩
theorem all3_ow {K : Frag} {F : Hp} {α : Type} [Enc α] {as : List α} {ss : List Slot} {Gs : List Hp} {σ : L2.St} {i : Nat} (h : All3 K F ss Gs σ) (hs : ss[i]? = some (ow as)) :
    ∃ G p vs, Gs[i]? = some G ∧ σ[i]? = some (some (.ref p)) ∧ G p = some (.lst vs) ∧ All2 (fun v a => Enc.rep K F v a) vs as := by
  obtain ⟨G, o, h1, h2, p, vs, e, g, r⟩ := h.get hs
  subst e
  exact ⟨G, p, vs, h1, h2, g, r⟩
theorem set_self {α : Type} : ∀ {l : List α} {i : Nat} {a : α}, l[i]? = some a → l.set i a = l
  | [], _, _, h => by simp at h
  | b :: l, 0, a, h => by have e : b = a := Option.some.inj h; rw [e]; rfl
  | b :: l, i + 1, a, h => by rw [List.set_cons_succ, set_self (l := l) (i := i) h]
theorem Asn.put {α : Type} [Enc α] {K : Frag} {B F0 H F : Hp} {ss : List Slot} {σ : L2.St} {Gs : List Hp} (A : Asn K B F0 ss σ H F Gs) {i : Nat} {G : Hp} {p : Addr} {vs vs' : List V} {as' : List α} (hG : Gs[i]? = some G) (hσ : σ[i]? = some (some (.ref p))) (hp : G p = some (.lst vs))
    (r : All2 (fun v a => Enc.rep K F v a) vs' as') : Asn K B F0 (ss.set i (ow as')) σ (upd H p (.lst vs')) F (Gs.set i (upd noHp p (.lst vs'))) := by
  have hm : G ∈ Gs := List.mem_of_getElem? hG
  obtain ⟨h1, h2, h3, h4⟩ := A.priv G hm _ _ hp
  have sF : Same F (upd H p (.lst vs')) := fun c u z => by
    rw [upd_ne (fun e => by rw [e, h3] at z; cases z)]
    exact A.ext.sub _ _ z
  refine ⟨⟨A.ext.le, sF, A.ext.new⟩, fun c u z => ?_, ?_, fun G' m c u z => ?_, ?_⟩
  · rw [upd_ne (fun e => by rw [e, h2] at z; cases z)]
    exact A.base _ _ z
  · have e := set_self hσ
    rw [← e]
    exact A.all.set (s := ow as') ⟨p, vs', rfl, upd_same, r⟩ i
  · -- where another own heap stands
    by_cases hi : G' = upd noHp p (.lst vs')
    · subst hi
      by_cases e : c = p
      · subst e
        rw [upd_same] at z; cases z
        exact ⟨upd_same, h2, h3, rfl⟩
      · rw [upd_ne e] at z; cases z
    · obtain ⟨j, hj⟩ := List.getElem?_of_mem m
      have hji : j ≠ i := fun e => by
        subst e
        have hlt : j < Gs.length := (List.getElem?_eq_some_iff.mp hG).1
        rw [List.getElem?_set_self hlt] at hj
        exact hi (Option.some.inj hj).symm
      rw [List.getElem?_set_ne (Ne.symm hji)] at hj
      have hd : Dj G' G := by
        have pw := A.dj
        have hj' := List.getElem?_eq_some_iff.mp hj
        have hG' := List.getElem?_eq_some_iff.mp hG
        rcases Nat.lt_or_gt_of_ne hji with z | z
        · have := List.pairwise_iff_getElem.mp pw j i hj'.1 hG'.1 z
          rw [hj'.2, hG'.2] at this
          exact this
        · have := List.pairwise_iff_getElem.mp pw i j hG'.1 hj'.1 z
          rw [hj'.2, hG'.2] at this
          exact fun a => (this a).symm
      have hcp : c ≠ p := fun e => by
        subst e
        rcases hd c with y | y
        · rw [y] at z; cases z
        · rw [y] at hp; cases hp
      obtain ⟨k1, k2, k3, k4⟩ := A.priv G' (List.mem_of_getElem? hj) c u z
      exact ⟨by rw [upd_ne hcp]; exact k1, k2, k3, k4⟩
  · refine pw_ix hG A.dj fun G' d c => ?_
    by_cases e : c = p
    · subst e
      rcases d c with y | y
      · rw [y] at hp; cases hp
      · exact .inr y
    · exact .inl (by rw [upd_ne e]; rfl)
where
  pw_ix {G G2 : Hp} {i : Nat} : ∀ {Gs : List Hp}, Gs[i]? = some G → Gs.Pairwise Dj → (∀ G', Dj G G' → Dj G2 G') → (Gs.set i G2).Pairwise Dj := by
    intro Gs hG pw hd
    refine List.pairwise_iff_getElem.mpr fun j k hj hk hjk => ?_
    rw [List.length_set] at hj hk
    have hi := List.getElem?_eq_some_iff.mp hG
    have base := List.pairwise_iff_getElem.mp pw
    rw [List.getElem_set, List.getElem_set]
    split
    · rename_i e1
      split
      · rename_i e2; omega
      · subst e1
        have := base i k hi.1 hk hjk
        rw [hi.2] at this
        exact hd _ this
    · split
      · rename_i e1 e2
        subst e2
        have := base j i hj hi.1 hjk
        rw [hi.2] at this
        exact fun a => (hd _ (fun c => (this c).symm) a).symm
      · exact base j k hj hk hjk
def appR {α : Type} (xs : List α) (a : α) : Res (List α) := guardR (big xs.length) (.ok (xs ++ [a]))
theorem s1_append (i : Nat) {α : Type} [Enc α] {as : List α} {m : Res α} {x : Str} {p apos cpos : Pos} (h : XK X W ss e m fr) (hs : ss[i]? = some (ow as) := by rfl) (hp : PE X (.Name x p) (tVar i) := by exact pv _)
    (hbase : attributeBase (.Name x p) "append" X.env (eval (.Name x p) X.env) = eval (.Name x p) X.env := by rfl)
    (hfew : ((backTo cpos (starEach [e] X.env)).all (fun x => !x.1) && (backToKw cpos (keywordEach [] X.env)).all (fun x => x.1.isSome)
      && decide (([e] : List Expr).length + ([] : List Keyword).length + (if ([] : List Keyword).isEmpty then 0 else 1) < 30)) = true := by rfl)
    (hline : (apos.endLine == cpos.line) = true := by rfl) (hst : starEach [e] X.env = (false, eval e X.env) :: starEach [] X.env := by rfl) (hplain : (backTo cpos (starEach [] X.env)).any (·.1) = false := by rfl)
    (hsw : swapsWith (.Call (.Attribute (.Name x p) "append" apos) [e] [] cpos) none pos.line X.env = pure false := by rfl) :
    S1 X W ss (.Expr (.Call (.Attribute (.Name x p) "append" apos) [e] [] cpos) pos) (m.bind fun a => appR as a) (fun as' => ss.set i (ow as')) := by
  have hx := pe_bm PySem.F.plainAttrs_list PySem.F.slot_list_append PySem.F.type_list_append mt_append hp (pa_cons h pa_nil hst) hbase hfew hline hst hplain
  refine PS_imp (ps_expr hx hsw) fun D σ H ⟨B, F0, F, Gs, A, q⟩ => ?_
  obtain ⟨G, p, vs, hG, hσ, hp, r⟩ := all3_ow A.all hs
  have hH := A.sub G (List.mem_of_getElem? hG) _ _ hp
  refine ⟨.ref p, hσ, .inl ⟨rfl, vs, SqL.of hH⟩, F, A.ext.sub, A.sl, wpS_R (wpS_bind q) A.base fun a q v H' F' G' s ex pr k => ?_⟩
  obtain ⟨v', e1, rv⟩ := k
  cases e1
  have A' := A.grow s ex
  unfold appR at q
  cases g : big as.length with
  | false => rw [g] at q; exact q.elim
  | true =>
    rw [g] at q
    refine ⟨p, vs, v, rfl, rfl, s _ _ hH, by rw [r.length]; exact Nat.lt_of_le_of_lt (of_decide_eq_true g) (by decide), ?_⟩
    exact q _ _ _ _ (A'.put hG hσ hp (All2.append (r.mono ex.le) ⟨rv, trivial⟩))
def extR {α : Type} (xs ys : List α) : Res (List α) := guardR (big (xs.length + ys.length)) (.ok (xs ++ ys))
def TgL (X : Cx) {α : Type} [Enc α] (ts : List Expr) (n : Nat) (u : List α → List Slot → List Slot) : Prop :=
  ∃ g, PGs X ts g ∧ ∀ (as : List α) (vs : List V) (B F0 F H : Hp) (Gs : List Hp) (ss : List Slot) (σ : L2.St) (Q : L2.St → Hp → Prop), as.length = n → Asn X.K B F0 ss σ H F Gs → All2 (fun v a => Enc.rep X.K F v a) vs as →
    (∀ σ' Gs', Asn X.K B F0 (u as ss) σ' H F Gs' → Q σ' H) → g vs σ H Q
theorem tl_nil {α : Type} [Enc α] : TgL X (α := α) [] 0 (fun _ ss => ss) := ⟨_, pgs_nil, fun as vs B F0 F H Gs ss σ Q hl A r q => by
  cases as with
  | nil => cases vs with
    | nil => exact ⟨rfl, q σ Gs A⟩
    | cons v vs => exact r.elim
  | cons a as => cases hl⟩
theorem tl_cons {α : Type} [Enc α] [Inhabited α] {t : Expr} {ts : List Expr} {n : Nat} {u1 : α → List Slot → List Slot} {u2 : List α → List Slot → List Slot} (h1 : Tg X t u1) (h2 : TgL X ts n u2)
    (hs : (assignEach (t :: ts) X.env).map (·.2) = assign t X.env :: (assignEach ts X.env).map (·.2) := by rfl) : TgL X (t :: ts) (n + 1) (fun as ss => u2 as.tail (u1 (as.headD default) ss)) := by
  obtain ⟨g1, p1, q1⟩ := h1
  obtain ⟨g2, p2, q2⟩ := h2
  refine ⟨_, pgs_cons p1 p2 hs, fun as vs B F0 F H Gs ss σ Q hl A r q => ?_⟩
  cases as with
  | nil => cases hl
  | cons a as =>
    cases vs with
    | nil => exact r.elim
    | cons v vs => exact ⟨v, vs, rfl, q1 _ _ _ _ _ _ _ _ _ _ A r.1 fun σ1 Gs1 A1 => q2 as vs _ _ _ _ _ _ _ _ (Nat.succ.inj hl) A1 r.2 q⟩
theorem s1_unl {α : Type} [Enc α] {ts : List Expr} {n k : Nat} {tp : Pos} {u : List α → List Slot → List Slot} {m : Res (List α)} (h : XK X W ss e m fr) (hg : TgL X ts n u) (hc : X.calm = true := by rfl) (hn : (assignEach ts X.env).length = n := by rfl) (hst : (assignEach ts X.env).findIdx? (·.1) = none := by rfl)
    (hs : swapsWithSole [.Tuple ts k tp] e pos.line X.env = pure false := by rfl) (hw : swappedStores [.Tuple ts k tp] e X.env = pure none := by rfl) (h1 : (assignEach [.Tuple ts k tp] X.env).map (·.2) = [assign (.Tuple ts k tp) X.env] := by rfl) :
    S1 X W ss (.Assign [.Tuple ts k tp] e pos) (m.bind fun as => guardR (decide (as.length = n)) (.ok as)) (fun as => u as ss) := by
  obtain ⟨g, pg, qg⟩ := hg
  refine PS_imp (ps_asg h (pg_unl hc pg hn hst) hs hw h1) fun D σ H ⟨B, F0, F, Gs, A, q⟩ => ⟨F, A.ext.sub, A.sl, wpS_R (wpS_bind q) A.base fun as q v H' F' G' s ex _ ⟨v', e1, p, vs, e2, hp, r⟩ => ?_⟩
  cases e1
  cases hd : decide (as.length = n) with
  | false => rw [hd] at q; exact q.elim
  | true =>
    rw [hd] at q
    have hl := of_decide_eq_true hd
    exact ⟨p, vs, e2, SqL.of (ex.sub _ _ hp), by rw [r.length, hl], qg as vs B F0 F' H' Gs ss σ _ hl (A.grow s ex) r fun σ' Gs' A' => q σ' H' F' Gs' A'⟩
end
end G

namespace G
open PySem PySem.Spec PyProof.Rows L2
class Dat (α : Type) [Enc α] where
  py : α → PyData
  dp : ∀ {K : Frag} {H : Hp} {v : V} {a : α}, Enc.rep K H v a → Dp K H v (py a)
  lay : α → Bool
  dep : Nat
  layOk : ∀ {a : α}, lay a = true → (py a).canLay0 = true
  depOk : ∀ a : α, (py a).depth ≤ dep
instance : Dat Int := ⟨.int, fun h => by rw [show _ = V.int _ from h]; exact .int _, fun _ => true, 0, fun _ => by simp [PyData.canLay0], fun _ => by simp [PyData.depth]⟩
instance : Dat Bool := ⟨.bool, fun h => by rw [show _ = V.bl _ from h]; exact .bl _, fun _ => true, 0, fun _ => by simp [PyData.canLay0], fun _ => by simp [PyData.depth]⟩
instance : Dat Str := ⟨.str, fun h => by rw [show _ = V.str _ from h]; exact .str _, PyData.strOk, 0, fun h => by simpa [PyData.canLay0] using h, fun _ => by simp [PyData.depth]⟩
instance : Dat Unit := ⟨fun _ => .none, fun h => by rw [show _ = V.non from h]; exact .non, fun _ => true, 0, fun _ => by simp [PyData.canLay0], fun _ => by simp [PyData.depth]⟩
instance {α : Type} [Enc α] [Dat α] : Dat (Option α) where
  py := fun o => match o with | none => .none | some a => Dat.py a
  dp := fun {K H v o} h => by
    cases o with
    | none => rw [show v = V.non from h]; exact .non
    | some a => exact Dat.dp h.2
  lay := fun o => match o with | none => true | some a => Dat.lay a
  dep := Dat.dep α
  layOk := fun {o} h => by
    cases o with
    | none => simp [PyData.canLay0]
    | some a => exact Dat.layOk h
  depOk := fun o => by
    cases o with
    | none => simp [PyData.depth]
    | some a => exact Dat.depOk a
theorem dpAll {α : Type} [Enc α] [Dat α] {K : Frag} {H : Hp} : ∀ {vs : List V} {as : List α}, All2 (fun v a => Enc.rep K H v a) vs as → DpAll K H vs (as.map Dat.py)
  | [], [], _ => .nil
  | _ :: _, _ :: _, ⟨h, t⟩ => .cons (Dat.dp h) (dpAll t)
  | [], _ :: _, h => h.elim
  | _ :: _, [], h => h.elim
theorem layAll {α : Type} [Enc α] [Dat α] : ∀ {as : List α}, as.all Dat.lay = true → PyData.canLayAll0 (as.map Dat.py) = true
  | [], _ => by simp [PyData.canLayAll0]
  | a :: as, h => by
    rw [List.all_cons, Bool.and_eq_true] at h
    simp only [List.map_cons, PyData.canLayAll0, Bool.and_eq_true]
    exact ⟨Dat.layOk h.1, layAll h.2⟩
theorem depAll {α : Type} [Enc α] [Dat α] : ∀ as : List α, PyData.depthAll (as.map Dat.py) ≤ Dat.dep α
  | [] => by simp [PyData.depthAll]
  | a :: as => by
    simp only [List.map_cons, PyData.depthAll]
    exact Nat.max_le.mpr ⟨Dat.depOk a, depAll as⟩
instance {α : Type} [Enc α] [Dat α] : Dat (List α) where
  py := fun as => .list (as.map Dat.py)
  dp := fun ⟨p, vs, e, h, r⟩ => by rw [e]; exact .lst (SqL.of h) (dpAll r)
  lay := fun as => as.all Dat.lay
  dep := Dat.dep α + 1
  layOk := fun h => by simp only [PyData.canLay0]; exact layAll h
  depOk := fun as => by simp only [PyData.depth]; exact Nat.succ_le_succ (depAll as)
instance {α : Type} [Enc α] [Dat α] : Dat (Tup α) where
  py := fun as => .tuple (as.l.map Dat.py)
  dp := fun ⟨p, vs, e, h, r⟩ => by rw [e]; exact .tup h (dpAll r)
  lay := fun as => as.l.all Dat.lay
  dep := Dat.dep α + 1
  layOk := fun h => by simp only [PyData.canLay0]; exact layAll h
  depOk := fun as => by simp only [PyData.depth]; exact Nat.succ_le_succ (depAll as.l)
instance {α β : Type} [Enc α] [Enc β] [Dat α] [Dat β] : Dat (α × β) where
  py := fun x => .tuple [Dat.py x.1, Dat.py x.2]
  dp := fun ⟨p, v1, v2, e, h, r1, r2⟩ => by rw [e]; exact .tup (SqT.of h) (.cons (Dat.dp r1) (.cons (Dat.dp r2) .nil))
  lay := fun x => Dat.lay x.1 && Dat.lay x.2
  dep := max (Dat.dep α) (Dat.dep β) + 1
  layOk := fun h => by
    rw [Bool.and_eq_true] at h
    simp only [PyData.canLay0, PyData.canLayAll0, Bool.and_eq_true, and_true]
    exact ⟨Dat.layOk h.1, Dat.layOk h.2⟩
  depOk := fun x => by
    have h1 := Dat.depOk x.1
    have h2 := Dat.depOk x.2
    simp only [PyData.depth, PyData.depthAll]
    omega
instance {α β γ : Type} [Enc α] [Enc β] [Enc γ] [Dat α] [Dat β] [Dat γ] : Dat (T3 α β γ) where
  py := fun x => .tuple [Dat.py x.a, Dat.py x.b, Dat.py x.c]
  dp := fun ⟨p, v1, v2, v3, e, h, r1, r2, r3⟩ => by rw [e]; exact .tup (SqT.of h) (.cons (Dat.dp r1) (.cons (Dat.dp r2) (.cons (Dat.dp r3) .nil)))
  lay := fun x => Dat.lay x.a && (Dat.lay x.b && Dat.lay x.c)
  dep := max (Dat.dep α) (max (Dat.dep β) (Dat.dep γ)) + 1
  layOk := fun h => by
    rw [Bool.and_eq_true, Bool.and_eq_true] at h
    simp only [PyData.canLay0, PyData.canLayAll0, Bool.and_eq_true, and_true]
    exact ⟨Dat.layOk h.1, Dat.layOk h.2.1, Dat.layOk h.2.2⟩
  depOk := fun x => by
    have h1 := Dat.depOk x.a
    have h2 := Dat.depOk x.b
    have h3 := Dat.depOk x.c
    simp only [PyData.depth, PyData.depthAll]
    omega
instance : Dat Scr where
  py := fun x => .list (x.ns.map PyData.int)
  dp := fun {K H v x} ⟨p, e, h⟩ => by
    rw [e]
    refine .lst h ?_
    have go : ∀ ns : List Int, DpAll K H (ns.map V.int) (ns.map PyData.int) := fun ns => by
      induction ns with
      | nil => exact .nil
      | cons n ns ih => exact .cons (.int n) ih
    exact go x.ns
  lay := fun _ => true
  dep := 1
  layOk := fun {x} _ => by
    simp only [PyData.canLay0]
    have go : ∀ ns : List Int, PyData.canLayAll0 (ns.map PyData.int) = true := fun ns => by
      induction ns with
      | nil => simp [PyData.canLayAll0]
      | cons n ns ih => simp [PyData.canLayAll0, PyData.canLay0, ih]
    exact go x.ns
  depOk := fun x => by
    simp only [PyData.depth]
    have go : ∀ ns : List Int, PyData.depthAll (ns.map PyData.int) = 0 := fun ns => by
      induction ns with
      | nil => simp [PyData.depthAll]
      | cons n ns ih => simp [PyData.depthAll, PyData.depth, ih]
    rw [go x.ns]; exact Nat.le_refl _
theorem shaped_of {α : Type} [Enc α] [Dat α] {a : α} (h : Dat.lay a = true) (hd : Dat.dep α ≤ 64) : SeqAt.shaped (Dat.py a) = true := by
  unfold SeqAt.shaped
  rw [Dat.layOk h, decide_eq_true (Nat.le_trans (Dat.depOk a) hd)]
  rfl
def eqD {α β : Type} [Enc α] [Enc β] [Dat α] [Dat β] (a : α) (b : β) : Res Bool := guardR (Dat.lay a && Dat.lay b) (.ok (PyData.eqv (Dat.py a) (Dat.py b)))
def neD {α β : Type} [Enc α] [Enc β] [Dat α] [Dat β] (a : α) (b : β) : Res Bool := guardR (Dat.lay a && Dat.lay b) (.ok (!PyData.eqv (Dat.py a) (Dat.py b)))
section
variable {X : Cx} {W : WX} {ss : List Slot} {pos : Pos} {a b e : Expr} {es : List Expr}
theorem b_eqD {α β : Type} [Enc α] [Enc β] [Dat α] [Dat β] (ha : Dat.dep α ≤ 64 := by decide) (hb : Dat.dep β ≤ 64 := by decide) : Bi X (rEqD X.K) (fun (a : α) (b : β) => eqD a b) := ⟨fun a b v w H Q r1 r2 q => by
  cases g : (Dat.lay a && Dat.lay b) with
  | false =>
    have q : okR (eqD a b) _ := q
    unfold eqD at q; rw [g] at q; exact q.elim
  | true =>
    have q : okR (eqD a b) _ := q
    unfold eqD at q; rw [g] at q
    rw [Bool.and_eq_true] at g
    exact ⟨_, _, Dat.dp r1, Dat.dp r2, shaped_of g.1 ha, shaped_of g.2 hb, q _ H (Same.refl H) rfl⟩, fun _ _ => noX_guard⟩
def inD {α : Type} [Enc α] [Dat α] (a : α) (xs : List α) : Res Bool := guardR (Dat.lay a && Dat.lay xs) (.ok (xs.any fun z => PyData.eqv (Dat.py z) (Dat.py a)))
def ninD {α : Type} [Enc α] [Dat α] (a : α) (xs : List α) : Res Bool := guardR (Dat.lay a && Dat.lay xs) (.ok (!xs.any fun z => PyData.eqv (Dat.py z) (Dat.py a)))
end
class DatEq (α : Type) [Enc α] [Dat α] : Prop where
  iff : ∀ a b : α, PyData.eqv (Dat.py a) (Dat.py b) = true ↔ a = b
instance : DatEq Int := ⟨fun a b => by show (a == b) = true ↔ _; simp⟩
instance : DatEq Bool := ⟨fun a b => by show (a == b) = true ↔ _; simp⟩
instance : DatEq Str := ⟨fun a b => by show (a == b) = true ↔ _; simp⟩
instance : DatEq Unit := ⟨fun a b => by show true = true ↔ _; simp⟩
theorem eqvAll_iff {α : Type} [Enc α] [Dat α] [DatEq α] : ∀ as bs : List α, PyData.eqvAll (as.map Dat.py) (bs.map Dat.py) = true ↔ as = bs
  | [], [] => by simp [PyData.eqvAll]
  | a :: as, b :: bs => by
    simp only [List.map_cons, PyData.eqvAll, Bool.and_eq_true, DatEq.iff, eqvAll_iff as bs, List.cons.injEq]
  | [], _ :: _ => by simp [PyData.eqvAll]
  | _ :: _, [] => by simp [PyData.eqvAll]
instance {α : Type} [Enc α] [Dat α] [DatEq α] : DatEq (List α) := ⟨fun a b => by show PyData.eqvAll _ _ = true ↔ _; exact eqvAll_iff a b⟩
instance {α : Type} [Enc α] [Dat α] [DatEq α] : DatEq (Tup α) := ⟨fun a b => by
  show PyData.eqvAll _ _ = true ↔ _
  rw [eqvAll_iff]
  cases a; cases b; simp⟩
instance {α β : Type} [Enc α] [Enc β] [Dat α] [Dat β] [DatEq α] [DatEq β] : DatEq (α × β) := ⟨fun a b => by
  show PyData.eqvAll [_, _] [_, _] = true ↔ _
  cases a; cases b
  simp [PyData.eqvAll, DatEq.iff]⟩
instance {α β γ : Type} [Enc α] [Enc β] [Enc γ] [Dat α] [Dat β] [Dat γ] [DatEq α] [DatEq β] [DatEq γ] : DatEq (T3 α β γ) := ⟨fun a b => by
  show PyData.eqvAll [_, _, _] [_, _, _] = true ↔ _
  cases a; cases b
  simp [PyData.eqvAll, DatEq.iff]⟩
class NoStr (α : Type) [Enc α] [Dat α] : Prop where
  lay : ∀ a : α, Dat.lay a = true
instance : NoStr Int := ⟨fun _ => rfl⟩
instance : NoStr Bool := ⟨fun _ => rfl⟩
instance : NoStr Unit := ⟨fun _ => rfl⟩
instance {α : Type} [Enc α] [Dat α] [NoStr α] : NoStr (List α) := ⟨fun as => List.all_eq_true.mpr fun a _ => NoStr.lay a⟩
instance {α : Type} [Enc α] [Dat α] [NoStr α] : NoStr (Tup α) := ⟨fun as => List.all_eq_true.mpr fun a _ => NoStr.lay a⟩
instance {α : Type} [Enc α] [Dat α] [NoStr α] : NoStr (Option α) := ⟨fun o => by cases o with | none => rfl | some a => exact NoStr.lay a⟩
instance {α β : Type} [Enc α] [Enc β] [Dat α] [Dat β] [NoStr α] [NoStr β] : NoStr (α × β) := ⟨fun x => by show (Dat.lay _ && Dat.lay _) = true; rw [NoStr.lay, NoStr.lay]; rfl⟩
instance {α β γ : Type} [Enc α] [Enc β] [Enc γ] [Dat α] [Dat β] [Dat γ] [NoStr α] [NoStr β] [NoStr γ] : NoStr (T3 α β γ) := ⟨fun x => by show (Dat.lay _ && (Dat.lay _ && Dat.lay _)) = true; rw [NoStr.lay, NoStr.lay, NoStr.lay]; rfl⟩
theorem eqD_eq {α : Type} [Enc α] [Dat α] [NoStr α] [DatEq α] [DecidableEq α] (a b : α) : eqD a b = .ok (decide (a = b)) := by
  unfold eqD
  rw [NoStr.lay, NoStr.lay]
  show Res.ok _ = _
  congr 1
  by_cases e : a = b
  · rw [decide_eq_true e]; exact (DatEq.iff a b).mpr e
  · rw [decide_eq_false e]
    cases q : PyData.eqv (Dat.py a) (Dat.py b) with
    | false => rfl
    | true => exact absurd ((DatEq.iff a b).mp q) e
section
variable {X : Cx} {W : WX} {ss : List Slot} {pos : Pos} {a b e : Expr} {es : List Expr}
class FlatS (α : Type) [Enc α] [Sca α] : Prop where
  flat : ∀ a : α, flatV (Sca.v a) = true
  iff : ∀ a b : α, eqV (Sca.v a) (Sca.v b) = true ↔ a = b
instance : FlatS Int := ⟨fun _ => rfl, fun a b => by show (a == b) = true ↔ _; simp⟩
instance : FlatS Str := ⟨fun _ => rfl, fun a b => by show (a == b) = true ↔ _; simp⟩
instance : FlatS Bool := ⟨fun _ => rfl, fun a b => by show (a == b) = true ↔ _; simp⟩
instance : FlatS (Option Int) := ⟨fun o => by cases o <;> rfl, fun a b => by
  cases a <;> cases b <;> first
    | (show true = true ↔ _; simp)
    | (show false = true ↔ _; simp)
    | (rename_i x y; show (x == y) = true ↔ _; simp)⟩
theorem all2_sca {α : Type} [Enc α] [Sca α] {K : Frag} {H : Hp} : ∀ {vs : List V} {as : List α}, All2 (fun v a => Enc.rep K H v a) vs as → vs = as.map Sca.v
  | [], [], _ => rfl
  | _ :: _, _ :: _, ⟨h, t⟩ => by rw [Sca.flat h, all2_sca t]; rfl
  | [], _ :: _, h => h.elim
  | _ :: _, [], h => h.elim
theorem inV_iff {α : Type} [Enc α] [Sca α] [FlatS α] [DecidableEq α] (a : α) (as : List α) : inV (Sca.v a) (as.map Sca.v) = decide (a ∈ as) := by
  unfold inV
  rw [List.any_map, Bool.eq_iff_iff, List.any_eq_true, decide_eq_true_iff]
  constructor
  · rintro ⟨z, m, h⟩; rw [← (FlatS.iff z a).mp h]; exact m
  · intro m; exact ⟨a, m, (FlatS.iff a a).mpr rfl⟩
theorem flat_all {α : Type} [Enc α] [Sca α] [FlatS α] (as : List α) : (as.map Sca.v).all flatV = true := by
  rw [List.all_map]; exact List.all_eq_true.mpr fun a _ => FlatS.flat a
theorem b_inL {α : Type} [Enc α] [Sca α] [FlatS α] [DecidableEq α] : Bi X (rIn X.K false) (fun (a : α) (xs : List α) => Res.ok (decide (a ∈ xs))) := ⟨fun a xs v w H Q r1 ⟨p, vs, e, hp, r⟩ q => by
  rw [Sca.flat r1]
  have ev := all2_sca r
  subst ev
  exact ⟨p, _, e, .inl (SqL.of hp), FlatS.flat a, flat_all xs, q _ H (Same.refl H) (by show V.bl (inV _ _) = V.bl _; rw [inV_iff])⟩, fun _ _ => noX_ok⟩
theorem b_ninL {α : Type} [Enc α] [Sca α] [FlatS α] [DecidableEq α] : Bi X (rIn X.K true) (fun (a : α) (xs : List α) => Res.ok (!decide (a ∈ xs))) := ⟨fun a xs v w H Q r1 ⟨p, vs, e, hp, r⟩ q => by
  rw [Sca.flat r1]
  have ev := all2_sca r
  subst ev
  exact ⟨p, _, e, .inl (SqL.of hp), FlatS.flat a, flat_all xs, q _ H (Same.refl H) (by show V.bl (!inV _ _) = V.bl _; rw [inV_iff])⟩, fun _ _ => noX_ok⟩
theorem b_inT {α : Type} [Enc α] [Sca α] [FlatS α] [DecidableEq α] : Bi X (rIn X.K false) (fun (a : α) (xs : Tup α) => Res.ok (decide (a ∈ xs.l))) := ⟨fun a xs v w H Q r1 ⟨p, vs, e, hp, r⟩ q => by
  rw [Sca.flat r1]
  have ev := all2_sca r
  subst ev
  exact ⟨p, _, e, .inr hp, FlatS.flat a, flat_all xs.l, q _ H (Same.refl H) (by show V.bl (inV _ _) = V.bl _; rw [inV_iff])⟩, fun _ _ => noX_ok⟩
theorem b_ninT {α : Type} [Enc α] [Sca α] [FlatS α] [DecidableEq α] : Bi X (rIn X.K true) (fun (a : α) (xs : Tup α) => Res.ok (!decide (a ∈ xs.l))) := ⟨fun a xs v w H Q r1 ⟨p, vs, e, hp, r⟩ q => by
  rw [Sca.flat r1]
  have ev := all2_sca r
  subst ev
  exact ⟨p, _, e, .inr hp, FlatS.flat a, flat_all xs.l, q _ H (Same.refl H) (by show V.bl (!inV _ _) = V.bl _; rw [inV_iff])⟩, fun _ _ => noX_ok⟩
class HasTy (α : Type) [Enc α] where
  ty : String
  ok : ∀ {K : Frag} {H : Hp} {v : V} {a : α}, Enc.rep K H v a → TyX K H v (.type ty)
instance : HasTy Int := ⟨"int", fun h => by rw [show _ = V.int _ from h]; exact .base (.int _)⟩
instance : HasTy Bool := ⟨"bool", fun h => by rw [show _ = V.bl _ from h]; exact .base (.bl _)⟩
instance : HasTy Str := ⟨"str", fun h => by rw [show _ = V.str _ from h]; exact .base (.str _)⟩
instance : HasTy Unit := ⟨"NoneType", fun h => by rw [show _ = V.non from h]; exact .base .non⟩
instance {α : Type} [Enc α] : HasTy (List α) := ⟨"list", fun ⟨p, vs, e, h, _⟩ => by rw [e]; exact .base (.lst h)⟩
instance {α β : Type} [Enc α] [Enc β] : HasTy (α × β) := ⟨"tuple", fun ⟨p, v1, v2, e, h, _⟩ => by rw [e]; exact .base (.tup h)⟩
instance {α β γ : Type} [Enc α] [Enc β] [Enc γ] : HasTy (T3 α β γ) := ⟨"tuple", fun ⟨p, v1, v2, v3, e, h, _⟩ => by rw [e]; exact .base (.tup h)⟩
theorem tyT {K : Frag} {H : Hp} {p : Addr} {vs : List V} (h : SqT K H p vs) : TyX K H (.ref p) (.type "tuple") := by
  rcases h with (h | ⟨o, h⟩) | ⟨o, its, n, hk, hc, _⟩
  · exact .base (.tup h)
  · exact .fTuple h
  · exact .kTuple hk hc
instance {α : Type} [Enc α] : HasTy (Tup α) := ⟨"tuple", fun ⟨p, vs, e, h, _⟩ => by rw [e]; exact tyT h⟩
theorem xi_isi {α : Type} [Enc α] [HasTy α] {m : Res α} {T : Str} {TT : String} {r : Bool} {p q : Pos} (h : XI X W ss a m) (hb : PE X (.Name T q) (tC (.ty TT))) (hk : kitB (HasTy.ty α) TT = some r) (hm : X.mg "isinstance" = none) (hg : Gl X "isinstance" := by rfl)
    (he : starEach [a, .Name T q] X.env = (false, eval a X.env) :: starEach [.Name T q] X.env := by rfl) (he2 : starEach [.Name T q] X.env = (false, eval (.Name T q) X.env) :: starEach [] X.env := by rfl) (hpl : (backTo pos (starEach [.Name T q] X.env)).any (·.1) = false := by rfl) :
    XI X W ss (.Call (.Name "isinstance" p) [a, .Name T q] [] pos) (m.bind fun _ => .ok r) :=
  PE_imp (pe_callB call_isi hg hm (by decide +kernel) (pa_cons h (pa_cons hb pa_nil he2) he) (by decide) (by decide) he hpl) fun σ H Q ⟨sl, q⟩ => ⟨sl, wpR_imp (wpR_bind q) (Same.refl H) fun x q v H1 s1 r1 =>
    ⟨v, .ty TT, _, _, r, rfl, .ty TT, HasTy.ok r1, kit_ty hk, q _ H1 s1 rfl⟩⟩
theorem pe_ty {T : Str} {TT : String} {p : Pos} (hm : X.mg T = none) (hv : bootBuiltins T = some (.type TT)) (hg : Gl X T := by rfl) (hn : T ≠ "__name__" := by decide) (hd : (T == ("__debug__" : Str)) = false := by decide) : PE X (.Name T p) (tC (.ty TT)) := pe_bltn hg hm hv rfl hn hd
end
end G

namespace G
open PySem PySem.Spec PyProof.Rows L2
structure IsDef (K : Frag) (mg : Str → Option Value) (x : Str) (st : Stmt) : Prop where
  ex : ∃ f fd, Fun K x x st f fd ∧ mg x = some (.ref f)
structure Cal (P : Program) (w : World) (K : Frag) (mg : Str → Option Value) (base : Heap) (k : Nat) (x : Str) {A' A R : Type} [EncA A'] [EncA A] (c : A' → A) (g : A → Res R) (kr : R → Slot) : Prop where
  ex : ∃ f fd ps dvs ds, FnOk P w K mg base (L2.CX P w) k f fd ps (spOf K mg g kr) ∧ mg x = some (.ref f) ∧ PySem.W.keepIn K (.ref f) = true ∧ Binds K fd ps ds ∧ Vals dvs ds ∧ ∀ H vs a, EncA.rep K H vs a → EncA.rep K H (vs ++ dvs) (c a)
section
variable {P : Program} {w : World} {K : Frag} {mg : Str → Option Value} {base : Heap}
theorem cal_mk {x : Str} {st : Stmt} {N ps : List Str} {k : Nat} {A R : Type} [EncP A] {g : A → Res R} {kr : R → Slot} (D : IsDef K mg x st) (S : FnScope N ps (defScope st)) (hl : EncP.len A = ps.length)
    (hb : ∀ (kV doc pm : Value) (an : Option Addr) (cdv ct : Value) (us : List Value), us.length = ps.length → bindArgs (PySem.W.fnOf x x (defArgs st) (defBody st) (defScope st) .none kV doc pm an cdv ct) ⟨us, []⟩ = pure (ps.zip us))
    (hbody : ∀ (a : A) (f : Addr) (cdv : Value) (A' : Around) (outer : List Env) (s : Shared) (H : Hp) (E : L2.XK), Room k (A'.deeper (envOfC x (defScope st) s.heap.objs.size f cdv)) →
      ST (cxOf (L2.CX P w) P w K mg base N x (defScope st) f cdv A' outer s H E) (wE E) true (EncP.slots a ++ List.replicate (N.length - EncP.len A) any) (defBody st) (g a) kr) :
    Cal P w K mg base (k + 1) x (fun a : A => a) g kr := by
  obtain ⟨f, fd, F, hm⟩ := D.ex
  exact ⟨f, fd, ps, [], [], fn_ok F S hl fun a cdv A' outer s H E hr => hbody a f cdv A' outer s H E hr, hm, F.kp, F.binds hb, .nil, fun H vs a h => by rw [List.append_nil]; exact h⟩
theorem ST.slots {X : Cx} {W : WX} {R : Type} {e : Bool} {ss ss' : List Slot} {sts : List Stmt} {M : Res R} {kr : R → Slot} (h : ST X W e ss' sts M kr) (q : ss = ss') : ST X W e ss sts M kr := q ▸ h
end
section
variable {X : Cx} {W : WX} {ss : List Slot} {k j : Nat} {x : Str} {A' A R : Type} [EncA A'] [EncA A] {c : A' → A} {g : A → Res R} {kr : R → Slot} {p pos : Pos} {e : Expr} {es : List Expr}
theorem xi_cal [Enc R] [View kr] (C : Cal X.prog X.w X.K X.mg X.base j x c g kr) (hr : Room k X.A) (tk : Takes X W) {m : Res A'} (ha : XA X W ss (e :: es) m) (hj : j ≤ k := by decide) (hg : Gl X x := by rfl) (hdb : (x == ("__debug__" : Str)) = false := by decide)
    (he : starEach (e :: es) X.env = (false, eval e X.env) :: starEach es X.env := by rfl) (hpl : (backTo pos (starEach es X.env)).any (·.1) = false := by rfl) : XI X W ss (.Call (.Name x p) (e :: es) [] pos) (m.bind fun a => g (c a)) := by
  obtain ⟨f, fd, ps, dvs, ds, F, hm, hk, hb, hd, hf⟩ := C.ex
  exact xi_call F (hr.mono hj) hm hk ⟨dvs, ds, hb, hd, hf⟩ tk ha hg hdb he hpl
theorem xk_cal [KImm kr] (C : Cal X.prog X.w X.K X.mg X.base j x c g kr) (hr : Room k X.A) (tk : Takes X W) {m : Res A'} (ha : XA X W ss (e :: es) m) (hj : j ≤ k := by decide) (hg : Gl X x := by rfl) (hdb : (x == ("__debug__" : Str)) = false := by decide)
    (he : starEach (e :: es) X.env = (false, eval e X.env) :: starEach es X.env := by rfl) (hpl : (backTo pos (starEach es X.env)).any (·.1) = false := by rfl) : XK X W ss (.Call (.Name x p) (e :: es) [] pos) (m.bind fun a => g (c a)) kr := by
  obtain ⟨f, fd, ps, dvs, ds, F, hm, hk, hb, hd, hf⟩ := C.ex
  exact xk_call F (hr.mono hj) hm hk ⟨dvs, ds, hb, hd, hf⟩ tk ha hg hdb he hpl
theorem xk_calF (C : Cal X.prog X.w X.K X.mg X.base j x c g kr) (hr : Room k X.A) (tk : Takes X W) {m : Res A'} (ha : XAK X W ss (e :: es) m) (hj : j ≤ k := by decide) (hg : Gl X x := by rfl) (hdb : (x == ("__debug__" : Str)) = false := by decide)
    (he : starEach (e :: es) X.env = (false, eval e X.env) :: starEach es X.env := by rfl) (hpl : (backTo pos (starEach es X.env)).any (·.1) = false := by rfl) : XK X W ss (.Call (.Name x p) (e :: es) [] pos) (m.bind fun a => g (c a)) kr := by
  obtain ⟨f, fd, ps, dvs, ds, F, hm, hk, hb, hd, hf⟩ := C.ex
  exact xk_callF F (hr.mono hj) hm hk ⟨dvs, ds, hb, hd, hf⟩ tk ha hg hdb he hpl
theorem hu64 {A : Around} {k : Nat} (hr : Room k A) : A.units + 64 < cLine := hr.units
theorem st_retOw (i : Nat) {α : Type} [Enc α] {as : List α} {ee : Bool} {rest : List Stmt} {x : Str} {rp pos : Pos} (hs : ss[i]? = some (ow as) := by rfl) (hp : PE X (.Name x rp) (tVar i) := by exact pv _) : ST X W ee ss (.Return (some (.Name x rp)) pos :: rest) (.ok as) ow := by
  have h : PS X (.Return (some (.Name x rp)) pos) (rdX X ss fun D B F0 => wpS X W (.ok as) B fun r => RtOk X ow r D B F0) := by
    refine PS_imp (ps_ret hp) fun D σ H ⟨B, F0, F, Gs, A, q⟩ => ?_
    obtain ⟨G, p, vs, hG, hσ, hp, r⟩ := all3_ow A.all hs
    exact ⟨.ref p, hσ, q _ H F G A.base A.ext (A.priv G (List.mem_of_getElem? hG)) ⟨p, vs, rfl, hp, r⟩⟩
  exact PSs_imp (rest_free h fun D D' σ H e1 _ _ ⟨B, F0, F, Gs, A, q⟩ => ⟨B, F0, F, Gs, A, wpS_imp q fun r q v H' F' G' a b c d => by rw [e1]; exact q v H' F' G' a b c d⟩)
    fun D σ H ⟨B, F0, F, Gs, A, _, q⟩ => ⟨B, F0, F, Gs, A, q⟩
end
theorem wk_nil : Wk [] [] := trivial
theorem wk_eq {s : Slot} {ss ts : List Slot} (h : Wk ss ts) : Wk (s :: ss) (s :: ts) := ⟨.inl rfl, h⟩
theorem wk_any {s : Slot} {ss ts : List Slot} (h : Wk ss ts) : Wk (s :: ss) (any :: ts) := ⟨.inr rfl, h⟩
def spLaw (K : Frag) : Sp := fun vs H Q _ => ∃ (a : Addr) (ns : List Int), vs = [.ref a] ∧ SqL K H a (ns.map V.int) ∧ ns.length ≤ 63 ∧ ∀ v H', v = .bl true → Q v H'
theorem law_ok {P : Program} {w : World} {K : Frag} {mg : Str → Option Value} {base : Heap} {k : Nat} {f : Addr} {fd : FuncData} {x : Str} {g : Scr × Unit → Res Bool} (F : FnOk P w K mg base (L2.CX P w) k f fd [x] (spOf K mg g fr)) (hg : ∀ ns : List Int, ns.length ≤ 63 → g (⟨ns⟩, ()) = .ok true) :
    FnOk P w K mg base (L2.CX P w) k f fd [x] (spLaw K) := F.imp fun vs H Q E ⟨a, ns, e, hS, hl, q⟩ => by
  subst e
  refine ⟨(⟨ns⟩, ()), H, ⟨.ref a, [], rfl, ⟨a, rfl, hS⟩, rfl⟩, Same.refl H, ?_⟩
  rw [hg ns hl]
  exact fun v H' F' G' _ _ _ ⟨v', e, r⟩ => q v H' (by cases e; exact r)
end G

namespace G
open PySem PySem.Spec PyProof.Rows L2
structure Dic (κ β : Type) where
  l : List (κ × β)
section
variable {κ β : Type} [DecidableEq κ]
def dget (d : Dic κ β) (k : κ) : Option β := (d.l.find? fun kv => decide (kv.1 = k)).map (·.2)
def dhas (d : Dic κ β) (k : κ) : Bool := d.l.any fun kv => decide (kv.1 = k)
def dput (d : Dic κ β) (k : κ) (v : β) : Dic κ β := ⟨if dhas d k then d.l.map (fun kv => if kv.1 = k then (kv.1, v) else kv) else d.l ++ [(k, v)]⟩
def dkeys (d : Dic κ β) : List κ := d.l.map (·.1)
theorem dhas_keys (d : Dic κ β) (k : κ) : dhas d k = decide (k ∈ dkeys d) := by
  unfold dhas dkeys
  rw [Bool.eq_iff_iff, List.any_eq_true, decide_eq_true_iff, List.mem_map]
  constructor
  · rintro ⟨x, m, h⟩; exact ⟨x, m, of_decide_eq_true h⟩
  · rintro ⟨x, m, h⟩; exact ⟨x, m, decide_eq_true h⟩
theorem dkeys_put (d : Dic κ β) (k : κ) (v : β) : dkeys (dput d k v) = if k ∈ dkeys d then dkeys d else dkeys d ++ [k] := by
  unfold dput
  rw [dhas_keys]
  by_cases h : k ∈ dkeys d
  · rw [decide_eq_true h, if_pos rfl, if_pos h]
    unfold dkeys
    rw [List.map_map]
    refine List.map_congr_left fun x _ => ?_
    show (if x.1 = k then (x.1, v) else x).1 = x.1
    split <;> rfl
  · rw [decide_eq_false h, if_neg Bool.false_ne_true, if_neg h]
    unfold dkeys
    rw [List.map_append]; rfl
end
class DK (κ : Type) [Enc κ] [DecidableEq κ] where
  ho : List (κ × V) → HO
  notT : ∀ kvs, isT (ho kvs) = false
  mutH : ∀ kvs, Mut (some (ho kvs))
  get : ∀ {K : Frag} {H : Hp} {a : Addr} {kvs : List (κ × V)} {y : V} {k : κ}, Rd H a (ho kvs) → Enc.rep K H y k → DGet H a y (valV kvs k)
  put : ∀ {K : Frag} {H : Hp} {a : Addr} {kvs : List (κ × V)} {y v : V} {k : κ}, H a = some (ho kvs) → Enc.rep K H y k → kvs.length < sizeLine → DPut H a y v (upd H a (ho (putK kvs k v)))
  new : ∀ (X : Cx) (pos : Pos), PE X (.Dict [] [] pos) (fun _ H Q => ∀ p, H p = none → Q (.ref p) (upd H p (ho [])))
  list : ∀ (X : Cx), X.calm = true → CallR X (.type "list") (fun xs H Q => ∃ a kvs, xs = [.ref a] ∧ Rd H a (ho kvs) ∧ ∀ p vs, H p = none → All2 (fun v (kv : κ × V) => Enc.rep X.K H v kv.1) vs kvs → Q (.ref p) (upd H p (.lst vs)))
section
variable {κ κ' : Type} [DecidableEq κ] [DecidableEq κ'] {f : κ → κ'} (inj : ∀ a b, f a = f b → a = b)
include inj
theorem valV_map_key (kvs : List (κ × V)) (k : κ) : valV (kvs.map fun kv => (f kv.1, kv.2)) (f k) = valV kvs k := by
  induction kvs with
  | nil => rfl
  | cons p r ih =>
    rw [List.map_cons]
    by_cases e : p.1 = k
    · rw [valV_pos e, valV_pos (by show f p.1 = f k; rw [e])]
    · rw [valV_neg e, valV_neg (by show ¬ f p.1 = f k; exact fun z => e (inj _ _ z)), ih]
theorem putK_map_key (kvs : List (κ × V)) (k : κ) (v : V) : putK (kvs.map fun kv => (f kv.1, kv.2)) (f k) v = (putK kvs k v).map fun kv => (f kv.1, kv.2) := by
  unfold putK
  have e : ((kvs.map fun kv => (f kv.1, kv.2)).any fun kv => decide (kv.1 = f k)) = kvs.any fun kv => decide (kv.1 = k) := by
    rw [List.any_map]
    congr 1
    funext kv
    show decide (f kv.1 = f k) = decide (kv.1 = k)
    by_cases z : kv.1 = k
    · rw [decide_eq_true z, decide_eq_true (by rw [z])]
    · rw [decide_eq_false z, decide_eq_false fun y => z (inj _ _ y)]
  rw [e]
  split
  · rw [List.map_map, List.map_map]
    refine List.map_congr_left fun x _ => ?_
    show (if f x.1 = f k then (f x.1, v) else (f x.1, x.2)) = (f (if x.1 = k then (x.1, v) else x).1, (if x.1 = k then (x.1, v) else x).2)
    by_cases z : x.1 = k
    · rw [if_pos z, if_pos (by rw [z])]
    · rw [if_neg z, if_neg fun y => z (inj _ _ y)]
  · rw [List.map_append]; rfl
end
def hoK {κ : Type} (f : κ → Key) (kvs : List (κ × V)) : HO := .dK (kvs.map fun kv => (f kv.1, kv.2))
def hoT {κ : Type} (f : κ → List Key) (kvs : List (κ × V)) : HO := .dT (kvs.map fun kv => (f kv.1, kv.2))
theorem all2_keys {κ : Type} {P : V → κ → Prop} : ∀ {kvs : List (κ × V)} {g : κ → V}, (∀ k, P (g k) k) → All2 (fun v (kv : κ × V) => P v kv.1) (kvs.map fun kv => g kv.1) kvs
  | [], _, _ => trivial
  | _ :: _, _, h => ⟨h _, all2_keys h⟩
instance : DK Int where
  ho := hoK .inl
  notT := fun _ => rfl
  mutH := fun _ => trivial
  get := fun {K H a kvs y k} h r => by
    rw [show y = V.int k from r, ← valV_map_key (f := fun i : Int => (Sum.inl i : Key)) (fun a b e => Sum.inl.inj e) kvs k]
    exact .inl ⟨_, Sum.inl k, h, rfl, rfl⟩
  put := fun {K H a kvs y v k} h r hl => by
    have e := DPut.k (k := Sum.inl k) (v := v) h (by rw [List.length_map]; exact hl)
    rw [show y = V.int k from r]
    unfold hoK
    rw [← putK_map_key (f := fun i : Int => (Sum.inl i : Key)) (fun a b e => Sum.inl.inj e) kvs k v]
    exact e
  new := fun X pos => pe_dnewK
  list := fun X hc => by
    intro pins s σ H xs us Q I r ⟨a, kvs, e, h, q⟩
    refine call_listD hc pins s σ H xs us Q I r ⟨a, _, e, h, fun p hp => ?_⟩
    rw [List.map_map]
    exact q p _ hp (all2_keys (g := fun i => V.int i) fun _ => rfl)
instance : DK Str where
  ho := hoK .inr
  notT := fun _ => rfl
  mutH := fun _ => trivial
  get := fun {K H a kvs y k} h r => by
    rw [show y = V.str k from r, ← valV_map_key (f := fun i : Str => (Sum.inr i : Key)) (fun a b e => Sum.inr.inj e) kvs k]
    exact .inl ⟨_, Sum.inr k, h, rfl, rfl⟩
  put := fun {K H a kvs y v k} h r hl => by
    have e := DPut.k (k := Sum.inr k) (v := v) h (by rw [List.length_map]; exact hl)
    rw [show y = V.str k from r]
    unfold hoK
    rw [← putK_map_key (f := fun i : Str => (Sum.inr i : Key)) (fun a b e => Sum.inr.inj e) kvs k v]
    exact e
  new := fun X pos => pe_dnewK
  list := fun X hc => by
    intro pins s σ H xs us Q I r ⟨a, kvs, e, h, q⟩
    refine call_listD hc pins s σ H xs us Q I r ⟨a, _, e, h, fun p hp => ?_⟩
    rw [List.map_map]
    exact q p _ hp (all2_keys (g := fun i => V.str i) fun _ => rfl)
def key2 (x : Int × Int) : List Key := [.inl x.1, .inl x.2]
theorem key2_inj (a b : Int × Int) (e : key2 a = key2 b) : a = b := by
  unfold key2 at e
  injection e with e1 e2
  injection e2 with e2 _
  exact Prod.ext (Sum.inl.inj e1) (Sum.inl.inj e2)
theorem keys_all2 {K : Frag} {H : Hp} : ∀ {kvs : List ((Int × Int) × V)} {bs : List Addr}, IsKeys H (kvs.map fun kv => (key2 kv.1, kv.2)) bs → All2 (fun v (kv : (Int × Int) × V) => Enc.rep K H v kv.1) (bs.map V.ref) kvs
  | [], [], _ => trivial
  | kv :: kvs, b :: bs, h => by
    cases h with
    | cons h t => exact ⟨⟨b, _, _, rfl, h, rfl, rfl⟩, keys_all2 t⟩
  | [], _ :: _, h => by cases h
  | _ :: _, [], h => by cases h
instance : DK (Int × Int) where
  ho := hoT key2
  notT := fun _ => rfl
  mutH := fun _ => trivial
  get := fun {K H a kvs y k} h ⟨p, v1, v2, e, hp, r1, r2⟩ => by
    rw [e, ← valV_map_key key2_inj kvs k]
    have r1 : v1 = V.int k.1 := r1
    have r2 : v2 = V.int k.2 := r2
    exact .inr ⟨_, key2 k, p, h, rfl, by rw [hp, r1, r2]; rfl, rfl⟩
  put := fun {K H a kvs y v k} h ⟨p, v1, v2, e, hp, r1, r2⟩ hl => by
    have r1 : v1 = V.int k.1 := r1
    have r2 : v2 = V.int k.2 := r2
    have e2 := DPut.t (k := key2 k) (v := v) (b := p) h (by rw [hp, r1, r2]; rfl) (by rw [List.length_map]; exact hl)
    rw [e]
    unfold hoT
    rw [← putK_map_key key2_inj kvs k v]
    exact e2
  new := fun X pos => pe_dnewT
  list := fun X hc => by
    intro pins s σ H xs us Q I r ⟨a, kvs, e, h, q⟩
    exact call_list_dT hc pins s σ H xs us Q I r ⟨a, _, e, h, fun p bs hp hk => q p _ hp (keys_all2 hk)⟩
theorem rd_mono {H H' : Hp} {a : Addr} {u : HO} (s : Same H H') (h : Rd H a u) : Rd H' a u := h.elim (fun e => .inl (s _ _ e)) fun ⟨o, e⟩ => .inr ⟨o, s _ _ e⟩
abbrev RepD (K : Frag) (F : Hp) {κ β : Type} [Enc β] (kvs : List (κ × V)) (l : List (κ × β)) : Prop := All2 (fun (kv : κ × V) (x : κ × β) => kv.1 = x.1 ∧ Enc.rep K F kv.2 x.2) kvs l
theorem RepD.mono {K : Frag} {F F' : Hp} {κ β : Type} [Enc β] {kvs : List (κ × V)} {l : List (κ × β)} (s : Same F F') (h : RepD K F kvs l) : RepD K F' kvs l := All2.imp (fun _ _ x => ⟨x.1, Enc.mono s x.2⟩) h
instance {κ β : Type} [Enc κ] [DecidableEq κ] [DK κ] [Enc β] : Enc (Dic κ β) :=
  ⟨fun K H v d => ∃ p kvs, v = .ref p ∧ Rd H p (DK.ho kvs) ∧ RepD K H kvs d.l, fun s ⟨p, kvs, e, h, r⟩ => ⟨p, kvs, e, rd_mono s h, r.mono s⟩⟩
instance {κ β : Type} [Enc κ] [DecidableEq κ] [DK κ] [Enc β] : NN (Dic κ β) := ⟨fun ⟨_, _, e1, _⟩ e => by rw [e] at e1; cases e1⟩
def owd {κ β : Type} [Enc κ] [DecidableEq κ] [DK κ] [Enc β] (d : Dic κ β) : Slot :=
  ⟨fun K F G o => ∃ p kvs, o = some (.ref p) ∧ G p = some (DK.ho kvs) ∧ RepD K F kvs d.l, fun s t ⟨p, kvs, e, h, r⟩ => ⟨p, kvs, e, t _ _ h, r.mono s⟩⟩
section
variable {κ β : Type} [Enc κ] [DecidableEq κ] [DK κ] [Enc β]
instance : View (owd (κ := κ) (β := β)) := ⟨fun ⟨p, kvs, e, g, r⟩ => by cases e; exact ⟨p, kvs, rfl, .inl g, r⟩⟩
variable {X : Cx} {W : WX} {ss : List Slot} {pos : Pos} {a b e : Expr}
theorem Asn.putG {K : Frag} {B F0 H F : Hp} {ss : List Slot} {σ : L2.St} {Gs : List Hp} (A : Asn K B F0 ss σ H F Gs) {i : Nat} {G : Hp} {p : Addr} {o o' : HO} {s' : Slot} (hG : Gs[i]? = some G) (hσ : σ[i]? = some (some (.ref p))) (hp : G p = some o) (hT : isT o' = false)
    (r : s'.P K F (upd noHp p o') (some (.ref p))) : Asn K B F0 (ss.set i s') σ (upd H p o') F (Gs.set i (upd noHp p o')) := by
  have hm : G ∈ Gs := List.mem_of_getElem? hG
  obtain ⟨h1, h2, h3, h4⟩ := A.priv G hm _ _ hp
  have sF : Same F (upd H p o') := fun c u z => by
    rw [upd_ne (fun e => by rw [e, h3] at z; cases z)]
    exact A.ext.sub _ _ z
  refine ⟨⟨A.ext.le, sF, A.ext.new⟩, fun c u z => ?_, ?_, fun G' m c u z => ?_, ?_⟩
  · rw [upd_ne (fun e => by rw [e, h2] at z; cases z)]
    exact A.base _ _ z
  · have e := set_self hσ
    rw [← e]
    exact A.all.set (s := s') r i
  · by_cases hi : G' = upd noHp p o'
    · subst hi
      by_cases e : c = p
      · subst e
        rw [upd_same] at z; cases z
        exact ⟨upd_same, h2, h3, hT⟩
      · rw [upd_ne e] at z; cases z
    · obtain ⟨j, hj⟩ := List.getElem?_of_mem m
      have hji : j ≠ i := fun e => by
        subst e
        have hlt : j < Gs.length := (List.getElem?_eq_some_iff.mp hG).1
        rw [List.getElem?_set_self hlt] at hj
        exact hi (Option.some.inj hj).symm
      rw [List.getElem?_set_ne (Ne.symm hji)] at hj
      have hd : Dj G' G := by
        have pw := A.dj
        have hj' := List.getElem?_eq_some_iff.mp hj
        have hG' := List.getElem?_eq_some_iff.mp hG
        rcases Nat.lt_or_gt_of_ne hji with z | z
        · have := List.pairwise_iff_getElem.mp pw j i hj'.1 hG'.1 z
          rw [hj'.2, hG'.2] at this
          exact this
        · have := List.pairwise_iff_getElem.mp pw i j hG'.1 hj'.1 z
          rw [hj'.2, hG'.2] at this
          exact fun a => (this a).symm
      have hcp : c ≠ p := fun e => by
        subst e
        rcases hd c with y | y
        · rw [y] at z; cases z
        · rw [y] at hp; cases hp
      obtain ⟨k1, k2, k3, k4⟩ := A.priv G' (List.mem_of_getElem? hj) c u z
      exact ⟨by rw [upd_ne hcp]; exact k1, k2, k3, k4⟩
  · refine Asn.put.pw_ix hG A.dj fun G' d c => ?_
    by_cases e : c = p
    · subst e
      rcases d c with y | y
      · rw [y] at hp; cases hp
      · exact .inr y
    · exact .inl (by rw [upd_ne e]; rfl)
def dputR (d : Dic κ β) (k : κ) (v : β) : Res (Dic κ β) := guardR (big d.l.length) (.ok (dput d k v))
end
section
variable {κ β : Type} [Enc κ] [DecidableEq κ] [DK κ] [Enc β] {X : Cx} {W : WX} {ss : List Slot}
end
end G

namespace G
open PySem PySem.Spec PyProof.Rows L2
structure IsDefD (K : Frag) (mg : Str → Option Value) (x : Str) (st : Stmt) (dvs : List V) : Prop where
  ex : ∃ f fd, FunD K x x (defArgs st) (defBody st) (defScope st) dvs [] f fd ∧ mg x = some (.ref f)
section
variable {P : Program} {w : World} {K : Frag} {mg : Str → Option Value} {base : Heap}
def Bnd (x : Str) (st : Stmt) (ps : List Str) (m n j : Nat) : Prop := ∀ (T : Addr) (kV doc pm : Value) (an : Option Addr) (cdv ct : Value) (us its : List Value), us.length = n → its.length = m →
  ∃ k, bindArgs (PySem.W.fnOf x x (defArgs st) (defBody st) (defScope st) (.ref T) kV doc pm an cdv ct) ⟨us, []⟩ = seqItems? (.ref T) >>= k ∧ k (some its.toArray) = pure (ps.zip (us ++ its.drop j))
end
theorem isDef_mk {K : Frag} {mg : PySem.Str → Option Value} {h : Heap} {x : PySem.Str} {st : Stmt} {f : Addr} {oc : Value} {od an : Option Addr} {osl : Array (Option Value)} {kV doc pm cdv ct : Value} (X : K.In h) (G : h.Ns mainGlobals mg) (a : PySem.W.nsIn K mainGlobals x = some (some (.ref f)))
    (l : K.lookup f = some ⟨oc, od, .func (PySem.W.fnOf x x (defArgs st) (defBody st) (defScope st) .none kV doc pm an cdv ct), osl⟩) (c : PySem.W.codeIn K cdv x = true) (k : PySem.W.keepIn K (.ref f) = true) : IsDef K mg x st := ⟨f, _, fun_mk l c k, PySem.W.mg_of X G a⟩
end G

namespace G
open PySem PySem.Spec PyProof.Rows L2
structure Ow (α : Type) [Enc α] where
  own : Frag → Hp → Hp → V → α → Prop
  mF : ∀ {K : Frag} {F F' G : Hp} {v : V} {a : α}, Same F F' → own K F G v a → own K F' G v a
  mG : ∀ {K : Frag} {F G G' : Hp} {v : V} {a : α}, Same G G' → own K F G v a → own K F G' v a
  view : ∀ {K : Frag} {F G H : Hp} {v : V} {a : α}, own K F G v a → Same F H → Same G H → Enc.rep K H v a
def AllO {α : Type} (P : Hp → V → α → Prop) : List V → List Hp → List α → Prop
  | [], [], [] => True
  | v :: vs, G :: Gs, a :: as => P G v a ∧ AllO P vs Gs as
  | _, _, _ => False
section
variable {α : Type} {P R : Hp → V → α → Prop}
theorem AllO.imp (h : ∀ G v a, P G v a → R G v a) : ∀ {vs : List V} {Gs : List Hp} {as : List α}, AllO P vs Gs as → AllO R vs Gs as
  | [], [], [], _ => trivial
  | _ :: _, _ :: _, _ :: _, ⟨x, y⟩ => ⟨h _ _ _ x, AllO.imp h y⟩
  | [], _ :: _, _, x => x.elim
  | [], [], _ :: _, x => x.elim
  | _ :: _, [], _, x => x.elim
  | _ :: _, _ :: _, [], x => x.elim
theorem AllO.all2 {T : V → α → Prop} : ∀ {vs : List V} {Gs : List Hp} {as : List α}, AllO P vs Gs as → (∀ G ∈ Gs, ∀ v a, P G v a → T v a) → All2 T vs as
  | [], [], [], _, _ => trivial
  | _ :: _, _ :: _, _ :: _, ⟨x, y⟩, h => ⟨h _ List.mem_cons_self _ _ x, AllO.all2 y fun G m => h G (List.mem_cons_of_mem _ m)⟩
  | [], _ :: _, _, x, _ => x.elim
  | [], [], _ :: _, x, _ => x.elim
  | _ :: _, [], _, x, _ => x.elim
  | _ :: _, _ :: _, [], x, _ => x.elim
theorem AllO.length : ∀ {vs : List V} {Gs : List Hp} {as : List α}, AllO P vs Gs as → vs.length = as.length
  | [], [], [], _ => rfl
  | _ :: _, _ :: _, _ :: _, ⟨_, y⟩ => congrArg (· + 1) (AllO.length y)
  | [], _ :: _, _, x => x.elim
  | [], [], _ :: _, x => x.elim
  | _ :: _, [], _, x => x.elim
  | _ :: _, _ :: _, [], x => x.elim
theorem AllO.append : ∀ {vs vs' : List V} {Gs Gs' : List Hp} {as as' : List α}, AllO P vs Gs as → AllO P vs' Gs' as' → AllO P (vs ++ vs') (Gs ++ Gs') (as ++ as')
  | [], _, [], _, [], _, _, h => h
  | _ :: _, _, _ :: _, _, _ :: _, _, ⟨x, y⟩, h => ⟨x, AllO.append y h⟩
  | [], _, _ :: _, _, _, _, x, _ => x.elim
  | [], _, [], _, _ :: _, _, x, _ => x.elim
  | _ :: _, _, [], _, _, _, x, _ => x.elim
  | _ :: _, _, _ :: _, _, [], _, x, _ => x.elim
theorem AllO.get : ∀ {vs : List V} {Gs : List Hp} {as : List α} {i : Nat} {a : α}, AllO P vs Gs as → as[i]? = some a → ∃ v G, vs[i]? = some v ∧ Gs[i]? = some G ∧ P G v a
  | _ :: _, _ :: _, _ :: _, 0, b, ⟨x, _⟩, h => by
    have e : _ = b := Option.some.inj h
    subst e
    exact ⟨_, _, rfl, rfl, x⟩
  | _ :: vs, _ :: Gs, _ :: as, i + 1, b, ⟨_, y⟩, h => AllO.get (vs := vs) (Gs := Gs) (as := as) (i := i) y h
  | [], [], [], i, b, _, h => by simp at h
  | [], _ :: _, _, _, _, x, _ => x.elim
  | [], [], _ :: _, _, _, x, _ => x.elim
  | _ :: _, [], _, _, _, x, _ => x.elim
  | _ :: _, _ :: _, [], _, _, x, _ => x.elim
theorem AllO.set : ∀ (i : Nat) {vs : List V} {Gs : List Hp} {as : List α} {v : V} {G : Hp} {a : α}, AllO P vs Gs as → P G v a → AllO P (vs.set i v) (Gs.set i G) (as.set i a)
  | _, [], [], [], _, _, _, h, _ => h
  | 0, _ :: _, _ :: _, _ :: _, _, _, _, ⟨_, y⟩, h => ⟨h, y⟩
  | i + 1, _ :: _, _ :: _, _ :: _, _, _, _, ⟨x, y⟩, h => ⟨x, AllO.set i y h⟩
  | _, [], _ :: _, _, _, _, _, x, _ => x.elim
  | _, [], [], _ :: _, _, _, _, x, _ => x.elim
  | _, _ :: _, [], _, _, _, _, x, _ => x.elim
  | _, _ :: _, _ :: _, [], _, _, _, x, _ => x.elim
end
def fzO {α : Type} [Enc α] : Ow α := ⟨fun K F _ v a => Enc.rep K F v a, fun s h => Enc.mono s h, fun _ h => h, fun h s _ => Enc.mono s h⟩
def l1 {α : Type} [Enc α] : Ow (List α) := ⟨fun K F G v as => ∃ p vs, v = .ref p ∧ G p = some (.lst vs) ∧ All2 (fun v a => Enc.rep K F v a) vs as,
  fun s ⟨p, vs, e, g, r⟩ => ⟨p, vs, e, g, r.mono s⟩, fun s ⟨p, vs, e, g, r⟩ => ⟨p, vs, e, s _ _ g, r⟩, fun ⟨p, vs, e, g, r⟩ s t => ⟨p, vs, e, t _ _ g, r.mono s⟩⟩
def lsO {α : Type} [Enc α] (d : Ow α) : Ow (List α) := ⟨fun K F G v as => ∃ p vs Gs, v = .ref p ∧ G p = some (.lst vs) ∧ (∀ g ∈ Gs, Same g G ∧ g p = none) ∧ Gs.Pairwise Dj ∧ AllO (d.own K F) vs Gs as,
  fun s ⟨p, vs, Gs, e, g, h, w, r⟩ => ⟨p, vs, Gs, e, g, h, w, r.imp fun _ _ _ x => d.mF s x⟩,
  fun s ⟨p, vs, Gs, e, g, h, w, r⟩ => ⟨p, vs, Gs, e, s _ _ g, fun k m => ⟨(h k m).1.trans s, (h k m).2⟩, w, r⟩,
  fun ⟨p, vs, Gs, e, g, h, w, r⟩ s t => ⟨p, vs, e, t _ _ g, r.all2 fun k m v a x => d.view x s ((h k m).1.trans t)⟩⟩
def prO {α β : Type} [Enc α] [Enc β] (d : Ow α) (d' : Ow β) : Ow (α × β) := ⟨fun K F G v x => ∃ p v1 v2 G1 G2, v = .ref p ∧ F p = some (.tup [v1, v2]) ∧ Same G1 G ∧ Same G2 G ∧ Dj G1 G2 ∧ d.own K F G1 v1 x.1 ∧ d'.own K F G2 v2 x.2,
  fun s ⟨p, v1, v2, G1, G2, e, g, a, b, c, x, y⟩ => ⟨p, v1, v2, G1, G2, e, s _ _ g, a, b, c, d.mF s x, d'.mF s y⟩,
  fun s ⟨p, v1, v2, G1, G2, e, g, a, b, c, x, y⟩ => ⟨p, v1, v2, G1, G2, e, g, a.trans s, b.trans s, c, x, y⟩,
  fun ⟨p, v1, v2, G1, G2, e, g, a, b, c, x, y⟩ s t => ⟨p, v1, v2, e, s _ _ g, d.view x s (a.trans t), d'.view y s (b.trans t)⟩⟩
def os {α : Type} [Enc α] (d : Ow α) (a : α) : Slot := ⟨fun K F G o => ∃ v, o = some v ∧ d.own K F G v a, fun s t ⟨v, e, r⟩ => ⟨v, e, d.mG t (d.mF s r)⟩⟩
class ImmO {α : Type} [Enc α] (d : Ow α) : Prop where
  imm : ∀ {K : Frag} {F G : Hp} {v : V} {a : α}, d.own K F G v a → d.own K (tups F) G v a
instance {α : Type} [Enc α] [Imm α] : ImmO (fzO (α := α)) := ⟨fun h => Imm.imm h⟩
instance {α : Type} [Enc α] [Imm α] : ImmO (l1 (α := α)) := ⟨fun ⟨p, vs, e, g, r⟩ => ⟨p, vs, e, g, All2.imp (fun _ _ z => Imm.imm z) r⟩⟩
instance {α : Type} [Enc α] {d : Ow α} [ImmO d] : ImmO (lsO d) := ⟨fun ⟨p, vs, Gs, e, g, h, w, r⟩ => ⟨p, vs, Gs, e, g, h, w, r.imp fun _ _ _ x => ImmO.imm x⟩⟩
instance {α β : Type} [Enc α] [Enc β] {d : Ow α} {d' : Ow β} [ImmO d] [ImmO d'] : ImmO (prO d d') := ⟨fun ⟨p, v1, v2, G1, G2, e, g, a, b, c, x, y⟩ => ⟨p, v1, v2, G1, G2, e, tups_some g rfl, a, b, c, ImmO.imm x, ImmO.imm y⟩⟩
instance {α : Type} [Enc α] {d : Ow α} : View (os d) := ⟨fun ⟨v, e, r⟩ => by cases e; exact d.view r (Same.refl _) (Same.refl _)⟩
instance {α : Type} [Enc α] {d : Ow α} [ImmO d] : KImm (os d) := ⟨fun ⟨v, e, r⟩ => ⟨v, e, ImmO.imm r⟩⟩
def jl (n : Nat) : Slot := ⟨fun _ _ G o => ∃ p vs, o = some (.ref p) ∧ G p = some (.lst vs) ∧ vs.length = n, fun _ t ⟨p, vs, e, g, l⟩ => ⟨p, vs, e, t _ _ g, l⟩⟩
def jk {α : Type} [Enc α] (d : Ow α) (p : Addr) (vs : List V) (as : List α) (k : Nat) : Slot :=
  ⟨fun K F G o => o = some (.ref p) ∧ ∃ Gs, G p = some (.lst vs) ∧ (∀ g ∈ Gs, Same g G ∧ g p = none) ∧ Gs.Pairwise Dj ∧ AllO (d.own K F) (vs.drop k) Gs (as.drop k),
   fun s t ⟨e, Gs, g, h, w, r⟩ => ⟨e, Gs, t _ _ g, fun k m => ⟨(h k m).1.trans t, (h k m).2⟩, w, r.imp fun _ _ _ x => d.mF s x⟩⟩
def pin {α : Type} [Enc α] (G0 : Hp) (v0 : V) (d : Ow α) (a : α) : Slot :=
  ⟨fun K F G o => o = some v0 ∧ Same G0 G ∧ d.own K F G0 v0 a, fun s t ⟨e, g, r⟩ => ⟨e, g.trans t, d.mF s r⟩⟩
section
variable {X : Cx} {W : WX} {ss : List Slot} {st : Stmt} {rest : List Stmt} {e : Expr} {pos : Pos}
theorem XK.kd {α : Type} {m : Res α} {kd kd' : α → Slot} (h : XK X W ss e m kd) (f : ∀ a K F G o, (kd a).P K F G o → (kd' a).P K F G o) : XK X W ss e m kd' :=
  PE_imp h fun σ H Q ⟨F, a, sl, q⟩ => ⟨F, a, sl, wpR_imp q (Same.refl H) fun x q v H' F' G' s ex pr k => q v H' F' G' s ex pr (f _ _ _ _ _ k)⟩
theorem xk_os {α : Type} [Enc α] {m : Res (List α)} (h : XK X W ss e m ow) : XK X W ss e m (os l1) := h.kd fun a K F G o ⟨p, vs, e, g, r⟩ => ⟨.ref p, e, p, vs, rfl, g, r⟩
theorem xk_nilO {α : Type} [Enc α] {d : Ow α} (h : XK X W ss e (.ok ([] : List α)) ow) : XK X W ss e (.ok ([] : List α)) (os (lsO d)) :=
  PE_imp h fun σ H Q ⟨F, a, sl, q⟩ => ⟨F, a, sl, fun v H' F' G' s ex pr ⟨p, vs, e, g, r⟩ => q v H' F' G' s ex pr ⟨.ref p, e, p, vs, [], rfl, g, (fun _ m => by cases m), .nil, by
    cases vs with
    | nil => trivial
    | cons v vs => exact r.elim⟩⟩
theorem xk_freeO {α : Type} [Enc α] {d : Ow α} {m : Res α} (h : XK X W ss e m (os d)) : XK X W ss e m fr := by
  refine PE_imp h fun σ H Q ⟨F, a, sl, q⟩ => ⟨F, a, sl, wpR_imp q (Same.refl H) fun x q v H' F' G' s ex pr k => ?_⟩
  obtain ⟨v', e, r⟩ := k
  cases e
  have gH : Same G' H' := fun a u z => (pr a u z).1
  exact q _ H' (join F' G') noHp s ⟨ex.le.trans join_l, join_le ex.sub gH, fun a u z => (join_or z).elim (ex.new a u) fun z => .inr (.inl (pr a u z).2.1)⟩ priv_no ⟨_, rfl, d.view r join_l (join_r ex.sub gH)⟩
def Vw : List Slot → List Slot → Prop
  | [], [] => True
  | s :: ss, t :: ts => (∀ K H o, s.P K H H o → t.P K H H o) ∧ Vw ss ts
  | _, _ => False
theorem pw_ix2 {G G2 : Hp} {i : Nat} {Gs : List Hp} (hG : Gs[i]? = some G) (pw : Gs.Pairwise Dj) (hd : ∀ G' ∈ Gs, Dj G G' → Dj G2 G') : (Gs.set i G2).Pairwise Dj := by
  refine List.pairwise_iff_getElem.mpr fun j k hj hk hjk => ?_
  rw [List.length_set] at hj hk
  have hi := List.getElem?_eq_some_iff.mp hG
  have base := List.pairwise_iff_getElem.mp pw
  rw [List.getElem_set, List.getElem_set]
  split
  · rename_i e1
    split
    · rename_i e2; omega
    · subst e1
      have := base i k hi.1 hk hjk
      rw [hi.2] at this
      exact hd _ (List.getElem_mem _) this
  · split
    · rename_i e1 e2
      subst e2
      have := base j i hj hi.1 hjk
      rw [hi.2] at this
      exact fun a => (hd _ (List.getElem_mem _) (fun c => (this c).symm) a).symm
    · exact base j k hj hk hjk
theorem dj_of {Gs : List Hp} {i j : Nat} {G G' : Hp} (pw : Gs.Pairwise Dj) (hi : Gs[i]? = some G) (hj : Gs[j]? = some G') (h : i ≠ j) : Dj G G' := by
  have hi := List.getElem?_eq_some_iff.mp hi
  have hj := List.getElem?_eq_some_iff.mp hj
  rcases Nat.lt_or_gt_of_ne h with z | z
  · have := List.pairwise_iff_getElem.mp pw i j hi.1 hj.1 z
    rw [hi.2, hj.2] at this
    exact this
  · have := List.pairwise_iff_getElem.mp pw j i hj.1 hi.1 z
    rw [hi.2, hj.2] at this
    exact fun a => (this a).symm
theorem mem_set_ix {Gs : List Hp} {i : Nat} {G2 G' : Hp} (hl : i < Gs.length) (m : G' ∈ Gs.set i G2) : G' = G2 ∨ ∃ j, j ≠ i ∧ Gs[j]? = some G' := by
  obtain ⟨j, hj⟩ := List.getElem?_of_mem m
  by_cases e : j = i
  · subst e
    rw [List.getElem?_set_self hl] at hj
    exact .inl (Option.some.inj hj).symm
  · rw [List.getElem?_set_ne (Ne.symm e)] at hj
    exact .inr ⟨j, e, hj⟩
def Fresh (B F H : Hp) (Gs : List Hp) (G' : Hp) : Prop := ∀ c u, G' c = some u → H c = some u ∧ isT u = false ∧ B c = none ∧ F c = none ∧ ∀ g ∈ Gs, g c = none
theorem Asn.chg {K : Frag} {B F0 H F H' G G2 : Hp} {ss : List Slot} {σ : L2.St} {Gs : List Hp} {i : Nat} {s : Slot} {o : Option V} (A : Asn K B F0 ss σ H F Gs) (hG : Gs[i]? = some G)
    (hk : ∀ c u, G c = none → H c = some u → H' c = some u) (h2 : ∀ c u, G2 c = some u → H' c = some u ∧ isT u = false ∧ (G c ≠ none ∨ (B c = none ∧ F c = none ∧ ∀ g ∈ Gs, g c = none)))
    (x : s.P K F G2 o) : Asn K B F0 (ss.set i s) (σ.set i o) H' F (Gs.set i G2) := by
  have hm : G ∈ Gs := List.mem_of_getElem? hG
  have hl := (List.getElem?_eq_some_iff.mp hG).1
  have nG : ∀ c w, G c = some w → B c = none ∧ F c = none := fun c w z => ⟨(A.priv G hm c w z).2.1, (A.priv G hm c w z).2.2.1⟩
  have out : ∀ {c u}, F c = some u → G c = none := fun {c u} z => by
    cases e : G c with
    | none => rfl
    | some w => rw [(nG c w e).2] at z; cases z
  have outB : ∀ {c u}, B c = some u → G c = none := fun {c u} z => by
    cases e : G c with
    | none => rfl
    | some w => rw [(nG c w e).1] at z; cases z
  refine ⟨⟨A.ext.le, fun c u z => hk c u (out z) (A.ext.sub _ _ z), A.ext.new⟩, fun c u z => hk c u (outB z) (A.base _ _ z), A.all.set x i, fun G' m c u z => ?_, ?_⟩
  · rcases mem_set_ix hl m with e | ⟨j, hji, hj⟩
    · subst e
      obtain ⟨a, b, d⟩ := h2 c u z
      rcases d with d | d
      · cases e : G c with
        | none => exact (d e).elim
        | some w => exact ⟨a, (nG c w e).1, (nG c w e).2, b⟩
      · exact ⟨a, d.1, d.2.1, b⟩
    · obtain ⟨k1, k2, k3, k4⟩ := A.priv G' (List.mem_of_getElem? hj) c u z
      have : G c = none := (dj_of A.dj hj hG hji c).elim (fun y => by rw [y] at z; cases z) id
      exact ⟨hk c u this k1, k2, k3, k4⟩
  · refine pw_ix2 hG A.dj fun G' m' d c => ?_
    cases e : G2 c with
    | none => exact .inl rfl
    | some u =>
      refine .inr ?_
      rcases (h2 c u e).2.2 with z | z
      · exact (d c).elim (fun y => (z y).elim) id
      · exact z.2.2 G' m'
theorem Asn.take {K : Frag} {B F0 H F G : Hp} {ss : List Slot} {σ : L2.St} {Gs : List Hp} {j : Nat} (A : Asn K B F0 ss σ H F Gs) (hG : Gs[j]? = some G) : Asn K B F0 (ss.set j any) σ H F (Gs.set j noHp) ∧ Fresh B F H (Gs.set j noHp) G := by
  have hm : G ∈ Gs := List.mem_of_getElem? hG
  have hl := (List.getElem?_eq_some_iff.mp hG).1
  refine ⟨⟨A.ext, A.base, ?_, fun G' m c u z => ?_, pw_set j A.dj fun _ _ _ => .inl rfl⟩, fun c u z => ?_⟩
  · have := A.all.any j
    refine all_set_any this
  · rcases mem_set_ix hl m with e | ⟨k, hk, hj⟩
    · subst e; cases z
    · exact A.priv G' (List.mem_of_getElem? hj) c u z
  · obtain ⟨k1, k2, k3, k4⟩ := A.priv G hm c u z
    refine ⟨k1, k4, k2, k3, fun g m => ?_⟩
    rcases mem_set_ix hl m with e | ⟨k, hk, hj⟩
    · subst e; rfl
    · exact (dj_of A.dj hG hj (Ne.symm hk) c).elim (fun y => by rw [y] at z; cases z) id
where
  all_set_any {K : Frag} {F : Hp} : ∀ {j : Nat} {ss : List Slot} {Gs : List Hp} {σ : L2.St}, All3 K F (ss.set j any) Gs σ → All3 K F (ss.set j any) (Gs.set j noHp) σ
    | _, [], [], [], h => h
    | 0, _ :: _, _ :: _, _ :: _, ⟨x, y⟩ => ⟨trivial, y⟩
    | j + 1, _ :: _, _ :: _, _ :: _, ⟨x, y⟩ => ⟨x, all_set_any (j := j) y⟩
    | _, [], _ :: _, _, h => by cases j <;> exact h.elim
    | _, [], [], _ :: _, h => by cases j <;> exact h.elim
    | 0, _ :: _, [], _, h => h.elim
    | _ + 1, _ :: _, [], _, h => h.elim
    | 0, _ :: _, _ :: _, [], h => h.elim
    | _ + 1, _ :: _, _ :: _, [], h => h.elim
theorem Asn.app {α : Type} [Enc α] {d : Ow α} {K : Frag} {B F0 H F G G' : Hp} {ss : List Slot} {σ : L2.St} {Gs : List Hp} {i : Nat} {p : Addr} {vs : List V} {gs : List Hp} {as : List α} {v : V} {a : α} (A : Asn K B F0 ss σ H F Gs) (hG : Gs[i]? = some G) (hσ : σ[i]? = some (some (.ref p)))
    (hp : G p = some (.lst vs)) (hg : ∀ g ∈ gs, Same g G ∧ g p = none) (pw : gs.Pairwise Dj) (r : AllO (d.own K F) vs gs as) (fr' : Fresh B F H Gs G') (ra : d.own K F G' v a) :
    ∃ Gs', Asn K B F0 (ss.set i (os (lsO d) (as ++ [a]))) σ (upd H p (.lst (vs ++ [v]))) F Gs' := by
  have hm : G ∈ Gs := List.mem_of_getElem? hG
  have sG := A.sub G hm
  have dG : ∀ {c u}, G' c = some u → G c = none := fun {c u} z => (fr' c u z).2.2.2.2 G hm
  have hG'p : G' p = none := by
    cases e : G' p with
    | none => rfl
    | some w => have := dG e; rw [hp] at this; cases this
  refine ⟨_, set_self hσ ▸ A.chg (s := os (lsO d) (as ++ [a])) (o := some (.ref p)) (G2 := upd (join G G') p (.lst (vs ++ [v]))) hG (fun c u z h => by rw [upd_ne (fun e => by rw [e, hp] at z; cases z)]; exact h) (fun c u z => ?_)
    ⟨.ref p, rfl, p, vs ++ [v], gs ++ [G'], rfl, upd_same, fun g m => ?_, ?_, r.append ⟨ra, trivial⟩⟩⟩
  · by_cases e : c = p
    · subst e
      rw [upd_same] at z ⊢; cases z
      exact ⟨rfl, rfl, .inl (by rw [hp]; exact fun h => nomatch h)⟩
    · rw [upd_ne e] at z ⊢
      rcases join_or z with y | y
      · exact ⟨sG _ _ y, (A.priv G hm c u y).2.2.2, .inl (by rw [y]; exact fun h => nomatch h)⟩
      · obtain ⟨a, b, k⟩ := fr' c u y
        exact ⟨a, b, .inr ⟨k.1, k.2.1, k.2.2⟩⟩
  · rcases List.mem_append.mp m with m | m
    · refine ⟨fun c u z => ?_, (hg g m).2⟩
      rw [upd_ne (fun e => by rw [e, (hg g m).2] at z; cases z)]
      exact join_l _ _ ((hg g m).1 _ _ z)
    · cases List.mem_singleton.mp m
      refine ⟨fun c u z => ?_, hG'p⟩
      rw [upd_ne (fun e => by rw [e, hG'p] at z; cases z)]
      unfold join
      rw [dG z]; exact z
  · refine List.pairwise_append.mpr ⟨pw, List.pairwise_singleton _ _, fun g m g' m' c => ?_⟩
    cases List.mem_singleton.mp m'
    cases e : g c with
    | none => exact .inl rfl
    | some u =>
      refine .inr ?_
      cases e2 : G' c with
      | none => rfl
      | some w =>
        have := dG e2
        rw [(hg g m).1 _ _ e] at this; cases this
theorem all3_os {K : Frag} {F : Hp} {α : Type} [Enc α] {d : Ow α} {a : α} {ss : List Slot} {Gs : List Hp} {σ : L2.St} {i : Nat} (h : All3 K F ss Gs σ) (hs : ss[i]? = some (os d a)) :
    ∃ G v, Gs[i]? = some G ∧ σ[i]? = some (some v) ∧ d.own K F G v a := by
  obtain ⟨G, o, h1, h2, v, e, r⟩ := h.get hs
  subst e
  exact ⟨G, v, h1, h2, r⟩
theorem s1_appMv (i j : Nat) {α : Type} [Enc α] {d : Ow α} {as : List α} {a : α} {x y : Str} {p py apos cpos : Pos} (hij : i ≠ j := by decide) (hj : ss[j]? = some (os d a) := by rfl) (hs : ss[i]? = some (os (lsO d) as) := by rfl) (hp : PE X (.Name x p) (tVar i) := by exact pv _) (hy : PE X (.Name y py) (tVar j) := by exact pv _)
    (hbase : attributeBase (.Name x p) "append" X.env (eval (.Name x p) X.env) = eval (.Name x p) X.env := by rfl)
    (hfew : ((backTo cpos (starEach [.Name y py] X.env)).all (fun x => !x.1) && (backToKw cpos (keywordEach [] X.env)).all (fun x => x.1.isSome)
      && decide (([.Name y py] : List Expr).length + ([] : List Keyword).length + (if ([] : List Keyword).isEmpty then 0 else 1) < 30)) = true := by rfl)
    (hline : (apos.endLine == cpos.line) = true := by rfl) (hst : starEach [.Name y py] X.env = (false, eval (.Name y py) X.env) :: starEach [] X.env := by rfl) (hplain : (backTo cpos (starEach [] X.env)).any (·.1) = false := by rfl)
    (hsw : swapsWith (.Call (.Attribute (.Name x p) "append" apos) [.Name y py] [] cpos) none pos.line X.env = pure false := by rfl) :
    S1 X W ss (.Expr (.Call (.Attribute (.Name x p) "append" apos) [.Name y py] [] cpos) pos) (appR as a) (fun as' => (ss.set j any).set i (os (lsO d) as')) := by
  have hx := pe_bm PySem.F.plainAttrs_list PySem.F.slot_list_append PySem.F.type_list_append mt_append hp (pa_cons hy pa_nil hst) hbase hfew hline hst hplain
  refine PS_imp (ps_expr hx hsw) fun D σ H ⟨B, F0, F, Gs, A, q⟩ => ?_
  obtain ⟨G, v0, hG, hσ, p, vs, gs, e0, hp, hg, pw, r⟩ := all3_os A.all hs
  subst e0
  obtain ⟨G', v, hG', hσ', rv⟩ := all3_os A.all hj
  have hH := A.sub G (List.mem_of_getElem? hG) _ _ hp
  refine ⟨.ref p, hσ, .inl ⟨rfl, vs, SqL.of hH⟩, v, hσ', ?_⟩
  unfold appR at q
  cases g : big as.length with
  | false => rw [g] at q; exact q.elim
  | true =>
    rw [g] at q
    refine ⟨p, vs, v, rfl, rfl, hH, by rw [r.length]; exact Nat.lt_of_le_of_lt (of_decide_eq_true g) (by decide), ?_⟩
    obtain ⟨A1, f1⟩ := A.take hG'
    obtain ⟨Gs', A2⟩ := A1.app (i := i) (by rw [List.getElem?_set_ne (Ne.symm hij)]; exact hG) hσ hp hg pw r f1 rv
    exact q _ _ _ _ A2
end
end G

namespace G
open PySem PySem.Spec PyProof.Rows L2
section
variable {X : Cx} {W : WX} {ss : List Slot} {st : Stmt} {rest : List Stmt} {e b tg : Expr} {pos : Pos}
def setI {α : Type} (xs : List α) (k : Int) (a : α) : List α := match ixN xs.length k with
  | some n => xs.set n a
  | none => xs
theorem atI_ix {α : Type} {xs : List α} {k : Int} {a : α} (h : atI xs k = some a) : ∃ n, ixN xs.length k = some n ∧ xs[n]? = some a := by
  unfold atI at h
  cases e : ixN xs.length k with
  | none => rw [e] at h; cases h
  | some n => rw [e] at h; exact ⟨n, rfl, h⟩
theorem wpS_guard {α : Type} {c : Bool} {m : Res α} {B : Hp} {P : α → Prop} (h : wpS X W (guardR c m) B P) : c = true ∧ wpS X W m B P := by
  cases c with
  | true => exact ⟨rfl, h⟩
  | false => exact h.elim
theorem wpS_idx {α : Type} {xs : List α} {k : Int} {B : Hp} {P : α → Prop} (h : wpS X W (idx xs k) B P) : ∃ a n, ixN xs.length k = some n ∧ xs[n]? = some a ∧ P a := by
  unfold idx at h
  cases e : atI xs k with
  | none => rw [e] at h; exact h.elim
  | some a =>
    rw [e] at h
    obtain ⟨n, h1, h2⟩ := atI_ix e
    exact ⟨a, n, h1, h2, h⟩
theorem Asn.inner {α : Type} [Enc α] {K : Frag} {B F0 H F G : Hp} {ss : List Slot} {σ : L2.St} {Gs : List Hp} {i n : Nat} {p q : Addr} {vs ws ws' : List V} {gs : List Hp} {g : Hp} {ass : List (List α)} {as' : List α} (A : Asn K B F0 ss σ H F Gs) (hG : Gs[i]? = some G) (hσ : σ[i]? = some (some (.ref p)))
    (hp : G p = some (.lst vs)) (hg : ∀ g ∈ gs, Same g G ∧ g p = none) (pw : gs.Pairwise Dj) (r : AllO (l1.own K F) vs gs ass) (hv : vs[n]? = some (.ref q)) (hgn : gs[n]? = some g) (hq : g q = some (.lst ws)) (r' : All2 (fun v a => Enc.rep K F v a) ws' as') :
    ∃ Gs', Asn K B F0 (ss.set i (os (lsO l1) (ass.set n as'))) σ (upd H q (.lst ws')) F Gs' := by
  have hm : G ∈ Gs := List.mem_of_getElem? hG
  have mg := List.mem_of_getElem? hgn
  have hqG := (hg g mg).1 _ _ hq
  have hqp : p ≠ q := fun e => by have := (hg g mg).2; rw [e, hq] at this; cases this
  refine ⟨_, set_self hσ ▸ A.chg (s := os (lsO l1) (ass.set n as')) (o := some (.ref p)) (G2 := upd G q (.lst ws')) hG (fun c u z h => by rw [upd_ne (fun e => by rw [e, hqG] at z; cases z)]; exact h) (fun c u z => ?_)
    ⟨.ref p, rfl, p, vs, gs.set n (upd g q (.lst ws')), rfl, by rw [upd_ne hqp]; exact hp, fun g' m => ?_, ?_, ?_⟩⟩
  · by_cases e : c = q
    · subst e
      rw [upd_same] at z ⊢; cases z
      exact ⟨rfl, rfl, .inl (by rw [hqG]; exact fun h => nomatch h)⟩
    · rw [upd_ne e] at z ⊢
      exact ⟨A.sub G hm _ _ z, (A.priv G hm c u z).2.2.2, .inl (by rw [z]; exact fun h => nomatch h)⟩
  · rcases mem_set_ix (List.getElem?_eq_some_iff.mp hgn).1 m with e | ⟨k, hk, hj⟩
    · subst e
      refine ⟨fun c u z => ?_, by rw [upd_ne hqp]; exact (hg g mg).2⟩
      by_cases e : c = q
      · subst e; rw [upd_same] at z ⊢; exact z
      · rw [upd_ne e] at z ⊢; exact (hg g mg).1 _ _ z
    · have mk := List.mem_of_getElem? hj
      refine ⟨fun c u z => ?_, (hg g' mk).2⟩
      rw [upd_ne (fun e => by
        subst e
        exact (dj_of pw hj hgn hk c).elim (fun y => by rw [y] at z; cases z) (fun y => by rw [hq] at y; cases y))]
      exact (hg g' mk).1 _ _ z
  · refine pw_ix2 hgn pw fun g' _ d c => ?_
    by_cases e : c = q
    · subst e
      exact .inr ((d c).elim (fun y => by rw [hq] at y; cases y) id)
    · rw [upd_ne e]; exact d c
  · have := r.set n (v := .ref q) (G := upd g q (.lst ws')) (a := as') ⟨q, ws', rfl, upd_same, r'⟩
    rw [set_self hv] at this
    exact this
theorem s1_app2 (i : Nat) {α : Type} [Enc α] {ass : List (List α)} {mk : Res Int} {m : Res α} {x : Str} {p ip apos cpos : Pos} (hb : XI X W ss b mk) (h : XK X W ss e m fr) (hs : ss[i]? = some (os (lsO l1) ass) := by rfl) (hp : PE X (.Name x p) (tVar i) := by exact pv _)
    (hpl : PlainIx b := by exact fun _ _ => rfl)
    (hbase : attributeBase (.Subscript (.Name x p) b ip) "append" X.env (eval (.Subscript (.Name x p) b ip) X.env) = eval (.Subscript (.Name x p) b ip) X.env := by rfl)
    (hfew : ((backTo cpos (starEach [e] X.env)).all (fun x => !x.1) && (backToKw cpos (keywordEach [] X.env)).all (fun x => x.1.isSome)
      && decide (([e] : List Expr).length + ([] : List Keyword).length + (if ([] : List Keyword).isEmpty then 0 else 1) < 30)) = true := by rfl)
    (hline : (apos.endLine == cpos.line) = true := by rfl) (hst : starEach [e] X.env = (false, eval e X.env) :: starEach [] X.env := by rfl) (hplain : (backTo cpos (starEach [] X.env)).any (·.1) = false := by rfl)
    (hsw : swapsWith (.Call (.Attribute (.Subscript (.Name x p) b ip) "append" apos) [e] [] cpos) none pos.line X.env = pure false := by rfl) :
    S1 X W ss (.Expr (.Call (.Attribute (.Subscript (.Name x p) b ip) "append" apos) [e] [] cpos) pos) (mk.bind fun k => (idx ass k).bind fun as => m.bind fun a => (appR as a).bind fun as' => .ok (setI ass k as')) (fun ass' => ss.set i (os (lsO l1) ass')) := by
  have hx := pe_bm PySem.F.plainAttrs_list PySem.F.slot_list_append PySem.F.type_list_append mt_append (pe_ix ix_list hp hb hpl) (pa_cons h pa_nil hst) hbase hfew hline hst hplain
  refine PS_imp (ps_expr hx hsw) fun D σ H ⟨B, F0, F, Gs, A, q⟩ => ?_
  obtain ⟨G, v0, hG, hσ, p, vs, gs, e0, hp, hg, pw, r⟩ := all3_os A.all hs
  subst e0
  have hH := A.sub G (List.mem_of_getElem? hG) _ _ hp
  refine ⟨.ref p, hσ, A.sl.mono A.ext.sub (Same.refl H), wpS_R (wpS_bind q) A.base fun k q w H1 s1 rk => ?_⟩
  have A1 := A.grow s1 (F' := F) ⟨Same.refl F, A.ext.sub.trans s1, fun _ _ h => .inl h⟩
  have q := wpS_bind q
  obtain ⟨as, n, hn, has, q⟩ := wpS_idx q
  obtain ⟨vq, g, hvq, hgq, ⟨qa, ws, e1, hqa, rq⟩⟩ := r.get has
  subst e1
  have hH1 := s1 _ _ hH
  have hq1 : H1 qa = some (.lst ws) := A1.sub G (List.mem_of_getElem? hG) _ _ ((hg g (List.mem_of_getElem? hgq)).1 _ _ hqa)
  have hat : atI vs k = some (.ref qa) := by
    unfold atI
    rw [r.length, hn]; exact hvq
  refine ⟨p, vs, k, .ref qa, rfl, rk, SqL.of hH1, hat, .inl ⟨rfl, ws, SqL.of hq1⟩, F, A1.ext.sub, A1.sl, wpS_R (wpS_bind q) A1.base fun a q v H' F' G' s ex pr kk => ?_⟩
  obtain ⟨v', e1, rv⟩ := kk
  cases e1
  have A' := A1.grow s ex
  obtain ⟨g1, q⟩ := wpS_guard (wpS_bind q)
  refine ⟨qa, ws, v, rfl, rfl, s _ _ hq1, by rw [rq.length]; exact Nat.lt_of_le_of_lt (of_decide_eq_true g1) (by decide), ?_⟩
  obtain ⟨Gs', A2⟩ := A'.inner hG hσ hp hg pw (r.imp fun _ _ _ z => (l1 (α := α)).mF ex.le z) hvq hgq hqa (as' := as ++ [a]) (ws' := ws ++ [v]) (All2.append (bs' := [a]) (rq.mono ex.le) ⟨rv, trivial⟩)
  have q : NxOk X (ss.set i (os (lsO l1) (setI ass k (as ++ [a])))) D B F0 := q
  unfold setI at q
  rw [hn] at q
  exact q _ _ _ _ A2
theorem Asn.at {K : Frag} {B F0 H F : Hp} {ss : List Slot} {σ : L2.St} {Gs : List Hp} {i : Nat} {s t : Slot} (A : Asn K B F0 ss σ H F Gs) (hs : ss[i]? = some s) (h : ∀ G o, s.P K F G o → t.P K F G o) : Asn K B F0 (ss.set i t) σ H F Gs := by
  obtain ⟨G, o, hG, hσ, x⟩ := A.all.get hs
  have := A.all.set (h _ _ x) i
  rw [set_self hG, set_self hσ] at this
  exact ⟨A.ext, A.base, this, A.priv, A.dj⟩
end
end G

namespace G
open PySem PySem.Spec PyProof.Rows L2
section
variable {X : Cx} {W : WX} {ss : List Slot} {st : Stmt} {rest : List Stmt} {e b tg : Expr} {pos : Pos}
theorem Asn.clr {K : Frag} {B F0 H F G : Hp} {ss : List Slot} {σ : L2.St} {Gs : List Hp} {i : Nat} {p : Addr} {vs : List V} {s : Slot} (A : Asn K B F0 ss σ H F Gs) (hG : Gs[i]? = some G) (hσ : σ[i]? = some (some (.ref p))) (hp : G p = some (.lst vs)) (hx : s.P K F (upd noHp p (.lst [])) (some (.ref p))) :
    Asn K B F0 (ss.set i s) σ (upd H p (.lst [])) F (Gs.set i (upd noHp p (.lst []))) := by
  have := A.chg (s := s) (o := some (.ref p)) (G2 := upd noHp p (.lst [])) (H' := upd H p (.lst [])) hG (fun c u z h => by rw [upd_ne (fun e => by rw [e, hp] at z; cases z)]; exact h) (fun c u z => by
    by_cases e : c = p
    · subst e
      rw [upd_same] at z ⊢; cases z
      exact ⟨rfl, rfl, .inl (by rw [hp]; exact fun h => nomatch h)⟩
    · rw [upd_ne e] at z; cases z) hx
  rw [set_self hσ] at this
  exact this
theorem slotX {w : Ends → Hp → Hp → Prop} (i : Nat) {s t : Slot} {sts : List Stmt} (h : PSs X sts (rdX X (ss.set i t) w)) (hs : ss[i]? = some s) (f : ∀ K F G o, s.P K F G o → t.P K F G o) : PSs X sts (rdX X ss w) :=
  PSs_imp h fun D σ H ⟨B, F0, F, Gs, A, q⟩ => ⟨B, F0, F, Gs, A.at hs (f _ _), q⟩
theorem ow_os {α : Type} [Enc α] {as : List α} : ∀ K F G o, (ow as).P K F G o → (os l1 as).P K F G o := fun K F G o ⟨p, vs, e, g, r⟩ => ⟨.ref p, e, p, vs, rfl, g, r⟩
theorem sn_slot (i : Nat) {s t : Slot} (f : ∀ K F G o, s.P K F G o → t.P K F G o) {S : Type} {sts : List Stmt} {M : Res S} {post : S → List Slot} (h : SN X W (ss.set i t) sts M post) (hs : ss[i]? = some s := by rfl) : SN X W ss sts M post := slotX i h hs f
theorem frozO {w : Ends → Hp → Hp → Prop} (i : Nat) {α : Type} [Enc α] {d : Ow α} {a : α} {sts : List Stmt} (h : PSs X sts (rdX X (ss.set i (fr a)) w)) (hs : ss[i]? = some (os d a)) : PSs X sts (rdX X ss w) := by
  refine PSs_imp h fun D σ H ⟨B, F0, F, Gs, A, q⟩ => ?_
  obtain ⟨G, v, hG, hσ, r⟩ := all3_os A.all hs
  have hm := List.mem_of_getElem? hG
  have sG := A.sub G hm
  have hl := (List.getElem?_eq_some_iff.mp hG).1
  refine ⟨B, F0, join F G, Gs.set i noHp, ⟨⟨A.ext.le.trans join_l, join_le A.ext.sub sG, fun c u z => (join_or z).elim (A.ext.new c u) fun z => .inr (.inl (A.priv G hm c u z).2.1)⟩, A.base, ?_, fun G' m c u z => ?_, ?_⟩, q⟩
  · have e := set_self hσ
    rw [← e]
    exact (A.all.mono join_l).set (s := fr a) ⟨v, rfl, d.view r join_l (join_r A.ext.sub sG)⟩ i
  · rcases mem_set_ix hl m with e | ⟨j, hji, hj⟩
    · subst e; cases z
    · obtain ⟨k1, k2, k3, k4⟩ := A.priv G' (List.mem_of_getElem? hj) c u z
      refine ⟨k1, k2, ?_, k4⟩
      have gc : G c = none := (dj_of A.dj hj hG hji c).elim (fun y => by rw [y] at z; cases z) id
      unfold join
      rw [k3]
      exact gc
  · exact pw_set i A.dj fun G' _ c => .inl rfl
theorem st_frozO (i : Nat) {α R : Type} [Enc α] {d : Ow α} {a : α} {ee : Bool} {sts : List Stmt} {M : Res R} {kr : R → Slot} (h : ST X W ee (ss.set i (fr a)) sts M kr) (hs : ss[i]? = some (os d a) := by rfl) : ST X W ee ss sts M kr := frozO i h hs
theorem rt_slot (i : Nat) {R : Type} {kr : R → Slot} {r : R} {x : Str} {rp pos : Pos} (hs : ss[i]? = some (kr r)) (hk : ∀ K F G o, (kr r).P K F G o → ∃ v, o = some v) (hp : PE X (.Name x rp) (tVar i)) : PS X (.Return (some (.Name x rp)) pos) (rdX X ss fun D B F0 => wpS X W (.ok r) B fun r => RtOk X kr r D B F0) := by
  refine PS_imp (ps_ret hp) fun D σ H ⟨B, F0, F, Gs, A, q⟩ => ?_
  obtain ⟨G, o, hG, hσ, r⟩ := A.all.get hs
  obtain ⟨v, e⟩ := hk _ _ _ _ r
  subst e
  exact ⟨v, hσ, q _ H F G A.base A.ext (A.priv G (List.mem_of_getElem? hG)) r⟩
theorem os_some {α : Type} [Enc α] {d : Ow α} {a : α} : ∀ K F G o, (os d a).P K F G o → ∃ v, o = some v := fun _ _ _ _ ⟨v, e, _⟩ => ⟨v, e⟩
theorem st_retO (i : Nat) {α : Type} [Enc α] {d : Ow α} {a : α} {ee : Bool} {x : Str} {rp pos : Pos} (hs : ss[i]? = some (os d a) := by rfl) (hp : PE X (.Name x rp) (tVar i) := by exact pv _) : ST X W ee ss (.Return (some (.Name x rp)) pos :: rest) (.ok a) (os d) :=
  PSs_imp (rest_free (rt_slot (W := W) i hs os_some hp) fun D D' σ H e1 _ _ ⟨B, F0, F, Gs, A, q⟩ => ⟨B, F0, F, Gs, A, wpS_imp q fun r q v H' F' G' a b c d => by rw [e1]; exact q v H' F' G' a b c d⟩)
    fun D σ H ⟨B, F0, F, Gs, A, _, q⟩ => ⟨B, F0, F, Gs, A, q⟩
end
end G

namespace G
open PySem PySem.Spec PyProof.Rows L2
section
variable {X : Cx} {W : WX} {ss : List Slot} {tg elt iter : Expr} {scope : Scope} {own : List (Str × Nat)} {pos : Pos}
theorem lcR_noX {α β : Type} {p : α → Res Bool} {gg : α → Res β} : ∀ (l : List α) (x : Exn), lcR p gg l ≠ .exc x := by
  intro l
  induction l with
  | nil => intro x h; cases h
  | cons a as ih =>
    intro x h
    unfold lcR at h
    split at h
    · split at h
      · cases e2 : lcR p gg as with
        | ok bs => rw [e2] at h; cases h
        | exc y => exact ih y e2
        | stuck => rw [e2] at h; cases h
      · cases h
    · exact ih x h
    · cases h
theorem lc_readO {α β : Type} [Enc α] [Enc β] {d : Ow β} {vs : List Nat} {u : α → List Slot → List Slot} {m : Res (List α)} {p : α → Res Bool} {gg : α → Res β} {g : TG}
    (qg : ∀ (a : α) (v : V) (F H : Hp) (ss : List Slot) (σ : L2.St) (Q : L2.St → Hp → Prop), Sl X.K F H ss σ → Same F H → Enc.rep X.K F v a → (∀ σ', Sl X.K F H (u a ss) σ' → L2.wipe σ' vs = L2.wipe σ vs → Q σ' H) → g v σ H Q)
    {σ : L2.St} {H : Hp} {Q : VK} {F : Hp} (sf : Same F H) (sl : Sl X.K F H ss σ)
    (q : wpR X W (m.bind fun xs => lcT p gg xs) σ H fun a => ∀ v H' F' G', Same H H' → Ext F H F' H' → Priv G' H F' H' → (os (lsO d) a).P X.K F' G' (some v) → Q v H') :
    tLc (rdPI X W ss m) g (fun σ H Q => ∃ a, rT X WF (u a (wipeS ss vs)) (p a) σ H Q) (fun σ H Q => ∃ a, rK X WF (u a (wipeS ss vs)) (gg a) (os d) σ H Q) vs σ H Q := by
  refine ⟨F, sf, sl, wpR_imp (wpR_bind q) (Same.refl H) fun xs q J H1 F1 s1 ex1 it D nD => ?_⟩
  obtain ⟨hlen, q⟩ := wpR_guard q
  have hlen : xs.length ≤ 1000000 := of_decide_eq_true hlen
  have nF1 : F1 D = none := Same.free ex1.sub nD
  obtain ⟨bs, ebs⟩ : ∃ bs, lcR p gg xs = .ok bs := by
    cases e : lcR p gg xs with
    | ok bs => exact ⟨bs, rfl⟩
    | stuck => rw [e] at q; exact q.elim
    | exc x => exact (lcR_noX xs x e).elim
  rw [ebs] at q
  refine ⟨fun i n H => i + n = xs.length ∧ ∃ acc F2 done left gs, H D = some (.lst acc) ∧ acc.length ≤ i ∧ Same H1 H ∧ Ext F1 H1 F2 H ∧ F2 D = none ∧ AllO (d.own X.K F2) acc gs done ∧ (∀ g ∈ gs, Priv g H1 F2 H ∧ g D = none) ∧ gs.Pairwise Dj ∧ lcR p gg (xs.drop i) = .ok left ∧ bs = done ++ left,
    ⟨xs.length, by omega, [], F1, [], bs, [], upd_same, Nat.le_refl _, same_upd nD, ⟨Same.refl _, ex1.sub.trans (same_upd nD), fun _ _ h => .inl h⟩, nF1, trivial, (fun _ m => by cases m), .nil, ebs, rfl⟩, fun i n H2 ⟨hn, acc, F2, done, left, gs, hD, hacc, s2, ex2, nF2, ra, hg, pw, el, eb⟩ => ?_⟩
  by_cases hlt : i < xs.length
  · refine .inr ?_
    have hx : xs[i]? = some xs[i] := List.getElem?_eq_getElem hlt
    obtain ⟨hgo, hy⟩ := it.go i F2 H2 xs[i] ex2.le ex2.sub hx
    rw [List.drop_eq_getElem_cons hlt] at el
    unfold lcR at el
    refine ⟨hgo, fun H' => ∃ acc F2 done left gs, H' D = some (.lst acc) ∧ acc.length ≤ i + 1 ∧ Same H1 H' ∧ Ext F1 H1 F2 H' ∧ F2 D = none ∧ AllO (d.own X.K F2) acc gs done ∧ (∀ g ∈ gs, Priv g H1 F2 H' ∧ g D = none) ∧ gs.Pairwise Dj ∧ lcR p gg (xs.drop (i + 1)) = .ok left ∧ bs = done ++ left,
      fun H' x => ⟨n - 1, by omega, by omega, x⟩, fun v H' y => ?_⟩
    obtain ⟨s3, F3, ex3, r3⟩ := hy v H' y
    have keepD : ∀ {Fa Fb Ha Hb : Hp}, Fa D = none → Ext Fa Ha Fb Hb → Ha D = some (.lst acc) → Same Ha Hb → Fb D = none := fun {Fa Fb Ha Hb} n0 ex hh ss => by
      cases e : Fb D with
      | none => rfl
      | some w =>
        rcases ex.new D w e with z | z | z
        · rw [n0] at z; cases z
        · rw [hh] at z; cases z
        · have t := ex.sub _ _ e
          rw [ss _ _ hh] at t; cases t; cases z
    -- what is owned stays so
    have keepG : ∀ {g Fa Fb Ha Hb : Hp}, Priv g H1 Fa Ha → Ext Fa Ha Fb Hb → Same Ha Hb → Priv g H1 Fb Hb := fun {g Fa Fb Ha Hb} pr ex ss c w z => by
      obtain ⟨k1, k2, k3, k4⟩ := pr c w z
      refine ⟨ss _ _ k1, k2, ?_, k4⟩
      cases e : Fb c with
      | none => rfl
      | some y =>
        rcases ex.new c y e with z | z | z
        · rw [k3] at z; cases z
        · rw [k1] at z; cases z
        · have t := ex.sub _ _ e
          rw [ss _ _ k1] at t; cases t
          rw [k4] at z; cases z
    have nF3 := keepD nF2 ex3 hD s3
    have hD3 := s3 _ _ hD
    have slW : Sl X.K F3 H' (wipeS ss vs) (L2.wipe σ vs) := (sl.wipe vs).mono (ex1.le.trans (ex2.le.trans ex3.le)) (s1.trans (s2.trans s3))
    refine qg xs[i] v F3 H' (wipeS ss vs) (L2.wipe σ vs) _ slW ex3.sub r3 fun σ4 sl4 e4 => ⟨e4.trans (wipe_self vs vs σ fun _ m => m), xs[i], sl4.mono ex3.sub (Same.refl H'), ?_⟩
    cases ep : p xs[i] with
    | stuck => rw [ep] at el; cases el
    | exc x => rw [ep] at el; cases el
    | ok b =>
      rw [ep] at el
      intro H5 s5
      have ex5 : Ext F3 H' F3 H5 := ⟨Same.refl _, ex3.sub.trans s5, fun _ _ h => .inl h⟩
      have exF : Ext F1 H1 F3 H5 := ex2.trans s2 (ex3.trans s3 ex5)
      have hg5 : ∀ g ∈ gs, Priv g H1 F3 H5 ∧ g D = none := fun g m => ⟨keepG (keepG (hg g m).1 ex3 s3) ex5 s5, (hg g m).2⟩
      cases b with
      | false =>
        rw [if_neg Bool.false_ne_true]
        exact ⟨acc, F3, done, left, gs, s5 _ _ hD3, Nat.le_succ_of_le hacc, s2.trans (s3.trans s5), exF, nF3, ra.imp fun _ _ _ z => d.mF ex3.le z, hg5, pw, el, eb⟩
      | true =>
        rw [if_pos rfl]
        refine ⟨xs[i], F3, ex5.sub, sl4.mono (Same.refl F3) s5, ?_⟩
        cases eg : gg xs[i] with
        | stuck => rw [eg] at el; cases el
        | exc x => rw [eg] at el; cases el
        | ok b =>
          rw [eg] at el
          intro y H6 F6 G6 s6 ex6 pr6 ⟨y', e6, r6⟩
          cases e6
          have hD5 := s5 _ _ hD3
          have nF6 := keepD nF3 ex6 hD5 s6
          have hD6 := s6 _ _ hD5
          obtain ⟨left', el'⟩ : ∃ l, lcR p gg (xs.drop (i + 1)) = .ok l := by
            cases e7 : lcR p gg (xs.drop (i + 1)) with
            | ok l => exact ⟨l, rfl⟩
            | exc x => rw [e7] at el; cases el
            | stuck => rw [e7] at el; cases el
          rw [el'] at el
          have el2 : b :: left' = left := by injection el
          have nD1 : H1 D = none := nD
          have nG6 : G6 D = none := by
            cases e : G6 D with
            | none => rfl
            | some w => rw [(pr6 D w e).2.1] at hD5; cases hD5
          have sU : Same H1 (upd H6 D (.lst (acc ++ [y]))) := fun c w z => by
            rw [upd_ne (fun e => by rw [e, nD1] at z; cases z)]
            exact s6 _ _ (s5 _ _ (s3 _ _ (s2 _ _ z)))
          refine ⟨acc, hD6, Nat.lt_of_le_of_lt (by omega : acc.length ≤ 1000000) (by decide), acc ++ [y], F6, done ++ [b], left', gs ++ [G6], upd_same, by rw [List.length_append, List.length_singleton]; omega, sU, ⟨exF.le.trans ex6.le, fun c w z => ?_, fun c w z => ?_⟩, nF6, (ra.imp fun _ _ _ z => d.mF (ex3.le.trans ex6.le) z).append (as' := [b]) ⟨r6, trivial⟩, fun g mg => ?_, ?_, el', by rw [eb, ← el2]; simp⟩
          · rw [upd_ne (fun e => by rw [e, nF6] at z; cases z)]
            exact ex6.sub _ _ z
          · rcases ex6.new c w z with z | z | z
            · exact exF.new c w z
            · exact .inr (.inl (Same.free (s2.trans (s3.trans s5)) z))
            · exact .inr (.inr z)
          · have up : ∀ {g : Hp}, Priv g H1 F6 H6 → g D = none → Priv g H1 F6 (upd H6 D (.lst (acc ++ [y]))) ∧ g D = none := fun {g} pr gd => ⟨fun c w z => by
              obtain ⟨k1, k2, k3, k4⟩ := pr c w z
              exact ⟨by rw [upd_ne (fun e => by rw [e, gd] at z; cases z)]; exact k1, k2, k3, k4⟩, gd⟩
            rcases List.mem_append.mp mg with mg | mg
            · exact up (keepG (hg5 g mg).1 ex6 s6) (hg5 g mg).2
            · cases List.mem_singleton.mp mg
              exact up (fun c w z => by
                obtain ⟨k1, k2, k3, k4⟩ := pr6 c w z
                exact ⟨k1, Same.free (s2.trans (s3.trans s5)) k2, k3, k4⟩) nG6
          · refine List.pairwise_append.mpr ⟨pw, List.pairwise_singleton _ _, fun g mg g' m' c => ?_⟩
            cases List.mem_singleton.mp m'
            cases e : g c with
            | none => exact .inl rfl
            | some w =>
              refine .inr ?_
              have := ((hg5 g mg).1 c w e).1
              cases e2 : G6 c with
              | none => rfl
              | some y => rw [(pr6 c y e2).2.1] at this; cases this
  · refine .inl ⟨it.stop i F2 H2 ex2.le ex2.sub (by omega), ?_⟩
    rw [List.drop_eq_nil_iff.mpr (by omega)] at el
    have e0 : ([] : List β) = left := by injection el
    subst e0
    rw [List.append_nil] at eb
    subst eb
    have nH : H D = none := Same.free s1 nD
    -- all that is owned
    refine q (.ref D) H2 F2 (fun c => if c = D then some (.lst acc) else if ∃ g ∈ gs, g c ≠ none then H2 c else none) (s1.trans s2) (ex1.trans s1 ex2) (fun c w z => ?_) ⟨.ref D, rfl, D, acc, gs, rfl, if_pos rfl, fun g mg => ⟨fun c w z => ?_, (hg g mg).2⟩, pw, ra⟩
    · by_cases e : c = D
      · subst e
        have z : some (HO.lst acc) = some w := (if_pos rfl).symm.trans z
        cases z
        exact ⟨hD, nH, nF2, rfl⟩
      · have z : (if ∃ g ∈ gs, g c ≠ none then H2 c else none) = some w := (if_neg e).symm.trans z
        by_cases h : ∃ g ∈ gs, g c ≠ none
        · rw [if_pos h] at z
          obtain ⟨g, mg, hgc⟩ := h
          cases eg : g c with
          | none => exact (hgc eg).elim
          | some y =>
            obtain ⟨k1, k2, k3, k4⟩ := (hg g mg).1 c y eg
            rw [z] at k1; cases k1
            exact ⟨z, Same.free s1 k2, k3, k4⟩
        · rw [if_neg h] at z; cases z
    · have hc : c ≠ D := fun e => by rw [e, (hg g mg).2] at z; cases z
      have := ((hg g mg).1 c w z).1
      exact (if_neg hc).trans ((if_pos ⟨g, mg, by rw [z]; exact fun h => nomatch h⟩).trans this)
theorem s1_lcO (i : Nat) {α β : Type} [Enc α] [Enc β] {d : Ow β} {y : Str} {py spos : Pos} {u : α → List Slot → List Slot} {m : Res (List α)} {gg : α → Res β} (hi : XIt X W ss tg iter m) (hg : TgC X scope (own.map (·.2)) tg u)
    (he : ∀ a s H C cl fp, XK (X.blk s H scope (compEnvC scope cl C X.env) fp) WF (u a (wipeS ss (own.map (·.2)))) elt (gg a) (os d)) (hN : X.N.Nodup) (ok : BlkOk X.N X.env.scope scope own) (hsw : swapsWith (.ListComp elt [⟨tg, iter, [], 0⟩] scope pos) (some (.Name y py)) spos.line X.env = pure true)
    (hy : X.N[i]? = some y := by rfl) (hyl : X.env.scope.names.lookup y = some .local := by rfl) (hc : X.calm = true := by rfl) (hs : ∀ x, foldedSetIterable iter X.env x = pure x := by intro _; rfl) :
    S1 X W ss (.Assign [.Name y py] (.ListComp elt [⟨tg, iter, [], 0⟩] scope pos) spos) (m.bind fun xs => lcT (fun _ => .ok true) gg xs) (fun bs => ss.set i (os (lsO d) bs)) := by
  obtain ⟨g, pg, qg⟩ := hg
  have he' : ∀ (s : Shared) (H : Hp) (C : Addr) (cl : List (Str × Addr)) (fp : List Addr), PE (X.blk s H scope (compEnvC scope cl C X.env) fp) elt (fun σ H Q => ∃ a, rK X WF (u a (wipeS ss (own.map (·.2)))) (gg a) (os d) σ H Q) := fun s H C cl fp =>
    ⟨fun pins s' σ H' Q I ⟨a, q⟩ => (he a s H C cl fp).run pins s' σ H' Q I q⟩
  have ht' : ∀ (s : Shared) (H : Hp) (C : Addr) (cl : List (Str × Addr)) (fp : List Addr), PTs (X.blk s H scope (compEnvC scope cl C X.env) fp) [] (fun σ H Q => ∃ a, rT X WF (u a (wipeS ss (own.map (·.2)))) ((fun _ => .ok true : α → Res Bool) a) σ H Q) := fun s H C cl fp =>
    ⟨fun pins s' σ H' Q I ⟨a, sl, q⟩ => pts_nil.run pins s' σ H' Q I (q H' (Same.refl H'))⟩
  refine PS_imp (ps_setLc hc hN hy hyl hsw hi ok pg ht' he' hs) fun D σ H ⟨B, F0, F, Gs, A, q⟩ => lc_readO qg A.ext.sub A.sl (wpS_R q A.base fun a q v H' F' G' s ex pr k => ?_)
  exact q _ H' F' _ (A.set (s := os (lsO d) a) s ex pr k i)
end
end G

namespace G
open PySem PySem.Spec PyProof.Rows L2
section
variable {X : Cx} {W : WX} {ss : List Slot} {pos : Pos} {a b : Expr}
theorem xk_ixL {α : Type} [Enc α] {m1 : Res (List α)} {m2 : Res Int} (h1 : XK X W ss a m1 fr) (h2 : XI X W ss b m2) (hs : PlainIx b := by exact fun _ _ => rfl) : XK X W ss (.Subscript a b pos) (m1.bind fun xs => m2.bind fun i => idx xs i) fr := by
  refine PE_imp (pe_ix ix_list h1 h2 hs) fun σ H Q ⟨F, sf, sl, q⟩ => ⟨F, sf, sl, wpR_imp (wpR_bind q) (Same.refl H) fun xs q v H1 F1 G1 s1 ex1 _ k1 => ?_⟩
  obtain ⟨v', e1, p, vs, rfl, hp, r⟩ := k1
  cases e1
  refine ⟨(sl.mono sf (Same.refl H)).mono s1 s1, wpR_imp (wpR_bind q) s1 fun i q w H2 s2 e2 => ?_⟩
  unfold idx at q
  cases e : atI xs i with
  | none => rw [e] at q; exact q.elim
  | some x =>
    rw [e] at q
    obtain ⟨u, hu, ru⟩ := atI_all2 r e
    refine ⟨p, vs, i, u, rfl, e2, SqL.of (s2 _ _ (ex1.sub _ _ hp)), hu, ?_⟩
    exact q u H2 F1 noHp (s1.trans s2) ⟨ex1.le, ex1.sub.trans s2, ex1.new⟩ priv_no ⟨u, rfl, ru⟩
theorem s1_extI (i : Nat) {α : Type} [Enc α] [Imm α] {as : List α} {e : Expr} {m : Res (List α)} {x : Str} {p apos cpos : Pos} (h : XI X W ss e m) (hs : ss[i]? = some (ow as) := by rfl) (hp : PE X (.Name x p) (tVar i) := by exact pv _)
    (hbase : attributeBase (.Name x p) "extend" X.env (eval (.Name x p) X.env) = eval (.Name x p) X.env := by rfl)
    (hfew : ((backTo cpos (starEach [e] X.env)).all (fun x => !x.1) && (backToKw cpos (keywordEach [] X.env)).all (fun x => x.1.isSome)
      && decide (([e] : List Expr).length + ([] : List Keyword).length + (if ([] : List Keyword).isEmpty then 0 else 1) < 30)) = true := by rfl)
    (hline : (apos.endLine == cpos.line) = true := by rfl) (hst : starEach [e] X.env = (false, eval e X.env) :: starEach [] X.env := by rfl) (hplain : (backTo cpos (starEach [] X.env)).any (·.1) = false := by rfl)
    (hsw : swapsWith (.Call (.Attribute (.Name x p) "extend" apos) [e] [] cpos) none pos.line X.env = pure false := by rfl) :
    S1 X W ss (.Expr (.Call (.Attribute (.Name x p) "extend" apos) [e] [] cpos) pos) (m.bind fun ys => extR as ys) (fun as' => ss.set i (ow as')) := by
  have hx := pe_bm PySem.F.plainAttrs_list PySem.F.slot_list_extend PySem.F.type_list_extend mt_extend hp (pa_cons h pa_nil hst) hbase hfew hline hst hplain
  refine PS_imp (ps_expr hx hsw) fun D σ H ⟨B, F0, F, Gs, A, q⟩ => ?_
  obtain ⟨G, p, vs, hG, hσ, hp, r⟩ := all3_ow A.all hs
  have hH := A.sub G (List.mem_of_getElem? hG) _ _ hp
  refine ⟨.ref p, hσ, .inl ⟨rfl, vs, SqL.of hH⟩, A.sl.mono A.ext.sub (Same.refl H), wpS_R (wpS_bind q) A.base fun ys q v H' s ⟨p2, ws, e2, hp2, rv⟩ => ?_⟩
  have A' := A.grow (F' := join F (tups H')) s (ext_imm A.ext.sub s)
  unfold extR at q
  cases g : big (as.length + ys.length) with
  | false => rw [g] at q; exact q.elim
  | true =>
    rw [g] at q
    refine ⟨p, p2, vs, ws, rfl, by rw [e2], s _ _ hH, hp2, by rw [r.length, rv.length]; exact big_line g, ?_⟩
    exact q _ _ _ _ (A'.put hG hσ hp (All2.append (r.mono join_l) (All2.imp (fun _ _ z => Enc.mono (join_r (A.ext.sub.trans s) (tups_le H')) (Imm.imm z)) rv)))
end
end G

namespace G
open PySem PySem.Spec PyProof.Rows L2
section
variable {X : Cx} {W : WX} {ss : List Slot} {pos : Pos} {a b e : Expr} {es : List Expr}
structure Sm (X : Cx) (r : V → List V → Hp → VK → Prop) {A R : Type} [EncA A] [Enc R] (g : Str → A → Res R) : Prop where
  op : ∀ (z : Str) (x : A) (vs : List V) (H : Hp) (Q : VK), EncA.rep X.K H vs x → okR (g z x) (fun c => ∀ v' H', Same H H' → Enc.rep X.K H' v' c → Q v' H') → r (.str z) vs H Q
  nx : ∀ z x, NoX (g z x)
theorem okR_of {α : Type} {m : Res α} {σ : L2.St} {H : Hp} {P : α → Prop} (h : wpR X W m σ H P) (n : NoX m) : okR m P := by
  unfold okR
  cases e : m with
  | ok c => rw [e] at h; exact h
  | exc x => exact n x e
  | stuck => rw [e] at h; exact h
def maxL : List Int → Int
  | [] => 0
  | a :: as => as.foldl max a
def minL : List Int → Int
  | [] => 0
  | a :: as => as.foldl min a
theorem x_chain {op op' : CmpOp} {r r' : R2} {α β γ : Type} [Enc α] [Enc β] [Enc γ] {g : α → β → Res Bool} {g' : β → γ → Res Bool} {c : Expr} {ma : Res α} {mb : Res β} {mc : Res γ} (ho : OpR X (compareOp op) r) (bi : Bi X r g) (ho' : OpR X (compareOp op') r') (bi' : Bi X r' g')
    (ha : XI X W ss a ma) (hb : XI X W ss b mb) (hc : XI X W ss c mc) (hm : lastMarks [op, op'] [b, c] = false := by with_unfolding_all rfl) :
    XI X W ss (.Compare a [op, op'] [b, c] pos) (ma.bind fun x => mb.bind fun y => (g x y).bind fun t => if t then mc.bind fun z => g' y z else .ok false) := by
  refine PE_imp (pe_chain ho ho' ha hb hc hm) fun σ H Q ⟨sl, q⟩ => ⟨sl, wpR_imp (wpR_bind q) (Same.refl H) fun x q v H1 s1 r1 => ⟨sl.mono s1 s1, wpR_imp (wpR_bind q) s1 fun y q w H2 s2 r2 => ?_⟩⟩
  refine bi.op x y v w H2 _ (Enc.mono s2 r1) r2 ?_
  have q := okR_of (wpR_bind q) (bi.nx x y)
  unfold okR at q ⊢
  cases e : g x y with
  | exc x => rw [e] at q; exact q
  | stuck => rw [e] at q; exact q
  | ok t =>
    rw [e] at q
    intro v' H3 s3 r3
    have r3 : v' = .bl t := r3
    refine ⟨t, r3, ?_⟩
    cases t with
    | false => exact q _ H3 (s1.trans (s2.trans s3)) rfl
    | true =>
      refine ⟨sl.mono (s1.trans (s2.trans s3)) (s1.trans (s2.trans s3)), wpR_imp (wpR_bind q) (s1.trans (s2.trans s3)) fun z q u H4 s4 r4 => ?_⟩
      refine bi'.op y z w u H4 Q (Enc.mono (s3.trans s4) r2) r4 ?_
      have q := okR_of q (bi'.nx y z)
      unfold okR at q ⊢
      cases e : g' y z with
      | exc x => rw [e] at q; exact q
      | stuck => rw [e] at q; exact q
      | ok t => rw [e] at q; exact fun v' H' s5 r5 => q v' H' (s1.trans (s2.trans (s3.trans (s4.trans s5)))) r5
end
end G

namespace G
open PySem PySem.Spec PyProof.Rows L2
class DKK (κ : Type) [Enc κ] [DecidableEq κ] [DK κ] where
  f : κ → Key
  inj : ∀ a b, f a = f b → a = b
  ho : ∀ kvs : List (κ × V), DK.ho kvs = hoK f kvs
  rep : ∀ {K : Frag} {H : Hp} {v : V} {k : κ}, Enc.rep K H v k → v = kV (f k)
instance : DKK Int := ⟨.inl, fun _ _ e => Sum.inl.inj e, fun _ => rfl, fun h => h⟩
instance : DKK Str := ⟨.inr, fun _ _ e => Sum.inr.inj e, fun _ => rfl, fun h => h⟩
def dofL {κ β : Type} [DecidableEq κ] (kvs : List (κ × β)) : Dic κ β := kvs.foldl (fun d kv => dput d kv.1 kv.2) ⟨[]⟩
section
variable {X : Cx} {W : WX} {ss : List Slot} {pos : Pos} {κ β : Type} [Enc κ] [DecidableEq κ] [DK κ] [DKK κ] [Enc β]
def XPP (X : Cx) (W : WX) (ss : List Slot) (pos : Pos) (keys : List (Option Expr)) (values : List Expr) (m : Res (List (κ × β))) : Prop :=
  ∃ trs, PPs X pos keys values trs ∧ ∀ σ H F Q, Same F H → Sl X.K F H ss σ → wpR X W m σ H (fun kvs => ∀ ps H' F', kvs.length = keys.length → Same H H' → Ext F H F' H' → All2 (fun (p : V × V) (kv : κ × β) => p.1 = kV (DKK.f kv.1) ∧ Enc.rep X.K F' p.2 kv.2) ps kvs → Q ps H') → tPairs trs σ H Q
end
end G

namespace G
open PySem PySem.Spec PyProof.Rows L2
section
variable {X : Cx} {W : WX} {ss : List Slot} {pos : Pos} {a b e : Expr} {es : List Expr}
theorem vals_range (a : Int) : ∀ (n : Nat) (acc : Array Value), ItemsOf (fun i v => ∃ t, v = Value.int (a + i * 1) t) acc n → Vals ((rangeL a n).map V.int) acc.toList := by
  intro n acc h
  obtain ⟨hl, hi⟩ := h
  have go : ∀ (vs : List Value) (k : Nat), (∀ j v, vs[j]? = some v → ∃ t, v = Value.int (a + ((k + j : Nat) : Int)) t) → Vals (((List.range' k vs.length).map fun (i : Nat) => a + (i : Int)).map V.int) vs := by
    intro vs
    induction vs with
    | nil => intro k _; exact .nil
    | cons v vs ih =>
      intro k h
      rw [List.length_cons, List.range'_succ, List.map_cons, List.map_cons]
      obtain ⟨t, ht⟩ := h 0 v rfl
      exact .cons ⟨t, ht⟩ (ih (k + 1) fun j u hj => by
        obtain ⟨t', ht'⟩ := h (j + 1) u hj
        refine ⟨t', ht'.trans ?_⟩
        congr 2; omega)
  have := go acc.toList 0 fun j v hj => by
    obtain ⟨t, ht⟩ := hi j v (by rw [← hj, Array.getElem?_toList])
    refine ⟨t, ht.trans ?_⟩
    congr 1
  have e : acc.toList.length = n := by rw [Array.length_toList]; exact hl
  rw [e, ← List.range_eq_range'] at this
  exact this
def tListR (tr : L2.St → Hp → (Int → Int → Hp → Prop) → Prop) : TE := fun σ H Q => tr σ H fun a b H1 => -(2 ^ 62) ≤ a ∧ a < 2 ^ 62 ∧ -(2 ^ 62) ≤ b ∧ b < 2 ^ 62 ∧ (b - a).toNat ≤ 1000000 ∧ ∀ p, H1 p = none → Q (.ref p) (upd H1 p (.lst ((rangeL a (b - a).toNat).map V.int)))
theorem pe_listR {tr : L2.St → Hp → (Int → Int → Hp → Prop) → Prop} {p : Pos} (hc : X.calm = true) (hg : Gl X "list") (hm : X.mg "list" = none) (he : PRg X e tr) (hs : starEach [e] X.env = (false, eval e X.env) :: starEach [] X.env) :
    PE X (.Call (.Name "list" p) [e] [] pos) (tListR tr) := by
  refine ⟨fun pins s σ H Q I h => ?_⟩
  refine Call_ (ld_blt I hg hm (by decide +kernel : bootBuiltins "list" = some (.type "list")) (PyProof.Rows.callWith_type1 (args_cons (thn (he pins s σ H _ I h) fun u s1 hx => args_nil ?_) hs) hs rfl))
  obtain ⟨r, a, b, t, w1, v, H1, eu, hr, I1, b1, b2, b3, b4, b5, q⟩ := hx
  subst eu
  have hn : Builtin.Range.rangeSize a b 1 = (((b - a).toNat : Nat) : Int) := rangeSize_nat a b
  refine call_list_range (I1.ok.hd hc) hr (small_one b1 b2 b3 b4) hn (Nat.le_trans b5 (by decide)) fun h' tk acc c kp hD hI => ?_
  have hv := vals_range a _ acc hI
  have hl := hv.length
  have hz : ((rangeL a (b - a).toNat).map V.int).length ≤ sizeLine := by
    rw [List.length_map, rangeL_len]; exact Nat.le_trans b5 (by decide)
  have hg : h'.get? s1.heap.objs.size = some { cls := .type "list", dict := none, data := .seq acc.toList.toArray c, slots := #[] } := by rw [Array.toArray_toList]; exact hD
  exact ⟨.ref s1.heap.objs.size, _, I1.laid (t' := tk) kp (Nat.le_refl _) (show ObjOk X.prog X.w _ h' _ (.lst _) from ⟨hz, acc.toList, c, hv, hg⟩), rfl, q _ (I1.hok.fresh (Nat.le_refl _))⟩
theorem xk_listR1 {m : Res Int} {p p2 pos2 : Pos} (h : XI X W ss a m) (hm : X.mg "list" = none) (hm2 : X.mg "range" = none) (hc : X.calm = true := by rfl) (hg : Gl X "list" := by rfl) (hg2 : Gl X "range" := by rfl) (na : starEach [a] X.env = (false, eval a X.env) :: starEach [] X.env := by rfl)
    (hs : starEach [.Call (.Name "range" p2) [a] [] pos2] X.env = (false, eval (.Call (.Name "range" p2) [a] [] pos2) X.env) :: starEach [] X.env := by rfl) :
    XK X W ss (.Call (.Name "list" p) [.Call (.Name "range" p2) [a] [] pos2] [] pos) (m.bind fun n => guardR (small62 n && big n.toNat) (.ok (rangeL 0 n.toNat))) ow := by
  refine PE_imp (pe_listR hc hg hm (prg_1 hg2 hm2 h na) hs) fun σ H Q ⟨F, sf, sl, q⟩ => ⟨sl.mono sf (Same.refl H), wpR_imp (wpR_bind q) (Same.refl H) fun n q v H1 s1 r1 => ?_⟩
  obtain ⟨g, q⟩ := wpR_guard q
  rw [Bool.and_eq_true] at g
  obtain ⟨h1, h2⟩ := small62_of g.1
  have hb := of_decide_eq_true g.2
  have e0 : (n - 0).toNat = n.toNat := by rw [Int.sub_zero]
  refine ⟨n, r1, by decide, by decide, h1, h2, by rw [e0]; exact hb, fun o ho => ?_⟩
  rw [e0]
  have q := q
  exact new_owI sf s1 ho (All2.of_map (f := V.int)) q
def inS (x y : Str) : Bool := !(Builtin.Str.occurrences y x 0 y.length 1).isEmpty
theorem b_ninS : Bi X (fun x y H Q => ∃ i j, x = .str i ∧ y = .str j ∧ Q (.bl (!(!(Builtin.Str.occurrences j i 0 j.length 1).isEmpty))) H) (fun a b : Str => Res.ok (!inS a b)) := ⟨fun a b v w H Q r1 r2 q => ⟨a, b, r1, r2, q _ H (Same.refl H) rfl⟩, fun _ _ => noX_ok⟩
theorem inS_one (c : Nat) (y : Str) : inS ⟨#[c]⟩ y = decide (c ∈ y.cps.toList) := by unfold inS; rw [empty_one, Bool.not_not]
def setR {α : Type} (xs : List α) (k : Int) (a : α) : Res (List α) := match ixN xs.length k with
  | some n => .ok (xs.set n a)
  | none => .stuck
theorem s1_setI (i : Nat) {α : Type} [Enc α] {as : List α} {m : Res α} {mk : Res Int} {x : Str} {p tpos : Pos} (h : XK X W ss e m fr) (hk : XI X W ss a mk) (hs : ss[i]? = some (ow as) := by rfl) (hp : PE X (.Name x p) (tVar i) := by exact pv _)
    (hg : PG X (.Subscript (.Name x p) a tpos) (gSub (tVar i) (rI X W ss mk) rSetL)) (hsw : swapsWithSole [.Subscript (.Name x p) a tpos] e pos.line X.env = pure false := by rfl) (hw : swappedStores [.Subscript (.Name x p) a tpos] e X.env = pure none := by rfl)
    (h1 : (assignEach [.Subscript (.Name x p) a tpos] X.env).map (·.2) = [assign (.Subscript (.Name x p) a tpos) X.env] := by rfl) :
    S1 X W ss (.Assign [.Subscript (.Name x p) a tpos] e pos) (m.bind fun v => mk.bind fun k => setR as k v) (fun as' => ss.set i (ow as')) := by
  refine PS_imp (ps_asg h hg hsw hw h1) fun D σ H ⟨B, F0, F, Gs, A, q⟩ => ⟨F, A.ext.sub, A.sl, wpS_R (wpS_bind q) A.base fun v q v' H1 F1 G1 s1 ex1 _ ⟨v2, e1, rv⟩ => ?_⟩
  cases e1
  have A1 := A.grow s1 ex1
  obtain ⟨G, p, vs, hG, hσ, hp, r⟩ := all3_ow A1.all hs
  refine ⟨.ref p, hσ, A1.sl.mono A1.ext.sub (Same.refl H1), wpS_R (wpS_bind q) A1.base fun k q y H2 s2 rk => ?_⟩
  have A2 := A1.grow s2 (F' := F1) ⟨Same.refl F1, A1.ext.sub.trans s2, fun _ _ h => .inl h⟩
  have hH := A2.sub G (List.mem_of_getElem? hG) _ _ hp
  unfold setR at q
  cases en : ixN as.length k with
  | none => rw [en] at q; exact q.elim
  | some n =>
    rw [en] at q
    refine ⟨p, vs, k, n, rfl, rk, hH, by rw [r.length]; exact en, ?_⟩
    exact q _ _ _ _ (A2.put hG hσ hp (r.set n rv))
end
end G

namespace G
open PySem PySem.Spec PyProof.Rows L2
inductive Dy where
  | non | bl (b : Bool) | int (i : Int) | str (s : Str) | lst (xs : List Dy) | tup (xs : List Dy) | dic | dc
instance : Inhabited Dy := ⟨.non⟩
mutual
def dyEq : Dy → Dy → Bool
  | .non, .non => true
  | .bl a, .bl b => decide (a = b)
  | .int a, .int b => decide (a = b)
  | .str a, .str b => decide (a = b)
  | .lst a, .lst b => dyEqs a b
  | .tup a, .tup b => dyEqs a b
  | .dic, .dic => true
  | .dc, .dc => true
  | _, _ => false
def dyEqs : List Dy → List Dy → Bool
  | [], [] => true
  | a :: as, b :: bs => dyEq a b && dyEqs as bs
  | _, _ => false
end
mutual
theorem dyEq_iff : ∀ a b : Dy, dyEq a b = true ↔ a = b
  | .non, b => by cases b <;> simp [dyEq]
  | .bl a, b => by cases b <;> simp [dyEq]
  | .int a, b => by cases b <;> simp [dyEq]
  | .str a, b => by cases b <;> simp [dyEq]
  | .dic, b => by cases b <;> simp [dyEq]
  | .dc, b => by cases b <;> simp [dyEq]
  | .lst a, .lst b => by simp only [dyEq, dyEqs_iff a b, Dy.lst.injEq]
  | .tup a, .tup b => by simp only [dyEq, dyEqs_iff a b, Dy.tup.injEq]
  | .lst a, .non => by simp [dyEq]
  | .lst a, .bl _ => by simp [dyEq]
  | .lst a, .int _ => by simp [dyEq]
  | .lst a, .str _ => by simp [dyEq]
  | .lst a, .tup _ => by simp [dyEq]
  | .lst a, .dic => by simp [dyEq]
  | .lst a, .dc => by simp [dyEq]
  | .tup a, .non => by simp [dyEq]
  | .tup a, .bl _ => by simp [dyEq]
  | .tup a, .int _ => by simp [dyEq]
  | .tup a, .str _ => by simp [dyEq]
  | .tup a, .lst _ => by simp [dyEq]
  | .tup a, .dic => by simp [dyEq]
  | .tup a, .dc => by simp [dyEq]
theorem dyEqs_iff : ∀ a b : List Dy, dyEqs a b = true ↔ a = b
  | [], [] => by simp [dyEqs]
  | [], _ :: _ => by simp [dyEqs]
  | _ :: _, [] => by simp [dyEqs]
  | a :: as, b :: bs => by simp only [dyEqs, Bool.and_eq_true, dyEq_iff a b, dyEqs_iff as bs, List.cons.injEq]
end
instance : DecidableEq Dy := fun a b => if h : dyEq a b = true then .isTrue ((dyEq_iff a b).mp h) else .isFalse fun e => h ((dyEq_iff a b).mpr e)
mutual
inductive DyR (K : Frag) (H : Hp) : V → Dy → Prop
  | non : DyR K H .non .non
  | bl (b : Bool) : DyR K H (.bl b) (.bl b)
  | int (i : Int) : DyR K H (.int i) (.int i)
  | str (x : Str) : DyR K H (.str x) (.str x)
  | lst {p : Addr} {vs : List V} {xs : List Dy} : H p = some (.lst vs) → DyA K H vs xs → DyR K H (.ref p) (.lst xs)
  | tup {p : Addr} {vs : List V} {xs : List Dy} : SqT K H p vs → DyA K H vs xs → DyR K H (.ref p) (.tup xs)
  | dic {p : Addr} : H p = some (.dK []) → DyR K H (.ref p) .dic
  | dc {p : Addr} {d : List (Key × V)} : H p = some (.dK d) → DyR K H (.ref p) .dc
inductive DyA (K : Frag) (H : Hp) : List V → List Dy → Prop
  | nil : DyA K H [] []
  | cons {v : V} {vs : List V} {d : Dy} {ds : List Dy} : DyR K H v d → DyA K H vs ds → DyA K H (v :: vs) (d :: ds)
end
mutual
theorem DyR.mono {K : Frag} {H H' : Hp} (s : Same H H') : ∀ {v : V} {d : Dy}, DyR K H v d → DyR K H' v d
  | _, _, .non => .non
  | _, _, .bl b => .bl b
  | _, _, .int i => .int i
  | _, _, .str x => .str x
  | _, _, .lst h r => .lst (s _ _ h) (DyA.mono s r)
  | _, _, .tup h r => .tup (seqT s h) (DyA.mono s r)
  | _, _, .dic h => .dic (s _ _ h)
  | _, _, .dc h => .dc (s _ _ h)
theorem DyA.mono {K : Frag} {H H' : Hp} (s : Same H H') : ∀ {vs : List V} {ds : List Dy}, DyA K H vs ds → DyA K H' vs ds
  | _, _, .nil => .nil
  | _, _, .cons h t => .cons (DyR.mono s h) (DyA.mono s t)
end
instance : Enc Dy := ⟨fun K H v d => DyR K H v d, fun s h => h.mono s⟩
theorem dya_all2 {K : Frag} {H : Hp} : ∀ {vs : List V} {ds : List Dy}, DyA K H vs ds → All2 (fun v (d : Dy) => Enc.rep K H v d) vs ds
  | _, _, .nil => trivial
  | _, _, .cons h t => ⟨h, dya_all2 t⟩
theorem all2_dya {α : Type} [Enc α] {f : α → Dy} {K : Frag} {H : Hp} (hf : ∀ v a, Enc.rep K H v a → DyR K H v (f a)) : ∀ {vs : List V} {as : List α}, All2 (fun v a => Enc.rep K H v a) vs as → DyA K H vs (as.map f)
  | [], [], _ => .nil
  | _ :: _, _ :: _, ⟨h, t⟩ => .cons (hf _ _ h) (all2_dya hf t)
  | [], _ :: _, h => h.elim
  | _ :: _, [], h => h.elim
class ToDy (α : Type) [Enc α] where
  dy : α → Dy
  rep : ∀ {K : Frag} {H : Hp} {v : V} {a : α}, Enc.rep K H v a → DyR K H v (dy a)
instance : ToDy Dy := ⟨id, fun h => h⟩
instance : ToDy Int := ⟨.int, fun h => by rw [show _ = V.int _ from h]; exact .int _⟩
instance : ToDy Bool := ⟨.bl, fun h => by rw [show _ = V.bl _ from h]; exact .bl _⟩
instance : ToDy Str := ⟨.str, fun h => by rw [show _ = V.str _ from h]; exact .str _⟩
instance : ToDy Unit := ⟨fun _ => .non, fun h => by rw [show _ = V.non from h]; exact .non⟩
instance {α : Type} [Enc α] [ToDy α] : ToDy (Option α) := ⟨fun o => match o with | none => .non | some a => ToDy.dy a, fun {K H v o} h => by
  cases o with
  | none => rw [show v = V.non from h]; exact .non
  | some a => exact ToDy.rep h.2⟩
instance {α : Type} [Enc α] [ToDy α] : ToDy (List α) := ⟨fun as => .lst (as.map ToDy.dy), fun ⟨p, vs, e, h, r⟩ => by rw [e]; exact .lst h (all2_dya (fun _ _ h => ToDy.rep h) r)⟩
instance {α : Type} [Enc α] [ToDy α] : ToDy (Tup α) := ⟨fun as => .tup (as.l.map ToDy.dy), fun ⟨p, vs, e, h, r⟩ => by rw [e]; exact .tup h (all2_dya (fun _ _ h => ToDy.rep h) r)⟩
instance {α β : Type} [Enc α] [Enc β] [ToDy α] [ToDy β] : ToDy (α × β) := ⟨fun x => .tup [ToDy.dy x.1, ToDy.dy x.2], fun ⟨p, v1, v2, e, h, r1, r2⟩ => by rw [e]; exact .tup (SqT.of h) (.cons (ToDy.rep r1) (.cons (ToDy.rep r2) .nil))⟩
instance {α β γ : Type} [Enc α] [Enc β] [Enc γ] [ToDy α] [ToDy β] [ToDy γ] : ToDy (T3 α β γ) := ⟨fun x => .tup [ToDy.dy x.a, ToDy.dy x.b, ToDy.dy x.c], fun ⟨p, v1, v2, v3, e, h, r1, r2, r3⟩ => by
  rw [e]; exact .tup (SqT.of h) (.cons (ToDy.rep r1) (.cons (ToDy.rep r2) (.cons (ToDy.rep r3) .nil)))⟩
def dyI : Dy → Res Int | .int i => .ok i | _ => .stuck
def dyB : Dy → Res Bool | .bl i => .ok i | _ => .stuck
def dyS : Dy → Res Str | .str i => .ok i | _ => .stuck
def dyL : Dy → Res (List Dy) | .lst xs => .ok xs | _ => .stuck
def dyT : Dy → Res (Tup Dy) | .tup xs => .ok ⟨xs⟩ | _ => .stuck
section
variable {X : Cx} {W : WX} {ss : List Slot} {pos : Pos} {a b e : Expr} {es : List Expr}
theorem xi_dy {α : Type} [Enc α] [ToDy α] {m : Res α} (h : XI X W ss e m) : XI X W ss e (m.bind fun x => .ok (ToDy.dy x)) :=
  PE_imp h fun σ H Q ⟨sl, q⟩ => ⟨sl, wpR_imp (wpR_bind q) (Same.refl H) fun x q v H' s r => q v H' s (ToDy.rep r)⟩
theorem xk_dy {α : Type} [Enc α] [ToDy α] {m : Res α} (h : XK X W ss e m fr) : XK X W ss e (m.bind fun x => .ok (ToDy.dy x)) fr :=
  PE_imp h fun σ H Q ⟨F, sf, sl, q⟩ => ⟨F, sf, sl, wpR_imp (wpR_bind q) (Same.refl H) fun x q v H' F' G' s ex pr ⟨v', e1, r⟩ => q v H' F' G' s ex pr ⟨v', e1, ToDy.rep r⟩⟩
structure Cast {β : Type} [Enc β] (c : Dy → Res β) : Prop where
  rep : ∀ {K : Frag} {H : Hp} {v : V} {d : Dy} {b : β}, c d = .ok b → DyR K H v d → Enc.rep K H v b
  nox : ∀ d, NoX (c d)
theorem cI : Cast dyI := ⟨fun {K H v d b} h r => by cases r <;> simp only [dyI, Res.ok.injEq, reduceCtorEq] at h; subst h; rfl, fun d x h => by cases d <;> cases h⟩
theorem cB : Cast dyB := ⟨fun {K H v d b} h r => by cases r <;> simp only [dyB, Res.ok.injEq, reduceCtorEq] at h; subst h; rfl, fun d x h => by cases d <;> cases h⟩
theorem cS : Cast dyS := ⟨fun {K H v d b} h r => by cases r <;> simp only [dyS, Res.ok.injEq, reduceCtorEq] at h; subst h; rfl, fun d x h => by cases d <;> cases h⟩
theorem cL : Cast dyL := ⟨fun {K H v d b} h r => by
  cases r <;> simp only [dyL, Res.ok.injEq, reduceCtorEq] at h
  rename_i p vs xs hp ha
  subst h; exact ⟨p, vs, rfl, hp, dya_all2 ha⟩, fun d x h => by cases d <;> cases h⟩
theorem cT : Cast dyT := ⟨fun {K H v d b} h r => by
  cases r <;> simp only [dyT, Res.ok.injEq, reduceCtorEq] at h
  rename_i p vs xs hp ha
  subst h; exact ⟨p, vs, rfl, hp, dya_all2 ha⟩, fun d x h => by cases d <;> cases h⟩
theorem xi_cast {β : Type} [Enc β] {c : Dy → Res β} (C : Cast c) {m : Res Dy} (h : XI X W ss e m) : XI X W ss e (m.bind c) :=
  PE_imp h fun σ H Q ⟨sl, q⟩ => ⟨sl, wpR_imp (wpR_bind q) (Same.refl H) fun x q v H' s r => by
    cases ec : c x with
    | ok b => rw [ec] at q; exact q v H' s (C.rep ec r)
    | exc y => exact (C.nox x y ec).elim
    | stuck => rw [ec] at q; exact q.elim⟩
theorem xk_cast {β : Type} [Enc β] {c : Dy → Res β} (C : Cast c) {m : Res Dy} (h : XK X W ss e m fr) : XK X W ss e (m.bind c) fr :=
  PE_imp h fun σ H Q ⟨F, sf, sl, q⟩ => ⟨F, sf, sl, wpR_imp (wpR_bind q) (Same.refl H) fun x q v H' F' G' s ex pr ⟨v', e1, r⟩ => by
    cases ec : c x with
    | ok b => rw [ec] at q; exact q v H' F' G' s ex pr ⟨v', e1, C.rep ec r⟩
    | exc y => exact (C.nox x y ec).elim
    | stuck => rw [ec] at q; exact q.elim⟩
def dyTy : Dy → String
  | .non => "NoneType"
  | .bl _ => "bool"
  | .int _ => "int"
  | .str _ => "str"
  | .lst _ => "list"
  | .tup _ => "tuple"
  | .dic => "dict"
  | .dc => "dict"
theorem dy_ty {K : Frag} {H : Hp} {v : V} {d : Dy} (r : DyR K H v d) : TyX K H v (.type (dyTy d)) := by
  cases r with
  | non => exact .base .non
  | bl b => exact .base (.bl b)
  | int i => exact .base (.int i)
  | str x => exact .base (.str x)
  | lst h _ => exact .base (.lst h)
  | tup h _ => exact tyT h
  | dic h => exact .base (.dK h)
  | dc h => exact .base (.dK h)
def dyIs (T : String) (d : Dy) : Bool := dyTy d == T || (dyTy d == "bool" && T == "int")
structure IsT (T : String) : Prop where
  ok : ∀ d, kitB (dyTy d) T = some (dyIs T d)
def tyNames : List String := ["NoneType", "bool", "int", "str", "list", "tuple", "dict"]
theorem dyTy_mem (d : Dy) : dyTy d ∈ tyNames := by unfold tyNames; cases d <;> simp [dyTy]
theorem isT_mk {T : String} (h : ∀ t ∈ tyNames, kitB t T = some (t == T || (t == "bool" && T == "int"))) : IsT T := ⟨fun d => h _ (dyTy_mem d)⟩
theorem isT_int : IsT "int" := isT_mk (by decide +kernel)
theorem isT_bool : IsT "bool" := isT_mk (by decide +kernel)
theorem isT_str : IsT "str" := isT_mk (by decide +kernel)
theorem isT_list : IsT "list" := isT_mk (by decide +kernel)
theorem isT_tuple : IsT "tuple" := isT_mk (by decide +kernel)
theorem xi_isD {m : Res Dy} {T : Str} {TT : String} {p q : Pos} (I : IsT TT) (h : XI X W ss a m) (hb : PE X (.Name T q) (tC (.ty TT))) (hm : X.mg "isinstance" = none) (hg : Gl X "isinstance" := by rfl)
    (he : starEach [a, .Name T q] X.env = (false, eval a X.env) :: starEach [.Name T q] X.env := by rfl) (he2 : starEach [.Name T q] X.env = (false, eval (.Name T q) X.env) :: starEach [] X.env := by rfl) (hpl : (backTo pos (starEach [.Name T q] X.env)).any (·.1) = false := by rfl) :
    XI X W ss (.Call (.Name "isinstance" p) [a, .Name T q] [] pos) (m.bind fun d => .ok (dyIs TT d)) :=
  PE_imp (pe_callB call_isi hg hm (by decide +kernel) (pa_cons h (pa_cons hb pa_nil he2) he) (by decide) (by decide) he hpl) fun σ H Q ⟨sl, q⟩ => ⟨sl, wpR_imp (wpR_bind q) (Same.refl H) fun x q v H1 s1 r1 =>
    ⟨v, .ty TT, _, _, dyIs TT x, rfl, .ty TT, dy_ty r1, kit_ty (I.ok x), q _ H1 s1 rfl⟩⟩
def dyNon : Dy → Bool | .non => true | _ => false
def dyLen : Dy → Res Int
  | .lst xs => .ok (xs.length : Int)
  | .tup xs => .ok (xs.length : Int)
  | .str x => strLen x
  | _ => .stuck
theorem c_lenDy : Bc X (fun xs H Q => ∃ x n, xs = [x] ∧ LenV X.K x H n ∧ Q (.int n) H) (fun x : Dy × Unit => dyLen x.1) := by
  have hS := c_lenStr (X := X)
  refine ⟨fun x vs H Q hr q => ?_, fun x y h => ?_⟩
  · obtain ⟨v, r, rfl, r1, hz⟩ := hr
    have hz : r = [] := hz
    subst hz
    obtain ⟨d, u⟩ := x
    have r1 : DyR X.K H v d := r1
    cases r1 with
    | non => exact q.elim
    | bl b => exact q.elim
    | int i => exact q.elim
    | dic h => exact q.elim
    | dc h => exact q.elim
    | str x => exact hS.op (x, ()) _ H Q ⟨_, _, rfl, rfl, rfl⟩ q
    | lst h ha => exact ⟨_, _, rfl, .inl ⟨_, SqL.of h, rfl⟩, q _ H (Same.refl H) (by rw [(dya_all2 ha).length]; rfl)⟩
    | tup h ha => exact ⟨_, _, rfl, .inr ⟨_, h, rfl⟩, q _ H (Same.refl H) (by rw [(dya_all2 ha).length]; rfl)⟩
  · obtain ⟨d, u⟩ := x
    cases d with
    | str x => exact hS.nx (x, ()) y h
    | _ => cases h
end
end G

namespace G
open PySem PySem.Spec PyProof.Rows L2
section
variable {X : Cx} {W : WX} {ss : List Slot} {pos : Pos} {a b c e : Expr} {es : List Expr}
def dyIx (d : Dy) (i : Int) : Res Dy := match d with
  | .lst xs => idx xs i
  | .tup xs => idx xs i
  | .str x => (strIx x i).bind fun s => .ok (.str s)
  | _ => .stuck
theorem noX_dyIx {d : Dy} {i : Int} : NoX (dyIx d i) := fun y h => by
  cases d with
  | lst xs => exact noX_idx y h
  | tup xs => exact noX_idx y h
  | str x =>
    have h : (strIx x i).bind _ = .exc y := h
    cases e : strIx x i with
    | ok s => rw [e] at h; cases h
    | exc z => exact noX_strIx z e
    | stuck => rw [e] at h; cases h
  | _ => cases h
theorem o2_ixDy : Op2 X (rIx X.K) (fun (d : Dy) (i : Int) => dyIx d i) := fun d i v w H Q r1 e2 q => by
  have r1 : DyR X.K H v d := r1
  have e2 : w = .int i := e2
  cases r1 with
  | non => exact q.elim
  | bl b => exact q.elim
  | int i => exact q.elim
  | dic h => exact q.elim
  | dc h => exact q.elim
  | str x =>
    refine .inr (.inr (o2_ixStr (X := X) x i _ w H Q rfl e2 ?_))
    have q : okR ((strIx x i).bind fun s => .ok (Dy.str s)) _ := q
    cases e : strIx x i with
    | ok s =>
      rw [e] at q
      exact fun v' H' s r => q v' H' s (by rw [show v' = V.str _ from r]; exact .str _)
    | exc z => rw [e] at q; exact q.elim
    | stuck => rw [e] at q; exact q.elim
  | lst h ha => exact .inl (o2_ixL _ i _ w H Q ⟨_, _, rfl, h, dya_all2 ha⟩ e2 q)
  | tup h ha => exact .inr (.inl (o2_ixT ⟨_⟩ i _ w H Q ⟨_, _, rfl, h, dya_all2 ha⟩ e2 q))
theorem xi_ixD {m1 : Res Dy} {m2 : Res Int} (h1 : XI X W ss a m1) (h2 : XI X W ss b m2) (hs : PlainIx b := by exact fun _ _ => rfl) : XI X W ss (.Subscript a b pos) (m1.bind fun xs => m2.bind fun i => dyIx xs i) := x_ix ix_seq o2_ixDy (fun _ _ => noX_dyIx) h1 h2 hs
theorem xk_ixD {m1 : Res Dy} {m2 : Res Int} (h1 : XK X W ss a m1 fr) (h2 : XI X W ss b m2) (hs : PlainIx b := by exact fun _ _ => rfl) : XK X W ss (.Subscript a b pos) (m1.bind fun xs => m2.bind fun i => dyIx xs i) fr := by
  refine PE_imp (pe_ix ix_seq h1 h2 hs) fun σ H Q ⟨F, sf, sl, q⟩ => ⟨F, sf, sl, wpR_imp (wpR_bind q) (Same.refl H) fun d q v H1 F1 G1 s1 ex1 _ k1 => ?_⟩
  obtain ⟨v', e1, r⟩ := k1
  cases e1
  have r : DyR X.K F1 v d := r
  refine ⟨(sl.mono sf (Same.refl H)).mono s1 s1, wpR_imp (wpR_bind q) s1 fun i q w H2 s2 e2 => ?_⟩
  have fin : ∀ u x, Enc.rep X.K F1 u x → dyIx d i = .ok x → Q u H2 := fun u x ru ex => by
    rw [ex] at q
    exact q u H2 F1 noHp (s1.trans s2) ⟨ex1.le, ex1.sub.trans s2, ex1.new⟩ priv_no ⟨u, rfl, ru⟩
  cases r with
  | non => exact q.elim
  | bl b => exact q.elim
  | int i => exact q.elim
  | dic h => exact q.elim
  | dc h => exact q.elim
  | str x =>
    refine .inr (.inr (o2_ixStr (X := X) x i _ w H2 Q rfl e2 ?_))
    have q : wpR X W ((strIx x i).bind fun s => .ok (Dy.str s)) σ H _ := q
    cases e : strIx x i with
    | ok s =>
      exact fun v' H' s3 r3 => by
        rw [e] at q
        exact q v' H' F1 noHp (s1.trans (s2.trans s3)) ⟨ex1.le, ex1.sub.trans (s2.trans s3), ex1.new⟩ priv_no ⟨v', rfl, by rw [show v' = V.str _ from r3]; exact .str _⟩
    | exc z => exact (noX_strIx z e).elim
    | stuck => rw [e] at q; exact q.elim
  | @lst p vs xs h ha =>
    have q : wpR X W (idx xs i) σ H _ := q
    unfold idx at q
    cases e : atI xs i with
    | none => rw [e] at q; exact q.elim
    | some x =>
      obtain ⟨u, hu, ru⟩ := atI_all2 (dya_all2 ha) e
      exact .inl ⟨p, vs, i, u, rfl, e2, SqL.of (s2 _ _ (ex1.sub _ _ h)), hu, fin u x ru (by show idx xs i = _; unfold idx; rw [e])⟩
  | @tup p vs xs h ha =>
    have q : wpR X W (idx xs i) σ H _ := q
    unfold idx at q
    cases e : atI xs i with
    | none => rw [e] at q; exact q.elim
    | some x =>
      obtain ⟨u, hu, ru⟩ := atI_all2 (dya_all2 ha) e
      exact .inr (.inl ⟨p, vs, i, u, rfl, e2, seqT (ex1.sub.trans s2) h, hu, fin u x ru (by show idx xs i = _; unfold idx; rw [e])⟩)
theorem xk_dic0 : XK X W ss (.Dict [] [] pos) (.ok Dy.dic) fr := by
  refine PE_imp (pe_dnewK) fun σ H Q ⟨F, sf, sl, q⟩ p hp => ?_
  have hF : F p = none := Same.free sf hp
  have sF := same_upd (o := HO.dK []) hF
  refine q _ _ (upd F p (.dK [])) noHp (same_upd hp) ⟨sF, fun b u z => ?_, fun b u z => ?_⟩ priv_no ⟨_, rfl, .dic upd_same⟩
  · by_cases e : b = p
    · subst e; rw [upd_same] at z ⊢; exact z
    · rw [upd_ne e] at z ⊢; exact sf _ _ z
  · by_cases e : b = p
    · subst e; exact .inr (.inl hp)
    · rw [upd_ne e] at z; exact .inl z
def rL (X : Cx) (W : WX) {α : Type} [Enc α] (ss : List Slot) (m : Res (List α)) : TE := fun σ H Q =>
  ∃ F, Same F H ∧ Sl X.K F H ss σ ∧ wpR X W m σ H fun as => ∀ p vs H' F', Same H H' → Ext F H F' H' → H' p = some (.lst vs) → All2 (fun v a => Enc.rep X.K F' v a) vs as → Q (.ref p) H'
def XL (X : Cx) (W : WX) {α : Type} [Enc α] (ss : List Slot) (e : Expr) (m : Res (List α)) : Prop := PE X e (rL X W ss m)
theorem xl_fr {α : Type} [Enc α] {m : Res (List α)} (h : XK X W ss e m fr) : XL X W ss e m :=
  PE_imp h fun σ H Q ⟨F, sf, sl, q⟩ => ⟨F, sf, sl, wpR_imp q (Same.refl H) fun as q v H' F' G' s ex _ ⟨v', e1, p, vs, e2, hp, r⟩ => by
    cases e1; subst e2
    exact q p vs H' F' s ex (ex.sub _ _ hp) r⟩
theorem xl_own {α : Type} [Enc α] {m : Res (List α)} (h : XK X W ss e m ow) : XL X W ss e m :=
  PE_imp h fun σ H Q ⟨F, sf, sl, q⟩ => ⟨F, sf, sl, wpR_imp q (Same.refl H) fun as q v H' F' G' s ex pr ⟨p, vs, e1, hp, r⟩ => by
    cases e1
    exact q p vs H' F' s ex (pr _ _ hp).1 r⟩
theorem xl_ow (i : Nat) {α : Type} [Enc α] {as : List α} {x : Str} {pos : Pos} (hs : ss[i]? = some (ow as) := by rfl) (hp : PE X (.Name x pos) (tVar i) := by exact pv _) : XL X W ss (.Name x pos) (.ok as) := by
  refine PE_imp hp fun σ H Q ⟨F, sf, sl, q⟩ => ?_
  obtain ⟨o, ho, p, vs, e, g, r⟩ := sl.get hs
  subst e
  exact ⟨_, ho, q p vs H F (Same.refl H) (ext_refl sf) g r⟩
theorem xk_catL {α : Type} [Enc α] {m m' : Res (List α)} (h : XL X W ss a m) (h' : XL X W ss b m') : XK X W ss (.BinOp a .Add b pos) (m.bind fun xs => m'.bind fun ys => catR xs ys) ow :=
  PE_imp (pe_op op_cat h h') fun σ H Q ⟨F, sf, sl, q⟩ => ⟨F, sf, sl, wpR_imp (wpR_bind q) (Same.refl H) fun xs q p vs H1 F1 s1 ex1 hp rv => ⟨F1, ex1.sub, sl.mono ex1.le s1, wpR_imp (wpR_bind q) s1 fun ys q p' ws H2 F2 s2 ex2 hp' rw' => by
    obtain ⟨g, q⟩ := wpR_guard q
    exact ⟨p, p', vs, ws, rfl, rfl, s2 _ _ hp, hp', by rw [rv.length, rw'.length]; exact big_line g, fun o ho => new_ow (s1.trans s2) (ex1.trans s1 ex2) ho (All2.append (rv.mono ex2.le) rw') q⟩⟩⟩
theorem pa_xl {α : Type} [Enc α] {m : Res (List α)} (h : XL X W ss a m) (he : starEach [a] X.env = (false, eval a X.env) :: starEach [] X.env := by rfl) : PA X [a] (fun σ H Q => ∃ F, Same F H ∧ Sl X.K F H ss σ ∧ wpR X W m σ H fun as => ∀ p vs H' F', Same H H' → Ext F H F' H' → H' p = some (.lst vs) → All2 (fun v a => Enc.rep X.K F' v a) vs as → Q [.ref p] H') :=
  PA_imp (pa_cons h pa_nil he) fun σ H Q ⟨F, sf, sl, q⟩ => ⟨F, sf, sl, wpR_imp q (Same.refl H) fun as q p vs H' F' s ex hp r => q p vs H' F' s ex hp r⟩
theorem xk_tupleL {α : Type} [Enc α] {m : Res (List α)} {p : Pos} (h : XL X W ss a m) (hm : X.mg "tuple" = none) (hg : Gl X "tuple" := by rfl) (he : starEach [a] X.env = (false, eval a X.env) :: starEach [] X.env := by rfl) :
    XK X W ss (.Call (.Name "tuple" p) [a] [] pos) (m.bind fun x => .ok (⟨x⟩ : Tup α)) fr :=
  PE_imp (pe_callTy call_tuple_of hg hm (by decide +kernel) (pa_xl h he) (by decide) (by decide) he rfl) fun σ H Q ⟨F, sf, sl, q⟩ => ⟨F, sf, sl, wpR_imp (wpR_bind q) (Same.refl H) fun x q p vs H1 F1 s1 ex1 hp rv => by
    refine ⟨p, vs, rfl, .inl ⟨SqL.of hp, fun o ho => ?_⟩⟩
    have hF : F1 o = none := Same.free ex1.sub ho
    have sF := same_upd (o := HO.tup vs) hF
    refine q _ _ (upd F1 o (.tup vs)) noHp (s1.trans (same_upd ho)) ⟨ex1.le.trans sF, fun b u z => ?_, fun b u z => ?_⟩ priv_no ⟨_, rfl, o, vs, rfl, SqT.of upd_same, rv.mono sF⟩
    · by_cases e : b = o
      · subst e; rw [upd_same] at z ⊢; exact z
      · rw [upd_ne e] at z ⊢; exact ex1.sub _ _ z
    · by_cases e : b = o
      · subst e; exact .inr (.inl (Same.free s1 ho))
      · rw [upd_ne e] at z; exact ex1.new _ _ z⟩
theorem xk_listL {α : Type} [Enc α] {m : Res (List α)} {p : Pos} (h : XL X W ss a m) (hm : X.mg "list" = none) (hg : Gl X "list" := by rfl) (he : starEach [a] X.env = (false, eval a X.env) :: starEach [] X.env := by rfl) :
    XK X W ss (.Call (.Name "list" p) [a] [] pos) m ow :=
  PE_imp (pe_callTy call_list_of hg hm (by decide +kernel) (pa_xl h he) (by decide) (by decide) he rfl) fun σ H Q ⟨F, sf, sl, q⟩ => ⟨F, sf, sl, wpR_imp q (Same.refl H) fun x q p vs H1 F1 s1 ex1 hp rv =>
    ⟨p, vs, rfl, .inl (SqL.of hp), fun o ho => new_ow s1 ex1 ho rv q⟩⟩
theorem xk_ixLL {α : Type} [Enc α] {m1 : Res (List α)} {m2 : Res Int} (h1 : XL X W ss a m1) (h2 : XI X W ss b m2) (hs : PlainIx b := by exact fun _ _ => rfl) : XK X W ss (.Subscript a b pos) (m1.bind fun xs => m2.bind fun i => idx xs i) fr := by
  refine PE_imp (pe_ix ix_list h1 h2 hs) fun σ H Q ⟨F, sf, sl, q⟩ => ⟨F, sf, sl, wpR_imp (wpR_bind q) (Same.refl H) fun xs q p vs H1 F1 s1 ex1 hp r => ?_⟩
  refine ⟨(sl.mono sf (Same.refl H)).mono s1 s1, wpR_imp (wpR_bind q) s1 fun i q w H2 s2 e2 => ?_⟩
  unfold idx at q
  cases e : atI xs i with
  | none => rw [e] at q; exact q.elim
  | some x =>
    rw [e] at q
    obtain ⟨u, hu, ru⟩ := atI_all2 r e
    refine ⟨p, vs, i, u, rfl, e2, SqL.of (s2 _ _ hp), hu, ?_⟩
    exact q u H2 F1 noHp (s1.trans s2) ⟨ex1.le, ex1.sub.trans s2, ex1.new⟩ priv_no ⟨u, rfl, ru⟩
def tChain3 (r r' r'' : R2) (ta tb tc td : TE) : TE := fun σ H Q => ta σ H fun x H1 => tb σ H1 fun y H2 => r x y H2 fun z H3 => ∃ k, z = .bl k ∧ (if k = true then tc σ H3 fun w H4 => r' y w H4 fun z' H5 => ∃ k', z' = .bl k' ∧ (if k' = true then td σ H5 fun u H6 => r'' w u H6 Q else Q (.bl false) H5) else Q (.bl false) H3)
structure GInt (mg : Str → Option Value) (x : Str) (i : Int) : Prop where
  ex : ∃ t, mg x = some (.int i t)
structure GTup (K : Frag) (mg : Str → Option Value) (x : Str) {α : Type} [Enc α] (as : Tup α) : Prop where
  ex : ∃ p vs, mg x = some (.ref p) ∧ (∀ H, SqT K H p vs) ∧ ∀ H, All2 (fun v a => Enc.rep K H v a) vs as.l
theorem xi_gtup {x : Str} {α : Type} [Enc α] {as : Tup α} (h : GTup X.K X.mg x as) (hg : Gl X x := by rfl) (hd : (x == ("__debug__" : Str)) = false := by decide) : XI X W ss (.Name x pos) (.ok as) := by
  obtain ⟨p, vs, hm, hs, r⟩ := h.ex
  exact PE_imp (pe_glob hg hm (v := .ref p) rfl hd) fun σ H Q ⟨_, q⟩ => q _ H (Same.refl H) ⟨p, vs, rfl, hs H, r H⟩
end
end G

namespace G
open PySem PySem.Spec PyProof.Rows L2
mutual
def dyPy : Dy → PyData
  | .non => .none
  | .bl b => .bool b
  | .int i => .int i
  | .str x => .str x
  | .lst xs => .list (dyPys xs)
  | .tup xs => .tuple (dyPys xs)
  | .dic => .dict []
  | .dc => .dict []
def dyPys : List Dy → List PyData
  | [] => []
  | a :: as => dyPy a :: dyPys as
end
mutual
def noDic : Dy → Bool
  | .lst xs => noDics xs
  | .tup xs => noDics xs
  | .dic => false
  | .dc => false
  | _ => true
def noDics : List Dy → Bool
  | [] => true
  | a :: as => noDic a && noDics as
end
mutual
def dyDep : Dy → Nat
  | .lst xs => dyDeps xs + 1
  | .tup xs => dyDeps xs + 1
  | .dic => 1
  | .dc => 61
  | _ => 0
def dyDeps : List Dy → Nat
  | [] => 0
  | a :: as => max (dyDep a) (dyDeps as)
end
mutual
theorem dy_dp {K : Frag} {H : Hp} : ∀ {d : Dy} {v : V}, noDic d = true → DyR K H v d → Dp K H v (dyPy d)
  | .non, _, _, h => by cases h; simp only [dyPy]; exact .non
  | .bl b, _, _, h => by cases h; simp only [dyPy]; exact .bl b
  | .int i, _, _, h => by cases h; simp only [dyPy]; exact .int i
  | .str x, _, _, h => by cases h; simp only [dyPy]; exact .str x
  | .lst xs, _, n, h => by
    cases h with
    | lst h r => simp only [dyPy]; simp only [noDic] at n; exact .lst (SqL.of h) (dy_dps n r)
  | .tup xs, _, n, h => by
    cases h with
    | tup h r => simp only [dyPy]; simp only [noDic] at n; exact .tup h (dy_dps n r)
  | .dic, _, n, _ => by simp [noDic] at n
  | .dc, _, n, _ => by simp [noDic] at n
theorem dy_dps {K : Frag} {H : Hp} : ∀ {ds : List Dy} {vs : List V}, noDics ds = true → DyA K H vs ds → DpAll K H vs (dyPys ds)
  | [], _, _, h => by cases h; simp only [dyPys]; exact .nil
  | d :: ds, _, n, h => by
    cases h with
    | cons h r =>
      simp only [noDics, Bool.and_eq_true] at n
      simp only [dyPys]
      exact .cons (dy_dp n.1 h) (dy_dps n.2 r)
end
section
variable {X : Cx} {pins : List (Addr × Obj)} {σ : L2.St} {H : Hp} {s : Shared}
open PySem.SeqAt (EqAt RcAt RcNeAt)
theorem vals_get {vs : List V} {us : List Value} (r : Vals vs us) {j : Nat} (h : j < us.length) : ∃ v, vs[j]? = some v ∧ RelV v us[j] := by
  have hl : j < vs.length := by rw [r.length]; exact h
  obtain ⟨u, hu, ru⟩ := r.get (List.getElem?_eq_getElem hl)
  rw [List.getElem?_eq_getElem h] at hu
  cases hu
  exact ⟨_, List.getElem?_eq_getElem hl, ru⟩
theorem dict0_any {P P' : Program} {w w' : World} {h : Heap} {a : Addr} (d : h.DictOf (mixKind P w) a []) : h.DictOf (mixKind P' w') a [] := by
  obtain ⟨o, es, ep, ho, ex, hd, hk, hp, nd⟩ := d
  have e : es.toList = [] := by cases h : es.toList with
    | nil => rfl
    | cons a l => rw [h] at hp; cases hp
  have e : es = #[] := by cases es; simpa using e
  subst e
  exact ⟨o, #[], ep, ho, ex, hd, by intro i h; simp at h, .nil, .nil⟩
def Alike (s : Shared) (n : Nat) (u u' : Value) : Prop := ∀ A : Around, A.units + n < cLine → EqAt A s u u' true
theorem alike_lists {n : Nat} {l l' : Addr} {vs vs' : List Value} (hl : s.heap.IsList l vs.toArray) (hl' : s.heap.IsList l' vs'.toArray) (hsz : vs.length = vs'.length) (h : ∀ j (h1 : j < vs.length) (h2 : j < vs'.length), Alike s n vs[j] vs'[j]) {A : Around} (hu : A.units + (n + 1) < cLine) :
    RcAt A s (.ref l) (.ref l') true ∧ RcNeAt A s (.ref l) (.ref l') false := by
  have he : ∀ j (h1 : j < vs.toArray.size) (h2 : j < vs'.toArray.size), EqAt A.in1 s vs.toArray[j] vs'.toArray[j] ((fun _ => true) j) := fun j h1 h2 => by
    have := h j (by simpa using h1) (by simpa using h2) A.in1 (by show A.units + 1 + n < cLine; omega)
    simpa using this
  have z : ((List.range vs.toArray.size).all fun _ => true) = true := List.all_eq_true.mpr fun _ _ => rfl
  refine ⟨?_, ?_⟩
  · have := RcAt.lists hl hl' (by simpa using hsz) (by omega) he
    rwa [z] at this
  · have := RcNeAt.lists hl hl' (by simpa using hsz) (by omega) he
    rwa [z] at this
theorem alike_tuples {n : Nat} {l l' : Addr} {vs vs' : List Value} (hl : s.heap.IsTuple l vs.toArray) (hl' : s.heap.IsTuple l' vs'.toArray) (hsz : vs.length = vs'.length) (h : ∀ j (h1 : j < vs.length) (h2 : j < vs'.length), Alike s n vs[j] vs'[j]) {A : Around} (hu : A.units + (n + 1) < cLine) :
    RcAt A s (.ref l) (.ref l') true ∧ RcNeAt A s (.ref l) (.ref l') false := by
  have he : ∀ j (h1 : j < vs.toArray.size) (h2 : j < vs'.toArray.size), EqAt A.in1 s vs.toArray[j] vs'.toArray[j] ((fun _ => true) j) := fun j h1 h2 => by
    have := h j (by simpa using h1) (by simpa using h2) A.in1 (by show A.units + 1 + n < cLine; omega)
    simpa using this
  have z : (((List.range (min vs.toArray.size vs'.toArray.size)).all fun _ => true) && vs.toArray.size == vs'.toArray.size) = true := by
    rw [List.all_eq_true.mpr fun _ _ => rfl]; simpa using hsz
  refine ⟨?_, ?_⟩
  · have := RcAt.tuples hl hl' (by omega) he
    rwa [z] at this
  · have := RcNeAt.tuples hl hl' (by omega) he
    rwa [z] at this
mutual
theorem dy_same (I : Inv X pins σ H s) : ∀ (d : Dy) (v v' : V) (u u' : Value) (n : Nat), DyR X.K H v d → DyR X.K H v' d → RelV v u → RelV v' u' → dyDep d ≤ n → n ≤ 60 → Alike s n u u'
  | .non, _, _, u, u', n, h, h', r, r', _, _ => by
    cases h; cases h'
    have r : u = .none := r
    have r' : u' = .none := r'
    subst r; subst r'; exact fun A _ => EqAt.same _
  | .bl b, _, _, u, u', n, h, h', r, r', _, _ => by
    cases h; cases h'
    have r : u = .bool b := r
    have r' : u' = .bool b := r'
    subst r; subst r'; exact fun A _ => EqAt.same _
  | .int i, _, _, u, u', n, h, h', r, r', _, _ => by
    cases h; cases h'
    obtain ⟨t, rfl⟩ := (show ∃ t, u = Value.int i t from r)
    obtain ⟨t', rfl⟩ := (show ∃ t, u' = Value.int i t from r')
    intro A _
    have := EqAt.int_int (A := A) (s := s) i t i t'
    rwa [show (i == i) = true from beq_self_eq_true i] at this
  | .str x, _, _, u, u', n, h, h', r, r', _, _ => by
    cases h; cases h'
    obtain ⟨t, rfl⟩ := (show ∃ t, u = Value.str x t from r)
    obtain ⟨t', rfl⟩ := (show ∃ t, u' = Value.str x t from r')
    intro A _
    have := EqAt.str_str (A := A) (s := s) x t x t'
    rwa [show (x == x) = true from beq_self_eq_true x] at this
  | .lst xs, _, _, u, u', n, h, h', r, r', hn, h6 => by
    intro A hu
    cases h with
    | @lst p vs _ h ha =>
    cases h' with
    | @lst p' vs' _ h' ha' =>
    cases r; cases r'
    by_cases e : p = p'
    · subst e; exact EqAt.same _
    · simp only [dyDep] at hn
      obtain ⟨m, rfl⟩ : ∃ m, n = m + 1 := ⟨n - 1, by omega⟩
      obtain ⟨its, r1, p1, _⟩ := I.list (SqL.of h)
      obtain ⟨its', r2, p2, _⟩ := I.list (SqL.of h')
      have l1 := (dya_all2 ha).length
      have l2 := (dya_all2 ha').length
      have l3 := r1.length
      have l4 := r2.length
      exact EqAt.of_refs e (alike_lists (n := m) p1.isList p2.isList (by omega) (fun j h1 h2 => by
        obtain ⟨v, hv, rv⟩ := vals_get r1 h1
        obtain ⟨v', hv', rv'⟩ := vals_get r2 h2
        exact dy_sames I xs vs vs' j v v' _ _ m ha ha' hv hv' rv rv' (by omega) (by omega)) hu).1
  | .tup xs, _, _, u, u', n, h, h', r, r', hn, h6 => by
    intro A hu
    cases h with
    | @tup p vs _ h ha =>
    cases h' with
    | @tup p' vs' _ h' ha' =>
    cases r; cases r'
    by_cases e : p = p'
    · subst e; exact EqAt.same _
    · simp only [dyDep] at hn
      obtain ⟨m, rfl⟩ : ∃ m, n = m + 1 := ⟨n - 1, by omega⟩
      obtain ⟨its, r1, p1, _⟩ := I.tuple h
      obtain ⟨its', r2, p2, _⟩ := I.tuple h'
      have l1 := (dya_all2 ha).length
      have l2 := (dya_all2 ha').length
      have l3 := r1.length
      have l4 := r2.length
      exact EqAt.of_refs e (alike_tuples (n := m) p1 p2 (by omega) (fun j h1 h2 => by
        obtain ⟨v, hv, rv⟩ := vals_get r1 h1
        obtain ⟨v', hv', rv'⟩ := vals_get r2 h2
        exact dy_sames I xs vs vs' j v v' _ _ m ha ha' hv hv' rv rv' (by omega) (by omega)) hu).1
  | .dic, _, _, u, u', n, h, h', r, r', hn, h6 => by
    intro A hu
    cases h with
    | @dic p h =>
    cases h' with
    | @dic p' h' =>
    cases r; cases r'
    by_cases e : p = p'
    · subst e; exact EqAt.same _
    · simp only [dyDep] at hn
      obtain ⟨_, y1, vs1, k1, d1⟩ := dk_of I.hok h
      obtain ⟨_, y2, vs2, k2, d2⟩ := dk_of I.hok h'
      have e1 : vs1 = [] := List.eq_nil_of_length_eq_zero (by rw [← k1.length]; rfl)
      have e2 : vs2 = [] := List.eq_nil_of_length_eq_zero (by rw [← k2.length]; rfl)
      subst e1; subst e2
      refine EqAt.of_refs e fun P w E Q q => ?_
      exact PySem.W.keq_eqIn (knd := mixKind P w) (r := true) y1 y2 (dict0_any d1) (dict0_any d2) (by omega) (fun _ => .nil) q
  | .dc, _, _, u, u', n, h, h', r, r', hn, h6 => by
    simp only [dyDep] at hn; omega
theorem dy_sames (I : Inv X pins σ H s) : ∀ (ds : List Dy) (vs vs' : List V) (j : Nat) (v v' : V) (u u' : Value) (n : Nat), DyA X.K H vs ds → DyA X.K H vs' ds → vs[j]? = some v → vs'[j]? = some v' → RelV v u → RelV v' u' → dyDeps ds ≤ n → n ≤ 60 → Alike s n u u'
  | [], _, _, j, v, v', u, u', n, h, h', e, e', r, r', hn, h6 => by cases h; simp at e
  | d :: ds, _, _, 0, v, v', u, u', n, h, h', e, e', r, r', hn, h6 => by
    cases h with
    | cons h _ =>
    cases h' with
    | cons h' _ =>
    simp only [dyDeps] at hn
    cases e; cases e'
    exact dy_same I d _ _ u u' n h h' r r' (by omega) h6
  | d :: ds, _, _, j + 1, v, v', u, u', n, h, h', e, e', r, r', hn, h6 => by
    cases h with
    | cons _ h =>
    cases h' with
    | cons _ h' =>
    simp only [dyDeps] at hn
    exact dy_sames I ds _ _ j v v' u u' n h h' e e' r r' (by omega) h6
end
end
section
variable {X : Cx}
def rSame (K : Frag) (eq : Bool) : R2 := fun x y H Q => ∃ d, DyR K H x d ∧ DyR K H y d ∧ dyDep d ≤ 60 ∧ Q (.bl eq) H
theorem op_sameD (hu : X.A.units + 64 < cLine) : OpR X (compareOp .Eq) (rSame X.K true) := by
  intro pins s σ H x y v u Q I rx ry h
  obtain ⟨d, hd, he, dd, q⟩ := h
  have sc : scal x y = true → x = y → wpAny (model X.prog X.w) X.A (compareOp .Eq v u) (EP X pins σ Q) X.xe s := fun hs e => op_eq pins s σ H x y v u Q I rx ry ⟨hs, by rw [decide_eq_true e]; exact q⟩
  cases d with
  | non => cases hd; cases he; exact sc rfl rfl
  | bl b => cases hd; cases he; exact sc rfl rfl
  | int i => cases hd; cases he; exact sc rfl rfl
  | str z => cases hd; cases he; exact sc rfl rfl
  | dc => simp only [dyDep] at dd; omega
  | dic =>
    cases hd with
    | dic h =>
    cases he with
    | dic h' =>
    exact op_eq_dictA (by omega) pins s σ H _ _ v u Q I rx ry ⟨_, _, [], [], rfl, rfl, h, h', rfl, (fun p m => by cases m), q⟩
  | lst xs =>
    simp only [dyDep] at dd
    cases hd with
    | @lst p vs _ h ha =>
    cases he with
    | @lst p' vs' _ h' ha' =>
    cases rx; cases ry
    obtain ⟨its, r1, p1, _⟩ := I.list (SqL.of h)
    obtain ⟨its', r2, p2, _⟩ := I.list (SqL.of h')
    have l1 := (dya_all2 ha).length
    have l2 := (dya_all2 ha').length
    have l3 := r1.length
    have l4 := r2.length
    exact (alike_lists (n := 60) p1.isList p2.isList (by omega) (fun j h1 h2 => by
        obtain ⟨v, hv, rv⟩ := vals_get r1 h1
        obtain ⟨v', hv', rv'⟩ := vals_get r2 h2
        exact dy_sames I xs vs vs' j v v' _ _ 60 ha ha' hv hv' rv rv' (by omega) (Nat.le_refl _)) (by omega)).1 X.prog X.w _ _ ⟨.bl true, H, I, rfl, q⟩
  | tup xs =>
    simp only [dyDep] at dd
    cases hd with
    | @tup p vs _ h ha =>
    cases he with
    | @tup p' vs' _ h' ha' =>
    cases rx; cases ry
    obtain ⟨its, r1, p1, _⟩ := I.tuple h
    obtain ⟨its', r2, p2, _⟩ := I.tuple h'
    have l1 := (dya_all2 ha).length
    have l2 := (dya_all2 ha').length
    have l3 := r1.length
    have l4 := r2.length
    exact (alike_tuples (n := 60) p1 p2 (by omega) (fun j h1 h2 => by
        obtain ⟨v, hv, rv⟩ := vals_get r1 h1
        obtain ⟨v', hv', rv'⟩ := vals_get r2 h2
        exact dy_sames I xs vs vs' j v v' _ _ 60 ha ha' hv hv' rv rv' (by omega) (Nat.le_refl _)) (by omega)).1 X.prog X.w _ _ ⟨.bl true, H, I, rfl, q⟩
def eqDy (d e : Dy) : Res Bool := if d = e ∧ dyDep d ≤ 60 then .ok true else guardR (noDic d && noDic e && SeqAt.shaped (dyPy d) && SeqAt.shaped (dyPy e)) (.ok (PyData.eqv (dyPy d) (dyPy e)))
def neDy (d e : Dy) : Res Bool := if d = e ∧ dyDep d ≤ 60 then .ok false else guardR (noDic d && noDic e && SeqAt.shaped (dyPy d) && SeqAt.shaped (dyPy e)) (.ok (!PyData.eqv (dyPy d) (dyPy e)))
theorem b_eqDy : Bi X (fun x y H Q => rSame X.K true x y H Q ∨ rEqD X.K x y H Q) (fun (d e : Dy) => eqDy d e) := ⟨fun d e v w H Q r1 r2 q => by
  have r1 : DyR X.K H v d := r1
  have r2 : DyR X.K H w e := r2
  have q : okR (eqDy d e) _ := q
  unfold eqDy at q
  by_cases h : d = e ∧ dyDep d ≤ 60
  · rw [if_pos h] at q
    exact .inl ⟨d, r1, by rw [h.1]; exact r2, h.2, q _ H (Same.refl H) rfl⟩
  · rw [if_neg h] at q
    cases g : (noDic d && noDic e && SeqAt.shaped (dyPy d) && SeqAt.shaped (dyPy e)) with
    | false => rw [g] at q; exact q.elim
    | true =>
      rw [g] at q
      simp only [Bool.and_eq_true] at g
      exact .inr ⟨_, _, dy_dp g.1.1.1 r1, dy_dp g.1.1.2 r2, g.1.2, g.2, q _ H (Same.refl H) rfl⟩, fun d e => by
  show NoX (eqDy d e)
  unfold eqDy
  split
  · exact noX_ok
  · exact noX_guard⟩
theorem op_eqDy (hu : X.A.units + 64 < cLine) : OpR X (compareOp .Eq) (fun x y H Q => rSame X.K true x y H Q ∨ rEqD X.K x y H Q) := (op_sameD hu).or (op_eqD hu)
end
end G

namespace G
open PySem PySem.Spec PyProof.Rows L2
def repS (x : Str) (k : Int) : Str := ⟨((List.replicate k.toNat x.cps.toList).flatten).toArray⟩
theorem foldl_cps (l : List (Array Nat)) : ∀ a : Array Nat, (l.foldl (· ++ ·) a).toList = a.toList ++ (l.map Array.toList).flatten := by
  induction l with
  | nil => intro a; simp
  | cons b l ih => intro a; rw [List.foldl_cons, ih]; simp
theorem txt_mul (x : Str) (k : Int) : Txt.mul x k = repS x k := by
  unfold Txt.mul repS
  by_cases h : k < 1
  · rw [if_pos h]
    have : k.toNat = 0 := by omega
    rw [this]; rfl
  · rw [if_neg h]
    by_cases h2 : (k == 1 || x.length == 0) = true
    · rw [if_pos h2]
      rw [Bool.or_eq_true] at h2
      rcases h2 with h2 | h2
      · have : k.toNat = 1 := by have := eq_of_beq h2; omega
        rw [this]
        cases x with
        | mk c => simp
      · have hz : x.cps.toList = [] := by
          have := eq_of_beq h2
          have : x.cps.size = 0 := this
          rw [← Array.length_toList] at this
          exact List.eq_nil_of_length_eq_zero this
        rw [hz]
        cases x with
        | mk c =>
          have hz : c.toList = [] := hz
          have : c = #[] := by cases c; simpa using hz
          subst this
          congr 1
          have : (List.replicate k.toNat ([] : List Nat)).flatten = [] := by
            induction k.toNat with
            | zero => rfl
            | succ n ih => rw [List.replicate_succ, List.flatten_cons, ih]; rfl
          rw [this]
    · rw [if_neg h2]
      congr 1
      apply Array.ext'
      rw [foldl_cps]
      simp
def mulS (x : Str) (k : Int) : Res Str := guardR (decide (0 ≤ k) && decide (k ≤ 1000000) && big (x.length * k.toNat)) (.ok (repS x k))
theorem op_mulStr {X : Cx} : OpR X (binaryOp .Mult) (fun x y H Q => ∃ z k, x = .str z ∧ y = .int k ∧ MulOk z k ∧ Q (.str (Txt.mul z k)) H) := by
  intro pins s σ H x y v u Q I rx ry h
  obtain ⟨z, k, rfl, rfl, hk, q⟩ := h
  obtain ⟨t, rfl⟩ := (show ∃ t, v = Value.str z t from rx)
  obtain ⟨t', rfl⟩ := (show ∃ t, u = Value.int k t from ry)
  exact SB.mul hk fun t' k' => ⟨.str _, H, I.tok _, ⟨_, rfl⟩, q⟩
theorem b_mulS {X : Cx} : Bi X (fun x y H Q => ∃ z k, x = .str z ∧ y = .int k ∧ MulOk z k ∧ Q (.str (Txt.mul z k)) H) mulS := ⟨fun a k v w H Q r1 r2 q => by
  have q : okR (mulS a k) _ := q
  unfold mulS at q
  cases g : (decide (0 ≤ k) && decide (k ≤ 1000000) && big (a.length * k.toNat)) with
  | false => rw [g] at q; exact q.elim
  | true =>
    rw [g] at q
    simp only [Bool.and_eq_true, decide_eq_true_eq] at g
    obtain ⟨⟨g1, g2⟩, g3⟩ := g
    have g3' : a.length * k.toNat ≤ 1000000 := of_decide_eq_true g3
    refine ⟨a, k, r1, r2, ⟨by rw [decide_eq_false (by omega), decide_eq_false (by omega)]; rfl, fun h1 _ => ?_, fun _ _ => ?_⟩, q _ H (Same.refl H) (by show V.str _ = V.str _; rw [txt_mul])⟩
    · have hm : (a.length : Int) * k ≤ 1000000 := by
        have : (k.toNat : Int) = k := by omega
        rw [← this, ← Int.natCast_mul]; omega
      have : (2 ^ 63 - 1 : Int) / k ≥ a.length := by
        refine (Int.le_ediv_iff_mul_le (by omega)).mpr ?_
        omega
      omega
    · have := big_line g3
      unfold PySem.Builtin.Str.tooLong
      exact decide_eq_false (by omega)
    , fun _ _ => noX_guard⟩
structure I2 where
  a : Int
  b : Int
instance : Enc I2 := ⟨fun K H v x => ∃ p, v = .ref p ∧ SqT K H p [.int x.a, .int x.b], fun s ⟨p, e, h⟩ => ⟨p, e, seqT s h⟩⟩
def dyI2 : Dy → Res I2 | .tup [.int a, .int b] => .ok ⟨a, b⟩ | _ => .stuck
def rGeT (K : Frag) : R2 := fun x y H Q => ∃ (a b : Addr) (i j k l : Int), x = .ref a ∧ y = .ref b ∧ SqT K H a [.int i, .int j] ∧ SqT K H b [.int k, .int l] ∧ Q (.bl (leP (k, l) (i, j))) H
section
variable {X : Cx} {W : WX} {ss : List Slot} {pos : Pos} {a b c e : Expr} {es : List Expr}
theorem xk_tupK {n k : Nat} {α : Type} [Enc α] {m : Res (Hom n α)} (h : XAK X W ss es m) (hn : n ≤ 1000 := by decide) : XK X W ss (.Tuple es k pos) (m.bind fun x => .ok (⟨x.l⟩ : Tup α)) fr := by
  refine PE_imp (pe_tup h) fun σ H Q ⟨F, sf, sl, q⟩ => ⟨F, sf, sl, wpR_imp (wpR_bind q) (Same.refl H) fun x q vs H1 F1 s1 ex1 ⟨el, r1⟩ => ?_⟩
  have hv : vs.length = x.l.length := All2.length r1
  refine ⟨smallLine (by omega), fun p hp => ?_⟩
  have hF : F1 p = none := Same.free ex1.sub hp
  have sF := same_upd (o := HO.tup vs) hF
  refine q _ _ (upd F1 p (.tup vs)) noHp (s1.trans (same_upd hp)) ⟨ex1.le.trans sF, fun b u z => ?_, fun b u z => ?_⟩ priv_no ⟨_, rfl, p, vs, rfl, SqT.of upd_same, All2.mono sF r1⟩
  · by_cases e : b = p
    · subst e; rw [upd_same] at z ⊢; exact z
    · rw [upd_ne e] at z ⊢; exact ex1.sub _ _ z
  · by_cases e : b = p
    · subst e; exact .inr (.inl (Same.free s1 hp))
    · rw [upd_ne e] at z; exact ex1.new _ _ z
end
theorem gtup_mk {K : Frag} {mg : PySem.Str → Option Value} {h : Heap} {x : PySem.Str} {p : Addr} {od : Option Addr} {its : List Value} {n : Nat} {osl : Array (Option Value)} {as : List Str} (X : K.In h) (G : h.Ns mainGlobals mg) (a : PySem.W.nsIn K mainGlobals x = some (some (.ref p)))
    (l : K.lookup p = some ⟨.type "tuple", od, .seq its.toArray n, osl⟩) (v : Vals (as.map V.str) its) (hl : as.length ≤ 1000) : GTup K mg x (⟨as⟩ : Tup Str) :=
  ⟨p, as.map V.str, PySem.W.mg_of X G a, fun H => .inr ⟨_, its.toArray, n, l, rfl, rfl, by
    have := v.length
    rw [List.length_map] at this
    rw [List.size_toArray, ← this]
    exact smallLine hl, by simpa using v⟩, fun H => All2.of_map⟩
end G

namespace G
open PySem PySem.Spec PyProof.Rows L2
theorem vals_of_get : ∀ {vs : List V} {us : List Value}, vs.length = us.length → (∀ (j : Nat) (v : V) (u : Value), vs[j]? = some v → us[j]? = some u → RelV v u) → Vals vs us
  | [], [], _, _ => .nil
  | v :: vs, u :: us, l, h => .cons (h 0 v u rfl rfl) (vals_of_get (Nat.succ.inj l) fun j a b x y => h (j + 1) a b x y)
  | [], _ :: _, l, _ => by cases l
  | _ :: _, [], l, _ => by cases l
theorem vals_signs {x : Str} {acc : Array Value} (h : ItemsOf (SignAt x) acc x.cps.size) : Vals ((signsOf x).map V.str) acc.toList := by
  refine vals_of_get ?_ fun j v u hv hu => ?_
  · rw [List.length_map]; unfold signsOf
    rw [List.length_map, Array.length_toList, Array.length_toList, h.1]
  · obtain ⟨c, t, hc, rfl⟩ := h.2 j u (by rw [← Array.getElem?_toList]; exact hu)
    unfold signsOf at hv
    rw [List.getElem?_map, List.getElem?_map, Array.getElem?_toList, hc] at hv
    cases hv
    exact ⟨t, rfl⟩
theorem signsOf_len (x : Str) : (signsOf x).length = x.length := by unfold signsOf; rw [List.length_map, Array.length_toList]; rfl
section
variable {X : Cx}
theorem call_listStr (hc : X.calm = true) : CallR X (.type "list") (fun xs H Q => ∃ x, xs = [.str x] ∧ x.length ≤ sizeLine ∧ ∀ p, H p = none → Q (.ref p) (upd H p (.lst ((signsOf x).map V.str)))) := by
  intro pins s σ H xs us Q I r h
  obtain ⟨x, rfl, hx, q⟩ := h
  obtain ⟨u, rfl, rx⟩ := vals1 r
  obtain ⟨t, rfl⟩ := (show ∃ t, u = Value.str x t from rx)
  refine call_list_str (I.ok.hd hc) x t (hn := hx) fun h' tk acc c kp hD hI => ?_
  have hv := vals_signs hI
  have hz : ((signsOf x).map V.str).length ≤ sizeLine := by rw [List.length_map, signsOf_len]; exact hx
  have hg : h'.get? s.heap.objs.size = some { cls := .type "list", dict := none, data := .seq acc.toList.toArray c, slots := #[] } := by rw [Array.toArray_toList]; exact hD
  exact ⟨.ref s.heap.objs.size, _, I.laid (t' := tk) kp (Nat.le_refl _) (show ObjOk X.prog X.w _ h' _ (.lst _) from ⟨hz, acc.toList, c, hv, hg⟩), rfl, q _ (I.hok.fresh (Nat.le_refl _))⟩
variable {W : WX} {ss : List Slot} {pos : Pos} {a : Expr}
def listS (x : Str) : Res (List Str) := guardR (big x.length) (.ok (signsOf x))
theorem xk_listS {m : Res Str} {p : Pos} (h : XI X W ss a m) (hm : X.mg "list" = none) (hc : X.calm = true := by rfl) (hg : Gl X "list" := by rfl) (he : starEach [a] X.env = (false, eval a X.env) :: starEach [] X.env := by rfl) :
    XK X W ss (.Call (.Name "list" p) [a] [] pos) (m.bind listS) ow :=
  PE_imp (pe_callTy (call_listStr hc) hg hm (by decide +kernel) (pa_cons h pa_nil he) (by decide) (by decide) he rfl) fun σ H Q ⟨F, sf, sl, q⟩ => ⟨sl.mono sf (Same.refl H), wpR_imp (wpR_bind q) (Same.refl H) fun x q v H1 s1 r1 => by
    obtain ⟨g, q⟩ := wpR_guard q
    exact ⟨x, by rw [show v = V.str x from r1], big_line g, fun o ho => new_owI sf s1 ho (All2.of_map (f := V.str)) q⟩⟩
end
end G

namespace G
open PySem PySem.Spec PyProof.Rows L2
def rangeC (lo c : Int) (n : Nat) : List Int := (List.range n).map fun (i : Nat) => lo + (i : Int) * c
def range3 (i j c : Int) : Res (List Int) := guardR (decide (c ≠ 0) && decide (c.natAbs < 1073741824) && Builtin.Range.small i j c && decide (0 ≤ Builtin.Range.rangeSize i j c)) (.ok (rangeC i c (Builtin.Range.rangeSize i j c).toNat))
section
variable {X : Cx} {W : WX} {ss : List Slot} {tg : Expr}
end
end G
namespace G
open PySem PySem.Spec PyProof.Rows L2
def cutC {α : Type} (xs : List α) (lo hi : Option Int) (c : Int) : List α :=
  (sliceRange (sliceBounds lo hi (some c) xs.length).1 (sliceBounds lo hi (some c) xs.length).2.1 (sliceBounds lo hi (some c) xs.length).2.2).filterMap (xs[·]?)
section
variable {X : Cx}
def tSlC (K : Frag) (c : Int) (te : TE) (tl th : TO) : TE := fun σ H Q => te σ H fun x H1 => tl σ H1 fun l H2 => th σ H2 fun u H3 => ∃ a xs, x = .ref a ∧ SqL K H3 a xs ∧ (cutC xs l u c).length ≤ sizeLine ∧ ∀ p, H3 p = none → Q (.ref p) (upd H3 p (.lst (cutC xs l u c)))
variable {W : WX} {ss : List Slot} {pos : Pos} {a : Expr}
end
end G
namespace G
open PySem PySem.Spec PyProof.Rows L2
section
variable {X : Cx} {W : WX} {ss : List Slot} {sts : List Stmt}
theorem st_stuck {R : Type} {e : Bool} {kr : R → Slot} : ST X W e ss sts (Res.stuck : Res R) kr := ⟨fun pins s σ H D I ⟨_, _, _, _, _, q⟩ => q.2.elim⟩
end
end G

namespace G
open PySem PySem.Spec PyProof.Rows L2
section
variable {X : Cx} {W : WX} {ss : List Slot}
end
end G

namespace G
open PySem PySem.Spec PyProof.Rows L2
abbrev ETab := List (Str × Bool)
def lookB : ETab → Str → Option Bool
  | [], _ => none
  | (k, b) :: r, n => if n = k then some b else lookB r n
def noX {α : Type} : Res α → Res α
  | .ok a => .ok a
  | .exc _ => .stuck
  | .stuck => .stuck
abbrev Hds (β : Type) := List (ETab × (Exn → Res β))
def pickR {β : Type} (x : Exn) : Hds β → Res β
  | [] => .exc x
  | (t, M) :: r => match lookB t x.cls with
    | none => .stuck
    | some true => noX (M x)
    | some false => pickR x r
def catchR {β : Type} (m : Res β) (hs : Hds β) : Res β := match m with
  | .ok b => .ok b
  | .exc x => pickR x hs
  | .stuck => .stuck
def Pay.isNo : Pay → Bool
  | .no => true
  | _ => false
def isE (t : ETab) (x : Exn) : Res Bool := if x.pay.isNo = true then (match lookB t x.cls with
  | some b => .ok b
  | none => .stuck) else .stuck
def vB : List Value := [.type "ValueError", .type "Exception", .type "BaseException", .type "object"]
structure Cl (K : Frag) (mg : PySem.Str → Option Value) (n : Str) (C : Addr) : Prop where
  g : mg n = some (.ref C)
  k : PySem.W.keepIn K (.ref C) = true
  b : PySem.W.subIn K (.ref C) (.type "BaseException") = some true
  t : PySem.W.typeIn K (.ref C) = some (.type "type")
  i : PySem.W.isClsIn K C = true
  e : ExcC K C
  s : PySem.W.subIn K (.ref C) (.ref C) = some true
def HasCl (K : Frag) (mg : PySem.Str → Option Value) (n : Str) : Prop := ∃ C, Cl K mg n C ∧ PySem.W.excIn K C vB "ValueError.__new__" = true
def CTab (K : Frag) (mg : PySem.Str → Option Value) (y : Str) (tab : ETab) : Prop := ∃ Y, mg y = some (.ref Y) ∧ ∀ n b, lookB tab n = some b → ∃ C, mg n = some (.ref C) ∧ PySem.W.exmOne K (.ref C) (.ref Y) = some b
def ITab (K : Frag) (mg : PySem.Str → Option Value) (y : Str) (tab : ETab) : Prop := ∃ (v : V) (cv : Value), (mg y = some cv ∨ mg y = none ∧ bootBuiltins y = some cv ∧ y ≠ "__name__") ∧ RelV v cv ∧ (∀ u, RelV v u → u = cv) ∧ ∀ n b, lookB tab n = some b → ∃ C, mg n = some (.ref C) ∧ ExcC K C ∧ PySem.W.kitOne K (.ref C) cv = some b
theorem exm_cl {K : Frag} {mg : PySem.Str → Option Value} {n y : Str} {C Y : Addr} {b : Bool} (c : Cl K mg n C) (d : Cl K mg y Y) (s : PySem.W.subIn K (.ref C) (.ref Y) = some b) : PySem.W.exmOne K (.ref C) (.ref Y) = some b := PySem.W.exm_ref d.b d.e.hd d.t s
theorem ctab_mk {K : Frag} {mg : PySem.Str → Option Value} {y : Str} {Y : Addr} {tab : ETab} (d : Cl K mg y Y) (h : ∀ n b, lookB tab n = some b → ∃ C, Cl K mg n C ∧ PySem.W.subIn K (.ref C) (.ref Y) = some b) : CTab K mg y tab := by
  refine ⟨Y, d.g, fun n b e => ?_⟩
  obtain ⟨C, c, s⟩ := h n b e
  exact ⟨C, c.g, exm_cl c d s⟩
theorem kit_cl {K : Frag} {mg : PySem.Str → Option Value} {n y : Str} {C Y : Addr} {b : Bool} (c : Cl K mg n C) (d : Cl K mg y Y) (s : PySem.W.subIn K (.ref C) (.ref Y) = some b) (hb : C = Y → b = true) : PySem.W.kitOne K (.ref C) (.ref Y) = some b := by
  unfold PySem.W.kitOne
  by_cases e : C = Y
  · rw [if_pos (by rw [e]; exact beq_self_eq_true _), hb e]
  · rw [if_neg (by simpa using e)]
    have h2 : (PySem.W.clsIn K Y).isSome = true := d.i
    unfold PySem.W.kitCls
    show (if ((PySem.W.clsIn K Y).isSome && PySem.W.typeIn K (.ref Y) == some (.type "type")) = true then PySem.W.subIn K (.ref C) (.ref Y) else none) = some b
    rw [h2, d.t, if_pos (by rfl)]
    exact s
theorem itab_mk {K : Frag} {mg : PySem.Str → Option Value} {y : Str} {Y : Addr} {tab : ETab} (d : Cl K mg y Y) (h : ∀ n b, lookB tab n = some b → ∃ C, Cl K mg n C ∧ PySem.W.subIn K (.ref C) (.ref Y) = some b) : ITab K mg y tab := by
  refine ⟨.ref Y, .ref Y, .inl d.g, rfl, fun u r => r, fun n b e => ?_⟩
  obtain ⟨C, c, s⟩ := h n b e
  exact ⟨C, c.g, c.e, kit_cl c d s fun q => by subst q; exact Option.some.inj (s.symm.trans d.s)⟩
theorem tabs_nil {K : Frag} {mg : PySem.Str → Option Value} {v : Value} : ∀ n b, lookB [] n = some b → ∃ C, Cl K mg n C ∧ PySem.W.subIn K (.ref C) v = some b := fun _ _ h => nomatch h
theorem tabs_cons {K : Frag} {mg : PySem.Str → Option Value} {v : Value} {tab : ETab} {m : Str} {c : Bool} {D : Addr} (d : Cl K mg m D) (s : PySem.W.subIn K (.ref D) v = some c) (r : ∀ n b, lookB tab n = some b → ∃ C, Cl K mg n C ∧ PySem.W.subIn K (.ref C) v = some b) :
    ∀ n b, lookB ((m, c) :: tab) n = some b → ∃ C, Cl K mg n C ∧ PySem.W.subIn K (.ref C) v = some b := fun n b h => by
  unfold lookB at h
  by_cases e : n = m
  · rw [if_pos e] at h
    cases h
    subst e
    exact ⟨D, d, s⟩
  · rw [if_neg e] at h
    exact r n b h
theorem itab_ty {K : Frag} {mg : PySem.Str → Option Value} {y : Str} {T : String} {tab : ETab} (hm : mg y = none) (hv : bootBuiltins y = some (.type T)) (hn : y ≠ "__name__") (hk : PySem.W.kitMeta T = true) (h : ∀ n b, lookB tab n = some b → ∃ C, Cl K mg n C ∧ PySem.W.subIn K (.ref C) (.type T) = some b) : ITab K mg y tab := by
  refine ⟨.ty T, .type T, .inr ⟨hm, hv, hn⟩, rfl, fun u r => r, fun n b e => ?_⟩
  obtain ⟨C, c, s⟩ := h n b e
  refine ⟨C, c.g, c.e, ?_⟩
  unfold PySem.W.kitOne
  rw [if_neg (by simp)]
  unfold PySem.W.kitCls
  show (if PySem.W.kitMeta T = true then PySem.W.subIn K (.ref C) (.type T) else none) = some b
  rw [if_pos hk]; exact s
section
variable {X : Cx} {W : WX} {ss : List Slot} {rest : List Stmt}
def tRs (X : Cx) (W : WX) (n : Str) : TS := fun _ σ H => ∀ cls, X.mg n = some cls → W cls none σ H
theorem ps_rs {n m : Str} {j : Nat} {p p2 pos pos' : Pos} (c : HasCl X.K X.mg n) (tk : Takes X W) (hc : X.calm = true := by rfl) (hg : Gl X n := by rfl) (hdb : (n == ("__debug__" : Str)) = false := by decide) :
    PS X (.Raise (some (.Call (.Name n p) [.Constant (.str m) j p2] [] pos)) none pos') (tRs X W n) := by
  obtain ⟨C, c, cx⟩ := c
  exact PS_imp (ps_raise hc tk (pmk_own PySem.F.excBase_ValueError cx c.g c.k (raises_own c.b c.t) hg hdb)) fun D σ H q => q _ c.g
theorem rs_core {n m : Str} {j : Nat} {p p2 pos pos' : Pos} (c : HasCl X.K X.mg n) (tk : Takes X W) (hc : X.calm = true := by rfl) (hg : Gl X n := by rfl) (hdb : (n == ("__debug__" : Str)) = false := by decide) :
    PSs X (.Raise (some (.Call (.Name n p) [.Constant (.str m) j p2] [] pos)) none pos' :: rest) (tRs X W n) :=
  rest_free (ps_rs c tk hc hg hdb) fun _ _ _ _ _ _ _ q => q
theorem rs_wish {n : Str} {B σ H} (q : EXS X W B ⟨n, .no⟩) (s : Same B H) : tRs X W n D σ H := fun cls e => q σ cls none H e s rfl
theorem st_raise {R : Type} {ee : Bool} {kr : R → Slot} {n m : Str} {j : Nat} {p p2 pos pos' : Pos} (c : HasCl X.K X.mg n) (tk : Takes X W) (hc : X.calm = true := by rfl) (hg : Gl X n := by rfl) (hdb : (n == ("__debug__" : Str)) = false := by decide) :
    ST X W ee ss (.Raise (some (.Call (.Name n p) [.Constant (.str m) j p2] [] pos)) none pos' :: rest) (.exc ⟨n, .no⟩ : Res R) kr :=
  PSs_imp (rs_core c tk hc hg hdb) fun D σ H ⟨B, F0, F, Gs, A, q⟩ => rs_wish q.2 A.base
def outOk (X : Cx) {S L R : Type} (post : S → List Slot) (pl : L → List Slot) (kr : R → Slot) (D : Ends) (B F0 : Hp) : Out S L R → Prop
  | .nx s => NxOk X (post s) D B F0
  | .rt r => RtOk X kr r D B F0
  | .bk l => BkOk X (pl l) D B F0
  | .ct l => CtOk X (pl l) D B F0
def rdE (X : Cx) (W : WX) (ss : List Slot) {S L R : Type} (M : Res (Out S L R)) (post : S → List Slot) (pl : L → List Slot) (kr : R → Slot) : TS := fun D σ H =>
  ∃ B F0 F Gs, Asn X.K B F0 ss σ H F Gs ∧ wpR X W M σ H (outOk X post pl kr D B F0)
theorem eb_do {α S L R : Type} {kd : α → Slot} {m : Res α} {s0 : S} {post : S → List Slot} {pl : L → List Slot} {kr : R → Slot} {e : Expr} {pos : Pos} (h : XK X W ss e m kd) (hw : Wk ss (post s0)) (hs : swapsWith e none pos.line X.env = pure false := by rfl) :
    PS X (.Expr e pos) (rdE X W ss (m.bind fun _ => .ok (.nx s0) : Res (Out S L R)) post pl kr) := by
  refine PS_imp (ps_expr h hs) fun D σ H ⟨B, F0, F, Gs, A, q⟩ => ⟨F, A.ext.sub, A.sl, wpR_imp (wpR_bind q) (Same.refl H) fun a q v H' F' G' s ex pr k => ?_⟩
  exact q _ H' F' _ ((A.grow s ex).wk hw)
abbrev wNo : WX := fun _ _ _ _ => False
theorem takes_no {X : Cx} : Takes X wNo := fun u s' ⟨a, B, sI, pins, σ, H, cls, d, e, I, nb, up, sky, na, os, ag, w⟩ => w.elim
inductive HX (X : Cx) (ss : List Slot) {S L R : Type} (post : S → List Slot) (pl : L → List Slot) (kr : R → Slot) : List ExceptHandler → Hds (Out S L R) → Prop
  | nil : HX X ss post pl kr [] []
  | cons {y : Str} {tab : ETab} {M : Exn → Res (Out S L R)} {b₀ : Stmt} {suite : List Stmt} {np pos' : Pos} {hds : List ExceptHandler} {hs : Hds (Out S L R)} (c : CTab X.K X.mg y tab) (hg : Gl X y) (hdb : (y == ("__debug__" : Str)) = false)
      (h : ∀ (x : Exn) (a : Addr) (oe : Obj) (pn : List (Addr × Obj)), SB (X.suite a ((a, oe) :: pn)) wNo ss (b₀ :: suite) (M x) post pl kr) (r : HX X ss post pl kr hds hs) :
      HX X ss post pl kr (.ExceptHandler (some (.Name y np)) none (b₀ :: suite) pos' :: hds) ((tab, M) :: hs)
def tsX (X : Cx) (ss : List Slot) {S L R : Type} (M : Exn → Res (Out S L R)) (post : S → List Slot) (pl : L → List Slot) (kr : R → Slot) : Addr → Value → Option Addr → TS := fun _ cls d D σ H =>
  ∃ x : Exn, X.mg x.cls = some cls ∧ ∃ B F0 F Gs, Asn X.K B F0 ss σ H F Gs ∧ wpS X wNo (M x) B (outOk X post pl kr D B F0)
def exS (a : Addr) : Slot := ⟨fun _ _ _ o => o = some (.ref a), fun _ _ h => h⟩
end
end G

namespace G
open PySem PySem.Spec PyProof.Rows L2
def dyCut (d : Dy) (l u : Option Int) : Res Dy := match d with
  | .tup xs => .ok (.tup (cut xs l u))
  | _ => .stuck
section
variable {X : Cx} {W : WX} {ss : List Slot} {a : Expr} {pos : Pos}
end
end G
namespace G
open PySem PySem.Spec PyProof.Rows L2
def rCatQ (K : PySem.W.Frag) : R2 := fun x y H Q => ∃ l b xs zs, x = .ref l ∧ y = .ref b ∧ SqL K H l xs ∧ SqL K H b zs ∧ xs.length + zs.length ≤ sizeLine ∧ ∀ p, H p = none → Q (.ref p) (upd H p (.lst (xs ++ zs)))
section
variable {X : Cx} {W : WX} {ss : List Slot} {a b : Expr} {pos : Pos}
end
end G
namespace G
open PySem PySem.Spec PyProof.Rows L2
section
variable {X : Cx} {CX : CXT} {k : Nat} {f : Addr} {fd : FuncData} {ps : List Str} {sp : Sp} {E : L2.St → L2.XK} {dvs : List V} {ds : List Value} {x : Str} {p pos : Pos}
end
section
variable {X : Cx} {W : WX} {ss : List Slot} {k j : Nat} {x : Str} {A R : Type} [EncA A] {c : Unit → A} {g : A → Res R} {kr : R → Slot} {p pos : Pos}
end
end G

namespace G
open PySem PySem.Spec PyProof.Rows L2
def wT3 (K : PySem.W.Frag) (c1 c2 c3 : Value) (ts : Addr → Value → Option Addr → TS) (D : Ends) : L2.WX := fun cls d σ H => PySem.W.exmAny K cls [c1, c2, c3] = some true ∧ ∀ a, H a = none → ts a cls d D σ H
structure Lies (X : Cx) (pins : List (Addr × Obj)) (σ : L2.St) (H : Hp) (B : Heap) (a : Addr) (cls : Value) (d : Option Addr) (sI s : Shared) : Prop where
  before : Inv X pins σ H sI
  low : ∀ b o, sI.heap.get? b = some o → b ∉ frs X.stack → B.get? b = some o
  grew : sI.heap.UpToSlots s.heap
  air : HandSPX.FlyingZ B (X.env :: X.outer) a (Zc cls d) s.heap
  fresh : H a = none
  sys : s.os = sI.os
  gen : AllBare s.gens
section
variable {X : Cx} {pins : List (Addr × Obj)} {σ : L2.St} {H : Hp} {B : Heap} {a : Addr} {cls : Value} {d : Option Addr} {sI s : Shared}
theorem Lies.inv (l : Lies X pins σ H B a cls d sI s) : Inv X pins σ H s := l.before.landed l.low l.air.1 l.grew l.sys l.gen
theorem Lies.obj (l : Lies X pins σ H B a cls d sI s) : ∃ oe, s.heap.get? a = some oe ∧ Zc cls d oe ∧ ∃ vs, oe.data = .fields vs := by
  obtain ⟨oe, vs, q1, q2, q3⟩ := l.air.there
  exact ⟨oe, q1, q2, vs, q3⟩
theorem Lies.out (l : Lies X pins σ H B a cls d sI s) : a ∉ frs (X.env :: X.outer) := by
  intro inside
  obtain ⟨oe, q1, _, vs, q3⟩ := l.obj
  obtain ⟨_, o2, w1, w2⟩ := l.air.2.2.1.mem inside
  cases q1.symm.trans w1
  exact w2 _ q3
theorem Lies.notL (l : Lies X pins σ H B a cls d sI s) (hf : X.env.frame = some X.env.locals) : a ≠ X.env.locals := by
  intro z
  refine l.out (List.mem_filterMap.mpr ⟨X.env, List.mem_cons_self, ?_⟩)
  rw [hf, z]
theorem Lies.notF (l : Lies X pins σ H B a cls d sI s) : a ∉ X.fs := by
  intro inside
  obtain ⟨env, m, q⟩ := List.mem_filterMap.mp inside
  exact l.out (List.mem_filterMap.mpr ⟨env, .tail _ m, q⟩)
theorem Lies.ground (l : Lies X pins σ H B a cls d sI s) {o : Obj} (e : sI.heap.get? a = some o) (hs : X.stack = X.env :: X.outer) : False := by
  have := l.low a o e (by rw [hs]; exact l.out)
  rw [l.air.2.1] at this
  cases this
theorem Lies.young (l : Lies X pins σ H B a cls d sI s) (hs : X.stack = X.env :: X.outer) (hex : X.ex = []) : X.s_0.heap.get? a = none := by
  cases e : X.s_0.heap.get? a
  · rfl
  · rename_i o
    obtain ⟨o', q⟩ := l.before.base.there a o e (hex ▸ List.not_mem_nil)
    exact (l.ground q hs).elim
theorem Lies.away (l : Lies X pins σ H B a cls d sI s) (hs : X.stack = X.env :: X.outer) : ∀ p ∈ X.pn ++ pins, p.1 ≠ a := by
  intro p m z
  have q := (l.before.pin p m).1
  rw [z] at q
  exact l.ground q hs
theorem Lies.up (l : Lies X pins σ H B a cls d sI s) {h : Heap} (fl : HandSPX.FlyingZ B (X.env :: X.outer) a (Zc cls d) h) (g : s.heap.UpToSlots h) : Lies X pins σ H B a cls d sI { s with heap := h } :=
  ⟨l.before, l.low, l.grew.trans g, fl, l.fresh, l.sys, l.gen⟩
theorem Lies.held (l : Lies X pins σ H B a cls d sI s) (hf : X.env.frame = some X.env.locals) {oe : Obj} (e : s.heap.get? a = some oe) {vs : Array Value} (q : oe.data = .fields vs) : Inv (X.suite a ((a, oe) :: (X.pn ++ pins))) [] σ H s :=
  l.inv.suite e q l.fresh (l.notL hf) l.notF
end
theorem sp_ofTry {X : Cx} {pins : List (Addr × Obj)} {xe : Value → Shared → Prop} {D : Ends} {s : Shared} (ok : X.Ok) : ∀ {f : Flow}, SP (X.tr (X.pn ++ pins) xe) [] D f s → SP X pins D f s
  | .next, ⟨σ, H, J, q⟩ => ⟨σ, H, J.ofTry ok, q⟩
  | .brk, ⟨σ, H, J, q⟩ => ⟨σ, H, J.ofTry ok, q⟩
  | .cont, ⟨σ, H, J, q⟩ => ⟨σ, H, J.ofTry ok, q⟩
  | .ret _, ⟨v, σ, H, J, q⟩ => ⟨v, σ, H, J.ofTry ok, q⟩
def T3Tab (K : Frag) (mg : PySem.Str → Option Value) (y1 y2 y3 : Str) (tab : ETab) : Prop := ∃ Y1 Y2 Y3, mg y1 = some (.ref Y1) ∧ mg y2 = some (.ref Y2) ∧ mg y3 = some (.ref Y3) ∧ ∀ n, lookB tab n = some true → ∃ C, mg n = some (.ref C) ∧ PySem.W.exmAny K (.ref C) [.ref Y1, .ref Y2, .ref Y3] = some true
def catch1 {β : Type} (m : Res β) (tab : ETab) (M : Res β) : Res β := match m with
  | .ok b => .ok b
  | .exc x => if lookB tab x.cls = some true then noX M else .stuck
  | .stuck => .stuck
def t3B (t1 t2 t3 : ETab) (p : Str × Bool) : Bool := !p.2 || (match lookB t1 p.1, lookB t2 p.1, lookB t3 p.1 with
  | some a, some b, some c => a || (b || c)
  | _, _, _ => false)
section
variable {X : Cx} {W : L2.WX} {ss : List Slot}
end
end G

namespace G
open PySem PySem.Spec PyProof.Rows L2
section
variable {X : Cx} {W : WX} {ss : List Slot} {pos : Pos} {a b e : Expr} {es : List Expr}
def indexS (x y : Str) : Res Int := match Builtin.Str.occurrences x y 0 x.length 1 with
  | i :: _ => .ok (i : Int)
  | [] => .stuck
theorem len_dK {X : Cx} : CallR X (.builtin "len") (fun xs H Q => ∃ (a : Addr) (kvs : List (Key × V)), xs = [V.ref a] ∧ Rd H a (.dK kvs) ∧ Q (.int kvs.length) H) := by
  rintro pins s σ H _ us Q I r ⟨a, kvs, rfl, rd, q⟩
  obtain ⟨u, rfl, ru⟩ := r.one
  cases ru
  exact d_len I rd fun t s' J => ⟨.int (kvs.length : Nat), H, J, ⟨t, rfl⟩, q⟩
theorem len_dT {X : Cx} : CallR X (.builtin "len") (fun xs H Q => ∃ (a : Addr) (kvs : List (List Key × V)), xs = [V.ref a] ∧ Rd H a (.dT kvs) ∧ Q (.int kvs.length) H) := by
  rintro pins s σ H _ us Q I r ⟨a, kvs, rfl, rd, q⟩
  obtain ⟨u, rfl, ru⟩ := r.one
  cases ru
  obtain ⟨small, mods, keys, rel, isD⟩ := dt_rd I.hok rd
  have same : kvs.length = keys.length := rel.length
  refine PySem.call_len_dictH mods isD (by rw [← same]; rw [sizeLine_eq] at small; omega) ?_
  rw [← same]
  exact ⟨.int (kvs.length : Nat), H, I.tok _, ⟨_, rfl⟩, q⟩
class DKL (κ : Type) [Enc κ] [DecidableEq κ] [DK κ] : Prop where
  len : ∀ (X : Cx), CallR X (.builtin "len") (fun xs H Q => ∃ (a : Addr) (kvs : List (κ × V)), xs = [V.ref a] ∧ Rd H a (DK.ho kvs) ∧ Q (.int kvs.length) H)
instance : DKL Int := ⟨fun X pins s σ H xs us Q I r ⟨a, kvs, e, h, q⟩ => len_dK pins s σ H xs us Q I r ⟨a, _, e, h, by rw [List.length_map]; exact q⟩⟩
instance : DKL Str := ⟨fun X pins s σ H xs us Q I r ⟨a, kvs, e, h, q⟩ => len_dK pins s σ H xs us Q I r ⟨a, _, e, h, by rw [List.length_map]; exact q⟩⟩
instance : DKL (Int × Int) := ⟨fun X pins s σ H xs us Q I r ⟨a, kvs, e, h, q⟩ => len_dT pins s σ H xs us Q I r ⟨a, _, e, h, by rw [List.length_map]; exact q⟩⟩
end
end G

namespace G
open PySem PySem.Spec PyProof.Rows L2
def t3O {α β γ : Type} [Enc α] [Enc β] [Enc γ] (d : Ow α) (d' : Ow β) (d'' : Ow γ) : Ow (T3 α β γ) := ⟨fun K F G v x => ∃ p v1 v2 v3 G1 G2 G3, v = .ref p ∧ F p = some (.tup [v1, v2, v3]) ∧ Same G1 G ∧ Same G2 G ∧ Same G3 G ∧ Dj G1 G2 ∧ Dj G1 G3 ∧ Dj G2 G3 ∧ d.own K F G1 v1 x.a ∧ d'.own K F G2 v2 x.b ∧ d''.own K F G3 v3 x.c,
  fun s ⟨p, v1, v2, v3, G1, G2, G3, e, g, a1, a2, a3, c1, c2, c3, x, y, z⟩ => ⟨p, v1, v2, v3, G1, G2, G3, e, s _ _ g, a1, a2, a3, c1, c2, c3, d.mF s x, d'.mF s y, d''.mF s z⟩,
  fun s ⟨p, v1, v2, v3, G1, G2, G3, e, g, a1, a2, a3, c1, c2, c3, x, y, z⟩ => ⟨p, v1, v2, v3, G1, G2, G3, e, g, a1.trans s, a2.trans s, a3.trans s, c1, c2, c3, x, y, z⟩,
  fun ⟨p, v1, v2, v3, G1, G2, G3, e, g, a1, a2, a3, c1, c2, c3, x, y, z⟩ s t => ⟨p, v1, v2, v3, e, s _ _ g, d.view x s (a1.trans t), d'.view y s (a2.trans t), d''.view z s (a3.trans t)⟩⟩
instance {α β γ : Type} [Enc α] [Enc β] [Enc γ] {d : Ow α} {d' : Ow β} {d'' : Ow γ} [ImmO d] [ImmO d'] [ImmO d''] : ImmO (t3O d d' d'') := ⟨fun ⟨p, v1, v2, v3, G1, G2, G3, e, g, a1, a2, a3, c1, c2, c3, x, y, z⟩ => ⟨p, v1, v2, v3, G1, G2, G3, e, tups_some g rfl, a1, a2, a3, c1, c2, c3, ImmO.imm x, ImmO.imm y, ImmO.imm z⟩⟩
def optO {α : Type} [Enc α] (d : Ow α) : Ow (Option α) := ⟨fun K F G v o => match o with
    | none => v = .non
    | some a => v ≠ .non ∧ d.own K F G v a,
  fun {K F F' G v o} s h => by
    cases o with
    | none => exact h
    | some a => exact ⟨h.1, d.mF s h.2⟩,
  fun {K F G G' v o} s h => by
    cases o with
    | none => exact h
    | some a => exact ⟨h.1, d.mG s h.2⟩,
  fun {K F G H v o} h s t => by
    cases o with
    | none => exact h
    | some a => exact ⟨h.1, d.view h.2 s t⟩⟩
instance {α : Type} [Enc α] {d : Ow α} [ImmO d] : ImmO (optO d) := ⟨fun {K F G v o} h => by
  cases o with
  | none => exact h
  | some a => exact ⟨h.1, ImmO.imm h.2⟩⟩
class NNO {α : Type} [Enc α] (d : Ow α) : Prop where
  nn : ∀ {K : Frag} {F G : Hp} {v : V} {a : α}, d.own K F G v a → v ≠ .non
instance {α β : Type} [Enc α] [Enc β] {d : Ow α} {d' : Ow β} : NNO (prO d d') := ⟨fun ⟨_, _, _, _, _, e, _⟩ z => by rw [e] at z; cases z⟩
instance {α β γ : Type} [Enc α] [Enc β] [Enc γ] {d : Ow α} {d' : Ow β} {d'' : Ow γ} : NNO (t3O d d' d'') := ⟨fun ⟨_, _, _, _, _, _, _, e, _⟩ z => by rw [e] at z; cases z⟩
structure PartO {τ α : Type} [Enc τ] [Enc α] (D : Ow τ) (n : Int) (get : τ → List α) (put : τ → List α → τ) : Prop where
  part : ∀ {K : Frag} {F G : Hp} {v : V} {a : τ}, D.own K F G v a → ∃ p q us ws, v = .ref p ∧ F p = some (.tup us) ∧ atI us n = some (.ref q) ∧ G q = some (.lst ws) ∧ All2 (fun v a => Enc.rep K F v a) ws (get a) ∧
    ∀ {F' G' : Hp} {ws' : List V} {as' : List α}, Same F F' → (∀ c u, c ≠ q → G c = some u → G' c = some u) → G' q = some (.lst ws') → All2 (fun v a => Enc.rep K F' v a) ws' as' → D.own K F' G' v (put a as')
section
variable {X : Cx} {W : WX} {ss : List Slot} {pos : Pos} {a b e : Expr} {es : List Expr} {rest : List Stmt}
end
end G

namespace G
open PySem PySem.Spec PyProof.Rows L2
structure Raw (α : Type) where
  v : V
  a : α
instance {α : Type} [Enc α] : Enc (Raw α) := ⟨fun K H v r => v = r.v ∧ Enc.rep K H v r.a, fun s ⟨e, r⟩ => ⟨e, Enc.mono s r⟩⟩
def rawZ {α : Type} : List V → List α → List (Raw α)
  | v :: vs, a :: as => ⟨v, a⟩ :: rawZ vs as
  | _, _ => []
section
variable {X : Cx} {W : WX} {ss : List Slot} {tg elt iter : Expr} {scope : Scope} {own : List (Str × Nat)} {pos : Pos}
def rdO (X : Cx) (W : WX) {α : Type} [Enc α] (d : Ow α) (ss : List Slot) (m : Res (List α)) : TI := fun σ H R =>
  ∃ F, Same F H ∧ Sl X.K F H ss σ ∧ wpR X W m σ H fun as => ∀ J H' F' G' p vs gs, Same H H' → Ext F H F' H' → Priv G' H F' H' → G' p = some (.lst vs) → (∀ g ∈ gs, Same g G' ∧ g p = none) → gs.Pairwise Dj → AllO (d.own X.K F') vs gs as → ItOk X.K J (rawZ vs as) (join F' G') → R J H'
end
end G

namespace G
open PySem PySem.Spec PyProof.Rows L2
def jq {α : Type} [Enc α] (d : Ow α) (o0 : Option V) (Gk : Hp) (vs : List V) (as : List α) (k : Nat) : Slot :=
  ⟨fun K F G o => o = o0 ∧ Same Gk G ∧ ∃ gs, (∀ g ∈ gs, Same g G ∧ Dj g Gk) ∧ gs.Pairwise Dj ∧ AllO (d.own K F) (vs.drop k) gs (as.drop k),
   fun s t ⟨e, h, gs, hg, pw, r⟩ => ⟨e, h.trans t, gs, fun g m => ⟨(hg g m).1.trans t, (hg g m).2⟩, pw, r.imp fun _ _ _ x => d.mF s x⟩⟩
theorem Asn.give {K : Frag} {B F0 H F g : Hp} {ss : List Slot} {σ : L2.St} {Gs : List Hp} {s : Slot} {o : Option V} (A : Asn K B F0 ss σ H F Gs) (fr : Fresh B F H Gs g) (j : Nat) (x : s.P K F g o) : Asn K B F0 (ss.set j s) (σ.set j o) H F (Gs.set j g) := by
  refine ⟨A.ext, A.base, A.all.set x j, fun G' m c u z => ?_, pw_set j A.dj fun G' m c => ?_⟩
  · rcases List.mem_or_eq_of_mem_set m with m | e
    · exact A.priv G' m c u z
    · subst e
      obtain ⟨k1, k2, k3, k4, _⟩ := fr c u z
      exact ⟨k1, k3, k4, k2⟩
  · cases e : g c with
    | none => exact .inl rfl
    | some u => exact .inr ((fr c u e).2.2.2.2 G' m)
section
variable {X : Cx} {W : WX} {ss : List Slot} {tg iter a b e : Expr} {es : List Expr} {rest : List Stmt} {pos : Pos}
def ItG (X : Cx) (ss : List Slot) (i : Nat) {α : Type} [Enc α] (d : Ow α) (as : List α) (se : Slot) (tI : TI) : Prop :=
  ∀ {B F0 F H : Hp} {σ : L2.St} {Gs : List Hp} {R : It → Hp → Prop}, Asn X.K B F0 ss σ H F Gs → (∀ J H1 F1 G Gk o vs gs, Same H H1 → Ext F H F1 H1 → Gs[i]? = some G → σ[i]? = some o → Same Gk G → (∀ g ∈ gs, Same g G ∧ Dj g Gk) → gs.Pairwise Dj → AllO (d.own X.K F1) vs gs as →
    (∀ F' G', Same F1 F' → Same Gk G' → se.P X.K F' G' o) → (∀ k F2 H2, Same F1 F2 → Same F2 H2 → Same Gk H2 → (∀ v, vs[k]? = some v → J.go k H2 ∧ ∀ v' H', J.yld k H2 v' H' → H' = H2 ∧ v' = v) ∧ (vs.length ≤ k → J.stop k H2)) → R J H1) → tI σ H R
def TgG (X : Cx) {α : Type} [Enc α] (d : Ow α) (u : α → List Slot → List Slot) (gT : TG) : Prop :=
  ∀ {a : α} {v : V} {g B F0 F H : Hp} {σ : L2.St} {Gs : List Hp} {ss : List Slot} {Q : L2.St → Hp → Prop}, Asn X.K B F0 ss σ H F Gs → Fresh B F H Gs g → d.own X.K F g v a → (∀ σ' Gs', Asn X.K B F0 (u a ss) σ' H F Gs' → Q σ' H) → gT v σ H Q
def jp {α : Type} [Enc α] (d : Ow α) (as : List α) : Slot :=
  ⟨fun K F G o => ∃ p vs w gs, o = some (.ref p) ∧ G p = some (.lst (vs ++ [w])) ∧ (∀ g ∈ gs, Same g G ∧ g p = none) ∧ gs.Pairwise Dj ∧ AllO (d.own K F) vs gs as,
   fun s t ⟨p, vs, w, gs, e, h, hg, pw, r⟩ => ⟨p, vs, w, gs, e, t _ _ h, fun g m => ⟨(hg g m).1.trans t, (hg g m).2⟩, pw, r.imp fun _ _ _ x => d.mF s x⟩⟩
end
end G

namespace G
open PySem PySem.Spec PyProof.Rows L2
section
variable {X : Cx} {W : WX} {ss : List Slot} {tg elt iter : Expr} {scope : Scope} {own : List (Str × Nat)} {pos : Pos}
end
def hold {α : Type} [Enc α] (d : Ow α) (p : Addr) (vs : List V) (as : List α) (k : Nat) : Slot :=
  ⟨fun K F G o => o = some (.ref p) ∧ G p = some (.lst vs) ∧ ∃ g1 g2, (∀ g ∈ g1 ++ g2, Same g G ∧ g p = none) ∧ (g1 ++ g2).Pairwise Dj ∧ AllO (d.own K F) (vs.take k) g1 (as.take k) ∧ AllO (d.own K F) (vs.drop (k + 1)) g2 (as.drop (k + 1)),
   fun s t ⟨e, h, g1, g2, hg, pw, r1, r2⟩ => ⟨e, t _ _ h, g1, g2, fun g m => ⟨(hg g m).1.trans t, (hg g m).2⟩, pw, r1.imp fun _ _ _ x => d.mF s x, r2.imp fun _ _ _ x => d.mF s x⟩⟩
section
variable {X : Cx} {W : WX} {ss : List Slot} {st : Stmt} {rest : List Stmt} {e : Expr} {pos : Pos}
end
end G

namespace G
open PySem PySem.Spec PyProof.Rows L2
section
variable {X : Cx} {W : WX} {ss : List Slot} {a : Expr} {pos : Pos}
end
end G

namespace G
open PySem PySem.Spec PyProof.Rows L2
section
variable {X : Cx} {W : WX} {ss : List Slot} {e : Expr}
end
structure T4 (α β γ δ : Type) where
  a : α
  b : β
  c : γ
  d : δ
instance {α β γ δ : Type} [Enc α] [Enc β] [Enc γ] [Enc δ] : Enc (T4 α β γ δ) :=
  ⟨fun K H v x => ∃ p v1 v2 v3 v4, v = .ref p ∧ H p = some (.tup [v1, v2, v3, v4]) ∧ Enc.rep K H v1 x.a ∧ Enc.rep K H v2 x.b ∧ Enc.rep K H v3 x.c ∧ Enc.rep K H v4 x.d,
   fun s ⟨p, v1, v2, v3, v4, e, h, r1, r2, r3, r4⟩ => ⟨p, v1, v2, v3, v4, e, s _ _ h, Enc.mono s r1, Enc.mono s r2, Enc.mono s r3, Enc.mono s r4⟩⟩
instance {α β γ δ : Type} [Enc α] [Enc β] [Enc γ] [Enc δ] [Imm α] [Imm β] [Imm γ] [Imm δ] : Imm (T4 α β γ δ) :=
  ⟨fun ⟨p, v1, v2, v3, v4, e, h, r1, r2, r3, r4⟩ => ⟨p, v1, v2, v3, v4, e, tups_some h rfl, Imm.imm r1, Imm.imm r2, Imm.imm r3, Imm.imm r4⟩⟩
instance {α β γ δ : Type} [Enc α] [Enc β] [Enc γ] [Enc δ] [ToDy α] [ToDy β] [ToDy γ] [ToDy δ] : ToDy (T4 α β γ δ) := ⟨fun x => .tup [ToDy.dy x.a, ToDy.dy x.b, ToDy.dy x.c, ToDy.dy x.d], fun ⟨p, v1, v2, v3, v4, e, h, r1, r2, r3, r4⟩ => by rw [e]; exact .tup (SqT.of h) (.cons (ToDy.rep r1) (.cons (ToDy.rep r2) (.cons (ToDy.rep r3) (.cons (ToDy.rep r4) .nil))))⟩
instance {α β γ δ : Type} [Enc α] [Enc β] [Enc γ] [Enc δ] : NN (T4 α β γ δ) := ⟨fun ⟨_, _, _, _, _, e1, _⟩ e => by rw [e] at e1; cases e1⟩
instance {α β γ δ : Type} [Enc α] [Enc β] [Enc γ] [Enc δ] [Dat α] [Dat β] [Dat γ] [Dat δ] : Dat (T4 α β γ δ) where
  py := fun x => .tuple [Dat.py x.a, Dat.py x.b, Dat.py x.c, Dat.py x.d]
  dp := fun ⟨p, v1, v2, v3, v4, e, h, r1, r2, r3, r4⟩ => by rw [e]; exact .tup (SqT.of h) (.cons (Dat.dp r1) (.cons (Dat.dp r2) (.cons (Dat.dp r3) (.cons (Dat.dp r4) .nil))))
  lay := fun x => (Dat.lay x.a && (Dat.lay x.b && (Dat.lay x.c && Dat.lay x.d)))
  dep := (max (Dat.dep α) (max (Dat.dep β) (max (Dat.dep γ) (Dat.dep δ)))) + 1
  layOk := fun h => by
    simp only [Bool.and_eq_true] at h
    simp only [PyData.canLay0, PyData.canLayAll0, Bool.and_eq_true, and_true]
    exact ⟨Dat.layOk h.1, Dat.layOk h.2.1, Dat.layOk h.2.2.1, Dat.layOk h.2.2.2⟩
  depOk := fun x => by
    have h1 := Dat.depOk x.a
    have h2 := Dat.depOk x.b
    have h3 := Dat.depOk x.c
    have h4 := Dat.depOk x.d
    simp only [PyData.depth, PyData.depthAll]
    omega
instance {α β γ δ : Type} [Enc α] [Enc β] [Enc γ] [Enc δ] [Dat α] [Dat β] [Dat γ] [Dat δ] [DatEq α] [DatEq β] [DatEq γ] [DatEq δ] : DatEq (T4 α β γ δ) := ⟨fun a b => by
  show PyData.eqvAll [_, _, _, _] [_, _, _, _] = true ↔ _
  cases a; cases b
  simp [PyData.eqvAll, DatEq.iff]⟩
instance {α β γ δ : Type} [Enc α] [Enc β] [Enc γ] [Enc δ] [Dat α] [Dat β] [Dat γ] [Dat δ] [NoStr α] [NoStr β] [NoStr γ] [NoStr δ] : NoStr (T4 α β γ δ) := ⟨fun x => by show (Dat.lay _ && (Dat.lay _ && (Dat.lay _ && Dat.lay _))) = true; rw [NoStr.lay, NoStr.lay, NoStr.lay, NoStr.lay]; rfl⟩
instance {α β γ δ : Type} [Enc α] [Enc β] [Enc γ] [Enc δ] : HasTy (T4 α β γ δ) := ⟨"tuple", fun ⟨p, v1, v2, v3, v4, e, h, _⟩ => by rw [e]; exact .base (.tup h)⟩
instance {α β γ δ : Type} [Inhabited α] [Inhabited β] [Inhabited γ] [Inhabited δ] : Inhabited (T4 α β γ δ) := ⟨⟨default, default, default, default⟩⟩
instance {α β γ δ : Type} [DecidableEq α] [DecidableEq β] [DecidableEq γ] [DecidableEq δ] : DecidableEq (T4 α β γ δ) := fun x y => if h : x.a = y.a ∧ x.b = y.b ∧ x.c = y.c ∧ x.d = y.d then .isTrue (by cases x; cases y; simp only at h; obtain ⟨h0, h1, h2, h3⟩ := h; subst_vars; rfl) else .isFalse fun e => h (by subst e; exact ⟨rfl, rfl, rfl, rfl⟩)
section
variable {X : Cx} {W : WX} {ss : List Slot} {pos : Pos} {kk : Nat} {e1 e2 e3 e4 a : Expr}
end
structure T5 (α β γ δ ε : Type) where
  a : α
  b : β
  c : γ
  d : δ
  e : ε
instance {α β γ δ ε : Type} [Enc α] [Enc β] [Enc γ] [Enc δ] [Enc ε] : Enc (T5 α β γ δ ε) :=
  ⟨fun K H v x => ∃ p v1 v2 v3 v4 v5, v = .ref p ∧ H p = some (.tup [v1, v2, v3, v4, v5]) ∧ Enc.rep K H v1 x.a ∧ Enc.rep K H v2 x.b ∧ Enc.rep K H v3 x.c ∧ Enc.rep K H v4 x.d ∧ Enc.rep K H v5 x.e,
   fun s ⟨p, v1, v2, v3, v4, v5, e, h, r1, r2, r3, r4, r5⟩ => ⟨p, v1, v2, v3, v4, v5, e, s _ _ h, Enc.mono s r1, Enc.mono s r2, Enc.mono s r3, Enc.mono s r4, Enc.mono s r5⟩⟩
instance {α β γ δ ε : Type} [Enc α] [Enc β] [Enc γ] [Enc δ] [Enc ε] [Imm α] [Imm β] [Imm γ] [Imm δ] [Imm ε] : Imm (T5 α β γ δ ε) :=
  ⟨fun ⟨p, v1, v2, v3, v4, v5, e, h, r1, r2, r3, r4, r5⟩ => ⟨p, v1, v2, v3, v4, v5, e, tups_some h rfl, Imm.imm r1, Imm.imm r2, Imm.imm r3, Imm.imm r4, Imm.imm r5⟩⟩
instance {α β γ δ ε : Type} [Enc α] [Enc β] [Enc γ] [Enc δ] [Enc ε] [ToDy α] [ToDy β] [ToDy γ] [ToDy δ] [ToDy ε] : ToDy (T5 α β γ δ ε) := ⟨fun x => .tup [ToDy.dy x.a, ToDy.dy x.b, ToDy.dy x.c, ToDy.dy x.d, ToDy.dy x.e], fun ⟨p, v1, v2, v3, v4, v5, e, h, r1, r2, r3, r4, r5⟩ => by rw [e]; exact .tup (SqT.of h) (.cons (ToDy.rep r1) (.cons (ToDy.rep r2) (.cons (ToDy.rep r3) (.cons (ToDy.rep r4) (.cons (ToDy.rep r5) .nil)))))⟩
instance {α β γ δ ε : Type} [Enc α] [Enc β] [Enc γ] [Enc δ] [Enc ε] : NN (T5 α β γ δ ε) := ⟨fun ⟨_, _, _, _, _, _, e1, _⟩ e => by rw [e] at e1; cases e1⟩
instance {α β γ δ ε : Type} [Enc α] [Enc β] [Enc γ] [Enc δ] [Enc ε] [Dat α] [Dat β] [Dat γ] [Dat δ] [Dat ε] : Dat (T5 α β γ δ ε) where
  py := fun x => .tuple [Dat.py x.a, Dat.py x.b, Dat.py x.c, Dat.py x.d, Dat.py x.e]
  dp := fun ⟨p, v1, v2, v3, v4, v5, e, h, r1, r2, r3, r4, r5⟩ => by rw [e]; exact .tup (SqT.of h) (.cons (Dat.dp r1) (.cons (Dat.dp r2) (.cons (Dat.dp r3) (.cons (Dat.dp r4) (.cons (Dat.dp r5) .nil)))))
  lay := fun x => (Dat.lay x.a && (Dat.lay x.b && (Dat.lay x.c && (Dat.lay x.d && Dat.lay x.e))))
  dep := (max (Dat.dep α) (max (Dat.dep β) (max (Dat.dep γ) (max (Dat.dep δ) (Dat.dep ε))))) + 1
  layOk := fun h => by
    simp only [Bool.and_eq_true] at h
    simp only [PyData.canLay0, PyData.canLayAll0, Bool.and_eq_true, and_true]
    exact ⟨Dat.layOk h.1, Dat.layOk h.2.1, Dat.layOk h.2.2.1, Dat.layOk h.2.2.2.1, Dat.layOk h.2.2.2.2⟩
  depOk := fun x => by
    have h1 := Dat.depOk x.a
    have h2 := Dat.depOk x.b
    have h3 := Dat.depOk x.c
    have h4 := Dat.depOk x.d
    have h5 := Dat.depOk x.e
    simp only [PyData.depth, PyData.depthAll]
    omega
instance {α β γ δ ε : Type} [Enc α] [Enc β] [Enc γ] [Enc δ] [Enc ε] [Dat α] [Dat β] [Dat γ] [Dat δ] [Dat ε] [DatEq α] [DatEq β] [DatEq γ] [DatEq δ] [DatEq ε] : DatEq (T5 α β γ δ ε) := ⟨fun a b => by
  show PyData.eqvAll [_, _, _, _, _] [_, _, _, _, _] = true ↔ _
  cases a; cases b
  simp [PyData.eqvAll, DatEq.iff]⟩
instance {α β γ δ ε : Type} [Enc α] [Enc β] [Enc γ] [Enc δ] [Enc ε] [Dat α] [Dat β] [Dat γ] [Dat δ] [Dat ε] [NoStr α] [NoStr β] [NoStr γ] [NoStr δ] [NoStr ε] : NoStr (T5 α β γ δ ε) := ⟨fun x => by show (Dat.lay _ && (Dat.lay _ && (Dat.lay _ && (Dat.lay _ && Dat.lay _)))) = true; rw [NoStr.lay, NoStr.lay, NoStr.lay, NoStr.lay, NoStr.lay]; rfl⟩
instance {α β γ δ ε : Type} [Enc α] [Enc β] [Enc γ] [Enc δ] [Enc ε] : HasTy (T5 α β γ δ ε) := ⟨"tuple", fun ⟨p, v1, v2, v3, v4, v5, e, h, _⟩ => by rw [e]; exact .base (.tup h)⟩
instance {α β γ δ ε : Type} [Inhabited α] [Inhabited β] [Inhabited γ] [Inhabited δ] [Inhabited ε] : Inhabited (T5 α β γ δ ε) := ⟨⟨default, default, default, default, default⟩⟩
instance {α β γ δ ε : Type} [DecidableEq α] [DecidableEq β] [DecidableEq γ] [DecidableEq δ] [DecidableEq ε] : DecidableEq (T5 α β γ δ ε) := fun x y => if h : x.a = y.a ∧ x.b = y.b ∧ x.c = y.c ∧ x.d = y.d ∧ x.e = y.e then .isTrue (by cases x; cases y; simp only at h; obtain ⟨h0, h1, h2, h3, h4⟩ := h; subst_vars; rfl) else .isFalse fun e => h (by subst e; exact ⟨rfl, rfl, rfl, rfl, rfl⟩)
section
variable {X : Cx} {W : WX} {ss : List Slot} {pos : Pos} {kk : Nat} {e1 e2 e3 e4 e5 a : Expr}
theorem xk_t5d {α β γ δ ε : Type} [Enc α] [Enc β] [Enc γ] [Enc δ] [Enc ε] {m : Res (α × β × γ × δ × ε × Unit)} (h : XAK X W ss [e1, e2, e3, e4, e5] m) : XK X W ss (.Tuple [e1, e2, e3, e4, e5] kk pos) (m.bind fun x => .ok (⟨x.1, x.2.1, x.2.2.1, x.2.2.2.1, x.2.2.2.2.1⟩ : T5 α β γ δ ε)) fr := by
  refine PE_imp (pe_tup h) fun σ H Q ⟨F, sf, sl, q⟩ => ⟨F, sf, sl, wpR_imp (wpR_bind q) (Same.refl H) fun x q vs H1 F1 s1 ex1 r1 => ?_⟩
  obtain ⟨v1, q1, rfl, h1, v2, q2, rfl, h2, v3, q3, rfl, h3, v4, q4, rfl, h4, v5, q5, rfl, h5, hz⟩ := r1
  have hz : q5 = [] := hz
  subst hz
  refine ⟨smallLine (by simp), fun p hp => ?_⟩
  have hF : F1 p = none := Same.free ex1.sub hp
  have sF := same_upd (o := HO.tup [v1, v2, v3, v4, v5]) hF
  refine q _ _ (upd F1 p (.tup [v1, v2, v3, v4, v5])) noHp (s1.trans (same_upd hp)) ⟨ex1.le.trans sF, fun b u z => ?_, fun b u z => ?_⟩ priv_no ⟨_, rfl, p, v1, v2, v3, v4, v5, rfl, upd_same, Enc.mono sF h1, Enc.mono sF h2, Enc.mono sF h3, Enc.mono sF h4, Enc.mono sF h5⟩
  · by_cases e : b = p
    · subst e; rw [upd_same] at z ⊢; exact z
    · rw [upd_ne e] at z ⊢; exact ex1.sub _ _ z
  · by_cases e : b = p
    · subst e; exact .inr (.inl (Same.free s1 hp))
    · rw [upd_ne e] at z; exact ex1.new _ _ z
theorem tg_five {α β γ δ ε : Type} [Enc α] [Enc β] [Enc γ] [Enc δ] [Enc ε] {t1 t2 t3 t4 t5 : Expr} {k : Nat} {u1 : α → List Slot → List Slot} {u2 : β → List Slot → List Slot} {u3 : γ → List Slot → List Slot} {u4 : δ → List Slot → List Slot} {u5 : ε → List Slot → List Slot} (h1 : Tg X t1 u1) (h2 : Tg X t2 u2) (h3 : Tg X t3 u3) (h4 : Tg X t4 u4) (h5 : Tg X t5 u5) (hc : X.calm = true := by rfl)
    (hs1 : (assignEach [t1, t2, t3, t4, t5] X.env).map (·.2) = assign t1 X.env :: (assignEach [t2, t3, t4, t5] X.env).map (·.2) := by rfl)
    (hs2 : (assignEach [t2, t3, t4, t5] X.env).map (·.2) = assign t2 X.env :: (assignEach [t3, t4, t5] X.env).map (·.2) := by rfl)
    (hs3 : (assignEach [t3, t4, t5] X.env).map (·.2) = assign t3 X.env :: (assignEach [t4, t5] X.env).map (·.2) := by rfl)
    (hs4 : (assignEach [t4, t5] X.env).map (·.2) = assign t4 X.env :: (assignEach [t5] X.env).map (·.2) := by rfl)
    (hs5 : (assignEach [t5] X.env).map (·.2) = assign t5 X.env :: (assignEach [] X.env).map (·.2) := by rfl)
    (hn : (assignEach [t1, t2, t3, t4, t5] X.env).length = 5 := by rfl) (hst : (assignEach [t1, t2, t3, t4, t5] X.env).findIdx? (·.1) = none := by rfl) :
    Tg X (.Tuple [t1, t2, t3, t4, t5] k pos) (fun (x : T5 α β γ δ ε) ss => u5 x.e (u4 x.d (u3 x.c (u2 x.b (u1 x.a ss))))) := by
  obtain ⟨g1, p1, q1⟩ := h1
  obtain ⟨g2, p2, q2⟩ := h2
  obtain ⟨g3, p3, q3⟩ := h3
  obtain ⟨g4, p4, q4⟩ := h4
  obtain ⟨g5, p5, q5⟩ := h5
  refine ⟨_, pg_tup hc (pgs_cons p1 (pgs_cons p2 (pgs_cons p3 (pgs_cons p4 (pgs_cons p5 pgs_nil hs5) hs4) hs3) hs2) hs1) hn hst, fun a v B F0 F H Gs ss σ Q A r q => ?_⟩
  obtain ⟨p, v1, v2, v3, v4, v5, rfl, hp, r1, r2, r3, r4, r5⟩ := r
  refine ⟨p, [v1, v2, v3, v4, v5], rfl, SqT.of (A.ext.sub _ _ hp), rfl, v1, [v2, v3, v4, v5], rfl, q1 _ _ _ _ _ _ _ _ _ _ A r1 fun σ1 Gs1 A1 => ⟨v2, [v3, v4, v5], rfl, q2 _ _ _ _ _ _ _ _ _ _ A1 r2 fun σ2 Gs2 A2 => ⟨v3, [v4, v5], rfl, q3 _ _ _ _ _ _ _ _ _ _ A2 r3 fun σ3 Gs3 A3 => ⟨v4, [v5], rfl, q4 _ _ _ _ _ _ _ _ _ _ A3 r4 fun σ4 Gs4 A4 => ⟨v5, [], rfl, q5 _ _ _ _ _ _ _ _ _ _ A4 r5 fun σ5 Gs5 A5 => ⟨rfl, q σ5 Gs5 A5⟩⟩⟩⟩⟩⟩
end
end G

namespace G
open PySem PySem.Spec PyProof.Rows L2
structure CalK (P : Program) (w : World) (K : Frag) (mg : Str → Option Value) (base : Heap) (k : Nat) (x kx : Str) {A1 B A R : Type} [EncA A1] [Enc B] [EncA A] (c : A1 → B → A) (g : A → Res R) (kr : R → Slot) : Prop where
  ex : ∃ f fd ps n, FnOk P w K mg base (L2.CX P w) k f fd ps (spOf K mg g kr) ∧ mg x = some (.ref f) ∧ PySem.W.keepIn K (.ref f) = true ∧ KBn K fd ps n [kx] (fun us ws => us ++ ws) (fun vs zs => vs ++ zs) ∧
    (∀ H vs (a : A1), EncA.rep K H vs a → vs.length = n) ∧ ∀ H vs v (a : A1) (b : B), EncA.rep K H vs a → Enc.rep K H v b → EncA.rep K H (vs ++ [v]) (c a b)
def BndK (x : Str) (st : Stmt) (ps : List Str) (m n : Nat) (kx : Str) : Prop := ∀ (T : Addr) (kV doc pm : Value) (an : Option Addr) (cdv ct w : Value) (us its : List Value), us.length = n → its.length = m →
  ∃ k, bindArgs (PySem.W.fnOf x x (defArgs st) (defBody st) (defScope st) (.ref T) kV doc pm an cdv ct) ⟨us, [(kx, w)]⟩ = seqItems? (.ref T) >>= k ∧ k (some its.toArray) = pure (ps.zip (us ++ [w]))
section
variable {P : Program} {w : World} {K : Frag} {mg : Str → Option Value} {base : Heap}
end
section
variable {X : Cx} {CX : CXT} {k n : Nat} {f : Addr} {fd : FuncData} {ps ks : List Str} {sp : Sp} {E : L2.St → L2.XK} {x : Str} {p pos : Pos} {e : Expr} {es : List Expr} {kws : List Keyword} {t tk : TA} {g : List Value → List Value → List Value} {gV : List V → List V → List V}
end
section
variable {X : Cx} {W : WX} {ss : List Slot} {k j : Nat} {x kx : Str} {A1 B A R : Type} [EncA A1] [Enc B] [EncA A] {c : A1 → B → A} {g : A → Res R} {kr : R → Slot} {p pos kpos : Pos} {e ke : Expr} {es : List Expr}
end
end G

namespace G
open PySem PySem.Spec PyProof.Rows L2
def splitR (x y : Str) : Res (List Str) := guardR (!(y.length == 0) && big x.length) (.ok (Txt.split x y))
def partR (x y : Str) : Res (T3 Str Str Str) := guardR (!(y.length == 0) && big x.length) (.ok ⟨(Txt.partition x y).1, (Txt.partition x y).2.1, (Txt.partition x y).2.2⟩)
def intS (x : Str) : Res Int := match PySem.intText? x with
  | some n => guardR (decide (x.length ≤ 640)) (.ok n)
  | none => .stuck
section
variable {X : Cx} {W : WX} {ss : List Slot} {a e : Expr} {es : List Expr} {apos cpos pos : Pos}
end
section
variable {X : Cx} {W : WX} {ss : List Slot} {a : Expr} {pos : Pos}
end
structure GStr (mg : Str → Option Value) (x : Str) (i : Str) : Prop where
  ex : ∃ t, mg x = some (.str i t)
section
variable {X : Cx} {W : WX} {ss : List Slot} {pos : Pos}
end
end G

namespace G
open PySem PySem.Spec PyProof.Rows L2
def catT {α : Type} (x y : Tup α) : Res (Tup α) := guardR (big (x.l.length + y.l.length)) (.ok ⟨x.l ++ y.l⟩)
def repT {α : Type} (x : Tup α) (k : Int) : Res (Tup α) := guardR (!x.l.isEmpty && (decide (2 ≤ k) && (decide (k ≤ 1000) && decide (x.l.length ≤ 1000)))) (.ok ⟨(List.replicate k.toNat x.l).flatten⟩)
section
variable {X : Cx} {W : WX} {ss : List Slot} {pos : Pos} {a b : Expr}
theorem b_catTu {α : Type} [Enc α] : Bi X (rCatA X.K) (fun x y : Tup α => catT x y) := ⟨fun x y v w H Q ⟨p, vs, e1, h1, r1⟩ ⟨p', vs', e2, h2, r2⟩ q => by
  unfold catT at q
  cases g : big (x.l.length + y.l.length) with
  | false => rw [g] at q; exact q.elim
  | true =>
    rw [g] at q
    have q : ∀ v' H', Same H H' → Enc.rep X.K H' v' (⟨x.l ++ y.l⟩ : Tup α) → Q v' H' := q
    refine ⟨p, p', vs, vs', e1, e2, h1, h2, ?_, fun e => ?_, fun _ e => ?_, fun _ _ o ho => ?_⟩
    · rw [r1.length, r2.length]; exact big_line g
    · subst e
      have : x.l = [] := by
        cases hx : x.l with
        | nil => rfl
        | cons c l => rw [hx] at r1; exact r1.elim
      exact q _ H (Same.refl H) ⟨p', vs', rfl, h2, by rw [this]; exact r2⟩
    · subst e
      have : y.l = [] := by
        cases hx : y.l with
        | nil => rfl
        | cons c l => rw [hx] at r2; exact r2.elim
      exact q _ H (Same.refl H) ⟨p, vs, rfl, h1, by rw [this, List.append_nil]; exact r1⟩
    · exact q _ _ (same_upd ho) ⟨o, _, rfl, SqT.of upd_same, All2.mono (same_upd ho) (All2.append r1 r2)⟩, fun _ _ => noX_guard⟩
end
end G

namespace PySem
namespace RowX
open PySem.W PySem.Calls PyProof.Rows PySem.HandSPX
def iA (p1 p2 : Pos) : Arguments := { posonlyargs := [], args := [{ arg := "self", annotation := none, pos := p1 }, { arg := "row", annotation := none, pos := p2 }], vararg := none, kwonlyargs := [], kw_defaults := [], kwarg := none, defaults := [] }
def iB (q1 q2 q3 q4 : Pos) : List Stmt := [.Assign [.Attribute (.Name "self" q1) "row" q2] (.Name "row" q3) q4]
def iS : Scope := { kind := .function, names := [(PySem.Str.ofString "self", .local), (PySem.Str.ofString "row", .local)], isGenerator := false, isCoroutine := false, more := [] }
structure RowTxt (K : Frag) (mg : Str → Option Value) (C fI : Addr) : Prop where
  gC : mg "NoText" = some (.ref C)
  cls : ∃ nm q N bs bm sn sub ab col dd k0 k1 k2 k3 k5, K.lookup C = some (excClassObj nm q C N bs bm true sn sub ab col dd k0 k1 k2 k3 k5 "ValueError.__new__") ∧ refsVE bm = true
  sa : findIn K (.ref C) "__setattr__" = some (some (.builtin "object.__setattr__"))
  ga : findIn K (.ref C) "__getattribute__" = some (some (.builtin "BaseException.__getattribute__"))
  gg : findIn K (.ref C) "__getattr__" = some none
  noN : findIn K (.ref C) "row" = some none
  iC : findIn K (.ref C) "__init__" = some (some (.ref fI))
  tC : typeIn K (.ref fI) = some (.type "function")
  kC : keepIn K (.ref C) = true
  exC : subIn K (.ref C) (.type "BaseException") = some true
  tyC : typeIn K (.ref C) = some (.type "type")
  hdC : hasDictIn K C = true
  te : exmOne K (.ref C) (.ref C) = some true
  fn : ∃ (oc : Value) (od : Option Addr) (doc pm : Value) (an : Option Addr) (cdv ct : Value) (osl : Array (Option Value)) (p1 p2 q1 q2 q3 q4 : Pos),
    K.lookup fI = some ⟨oc, od, .func (fnOf "__init__" "NoText.__init__" (iA p1 p2) (iB q1 q2 q3 q4) iS .none .none doc pm an cdv ct), osl⟩ ∧ codeIn K cdv "NoText.__init__" = true
structure InitEnd (h h' : Heap) (x C dx t1 : Addr) (v : Value) : Prop where
  keep : ∀ b o, b ≠ x → h.get? b = some o → h'.get? b = some o
  obj : h'.get? x = some { cls := .ref C, dict := some dx, data := .fields #[.ref t1, .none, .none, .none, .bool false, .none] }
  dbig : h.objs.size ≤ dx
  dne : dx ≠ x
  ns : h'.Ns1 dx (fun y => if y = "row" then some v else none)
structure OwnMade (h h' : Heap) (e C d : Addr) (v : Value) : Prop where
  keep : ∀ b o, h.get? b = some o → h'.get? b = some o
  new : h.objs.size ≤ e
  obj : ∃ oe vs, h'.get? e = some oe ∧ oe.cls = .ref C ∧ oe.dict = some d ∧ oe.data = .fields vs ∧ vs[1]? = some .none
  dbig : h.objs.size ≤ d
  dne : d ≠ e
  ns : h'.Ns1 d (fun y => if y = "row" then some v else none)
section
variable {prog : Program} {w : World} {A : Around} {E : Value → Shared → Prop} {R : Result → Shared → Prop} {s : Shared} {K : Frag} {mg : Str → Option Value} {C fI : Addr}
end
end RowX
end PySem
namespace L2
open PySem PySem.Spec PyProof.Rows
section
variable {X : Cx} {C fI : Addr}
def tMkRow (C : Addr) (ta : TA) : St → Hp → XK → Prop := fun σ H Q => ta σ H fun vs H1 => ∃ v, vs = [v] ∧ ∀ d, H1 d = none → Q (.ref C) (some d) (upd H1 d (.xd [(("row" : Str), v)]))
def tRaiseRow (C : Addr) (W : WX) (ta : TA) : TS := fun _ σ H => tMkRow C ta σ H fun cls d H' => W cls d σ H'
def tByRow (C : Addr) (a : Addr) (cls : Value) (d : Option Addr) (te : TE) : TE := fun σ H Q => te σ H fun x H1 => x = .ref a ∧ cls = .ref C ∧ ∃ (dd : Addr) (v : V), d = some dd ∧ H1 dd = some (.xd [(("row" : Str), v)]) ∧ Q v H1
end
end L2
namespace G
open PySem PySem.Spec PyProof.Rows L2
def HasRow (K : Frag) (mg : PySem.Str → Option Value) : Prop := ∃ C fI, PySem.RowX.RowTxt K mg C fI
theorem payRep_mono {p : Pay} {d : Option Addr} {H H' : Hp} (s : Same H H') (h : payRep p d H) : payRep p d H' := by
  cases p with
  | no => exact h
  | int i => obtain ⟨x, e, q⟩ := h; exact ⟨x, e, s _ _ q⟩
  | _ => obtain ⟨x, p, o, e, q, r⟩ := h; exact ⟨x, p, o, e, s _ _ q, s _ _ r⟩
theorem payRep_tups {p : Pay} {d : Option Addr} {H : Hp} (h : payRep p d H) : payRep p d (tups H) := by
  cases p with
  | no => exact h
  | int i => obtain ⟨x, e, q⟩ := h; exact ⟨x, e, tups_some q rfl⟩
  | _ => obtain ⟨x, p, o, e, q, r⟩ := h; exact ⟨x, p, o, e, tups_some q rfl, tups_some r rfl⟩
def exP (a : Addr) (p : Pay) (d : Option Addr) : Slot := ⟨fun _ F _ o => o = some (.ref a) ∧ payRep p d F, fun s _ h => ⟨h.1, payRep_mono s h.2⟩⟩
def isE2 (t : ETab) (x : Exn) : Res Bool := match lookB t x.cls with
  | some b => .ok b
  | none => .stuck
def lookBs : List ETab → Str → Option Bool
  | [], _ => some false
  | t :: r, n => match lookB t n with
    | some true => some true
    | some false => lookBs r n
    | none => none
def isE2s (ts : List ETab) (x : Exn) : Res Bool := match lookBs ts x.cls with
  | some b => .ok b
  | none => .stuck
def rowR (x : Exn) : Res Int := match x.pay with
  | .int i => if x.cls = "NoText" then .ok i else .stuck
  | _ => .stuck
section
variable {X : Cx} {W : WX} {ss : List Slot} {rest : List Stmt}
def dOk (d : Option Addr) (H : Hp) : Prop := match d with
  | none => True
  | some dd => ∃ fs, H dd = some (.xd fs)
theorem dOk_of {p : Pay} {d : Option Addr} {H : Hp} (h : payRep p d H) : dOk d H := by
  cases p with
  | no =>
    have h : d = none := h
    subst h
    trivial
  | int i => obtain ⟨x, e, q⟩ := h; subst e; exact ⟨_, q⟩
  | _ => obtain ⟨x, p, o, e, q, _⟩ := h; subst e; exact ⟨_, q⟩
theorem inst_of {pins : List (Addr × Obj)} {σ : L2.St} {H : Hp} {s : Shared} {a D : Addr} {d : Option Addr} {oe : Obj} (I : Inv X pins σ H s) (ha : s.heap.get? a = some oe) (hz : Zc (.ref D) d oe) (hf : ∃ vs, oe.data = .fields vs) (hd : dOk d H) : ∃ od, PySem.W.InstAt s.heap a oe D od := by
  obtain ⟨vs, hv⟩ := hf
  have n1 : PySem.W.notCls oe = true := by unfold PySem.W.notCls; rw [hv] <;> rfl
  cases d with
  | none => exact ⟨none, ha, hz.1, n1, by rw [hz.2]; trivial⟩
  | some dd =>
    obtain ⟨fs, e⟩ := hd
    obtain ⟨mA, hns, hr⟩ := (show ObjOk X.prog X.w H s.heap dd (.xd fs) from I.hok dd _ e)
    obtain ⟨od, ho, hl⟩ := lookIn_ns hns
    exact ⟨some od, ha, hz.1, n1, by rw [hz.2]; exact ho⟩
theorem excC_cls {K : Frag} {D : Addr} (C : ExcC K D) : (PySem.W.clsIn K D).isSome = true := by
  obtain ⟨cd, hc, _⟩ := PySem.W.any_some C.hd
  rw [hc]; rfl
def rIsX (K : Frag) (D a : Addr) (d : Option Addr) : List V → Hp → VK → Prop := fun xs H Q => ∃ (c : V) (cv : Value) (b : Bool), xs = [.ref a, c] ∧ (∀ u, RelV c u → u = cv) ∧ PySem.W.kitOne K (.ref D) cv = some b ∧ dOk d H ∧ Q (.bl b) H
def rIsXT (K : Frag) (D a : Addr) (d : Option Addr) : List V → Hp → VK → Prop := fun xs H Q => ∃ (p : Addr) (vs : List V) (cvs : List Value) (b : Bool), xs = [.ref a, .ref p] ∧ H p = some (.tup vs) ∧ (∀ us, Vals vs us → us = cvs) ∧ PySem.W.kitAny K (.ref D) cvs = some b ∧ dOk d H ∧ Q (.bl b) H
inductive ITs (X : Cx) : List Expr → List ETab → Prop
  | nil : ITs X [] []
  | cons {y : Str} {p : Pos} {tab : ETab} {es : List Expr} {ts : List ETab} (T : ITab X.K X.mg y tab) (hg : Gl X y) (hdb : (y == ("__debug__" : Str)) = false) (he : starEach (.Name y p :: es) X.env = (false, eval (.Name y p) X.env) :: starEach es X.env) (r : ITs X es ts) : ITs X (.Name y p :: es) (tab :: ts)
theorem its_pa {es : List Expr} {ts : List ETab} (h : ITs X es ts) : ∃ (vs : List V) (cvs : List Value), PA X es (fun _ H Q => Q vs H) ∧ (∀ us, Vals vs us → us = cvs) ∧ (∀ n C b, X.mg n = some (.ref C) → lookBs ts n = some b → PySem.W.kitAny X.K (.ref C) cvs = some b) ∧ vs.length = es.length := by
  induction h with
  | nil => exact ⟨[], [], pa_nil, fun us r => (by cases r; rfl), fun n C b _ e => e, rfl⟩
  | cons T hg hdb he _ ih =>
    obtain ⟨v, cv, hn, hr, hu, ht⟩ := T
    obtain ⟨vs, cvs, pa, hv, hk, hl⟩ := ih
    rename_i y p tab es ts _
    have hy : PE X (.Name y p) (tC v) := by
      rcases hn with h1 | ⟨h1, h2, h3⟩
      · exact pe_glob hg h1 hr hdb
      · exact pe_bltn hg h1 h2 hr h3 hdb
    refine ⟨v :: vs, cv :: cvs, PA_imp (pa_cons hy pa he) fun σ H Q q => q, fun us r => ?_, fun n C b hm e => ?_, congrArg (· + 1) hl⟩
    · cases r with
      | cons r1 r2 => rw [hu _ r1, hv _ r2]
    · unfold lookBs at e
      cases el : lookB tab n with
      | none => rw [el] at e; cases e
      | some c =>
        obtain ⟨C', gC, _, kC⟩ := ht _ _ el
        have : C' = C := Value.ref.inj (Option.some.inj (gC.symm.trans hm))
        subst this
        unfold PySem.W.kitAny
        rw [kC]
        rw [el] at e
        cases c with
        | true => exact e
        | false => exact hk n _ b hm e
theorem its_exc {es : List Expr} {ts : List ETab} (h : ITs X es ts) {n : Str} {C : Addr} {b : Bool} (hm : X.mg n = some (.ref C)) (e : lookBs ts n = some b) (hne : es ≠ []) : ExcC X.K C := by
  cases h with
  | nil => exact (hne rfl).elim
  | cons T hg hdb he _ =>
    obtain ⟨v, cv, hn, hr, hu, ht⟩ := T
    unfold lookBs at e
    rename_i tab _ _ _
    cases el : lookB tab n with
    | none => rw [el] at e; cases e
    | some c =>
      obtain ⟨C', gC, cC, _⟩ := ht _ _ el
      have : C' = C := Value.ref.inj (Option.some.inj (gC.symm.trans hm))
      subst this
      exact cC
end
end G

namespace G
open PySem PySem.Spec PyProof.Rows L2
def slC {α A : Type} (kd : α → Slot) (sl : A → List Slot) (x : α × A) : List Slot := kd x.1 :: sl x.2
def slN (_ : Unit) : List Slot := []
section
variable (X : Cx) (W : WX)
def rAO {A : Type} (ss : List Slot) (m : Res A) (sl : A → List Slot) : TA := fun σ H Q =>
  ∃ F, Same F H ∧ Sl X.K F H ss σ ∧ wpR X W m σ H fun a => ∀ (vs : List V) H' F' Gs, Same H H' → Ext F H F' H' → (∀ G ∈ Gs, Priv G H F' H') → Gs.Pairwise Dj → All3 X.K F' (sl a) Gs (vs.map some) → Q vs H'
def XAO {A : Type} (ss : List Slot) (es : List Expr) (m : Res A) (sl : A → List Slot) : Prop := PA X es (rAO X W ss m sl)
end
section
variable {X : Cx} {W : WX} {ss : List Slot} {e : Expr} {es : List Expr}
end
def spO (K : Frag) (mg : Str → Option Value) {A R : Type} (sl : A → List Slot) (f : A → Res R) (kr : R → Slot) : Sp := fun vs H Q E => ∃ (a : A) (B F : Hp) (Gs : List Hp), All3 K F (sl a) Gs (vs.map some) ∧ Same F H ∧ Same B H ∧ (∀ G ∈ Gs, Priv G B F H) ∧ Gs.Pairwise Dj ∧
  match f a with
  | .ok r => ∀ v H' F' G', Same B H' → Ext F B F' H' → Priv G' B F' H' → (kr r).P K F' G' (some v) → Q v H'
  | .exc x => ∀ cls d H', mg x.cls = some cls → Same B H' → payRep x.pay d H' → E cls d H'
  | .stuck => False
theorem All3.len {K : Frag} {F : Hp} : ∀ {ss : List Slot} {Gs : List Hp} {σ : L2.St}, All3 K F ss Gs σ → ss.length = σ.length ∧ Gs.length = σ.length
  | [], [], [], _ => ⟨rfl, rfl⟩
  | _ :: _, _ :: _, _ :: _, h => ⟨congrArg (· + 1) (All3.len h.2).1, congrArg (· + 1) (All3.len h.2).2⟩
  | [], _ :: _, _, h => h.elim
  | [], [], _ :: _, h => h.elim
  | _ :: _, [], _, h => h.elim
  | _ :: _, _ :: _, [], h => h.elim
structure CalO (P : Program) (w : World) (K : Frag) (mg : Str → Option Value) (base : Heap) (k : Nat) (x : Str) {A R : Type} (sl : A → List Slot) (g : A → Res R) (kr : R → Slot) : Prop where
  ex : ∃ f fd ps, FnOk P w K mg base (L2.CX P w) k f fd ps (spO K mg sl g kr) ∧ mg x = some (.ref f) ∧ PySem.W.keepIn K (.ref f) = true ∧ Binds K fd ps []
section
variable {P : Program} {w : World} {K : Frag} {mg : Str → Option Value} {base : Heap}
end
section
variable {X : Cx} {W : WX} {ss : List Slot} {k j : Nat} {x : Str} {A R : Type} {sl : A → List Slot} {g : A → Res R} {kr : R → Slot} {p pos : Pos} {e : Expr} {es : List Expr}
end
end G

namespace G
open PySem PySem.Spec PyProof.Rows L2
section
variable {X : Cx} {W : WX} {ss : List Slot} {pos : Pos} {e e2 : Expr}
def insR {α : Type} (xs : List α) (k : Int) (a : α) : Res (List α) := guardR (big xs.length && (decide (0 ≤ k) && decide (k < 2 ^ 62))) (.ok (xs.take k.toNat ++ [a] ++ xs.drop k.toNat))
def popR {α : Type} (xs : List α) (k : Int) : Res (List α) := match ixN xs.length k with
  | some n => guardR (decide (-(2 ^ 62) ≤ k) && decide (k < 2 ^ 62)) (.ok (xs.eraseIdx n))
  | none => .stuck
theorem All2.erase {α β : Type} {P : α → β → Prop} : ∀ (i : Nat) {as : List α} {bs : List β}, All2 P as bs → All2 P (as.eraseIdx i) (bs.eraseIdx i)
  | _, [], [], _ => trivial
  | 0, _ :: _, _ :: _, ⟨_, y⟩ => y
  | i + 1, _ :: _, _ :: _, ⟨x, y⟩ => ⟨x, All2.erase i y⟩
  | _, [], _ :: _, x => x.elim
  | _, _ :: _, [], x => x.elim
end
end G

namespace G
open PySem PySem.Spec PyProof.Rows L2
def rGtT (K : Frag) : R2 := fun x y H Q => ∃ (a b : Addr) (i j k l : Int), x = .ref a ∧ y = .ref b ∧ SqT K H a [.int i, .int j] ∧ SqT K H b [.int k, .int l] ∧ Q (.bl (!leP (i, j) (k, l))) H
section
variable {X : Cx}
end
end G

namespace G
open PySem PySem.Spec PyProof.Rows L2
class Md where
  mg : PySem.Str → Option Value
def ExV (cls : Value) (d : Option Addr) (a : Addr) : HO := .ext fun h => ∃ (oe : Obj) (vs : Array Value), h.get? a = some oe ∧ Zc cls d oe ∧ oe.data = .fields vs
theorem exV_ok {P : Program} {w : World} {H : Hp} {h : Heap} {a : Addr} {cls : Value} {d : Option Addr} {oe : Obj} (e : h.get? a = some oe) (z : Zc cls d oe) (hv : ∃ vs, oe.data = .fields vs) : ObjOk P w H h a (ExV cls d a) :=
  ⟨by obtain ⟨vs, hv⟩ := hv; exact ⟨oe, vs, e, z, hv⟩, ⟨oe, e⟩, fun _ _ ⟨o, v, q, r⟩ k => ⟨o, v, k o q, r⟩⟩
theorem Inv.adopt {X : Cx} {pins : List (Addr × Obj)} {σ : L2.St} {H : Hp} {s : Shared} {a : Addr} {oe : Obj} {φ : Heap → Prop} (J : Inv X pins σ H s) (at_ : s.heap.get? a = some oe) (fresh : H a = none) (young : X.s_0.heap.get? a = none) (notL : a ≠ X.env.locals) (notC : ∀ v, oe.data ≠ .cell v)
    (away : ∀ p ∈ X.pn ++ pins, p.1 ≠ a) (ob : ObjOk X.prog X.w H s.heap a (.ext φ)) : Inv X pins σ (upd H a (.frz oe (.ext φ))) s where
  ok := J.ok
  os := J.os
  bare := J.bare
  base := ⟨J.base.keep, J.base.slot, fun b o e n hb => (upd_ne (fun z => (by rw [z, young] at e; cases e) : b ≠ a)).trans (J.base.free b o e n hb), J.base.there,
    fun b xs e => (upd_ne (ne_of_none (J.base.tups b xs e) fresh)).trans (J.base.tups b xs e), fun b o u e => (upd_ne (ne_of_none (J.base.frzs b o u e) fresh)).trans (J.base.frzs b o u e), fun b ps e => by
      obtain ⟨more, q⟩ := J.base.tbls b ps e
      exact ⟨more, (upd_ne (ne_of_none q fresh)).trans q⟩⟩
  loc := J.loc
  cell := J.cell
  free := (upd_ne (Ne.symm notL)).trans J.free
  freeC := fun x c e => (upd_ne (fun z => (by
    obtain ⟨_, ob, w1, w2⟩ := J.cell x c e
    rw [z, at_] at w1
    cases w1
    exact notC _ w2) : c ≠ a)).trans (J.freeC x c e)
  pin := fun p m => ⟨(J.pin p m).1, (upd_ne (away p m)).trans (J.pin p m).2.1, (J.pin p m).2.2⟩
  hok := fun b u e => by
    by_cases same : b = a
    · rw [same, upd_same] at e
      cases e
      rw [same]
      exact ⟨at_, ob⟩
    · rw [upd_ne same] at e
      exact (J.hok b u e).stay (fun _ _ _ q => q) (fun _ q => (upd_ne (ne_of_none q fresh)).trans q) fun _ _ q => (upd_ne (ne_of_none q fresh)).trans q
  len := J.len
section
variable {X : Cx} {pins : List (Addr × Obj)} {σ : L2.St} {H : Hp} {B : Heap} {a : Addr} {cls : Value} {d : Option Addr} {sI s : Shared}
theorem Lies.kept (l : Lies X pins σ H B a cls d sI s) (hs : X.stack = X.env :: X.outer) (hf : X.env.frame = some X.env.locals) (hex : X.ex = []) {oe : Obj} (z : Zc cls d oe) (hv : ∃ vs, oe.data = .fields vs) {σ' : L2.St} {s' : Shared} (J : Inv (X.suite a ((a, oe) :: (X.pn ++ pins))) [] σ' H s') (ok : X.Ok) :
    Inv X pins σ' (upd H a (.frz oe (ExV cls d a))) s' := by
  obtain ⟨q1, q2, q3, q4, q5⟩ := J.pin (a, oe) (.head _)
  exact Inv.adopt (J.unsuite ok) q1 q2 (l.young hs hex) q3 q5 (l.away hs) (exV_ok q1 z hv)
theorem Lies.on (l : Lies X pins σ H B a cls d sI s) (hs : X.stack = X.env :: X.outer) (hf : X.env.frame = some X.env.locals) {W : WX} (tk : Takes X W) (wish : W cls d σ H) {Q : Flow → Shared → Prop} :
    wpAny (model X.prog X.w) X.A (handleBy (.ref a) X.env []) Q X.xe s := by
  refine wpAny_handleBy_nil ?_
  obtain ⟨oe, vs, tb, ot, ts, f1, f2, f3, f4, f5⟩ := l.air.2.2.2
  have away : wpAny (model X.prog X.w) X.A (setFlight (.ref a) X.env.frame) (fun _ => wpAny (model X.prog X.w) X.A (throw (.ref a) : Sem Flow) Q X.xe) X.xe s := by
    rw [hf]
    refine HandSPX.setFlight_upZ l.air fun h noted g => wpAny_throw (tk _ _ ⟨a, B, sI, pins, σ, H, cls, d, rfl, l.before, l.low, l.grew.trans g, .inr (.inr ?_), l.fresh, l.sys, l.gen, wish⟩)
    rw [hs]
    exact noted
  unfold PySem.passOn
  refine wpAny_bind (wpAny_field f1 f3 f4 ?_)
  have no : ¬ ((Value.ref tb == Value.none) = true) := fun z => by simp at z
  rw [if_neg no]
  first
    | exact wpAny_bind (wpAny_pure (wpAny_bind away))
    | exact wpAny_bind away
end
def wKeep (K : PySem.W.Frag) (c : Value) (i j : Nat) (Wout : WX) (D : Ends) : WX := fun cls d σ H =>
  ∃ b, PySem.W.exmOne K cls c = some b ∧ (b = true → ∀ a oe, H a = none → D.nx (((σ.set i (some (.ref a))).set j (some (.ref a))).set i none) (upd H a (.frz oe (ExV cls d a)))) ∧ (b = false → Wout cls d σ H)
section
variable {X : Cx} {x n v : Str} {c : Value} {i j : Nat} {body : List Stmt} {np pos pos' ep vp ap : Pos} {tb : WX → TS} {Wout : WX}
end
end G

namespace G
open PySem PySem.Spec PyProof.Rows L2
def IsEx (u : HO) (cls : Value) (d : Option Addr) (a : Addr) : Prop := ∃ φ, u = .ext φ ∧ ∀ h, φ h → ∃ (oe : Obj) (vs : Array Value), h.get? a = some oe ∧ Zc cls d oe ∧ oe.data = .fields vs
theorem isEx_v {cls : Value} {d : Option Addr} {a : Addr} : IsEx (ExV cls d a) cls d a := ⟨_, rfl, fun _ h => h⟩
theorem isEx_at {P : Program} {w : World} {H : Hp} {h : Heap} {a : Addr} {oe : Obj} {u : HO} {cls : Value} {d : Option Addr} (hok : HOk P w H h) (e : H a = some (.frz oe u)) (x : IsEx u cls d a) : ∃ (oe : Obj) (vs : Array Value), h.get? a = some oe ∧ Zc cls d oe ∧ oe.data = .fields vs := by
  obtain ⟨φ, rfl, q⟩ := x
  have y : ObjOk P w H h a (.frz oe (.ext φ)) := hok a _ e
  exact q h y.2.1
instance [Md] : Enc Exn := ⟨fun _ H v x => ∃ (a C : Addr) (d : Option Addr) (oe : Obj) (u : HO), v = .ref a ∧ Md.mg x.cls = some (.ref C) ∧ H a = some (.frz oe u) ∧ IsEx u (.ref C) d a ∧ payRep x.pay d H,
  fun s ⟨a, C, d, oe, u, e, h, q, z, p⟩ => ⟨a, C, d, oe, u, e, h, s _ _ q, z, payRep_mono s p⟩⟩
instance [Md] : Imm Exn := ⟨fun ⟨a, C, d, oe, u, e, h, q, z, p⟩ => ⟨a, C, d, oe, u, e, h, tups_some q rfl, z, payRep_tups p⟩⟩
instance [Md] : NN Exn := ⟨fun ⟨a, C, d, oe, u, e, _⟩ z => by rw [z] at e; cases e⟩
section
variable [Md] {X : Cx} {W : WX} {ss : List Slot}
end
section
variable {X : Cx}
def rIsV (K : Frag) : List V → Hp → VK → Prop := fun xs H Q => ∃ (a D : Addr) (d : Option Addr) (oe : Obj) (u : HO) (c : V) (cv : Value) (b : Bool), xs = [.ref a, c] ∧ (H a = some (.frz oe u) ∧ IsEx u (.ref D) d a) ∧ ExcC K D ∧ (∀ u, RelV c u → u = cv) ∧ PySem.W.kitOne K (.ref D) cv = some b ∧ dOk d H ∧ Q (.bl b) H
theorem call_isV : CallR X (.builtin "isinstance") (rIsV X.K) := by
  intro pins s σ H xs us Q I r h
  obtain ⟨a, D, d, ob, w, c, cv, b, rfl, ha, C, hcv, e, hd, q⟩ := h
  cases r with
  | cons rx rr =>
    cases rr with
    | cons rt rr =>
      cases rr
      cases rx
      have ec := hcv _ rt
      subst ec
      obtain ⟨oe, vs, he, hz, hv⟩ := isEx_at I.hok ha.1 ha.2
      obtain ⟨od, J⟩ := inst_of I he hz ⟨vs, hv⟩ hd
      exact PySem.W.kia_one (PySem.W.kitx_exc (excC_cls C) C.hg C.hk C.hs C.ha C.hn C.ht C.hm) I.kIn J e (fun z => nomatch z) fun tk => ⟨.bl b, H, I.kept (t' := tk) fun _ _ z => z, rfl, q⟩
def rIsVT (K : Frag) : List V → Hp → VK → Prop := fun xs H Q => ∃ (a D : Addr) (d : Option Addr) (oe : Obj) (u : HO) (p : Addr) (vs : List V) (cvs : List Value) (b : Bool), xs = [.ref a, .ref p] ∧ (H a = some (.frz oe u) ∧ IsEx u (.ref D) d a) ∧ ExcC K D ∧ H p = some (.tup vs) ∧ (∀ us, Vals vs us → us = cvs) ∧ PySem.W.kitAny K (.ref D) cvs = some b ∧ dOk d H ∧ Q (.bl b) H
theorem call_isVT : CallR X (.builtin "isinstance") (rIsVT X.K) := by
  intro pins s σ H xs us Q I r h
  obtain ⟨a, D, d, ob, w, p, vs, cvs, b, rfl, ha, C, hp, hcv, e, hd, q⟩ := h
  cases r with
  | cons rx rr =>
    cases rr with
    | cons rt rr =>
      cases rr
      cases rx
      cases rt
      obtain ⟨oe, vse, he, hz, hv⟩ := isEx_at I.hok ha.1 ha.2
      obtain ⟨od, J⟩ := inst_of I he hz ⟨vse, hv⟩ hd
      obtain ⟨_, its, hv2, o, ho, hc, n, hdat⟩ := (show ObjOk X.prog X.w H s.heap p (.tup vs) from I.hok p _ hp)
      have ec := hcv _ hv2
      subst ec
      obtain ⟨oc, odd, oda, osl⟩ := o
      dsimp only at hc hdat
      subst hc hdat
      exact PySem.W.kia_tup (PySem.W.kitx_exc (excC_cls C) C.hg C.hk C.hs C.ha C.hn C.ht C.hm) I.kIn J ho e (fun z => nomatch z) fun tk => ⟨.bl b, H, I.kept (t' := tk) fun _ _ z => z, rfl, q⟩
end
section
variable [Md] {X : Cx} {W : WX} {ss : List Slot} {e1 : Expr}
theorem xi_isV {m : Res Exn} {tab : ETab} {y : Str} {p p2 pos : Pos} (h : XI X W ss e1 m) (T : ITab X.K X.mg y tab) (hm : X.mg "isinstance" = none) (hM : X.mg = Md.mg := by rfl) (hg : Gl X "isinstance" := by rfl) (hgy : Gl X y := by rfl) (hdb : (y == ("__debug__" : Str)) = false := by decide)
    (he : starEach [e1, .Name y p2] X.env = (false, eval e1 X.env) :: starEach [.Name y p2] X.env := by rfl) (he2 : starEach [.Name y p2] X.env = (false, eval (.Name y p2) X.env) :: starEach [] X.env := by rfl) (hpl : (backTo pos (starEach [.Name y p2] X.env)).any (·.1) = false := by rfl) :
    XI X W ss (.Call (.Name "isinstance" p) [e1, .Name y p2] [] pos) (m.bind fun x => isE2 tab x) := by
  obtain ⟨v, cv, hn, hr, hu, ht⟩ := T
  have hy : PE X (.Name y p2) (tC v) := by
    rcases hn with h1 | ⟨h1, h2, h3⟩
    · exact pe_glob hgy h1 hr hdb
    · exact pe_bltn hgy h1 h2 hr h3 hdb
  refine PE_imp (pe_callB call_isV hg hm (by decide +kernel) (pa_cons h (pa_cons hy pa_nil he2) he) (by decide) (by decide) he hpl) fun σ H Q ⟨sl, q⟩ => ⟨sl, wpR_imp (wpR_bind q) (Same.refl H) fun x q u H1 s1 r1 => ?_⟩
  obtain ⟨a, C, d, ob, wh, rfl, gC, ha, hex, hp⟩ := r1
  unfold isE2 at q
  cases e2 : lookB tab x.cls with
  | none => rw [e2] at q; exact q.elim
  | some b =>
    rw [e2] at q
    obtain ⟨C', gC', cC, kC⟩ := ht _ _ e2
    have : C' = C := Value.ref.inj (Option.some.inj (gC'.symm.trans (by rw [hM]; exact gC)))
    subst this
    exact ⟨a, C', d, ob, wh, v, cv, b, rfl, ⟨ha, hex⟩, cC, hu, kC, dOk_of hp, q _ H1 s1 rfl⟩
theorem xi_isVs {m : Res Exn} {es : List Expr} {ts : List ETab} {p p2 pos : Pos} {j : Nat} (h : XI X W ss e1 m) (T : ITs X es ts) (hm : X.mg "isinstance" = none) (hM : X.mg = Md.mg := by rfl) (hne : es ≠ [] := by exact fun z => nomatch z) (hlen : es.length ≤ 100 := by decide) (hg : Gl X "isinstance" := by rfl)
    (he : starEach [e1, .Tuple es j p2] X.env = (false, eval e1 X.env) :: starEach [.Tuple es j p2] X.env := by rfl) (he2 : starEach [.Tuple es j p2] X.env = (false, eval (.Tuple es j p2) X.env) :: starEach [] X.env := by rfl) (hpl : (backTo pos (starEach [.Tuple es j p2] X.env)).any (·.1) = false := by rfl) :
    XI X W ss (.Call (.Name "isinstance" p) [e1, .Tuple es j p2] [] pos) (m.bind fun x => isE2s ts x) := by
  obtain ⟨vs, cvs, pa, hv, hk, hl⟩ := its_pa T
  refine PE_imp (pe_callB call_isVT hg hm (by decide +kernel) (pa_cons h (pa_cons (pe_tup pa) pa_nil he2) he) (by decide) (by decide) he hpl) fun σ H Q ⟨sl, q⟩ => ⟨sl, wpR_imp (wpR_bind q) (Same.refl H) fun x q u H1 s1 r1 => ?_⟩
  obtain ⟨a, C, d, ob, wh, rfl, gC, ha, hex, hp⟩ := r1
  unfold isE2s at q
  cases e2 : lookBs ts x.cls with
  | none => rw [e2] at q; exact q.elim
  | some b =>
    rw [e2] at q
    have gC' : X.mg x.cls = some (.ref C) := by rw [hM]; exact gC
    have cC := its_exc T gC' e2 hne
    exact ⟨by rw [hl]; exact Nat.le_trans hlen (by decide), fun t ht => ⟨a, C, d, ob, wh, t, vs, cvs, b, rfl, ⟨same_upd ht _ _ ha, hex⟩, cC, upd_same, hv, hk _ _ _ gC' e2, dOk_of (payRep_mono (same_upd ht) hp), q _ _ (s1.trans (same_upd ht)) rfl⟩⟩
end
section
variable {X : Cx} {W : WX} {ss : List Slot} {e1 e2 : Expr}
def rCountD (K : Frag) : V → List V → Hp → VK → Prop := fun x xs H Q => ∃ (a : Addr) (y : V) (d : PyData) (ds : List PyData), x = V.ref a ∧ xs = [y] ∧ Dp K H (V.ref a) (.list ds) ∧ Dp K H y d ∧
  SeqAt.shaped (.list ds) = true ∧ SeqAt.shaped d = true ∧ Q (.int (ds.countP fun z => PyData.eqv z d : Nat)) H
def countD {α : Type} [Enc α] [Dat α] (xs : List α) (a : α) : Res Int := guardR (Dat.lay a && Dat.lay xs) (.ok ((xs.countP fun z => PyData.eqv (Dat.py z) (Dat.py a) : Nat) : Int))
def indexD {α : Type} [Enc α] [Dat α] (xs : List α) (a : α) : Res Int := guardR (Dat.lay a && Dat.lay xs) (match xs.findIdx? fun z => PyData.eqv (Dat.py z) (Dat.py a) with
  | some j => .ok (j : Int)
  | none => .stuck)
end
end G

namespace G
open PySem PySem.Spec PyProof.Rows L2
section
variable {κ β : Type} [Enc κ] [DecidableEq κ] [DK κ] [Enc β]
def fzd (d : Dic κ β) : Slot :=
  ⟨fun K F _ o => ∃ p kvs ob, o = some (.ref p) ∧ F p = some (.frz ob (DK.ho kvs)) ∧ RepD K F kvs d.l, fun s _ ⟨p, kvs, ob, e, h, r⟩ => ⟨p, kvs, ob, e, s _ _ h, r.mono s⟩⟩
instance : View (fzd (κ := κ) (β := β)) := ⟨fun ⟨p, kvs, ob, e, g, r⟩ => by cases e; exact ⟨p, kvs, rfl, .inr ⟨ob, g⟩, r⟩⟩
variable {X : Cx} {W : WX} {ss : List Slot}
end
class DKI (κ : Type) [Enc κ] [DecidableEq κ] [DK κ] where
  it : Addr → Obj → List (κ × V) → It
  pi : ∀ {X : Cx} {tg e : Expr} {j : Nat}, PE X e (tVar j) → PI X tg e (fun σ H R => ∃ d o kvs, σ[j]? = some (some (V.ref d)) ∧ H d = some (.frz o (DK.ho (κ := κ) kvs)) ∧ R (it d o kvs) H)
  go : ∀ {H : Hp} {d : Addr} {o : Obj} {kvs : List (κ × V)} {i : Nat}, H d = some (.frz o (DK.ho kvs)) → i < kvs.length → (it d o kvs).go i H
  yld : ∀ {K : Frag} {H H' : Hp} {d : Addr} {o : Obj} {kvs : List (κ × V)} {i : Nat} {v : V}, (it d o kvs).yld i H v H' → H' = H ∧ ∃ kv, kvs[i]? = some kv ∧ Enc.rep K H v kv.1
  stop : ∀ {H : Hp} {d : Addr} {o : Obj} {kvs : List (κ × V)} {i : Nat}, H d = some (.frz o (DK.ho kvs)) → kvs.length ≤ i → (it d o kvs).stop i H
theorem get_map {α γ : Type} {f : α → γ} {l : List α} {i : Nat} {b : γ} (h : (l.map f)[i]? = some b) : ∃ a, l[i]? = some a ∧ f a = b := by
  rw [List.getElem?_map] at h
  cases e : l[i]? with
  | none => rw [e] at h; cases h
  | some a => rw [e] at h; exact ⟨a, rfl, Option.some.inj h⟩
def kI (kvs : List (Int × V)) : List (Key × V) := kvs.map fun kv => (Sum.inl kv.1, kv.2)
def kS (kvs : List (Str × V)) : List (Key × V) := kvs.map fun kv => (Sum.inr kv.1, kv.2)
def kP (kvs : List ((Int × Int) × V)) : List (List Key × V) := kvs.map fun kv => (key2 kv.1, kv.2)
theorem kI_len (kvs : List (Int × V)) : (kI kvs).length = kvs.length := List.length_map _
theorem kS_len (kvs : List (Str × V)) : (kS kvs).length = kvs.length := List.length_map _
theorem kP_len (kvs : List ((Int × Int) × V)) : (kP kvs).length = kvs.length := List.length_map _
instance : DKI Int where
  it := fun d o kvs => Itk d o (kI kvs)
  pi := fun he => PI_imp (pi_keys he) fun σ H R ⟨d, o, kvs, e, h, q⟩ => ⟨.ref d, e, d, o, rfl, .inl ⟨kI kvs, h, q⟩⟩
  go := fun {_ _ _ kvs _} h hi => ⟨h, by rw [kI_len]; exact hi⟩
  yld := fun ⟨e, k, v, h, hx⟩ => by
    obtain ⟨kv, q, z⟩ := get_map h
    cases z
    exact ⟨e, kv, q, hx⟩
  stop := fun {_ _ _ kvs _} h hi => ⟨h, by rw [kI_len]; exact hi⟩
instance : DKI Str where
  it := fun d o kvs => Itk d o (kS kvs)
  pi := fun he => PI_imp (pi_keys he) fun σ H R ⟨d, o, kvs, e, h, q⟩ => ⟨.ref d, e, d, o, rfl, .inl ⟨kS kvs, h, q⟩⟩
  go := fun {_ _ _ kvs _} h hi => ⟨h, by rw [kS_len]; exact hi⟩
  yld := fun ⟨e, k, v, h, hx⟩ => by
    obtain ⟨kv, q, z⟩ := get_map h
    cases z
    exact ⟨e, kv, q, hx⟩
  stop := fun {_ _ _ kvs _} h hi => ⟨h, by rw [kS_len]; exact hi⟩
instance : DKI (Int × Int) where
  it := fun d o kvs => Itkt d o (kP kvs)
  pi := fun he => PI_imp (pi_keys he) fun σ H R ⟨d, o, kvs, e, h, q⟩ => ⟨.ref d, e, d, o, rfl, .inr ⟨kP kvs, h, q⟩⟩
  go := fun {_ _ _ kvs _} h hi => ⟨h, by rw [kP_len]; exact hi⟩
  yld := fun ⟨e, k, v, a, h, hx, ha⟩ => by
    obtain ⟨kv, q, z⟩ := get_map h
    cases z
    exact ⟨e, kv, q, a, .int kv.1.1, .int kv.1.2, hx, ha, rfl, rfl⟩
  stop := fun {_ _ _ kvs _} h hi => ⟨h, by rw [kP_len]; exact hi⟩
section
variable {κ β : Type} [Enc κ] [DecidableEq κ] [DK κ] [DKI κ] [Imm κ] [Enc β] {X : Cx} {W : WX} {ss : List Slot}
end
end G

namespace G
open PySem PySem.Spec PyProof.Rows L2
section
variable {X : Cx} {C fI : Addr}
end
section
variable [Md] {X : Cx} {W : WX} {ss : List Slot} {e1 : Expr}
end
end G

namespace PySem
namespace BdsX
open PySem.W PySem.Calls PyProof.Rows PySem.HandSPX
def iA (p1 p2 : Pos) : Arguments := { posonlyargs := [], args := [{ arg := "self", annotation := none, pos := p1 }, { arg := "boards", annotation := none, pos := p2 }], vararg := none, kwonlyargs := [], kw_defaults := [], kwarg := none, defaults := [] }
def iB (q1 q2 q3 q4 : Pos) : List Stmt := [.Assign [.Attribute (.Name "self" q1) "boards" q2] (.Name "boards" q3) q4]
def iS : Scope := { kind := .function, names := [(PySem.Str.ofString "self", .local), (PySem.Str.ofString "boards", .local)], isGenerator := false, isCoroutine := false, more := [] }
structure BdsTxt (K : Frag) (mg : Str → Option Value) (C fI : Addr) : Prop where
  gC : mg "Round" = some (.ref C)
  cls : ∃ nm q N bs bm sn sub ab col dd k0 k1 k2 k3 k5, K.lookup C = some (excClassObj nm q C N bs bm true sn sub ab col dd k0 k1 k2 k3 k5 "ValueError.__new__") ∧ refsVE bm = true
  sa : findIn K (.ref C) "__setattr__" = some (some (.builtin "object.__setattr__"))
  ga : findIn K (.ref C) "__getattribute__" = some (some (.builtin "BaseException.__getattribute__"))
  gg : findIn K (.ref C) "__getattr__" = some none
  noN : findIn K (.ref C) "boards" = some none
  iC : findIn K (.ref C) "__init__" = some (some (.ref fI))
  tC : typeIn K (.ref fI) = some (.type "function")
  kC : keepIn K (.ref C) = true
  exC : subIn K (.ref C) (.type "BaseException") = some true
  tyC : typeIn K (.ref C) = some (.type "type")
  hdC : hasDictIn K C = true
  te : exmOne K (.ref C) (.ref C) = some true
  fn : ∃ (oc : Value) (od : Option Addr) (doc pm : Value) (an : Option Addr) (cdv ct : Value) (osl : Array (Option Value)) (p1 p2 q1 q2 q3 q4 : Pos),
    K.lookup fI = some ⟨oc, od, .func (fnOf "__init__" "Round.__init__" (iA p1 p2) (iB q1 q2 q3 q4) iS .none .none doc pm an cdv ct), osl⟩ ∧ codeIn K cdv "Round.__init__" = true
structure InitEnd (h h' : Heap) (x C dx t1 : Addr) (v : Value) : Prop where
  keep : ∀ b o, b ≠ x → h.get? b = some o → h'.get? b = some o
  obj : h'.get? x = some { cls := .ref C, dict := some dx, data := .fields #[.ref t1, .none, .none, .none, .bool false, .none] }
  dbig : h.objs.size ≤ dx
  dne : dx ≠ x
  ns : h'.Ns1 dx (fun y => if y = "boards" then some v else none)
structure OwnMade (h h' : Heap) (e C d : Addr) (v : Value) : Prop where
  keep : ∀ b o, h.get? b = some o → h'.get? b = some o
  new : h.objs.size ≤ e
  obj : ∃ oe vs, h'.get? e = some oe ∧ oe.cls = .ref C ∧ oe.dict = some d ∧ oe.data = .fields vs ∧ vs[1]? = some .none
  dbig : h.objs.size ≤ d
  dne : d ≠ e
  ns : h'.Ns1 d (fun y => if y = "boards" then some v else none)
section
variable {prog : Program} {w : World} {A : Around} {E : Value → Shared → Prop} {R : Result → Shared → Prop} {s : Shared} {K : Frag} {mg : Str → Option Value} {C fI : Addr}
end
end BdsX
end PySem
namespace L2
open PySem PySem.Spec PyProof.Rows
section
variable {X : Cx} {C fI : Addr}
def tMkBds (C : Addr) (ta : TA) : St → Hp → XK → Prop := fun σ H Q => ta σ H fun vs H1 => ∃ v, vs = [v] ∧ ∀ d, H1 d = none → Q (.ref C) (some d) (upd H1 d (.xd [(("boards" : Str), v)]))
end
end L2

namespace G
open PySem PySem.Spec PyProof.Rows L2
def HasBds (K : Frag) (mg : PySem.Str → Option Value) : Prop := ∃ C fI, PySem.BdsX.BdsTxt K mg C fI
structure FzL where
  l : List Str
instance : Enc FzL := ⟨fun K H v x => ∃ p, v = .ref p ∧ SqL K H p (x.l.map V.str), fun s ⟨p, e, h⟩ => ⟨p, e, s.seq h⟩⟩
theorem dp_strs {K : Frag} {H : Hp} : ∀ xs : List Str, DpAll K H (xs.map V.str) (xs.map PyData.str)
  | [] => .nil
  | x :: xs => .cons (.str x) (dp_strs xs)
theorem lay_strs : ∀ {xs : List Str}, xs.all PyData.strOk = true → PyData.canLayAll0 (xs.map PyData.str) = true
  | [], _ => by simp [PyData.canLayAll0]
  | x :: xs, h => by
    rw [List.all_cons, Bool.and_eq_true] at h
    simp only [List.map_cons, PyData.canLayAll0, Bool.and_eq_true]
    exact ⟨by simpa [PyData.canLay0] using h.1, lay_strs h.2⟩
theorem dep_strs : ∀ xs : List Str, PyData.depthAll (xs.map PyData.str) ≤ 0
  | [] => by simp [PyData.depthAll]
  | x :: xs => by
    simp only [List.map_cons, PyData.depthAll]
    exact Nat.max_le.mpr ⟨by simp [PyData.depth], dep_strs xs⟩
instance : Dat FzL where
  py := fun x => .list (x.l.map .str)
  dp := fun ⟨p, e, h⟩ => by rw [e]; exact .lst h (dp_strs _)
  lay := fun x => x.l.all PyData.strOk
  dep := 1
  layOk := fun h => by simp only [PyData.canLay0]; exact lay_strs h
  depOk := fun x => by simp only [PyData.depth]; exact Nat.succ_le_succ (dep_strs x.l)
def boardsR (x : Exn) : Res FzL := match x.pay with
  | .strs xs => if x.cls = "Round" then .ok ⟨xs⟩ else .stuck
  | _ => .stuck
section
variable {X : Cx} {C fI : Addr}
end
section
variable [Md] {X : Cx} {W : WX} {ss : List Slot} {e1 : Expr}
end
end G

namespace G
open PySem PySem.Spec PyProof.Rows L2
inductive OrP where
  | pr (x : Int × Int)
  | dy (d : Dy)
instance : Inhabited OrP := ⟨.dy .non⟩
instance : Enc OrP := ⟨fun K H v o => match o with
    | .pr x => Enc.rep K H v x
    | .dy d => Enc.rep K H v d,
  fun {K H H' v o} s h => by
    cases o with
    | pr x => exact Enc.mono (α := Int × Int) s h
    | dy d => exact Enc.mono (α := Dy) s h⟩
instance : ToDy OrP := ⟨fun o => match o with
    | .pr x => ToDy.dy x
    | .dy d => d,
  fun {K H v o} h => by
    cases o with
    | pr x => exact ToDy.rep (α := Int × Int) h
    | dy d => exact h⟩
def prP : OrP → Res (Int × Int)
  | .pr x => .ok x
  | .dy _ => .stuck
section
variable {X : Cx} {W : WX} {ss : List Slot} {e : Expr}
end
end G
namespace G
open PySem PySem.Spec PyProof.Rows L2
section
variable {X : Cx} {W : WX} {ss : List Slot} {κ β : Type} [Enc κ] [DecidableEq κ] [DK κ] [Enc β]
end
end G

namespace G
open PySem PySem.Spec PyProof.Rows L2
section
variable {X : Cx}
def rInDT (neg : Bool) (K : Frag) : R2 := fun x y H Q => ∃ d ds, Dp K H x d ∧ Dp K H y (.tuple ds) ∧ SeqAt.shaped d = true ∧ SeqAt.shaped (.tuple ds) = true ∧ Q (.bl (neg != ds.any fun z => PyData.eqv z d)) H
end
def inDT {α : Type} [Enc α] [Dat α] (a : α) (xs : Tup α) : Res Bool := guardR (Dat.lay a && Dat.lay xs) (.ok (xs.l.any fun z => PyData.eqv (Dat.py z) (Dat.py a)))
def ninDT {α : Type} [Enc α] [Dat α] (a : α) (xs : Tup α) : Res Bool := guardR (Dat.lay a && Dat.lay xs) (.ok (!xs.l.any fun z => PyData.eqv (Dat.py z) (Dat.py a)))
section
variable {X : Cx} {W : WX} {ss : List Slot}
end
instance {α : Type} [Enc α] : NNO (l1 (α := α)) := ⟨fun ⟨_, _, e, _⟩ z => by rw [z] at e; cases e⟩
instance {α : Type} [Enc α] {d : Ow α} : NNO (lsO d) := ⟨fun ⟨_, _, _, e, _⟩ z => by rw [z] at e; cases e⟩
section
variable {X : Cx}
def rRemD (K : Frag) : V → List V → Hp → VK → Prop := fun x xs H Q => ∃ (l : Addr) (vs : List V) (y : V) (d : PyData) (ds : List PyData) (j : Nat), x = V.ref l ∧ xs = [y] ∧ H l = some (.lst vs) ∧ DpAll K H vs ds ∧ Dp K H y d ∧
  SeqAt.shaped (.list ds) = true ∧ SeqAt.shaped d = true ∧ SeqAt.dataPlace ds d = some j ∧ Q .non (upd H l (.lst (vs.eraseIdx j)))
end
def remR {α : Type} [Enc α] [Dat α] (xs : List α) (a : α) : Res (List α) := guardR (Dat.lay a && Dat.lay xs) (match xs.findIdx? fun z => PyData.eqv (Dat.py z) (Dat.py a) with
  | some j => .ok (xs.eraseIdx j)
  | none => .stuck)
section
variable {X : Cx} {W : WX} {ss : List Slot} {e : Expr} {pos : Pos}
end
end G

namespace G
open PySem PySem.Spec PyProof.Rows L2
section
variable {X : Cx} {W : WX} {ss : List Slot} {rest : List Stmt} {pos : Pos} {e : Expr}
end
def ltS (x y : Str) : Bool := PySem.W.dataLt (.str x) (.str y)
def minT (x : Str) (xs : List Str) : Str := xs.foldl (fun a y => if ltS y a then y else a) x
section
variable {X : Cx}
def rMinT (K : Frag) : List V → Hp → VK → Prop := fun vs H Q => ∃ (a : Addr) (x : Str) (xs : List Str), vs = [V.ref a] ∧ SqL K H a ((x :: xs).map V.str) ∧ Q (.str (minT x xs)) H
end
def minTL : List Str → Res Str
  | [] => .stuck
  | x :: xs => .ok (minT x xs)
section
variable {X : Cx} {W : WX} {ss : List Slot} {k : Nat} {a : Expr} {p pos : Pos}
end
end G

namespace G
open PySem PySem.Spec PyProof.Rows L2
section
variable {prog : Program} {w : World} {A : Around} {E : Value → Shared → Prop} {s : Shared} {a kS : Addr} {vs : List Value} {keys : Array Value} {e e1 : Nat} {P : PySem.Fin → Shared → Prop}
end
theorem FpOk.un {X : Cx} {pins : List (Addr × Obj)} {H H' : Hp} {b : Addr} (f : FpOk X pins H b) (n : H' b = none) : FpOk X pins H' b := ⟨n, f.2⟩
class Kpy (κ : Type) [Enc κ] where
  py : κ → PyData
  fit : κ → Bool
  dp : ∀ {K : Frag} {H : Hp} {v : V} {k : κ}, fit k = true → Enc.rep K H v k → Dp K H v (py k)
  dep : ∀ {k : κ}, fit k = true → (py k).depth ≤ 60
instance {κ : Type} [Enc κ] [Dat κ] : Kpy κ := ⟨Dat.py, fun _ => decide (Dat.dep κ ≤ 60), fun _ r => Dat.dp r, fun {k} h => Nat.le_trans (Dat.depOk k) (of_decide_eq_true h)⟩
instance : Kpy Dy := ⟨dyPy, fun d => noDic d && decide ((dyPy d).depth ≤ 60), fun h r => dy_dp (Bool.and_eq_true_iff.mp h).1 r, fun h => of_decide_eq_true (Bool.and_eq_true_iff.mp h).2⟩
theorem dyPys_map : ∀ xs : List Dy, dyPys xs = xs.map dyPy
  | [] => by simp [dyPys]
  | x :: xs => by simp [dyPys, dyPys_map xs]
instance : Kpy (Tup Dy) := ⟨fun t => .tuple (t.l.map dyPy), fun t => noDic (.tup t.l) && decide ((dyPy (.tup t.l)).depth ≤ 60), fun {K H v k} h ⟨p, vs, e, hp, r⟩ => by
  have q := dy_dp (K := K) (H := H) (v := v) (Bool.and_eq_true_iff.mp h).1 (by rw [e]; exact .tup hp (by have := all2_dya (f := id) (fun v a h => h) r; rwa [List.map_id] at this))
  rw [dyPy, dyPys_map] at q
  exact q, fun {k} h => by
  have q := of_decide_eq_true (Bool.and_eq_true_iff.mp h).2
  rw [dyPy, dyPys_map] at q
  exact q⟩
def mapR {α β : Type} (f : α → Res β) : List α → Res (List β)
  | [] => .ok []
  | a :: as => (f a).bind fun b => (mapR f as).bind fun bs => .ok (b :: bs)
def isTup1 : PyData → Bool
  | .tuple (_ :: _) => true
  | _ => false
def noTup : PyData → Bool
  | .tuple _ => false
  | .none => false
  | _ => true
def srtB (ds : List PyData) : Bool := (ds.all fun a => ds.all fun b => PySem.W.alike a b) && (ds.all isTup1 || ds.all noTup)
def srtK {α κ : Type} [Enc κ] [Kpy κ] (xs : List α) (ks : List κ) : List α := ((xs.zip ks).mergeSort (PySem.W.dataLe false fun q : α × κ => Kpy.py q.2)).map (·.1)
def sortK {α κ : Type} [Enc κ] [Kpy κ] (f : α → Res κ) (xs : List α) : Res (List α) := match mapR f xs with
  | .ok ks => guardR (ks.all Kpy.fit && srtB (ks.map Kpy.py)) (.ok (srtK xs ks))
  | _ => .stuck
section
variable {X : Cx} {W : WX} {ss : List Slot} {e : Expr}
def srtD {α : Type} [Enc α] [Kpy α] (xs : List α) : List α := xs.mergeSort (PySem.W.dataLe false fun a : α => Kpy.py a)
def sortD {α : Type} [Enc α] [Kpy α] (xs : List α) : Res (List α) := guardR (xs.all Kpy.fit && srtB (xs.map Kpy.py)) (.ok (srtD xs))
end
end G

namespace G
open PySem PySem.Spec PyProof.Rows L2
section
variable {X : Cx} {W : WX} {ss : List Slot} {pos : Pos}
end
end G

namespace L2
open PySem PySem.Spec PyProof.Rows
def rRepF (K : PySem.W.Frag) : R2 := fun x y H Q => ∃ l k xs, x = .ref l ∧ y = .int k ∧ SqT K H l xs ∧ xs ≠ [] ∧ -(2 ^ 63) ≤ k ∧ k ≤ 1 ∧ xs.length ≤ 1000 ∧ (k = 1 → Q x H) ∧ (k ≤ 0 → ∀ p, H p = none → Q (.ref p) (upd H p (.tup [])))
section
variable {X : Cx}
end
end L2
namespace G
open PySem PySem.Spec PyProof.Rows L2
section
variable {X : Cx} {W : WX} {ss : List Slot} {pos : Pos} {tg e : Expr}
def popL {α : Type} (xs : List α) : Res α := match xs.getLast? with
  | some a => .ok a
  | none => .stuck
def repA {α : Type} (x : Tup α) (k : Int) : Res (Tup α) := guardR (!x.l.isEmpty && (decide (-1000 ≤ k) && (decide (k ≤ 1000) && decide (x.l.length ≤ 1000)))) (.ok ⟨(List.replicate k.toNat x.l).flatten⟩)
theorem xk_listTk {α : Type} [Enc α] {a : Expr} {m : Res (Tup α)} {p : Pos} (h : XK X W ss a m fr) (hm : X.mg "list" = none) (hg : Gl X "list" := by rfl) (he : starEach [a] X.env = (false, eval a X.env) :: starEach [] X.env := by rfl) :
    XK X W ss (.Call (.Name "list" p) [a] [] pos) (m.bind fun x => .ok x.l) ow :=
  PE_imp (pe_callTy call_list_of hg hm (by decide +kernel) (pa_cons h pa_nil he) (by decide) (by decide) he rfl) fun σ H Q ⟨F, sf, sl, q⟩ => ⟨F, sf, sl, wpR_imp (wpR_bind q) (Same.refl H) fun x q v H1 F1 G1 s1 ex1 pr1 ⟨v', e1, p, ws, e2, hp, rv⟩ => by
    cases e1
    subst e2
    exact ⟨p, ws, rfl, .inr (seqT ex1.sub hp), fun o ho => new_ow s1 ex1 ho rv q⟩⟩
def rNeNil (K : PySem.W.Frag) : R2 := fun x y H Q => ∃ p p' xs, x = .ref p ∧ y = .ref p' ∧ SqL K H p xs ∧ SqL K H p' [] ∧ Q (.bl (!xs.isEmpty)) H
def neNil {α β : Type} (a : List α) (b : List β) : Res Bool := guardR b.isEmpty (.ok (!a.isEmpty))
def shrR (i j : Int) : Res Int := guardR (decide (0 ≤ j)) (.ok (i / 2 ^ j.toNat))
end
end G

namespace G
open PySem PySem.Spec PyProof.Rows L2
section
variable {X : Cx}
def tellable : PyData → Bool
  | .int i => decide (i.natAbs.log2 < 1920)
  | .str x => decide ((reprText x).length ≤ sizeLine)
  | _ => true
def rRepr (K : Frag) : List V → Hp → VK → Prop := fun xs H Q => ∃ x d, xs = [x] ∧ Dp K H x d ∧ d.showable = true ∧ d.hasDict = false ∧ d.depth ≤ 60 ∧ tellable d = true ∧ d.shown.length ≤ sizeLine ∧ Q (.str d.shown) H
def reprD (d : Dy) : Res Str := guardR (noDic d && ((dyPy d).showable && (!(dyPy d).hasDict && (decide ((dyPy d).depth ≤ 60) && (tellable (dyPy d) && decide ((dyPy d).shown.length ≤ sizeLine)))))) (.ok (dyPy d).shown)
end
def intsD : List Dy → Option (List Int)
  | [] => some []
  | .int i :: ds => (intsD ds).map (i :: ·)
  | _ => none
theorem intsD_rep {K : Frag} {H : Hp} : ∀ {ds : List Dy} {is : List Int} {vs : List V}, intsD ds = some is → All2 (fun v d => DyR K H v d) vs ds → All2 (fun v (i : Int) => Enc.rep K H v i) vs is
  | [], is, [], h, _ => by cases h; trivial
  | .int i :: ds, is, v :: vs, h, ⟨r, rs⟩ => by
    rw [intsD] at h
    cases e : intsD ds with
    | none => rw [e] at h; cases h
    | some js =>
      rw [e] at h
      cases h
      refine ⟨?_, intsD_rep e rs⟩
      cases r; exact rfl
  | .non :: _, _, _, h, _ => by cases h
  | .bl _ :: _, _, _, h, _ => by cases h
  | .str _ :: _, _, _, h, _ => by cases h
  | .lst _ :: _, _, _, h, _ => by cases h
  | .tup _ :: _, _, _, h, _ => by cases h
  | .dic :: _, _, _, h, _ => by cases h
def dyLI : Dy → Res (List Int)
  | .lst ds => match intsD ds with
    | some is => .ok is
    | none => .stuck
  | _ => .stuck
theorem cLI : Cast dyLI := ⟨fun {K H v d b} h r => by
  cases r <;> simp only [dyLI, reduceCtorEq] at h
  rename_i p vs xs hp ha
  cases e : intsD xs with
  | none => rw [e] at h; cases h
  | some is =>
    rw [e] at h
    cases h
    exact ⟨p, vs, rfl, hp, intsD_rep e (dya_all2 ha)⟩, fun d x h => by
  cases d with
  | lst ds =>
    simp only [dyLI] at h
    cases e : intsD ds with
    | none => rw [e] at h; cases h
    | some is => rw [e] at h; cases h
  | _ => cases h⟩
structure FnC (P : Program) (w : World) (K : Frag) (mg : Str → Option Value) (base : Heap) (CX : CXT) (f : Addr) (fd : FuncData) (ps : List Str) (sp : Sp) : Prop where
  go : ∀ (s : Shared) (H : Hp) (args : Args) (us : List Value) (vs : List V) (Q : VK) (E : L2.XK), Env0 P w K mg base callerA [] s H → BindsTo s fd args (ps.zip us) → Vals vs us → sp vs H Q E →
    codeAny (model P w) callerA (.call (.ref f) args) (CR CX [] P w H s Q E) s
theorem FnC.imp {P : Program} {w : World} {K : Frag} {mg : Str → Option Value} {base : Heap} {CX : CXT} {f : Addr} {fd : FuncData} {ps : List Str} {sp sp' : Sp} (F : FnC P w K mg base CX f fd ps sp) (h : ∀ vs H Q E, sp' vs H Q E → sp vs H Q E) : FnC P w K mg base CX f fd ps sp' :=
  ⟨fun s H args us vs Q E e b v q => F.go s H args us vs Q E e b v (h _ _ _ _ q)⟩
section
variable {P : Program} {w : World} {K : Frag} {mg : Str → Option Value} {base : Heap}
structure Top (K : Frag) (s : Shared) (a : Addr) (O : Obj) (xs : List V) (H : Hp) : Prop where
  one : ∀ b u, H b = some u → b = a ∧ K.lookup a = none ∧ u = .frz O (.lst xs)
  sq : SqL K H a xs
end
end G

namespace G
open PySem PySem.Spec PyProof.Rows L2
class EncF (α : Type) where
  rep : List Str → Frag → Hp → List (Str × V) → α → Prop
  mono : ∀ {ns : List Str} {K : Frag} {H H' : Hp} {l : List (Str × V)} {a : α}, Same H H' → rep ns K H l a → rep ns K H' l a
  len : ∀ {ns : List Str} {K : Frag} {H : Hp} {l : List (Str × V)} {a : α}, rep ns K H l a → l.length ≤ ns.length
  no : ∀ {ns : List Str} {K : Frag} {H : Hp} {l : List (Str × V)} {a : α}, rep ns K H l a → ∀ m, m ∉ ns → l.lookup m = none
theorem len_putF (f : Str) (v : V) : ∀ l : List (Str × V), (putF f v l).length ≤ l.length + 1
  | [] => Nat.le_refl _
  | (g, x) :: r => by
    show (if g = f then (g, v) :: r else (g, x) :: putF f v r).length ≤ _
    split
    · simp
    · have := len_putF f v r
      simp only [List.length_cons]; omega
instance : EncF Unit where
  rep := fun ns _ _ l _ => ns = [] ∧ l = []
  mono := fun _ h => h
  len := fun ⟨_, h⟩ => by rw [h]; exact Nat.zero_le _
  no := fun ⟨_, h⟩ m _ => by rw [h]; rfl
instance {α β : Type} [EncF α] [Enc β] : EncF (α × β) where
  rep := fun ns K H l x => ∃ f ns' l0 y, ns = f :: ns' ∧ l = putF f y l0 ∧ EncF.rep ns' K H l0 x.1 ∧ Enc.rep K H y x.2
  mono := fun s ⟨f, ns', l0, y, e, e2, h1, h2⟩ => ⟨f, ns', l0, y, e, e2, EncF.mono s h1, Enc.mono s h2⟩
  len := fun ⟨f, ns', l0, y, e, e2, h1, h2⟩ => by
    subst e; subst e2
    have a := len_putF f y l0
    have b := EncF.len h1
    rw [List.length_cons]; omega
  no := fun ⟨f, ns', l0, y, e, e2, h1, h2⟩ m hm => by
    subst e; subst e2
    rw [lookup_putF, if_neg (fun z => hm (by rw [z]; exact List.mem_cons_self))]
    exact EncF.no h1 m fun z => hm (List.mem_cons_of_mem _ z)
class ObN (nm : String) where
  fs : List Str
class ObC (nm : String) where
  C : Addr
structure Ob (nm : String) (α : Type) where
  v : α
instance {nm : String} {α : Type} [ObN nm] [ObC nm] [EncF α] : Enc (Ob nm α) where
  rep := fun K H v o => ∃ p dx l, v = .ref p ∧ H p = some (.ins (ObC.C nm) dx l) ∧ EncF.rep (ObN.fs nm) K H l o.v
  mono := fun s ⟨p, dx, l, e, h, r⟩ => ⟨p, dx, l, e, s _ _ h, EncF.mono s r⟩
structure ObOk (K : Frag) (nm : String) [ObN nm] [ObC nm] : Prop where
  cl : Cls K (ObC.C nm)
  na : ∀ f ∈ ObN.fs nm, NoAttr K (ObC.C nm) f
  sz : (ObN.fs nm).length ≤ 100
structure Sel {α β : Type} [EncF α] [Enc β] (ns : List Str) (f : Str) (g : α → β) : Prop where
  get : ∀ {K : Frag} {H : Hp} {l : List (Str × V)} {a : α}, EncF.rep ns K H l a → ∃ y, l.lookup f = some y ∧ Enc.rep K H y (g a)
  mem : f ∈ ns
theorem sel_0 {α β : Type} [EncF α] [Enc β] {f : Str} {ns : List Str} : Sel (f :: ns) f (fun x : α × β => x.2) := ⟨fun {K H l a} ⟨f', ns', l0, y, e, e2, h1, h2⟩ => by
  cases e
  subst e2
  exact ⟨y, by rw [lookup_putF, if_pos rfl], h2⟩, List.mem_cons_self⟩
theorem sel_s {α β γ : Type} [EncF α] [Enc β] [Enc γ] {f f' : Str} {ns : List Str} {g : α → β} (h : Sel ns f g) (ne : (f == f') = false := by decide +kernel) : Sel (f' :: ns) f (fun x : α × γ => g x.1) := ⟨fun {K H l a} ⟨f2, ns', l0, y, e, e2, h1, h2⟩ => by
  cases e
  subst e2
  obtain ⟨z, hz, rz⟩ := h.get h1
  exact ⟨z, by rw [lookup_putF, if_neg (fun q => by rw [q] at ne; simp at ne)]; exact hz, rz⟩, List.mem_cons_of_mem _ h.mem⟩
section
variable {X : Cx} {W : WX} {ss : List Slot} {pos : Pos} {e : Expr}
theorem xk_fld {nm : String} {α β : Type} [ObN nm] [ObC nm] [EncF α] [Enc β] {f : Str} {g : α → β} {m : Res (Ob nm α)} (ok : ObOk X.K nm) (S : Sel (ObN.fs nm) f g) (h : XK X W ss e m fr) (hb : attributeBase e f X.env (eval e X.env) = eval e X.env := by rfl) :
    XK X W ss (.Attribute e f pos) (m.bind fun o => .ok (g o.v)) fr :=
  PE_imp (pe_fld h hb) fun σ H Q ⟨F, sf, sl, q⟩ => ⟨F, sf, sl, wpR_imp (wpR_bind q) (Same.refl H) fun o q v H1 F1 G1 s1 ex1 pr1 ⟨v', e1, p, dx, l, e2, hp, r⟩ => by
    cases e1
    subst e2
    obtain ⟨y, hl, ry⟩ := S.get r
    exact ⟨p, _, dx, l, y, rfl, ex1.sub _ _ hp, ok.cl, ok.na f S.mem, hl, q y H1 F1 noHp s1 ex1 priv_no ⟨y, rfl, ry⟩⟩⟩
end
section
variable {X : Cx} {CX : CXT} {k : Nat} {f C : Addr} {fd : FuncData} {ps : List Str} {sp : Sp} {dvs : List V} {ds : List Value} {E : L2.St → L2.XK} {x m : Str} {p pos apos : Pos} {e o : Expr} {es : List Expr} {ta : TE} {t : TA}
def tMethSD (C : Addr) (m : Str) (sp : Sp) (dvs : List V) (E : L2.St → L2.XK) (ta : TE) (t : TA) : TE := fun σ H Q => ta σ H fun x H1 => ∃ a dx fs, x = .ref a ∧ H1 a = some (.ins C dx fs) ∧ fs.lookup m = none ∧
  t σ H1 fun vs H2 => sp (x :: (vs ++ dvs)) H2 Q (E σ)
theorem pe_meth0SD {pl : Sem Bool} (he : PE X o ta) (c : Cls X.K C) (hm : Meth X.K C m f) (F : FnOk X.prog X.w X.K X.mg X.base CX k f fd ps sp) (hr : Room k X.A) (hb : Binds X.K fd ps ds) (hd : Vals dvs ds) (hx : ∀ σ, PassesAt CX X σ (E σ))
    (ht : eval (.Call (.Attribute o m apos) [] [] pos) X.env = (do
      let ov ← eval o X.env
      standAt apos.atName
      let (f, first) ← holding [ov] (getMethod ov m pl)
      callWith pos f first (backTo pos (starEach [] X.env)) (backToKw pos (keywordEach [] X.env))) := by rfl) :
    PE X (.Call (.Attribute o m apos) [] [] pos) (tMethSD C m sp dvs E ta tNil) :=
  ⟨fun pins s σ H Q I h => PySem.W.methodCall_KW (pl := pl) (thn (he.run pins s σ H _ I h) fun u s1 ⟨x, H1, I1, rx, a, dx, fs, ex, ea, l, q⟩ => by
    subst ex
    obtain rfl : u = Value.ref a := rx
    exact getmeth_ok I1 ea c hm l (PySem.W.callWith_K0 (first := [.ref a]) I1.kIn hm.kp (run_fnSD (us := [.ref a]) (vs := [.ref a]) F hr hb hd (hx σ) I1 (.cons rfl .nil) q))) ht⟩
end
structure CalM (P : Program) (w : World) (K : Frag) (mg : Str → Option Value) (base : Heap) (k : Nat) (nm : String) [ObN nm] [ObC nm] (m : Str) {A' A R : Type} [EncA A'] [EncA A] (c : A' → A) (g : A → Res R) (kr : R → Slot) : Prop where
  ex : ∃ f fd ps dvs ds, FnOk P w K mg base (L2.CX P w) k f fd ps (spOf K mg g kr) ∧ Meth K (ObC.C nm) m f ∧ m ∉ ObN.fs nm ∧ Binds K fd ps ds ∧ Vals dvs ds ∧ ∀ H vs a, EncA.rep K H vs a → EncA.rep K H (vs ++ dvs) (c a)
structure IsMeth (K : Frag) (nm : String) [ObC nm] (qual m : Str) (st : Stmt) : Prop where
  ex : ∃ f fd, Fun K m qual st f fd ∧ Meth K (ObC.C nm) m f
section
variable {P : Program} {w : World} {K : Frag} {mg : Str → Option Value} {base : Heap}
theorem cal_mkM {nm : String} [ObN nm] [ObC nm] {m qual : Str} {st : Stmt} {N ps : List Str} {k : Nat} {A R : Type} [EncP A] {g : A → Res R} {kr : R → Slot} (D : IsMeth K nm qual m st) (S : FnScope N ps (defScope st)) (hl : EncP.len A = ps.length)
    (hb : ∀ (kV doc pm : Value) (an : Option Addr) (cdv ct : Value) (us : List Value), us.length = ps.length → bindArgs (PySem.W.fnOf m qual (defArgs st) (defBody st) (defScope st) .none kV doc pm an cdv ct) ⟨us, []⟩ = pure (ps.zip us))
    (hbody : ∀ (a : A) (f : Addr) (cdv : Value) (A' : Around) (outer : List Env) (s : Shared) (H : Hp) (E : L2.XK), Room k (A'.deeper (envOfC qual (defScope st) s.heap.objs.size f cdv)) →
      ST (cxOf (L2.CX P w) P w K mg base N qual (defScope st) f cdv A' outer s H E) (wE E) true (EncP.slots a ++ List.replicate (N.length - EncP.len A) any) (defBody st) (g a) kr) (hn : m ∉ ObN.fs nm := by decide +kernel) :
    CalM P w K mg base (k + 1) nm m (fun a : A => a) g kr := by
  obtain ⟨f, fd, F, hm⟩ := D.ex
  exact ⟨f, fd, ps, [], [], fn_ok F S hl fun a cdv A' outer s H E hr => hbody a f cdv A' outer s H E hr, hm, hn, F.binds hb, .nil, fun H vs a h => by rw [List.append_nil]; exact h⟩
end
section
variable {X : Cx} {W : WX} {ss : List Slot} {k j : Nat} {nm : String} [ObN nm] [ObC nm] {m : Str} {α A' A R : Type} [EncF α] [EncP A'] [EncA A] {c : Ob nm α × A' → A} {g : A → Res R} {kr : R → Slot} {p pos apos : Pos} {o e : Expr} {es : List Expr}
theorem xk_meth0 {pl : Sem Bool} {c : Ob nm α × Unit → A} (ok : ObOk X.K nm) (C : CalM X.prog X.w X.K X.mg X.base j nm m c g kr) (hr : Room k X.A) (tk : Takes X W) {mo : Res (Ob nm α)} (ho : XK X W ss o mo fr) (hj : j ≤ k := by decide)
    (ht : eval (.Call (.Attribute o m apos) [] [] pos) X.env = (do
      let ov ← eval o X.env
      standAt apos.atName
      let (f, first) ← holding [ov] (getMethod ov m pl)
      callWith pos f first (backTo pos (starEach [] X.env)) (backToKw pos (keywordEach [] X.env))) := by rfl) :
    XK X W ss (.Call (.Attribute o m apos) [] [] pos) (mo.bind fun o => g (c (o, ()))) kr := by
  obtain ⟨f, fd, ps, dvs, ds, F, hm, hn, hb, hd, hc⟩ := C.ex
  refine PE_imp (pe_meth0SD (E := fun σ cls d H => W cls d σ H) ho ok.cl hm F (hr.mono hj) hb hd (fun σ => passAt tk σ) ht) fun σ H Q ⟨F0, sf, sl, q⟩ => ⟨F0, sf, sl, wpR_imp (wpR_bind q) (Same.refl H) fun ob q v H1 F1 G1 s1 ex1 pr1 ⟨v', e1, p, dx, l, e2, hp, r⟩ => ?_⟩
  cases e1
  subst e2
  refine ⟨p, dx, l, rfl, ex1.sub _ _ hp, EncF.no r m hn, ?_⟩
  refine ⟨c (ob, ()), F1, hc F1 [.ref p] (ob, ()) ⟨.ref p, [], rfl, ⟨p, dx, l, rfl, hp, r⟩, rfl⟩, ex1.sub, ?_⟩
  cases eg : g (c (ob, ())) with
  | ok r =>
    rw [eg] at q
    exact fun v H' F' G' s3 ex pr k => q v H' F' G' (s1.trans s3) (ex1.trans s1 ex) (fun b u z => ⟨(pr b u z).1, Same.free s1 (pr b u z).2.1, (pr b u z).2.2⟩) k
  | exc x => rw [eg] at q; exact fun cls d H' h1 h2 h3 => q cls d H' h1 (s1.trans h2) h3
  | stuck => rw [eg] at q; exact q
end
section
variable {X : Cx} {CX : CXT} {k : Nat} {f C : Addr} {fd : FuncData} {ps : List Str} {sp : Sp} {E : L2.St → L2.XK} {x : Str} {p pos : Pos} {e : Expr} {es : List Expr} {t : TA}
def tMakeSD (C : Addr) (sp : Sp) (E : L2.St → L2.XK) (t : TA) : TE := fun σ H Q => t σ H fun vs H1 => ∀ x dx, H1 x = none → H1 dx = none → dx ≠ x →
  sp (.ref x :: vs) (upd (upd H1 dx (.own x)) x (.ins C dx [])) (fun v H2 => v = .non ∧ Q (.ref x) H2) (E σ)
theorem run_makeSD {pins : List (Addr × Obj)} {σ : L2.St} {H : Hp} {s : Shared} {Q : VK} {us : List Value} {vs : List V} (M : Mk X.K C f) (F : FnOk X.prog X.w X.K X.mg X.base CX k f fd ps sp) (hr : Room (k + 1) X.A) (hb : Binds X.K fd ps [])
    (hx : ∀ σ, PassesAt CX X σ (E σ)) (I : L2.Inv X pins σ H s) (r : Vals vs us)
    (h : ∀ x dx, H x = none → H dx = none → dx ≠ x → sp (.ref x :: vs) (upd (upd H dx (.own x)) x (.ins C dx [])) (fun v H2 => v = .non ∧ Q (.ref x) H2) (E σ)) :
    wpAny (model X.prog X.w) X.A (call (.ref C) us) (EP X pins σ Q) X.xe s := by
  have hq := h (s.heap.objs.size + 1) s.heap.objs.size (I.hok.fresh (Nat.le_succ _)) (I.hok.fresh (Nat.le_refl _)) (Nat.ne_of_lt (Nat.lt_succ_self _))
  have I2 := L2.Inv.made (C := C) I
  have hl : ((Value.ref (s.heap.objs.size + 1) :: us) ++ []).length = ps.length := by
    rw [List.append_nil]
    have e := F.len _ _ _ _ hq
    rw [List.length_cons, r.length] at e
    exact e
  have bd := hb _ (Value.ref (s.heap.objs.size + 1) :: us) I2.kIn hl
  rw [List.append_nil] at bd
  have r2 : Vals (V.ref (s.heap.objs.size + 1) :: vs) (Value.ref (s.heap.objs.size + 1) :: us) := .cons rfl r
  refine wpAny_call (make_map (f := f) I.kIn M.makes M.init (beq_iff_eq.mp M.fn) (codeAny_mono (F.run _ X.stack _ _ ⟨Value.ref (s.heap.objs.size + 1) :: us, []⟩ (Value.ref (s.heap.objs.size + 1) :: us) _ _ (E σ) (hr.make C us [])
    (I2.env0.make C us []) bd r2 hq) fun r s' hq' => ?_))
  match r, hq' with
  | .error e, hq' => exact hx σ pins _ _ e s' I2 hq'
  | .ok (.ret u), hq' =>
    obtain ⟨v, H', I3, rv, ev, q3⟩ := I2.after hq'
    subst ev
    exact ⟨rv, ⟨V.ref (s.heap.objs.size + 1), H', I3, rfl, q3⟩⟩
  | .ok .next, hq' => exact False.elim hq'
  | .ok .brk, hq' => exact False.elim hq'
  | .ok .cont, hq' => exact False.elim hq'
theorem pe_makeSD (M : Mk X.K C f) (F : FnOk X.prog X.w X.K X.mg X.base CX k f fd ps sp) (hr : Room (k + 1) X.A) (hg : Gl X x) (hm : X.mg x = some (.ref C)) (hb : Binds X.K fd ps []) (hx : ∀ σ, PassesAt CX X σ (E σ))
    (ha : PA X (e :: es) t) (hdb : (x == ("__debug__" : Str)) = false := by decide) (he : starEach (e :: es) X.env = (false, eval e X.env) :: starEach es X.env := by rfl) (hpl : (backTo pos (starEach es X.env)).any (·.1) = false := by rfl) :
    PE X (.Call (.Name x p) (e :: es) [] pos) (tMakeSD C sp E t) :=
  ⟨fun pins s σ H Q I h => wpAny_Call_Name_kw (ld_glob I hg hm (PySem.W.callWith_K (h₀ := X.base) I.ok.mod.kin M.kp (thn (ha.run pos pins s σ H _ I h) fun us s1 ⟨vs, H1, I1, r, q⟩ => ⟨I1.kIn, run_makeSD M F hr hb hx I1 r q⟩) he hpl) hdb)⟩
end
def nob (C : Addr) (p : Addr) (ns : List Str) {α : Type} [EncF α] (a : α) : Slot :=
  ⟨fun K F G o => o = some (.ref p) ∧ ∃ dx l, G p = some (.ins C dx l) ∧ EncF.rep ns K F l a, fun s t ⟨e, dx, l, h, r⟩ => ⟨e, dx, l, t _ _ h, EncF.mono s r⟩⟩
def iniK (C : Addr) (p : Addr) (ns : List Str) {α : Type} [EncF α] (a : α) : Slot :=
  ⟨fun K F G o => o = some .non ∧ ∃ dx l, G p = some (.ins C dx l) ∧ EncF.rep ns K F l a, fun s t ⟨e, dx, l, h, r⟩ => ⟨e, dx, l, t _ _ h, EncF.mono s r⟩⟩
section
variable {X : Cx} {W : WX} {ss : List Slot} {pos : Pos} {e : Expr}
theorem s1_setF (i : Nat) {C p : Addr} {ns : List Str} {α β : Type} [EncF α] [Enc β] {a : α} {m : Res β} {x f : Str} {xp apos : Pos} (hs : ss[i]? = some (nob C p ns a)) (h : XK X W ss e m fr) (cl : Cls X.K C) (na : NoAttr X.K C f) (hz : ns.length ≤ 100)
    (hp : PE X (.Name x xp) (tVar i) := by exact pv _) (hsw : swapsWith e (some (.Attribute (.Name x xp) f apos)) pos.line X.env = pure false := by rfl) :
    S1 X W ss (.Assign [.Attribute (.Name x xp) f apos] e pos) m (fun b => ss.set i (nob C p (f :: ns) (a, b))) := by
  refine PS_imp (ps_fld hp h hsw) fun D σ H ⟨B, F0, F, Gs, A, q⟩ => ⟨F, A.ext.sub, A.sl, wpS_R q A.base fun b q v H' F' G' s ex pr k => ?_⟩
  obtain ⟨v', e1, rv⟩ := k
  cases e1
  have A' := A.grow s ex
  obtain ⟨G, o, hG, hσ, e2, dx, l, hl, r⟩ := A'.all.get hs
  subst e2
  have hH := A'.sub G (List.mem_of_getElem? hG) _ _ hl
  have hlen := EncF.len r
  refine ⟨.ref p, hσ, p, C, dx, l, rfl, hH, cl, na, by omega, ?_⟩
  exact q _ _ _ _ (A'.putG hG hσ hl rfl ⟨rfl, dx, putF f v l, upd_same, f, ns, l, v, rfl, rfl, r, rv⟩)
theorem st_ini (i : Nat) {C p : Addr} {ns : List Str} {α : Type} [EncF α] {a : α} (hs : ss[i]? = some (nob C p ns a)) : ST X W true ss [] (.ok a) (iniK C p ns (α := α)) :=
  PSs_imp pss_nil fun D σ H ⟨B, F0, F, Gs, A, hD, q⟩ => by
    obtain ⟨G, o, hG, hσ, e2, dx, l, hl, r⟩ := A.all.get hs
    exact hD rfl σ H (q .non H F G A.base A.ext (A.priv G (List.mem_of_getElem? hG)) ⟨rfl, dx, l, hl, r⟩)
end
def spI (K : Frag) (mg : Str → Option Value) (C : Addr) (ns : List Str) {A β : Type} [EncA A] [EncF β] (g : A → Res β) : Sp := fun vs H Q E => ∃ (a : A) (p dx : Addr) (us : List V) (B F : Hp), vs = .ref p :: us ∧ EncA.rep K F us a ∧ Same F B ∧ Same B H ∧
  H p = some (.ins C dx []) ∧ B p = none ∧
  match g a with
  | .ok b => ∀ H' F' dx' l, Same B H' → Ext F B F' H' → H' p = some (.ins C dx' l) → F' p = none → EncF.rep ns K F' l b → Q .non H'
  | .exc x => ∀ cls d H', mg x.cls = some cls → Same B H' → payRep x.pay d H' → E cls d H'
  | .stuck => False
section
variable {P : Program} {w : World} {K : Frag} {mg : Str → Option Value} {base : Heap}
theorem fn_okI {x qual : Str} {st : Stmt} {f : Addr} {fd : FuncData} {N ps : List Str} {k : Nat} {C : Addr} {ns : List Str} {A β : Type} [EncP A] [EncF β] {g : A → Res β} (F : Fun K x qual st f fd) (S : FnScope N ps (defScope st)) (hl : EncP.len A + 1 = ps.length)
    (hbody : ∀ (p : Addr) (a : A) (cdv : Value) (A' : Around) (outer : List Env) (s : Shared) (H : Hp) (E : L2.XK), Room k (A'.deeper (envOfC qual (defScope st) s.heap.objs.size f cdv)) →
      ST (cxOf (L2.CX P w) P w K mg base N qual (defScope st) f cdv A' outer s H E) (wE E) true (nob C p [] () :: (EncP.slots a ++ List.replicate (N.length - ps.length) any)) (defBody st) (g a) (iniK C p ns (α := β))) :
    FnOk P w K mg base (L2.CX P w) (k + 1) f fd ps (spI K mg C ns g) := by
  refine F.okX S (fun vs H Q E ⟨a, p, dx, us, B, F0, e, r, _⟩ => by rw [e, List.length_cons, (EncP.start r).1]; exact hl) fun cdv A' outer s H vs Q E hr ⟨a, p, dx, us, B, F0, e, r, sB, sH, hp, bp, q⟩ => ?_
  subst e
  obtain ⟨lu, z⟩ := EncP.start r
  have lp : ps.length = us.length + 1 := by rw [← hl, lu]
  have hF : F0 p = none := Same.free sB bp
  refine ⟨_, hbody p a cdv A' outer s H E hr, B, F0, F0, upd noHp p (.ins C dx []) :: (List.replicate (EncP.len A) noHp ++ List.replicate (N.length - ps.length) noHp), ⟨⟨Same.refl _, sB.trans sH, fun _ _ h => .inl h⟩, sH, ?_, ?_, ?_⟩, fun _ _ _ h => h, ?_⟩
  · have e : L2.start N (.ref p :: us) = some (.ref p) :: (us.map some ++ List.replicate (N.length - ps.length) none) := by
      unfold L2.start
      rw [List.map_cons, List.length_cons, lp]; rfl
    rw [e]
    exact ⟨⟨rfl, dx, [], upd_same, rfl, rfl⟩, z.append (all3_any _)⟩
  · intro G m b u hz
    rcases List.mem_cons.mp m with rfl | m
    · by_cases e : b = p
      · subst e
        rw [upd_same] at hz; cases hz
        exact ⟨hp, bp, hF, rfl⟩
      · rw [upd_ne e] at hz; cases hz
    · rw [List.replicate_append_replicate] at m
      rw [(List.mem_replicate.mp m).2] at hz
      cases hz
  · rw [List.replicate_append_replicate]
    refine List.pairwise_cons.mpr ⟨fun G m b => .inr ?_, pw_no _⟩
    rw [(List.mem_replicate.mp m).2]; rfl
  · show wpS _ _ (g a) B _
    cases e : g a with
    | ok b =>
      rw [e] at q
      intro v H' F' G' s1 ex pr ⟨ev, dx', l, hG, rl⟩
      cases ev
      obtain ⟨h1, h2, h3, h4⟩ := pr p _ hG
      exact q H' F' dx' l s1 ex h1 h3 rl
    | exc x => rw [e] at q; exact fun σ cls d H' h1 h2 h3 => q cls d H' h1 h2 h3
    | stuck => rw [e] at q; exact q
end
structure CalI (P : Program) (w : World) (K : Frag) (mg : Str → Option Value) (base : Heap) (k : Nat) (nm : String) [ObN nm] [ObC nm] {A β : Type} [EncA A] [EncF β] (g : A → Res β) : Prop where
  ex : ∃ f fd ps, FnOk P w K mg base (L2.CX P w) k f fd ps (spI K mg (ObC.C nm) (ObN.fs nm) g) ∧ Mk K (ObC.C nm) f ∧ Binds K fd ps []
  gl : mg (PySem.Str.ofString nm) = some (.ref (ObC.C nm))
structure IsIni (K : Frag) (nm : String) [ObC nm] (qual : Str) (st : Stmt) : Prop where
  ex : ∃ f fd, Fun K "__init__" qual st f fd ∧ Mk K (ObC.C nm) f
section
variable {X : Cx} {W : WX} {ss : List Slot} {k j : Nat} {nm : String} [ObN nm] [ObC nm] {A β : Type} [EncA A] [EncF β] {g : A → Res β} {p pos : Pos} {e : Expr} {es : List Expr}
theorem xk_make (C : CalI X.prog X.w X.K X.mg X.base j nm g) (hr : Room k X.A) (tk : Takes X W) {ma : Res A} (ha : XAK X W ss (e :: es) ma) (hj : j + 1 ≤ k := by decide) (hg : Gl X (PySem.Str.ofString nm) := by rfl) (hdb : (PySem.Str.ofString nm == ("__debug__" : Str)) = false := by decide +kernel)
    (he : starEach (e :: es) X.env = (false, eval e X.env) :: starEach es X.env := by rfl) (hpl : (backTo pos (starEach es X.env)).any (·.1) = false := by rfl) :
    XK X W ss (.Call (.Name (PySem.Str.ofString nm) p) (e :: es) [] pos) (ma.bind fun a => (g a).bind fun b => .ok (⟨b⟩ : Ob nm β)) fr := by
  obtain ⟨f, fd, ps, F, M, hb⟩ := C.ex
  refine PE_imp (pe_makeSD (E := fun σ cls d H => W cls d σ H) M F (hr.mono hj) hg C.gl hb (fun σ => passAt tk σ) ha hdb he hpl) fun σ H Q ⟨F0, sf, sl, q⟩ => ⟨F0, sf, sl, wpR_imp (wpR_bind q) (Same.refl H) fun a q vs H1 F1 s1 ex1 ra x dx nx ndx nex => ?_⟩
  have sx : Same H1 (upd (upd H1 dx (.own x)) x (.ins (ObC.C nm) dx [])) := fun b o e => by
    rw [upd_ne (ne_of_none e nx), upd_ne (ne_of_none e ndx)]
    exact e
  refine ⟨a, x, dx, vs, H1, F1, rfl, ra, ex1.sub, sx, upd_same, nx, ?_⟩
  cases eg : g a with
  | ok b =>
    rw [eg] at q
    intro H' F' dx' l sB ex hx' fx rl
    refine ⟨rfl, ?_⟩
    -- the object joins what nobody changes
    have sF : Same F' (upd F' x (.ins (ObC.C nm) dx' l)) := same_upd fx
    refine q (.ref x) H' (upd F' x (.ins (ObC.C nm) dx' l)) noHp (s1.trans sB) ⟨(ex1.le.trans ex.le).trans sF, fun b u z => ?_, fun b u z => ?_⟩ priv_no ⟨_, rfl, x, dx', l, rfl, upd_same, EncF.mono sF rl⟩
    · by_cases e : b = x
      · subst e; rw [upd_same] at z; cases z; exact hx'
      · rw [upd_ne e] at z; exact ex.sub _ _ z
    · by_cases e : b = x
      · subst e; exact .inr (.inl (Same.free s1 nx))
      · rw [upd_ne e] at z; exact (ex1.trans s1 ex).new _ _ z
  | exc y => rw [eg] at q; exact fun cls d H' h1 h2 h3 => q cls d H' h1 (s1.trans h2) h3
  | stuck => rw [eg] at q; exact q
end
end G

namespace L2
open PySem PySem.Spec PyProof.Rows
section
variable {P : Program} {w : World} {A : Around} {E : Value → Shared → Prop} {s : Shared}
abbrev noneSet (w : World) : Obj := { cls := .type "set", dict := none, data := .set #[] 0 (.fresh 0 0 (!w.params.followText "set-order")) }
theorem call_setL {l : Addr} {items : Array Value} (ns : List Int) {Q : Value → Shared → Prop} (hh : A.handled = none) (hl : s.heap.IsList l items) (hit : IntsAre items.toList ns) (hb : ns.length + 1 < scanBound)
    (h : ∀ (h' : Heap) (tk c : Nat), SetR w h' s.heap.objs.size (fun j => decide (j ∈ ns)) c → c ≤ ns.length → (∀ b o, s.heap.get? b = some o → h'.get? b = some o) → Q (.ref s.heap.objs.size) { s with heap := h', toks := tk }) :
    wpAny (model P w) A (call (.type "set") [.ref l]) Q E s := by
  obtain ⟨c, tl, hmro⟩ := F.called_set.mro
  have hmade := F.called_set.made
  have hsub := F.called_set.sub
  have h1 := F.called_set.notType
  have h2 := F.called_set.canCreate
  have hct := F.typeCall_set_1 (.ref l)
  refine wpAny_call (codeAny_of_tree ?_)
  show wpAny _ _ (callAny (.type "set") _) _ _ _
  refine wpAny_pure ⟨Code.quiet_builtin _ (by decide +kernel), codeAny_builtin F.entry_type_call ?_⟩
  rw [Around.under_plain (weight_type_call_type "set" [.ref l] []) rfl]
  repeat (any_goals (first | assumption | wp_step))
  refine codeAny_mono (code_set_led1 (.ref l) (E := E) (Q₁ := fun v t => v = .ref s.heap.objs.size ∧ t = { s with heap := s.heap.push (noneSet w) }) ⟨rfl, rfl⟩) fun r t hr => ?_
  match r, hr with
  | .error e, hr => exact hr
  | .ok (.ret v), hr =>
    obtain ⟨rfl, rfl⟩ := hr
    have hS : (s.heap.push (noneSet w)).get? s.heap.objs.size = some (noneSet w) := Heap.get?_push_size _ rfl
    have hT : Shared.TypeIs { s with heap := s.heap.push (noneSet w) } (.ref s.heap.objs.size) "set" := ⟨_, hS, rfl⟩
    have hli := F.called_set.init.lookup
    have hbi := F.called_set.init.bind (.ref s.heap.objs.size)
    repeat (any_goals (first | assumption | wp_step))
    refine codeAny_mono (codeAny_call_builtin (R := wants (fun r t2 => r = .none ∧ ∃ h' tk c, t2 = { s with heap := h', toks := tk } ∧ SetR w h' s.heap.objs.size (fun j => decide (j ∈ ns)) c ∧ c ≤ ns.length ∧ (∀ b o, s.heap.get? b = some o → h'.get? b = some o)) E)
      F.called_set.init.plain F.entry_set_init (check_set_init_1 hT ?_)) fun r2 t2 hr2 => ?_
    · have hsz : items.size = ns.length := by
        have q := IntsAre.length hit
        rwa [Array.length_toList] at q
      obtain ⟨⟨c0, d0, t0, sl0⟩, ho, e1, n0, e2⟩ := id hl
      simp only at e1 e2
      subst e1; subst e2
      have ho1 : (s.heap.push (noneSet w)).get? l = some { cls := Value.type "list", dict := d0, data := Data.seq items n0, slots := sl0 } := Heap.get?_push_of_some _ ho
      have kl : (s.heap.push (noneSet w)).IsList l items := ⟨_, ho1, rfl, n0, rfl⟩
      have ls := F.sub_list_set
      have lf := F.sub_list_frozenset
      have ld : (Value.type "list" == Value.type "dict") = false := by decide
      unfold Builtin.«set.__init__» noKeywords Builtin.Frozenset.updateFrom
      generalize hPI : pyIter = PI
      wp_walk
      subst hPI
      refine wpAny_pyIter_list kl ?_
      refine wpAny_bind (wpAny_runValue ?_)
      have hlt : l < s.heap.objs.size := Heap.lt_size ho
      have sz1 : (s.heap.push (noneSet w)).objs.size = s.heap.objs.size + 1 := Heap.size_push ..
      have hne : l ≠ (s.heap.push (noneSet w)).objs.size := by rw [sz1]; exact Nat.ne_of_lt (Nat.lt_succ_of_lt hlt)
      have nS : s.heap.objs.size ∉ [(s.heap.push (noneSet w)).objs.size, l] := by
        simp only [List.mem_cons, List.not_mem_nil, or_false, not_or, sz1]
        exact ⟨Nat.ne_of_lt (Nat.lt_succ_self _), Nat.ne_of_gt hlt⟩
      have hval : ∀ (i : Nat) (v : Value), items[i]? = some v → ∃ k t, ns[i]? = some k ∧ v = .int k t := fun i v hv => by
        have hi : i < ns.length := by rw [← hsz]; exact (Array.getElem?_eq_some_iff.mp hv).1
        obtain ⟨t, e⟩ := IntsAre.int_at hit i v (by rw [Array.getElem?_toList]; exact hv)
        exact ⟨ns[i], t, List.getElem?_eq_getElem hi, by rw [e, List.getD_eq_getElem?_getD, List.getElem?_eq_getElem hi] <;> rfl⟩
      refine set_update_ints ((Walks.list (by exact hh) _ l hne items).toS) s.heap.objs.size nS ns hsz hb hval (items.size - 0) 0 _ (by omega) (Nat.zero_le _)
        ⟨⟨_, Heap.get?_push_size _ rfl, rfl, rfl⟩, kl.push _⟩ ⟨0, Nat.le_refl 0, setR_new_at (Heap.get?_push_of_some _ hS)⟩ fun s' c hm hc hS' => ?_
      obtain ⟨h', g2, d', tk', os'⟩ := s'
      have eg : g2 = s.gens := hm.gens
      have ed : d' = s.drawn := hm.drawn
      have eo : os' = s.os := hm.os
      subst eg; subst ed; subst eo
      show wpAny _ _ _ _ _ _
      refine wpAny_pure ?_
      show wpAny _ _ (ret Value.none) _ _ _
      refine wpAny_pure ⟨rfl, h', tk', c, rfl, hS', by omega, fun b o e => ?_⟩
      have lb := Heap.lt_size e
      exact hm.heap b o (by simp only [List.mem_cons, List.not_mem_nil, or_false, not_or, sz1]; exact ⟨Nat.ne_of_lt lb, Nat.ne_of_lt (Nat.lt_succ_of_lt lb)⟩) (Heap.get?_push_of_some _ (Heap.get?_push_of_some _ e))
    · match r2, hr2 with
      | .error e, hr2 => exact hr2
      | .ok (.ret v), hr2 =>
        obtain ⟨rfl, h', tk, c', rfl, q1, q2, q3⟩ := hr2
        repeat (any_goals (first | assumption | wp_step))
        exact h _ _ _ q1 q2 q3
      | .ok .next, hr2 => exact hr2.elim
      | .ok .brk, hr2 => exact hr2.elim
      | .ok .cont, hr2 => exact hr2.elim
  | .ok .next, hr => exact hr.elim
  | .ok .brk, hr => exact hr.elim
  | .ok .cont, hr => exact hr.elim
end
end L2

namespace L2
open PySem PySem.Spec PyProof.Rows
def rSetOfL (K : PySem.W.Frag) (w : World) : List V → Hp → VK → Prop := fun xs H Q => ∃ (l : Addr) (ns : List Int), xs = [V.ref l] ∧ SqL K H l (ns.map V.int) ∧ ns.length < 60 ∧
  ∀ (p : Addr) (n : Nat), H p = none → n ≤ ns.length → Q (.ref p) (upd H p (SetO w p (fun j => decide (j ∈ ns)) n))
theorem cr_setL {X : Cx} (hc : X.calm = true) : CallR X (.type "set") (rSetOfL X.K X.w) := by
  intro pins s σ H xs us Q I r h
  obtain ⟨l, ns, rfl, hl, hz, q⟩ := h
  rw [Vals.ref1 r]
  obtain ⟨its, r1, pl, _⟩ := I.list hl
  refine call_setL ns (I.ok.hd hc) pl.isList (by simpa using ints_of_vals r1) (by unfold scanBound; omega) fun h' tk c hS hn k => ?_
  exact ⟨.ref s.heap.objs.size, _, I.laid (t' := tk) (o := SetO X.w s.heap.objs.size (fun j => decide (j ∈ ns)) c) k (Nat.le_refl _) (setO_new hS), rfl, q _ c (I.hok.fresh (Nat.le_refl _)) hn⟩
end L2
namespace G
open PySem PySem.Spec PyProof.Rows L2
def onceI : List Int → List Int
  | [] => []
  | x :: xs => if x ∈ onceI xs then onceI xs else x :: onceI xs
theorem mem_onceI {x : Int} : ∀ {xs : List Int}, x ∈ onceI xs ↔ x ∈ xs
  | [] => Iff.rfl
  | y :: xs => by
    have ih := mem_onceI (x := x) (xs := xs)
    unfold onceI
    split
    · rename_i h
      rw [List.mem_cons, ih]
      refine ⟨.inr, fun z => z.elim (fun e => ?_) id⟩
      rw [e]
      exact mem_onceI.mp h
    · rw [List.mem_cons, List.mem_cons, ih]
theorem onceI_nodup : ∀ xs : List Int, (onceI xs).Nodup
  | [] => List.nodup_nil
  | y :: xs => by
    unfold onceI
    split
    · exact onceI_nodup xs
    · rename_i h
      exact List.nodup_cons.mpr ⟨h, onceI_nodup xs⟩
def setI' (xs : List Int) : List Int := sortI (onceI xs)
section
variable {X : Cx} {W : WX} {ss : List Slot} {a : Expr} {pos q : Pos}
theorem xk_sortedSet {m : Res (List Int × Unit)} {p p2 : Pos} (ha : XA X W ss [a] m) (hm : X.mg "sorted" = none) (hm2 : X.mg "set" = none) (hc : X.calm = true := by rfl) (hg : Gl X "sorted" := by rfl) (hg2 : Gl X "set" := by rfl) (he : starEach [a] X.env = (false, eval a X.env) :: starEach [] X.env := by rfl)
    (he2 : starEach [.Call (.Name "set" p2) [a] [] q] X.env = (false, eval (.Call (.Name "set" p2) [a] [] q) X.env) :: starEach [] X.env := by rfl) :
    XK X W ss (.Call (.Name "sorted" p) [.Call (.Name "set" p2) [a] [] q] [] pos) (m.bind fun x => guardR (decide (x.1.length < 60)) (.ok (setI' x.1))) ow :=
  PE_imp (pe_callB (cr_sortedSet hc) hg hm (by decide +kernel) (pa_cons (pe_callTy (cr_setL hc) hg2 hm2 (by decide +kernel) ha (by decide) (by decide) he rfl) pa_nil he2) (by decide) (by decide) he2 rfl) fun σ H Q ⟨F, sf, sl, q⟩ => ⟨sl.mono sf (Same.refl H), wpR_imp (wpR_bind q) (Same.refl H) fun x q vs H1 s1 ⟨v, r, e1, ⟨p, ws, e2, hp, rv⟩, e3⟩ => by
    have e3 : r = [] := e3
    subst e1; subst e2; subst e3
    have ew : ws = x.1.map V.int := All2.map_eq rv
    obtain ⟨g, q⟩ := wpR_guard q
    have g := of_decide_eq_true g
    refine ⟨p, x.1, rfl, by rw [← ew]; exact SqL.of hp, g, fun o n no hn => ?_⟩
    refine ⟨o, fun j => decide (j ∈ x.1), n, rfl, upd_same, by omega, fun ns p2 h1 h2 h3 hp2 => ?_⟩
    have e : ns = setI' x.1 := sortI_uniq ((List.perm_ext_iff_of_nodup (h1.imp fun z => Int.ne_of_lt z) (onceI_nodup _)).mpr fun k => by rw [h2, decide_eq_true_iff, mem_onceI]) (h1.imp fun z => Int.le_of_lt z)
    rw [e]
    exact new_owI sf (s1.trans (same_upd no)) hp2 All2.of_map q⟩
end
end G

namespace G
open PySem PySem.Spec PyProof.Rows L2
section
variable {P : Program} {w : World} {K : Frag} {mg : Str → Option Value} {base : Heap}
theorem cal_mkI {nm : String} [ObN nm] [ObC nm] {qual : Str} {st : Stmt} {N ps : List Str} {k : Nat} {A β : Type} [EncP A] [EncF β] {g : A → Res β} (D : IsIni K nm qual st) (gl : mg (PySem.Str.ofString nm) = some (.ref (ObC.C nm))) (S : FnScope N ps (defScope st)) (hl : EncP.len A + 1 = ps.length)
    (hb : ∀ (kV doc pm : Value) (an : Option Addr) (cdv ct : Value) (us : List Value), us.length = ps.length → bindArgs (PySem.W.fnOf "__init__" qual (defArgs st) (defBody st) (defScope st) .none kV doc pm an cdv ct) ⟨us, []⟩ = pure (ps.zip us))
    (hbody : ∀ (p : Addr) (a : A) (f : Addr) (cdv : Value) (A' : Around) (outer : List Env) (s : Shared) (H : Hp) (E : L2.XK), Room k (A'.deeper (envOfC qual (defScope st) s.heap.objs.size f cdv)) →
      ST (cxOf (L2.CX P w) P w K mg base N qual (defScope st) f cdv A' outer s H E) (wE E) true (nob (ObC.C nm) p [] () :: (EncP.slots a ++ List.replicate (N.length - ps.length) any)) (defBody st) (g a) (iniK (ObC.C nm) p (ObN.fs nm) (α := β))) :
    CalI P w K mg base (k + 1) nm g := by
  obtain ⟨f, fd, F, M⟩ := D.ex
  exact ⟨⟨f, fd, ps, fn_okI F S hl fun p a cdv A' outer s H E hr => hbody p a f cdv A' outer s H E hr, M, F.binds hb⟩, gl⟩
end
end G

namespace G
open PySem PySem.Spec PyProof.Rows L2
structure T6 (α β γ δ ε ζ : Type) where
  a : α
  b : β
  c : γ
  d : δ
  e : ε
  f : ζ
instance {α β γ δ ε ζ : Type} [Enc α] [Enc β] [Enc γ] [Enc δ] [Enc ε] [Enc ζ] : Enc (T6 α β γ δ ε ζ) :=
  ⟨fun K H v x => ∃ p v1 v2 v3 v4 v5 v6, v = .ref p ∧ H p = some (.tup [v1, v2, v3, v4, v5, v6]) ∧ Enc.rep K H v1 x.a ∧ Enc.rep K H v2 x.b ∧ Enc.rep K H v3 x.c ∧ Enc.rep K H v4 x.d ∧ Enc.rep K H v5 x.e ∧ Enc.rep K H v6 x.f,
   fun s ⟨p, v1, v2, v3, v4, v5, v6, e, h, r1, r2, r3, r4, r5, r6⟩ => ⟨p, v1, v2, v3, v4, v5, v6, e, s _ _ h, Enc.mono s r1, Enc.mono s r2, Enc.mono s r3, Enc.mono s r4, Enc.mono s r5, Enc.mono s r6⟩⟩
instance {α β γ δ ε ζ : Type} [Enc α] [Enc β] [Enc γ] [Enc δ] [Enc ε] [Enc ζ] [Imm α] [Imm β] [Imm γ] [Imm δ] [Imm ε] [Imm ζ] : Imm (T6 α β γ δ ε ζ) :=
  ⟨fun ⟨p, v1, v2, v3, v4, v5, v6, e, h, r1, r2, r3, r4, r5, r6⟩ => ⟨p, v1, v2, v3, v4, v5, v6, e, tups_some h rfl, Imm.imm r1, Imm.imm r2, Imm.imm r3, Imm.imm r4, Imm.imm r5, Imm.imm r6⟩⟩
instance {α β γ δ ε ζ : Type} [Inhabited α] [Inhabited β] [Inhabited γ] [Inhabited δ] [Inhabited ε] [Inhabited ζ] : Inhabited (T6 α β γ δ ε ζ) := ⟨⟨default, default, default, default, default, default⟩⟩
section
variable {X : Cx} {W : WX} {ss : List Slot} {pos : Pos} {kk : Nat} {e1 e2 e3 e4 e5 e6 a : Expr}
end
end G

namespace G
open PySem PySem.Spec PyProof.Rows L2
def inO (a : Option Int) (xs : List Int) : Bool := match a with
  | none => false
  | some i => decide (i ∈ xs)
section
variable {X : Cx}
end
end G

namespace G
open PySem PySem.Spec PyProof.Rows L2
section
variable {X : Cx} {W : WX} {ss : List Slot} {e : Expr}
end
end G

namespace G
open PySem PySem.Spec PyProof.Rows L2 L2H
structure FnQ (P : Program) (w : World) (K : PySem.W.Frag) (mg : Str → Option Value) (base : Heap) (CX : CXT) (k : Nat) (f : Addr) (fd : FuncData) (ps : List Str) (sp : Sp) : Prop where
  len : ∀ vs H Q E, sp vs H Q E → vs.length = ps.length
  run : ∀ (A : Around) (outer : List Env) (s : Shared) (H : Hp) (args : Args) (us : List Value) (vs : List V) (Q : VK) (E : L2.XK), RoomH k A → Env0 P w K mg base A outer s H → BindsTo s fd args (ps.zip us) → Vals vs us → sp vs H Q E →
    codeAny (model P w) A (.call (.ref f) args) (CR CX outer P w H s Q E) s
def cxQ (CX : CXT) (P : Program) (w : World) (K : PySem.W.Frag) (mg : Str → Option Value) (base : Heap) (N : List Str) (qual : Str) (scope : Scope) (f : Addr) (cd : Value) (A : Around) (outer : List Env) (s : Shared) (H : Hp) (E : L2.XK) : Cx :=
  { cxOf CX P w K mg base N qual scope f cd A outer s H E with calm := false }
theorem inv_startQ {CX : CXT} {P : Program} {w : World} {K : PySem.W.Frag} {mg : Str → Option Value} {base : Heap} {N ps : List Str} {qual : Str} {scope : Scope} {f : Addr} {cd : Value} {A : Around} {outer : List Env} {s s1 : Shared} {H : Hp} {E : L2.XK} {us : List Value} {vs : List V}
    (S : FnScope N ps scope) (e0 : Env0 P w K mg base A outer s H) (hl : vs.length = ps.length) (r : Vals vs us)
    (x : InCallC s s.heap.objs.size (bindL (envOfC qual scope s.heap.objs.size f cd).kindOf (ps.zip us) fun _ => none) (cellsFrom (s.heap.objs.size + 1) scope.names []) (bindC (envOfC qual scope s.heap.objs.size f cd).kindOf (ps.zip us) fun _ => none) s1) :
    Inv (cxQ CX P w K mg base N qual scope f cd A outer s H E) [] (L2.start N vs) H s1 := by
  have hpl : ps.length ≤ N.length := by have := congrArg List.length S.pre; rw [List.length_take] at this; omega
  obtain ⟨h1, tk, rfl, hk⟩ := x.done
  have noA : ∀ b : Addr, b ∉ (cxQ CX P w K mg base N qual scope f cd A outer s H E).ex := fun b z => absurd (show b ∈ ([] : List Addr) from z) (by simp)
  refine ⟨⟨e0.mod, S.kind, rfl, rfl, Nat.le_refl _, fun y z c h1 h2 => ?_, fun y hy => ?_, fun y c _ h => ?_, (fun z => Bool.noConfusion (show false = true from z)), Around.frames_deeper e0.frames, .inr ⟨rfl, rfl⟩, fun b z => absurd z (noA b), e0.bs, e0.bsz, fun b _ _ => noA b, fun b z => absurd z (noA b), e0.funs, e0.frf⟩,
    rfl, e0.bare, Un.kept hk, ⟨_, x.toInCall.ns, fun i y v h1 h2 h3 => ?_⟩, fun y c h => ⟨_, x.cell y c h⟩, e0.hok.fresh (Nat.le_refl _), fun y c h => ?_, fun q hq => ?_, e0.hok.kept hk, ?_⟩
  · exact name_of_addr x.apart (PySem.mem_of_lookup h1) (PySem.mem_of_lookup h2)
  · have hy : scope.names.lookup y = some .cell ∨ scope.names.lookup y = some .free := hy
    rcases hy with hy | hy
    · exact cell_has hy
    · exact absurd rfl (S.nofree _ (PySem.mem_of_lookup hy))
  · exact Nat.le_of_lt (x.above y c (PySem.mem_of_lookup h))
  · have hi : i < vs.length := by
      unfold L2.start at h2
      by_cases hi : i < vs.length
      · exact hi
      · rw [List.getElem?_append_right (by simpa using hi)] at h2
        rw [List.getElem?_replicate] at h2
        split at h2 <;> cases h2
    have ha : vs[i]? = some v := by
      unfold L2.start at h2
      rw [List.getElem?_append_left (by simpa using hi), List.getElem?_map] at h2
      cases e : vs[i]? with
      | none => rw [e] at h2; cases h2
      | some a => rw [e] at h2; cases h2; rfl
    obtain ⟨u, hu, rv⟩ := r.get ha
    have hp : ps[i]? = some y := by
      rw [← S.pre, List.getElem?_take_of_lt (by omega)]; exact h1
    have ndP : ps.Nodup := by rw [← S.pre]; exact S.nd.sublist (List.take_sublist _ _)
    refine ⟨u, rv, ?_⟩
    rcases S.par y (List.mem_of_getElem? hp) with k | k
    · exact .inl ⟨k, bindL_get ndP hp hu k⟩
    · obtain ⟨c, e⟩ := cell_has (n := s.heap.objs.size + 1) k
      refine .inr ⟨.inl k, c, e, ?_⟩
      have q := x.cell y c e
      rw [bindC_get ndP hp hu (by show scope.names.lookup y ≠ _; rw [k]; decide)] at q
      exact q
  · exact e0.hok.fresh (Nat.le_of_lt (x.above y c (PySem.mem_of_lookup h)))
  · exact absurd (show q ∈ ([] ++ [] : List (Addr × Obj)) from hq) (by simp)
  · unfold L2.start
    show _ = N.length
    rw [List.length_append, List.length_map, List.length_replicate]
    omega
theorem fn_ofQ {CX : CXT} {P : Program} {w : World} {K : PySem.W.Frag} {mg : Str → Option Value} {base : Heap} {k : Nat} {x qual : Str} {st : Stmt} {f : Addr} {fd : FuncData} {N ps : List Str} {sp : Sp} (F : Fun K x qual st f fd) (S : FnScope N ps (defScope st))
    (len : ∀ vs H Q E, sp vs H Q E → vs.length = ps.length)
    (hbody : ∀ (cdv : Value) (A : Around) (outer : List Env) (s : Shared) (H : Hp) (vs : List V) (Q : VK) (E : L2.XK), RoomH k (A.deeper (envOfC qual (defScope st) s.heap.objs.size f cdv)) → sp vs H Q E →
      ∃ t, PSs (cxQ CX P w K mg base N qual (defScope st) f cdv A outer s H E) (defBody st) t ∧ t { nx := fun _ H' => Q .non H', rt := Q } (L2.start N vs) H) :
    FnQ P w K mg base CX (k + 1) f fd ps sp := by
  obtain ⟨oc, od, kV, doc, pm, an, cdv, ct, osl, rfl, lk, hcd⟩ := F.ex
  refine ⟨len, fun A outer s H args us vs Q E hr e0 hb r hsp => ?_⟩
  have hl := len _ _ _ _ hsp
  have KX : K.In s.heap := e0.mod.kin.keeps fun b o e => (e0.bs b o e).1
  have lim : s.heap.NoLimit := e0.mod.nolimit.keeps fun b o e => (e0.bs b o e).1
  have hkind : ∀ y ∈ ps.zip us, (defScope st).names.lookup y.1 = some .local ∨ ((defScope st).names.lookup y.1 = some .cell ∧ ((cellsFrom (s.heap.objs.size + 1) (defScope st).names []).lookup y.1).isSome = true) := fun ⟨n, v⟩ hy => by
    rcases S.par n (List.of_mem_zip hy).1 with q | q
    · exact .inl q
    · exact .inr ⟨q, PySem.W.cellsFrom_some _ _ _ (.inl q)⟩
  refine codeAny_call_function hr.depth (KX _ _ lk) rfl S.co S.gen rfl (PySem.W.codeRec_of KX hcd) (hb _ _ _ _ ?_)
  refine wpAny_newFunctionEnv_cells S.kind hkind fun env he s1 x => ?_
  subst he
  refine ⟨lim.keeps x.toInCall.keep, codeAny_func ?_⟩
  obtain ⟨t, ht, hq⟩ := hbody cdv A outer s H vs Q E (hr.deeper _) hsp
  have I : Inv (cxQ CX P w K mg base N qual (defScope st) f cdv A outer s H E) [] (L2.start N vs) H s1 := inv_startQ S e0 hl r x
  refine wpAny_mono (ht.run [] s1 (L2.start N vs) H _ I hq) (fun fl s' hs => ?_) fun e s' hs => hs
  have fin : ∀ {σ' : L2.St} {H' : Hp} {v : V} {u : Value}, Inv (cxQ CX P w K mg base N qual (defScope st) f cdv A outer s H E) [] σ' H' s' → RelV v u → Q v H' → CE outer P w H s Q u s' :=
    fun {σ' H' v u} J rv q => ⟨v, H', J.os, J.bare, J.base, J.hok, rv, q⟩
  cases fl with
  | ret u =>
    obtain ⟨v, σ', H', J, rv, q⟩ := hs
    exact fin J rv q
  | next =>
    obtain ⟨σ', H', J, q⟩ := hs
    exact fin (v := V.non) (u := Value.none) J rfl q
  | brk =>
    obtain ⟨_, _, _, q⟩ := hs
    exact False.elim q
  | cont =>
    obtain ⟨_, _, _, q⟩ := hs
    exact False.elim q
section
variable {X : Cx} {CX : CXT} {k : Nat} {f C : Addr} {fd : FuncData} {ps : List Str} {sp : Sp} {E : L2.St → L2.XK} {x m : Str} {q pos apos : Pos} {e o : Expr} {es : List Expr} {ta : TE} {t : TA}
theorem run_fnQ {pins : List (Addr × Obj)} {σ : L2.St} {H : Hp} {s : Shared} {Q : VK} {us : List Value} {vs : List V} (F : FnQ X.prog X.w X.K X.mg X.base CX k f fd ps sp) (hr : RoomH k X.A) (hb : Binds X.K fd ps []) (hx : PassesAt CX X σ (E σ))
    (I : Inv X pins σ H s) (r : Vals vs us) (h : sp vs H Q (E σ)) : wpAny (model X.prog X.w) X.A (call (.ref f) us) (EP X pins σ Q) X.xe s := by
  have hl : us.length = ps.length := by rw [← r.length]; exact F.len _ _ _ _ h
  have b := hb s us I.kIn (by rw [List.append_nil]; exact hl)
  rw [List.append_nil] at b
  refine wpAny_call (codeAny_mono (F.run X.A X.stack s H ⟨us, []⟩ us vs Q (E σ) hr I.env0 b r h) fun r s' hq => ?_)
  cases r with
  | error e => exact hx pins H s e s' I hq
  | ok fl =>
    cases fl with
    | ret u => exact I.after hq
    | next => exact False.elim hq
    | brk => exact False.elim hq
    | cont => exact False.elim hq
theorem pe_callQ (F : FnQ X.prog X.w X.K X.mg X.base CX k f fd ps sp) (hr : RoomH k X.A) (hg : Gl X x) (hm : X.mg x = some (.ref f)) (hk : PySem.W.keepIn X.K (.ref f) = true) (hb : Binds X.K fd ps []) (hx : ∀ σ, PassesAt CX X σ (E σ))
    (ha : PA X (e :: es) t) (hdb : (x == ("__debug__" : Str)) = false := by decide) (he : starEach (e :: es) X.env = (false, eval e X.env) :: starEach es X.env := by rfl) (hpl : (backTo pos (starEach es X.env)).any (·.1) = false := by rfl) :
    PE X (.Call (.Name x q) (e :: es) [] pos) (L2.tCallS sp E t) := by
  refine ⟨fun pins s σ H Q I h => ?_⟩
  refine wpAny_Call_Name_kw (ld_glob I hg hm ?_ hdb)
  refine PySem.W.callWith_K (h₀ := X.base) I.ok.mod.kin hk (thn (ha.run pos pins s σ H _ I h) fun us s1 ⟨vs, H1, I1, r, q⟩ => ⟨I1.kIn, ?_⟩) he hpl
  exact run_fnQ F hr hb (hx σ) I1 r q
end
structure CalQ (P : Program) (w : World) (K : Frag) (mg : Str → Option Value) (base : Heap) (k : Nat) (x : Str) {A R : Type} [EncA A] (g : A → Res R) (kr : R → Slot) : Prop where
  ex : ∃ f fd ps, FnQ P w K mg base (L2.CX P w) k f fd ps (spOf K mg g kr) ∧ mg x = some (.ref f) ∧ PySem.W.keepIn K (.ref f) = true ∧ Binds K fd ps []
section
variable {P : Program} {w : World} {K : Frag} {mg : Str → Option Value} {base : Heap}
theorem cal_mkQ {x : Str} {st : Stmt} {N ps : List Str} {k : Nat} {A R : Type} [EncP A] {g : A → Res R} {kr : R → Slot} (D : IsDef K mg x st) (S : FnScope N ps (defScope st)) (hl : EncP.len A = ps.length)
    (hb : ∀ (kV doc pm : Value) (an : Option Addr) (cdv ct : Value) (us : List Value), us.length = ps.length → bindArgs (PySem.W.fnOf x x (defArgs st) (defBody st) (defScope st) .none kV doc pm an cdv ct) ⟨us, []⟩ = pure (ps.zip us))
    (hbody : ∀ (a : A) (f : Addr) (cdv : Value) (A' : Around) (outer : List Env) (s : Shared) (H : Hp) (E : L2.XK), RoomH k (A'.deeper (envOfC x (defScope st) s.heap.objs.size f cdv)) →
      ST (cxQ (L2.CX P w) P w K mg base N x (defScope st) f cdv A' outer s H E) (wE E) true (EncP.slots a ++ List.replicate (N.length - EncP.len A) any) (defBody st) (g a) kr) :
    CalQ P w K mg base (k + 1) x g kr := by
  obtain ⟨f, fd, F, hm⟩ := D.ex
  refine ⟨f, fd, ps, ?_, hm, F.kp, F.binds hb⟩
  refine fn_ofQ F S (fun vs H Q E ⟨a, F0, r, _⟩ => (EncP.start r).1.trans hl) fun cdv A' outer s H vs Q E hr ⟨a, F0, r, sF, q⟩ => ?_
  refine ⟨_, hbody a f cdv A' outer s H E hr, H, F0, F0, List.replicate (EncP.len A) noHp ++ List.replicate (N.length - EncP.len A) noHp, ⟨⟨Same.refl _, sF, fun _ _ h => .inl h⟩, Same.refl _, ?_, ?_, ?_⟩, fun _ _ _ h => h, ?_⟩
  · obtain ⟨l, z⟩ := EncP.start r
    have e : L2.start N vs = vs.map some ++ List.replicate (N.length - EncP.len A) none := by unfold L2.start; rw [l]
    rw [e]
    exact z.append (all3_any _)
  · intro G m b u z
    rw [List.replicate_append_replicate] at m
    rw [(List.mem_replicate.mp m).2] at z
    cases z
  · rw [List.replicate_append_replicate]
    exact pw_no _
  · show wpS _ _ (g a) H _
    cases e : g a with
    | ok r' => rw [e] at q; exact fun v H' F' G' s1 ex pr k => q v H' F' G' s1 ex pr k
    | exc x => rw [e] at q; exact fun σ cls d H' h1 h2 h3 => q cls d H' h1 h2 h3
    | stuck => rw [e] at q; exact q
end
section
variable {X : Cx} {W : WX} {ss : List Slot} {k j : Nat} {x : Str} {A R : Type} [EncA A] {g : A → Res R} {kr : R → Slot} {p pos : Pos} {e : Expr} {es : List Expr}
theorem xi_calQ [Enc R] [View kr] (C : CalQ X.prog X.w X.K X.mg X.base j x g kr) (hr : RoomH k X.A) (tk : Takes X W) {m : Res A} (ha : XA X W ss (e :: es) m) (hj : j ≤ k := by decide) (hg : Gl X x := by rfl) (hdb : (x == ("__debug__" : Str)) = false := by decide)
    (he : starEach (e :: es) X.env = (false, eval e X.env) :: starEach es X.env := by rfl) (hpl : (backTo pos (starEach es X.env)).any (·.1) = false := by rfl) : XI X W ss (.Call (.Name x p) (e :: es) [] pos) (m.bind fun a => g a) := by
  obtain ⟨f, fd, ps, F, hm, hk, hb⟩ := C.ex
  refine PE_imp (pe_callQ (E := fun σ cls d H => W cls d σ H) F (hr.mono hj) hg hm hk hb (fun σ => passAt tk σ) ha hdb he hpl) fun σ H Q ⟨sl, q⟩ => ⟨sl, wpR_imp (wpR_bind q) (Same.refl H) fun a q vs H1 s1 r1 => ?_⟩
  refine ⟨a, H1, r1, Same.refl _, ?_⟩
  cases eg : g a with
  | ok r => rw [eg] at q; exact fun v H' F' G' s2 ex pr k => q v H' (s1.trans s2) (View.view ((kr r).mono ex.sub (fun b u z => (pr b u z).1) k))
  | exc x => rw [eg] at q; exact fun cls d H' h1 h2 h3 => q cls d H' h1 (s1.trans h2) h3
  | stuck => rw [eg] at q; exact q
end
end G
namespace G
open PySem PySem.Spec PyProof.Rows L2 L2H
theorem roomQ {A : Around} {v : Option Value} {k : Nat} (hr : Room k A) : RoomH k (A.mark v) := ⟨hr.dp, hr.un⟩
end G

namespace G
open PySem PySem.Spec PyProof.Rows L2
structure FnG (P : Program) (w : World) (K : PySem.W.Frag) (mg : Str → Option Value) (base : Heap) (CX : CXT) (k : Nat) (f : Addr) (fd : FuncData) (ps : List Str) (sp : Sp) : Prop where
  len : ∀ vs H Q E, sp vs H Q E → vs.length = ps.length
  run : ∀ (A : Around) (outer : List Env) (s : Shared) (H : Hp) (args : Args) (us : List Value) (vs : List V) (Q : VK) (E : L2.XK), A.guards = some [] → Room k A → Env0 P w K mg base A outer s H → BindsTo s fd args (ps.zip us) → Vals vs us → sp vs H Q E →
    codeAny (model P w) A (.call (.ref f) args) (CR CX outer P w H s Q E) s
section
variable {X : Cx} {CX : CXT} {k : Nat} {f C : Addr} {fd : FuncData} {ps : List Str} {sp : Sp} {E : L2.St → L2.XK} {x m : Str} {q pos apos : Pos} {e o : Expr} {es : List Expr} {ta : TE} {t : TA}
end
structure CalG (P : Program) (w : World) (K : Frag) (mg : Str → Option Value) (base : Heap) (k : Nat) (x : Str) {A R : Type} [EncA A] (g : A → Res R) (kr : R → Slot) : Prop where
  ex : ∃ f fd ps, FnG P w K mg base (L2.CX P w) k f fd ps (spOf K mg g kr) ∧ mg x = some (.ref f) ∧ PySem.W.keepIn K (.ref f) = true ∧ Binds K fd ps []
section
variable {P : Program} {w : World} {K : Frag} {mg : Str → Option Value} {base : Heap}
end
section
variable {X : Cx} {W : WX} {ss : List Slot} {k j : Nat} {x : Str} {A R : Type} [EncA A] {g : A → Res R} {kr : R → Slot} {p pos : Pos} {e : Expr} {es : List Expr}
end
end G

namespace G
open PySem PySem.Spec PyProof.Rows L2
def inDy (a : Dy) (xs : List Dy) : Res Bool := guardR ((noDic a && noDics xs) && (SeqAt.shaped (dyPy a) && SeqAt.shaped (.list (dyPys xs)))) (.ok ((dyPys xs).any fun z => PyData.eqv z (dyPy a)))
def ninDy (a : Dy) (xs : List Dy) : Res Bool := guardR ((noDic a && noDics xs) && (SeqAt.shaped (dyPy a) && SeqAt.shaped (.list (dyPys xs)))) (.ok (!(dyPys xs).any fun z => PyData.eqv z (dyPy a)))
section
variable {X : Cx}
end
end G
namespace G
open PySem PySem.Spec PyProof.Rows L2
def castL {β : Type} (c : Dy → Res β) : List Dy → Res (List β)
  | [] => .ok []
  | d :: ds => (c d).bind fun b => (castL c ds).bind fun bs => .ok (b :: bs)
def dyLof {β : Type} (c : Dy → Res β) : Dy → Res (List β) | .lst xs => castL c xs | _ => .stuck
abbrev dyLL : Dy → Res (List (List Int)) := dyLof dyLI
end G

namespace G
open PySem PySem.Spec PyProof.Rows L2
structure OwF (α : Type) [EncF α] where
  own : List Str → Frag → Hp → Hp → List (Str × V) → α → Prop
  mF : ∀ {ns : List Str} {K : Frag} {F F' G : Hp} {l : List (Str × V)} {a : α}, Same F F' → own ns K F G l a → own ns K F' G l a
  mG : ∀ {ns : List Str} {K : Frag} {F G G' : Hp} {l : List (Str × V)} {a : α}, Same G G' → own ns K F G l a → own ns K F G' l a
  view : ∀ {ns : List Str} {K : Frag} {F G H : Hp} {l : List (Str × V)} {a : α}, own ns K F G l a → Same F H → Same G H → EncF.rep ns K H l a
def unF : OwF Unit := ⟨fun ns _ _ _ l _ => ns = [] ∧ l = [], fun _ h => h, fun _ h => h, fun h _ _ => h⟩
def coF {α β : Type} [EncF α] [Enc β] (d : OwF α) (d' : Ow β) : OwF (α × β) :=
  ⟨fun ns K F G l x => ∃ f ns' l0 y G1 G2, ns = f :: ns' ∧ l = putF f y l0 ∧ Same G1 G ∧ Same G2 G ∧ Dj G1 G2 ∧ d.own ns' K F G1 l0 x.1 ∧ d'.own K F G2 y x.2,
   fun s ⟨f, ns', l0, y, G1, G2, e, e2, a, b, c, h1, h2⟩ => ⟨f, ns', l0, y, G1, G2, e, e2, a, b, c, d.mF s h1, d'.mF s h2⟩,
   fun s ⟨f, ns', l0, y, G1, G2, e, e2, a, b, c, h1, h2⟩ => ⟨f, ns', l0, y, G1, G2, e, e2, a.trans s, b.trans s, c, h1, h2⟩,
   fun ⟨f, ns', l0, y, G1, G2, e, e2, a, b, c, h1, h2⟩ s t => ⟨f, ns', l0, y, e, e2, d.view h1 s (a.trans t), d'.view h2 s (b.trans t)⟩⟩
def obO {nm : String} [ObN nm] [ObC nm] {α : Type} [EncF α] (d : OwF α) : Ow (Ob nm α) :=
  ⟨fun K F G v o => ∃ p dx l G1, v = .ref p ∧ G p = some (.ins (ObC.C nm) dx l) ∧ Same G1 G ∧ G1 p = none ∧ d.own (ObN.fs nm) K F G1 l o.v,
   fun s ⟨p, dx, l, G1, e, h, a, b, r⟩ => ⟨p, dx, l, G1, e, h, a, b, d.mF s r⟩,
   fun s ⟨p, dx, l, G1, e, h, a, b, r⟩ => ⟨p, dx, l, G1, e, s _ _ h, a.trans s, b, r⟩,
   fun ⟨p, dx, l, G1, e, h, a, b, r⟩ s t => ⟨p, dx, l, e, t _ _ h, d.view r s (a.trans t)⟩⟩
class ImmF {α : Type} [EncF α] (d : OwF α) : Prop where
  imm : ∀ {ns : List Str} {K : Frag} {F G : Hp} {l : List (Str × V)} {a : α}, d.own ns K F G l a → d.own ns K (tups F) G l a
instance : ImmF unF := ⟨fun h => h⟩
instance {α β : Type} [EncF α] [Enc β] {d : OwF α} {d' : Ow β} [ImmF d] [ImmO d'] : ImmF (coF d d') :=
  ⟨fun ⟨f, ns', l0, y, G1, G2, e, e2, a, b, c, h1, h2⟩ => ⟨f, ns', l0, y, G1, G2, e, e2, a, b, c, ImmF.imm h1, ImmO.imm h2⟩⟩
instance {nm : String} [ObN nm] [ObC nm] {α : Type} [EncF α] {d : OwF α} [ImmF d] : ImmO (obO (nm := nm) d) := ⟨fun ⟨p, dx, l, G1, e, h, a, b, r⟩ => ⟨p, dx, l, G1, e, h, a, b, ImmF.imm r⟩⟩
instance {nm : String} [ObN nm] [ObC nm] {α : Type} [EncF α] {d : OwF α} : NNO (obO (nm := nm) d) := ⟨fun ⟨_, _, _, _, e, _⟩ z => by rw [e] at z; cases z⟩
def swp (G G2 N : Hp) : Hp := fun c => match N c with
  | some u => some u
  | none => match G2 c with
    | some _ => none
    | none => G c
structure SelO {α β : Type} [EncF α] [Enc β] (D : OwF α) (ns : List Str) (f : Str) (get : α → β) (put : α → β → α) (d' : Ow β) : Prop where
  sel : ∀ {K : Frag} {F G : Hp} {l : List (Str × V)} {a : α}, D.own ns K F G l a → ∃ y G2, l.lookup f = some y ∧ Same G2 G ∧ d'.own K F G2 y (get a) ∧
    ∀ {F' N : Hp} {y' : V} {b' : β}, Same F F' → d'.own K F' N y' b' → (∀ c, G c ≠ none → G2 c = none → N c = none) → D.own ns K F' (swp G G2 N) (putF f y' l) (put a b')
  mem : f ∈ ns
def po {α : Type} [Enc α] (v : V) (d : Ow α) (a : α) : Slot := ⟨fun K F G o => o = some v ∧ d.own K F G v a, fun s t ⟨e, r⟩ => ⟨e, d.mG t (d.mF s r)⟩⟩
structure OSl {α : Type} [Enc α] (d : Ow α) where
  S : α → Slot
  get : ∀ {K : Frag} {F G : Hp} {o : Option V} {a : α}, (S a).P K F G o → ∃ v, o = some v ∧ d.own K F G v a
  put : ∀ {K : Frag} {F F' G G' : Hp} {v : V} {a a' : α}, (S a).P K F G (some v) → d.own K F' G' v a' → (S a').P K F' G' (some v)
def osl {α : Type} [Enc α] (d : Ow α) : OSl d := ⟨os d, fun h => h, fun _ h => ⟨_, rfl, h⟩⟩
def osp {α : Type} [Enc α] (v : V) (d : Ow α) : OSl d := ⟨po v d, fun ⟨e, h⟩ => ⟨v, e, h⟩, fun ⟨e, _⟩ h => by cases e; exact ⟨rfl, h⟩⟩
instance {α : Type} [Enc α] {d : Ow α} {v : V} : View (po v d) := ⟨fun ⟨e, r⟩ => by cases e; exact d.view r (Same.refl _) (Same.refl _)⟩
theorem all3_osl {K : Frag} {F : Hp} {α : Type} [Enc α] {d : Ow α} (L : OSl d) {a : α} {ss : List Slot} {Gs : List Hp} {σ : L2.St} {i : Nat} (h : All3 K F ss Gs σ) (hs : ss[i]? = some (L.S a)) :
    ∃ G v, Gs[i]? = some G ∧ σ[i]? = some (some v) ∧ (L.S a).P K F G (some v) ∧ d.own K F G v a := by
  obtain ⟨G, o, h1, h2, r⟩ := h.get hs
  obtain ⟨v, e, q⟩ := L.get r
  subst e
  exact ⟨G, v, h1, h2, r, q⟩
section
variable {X : Cx} {W : WX} {ss : List Slot} {pos : Pos} {e a : Expr} {es : List Expr} {rest : List Stmt} {nm : String} [ObN nm] [ObC nm]
end
end G

namespace G
open PySem PySem.Spec PyProof.Rows L2
section
variable {X : Cx} {W : WX} {ss : List Slot} {k j : Nat} {nm : String} [ObN nm] [ObC nm] {m : Str} {α A' A R : Type} [EncF α] [EncP A'] [EncA A] {c : Ob nm α × A' → A} {g : A → Res R} {kr : R → Slot} {p pos apos : Pos} {o e : Expr} {es : List Expr}
end
section
variable {X : Cx} {CX : CXT} {k : Nat} {f C : Addr} {fd : FuncData} {ps : List Str} {sp : Sp} {dvs : List V} {ds : List Value} {E : L2.St → L2.XK} {x : Str} {p pos : Pos} {e : Expr} {es : List Expr} {t : TA}
def tMakeSV (C : Addr) (sp : Sp) (dvs : List V) (E : L2.St → L2.XK) (t : TA) : TE := fun σ H Q => t σ H fun vs H1 => ∀ x dx, H1 x = none → H1 dx = none → dx ≠ x →
  sp (.ref x :: (vs ++ dvs)) (upd (upd H1 dx (.own x)) x (.ins C dx [])) (fun v H2 => v = .non ∧ Q (.ref x) H2) (E σ)
end
def nobO (C : Addr) (p : Addr) (ns : List Str) {α : Type} [EncF α] (D : OwF α) (a : α) : Slot :=
  ⟨fun K F G o => o = some (.ref p) ∧ ∃ dx l G1, G p = some (.ins C dx l) ∧ Same G1 G ∧ G1 p = none ∧ D.own ns K F G1 l a, fun s t ⟨e, dx, l, G1, h, a, b, r⟩ => ⟨e, dx, l, G1, t _ _ h, a.trans t, b, D.mF s r⟩⟩
def iniO (C : Addr) (p : Addr) (ns : List Str) {α : Type} [EncF α] (D : OwF α) (a : α) : Slot :=
  ⟨fun K F G o => o = some .non ∧ ∃ dx l G1, G p = some (.ins C dx l) ∧ Same G1 G ∧ G1 p = none ∧ D.own ns K F G1 l a, fun s t ⟨e, dx, l, G1, h, a, b, r⟩ => ⟨e, dx, l, G1, t _ _ h, a.trans t, b, D.mF s r⟩⟩
section
variable {X : Cx} {W : WX} {ss : List Slot} {pos : Pos} {e : Expr}
end
def spIO (K : Frag) (mg : Str → Option Value) (C : Addr) (ns : List Str) {A β : Type} [EncA A] [EncF β] (D : OwF β) (g : A → Res β) : Sp := fun vs H Q E => ∃ (a : A) (p dx : Addr) (us : List V) (B F : Hp), vs = .ref p :: us ∧ EncA.rep K F us a ∧ Same F B ∧ Same B H ∧
  H p = some (.ins C dx []) ∧ B p = none ∧
  match g a with
  | .ok b => ∀ H' F' G' dx' l G1, Same B H' → Ext F B F' H' → Priv G' B F' H' → G' p = some (.ins C dx' l) → Same G1 G' → G1 p = none → D.own ns K F' G1 l b → Q .non H'
  | .exc x => ∀ cls d H', mg x.cls = some cls → Same B H' → payRep x.pay d H' → E cls d H'
  | .stuck => False
section
variable {P : Program} {w : World} {K : Frag} {mg : Str → Option Value} {base : Heap}
end
structure CalIO (P : Program) (w : World) (K : Frag) (mg : Str → Option Value) (base : Heap) (k : Nat) (nm : String) [ObN nm] [ObC nm] {A' A β : Type} [EncA A'] [EncA A] [EncF β] (D : OwF β) (c : A' → A) (g : A → Res β) : Prop where
  ex : ∃ f fd ps dvs ds, FnOk P w K mg base (L2.CX P w) k f fd ps (spIO K mg (ObC.C nm) (ObN.fs nm) D g) ∧ Mk K (ObC.C nm) f ∧ Binds K fd ps ds ∧ Vals dvs ds ∧ ∀ H vs a, EncA.rep K H vs a → EncA.rep K H (vs ++ dvs) (c a)
  gl : mg (PySem.Str.ofString nm) = some (.ref (ObC.C nm))
structure IsIniD (K : Frag) (nm : String) [ObC nm] (qual : Str) (st : Stmt) (dvs : List V) : Prop where
  ex : ∃ f fd, FunD K "__init__" qual (defArgs st) (defBody st) (defScope st) dvs [] f fd ∧ Mk K (ObC.C nm) f
def BndI (qual : Str) (st : Stmt) (ps : List Str) (m n j : Nat) : Prop := ∀ (T : Addr) (kV doc pm : Value) (an : Option Addr) (cdv ct : Value) (us its : List Value), us.length = n → its.length = m →
  ∃ k, bindArgs (PySem.W.fnOf "__init__" qual (defArgs st) (defBody st) (defScope st) (.ref T) kV doc pm an cdv ct) ⟨us, []⟩ = seqItems? (.ref T) >>= k ∧ k (some its.toArray) = pure (ps.zip (us ++ its.drop j))
section
variable {P : Program} {w : World} {K : Frag} {mg : Str → Option Value} {base : Heap}
end
section
variable {X : Cx} {W : WX} {ss : List Slot} {k j : Nat} {nm : String} [ObN nm] [ObC nm] {A' A β : Type} [EncA A'] [EncA A] [EncF β] {D : OwF β} {c : A' → A} {g : A → Res β} {p pos : Pos} {e : Expr} {es : List Expr}
end
end G

namespace G
open PySem PySem.Spec PyProof.Rows L2
def ex {α : Type} [Enc α] (v : V) (a : α) : Slot := ⟨fun K F _ o => o = some v ∧ Enc.rep K F v a, fun s _ ⟨e, r⟩ => ⟨e, Enc.mono s r⟩⟩
structure IoV {α : Type} [Enc α] (d : Ow α) where
  v : α
def OwnsAny (G : Hp) (Gs : List Hp) : Prop := ∀ c u, G c = some u → ∃ g ∈ Gs, g c = some u
class EncIO (A : Type) where
  Vs : Type
  Os : Type
  Ln : Type
  len : Nat
  vl : Vs → List V
  slX : Vs → A → List Slot
  sl : Vs → A → List Slot
  own : Frag → Hp → Hp → Vs → Os → Prop
  outs : Vs → List Slot → Os → Prop
  js : Ln → List Nat
  argR : Frag → Hp → List Slot → L2.St → Ln → List V → A → Prop
  tk : Ln → List Slot → List Slot
  pt : Ln → Os → List Slot → List Slot
  vll : ∀ u, (vl u).length = len
  sll : ∀ u a, (sl u a).length = len
  slXl : ∀ u a, (slX u a).length = len
  ownM : ∀ {K : Frag} {F F' G G' : Hp} {u : Vs} {o : Os}, Same F F' → Same G G' → own K F G u o → own K F' G' u o
  start : ∀ {K : Frag} {F H : Hp} {Gs : List Hp} {u : Vs} {a : A}, All3 K F (sl u a) Gs ((vl u).map some) → Same F H → (∀ G ∈ Gs, Same G H) → All3 K H (slX u a) (List.replicate len noHp) ((vl u).map some)
  exact : ∀ {K : Frag} {F : Hp} {Gs : List Hp} {u : Vs} {a : A} {ts : List Slot} {σ : L2.St}, All3 K F (slX u a ++ ts) Gs σ → ∃ Gl σl, Gs = Gs.take len ++ Gl ∧ σ = (vl u).map some ++ σl ∧ All3 K F ts Gl σl
  outG : ∀ {K : Frag} {F : Hp} {Gs : List Hp} {u : Vs} {ss : List Slot} {σ : L2.St} {o : Os}, outs u ss o → All3 K F ss Gs σ → Gs.Pairwise Dj → ∃ G, own K F G u o ∧ OwnsAny G Gs
  argM : ∀ {K : Frag} {F F' : Hp} {ss : List Slot} {σ : L2.St} {l : Ln} {vs : List V} {a : A}, Same F F' → argR K F ss σ l vs a → argR K F' ss σ l vs a
  argS : ∀ {K : Frag} {F : Hp} {ss : List Slot} {σ : L2.St} {l : Ln} {vs : List V} {a : A} {j : Nat} {s : Slot}, argR K F ss σ l vs a → j ∉ js l → argR K F (ss.set j s) σ l vs a
  take : ∀ {K : Frag} {B F0 H F : Hp} {ss : List Slot} {σ : L2.St} {Gs : List Hp} {l : Ln} {vs : List V} {a : A}, Asn K B F0 ss σ H F Gs → (js l).Nodup → argR K F ss σ l vs a →
    ∃ u Gc Gs', vs = vl u ∧ Asn K B F0 (tk l ss) σ H F Gs' ∧ (∀ G ∈ Gc, Fresh B F H Gs' G) ∧ Gc.Pairwise Dj ∧ All3 K F (sl u a) Gc (vs.map some) ∧ (∀ c, (∀ g ∈ Gs, g c = none) → (∀ g ∈ Gs', g c = none) ∧ ∀ g ∈ Gc, g c = none) ∧
      ∀ {H2 F2 G2 : Hp} {Gs2 : List Hp} {os : Os}, Asn K B F0 (tk l ss) σ H2 F2 Gs2 → own K F2 G2 u os → Fresh B F2 H2 Gs2 G2 → ∃ Gs3, Asn K B F0 (pt l os ss) σ H2 F2 Gs3 ∧ ∀ c, (∀ g ∈ Gs2, g c = none) → G2 c = none → ∀ g ∈ Gs3, g c = none
instance : EncIO Unit where
  Vs := Unit
  Os := Unit
  Ln := Unit
  len := 0
  vl := fun _ => []
  slX := fun _ _ => []
  sl := fun _ _ => []
  own := fun _ _ _ _ _ => True
  outs := fun _ _ _ => True
  js := fun _ => []
  argR := fun _ _ _ _ _ vs _ => vs = []
  tk := fun _ ss => ss
  pt := fun _ _ ss => ss
  vll := fun _ => rfl
  sll := fun _ _ => rfl
  slXl := fun _ _ => rfl
  ownM := fun _ _ _ => trivial
  start := fun _ _ _ => trivial
  exact := fun {K F Gs u a ts σ} h => ⟨Gs, σ, rfl, rfl, h⟩
  outG := fun _ _ _ => ⟨noHp, trivial, fun _ _ h => nomatch h⟩
  argM := fun _ h => h
  argS := fun h _ => h
  take := fun {K B F0 H F ss σ Gs l vs a} A _ h => ⟨(), [], Gs, h, A, (fun _ m => nomatch m), List.Pairwise.nil, by cases (show vs = [] from h); exact trivial, fun c h => ⟨h, fun _ m => nomatch m⟩, fun {H2 F2 G2 Gs2 os} A2 _ _ => ⟨Gs2, A2, fun c h _ => h⟩⟩
theorem all3_consInv {K : Frag} {F : Hp} {s : Slot} {ss : List Slot} {Gs : List Hp} {σ : L2.St} (h : All3 K F (s :: ss) Gs σ) : ∃ G Gs' o σ', Gs = G :: Gs' ∧ σ = o :: σ' ∧ s.P K F G o ∧ All3 K F ss Gs' σ' := by
  cases Gs with
  | nil => exact h.elim
  | cons G Gs =>
    cases σ with
    | nil => exact h.elim
    | cons o σ => exact ⟨G, Gs, o, σ, rfl, rfl, h.1, h.2⟩
theorem dj_any {G g : Hp} {Gs : List Hp} (d : ∀ g' ∈ Gs, Dj g g') (o : OwnsAny G Gs) : Dj g G := fun c => by
  cases e : G c with
  | none => exact .inr rfl
  | some u =>
    obtain ⟨g', m, e'⟩ := o c u e
    exact .inl ((d g' m c).elim id fun z => by rw [z] at e'; cases e')
instance ioFr {α A : Type} [Enc α] [T : EncIO A] : EncIO (α × A) where
  Vs := V × T.Vs
  Os := T.Os
  Ln := T.Ln
  len := T.len + 1
  vl := fun u => u.1 :: T.vl u.2
  slX := fun u a => ex u.1 a.1 :: T.slX u.2 a.2
  sl := fun u a => fr a.1 :: T.sl u.2 a.2
  own := fun K F G u o => T.own K F G u.2 o
  outs := fun u ss o => ∃ s ss', ss = s :: ss' ∧ T.outs u.2 ss' o
  js := T.js
  argR := fun K F ss σ l vs a => ∃ v vs', vs = v :: vs' ∧ Enc.rep K F v a.1 ∧ T.argR K F ss σ l vs' a.2
  tk := T.tk
  pt := T.pt
  vll := fun u => by rw [List.length_cons, T.vll]
  sll := fun u a => by rw [List.length_cons, T.sll]
  slXl := fun u a => by rw [List.length_cons, T.slXl]
  ownM := fun s t h => T.ownM s t h
  start := fun {K F H Gs u a} h s t => by
    obtain ⟨G, Gs', o, σ', e1, e2, h1, h2⟩ := all3_consInv h
    subst e1
    cases e2
    obtain ⟨v, e, r⟩ := h1
    cases e
    exact ⟨⟨rfl, Enc.mono s r⟩, T.start h2 s fun g m => t g (List.mem_cons_of_mem _ m)⟩
  exact := fun {K F Gs u a ts σ} h => by
    obtain ⟨G, Gs', o, σ', e1, e2, h1, h2⟩ := all3_consInv h
    obtain ⟨Gl, σl, q1, q2, q3⟩ := T.exact h2
    subst e1
    exact ⟨Gl, σl, by rw [List.take_succ_cons, List.cons_append, ← q1], by rw [e2, q2, h1.1]; rfl, q3⟩
  outG := fun {K F Gs u ss σ o} ⟨s, ss', e, h⟩ h2 d => by
    subst e
    obtain ⟨G, Gs', o2, σ', e1, e2, h3, h4⟩ := all3_consInv h2
    subst e1
    obtain ⟨G2, q1, q2⟩ := T.outG h h4 (List.pairwise_cons.mp d).2
    exact ⟨G2, q1, fun c u z => by
      obtain ⟨g, m, e⟩ := q2 c u z
      exact ⟨g, List.mem_cons_of_mem _ m, e⟩⟩
  argM := fun s ⟨v, vs', e, r, h⟩ => ⟨v, vs', e, Enc.mono s r, T.argM s h⟩
  argS := fun ⟨v, vs', e, r, h⟩ n => ⟨v, vs', e, r, T.argS h n⟩
  take := fun {K B F0 H F ss σ Gs l vs a} A nd ⟨v, vs', e, r, h⟩ => by
    subst e
    obtain ⟨u, Gc, Gs', e1, A1, f1, p1, a1, c1, back⟩ := T.take A nd h
    refine ⟨(v, u), noHp :: Gc, Gs', by rw [e1], A1, fun G m => ?_, List.pairwise_cons.mpr ⟨fun _ _ _ => .inl rfl, p1⟩, ⟨⟨v, rfl, r⟩, a1⟩, fun c h => ⟨(c1 c h).1, fun g m => ?_⟩, fun A2 o f2 => back A2 o f2⟩
    · rcases List.mem_cons.mp m with e | m
      · subst e; exact fun c u z => nomatch z
      · exact f1 G m
    · rcases List.mem_cons.mp m with e | m
      · subst e; rfl
      · exact (c1 c h).2 g m
instance ioIo {α A : Type} [Enc α] {d : Ow α} [T : EncIO A] : EncIO (IoV d × A) where
  Vs := V × T.Vs
  Os := α × T.Os
  Ln := (Nat × OSl d) × T.Ln
  len := T.len + 1
  vl := fun u => u.1 :: T.vl u.2
  slX := fun u a => ex u.1 a.1.v :: T.slX u.2 a.2
  sl := fun u a => po u.1 d a.1.v :: T.sl u.2 a.2
  own := fun K F G u o => ∃ G1 G2, Same G1 G ∧ Same G2 G ∧ Dj G1 G2 ∧ d.own K F G1 u.1 o.1 ∧ T.own K F G2 u.2 o.2
  outs := fun u ss o => ∃ ss', ss = po u.1 d o.1 :: ss' ∧ T.outs u.2 ss' o.2
  js := fun l => l.1.1 :: T.js l.2
  argR := fun K F ss σ l vs a => ∃ v vs', vs = v :: vs' ∧ ss[l.1.1]? = some (l.1.2.S a.1.v) ∧ σ[l.1.1]? = some (some v) ∧ T.argR K F ss σ l.2 vs' a.2
  tk := fun l ss => T.tk l.2 (ss.set l.1.1 any)
  pt := fun l o ss => (T.pt l.2 o.2 (ss.set l.1.1 any)).set l.1.1 (l.1.2.S o.1)
  vll := fun u => by rw [List.length_cons, T.vll]
  sll := fun u a => by rw [List.length_cons, T.sll]
  slXl := fun u a => by rw [List.length_cons, T.slXl]
  ownM := fun s t ⟨G1, G2, a, b, c, h1, h2⟩ => ⟨G1, G2, a.trans t, b.trans t, c, d.mF s h1, T.ownM s (Same.refl _) h2⟩
  start := fun {K F H Gs u a} h s t => by
    obtain ⟨G, Gs', o, σ', e1, e2, h1, h2⟩ := all3_consInv h
    subst e1
    cases e2
    exact ⟨⟨rfl, d.view h1.2 s (t G List.mem_cons_self)⟩, T.start h2 s fun g m => t g (List.mem_cons_of_mem _ m)⟩
  exact := fun {K F Gs u a ts σ} h => by
    obtain ⟨G, Gs', o, σ', e1, e2, h1, h2⟩ := all3_consInv h
    obtain ⟨Gl, σl, q1, q2, q3⟩ := T.exact h2
    subst e1
    exact ⟨Gl, σl, by rw [List.take_succ_cons, List.cons_append, ← q1], by rw [e2, q2, h1.1]; rfl, q3⟩
  outG := fun {K F Gs u ss σ o} ⟨ss', e, h⟩ h2 dj => by
    subst e
    obtain ⟨G, Gs', o2, σ', e1, e2, h3, h4⟩ := all3_consInv h2
    subst e1
    obtain ⟨d1, d2⟩ := List.pairwise_cons.mp dj
    obtain ⟨G2, q1, q2⟩ := T.outG h h4 d2
    have dd : Dj G G2 := dj_any d1 q2
    refine ⟨join G G2, ⟨G, G2, join_l, fun c u z => ?_, dd, h3.2, q1⟩, fun c u z => ?_⟩
    · unfold join
      rw [(dd c).elim id fun w => by rw [w] at z; cases z]; exact z
    · rcases join_or z with z | z
      · exact ⟨G, List.mem_cons_self, z⟩
      · obtain ⟨g, m, e⟩ := q2 c u z
        exact ⟨g, List.mem_cons_of_mem _ m, e⟩
  argM := fun s ⟨v, vs', e, r, r2, h⟩ => ⟨v, vs', e, r, r2, T.argM s h⟩
  argS := fun ⟨v, vs', e, r, r2, h⟩ n => ⟨v, vs', e, by rw [List.getElem?_set_ne (fun e => n (by rw [e]; exact List.mem_cons_self))]; exact r, r2, T.argS h fun m => n (List.mem_cons_of_mem _ m)⟩
  take := fun {K B F0 H F ss σ Gs l vs a} A nd ⟨v, vs', e, hs, hσ, h⟩ => by
    subst e
    obtain ⟨n1, n2⟩ := List.nodup_cons.mp nd
    obtain ⟨G, v', hG, hσ', hS, ho⟩ := all3_osl l.1.2 A.all hs
    have ev : v' = v := by rw [hσ] at hσ'; cases hσ'; rfl
    subst ev
    obtain ⟨A0, f0⟩ := A.take hG
    have hm := List.mem_of_getElem? hG
    obtain ⟨u, Gc, Gs', e1, A1, f1, p1, a1, c1, back⟩ := T.take A0 n2 (T.argS h n1)
    have inG : ∀ c, (∀ g ∈ Gs, g c = none) → ∀ g ∈ Gs.set l.1.1 noHp, g c = none := fun c h g m => by
      rcases List.mem_or_eq_of_mem_set m with m | e
      · exact h g m
      · subst e; rfl
    refine ⟨(v', u), G :: Gc, Gs', by rw [e1], A1, fun G' m => ?_, List.pairwise_cons.mpr ⟨fun g m c => ?_, p1⟩, ⟨⟨rfl, ho⟩, a1⟩, fun c h => ?_, fun {H2 F2 G2 Gs2 os} A2 o f2 => ?_⟩
    · rcases List.mem_cons.mp m with e | m
      · subst e
        intro c w z
        obtain ⟨k1, k2, k3, k4, k5⟩ := f0 c w z
        exact ⟨k1, k2, k3, k4, (c1 c k5).1⟩
      · exact f1 G' m
    · cases z : G c with
      | none => exact .inl rfl
      | some w => exact .inr ((c1 c (f0 c w z).2.2.2.2).2 g m)
    · refine ⟨(c1 c (inG c h)).1, fun g m => ?_⟩
      rcases List.mem_cons.mp m with e | m
      · subst e; exact h g hm
      · exact (c1 c (inG c h)).2 g m
    · obtain ⟨Ga, Gb, sa, sb, dab, oa, ob⟩ := o
      obtain ⟨Gs3, A3, c3⟩ := back A2 ob fun c w z => by
        obtain ⟨k1, k2, k3, k4, k5⟩ := f2 c w (sb _ _ z)
        exact ⟨k1, k2, k3, k4, k5⟩
      have f3 : Fresh B F2 H2 Gs3 Ga := fun c w z => by
        obtain ⟨k1, k2, k3, k4, k5⟩ := f2 c w (sa _ _ z)
        exact ⟨k1, k2, k3, k4, c3 c k5 ((dab c).elim (fun q => by rw [q] at z; cases z) id)⟩
      have A4 := A3.give f3 l.1.1 (l.1.2.put hS oa)
      rw [set_self hσ] at A4
      refine ⟨_, A4, fun c h1 h2 g m => ?_⟩
      rcases List.mem_or_eq_of_mem_set m with m | e
      · exact c3 c h1 (Same.free sb h2) g m
      · subst e; exact Same.free sa h2
def ioK {A R : Type} [EncIO A] (kr : R → Slot) (u : EncIO.Vs A) (r : R × EncIO.Os A) : Slot :=
  ⟨fun K F G o => ∃ G1 G2, Same G1 G ∧ Same G2 G ∧ Dj G1 G2 ∧ (kr r.1).P K F G1 o ∧ EncIO.own K F G2 u r.2, fun s t ⟨G1, G2, a, b, c, h1, h2⟩ => ⟨G1, G2, a.trans t, b.trans t, c, (kr r.1).mono s (Same.refl _) h1, EncIO.ownM s (Same.refl _) h2⟩⟩
def spM (K : Frag) (mg : Str → Option Value) {A R : Type} [EncIO A] (f : A → Res (R × EncIO.Os A)) (kr : R → Slot) : Sp := fun vs H Q E => ∃ (u : EncIO.Vs A) (a : A) (B F : Hp) (Gs : List Hp), vs = EncIO.vl u ∧ All3 K F (EncIO.sl u a) Gs (vs.map some) ∧ Same F H ∧ Same B H ∧ (∀ G ∈ Gs, Priv G B F H) ∧ Gs.Pairwise Dj ∧
  match f a with
  | .ok r => ∀ v H' F' G', Same B H' → Ext F B F' H' → Priv G' B F' H' → (ioK kr u r).P K F' G' (some v) → Q v H'
  | .exc x => ∀ cls d H', mg x.cls = some cls → Same H H' → payRep x.pay d H' → E cls d H'
  | .stuck => False
section
variable (X : Cx) (W : WX)
def wTM {A R : Type} [EncIO A] (e : Bool) (u : EncIO.Vs A) (a : A) (M : Res (R × EncIO.Os A)) (kr : R → Slot) : Ends → Hp → Hp → Prop := fun D B1 F1 => ∃ B F Gs, F1 = B1 ∧ Same F B1 ∧ Same B B1 ∧ (∀ G ∈ Gs, Priv G B F B1) ∧ Gs.Pairwise Dj ∧ All3 X.K F (EncIO.sl u a) Gs ((EncIO.vl u).map some) ∧
  (e = true → ∀ σ H, D.rt .non H → D.nx σ H) ∧ wpS X W M B1 fun r => RtOk X (ioK kr u) r D B F
def STM {A R : Type} [EncIO A] (e : Bool) (u : EncIO.Vs A) (a : A) (ss : List Slot) (st : List Stmt) (M : Res (R × EncIO.Os A)) (kr : R → Slot) : Prop := PSs X st (rdX X ss (wTM X W e u a M kr))
end
section
variable {X : Cx} {W : WX} {ss : List Slot} {st : Stmt} {rest : List Stmt} {A R : Type} [EncIO A] {u : EncIO.Vs A} {a : A} {kr : R → Slot}
inductive Sw : List Slot → List Slot → Prop
  | nil : Sw [] []
  | fr {α : Type} [Enc α] [Imm α] {x : α} {ss ts : List Slot} (h : Sw ss ts) : Sw (G.fr x :: ss) (G.fr x :: ts)
  | ow {α : Type} [Enc α] [Imm α] {x : List α} {ss ts : List Slot} (h : Sw ss ts) : Sw (G.ow x :: ss) (G.ow x :: ts)
  | any {s : Slot} {ss ts : List Slot} (h : Sw ss ts) : Sw (s :: ss) (G.any :: ts)
theorem Sw.all {K : Frag} {F1 F2 H1 : Hp} (s1 : Same F1 H1) (s2 : Same (tups H1) F2) {ss ts : List Slot} (h : Sw ss ts) : ∀ {Gs : List Hp} {σ : L2.St}, All3 K F1 ss Gs σ → All3 K F2 ts Gs σ := by
  induction h with
  | nil =>
    intro Gs σ h
    match Gs, σ, h with
    | [], [], _ => exact trivial
    | [], _ :: _, h => exact h.elim
    | _ :: _, _, h => exact h.elim
  | fr h ih =>
      intro Gs σ h
      obtain ⟨G, Gs', o, σ', e1, e2, ⟨v, e, r⟩, h2⟩ := all3_consInv h
      subst e1; subst e2
      exact ⟨⟨v, e, Enc.mono s2 (Imm.imm (Enc.mono s1 r))⟩, ih h2⟩
  | ow h ih =>
      intro Gs σ h
      obtain ⟨G, Gs', o, σ', e1, e2, ⟨p, vs, e, g, r⟩, h2⟩ := all3_consInv h
      subst e1; subst e2
      exact ⟨⟨p, vs, e, g, All2.imp (fun _ _ z => Enc.mono s2 (Imm.imm (Enc.mono s1 z))) r⟩, ih h2⟩
  | any h ih =>
      intro Gs σ h
      obtain ⟨G, Gs', o, σ', e1, e2, _, h2⟩ := all3_consInv h
      subst e1; subst e2
      exact ⟨trivial, ih h2⟩
theorem Sw.len {ss ts : List Slot} (h : Sw ss ts) : ss.length = ts.length := by
  induction h with
  | nil => rfl
  | fr h ih => rw [List.length_cons, List.length_cons, ih]
  | ow h ih => rw [List.length_cons, List.length_cons, ih]
  | any h ih => rw [List.length_cons, List.length_cons, ih]
end
section
variable {P : Program} {w : World} {K : Frag} {mg : Str → Option Value} {base : Heap}
end
end G

namespace G
open PySem PySem.Spec PyProof.Rows L2
structure CalMu (P : Program) (w : World) (K : Frag) (mg : Str → Option Value) (base : Heap) (k : Nat) (nm : String) [ObN nm] [ObC nm] (m : Str) {A R : Type} [EncIO A] (g : A → Res (R × EncIO.Os A)) (kr : R → Slot) : Prop where
  ex : ∃ f fd ps, FnOk P w K mg base (L2.CX P w) k f fd ps (spM K mg g kr) ∧ Meth K (ObC.C nm) m f ∧ m ∉ ObN.fs nm ∧ Binds K fd ps []
structure CalFu (P : Program) (w : World) (K : Frag) (mg : Str → Option Value) (base : Heap) (k : Nat) (x : Str) {A R : Type} [EncIO A] (g : A → Res (R × EncIO.Os A)) (kr : R → Slot) : Prop where
  ex : ∃ f fd ps, FnOk P w K mg base (L2.CX P w) k f fd ps (spM K mg g kr) ∧ mg x = some (.ref f) ∧ PySem.W.keepIn K (.ref f) = true ∧ Binds K fd ps []
section
variable {P : Program} {w : World} {K : Frag} {mg : Str → Option Value} {base : Heap}
end
section
variable (X : Cx) (W : WX)
def rAL {A : Type} [EncIO A] (ss : List Slot) (l : EncIO.Ln A) (m : Res A) : TA := fun σ H Q =>
  ∃ F, Same F H ∧ Sl X.K F H ss σ ∧ wpR X W m σ H fun a => ∀ (vs : List V) H' F', Same H H' → Ext F H F' H' → EncIO.argR X.K F' ss σ l vs a → Q vs H'
def XAL {A : Type} [EncIO A] (ss : List Slot) (l : EncIO.Ln A) (es : List Expr) (m : Res A) : Prop := PA X es (rAL X W ss l m)
def rC {R T : Type} (ss : List Slot) (m : Res (R × T)) (post : T → List Slot) (kr : R → Slot) : TE := fun σ H Q => ∃ B F0 F Gs, Asn X.K B F0 ss σ H F Gs ∧
  wpR X W m σ H fun rt => ∀ v H' F' G' Gs', Asn X.K B F0 (post rt.2) σ H' F' Gs' → Fresh B F' H' Gs' G' → (kr rt.1).P X.K F' G' (some v) → Q v H'
def XC {R T : Type} (ss : List Slot) (e : Expr) (m : Res (R × T)) (post : T → List Slot) (kr : R → Slot) : Prop := PE X e (rC X W ss m post kr)
def rTC {T : Type} (ss : List Slot) (m : Res (Bool × T)) (post : T → List Slot) : TT := fun σ H Q => ∃ B F0 F Gs, Asn X.K B F0 ss σ H F Gs ∧
  wpR X W m σ H fun bt => ∀ H' F' Gs', Asn X.K B F0 (post bt.2) σ H' F' Gs' → Q bt.1 H'
def XTC {T : Type} (ss : List Slot) (e : Expr) (m : Res (Bool × T)) (post : T → List Slot) : Prop := PT X e (rTC X W ss m post)
end
open Classical in
noncomputable def less (H : Hp) (Gs : List Hp) : Hp := fun c => if ∃ g ∈ Gs, g c ≠ none then none else H c
section
variable {X : Cx} {W : WX} {ss : List Slot} {e a b : Expr} {es : List Expr} {st : Stmt} {rest : List Stmt} {pos : Pos}
section
variable {k j : Nat} {A R : Type} [EncIO A] {l : EncIO.Ln A} {g : A → Res (R × EncIO.Os A)} {kr : R → Slot} {x : Str} {p apos : Pos}
variable {nm : String} [ObN nm] [ObC nm] {α : Type} [EncF α] {D : OwF α} {mm : Str} {gm : IoV (obO (nm := nm) D) × A → Res (R × (Ob nm α × EncIO.Os A))}
end
variable {R T : Type} {m : Res (R × T)} {post : T → List Slot} {kr : R → Slot}
section
variable {S L R' : Type} {pn : S → List Slot} {pl : L → List Slot} {kr' : R' → Slot}
end
end
end G

namespace G
open PySem PySem.Spec PyProof.Rows L2
section
variable {X : Cx} {W : WX} {ss : List Slot} {pos : Pos} {e : Expr}
end
end G

namespace G
open PySem PySem.Spec PyProof.Rows L2
def osw {α : Type} [Enc α] : OSl (l1 (α := α)) := ⟨ow, fun ⟨p, vs, e, g, r⟩ => ⟨.ref p, e, p, vs, rfl, g, r⟩, fun _ ⟨p, vs, e, g, r⟩ => ⟨p, vs, by rw [e], g, r⟩⟩
section
variable {X : Cx} {W : WX} {ss : List Slot} {st : Stmt} {rest : List Stmt} {A R : Type} [EncIO A] {u : EncIO.Vs A} {a : A} {kr : R → Slot} {e : Expr} {pos : Pos}
theorem STM.slots {ee : Bool} {ss' : List Slot} {sts : List Stmt} {M : Res (R × EncIO.Os A)} (h : STM X W ee u a ss' sts M kr) (q : ss = ss') : STM X W ee u a ss sts M kr := q ▸ h
theorem STM.cast {ee : Bool} {sts : List Stmt} {M M' : Res (R × EncIO.Os A)} (h : STM X W ee u a ss sts M kr) (q : M' = M) : STM X W ee u a ss sts M' kr := q ▸ h
end
end G
namespace G
open PySem PySem.Spec PyProof.Rows L2
theorem Cal.as {P : Program} {w : World} {K : Frag} {mg : Str → Option Value} {base : Heap} {k : Nat} {x y : Str} {A' A R : Type} [EncA A'] [EncA A] {c : A' → A} {g : A → Res R} {kr : R → Slot} (h : mg y = mg x) (C : Cal P w K mg base k x c g kr) : Cal P w K mg base k y c g kr := by
  obtain ⟨f, fd, ps, dvs, ds, h1, h2, h3⟩ := C.ex
  exact ⟨f, fd, ps, dvs, ds, h1, h.trans h2, h3⟩
end G
namespace G
open PySem PySem.Spec PyProof.Rows L2
end G

namespace G
open PySem PySem.Spec PyProof.Rows L2
section
variable {X : Cx} {W : WX} {ss : List Slot} {e : Expr} {pos : Pos}
end
end G

namespace G
open PySem PySem.Spec PyProof.Rows L2
section
variable {X : Cx} {W : WX} {ss : List Slot} {a b c : Expr} {pos : Pos}
end
end G

namespace G
open PySem PySem.Spec PyProof.Rows L2
def t4O {α β γ δ : Type} [Enc α] [Enc β] [Enc γ] [Enc δ] (d : Ow α) (d' : Ow γ) : Ow (T4 α β γ δ) :=
  ⟨fun K F G v x => ∃ p v1 v2 v3 v4 G1 G3, v = .ref p ∧ F p = some (.tup [v1, v2, v3, v4]) ∧ Same G1 G ∧ Same G3 G ∧ Dj G1 G3 ∧ d.own K F G1 v1 x.a ∧ Enc.rep K F v2 x.b ∧ d'.own K F G3 v3 x.c ∧ Enc.rep K F v4 x.d,
  fun s ⟨p, v1, v2, v3, v4, G1, G3, e, g, a1, a3, c, x, y, z, u⟩ => ⟨p, v1, v2, v3, v4, G1, G3, e, s _ _ g, a1, a3, c, d.mF s x, Enc.mono s y, d'.mF s z, Enc.mono s u⟩,
  fun s ⟨p, v1, v2, v3, v4, G1, G3, e, g, a1, a3, c, x, y, z, u⟩ => ⟨p, v1, v2, v3, v4, G1, G3, e, g, a1.trans s, a3.trans s, c, x, y, z, u⟩,
  fun ⟨p, v1, v2, v3, v4, G1, G3, e, g, a1, a3, c, x, y, z, u⟩ s t => ⟨p, v1, v2, v3, v4, e, s _ _ g, d.view x s (a1.trans t), Enc.mono s y, d'.view z s (a3.trans t), Enc.mono s u⟩⟩
abbrev t4l {α β γ δ : Type} [Enc α] [Enc β] [Enc γ] [Enc δ] : Ow (T4 (List α) β (List γ) δ) := t4O l1 l1
section
variable {X : Cx} {W : WX} {ss : List Slot} {e1 e2 e3 e4 : Expr} {pos : Pos}
end
end G

namespace G
open PySem PySem.Spec PyProof.Rows L2
section
variable {X : Cx} {W : WX} {ss : List Slot} {st : Stmt}
end
end G

namespace G
open PySem PySem.Spec PyProof.Rows L2
section
variable {X : Cx} {W : WX} {ss : List Slot} {e : Expr}
end
end G
namespace G
open PySem PySem.Spec PyProof.Rows L2
class Bare (α : Type) [Enc α] : Prop where
  up : ∀ {K : Frag} {H H' : Hp} {v : V} {a : α}, Enc.rep K H v a → Enc.rep K H' v a
instance : Bare Str := ⟨fun h => h⟩
instance : Bare Int := ⟨fun h => h⟩
instance : Bare Bool := ⟨fun h => h⟩
section
variable {X : Cx} {W : WX} {ss : List Slot} {e b : Expr} {pos : Pos} {T : Type} {post : T → List Slot}
end
end G

namespace G
open PySem PySem.Spec PyProof.Rows L2
class Pw where
  prog : Program
  w : World
structure PwX [Pw] (X : Cx) : Prop where
  p : X.prog = Pw.prog
  w : X.w = Pw.w
instance {α β γ : Type} [DecidableEq α] [DecidableEq β] [DecidableEq γ] : DecidableEq (T3 α β γ) := fun a b => match a, b with
  | ⟨a1, a2, a3⟩, ⟨b1, b2, b3⟩ => if h : a1 = b1 ∧ a2 = b2 ∧ a3 = b3 then .isTrue (by rw [h.1, h.2.1, h.2.2]) else .isFalse fun q => h (by cases q; exact ⟨rfl, rfl, rfl⟩)
mutual
/-- v holds the key k -/
inductive KH (K : Frag) (H : Hp) : NestedKey → V → Prop
  | non : KH K H .none .non
  | bl (b : Bool) : KH K H (.num (if b = true then 1 else 0)) (.bl b)
  | int (i : Int) : KH K H (.num i) (.int i)
  | str (x : Str) : KH K H (.text x) (.str x)
  | tup {p : Addr} {vs : List V} {ks : List NestedKey} : SqT K H p vs → KHs K H ks vs → KH K H (.tup ks) (.ref p)
inductive KHs (K : Frag) (H : Hp) : List NestedKey → List V → Prop
  | nil : KHs K H [] []
  | cons {k : NestedKey} {v : V} {ks : List NestedKey} {vs : List V} : KH K H k v → KHs K H ks vs → KHs K H (k :: ks) (v :: vs)
end
mutual
theorem KH.is {X : Cx} {pins : List (Addr × Obj)} {σ : L2.St} {H : Hp} {s : Shared} (I : Inv X pins σ H s) : ∀ {k : NestedKey} {v : V} {u : Value}, KH X.K H k v → RelV v u → NestedIs s.heap k u
  | _, _, u, .non, r => by obtain rfl : u = Value.none := r; exact .none
  | _, _, u, .bl b, r => by obtain rfl : u = Value.bool b := r; exact .bool rfl
  | _, _, u, .int i, r => by obtain ⟨t, rfl⟩ : ∃ t, u = Value.int i t := r; exact .int i t
  | _, _, u, .str x, r => by obtain ⟨t, rfl⟩ : ∃ t, u = Value.str x t := r; exact .text x t
  | _, _, u, .tup (p := p) q h, r => by
    obtain rfl : u = Value.ref p := r
    obtain ⟨its, rv, ⟨o, ho, hc, n, hd⟩, _⟩ := I.tuple q
    exact .tup ho hc hd (by simpa using KHs.is I h rv)
theorem KHs.is {X : Cx} {pins : List (Addr × Obj)} {σ : L2.St} {H : Hp} {s : Shared} (I : Inv X pins σ H s) : ∀ {ks : List NestedKey} {vs : List V} {us : List Value}, KHs X.K H ks vs → Vals vs us → NestedAll s.heap ks us
  | _, _, _, .nil, r => by cases r; exact .nil
  | _, _, _, .cons a b, r => by
    cases r with
    | cons r1 r2 => exact .cons (KH.is I a r1) (KHs.is I b r2)
end
mutual
theorem KH.mono {K : Frag} {H H' : Hp} (s : Same H H') : ∀ {k : NestedKey} {v : V}, KH K H k v → KH K H' k v
  | _, _, .non => .non
  | _, _, .bl b => .bl b
  | _, _, .int i => .int i
  | _, _, .str x => .str x
  | _, _, .tup q h => .tup (seqT s q) (KHs.mono s h)
theorem KHs.mono {K : Frag} {H H' : Hp} (s : Same H H') : ∀ {ks : List NestedKey} {vs : List V}, KHs K H ks vs → KHs K H' ks vs
  | _, _, .nil => .nil
  | _, _, .cons a b => .cons (KH.mono s a) (KHs.mono s b)
end
class NKc (α : Type) [Enc α] where
  nk : α → NestedKey
  inj : ∀ a b, nk a = nk b → a = b
  dp : Nat
  dep : ∀ a, (nk a).depth ≤ dp
  kh : ∀ {K : Frag} {H : Hp} {v : V} {a : α}, Enc.rep K H v a → KH K H (nk a) v
class NKr (α : Type) [Enc α] : Prop where
  rf : ∀ {K : Frag} {H : Hp} {v : V} {a : α}, Enc.rep K H v a → ∃ b, v = .ref b
instance : NKc Int := ⟨.num, fun _ _ e => by injection e, 0, fun _ => by simp [NestedKey.depth], fun h => by rw [show _ = V.int _ from h]; exact .int _⟩
instance : NKc Str := ⟨.text, fun _ _ e => by injection e, 0, fun _ => by simp [NestedKey.depth], fun h => by rw [show _ = V.str _ from h]; exact .str _⟩
instance : NKc Bool := ⟨fun b => .num (if b = true then 1 else 0), fun a b e => by cases a <;> cases b <;> first | rfl | (injection e with e; exact absurd e (by decide)), 0, fun _ => by simp [NestedKey.depth], fun h => by rw [show _ = V.bl _ from h]; exact .bl _⟩
instance : NKc (Option Int) := ⟨fun o => match o with | some i => .num i | none => .none, fun a b e => by
  cases a <;> cases b
  · rfl
  · cases e
  · cases e
  · injection e with e; rw [e], 0, fun a => by cases a <;> simp [NestedKey.depth], fun {K H v a} h => by
  cases a with
  | none => rw [show v = V.non from h]; exact .non
  | some i => rw [show v = V.int i from h.2]; exact .int i⟩
instance {α β : Type} [Enc α] [Enc β] [NKc α] [NKc β] : NKc (α × β) where
  nk := fun x => .tup [NKc.nk x.1, NKc.nk x.2]
  inj := fun a b e => by
    injection e with e
    injection e with e1 e
    injection e with e2 _
    exact Prod.ext (NKc.inj _ _ e1) (NKc.inj _ _ e2)
  dp := max (NKc.dp α) (NKc.dp β) + 1
  dep := fun x => by
    have h1 := NKc.dep x.1
    have h2 := NKc.dep x.2
    simp only [NestedKey.depth, NestedKey.depthAll]
    omega
  kh := fun {K H v a} ⟨p, v1, v2, e, h, r1, r2⟩ => by rw [e]; exact .tup (SqT.of h) (.cons (NKc.kh r1) (.cons (NKc.kh r2) .nil))
instance {α β : Type} [Enc α] [Enc β] : NKr (α × β) := ⟨fun ⟨p, v1, v2, e, _⟩ => ⟨p, e⟩⟩
instance {α β γ : Type} [Enc α] [Enc β] [Enc γ] [NKc α] [NKc β] [NKc γ] : NKc (T3 α β γ) where
  nk := fun x => .tup [NKc.nk x.a, NKc.nk x.b, NKc.nk x.c]
  inj := fun a b e => by
    injection e with e
    injection e with e1 e
    injection e with e2 e
    injection e with e3 _
    cases a; cases b
    simp only at e1 e2 e3
    rw [NKc.inj _ _ e1, NKc.inj _ _ e2, NKc.inj _ _ e3]
  dp := max (NKc.dp α) (max (NKc.dp β) (NKc.dp γ)) + 1
  dep := fun x => by
    have h1 := NKc.dep x.a
    have h2 := NKc.dep x.b
    have h3 := NKc.dep x.c
    simp only [NestedKey.depth, NestedKey.depthAll]
    omega
  kh := fun {K H v a} ⟨p, v1, v2, v3, e, h, r1, r2, r3⟩ => by rw [e]; exact .tup (SqT.of h) (.cons (NKc.kh r1) (.cons (NKc.kh r2) (.cons (NKc.kh r3) .nil)))
instance {α β γ : Type} [Enc α] [Enc β] [Enc γ] : NKr (T3 α β γ) := ⟨fun ⟨p, _, _, _, e, _⟩ => ⟨p, e⟩⟩
instance {α β γ δ : Type} [Enc α] [Enc β] [Enc γ] [Enc δ] [NKc α] [NKc β] [NKc γ] [NKc δ] : NKc (T4 α β γ δ) where
  nk := fun x => .tup [NKc.nk x.a, NKc.nk x.b, NKc.nk x.c, NKc.nk x.d]
  inj := fun a b e => by
    injection e with e
    injection e with e1 e
    injection e with e2 e
    injection e with e3 e
    injection e with e4 _
    cases a; cases b
    simp only at e1 e2 e3 e4
    rw [NKc.inj _ _ e1, NKc.inj _ _ e2, NKc.inj _ _ e3, NKc.inj _ _ e4]
  dp := max (max (NKc.dp α) (NKc.dp β)) (max (NKc.dp γ) (NKc.dp δ)) + 1
  dep := fun x => by
    have h1 := NKc.dep x.a
    have h2 := NKc.dep x.b
    have h3 := NKc.dep x.c
    have h4 := NKc.dep x.d
    simp only [NestedKey.depth, NestedKey.depthAll]
    omega
  kh := fun {K H v a} ⟨p, v1, v2, v3, v4, e, h, r1, r2, r3, r4⟩ => by rw [e]; exact .tup (SqT.of h) (.cons (NKc.kh r1) (.cons (NKc.kh r2) (.cons (NKc.kh r3) (.cons (NKc.kh r4) .nil))))
instance {α β γ δ : Type} [Enc α] [Enc β] [Enc γ] [Enc δ] : NKr (T4 α β γ δ) := ⟨fun ⟨p, _, _, _, _, e, _⟩ => ⟨p, e⟩⟩
theorem nk_map_inj {α : Type} [Enc α] [NKc α] : ∀ {a b : List α}, a.map NKc.nk = b.map NKc.nk → a = b
  | [], [], _ => rfl
  | [], _ :: _, e => by cases e
  | _ :: _, [], e => by cases e
  | x :: a, y :: b, e => by
    rw [List.map_cons, List.map_cons] at e
    injection e with e1 e2
    rw [NKc.inj _ _ e1, nk_map_inj e2]
theorem nk_map_dep {α : Type} [Enc α] [NKc α] : ∀ a : List α, NestedKey.depthAll (a.map NKc.nk) ≤ NKc.dp α
  | [] => by simp [NestedKey.depthAll]
  | x :: a => by
    have h1 := NKc.dep x
    have h2 := nk_map_dep a
    simp only [List.map_cons, NestedKey.depthAll]
    omega
theorem nk_map_kh {α : Type} [Enc α] [NKc α] {K : Frag} {H : Hp} : ∀ {vs : List V} {a : List α}, All2 (fun v a => Enc.rep K H v a) vs a → KHs K H (a.map NKc.nk) vs
  | [], [], _ => .nil
  | _ :: _, _ :: _, ⟨x, y⟩ => .cons (NKc.kh x) (nk_map_kh y)
  | [], _ :: _, h => h.elim
  | _ :: _, [], h => h.elim
instance {α : Type} [Enc α] [NKc α] : NKc (Tup α) where
  nk := fun x => .tup (x.l.map NKc.nk)
  inj := fun a b e => by
    injection e with e
    have e := nk_map_inj e
    cases a; cases b
    cases e; rfl
  dp := NKc.dp α + 1
  dep := fun x => by
    have h := nk_map_dep x.l
    simp only [NestedKey.depth]
    omega
  kh := fun {K H v a} ⟨p, vs, e, h, r⟩ => by rw [e]; exact .tup h (nk_map_kh r)
instance {α : Type} [Enc α] : NKr (Tup α) := ⟨fun ⟨p, _, e, _⟩ => ⟨p, e⟩⟩

abbrev NKV := NestedKey × Addr × V
abbrev NRel : List NKV → List (NestedKey × Addr × Value) → Prop := Paired fun p q => (p.1 = q.1 ∧ p.2.1 = q.2.1) ∧ RelV p.2.2 q.2.2
def nIs (P : Program) (w : World) (a : Addr) (kvs : List NKV) (h : Heap) : Prop :=
  (kvs.length ≤ sizeLine ∧ (a == sysModules) = false) ∧ ∃ (o : Obj) (es : Array DictEntry) (ep : Nat) (xs : List (NestedKey × Addr × Value)), h.get? a = some o ∧ (o.ExactDict ∧ o.data = .dict es ep) ∧ NRel kvs xs ∧
    es.toList = xs.map (entryOfKey (nestedKind P w)) ∧ (xs.map (·.1)).Nodup
def hN (P : Program) (w : World) (a : Addr) (kvs : List NKV) : HO := .ext (nIs P w a kvs)
def valN (kvs : List NKV) (k : NestedKey) : Option V := (kvs.find? fun x => decide (x.1 = k)).map fun x => x.2.2
def putN (kvs : List NKV) (k : NestedKey) (b : Addr) (v : V) : List NKV :=
  if (valN kvs k).isSome = true then kvs.map (fun x => if x.1 = k then (x.1, x.2.1, v) else x) else kvs ++ [(k, b, v)]
theorem valN_pos {x : NKV} {r : List NKV} {k : NestedKey} (e : x.1 = k) : valN (x :: r) k = some x.2.2 := by simp [valN, List.find?_cons, e]
theorem valN_neg {x : NKV} {r : List NKV} {k : NestedKey} (e : ¬ x.1 = k) : valN (x :: r) k = valN r k := by simp [valN, List.find?_cons, e]
theorem NRel.val {kvs : List NKV} {xs : List (NestedKey × Addr × Value)} (r : NRel kvs xs) (k : NestedKey) : RelO (valN kvs k) ((atKey xs k).map (·.2)) := by
  induction r with
  | nil => exact True.intro
  | @cons p q ps qs h t ih =>
    by_cases e : p.1 = k
    · rw [valN_pos e, show atKey (q :: qs) k = some q.2 by simp [atKey, List.find?_cons, h.1.1.symm.trans e]]
      exact h.2
    · rw [valN_neg e, show atKey (q :: qs) k = atKey qs k by simp [atKey, List.find?_cons, show ¬ q.1 = k from fun z => e (h.1.1.trans z)]]
      exact ih
theorem NRel.put {kvs : List NKV} {xs : List (NestedKey × Addr × Value)} (r : NRel kvs xs) (k : NestedKey) (b : Addr) {y : V} {u : Value} (ry : RelV y u) : NRel (putN kvs k b y) (storedH xs k b u) := by
  have e := (r.val k).isSome_eq
  rw [Option.isSome_map] at e
  unfold putN storedH
  rw [e]
  split
  · rename_i hc
    clear hc e
    induction r with
    | nil => exact .nil
    | @cons p q ps qs h t ih =>
      rw [List.map_cons, List.map_cons]
      refine .cons ?_ ih
      unfold putAt
      by_cases e : p.1 = k
      · rw [if_pos e, if_pos (h.1.1.symm.trans e)]; exact ⟨h.1, ry⟩
      · rw [if_neg e, if_neg (fun z => e (h.1.1.trans z))]; exact h
  · exact Paired.snoc r ⟨⟨rfl, rfl⟩, ry⟩
def KeyN (K : Frag) (H : Hp) (k : NestedKey) (b : Addr) : Prop := KH K H k (.ref b) ∧ k.depth ≤ 8
theorem KeyN.mono {K : Frag} {H H' : Hp} {k : NestedKey} {b : Addr} (s : Same H H') (h : KeyN K H k b) : KeyN K H' k b := ⟨h.1.mono s, h.2⟩
section
variable {X : Cx} {pins : List (Addr × Obj)} {σ : L2.St} {H : Hp} {s : Shared} {a b : Addr} {k : NestedKey} {kvs : List NKV} {A : Around} {E : Value → Shared → Prop}
structure NGet (X : Cx) (H : Hp) (a : Addr) (y : V) (r : Option V) : Prop where
  ex : ∃ kvs k b, Rd H a (hN X.prog X.w a kvs) ∧ (∀ x ∈ kvs, KeyN X.K H x.1 x.2.1) ∧ y = .ref b ∧ KeyN X.K H k b ∧ r = valN kvs k
variable {y v : V} {u r : Value} {o : Option V}
structure NPut (X : Cx) (H : Hp) (a : Addr) (y v : V) (H' : Hp) : Prop where
  ex : ∃ kvs k b, H a = some (hN X.prog X.w a kvs) ∧ (∀ x ∈ kvs, KeyN X.K H x.1 x.2.1) ∧ y = .ref b ∧ KeyN X.K H k b ∧ kvs.length < sizeLine ∧ H' = upd H a (hN X.prog X.w a (putN kvs k b v))
end
end G

namespace G
open PySem PySem.Spec PyProof.Rows L2
section
variable {X : Cx} {o i value : Expr} {pos pos' : Pos} {td ty tv : TE}
end
section
variable {κ β : Type} [Enc κ] [DecidableEq κ] [NKc κ] [Enc β]
abbrev RepN (K : Frag) (F : Hp) (kvs : List NKV) (l : List (κ × β)) : Prop := All2 (fun (x : NKV) (y : κ × β) => (x.1 = NKc.nk y.1 ∧ Enc.rep K F (V.ref x.2.1) y.1) ∧ Enc.rep K F x.2.2 y.2) kvs l
theorem RepN.mono {K : Frag} {F F' : Hp} {kvs : List NKV} {l : List (κ × β)} (s : Same F F') (h : RepN K F kvs l) : RepN K F' kvs l := All2.imp (fun _ _ x => ⟨⟨x.1.1, Enc.mono s x.1.2⟩, Enc.mono s x.2⟩) h
instance (priority := low) encN [Pw] : Enc (Dic κ β) :=
  ⟨fun K H v d => ∃ p kvs, v = .ref p ∧ Rd H p (hN Pw.prog Pw.w p kvs) ∧ RepN K H kvs d.l, fun s ⟨p, kvs, e, h, r⟩ => ⟨p, kvs, e, rd_mono s h, RepN.mono s r⟩⟩
def owN [Pw] (d : Dic κ β) : Slot := ⟨fun K F G o => ∃ p kvs, o = some (.ref p) ∧ G p = some (hN Pw.prog Pw.w p kvs) ∧ RepN K F kvs d.l, fun s t ⟨p, kvs, e, h, r⟩ => ⟨p, kvs, e, t _ _ h, RepN.mono s r⟩⟩
structure LDic (κ β : Type) where
  d : Dic κ β
instance encL [Pw] : Enc (LDic κ β) :=
  ⟨fun K H v x => ∃ p kvs ob, v = .ref p ∧ H p = some (.frz ob (hN Pw.prog Pw.w p kvs)) ∧ RepN K H kvs x.d.l, fun s ⟨p, kvs, ob, e, h, r⟩ => ⟨p, kvs, ob, e, s _ _ h, RepN.mono s r⟩⟩
instance [Pw] : NN (LDic κ β) := ⟨fun ⟨_, _, _, e1, _⟩ e => by rw [e] at e1; cases e1⟩
instance [Pw] : View (owN (κ := κ) (β := β)) := ⟨fun ⟨p, kvs, e, g, r⟩ => by cases e; exact ⟨p, kvs, rfl, .inl g, r⟩⟩
instance [Pw] : NN (Dic κ β) := ⟨fun ⟨_, _, e1, _⟩ e => by rw [e] at e1; cases e1⟩
variable [Pw] [NKr κ] {X : Cx} {W : WX} {ss : List Slot} {pos : Pos} {a b e : Expr}
variable {mk : Res κ} {md : Res (Dic κ β)}
end
section
variable {κ β : Type} [Enc κ] [DecidableEq κ] [NKc κ] [Enc β] [Pw] {X : Cx} {W : WX} {ss : List Slot}
end
end G

namespace G
open PySem PySem.Spec PyProof.Rows L2
section
variable {X : Cx} {pins : List (Addr × Obj)} {σ : L2.St} {H : Hp} {s : Shared} {d : Addr} {o : Obj} {P : Program} {w : World}
end
def ItNk (P : Program) (w : World) (d : Addr) (o : Obj) (kvs : List NKV) : It :=
  ⟨fun i H => H d = some (.frz o (hN P w d kvs)) ∧ i < kvs.length, fun i H x H' => H' = H ∧ ∃ kv, kvs[i]? = some kv ∧ x = .ref kv.2.1, fun i H => H d = some (.frz o (hN P w d kvs)) ∧ kvs.length ≤ i⟩
def ItNv (P : Program) (w : World) (d : Addr) (o : Obj) (kvs : List NKV) : It :=
  ⟨fun i H => H d = some (.frz o (hN P w d kvs)) ∧ i < kvs.length, fun i H x H' => H' = H ∧ ∃ kv, kvs[i]? = some kv ∧ x = kv.2.2, fun i H => H d = some (.frz o (hN P w d kvs)) ∧ kvs.length ≤ i⟩
def ItNi (P : Program) (w : World) (d : Addr) (o : Obj) (kvs : List NKV) : It :=
  ⟨fun i H => H d = some (.frz o (hN P w d kvs)) ∧ i < kvs.length, fun i H x H' => ∃ T kv, kvs[i]? = some kv ∧ x = .ref T ∧ H T = none ∧ H' = upd H T (.tup [.ref kv.2.1, kv.2.2]), fun i H => H d = some (.frz o (hN P w d kvs)) ∧ kvs.length ≤ i⟩
section
variable {P P' : Program} {w w' : World} {K : PySem.W.Frag} {tg : Expr} {d : Addr} {o : Obj} {es : Array DictEntry} {ep : Nat} {kvs : List NKV}
end
section
variable {P : Program} {w : World} {X : Cx} {tg e : Expr} {td : TE} {apos cpos : Pos}
end
section
variable {κ β : Type} [Enc κ] [DecidableEq κ] [NKc κ] [Enc β] [Pw] {X : Cx} {W : WX} {ss : List Slot} {tg e : Expr} {m : Res (LDic κ β)} {apos cpos : Pos}
def dvals (d : Dic κ β) : List β := d.l.map (·.2)
end
end G

namespace G
open PySem PySem.Spec PyProof.Rows L2
section
variable {X : Cx}
def mergeN (kvs more : List NKV) : List NKV := more.foldl (fun acc x => putN acc x.1 x.2.1 x.2.2) kvs
end
section
variable {κ β : Type} [Enc κ] [DecidableEq κ] [NKc κ] [Enc β] [Pw] {X : Cx} {W : WX} {ss : List Slot} {pos : Pos} {a b e : Expr} {md : Res (Dic κ β)}
end
end G

namespace G
open PySem PySem.Spec PyProof.Rows L2
section
variable {κ β : Type} [Enc κ] [DecidableEq κ] [NKc κ] [Enc β]
def ownL (K : Frag) (F G : Hp) (v : V) (as : List β) : Prop := ∃ q vs, v = .ref q ∧ G q = some (.lst vs) ∧ All2 (fun v a => Enc.rep K F v a) vs as
theorem ownL.mono {K : Frag} {F F' G G' : Hp} {v : V} {as : List β} (s : Same F F') (t : Same G G') (h : ownL K F G v as) : ownL K F' G' v as := let ⟨q, vs, e, g, r⟩ := h; ⟨q, vs, e, t _ _ g, r.mono s⟩
abbrev RepL (K : Frag) (F G : Hp) (kvs : List NKV) (l : List (κ × List β)) : Prop := All2 (fun (x : NKV) (y : κ × List β) => (x.1 = NKc.nk y.1 ∧ Enc.rep K F (V.ref x.2.1) y.1) ∧ ownL K F G x.2.2 y.2) kvs l
theorem RepL.mono {K : Frag} {F F' G G' : Hp} {kvs : List NKV} {l : List (κ × List β)} (s : Same F F') (t : Same G G') (h : RepL K F G kvs l) : RepL K F' G' kvs l := All2.imp (fun _ _ x => ⟨⟨x.1.1, Enc.mono s x.1.2⟩, x.2.mono s t⟩) h
theorem RepL.view {K : Frag} {F G H : Hp} {kvs : List NKV} {l : List (κ × List β)} (s : Same F H) (t : Same G H) (h : RepL K F G kvs l) : RepN K H kvs l :=
  All2.imp (fun _ _ x => ⟨⟨x.1.1, Enc.mono s x.1.2⟩, let ⟨q, vs, e, g, r⟩ := x.2; ⟨q, vs, e, t _ _ g, r.mono s⟩⟩) h
theorem RepL.keep {K : Frag} {F G G' : Hp} {kvs : List NKV} {l : List (κ × List β)} (t : ∀ q vs, G q = some (.lst vs) → G' q = some (.lst vs)) (h : RepL K F G kvs l) : RepL K F G' kvs l := All2.imp (fun _ _ x => ⟨x.1, let ⟨q, vs, e, g, r⟩ := x.2; ⟨q, vs, e, t _ _ g, r⟩⟩) h
def owL [Pw] (d : Dic κ (List β)) : Slot :=
  ⟨fun K F G o => ∃ (p : Addr) (kvs : List NKV), o = some (.ref p) ∧ (G p = some (hN Pw.prog Pw.w p kvs) ∧ (kvs.map fun x : NKV => x.2.2).Nodup ∧ (dkeys d).Nodup) ∧ RepL K F G kvs d.l, fun s t ⟨p, kvs, e, h, r⟩ => ⟨p, kvs, e, ⟨t _ _ h.1, h.2.1, h.2.2⟩, RepL.mono s t r⟩⟩
instance [Pw] : View (owL (κ := κ) (β := β)) := ⟨fun ⟨p, kvs, e, g, r⟩ => by cases e; exact ⟨p, kvs, rfl, .inl g.1, RepL.view (Same.refl _) (Same.refl _) r⟩⟩
variable [Pw] [NKr κ] {X : Cx} {W : WX} {ss : List Slot} {pos : Pos} {a e : Expr} {mk : Res κ}
end
section
variable {κ β : Type} [Enc κ] [DecidableEq κ] [NKc κ] [Enc β] [Pw] {X : Cx} {W : WX} {ss : List Slot} {pos : Pos} {a b e : Expr} {mk : Res κ} {md : Res (Dic κ β)}
end
end G

namespace G
open PySem PySem.Spec PyProof.Rows L2
def dofP {κ β : Type} [DecidableEq κ] (l : List (κ × β)) : Dic κ β := l.foldl (fun d x => dput d x.1 x.2) ⟨[]⟩
section
variable {κ β : Type} [Enc κ] [DecidableEq κ] [NKc κ] [NKr κ] [Enc β]
variable [Pw] {X : Cx} {W : WX} {ss : List Slot} {pos : Pos} {e : Expr}
end
section
variable {X : Cx} {W : WX} {ss : List Slot} {pos : Pos} {e : Expr} {α : Type} [Enc α]
def t3c {α β γ : Type} (x : T3 α β (Option γ)) : Res (T3 α β γ) := match x.c with
  | some c => .ok ⟨x.a, x.b, c⟩
  | none => .stuck
end
end G

namespace G
open PySem PySem.Spec PyProof.Rows L2
structure T0 where
structure T1 (α : Type) where
  a : α
instance : Enc T0 := ⟨fun K H v _ => ∃ p, v = .ref p ∧ SqT K H p [], fun s ⟨p, e, h⟩ => ⟨p, e, seqT s h⟩⟩
instance : Imm T0 := ⟨fun ⟨p, e, h⟩ => ⟨p, e, seqT_tups h⟩⟩
instance {α : Type} [Enc α] : Enc (T1 α) := ⟨fun K H v x => ∃ p v1, v = .ref p ∧ H p = some (.tup [v1]) ∧ Enc.rep K H v1 x.a, fun s ⟨p, v1, e, h, r⟩ => ⟨p, v1, e, s _ _ h, Enc.mono s r⟩⟩
instance {α : Type} [Enc α] [Imm α] : Imm (T1 α) := ⟨fun ⟨p, v1, e, h, r⟩ => ⟨p, v1, e, tups_some h rfl, Imm.imm r⟩⟩
class TV (τ : Type) [Enc τ] where
  n : Nat
  PV : Frag → Hp → List V → τ → Prop
  len : ∀ {K : Frag} {H : Hp} {vs : List V} {x : τ}, PV K H vs x → vs.length = n
  out : ∀ {K : Frag} {H : Hp} {v : V} {x : τ}, Enc.rep K H v x → ∃ p vs, v = .ref p ∧ SqT K H p vs ∧ PV K H vs x
  inn : ∀ {K : Frag} {H : Hp} {p : Addr} {vs : List V} {x : τ}, H p = some (.tup vs) → PV K H vs x → Enc.rep K H (.ref p) x
  up : ∀ {K : Frag} {H H' : Hp} {vs : List V} {x : τ}, Same H H' → PV K H vs x → PV K H' vs x
instance : TV T0 := ⟨0, fun _ _ vs _ => vs = [], fun h => by rw [h]; rfl, fun ⟨p, e, h⟩ => ⟨p, [], e, h, rfl⟩, fun h e => by subst e; exact ⟨_, rfl, SqT.of h⟩, fun _ h => h⟩
instance {α : Type} [Enc α] : TV (T1 α) := ⟨1, fun K H vs x => ∃ v1, vs = [v1] ∧ Enc.rep K H v1 x.a, fun ⟨v1, e, _⟩ => by rw [e]; rfl, fun ⟨p, v1, e, h, r⟩ => ⟨p, _, e, SqT.of h, v1, rfl, r⟩, fun h ⟨v1, e, r⟩ => by subst e; exact ⟨_, v1, rfl, h, r⟩, fun s ⟨v1, e, r⟩ => ⟨v1, e, Enc.mono s r⟩⟩
instance {α β : Type} [Enc α] [Enc β] : TV (α × β) := ⟨2, fun K H vs x => ∃ v1 v2, vs = [v1, v2] ∧ Enc.rep K H v1 x.1 ∧ Enc.rep K H v2 x.2, fun ⟨v1, v2, e, _⟩ => by rw [e]; rfl, fun ⟨p, v1, v2, e, h, r⟩ => ⟨p, _, e, SqT.of h, v1, v2, rfl, r⟩,
  fun h ⟨v1, v2, e, r⟩ => by subst e; exact ⟨_, v1, v2, rfl, h, r⟩, fun s ⟨v1, v2, e, r1, r2⟩ => ⟨v1, v2, e, Enc.mono s r1, Enc.mono s r2⟩⟩
instance {α β γ : Type} [Enc α] [Enc β] [Enc γ] : TV (T3 α β γ) := ⟨3, fun K H vs x => ∃ v1 v2 v3, vs = [v1, v2, v3] ∧ Enc.rep K H v1 x.a ∧ Enc.rep K H v2 x.b ∧ Enc.rep K H v3 x.c, fun ⟨v1, v2, v3, e, _⟩ => by rw [e]; rfl, fun ⟨p, v1, v2, v3, e, h, r⟩ => ⟨p, _, e, SqT.of h, v1, v2, v3, rfl, r⟩,
  fun h ⟨v1, v2, v3, e, r⟩ => by subst e; exact ⟨_, v1, v2, v3, rfl, h, r⟩, fun s ⟨v1, v2, v3, e, r1, r2, r3⟩ => ⟨v1, v2, v3, e, Enc.mono s r1, Enc.mono s r2, Enc.mono s r3⟩⟩
instance {α β γ δ : Type} [Enc α] [Enc β] [Enc γ] [Enc δ] : TV (T4 α β γ δ) := ⟨4, fun K H vs x => ∃ v1 v2 v3 v4, vs = [v1, v2, v3, v4] ∧ Enc.rep K H v1 x.a ∧ Enc.rep K H v2 x.b ∧ Enc.rep K H v3 x.c ∧ Enc.rep K H v4 x.d, fun ⟨v1, v2, v3, v4, e, _⟩ => by rw [e]; rfl,
  fun ⟨p, v1, v2, v3, v4, e, h, r⟩ => ⟨p, _, e, SqT.of h, v1, v2, v3, v4, rfl, r⟩, fun h ⟨v1, v2, v3, v4, e, r⟩ => by subst e; exact ⟨_, v1, v2, v3, v4, rfl, h, r⟩, fun s ⟨v1, v2, v3, v4, e, r1, r2, r3, r4⟩ => ⟨v1, v2, v3, v4, e, Enc.mono s r1, Enc.mono s r2, Enc.mono s r3, Enc.mono s r4⟩⟩
section
variable {X : Cx} {W : WX} {ss : List Slot} {pos : Pos} {a : Expr}
structure Cats {τ₁ τ₂ τ₃ : Type} [Enc τ₁] [Enc τ₂] [Enc τ₃] [TV τ₁] [TV τ₂] [TV τ₃] (f : τ₁ → τ₂ → τ₃) : Prop where
  pv : ∀ {K : Frag} {H : Hp} {vs ws : List V} {x : τ₁} {y : τ₂}, TV.PV K H vs x → TV.PV K H ws y → TV.PV K H (vs ++ ws) (f x y)
  p1 : TV.n τ₁ ≠ 0
  z2 : TV.n τ₂ = 0 → ∀ {K : Frag} {H : Hp} {v : V} {x : τ₁} (y : τ₂), Enc.rep K H v x → Enc.rep K H v (f x y)
  le : TV.n τ₁ + TV.n τ₂ ≤ 100
structure Slcs {τ₁ τ₂ : Type} [Enc τ₁] [Enc τ₂] [TV τ₁] [TV τ₂] (lo hi : Option Int) (f : τ₁ → τ₂) : Prop where
  pv : ∀ {K : Frag} {H : Hp} {vs : List V} {x : τ₁}, TV.PV K H vs x → TV.PV K H (cutV vs lo hi) (f x)
  nw : ¬ (HT.sIx (TV.n τ₁) 0 lo = 0 ∧ HT.sIx (TV.n τ₁) (TV.n τ₁) hi = TV.n τ₁)
end
def memB {α : Type} [DecidableEq α] (x : α) (l : List α) : Bool := decide (x ∈ l)
section
variable {α β γ δ : Type} [Enc α] [Enc β] [Enc γ] [Enc δ]
end
end G

namespace G
open PySem PySem.Spec PyProof.Rows L2
section
variable {X : Cx} {W : WX} {ss : List Slot} {pos : Pos} {a : Expr}
end
end G

namespace G
open PySem PySem.Spec PyProof.Rows L2
section
def pcmpB (a b : PyData × PyData) : Bool := PySem.W.alike a.1 b.1 && (!PyData.eqv a.1 b.1 || (PySem.W.alike a.2 b.2 && PyData.eqv a.2 b.2))
def firB (ps : List (PyData × PyData)) : Bool := ps.all fun a => ps.all fun b => pcmpB a b
noncomputable def firstKind (h : Heap) (ps : List (PyData × PyData)) : PyProof.Rows.KeyKind where
  toKeyOrd := listOrd itemOrd
  keyOf v := open Classical in if q : ∃ p, p ∈ ps ∧ ∃ as, Reads h v (.tuple [p.1, p.2]) as then some (PySem.W.keyToks q.choose.1) else none
  dflt := ([] : List (Int ⊕ List Nat))
section
variable {prog : Program} {w : World} {A : Around} {E : Value → Shared → Prop} {s : Shared}
end
end
def srtF {κ α : Type} [Enc κ] [Enc α] [Dat κ] [Dat α] (xs : List (κ × α)) : List (κ × α) := xs.mergeSort (PySem.W.dataLe false fun a : κ × α => Dat.py a.1)
def sortF {κ α : Type} [Enc κ] [Enc α] [Dat κ] [Dat α] (xs : List (κ × α)) : Res (List (κ × α)) := guardR (decide (Dat.dep κ ≤ 30) && (decide (Dat.dep α ≤ 30) && firB (xs.map fun x => (Dat.py x.1, Dat.py x.2)))) (.ok (srtF xs))
section
variable {X : Cx} {W : WX} {ss : List Slot} {e : Expr}
end
end G

namespace G
open PySem PySem.Spec PyProof.Rows L2
instance {α β : Type} [Enc α] [Enc β] : Enc (α ⊕ β) := ⟨fun K H v x => match x with
  | .inl a => Enc.rep K H v a
  | .inr b => Enc.rep K H v b, fun {K H H' v x} s h => by
    cases x with
    | inl a => exact Enc.mono (α := α) s h
    | inr b => exact Enc.mono (α := β) s h⟩
instance {α β : Type} [Enc α] [Enc β] [Imm α] [Imm β] : Imm (α ⊕ β) := ⟨fun {K H v x} h => by
  cases x with
  | inl a => exact Imm.imm (α := α) h
  | inr b => exact Imm.imm (α := β) h⟩
instance {α β : Type} [Enc α] [Enc β] [NN α] [NN β] : NN (α ⊕ β) := ⟨fun {K H v x} h => by
  cases x with
  | inl a => exact NN.nn (α := α) h
  | inr b => exact NN.nn (α := β) h⟩
instance {α β : Type} [Enc α] [Enc β] [Dat α] [Dat β] : Dat (α ⊕ β) where
  py := fun x => match x with | .inl a => Dat.py a | .inr b => Dat.py b
  dp := fun {K H v x} h => by
    cases x with
    | inl a => exact Dat.dp (α := α) h
    | inr b => exact Dat.dp (α := β) h
  lay := fun x => match x with | .inl a => Dat.lay a | .inr b => Dat.lay b
  dep := max (Dat.dep α) (Dat.dep β)
  layOk := fun {x} h => by
    cases x with
    | inl a => exact Dat.layOk (α := α) h
    | inr b => exact Dat.layOk (α := β) h
  depOk := fun x => by
    cases x with
    | inl a => exact Nat.le_trans (Dat.depOk a) (Nat.le_max_left _ _)
    | inr b => exact Nat.le_trans (Dat.depOk b) (Nat.le_max_right _ _)
def unl {α β : Type} : α ⊕ β → Res α
  | .inl a => .ok a
  | .inr _ => .stuck
def unr {α β : Type} : α ⊕ β → Res β
  | .inl _ => .stuck
  | .inr b => .ok b
section
variable {X : Cx} {W : WX} {ss : List Slot} {e : Expr} {α β : Type} [Enc α] [Enc β]
end
end G

namespace G
open PySem PySem.Spec PyProof.Rows L2
def orPl {α β : Type} : Option (List α ⊕ List β) → List α ⊕ List β
  | none => .inl []
  | some (.inl []) => .inl []
  | some (.inr []) => .inl []
  | some (.inl (x :: l)) => .inl (x :: l)
  | some (.inr (x :: l)) => .inr (x :: l)
section
variable {X : Cx} {W : WX} {ss : List Slot} {e b : Expr} {pos : Pos} {α β : Type} [Enc α] [Enc β]
def unlL {α β : Type} : List α ⊕ List β → Res (List α)
  | .inl l => .ok l
  | .inr [] => .ok []
  | .inr (_ :: _) => .stuck
def unrL {α β : Type} : List α ⊕ List β → Res (List β)
  | .inr l => .ok l
  | .inl [] => .ok []
  | .inl (_ :: _) => .stuck
end
end G

namespace G
open PySem PySem.Spec PyProof.Rows L2
def dyO : Dy → Res (Option Int)
  | .non => .ok none
  | .int i => .ok (some i)
  | _ => .stuck
def t4L : List Dy → Res (T4 Str (Option Int) (Option Int) Int)
  | [.str a, b, c, .int d] => (dyO b).bind fun b => (dyO c).bind fun c => .ok ⟨a, b, c, d⟩
  | _ => .stuck
def t3L : List Dy → Res (T3 Str (Option Int) (Option Int))
  | [.str a, b, c] => (dyO b).bind fun b => (dyO c).bind fun c => .ok ⟨a, b, c⟩
  | _ => .stuck
structure TupTo {τ : Type} [Enc τ] (c : List Dy → Res τ) : Prop where
  rep : ∀ {K : Frag} {F : Hp} {p : Addr} {vs : List V} {xs : List Dy} {y : τ}, c xs = .ok y → All2 (fun v (d : Dy) => Enc.rep K F v d) vs xs → F p = some (.tup vs) → Enc.rep K F (.ref p) y
  nox : ∀ xs, NoX (c xs)
section
variable {X : Cx} {W : WX} {ss : List Slot} {a : Expr} {pos : Pos}
end
end G

namespace G
open PySem PySem.Spec PyProof.Rows L2
def sumL {α β : Type} : List α ⊕ List β → List (α ⊕ β)
  | .inl l => l.map Sum.inl
  | .inr l => l.map Sum.inr
instance {α β : Type} [Enc α] [Enc β] [ToDy α] [ToDy β] : ToDy (α ⊕ β) := ⟨fun x => match x with
  | .inl a => ToDy.dy a
  | .inr b => ToDy.dy b, fun {K H v x} h => by
    cases x with
    | inl a => exact ToDy.rep (α := α) h
    | inr b => exact ToDy.rep (α := β) h⟩
section
variable {X : Cx} {W : WX} {ss : List Slot} {e a : Expr} {pos : Pos} {α β : Type} [Enc α] [Enc β]
structure It1 (τ : Type) [Enc τ] {γ : Type} [Enc γ] (i : Int) (f : τ → γ) : Prop where
  at1 : ∀ {K : Frag} {H : Hp} {v : V} {x : τ}, Enc.rep K H v x → ∃ p vs u, v = .ref p ∧ SqT K H p vs ∧ atI vs i = some u ∧ Enc.rep K H u (f x)
section
variable {γ δ ε : Type} [Enc γ] [Enc δ] [Enc ε]
end
end
end G

namespace G
open PySem PySem.Spec PyProof.Rows L2
def rLtD (K : Frag) : R2 := fun x y H Q => ∃ d d', Dp K H x d ∧ Dp K H y d' ∧ PySem.W.alike d d' = true ∧ d ≠ .none ∧ d.depth ≤ 60 ∧ Q (.bl (PySem.W.dataLt d d')) H
def ltD {α : Type} [Enc α] [Dat α] (a b : α) : Res Bool := guardR (decide (Dat.dep α ≤ 60) && PySem.W.alike (Dat.py a) (Dat.py b) && isTup1 (Dat.py a)) (.ok (PySem.W.dataLt (Dat.py a) (Dat.py b)))
section
variable {X : Cx}
end
end G

namespace G
open PySem PySem.Spec PyProof.Rows L2
section
variable {κ β : Type} [Enc κ] [DecidableEq κ] [DK κ] [Enc β]
variable {X : Cx} {W : WX} {ss : List Slot} {pos : Pos} {a b : Expr}
end
def opR {α : Type} : Option α → Res α
  | some a => .ok a
  | none => .stuck
def gsAt {α β : Type} : ((β × Option α) ⊕ T3 β (Option α) (Option α)) → Int → Res α
  | .inl y, i => if i = 1 then opR y.2 else .stuck
  | .inr y, i => if i = 1 then opR y.b else if i = 2 then opR y.c else .stuck
section
variable {α β : Type} [Enc α] [Enc β] {X : Cx} {W : WX} {ss : List Slot} {pos : Pos} {a b : Expr}
end
end G

namespace G
open PySem PySem.Spec PyProof.Rows L2
instance {α : Type} [Enc α] [Dat α] : Dat (T1 α) where
  py := fun x => .tuple [Dat.py x.a]
  dp := fun ⟨p, v1, e, h, r1⟩ => by rw [e]; exact .tup (SqT.of h) (.cons (Dat.dp r1) .nil)
  lay := fun x => Dat.lay x.a
  dep := Dat.dep α + 1
  layOk := fun h => by
    simp only [PyData.canLay0, PyData.canLayAll0, and_true, Bool.and_true]
    exact Dat.layOk h
  depOk := fun x => by
    have h1 := Dat.depOk x.a
    simp only [PyData.depth, PyData.depthAll]
    omega
instance {α : Type} [Enc α] : HasTy (T1 α) := ⟨"tuple", fun ⟨p, v1, e, h, _⟩ => by rw [e]; exact .base (.tup h)⟩
class TyEq (α β : Type) [Enc α] [Enc β] [HasTy α] [HasTy β] : Prop where
  eq : HasTy.ty α = HasTy.ty β
section
variable {α β γ δ ε : Type} [Enc α] [Enc β] [Enc γ] [Enc δ] [Enc ε]
instance : TyEq (List α) (List β) := ⟨rfl⟩
instance : TyEq (α × β) (T3 γ δ ε) := ⟨rfl⟩
instance : TyEq (α × β) (T1 γ) := ⟨rfl⟩
instance [HasTy α] [HasTy β] [TyEq α β] : HasTy (α ⊕ β) := ⟨HasTy.ty α, fun {K H v x} h => by
  cases x with
  | inl a => exact HasTy.ok (α := α) h
  | inr b =>
    rw [TyEq.eq (α := α) (β := β)]
    exact HasTy.ok (α := β) h⟩
end
section
variable {X : Cx} {W : WX} {ss : List Slot} {e a : Expr} {pos : Pos}
structure SlcT {τ α : Type} [Enc τ] [Enc α] [TV τ] (lo hi : Option Int) (f : τ → Tup α) : Prop where
  pv : ∀ {K : Frag} {H : Hp} {vs : List V} {x : τ}, TV.PV K H vs x → All2 (fun v a => Enc.rep K H v a) (cutV vs lo hi) (f x).l
  nw : ¬ (HT.sIx (TV.n τ) 0 lo = 0 ∧ HT.sIx (TV.n τ) (TV.n τ) hi = TV.n τ)
section
variable {α β : Type} [Enc α] [Enc β]
end
end
end G

namespace G
open PySem PySem.Spec PyProof.Rows L2
theorem SN.slots {X : Cx} {W : WX} {S : Type} {ss ss' : List Slot} {sts : List Stmt} {M : Res S} {post : S → List Slot} (h : SN X W ss' sts M post) (q : ss = ss') : SN X W ss sts M post := q ▸ h
theorem SB.slots {X : Cx} {W : WX} {S L R : Type} {ss ss' : List Slot} {sts : List Stmt} {M : Res (Out S L R)} {pn : S → List Slot} {pl : L → List Slot} {kr : R → Slot} (h : SB X W ss' sts M pn pl kr) (q : ss = ss') : SB X W ss sts M pn pl kr := q ▸ h
end G

namespace G
open PySem PySem.Spec PyProof.Rows L2
theorem tups2 (F : Hp) : Same (tups F) (tups (tups F)) := fun _ _ z => tups_some z (tups_isT z)
def rgO {α : Type} [Enc α] : Ow α := ⟨fun K F G v a => ∀ H, Same (tups F) H → Same G H → Enc.rep K H v a,
  fun s h H sF sG => h H ((tups_mono s).trans sF) sG, fun s h H sF sG => h H sF (s.trans sG), fun h s t => h _ ((tups_le _).trans s) t⟩
instance {α : Type} [Enc α] : ImmO (rgO (α := α)) := ⟨fun {K F G v a} h H sF sG => h H ((tups2 F).trans sF) sG⟩
class Cst {α β : Type} [Enc α] [Enc β] (f : α → β) : Prop where
  cst : ∀ {K : Frag} {H : Hp} {v : V} {a : α}, Enc.rep K H v a → Enc.rep K H v (f a)
instance {α : Type} [Enc α] : Cst (fun a : α => a) := ⟨id⟩
instance {α β : Type} [Enc α] [Enc β] : Cst (Sum.inl : α → α ⊕ β) := ⟨id⟩
instance {α β : Type} [Enc α] [Enc β] : Cst (Sum.inr : β → α ⊕ β) := ⟨id⟩
instance {α : Type} [Enc α] [NN α] : Cst (some : α → Option α) := ⟨fun h => ⟨NN.nn h, h⟩⟩
section
variable {X : Cx} {W : WX} {ss : List Slot} {e e2 : Expr} {pos : Pos} {rest : List Stmt}
end
section
variable {X : Cx} {W : WX} {ss : List Slot} {e e2 : Expr} {pos : Pos} {rest : List Stmt}
end
end G

namespace G
open PySem PySem.Spec PyProof.Rows L2
class Clr (β : Type) [Enc β] where
  ok : β → Bool
  clr : β → β
  len : β → Nat
  lst : ∀ {K : Frag} {H : Hp} {v : V} {b : β}, Enc.rep K H v b → ok b = true → ∃ q ws, v = .ref q ∧ H q = some (.lst ws) ∧ ws.length = len b
  emp : ∀ {K : Frag} {H : Hp} {q : Addr} {b : β}, H q = some (.lst []) → ok b = true → Enc.rep K H (.ref q) (clr b)
instance {α : Type} [Enc α] : Clr (List α) where
  ok := fun _ => true
  clr := fun _ => []
  len := List.length
  lst := fun ⟨q, ws, e, h, r⟩ _ => ⟨q, ws, e, h, r.length⟩
  emp := fun h _ => ⟨_, [], rfl, h, trivial⟩
instance {α β : Type} [Enc α] [Enc β] [Clr α] [Clr β] : Clr (α ⊕ β) where
  ok := fun x => match x with | .inl a => Clr.ok a | .inr b => Clr.ok b
  clr := fun x => match x with | .inl a => .inl (Clr.clr a) | .inr b => .inr (Clr.clr b)
  len := fun x => match x with | .inl a => Clr.len a | .inr b => Clr.len b
  lst := fun {K H v x} r h => by
    cases x with
    | inl a => exact Clr.lst (β := α) r h
    | inr b => exact Clr.lst (β := β) r h
  emp := fun {K H q x} r h => by
    cases x with
    | inl a => exact Clr.emp (β := α) r h
    | inr b => exact Clr.emp (β := β) r h
instance {α : Type} [Enc α] [Clr α] : Clr (Option α) where
  ok := fun x => match x with | none => false | some a => Clr.ok a
  clr := fun x => match x with | none => none | some a => some (Clr.clr a)
  len := fun x => match x with | none => 0 | some a => Clr.len a
  lst := fun {K H v x} r h => by
    cases x with
    | none => cases h
    | some a => exact Clr.lst (β := α) r.2 h
  emp := fun {K H q x} r h => by
    cases x with
    | none => cases h
    | some a => exact ⟨(fun z => by cases z), Clr.emp (β := α) r h⟩
def spoilR {β γ : Type} [Enc β] [Clr β] (b : β) (m : Res γ) : Res Unit := if Clr.ok b = true then m.bind fun _ => guardR (big (Clr.len b)) (.ok ()) else .stuck
section
variable {X : Cx} {W : WX} {ss : List Slot} {e e2 : Expr} {pos : Pos} {rest : List Stmt}
end
structure Pv where
  v : V
instance : Enc Pv := ⟨fun _ _ v a => v = a.v, fun _ h => h⟩
abbrev PvT (α : Type) := (α × Pv) ⊕ T3 α Pv Pv
def pvs {α : Type} (x : PvT α) : List Pv := x.elim (fun x => [x.2]) (fun x => [x.b, x.c])
def cps {α : Type} [Enc α] (o : V) (x : PvT α) (k : Nat) : Slot :=
  ⟨fun K F G o' => o' = some o ∧ Enc.rep K F o x ∧ ∀ m a, (pvs x)[m]? = some a → ∃ q ws, a.v = .ref q ∧ G q = some (.lst ws) ∧ (m < k → ws = []),
   fun s t ⟨e, r, h⟩ => ⟨e, Enc.mono s r, fun m a z => by
     obtain ⟨q, ws, h1, h2, h3⟩ := h m a z
     exact ⟨q, ws, h1, t _ _ h2, h3⟩⟩⟩
def clrR {α β : Type} [Enc β] [Clr β] (t : (α × β) ⊕ T3 α β β) : Res ((α × β) ⊕ T3 α β β) := match t with
  | .inl x => if Clr.ok x.2 = true then .ok (.inl (x.1, Clr.clr x.2)) else .stuck
  | .inr x => if Clr.ok x.b = true ∧ Clr.ok x.c = true then .ok (.inr ⟨x.a, Clr.clr x.b, Clr.clr x.c⟩) else .stuck
section
variable {X : Cx} {W : WX} {ss : List Slot} {pos : Pos}
def absI (i : Int) : Int := if i < 0 then -i else i
end
end G

namespace G
open PySem PySem.Spec PyProof.Rows L2
section
variable [Pw] {κ β : Type} [Enc κ] [DecidableEq κ] [NKc κ] [Enc β]
def dnO : Ow (Dic κ β) := ⟨fun K F G v d => ∃ p kvs, v = .ref p ∧ G p = some (hN Pw.prog Pw.w p kvs) ∧ RepN K F kvs d.l,
  fun s ⟨p, kvs, e, h, r⟩ => ⟨p, kvs, e, h, RepN.mono s r⟩, fun s ⟨p, kvs, e, h, r⟩ => ⟨p, kvs, e, s _ _ h, r⟩,
  fun ⟨p, kvs, e, h, r⟩ s t => ⟨p, kvs, e, .inl (t _ _ h), RepN.mono s r⟩⟩
def osn : OSl (dnO (κ := κ) (β := β)) := ⟨owN, fun ⟨p, kvs, e, h, r⟩ => ⟨.ref p, e, p, kvs, rfl, h, r⟩, fun _ ⟨p, kvs, e, h, r⟩ => ⟨p, kvs, by rw [e], h, r⟩⟩
end
section
variable {X : Cx} {W : WX} {ss : List Slot} {pos : Pos} {e a : Expr}
variable [Pw] {κ β : Type} [Enc κ] [DecidableEq κ] [NKc κ] [NKr κ] [Enc β]
end
end G

namespace G
open PySem PySem.Spec PyProof.Rows L2
instance {α β γ δ ε : Type} [Enc α] [Enc β] [Enc γ] [Enc δ] [Enc ε] : TV (T5 α β γ δ ε) := ⟨5, fun K H vs x => ∃ v1 v2 v3 v4 v5, vs = [v1, v2, v3, v4, v5] ∧ Enc.rep K H v1 x.a ∧ Enc.rep K H v2 x.b ∧ Enc.rep K H v3 x.c ∧ Enc.rep K H v4 x.d ∧ Enc.rep K H v5 x.e, fun ⟨v1, v2, v3, v4, v5, e, _⟩ => by rw [e]; rfl,
  fun ⟨p, v1, v2, v3, v4, v5, e, h, r⟩ => ⟨p, _, e, SqT.of h, v1, v2, v3, v4, v5, rfl, r⟩, fun h ⟨v1, v2, v3, v4, v5, e, r⟩ => by subst e; exact ⟨_, v1, v2, v3, v4, v5, rfl, h, r⟩, fun s ⟨v1, v2, v3, v4, v5, e, r1, r2, r3, r4, r5⟩ => ⟨v1, v2, v3, v4, v5, e, Enc.mono s r1, Enc.mono s r2, Enc.mono s r3, Enc.mono s r4, Enc.mono s r5⟩⟩
section
variable {α β γ δ ε : Type} [Enc α] [Enc β] [Enc γ] [Enc δ] [Enc ε]
end
def t3ix {α β : Type} (x : T3 α β β) (i : Int) : Res β := if i = 1 then .ok x.b else if i = 2 then .ok x.c else .stuck
section
variable {X : Cx} {W : WX} {ss : List Slot} {pos : Pos} {a b : Expr}
end
end G

namespace G
open PySem PySem.Spec PyProof.Rows L2
abbrev O3 (α β : Type) [Enc α] [Enc β] : Ow (T3 α (List β) (List β)) := t3O (fzO (α := α)) (l1 (α := β)) (l1 (α := β))
def alS {α β : Type} [Enc α] [Enc β] (n : Int) (u : V) (t : T3 α (List β) (List β)) : Slot :=
  ⟨fun K F G o => ∃ p us, o = some (.ref p) ∧ F p = some (.tup us) ∧ atI us n = some u ∧ (O3 α β).own K F G (.ref p) t,
   fun s t' ⟨p, us, e, g, a, h⟩ => ⟨p, us, e, s _ _ g, a, (O3 α β).mG t' ((O3 α β).mF s h)⟩⟩
def t3put {α β : Type} (t : T3 α (List β) (List β)) (n : Int) (l : List β) : T3 α (List β) (List β) := if n = 1 then ⟨t.a, l, t.c⟩ else ⟨t.a, t.b, l⟩
section
variable {X : Cx} {W : WX} {ss : List Slot} {pos : Pos} {rest : List Stmt} {α β : Type} [Enc α] [Enc β]
end
end G

namespace G
open PySem PySem.Spec PyProof.Rows L2
abbrev D5 := T5 Dy Dy Dy Dy Dy
def t5dy {α β γ δ ε : Type} [Enc α] [Enc β] [Enc γ] [Enc δ] [Enc ε] [ToDy α] [ToDy β] [ToDy γ] [ToDy δ] [ToDy ε] (x : T5 α β γ δ ε) : D5 := ⟨ToDy.dy x.a, ToDy.dy x.b, ToDy.dy x.c, ToDy.dy x.d, ToDy.dy x.e⟩
section
variable {α β γ δ ε : Type} [Enc α] [Enc β] [Enc γ] [Enc δ] [Enc ε] [ToDy α] [ToDy β] [ToDy γ] [ToDy δ] [ToDy ε]
variable {X : Cx} {W : WX} {ss : List Slot} {e : Expr}
end
end G

namespace G
open PySem PySem.Spec PyProof.Rows L2
def dyOI : Dy → Res (Option Int) | .non => .ok none | .int i => .ok (some i) | _ => .stuck
abbrev SP4 := T4 Str (Option Int) Bool Int
def sp4C (x : T4 Dy Dy Dy Dy) : Res SP4 := (dyS x.a).bind fun a => (dyOI x.b).bind fun b => (dyB x.c).bind fun c => (dyI x.d).bind fun d => .ok ⟨a, b, c, d⟩
section
variable {X : Cx} {W : WX} {ss : List Slot} {e : Expr}
end
end G

namespace G
open PySem PySem.Spec PyProof.Rows L2
section
variable {X : Cx} {pins : List (Addr × Obj)} {σ : L2.St} {H : Hp} {s : Shared}
theorem dic_at (I : Inv X pins σ H s) {p : Addr} (hp : H p = some (.dK [])) : ∃ o es n, s.heap.get? p = some o ∧ o.cls = .type "dict" ∧ o.data = .dict es n ∧ es.toList = [] ∧ (p == sysModules) = false := by
  obtain ⟨_, hne, vs, rel, o, es, ep, ho, hx, hdt, _, hpr, _⟩ := I.hok p _ hp
  cases rel
  refine ⟨o, es, ep, ho, hx.1, hdt, ?_, hne⟩
  cases q : es.toList with
  | nil => rfl
  | cons e es' => rw [q] at hpr; cases hpr
theorem most_nil {h : Heap} {n : Nat} : ReadAtMost h n [] := fun _ m => nomatch m
mutual
theorem dy_rk (I : Inv X pins σ H s) : ∀ (d : Dy) (v : V) (u : Value), dyDep d ≤ 60 → DyR X.K H v d → RelV v u → (dyPy d).showable = true → (dyPy d).shown.length ≤ sizeLine → ∃ as bs, Reads s.heap u (dyPy d) as ∧ ReadAtMost s.heap (dyPy d).depth bs ∧ ReprK X.prog X.w bs s.heap (dyPy d).depth u (dyPy d).shown
  | .non, _, _, _, h, r, _, _ => by
    cases h; cases r; simp only [dyPy, PyData.shown]; exact ⟨[], [], .none, most_nil, .of_is ReprIs.none _ _ _⟩
  | .bl b, _, _, _, h, r, _, _ => by
    cases h; cases r; simp only [dyPy, PyData.shown]; exact ⟨[], [], .bool b, most_nil, .of_is (ReprIs.bool b) _ _ _⟩
  | .int i, _, _, _, h, r, hs, _ => by
    cases h; obtain ⟨t, rfl⟩ := r
    simp only [dyPy, PyData.shown, PyData.showable] at hs ⊢
    exact ⟨[], [], .int i t, most_nil, .of_is (ReprIs.int t (by simpa using hs)) _ _ _⟩
  | .str x, _, _, _, h, r, _, hz => by
    cases h; obtain ⟨t, rfl⟩ := r
    simp only [dyPy, PyData.shown] at hz ⊢
    exact ⟨[], [], .str x t, most_nil, .of_is (ReprIs.str x t hz) _ _ _⟩
  | .lst xs, _, _, hd, h, r, hs, hz => by
    cases h with
    | @lst p _ _ hp ha =>
      cases r
      obtain ⟨its, rv, ⟨o, n, ho, hc, vsA, hd'⟩, _⟩ := I.list (SqL.of hp)
      simp only [dyDep] at hd
      simp only [dyPy, PyData.shown, PyData.showable, PyData.depth] at hs hz ⊢
      obtain ⟨as, bs, hr, hb, hk⟩ := dy_rks I xs _ its (by omega) ha rv hs fun t ht => Nat.le_trans (listText_mem_le ht) hz
      have rd : Reads s.heap (.ref p) (.list (dyPys xs)) (p :: as) := .list ho hc hd' hr
      have hna : p ∉ bs := not_mem_of_deeper rd (by simp only [PyData.depth]; omega) hb
      refine ⟨p :: as, p :: bs, rd, ?_, ?_⟩
      · have := ReadAtMost.cons rd (by simp only [PyData.depth]; omega) hb
        simpa only [PyData.depth] using this
      cases its with
      | nil =>
        have hr' : ReadsAll s.heap [] (dyPys xs) as := hr
        generalize hq : dyPys xs = ys at hr' ⊢
        cases hr'
        simp only [PyData.shownAll, listText_nil]
        exact ReprK.listEmpty ho hc hd'
      | cons x l => exact ReprK.list ho hc hd' hna (by simpa using hk.length_eq) fun i y e => hk.item i y (by simpa using e)
  | .tup xs, _, _, hd, h, r, hs, hz => by
    cases h with
    | tup hsq ha =>
      cases r
      obtain ⟨its, rv, ⟨o, ho, hc, n, hd'⟩, _⟩ := I.tuple hsq
      simp only [dyDep] at hd
      simp only [dyPy, PyData.shown, PyData.showable, PyData.depth] at hs hz ⊢
      obtain ⟨as, bs, hr, hb, hk⟩ := dy_rks I xs _ its (by omega) ha rv hs fun t ht => Nat.le_trans (tupleText_mem_le ht) hz
      have rd : Reads s.heap (.ref _) (.tuple (dyPys xs)) as := .tuple ho hc hd' hr
      have hna := not_mem_of_deeper rd (by simp only [PyData.depth]; omega) hb
      refine ⟨as, _ :: bs, rd, ?_, ReprK.tuple ho hc hd' hna hk⟩
      have := ReadAtMost.cons rd (by simp only [PyData.depth]; omega) hb
      simpa only [PyData.depth] using this
  | .dic, _, _, _, h, r, _, _ => by
    cases h with
    | @dic p hp =>
      cases r
      obtain ⟨o, es, n, ho, hc, hdt, ee, hne⟩ := dic_at I hp
      have rd : Reads s.heap (.ref p) (.dict []) (p :: [] ++ []) := .dict ho hc hdt (by rw [ee]; exact .nil) (by rw [ee]; exact .nil)
      simp only [dyPy]
      refine ⟨_, p :: [], rd, ?_, ?_⟩
      · have := ReadAtMost.cons (n := 0) rd (Nat.zero_le _) most_nil
        exact this
      · simp only [PyData.depth, PyData.shown, PyData.shownKv]
        exact ReprK.dict ho hc hdt hne List.not_mem_nil (by rw [ee]; exact .nil)
  | .dc, _, _, hd, _, _, _, _ => by simp [dyDep] at hd
theorem dy_rks (I : Inv X pins σ H s) : ∀ (ds : List Dy) (vs : List V) (us : List Value), dyDeps ds ≤ 60 → DyA X.K H vs ds → Vals vs us → PyData.showableAll (dyPys ds) = true → (∀ t ∈ PyData.shownAll (dyPys ds), t.length ≤ sizeLine) → ∃ as bs, ReadsAll s.heap us (dyPys ds) as ∧ ReadAtMost s.heap (PyData.depthAll (dyPys ds)) bs ∧ ReprAllK X.prog X.w bs s.heap (PyData.depthAll (dyPys ds)) us (PyData.shownAll (dyPys ds))
  | [], _, _, _, h, r, _, _ => by cases h; cases r; simp only [dyPys, PyData.shownAll]; exact ⟨[], [], .nil, most_nil, .nil⟩
  | d :: ds, _, _, hd, h, r, hs, hz => by
    cases h with
    | cons h1 h2 =>
      cases r with
      | cons r1 r2 =>
        simp only [dyDeps] at hd
        simp only [dyPys, PyData.showableAll, PyData.shownAll, PyData.depthAll, Bool.and_eq_true] at hs hz ⊢
        obtain ⟨as1, b1, q1, hb1, k1⟩ := dy_rk I d _ _ (by omega) h1 r1 hs.1 (hz _ List.mem_cons_self)
        obtain ⟨as2, b2, q2, hb2, k2⟩ := dy_rks I ds _ _ (by omega) h2 r2 hs.2 fun t ht => hz t (List.mem_cons_of_mem _ ht)
        refine ⟨as1 ++ as2, b1 ++ b2, .cons q1 q2, (hb1.mono (Nat.le_max_left _ _)).append (hb2.mono (Nat.le_max_right _ _)), ?_⟩
        exact .cons ((k1.more fun b hb => List.mem_append_left _ hb).level_le (Nat.le_max_left _ _)) (k2.more_le (fun b hb => List.mem_append_right _ hb) (Nat.le_max_right _ _))
end
end
section
variable {X : Cx}
def rReprX (K : Frag) : List V → Hp → VK → Prop := fun xs H Q => ∃ x d, xs = [x] ∧ DyR K H x d ∧ dyDep d ≤ 60 ∧ (dyPy d).showable = true ∧ (dyPy d).depth ≤ 60 ∧ tellable (dyPy d) = true ∧ (dyPy d).shown.length ≤ sizeLine ∧ Q (.str (dyPy d).shown) H
def reprX (d : Dy) : Res Str := guardR (decide (dyDep d ≤ 60) && ((dyPy d).showable && (decide ((dyPy d).depth ≤ 60) && (tellable (dyPy d) && decide ((dyPy d).shown.length ≤ sizeLine))))) (.ok (dyPy d).shown)
end
end G

namespace G
open PySem PySem.Spec PyProof.Rows L2
section
variable [Pw] {κ β : Type} [Enc κ] [DecidableEq κ] [NKc κ] [Enc β]
def dlO : Ow (Dic κ (List β)) := ⟨fun K F G v d => ∃ (p : Addr) (kvs : List NKV), v = .ref p ∧ (G p = some (hN Pw.prog Pw.w p kvs) ∧ (kvs.map fun x : NKV => x.2.2).Nodup ∧ (dkeys d).Nodup) ∧ RepL K F G kvs d.l,
  fun s ⟨p, kvs, e, h, r⟩ => ⟨p, kvs, e, h, RepL.mono s (Same.refl _) r⟩, fun s ⟨p, kvs, e, h, r⟩ => ⟨p, kvs, e, ⟨s _ _ h.1, h.2.1, h.2.2⟩, RepL.mono (Same.refl _) s r⟩,
  fun ⟨p, kvs, e, h, r⟩ s t => ⟨p, kvs, e, .inl (t _ _ h.1), RepL.view s t r⟩⟩
def osnL : OSl (dlO (κ := κ) (β := β)) := ⟨owL, fun ⟨p, kvs, e, h, r⟩ => ⟨.ref p, e, p, kvs, rfl, h, r⟩, fun _ ⟨p, kvs, e, h, r⟩ => ⟨p, kvs, by rw [e], h, r⟩⟩
def adS (v0 : V) (q : Addr) (d : Dic κ (List β)) (k : κ) (l : List β) : Slot :=
  ⟨fun K F G o => o = some v0 ∧ ∃ (p : Addr) (kvs : List NKV) (ws : List V), v0 = .ref p ∧ (G p = some (hN Pw.prog Pw.w p kvs) ∧ (kvs.map fun x : NKV => x.2.2).Nodup ∧ (dkeys d).Nodup) ∧ (G q = some (.lst ws) ∧ All2 (fun v a => Enc.rep K F v a) ws l) ∧
    ((valN kvs (NKc.nk k) = some (.ref q) ∧ dhas d k = true ∧ RepL K F G kvs (dput d k l).l) ∨ (dhas d k = false ∧ RepL K F G kvs d.l ∧ V.ref q ∉ kvs.map fun x : NKV => x.2.2)),
   fun s t ⟨e, p, kvs, ws, e0, h, ⟨hq, r⟩, c⟩ => ⟨e, p, kvs, ws, e0, ⟨t _ _ h.1, h.2.1, h.2.2⟩, ⟨t _ _ hq, r.mono s⟩, c.imp (fun ⟨a, b, r⟩ => ⟨a, b, RepL.mono s t r⟩) fun ⟨a, r, n⟩ => ⟨a, RepL.mono s t r, n⟩⟩⟩
end
section
variable {X : Cx} {o i b value : Expr} {pos : Pos} {td ty tz : TE}
end
section
variable {X : Cx} {W : WX} {ss : List Slot} {pos : Pos} {rest : List Stmt} {e a b : Expr}
variable [Pw] {κ β : Type} [Enc κ] [DecidableEq κ] [NKc κ] [NKr κ] [Enc β]
end
end G

namespace G
open PySem PySem.Spec PyProof.Rows L2
instance {α : Type} [DecidableEq α] : DecidableEq (Tup α) := fun ⟨a⟩ ⟨b⟩ => if h : a = b then .isTrue (by rw [h]) else .isFalse fun e => h (by injection e)
section
variable {X : Cx} {W : WX} {ss : List Slot} {pos : Pos} {rest : List Stmt} {e a b : Expr}
variable [Pw] {κ β : Type} [Enc κ] [DecidableEq κ] [NKc κ] [NKr κ] [Enc β] {mk : Res κ}
end
end G

namespace G
open PySem PySem.Spec PyProof.Rows L2
section
variable {X : Cx} {W : WX} {ss : List Slot} {pos : Pos} {a : Expr}
end
end G

namespace G
open PySem PySem.Spec PyProof.Rows L2
section
variable {X : Cx} {W : WX} {ss : List Slot} {pos : Pos} {rest : List Stmt} {e a b : Expr}
variable [Pw] {κ β : Type} [Enc κ] [DecidableEq κ] [NKc κ] [NKr κ] [Enc β] {mk : Res κ}
end
end G

namespace G
open PySem PySem.Spec PyProof.Rows L2
section
variable {X : Cx} {W : WX} {ss : List Slot} {pos : Pos} {e a b : Expr}
end
end G

namespace G
open PySem PySem.Spec PyProof.Rows L2
section
variable {κ β : Type} [Enc κ] [DecidableEq κ] [DK κ] [Enc β]
def dfO : Ow (Dic κ β) := ⟨fun K F G v d => ∃ p kvs, v = .ref p ∧ G p = some (DK.ho kvs) ∧ RepD K F kvs d.l,
  fun s ⟨p, kvs, e, h, r⟩ => ⟨p, kvs, e, h, r.mono s⟩, fun s ⟨p, kvs, e, h, r⟩ => ⟨p, kvs, e, s _ _ h, r⟩,
  fun ⟨p, kvs, e, h, r⟩ s t => ⟨p, kvs, e, .inl (t _ _ h), r.mono s⟩⟩
instance [Imm β] : ImmO (dfO (κ := κ) (β := β)) := ⟨fun ⟨p, kvs, e, h, r⟩ => ⟨p, kvs, e, h, All2.imp (fun _ _ x => ⟨x.1, Imm.imm x.2⟩) r⟩⟩
end
section
variable [Pw] {κ β : Type} [Enc κ] [DecidableEq κ] [NKc κ] [Enc β]
end
section
variable {X : Cx} {W : WX} {ss : List Slot} {pos : Pos} {e a : Expr} {rest : List Stmt} {nm : String} [ObN nm] [ObC nm]
end
section
variable {X : Cx} {W : WX} {ss : List Slot} {nm : String} [ObN nm] [ObC nm]
end
end G

namespace G
open PySem PySem.Spec PyProof.Rows L2
def strLe (i j : Str) : Bool := !decide (j.cps.toList < i.cps.toList)
section
variable {X : Cx} {W : WX} {ss : List Slot} {e : Expr} {pos : Pos}
end
end G

namespace G
open PySem PySem.Spec PyProof.Rows L2
instance {α : Type} [Enc α] [ToDy α] : Cst (ToDy.dy : α → Dy) := ⟨fun h => ToDy.rep h⟩
def RgL {α : Type} [Enc α] (n : Nat) (K : Frag) (F G : Hp) (vs : List V) (xs : List α) : Prop := vs.length = n ∧ ∀ H, Same (tups F) H → Same G H → All2 (fun v a => Enc.rep K H v a) vs xs
section
variable {X : Cx} {W : WX} {ss : List Slot} {e : Expr} {es : List Expr} {pos : Pos} {rest : List Stmt}
variable (X W) in
def XAR {α : Type} [Enc α] (n : Nat) (ss : List Slot) (es : List Expr) (m : Res (List α)) : Prop := PA X es fun σ H Q =>
  ∃ F, Same F H ∧ Sl X.K F H ss σ ∧ wpR X W m σ H fun a => ∀ vs H' F' G', Same H H' → Ext F H F' H' → Priv G' H F' H' → RgL n X.K F' G' vs a → Q vs H'
end
end G

namespace G
open PySem PySem.Spec PyProof.Rows L2
inductive EntsB (w : World) : List (Str × Bool) → List DictEntry → Prop
  | nil : EntsB w [] []
  | cons {x : Str} {b : Bool} {l : List (Str × Bool)} {e : DictEntry} {es : List DictEntry} (h : ∃ t, e = ⟨PyData.keyHash w.params x, .str x t, .bool b⟩) (r : EntsB w l es) : EntsB w ((x, b) :: l) (e :: es)
structure GDic (P : Program) (w : World) (K : Frag) (mg : Str → Option Value) (x : Str) (d : Dic Str Bool) : Prop where
  ex : ∃ p, mg x = some (.ref p) ∧ (p == sysModules) = false ∧ ∀ h : Heap, K.In h → h.DictOf (mixKind P w) p (d.l.map fun kv => ((.inr kv.1 : Key), Value.bool kv.2))
section
variable {X : Cx} {W : WX} {ss : List Slot} {a : Expr} {pos p : Pos}
end
end G

namespace G
open PySem PySem.Spec PyProof.Rows L2
section
variable {X : Cx} {W : WX} {ss : List Slot} {R T : Type} {e b : Expr} {es rest : List Expr} {st : Stmt} {sts : List Stmt} {pos : Pos} {post : T → List Slot} {kr : R → Slot}
end
end G

namespace G
open PySem PySem.Spec PyProof.Rows L2
def joins : List Hp → Hp
  | [] => noHp
  | g :: gs => join g (joins gs)
section
variable {X : Cx} {W : WX} {ss : List Slot} {e : Expr} {es : List Expr} {pos : Pos}
variable (X W) in
def XAOd {α : Type} [Enc α] (d : Ow α) (n : Nat) (ss : List Slot) (es : List Expr) (m : Res (List α)) : Prop := PA X es fun σ H Q =>
  ∃ F, Same F H ∧ Sl X.K F H ss σ ∧ wpR X W m σ H fun a => ∀ vs H' F' Gs, Same H H' → Ext F H F' H' → (∀ G ∈ Gs, Priv G H F' H') → Gs.Pairwise Dj → vs.length = n → AllO (d.own X.K F') vs Gs a → Q vs H'
end
end G

namespace G
open PySem PySem.Spec PyProof.Rows L2
section
variable {X : Cx}
def tSlV (K : Frag) (te : TE) (tl th ts : TO) : TE := fun σ H Q => te σ H fun x H1 => tl σ H1 fun l H2 => th σ H2 fun u H3 => ts σ H3 fun o H4 => ∃ c a xs, o = some c ∧ c ≠ 0 ∧ x = .ref a ∧ SqL K H4 a xs ∧ (cutC xs l u c).length ≤ sizeLine ∧ ∀ p, H4 p = none → Q (.ref p) (upd H4 p (.lst (cutC xs l u c)))
variable {W : WX} {ss : List Slot} {pos : Pos} {a st : Expr}
def sliceV {α : Type} (xs : List α) (l u c : Option Int) : Res (List α) := match c with
  | some c => guardR (decide (c ≠ 0) && big (cutC xs l u c).length) (.ok (cutC xs l u c))
  | none => .stuck
end
end G

namespace PySem.SumL
open PySem
section
variable {prog : Program} {w : World} {A : Around} {R : Result → Shared → Prop} {I ax : Addr} {its : Array Value}
variable {E : Value → Shared → Prop} {s : Shared}
end
end PySem.SumL
namespace G
open PySem PySem.Spec PyProof.Rows L2
def rSumL : List V → Hp → VK → Prop := fun vs H Q => ∃ (a b : Addr) (ps : List Addr) (xss : List (List V)), vs = [V.ref a, V.ref b] ∧ H a = some (.lst (ps.map V.ref)) ∧ H b = some (.lst []) ∧ All2 (fun p xs => H p = some (.lst xs)) ps xss ∧ ps ≠ [] ∧ xss.flatten.length ≤ sizeLine ∧ ∀ q, H q = none → Q (.ref q) (upd H q (.lst xss.flatten))
section
variable {X : Cx}
end
def sumLL {α : Type} (x : List (List α)) : Res (List α) := guardR (!x.isEmpty && big x.flatten.length) (.ok x.flatten)
section
variable {X : Cx} {W : WX} {ss : List Slot} {a : Expr} {pos : Pos}
end
end G

namespace G
open PySem PySem.Spec PyProof.Rows L2
structure CastG {α β : Type} [Enc α] [Enc β] (c : α → Res β) : Prop where
  rep : ∀ {K : Frag} {H : Hp} {v : V} {d : α} {b : β}, c d = .ok b → Enc.rep K H v d → Enc.rep K H v b
  nox : ∀ d, NoX (c d)
def allL {α β : Type} : List (α ⊕ β) → Res (List α)
  | [] => .ok []
  | .inl a :: t => (allL t).bind fun r => .ok (a :: r)
  | .inr _ :: _ => .stuck
def allR {α β : Type} : List (α ⊕ β) → Res (List β)
  | [] => .ok []
  | .inr a :: t => (allR t).bind fun r => .ok (a :: r)
  | .inl _ :: _ => .stuck
section
variable {X : Cx} {W : WX} {ss : List Slot} {e : Expr}
end
end G

namespace G
open PySem PySem.Spec PyProof.Rows L2
section
variable {X : Cx} {W : WX} {ss : List Slot} {R T : Type} {e b : Expr} {es rest : List Expr} {pos : Pos} {post : T → List Slot} {kr : R → Slot}
end
end G

namespace G
open PySem PySem.Spec PyProof.Rows L2 RZ
section
variable {X : Cx} {W : WX} {ss : List Slot}
end
section
variable {X : Cx} {W : WX} {ss : List Slot} {e : Expr} {sts : List Stmt} {pos : Pos}
end
structure It2 (α : Type) where
  u : V
  a : α
instance {α : Type} : Enc (It2 α) := ⟨fun _ _ v x => v = x.u, fun _ h => h⟩
instance {α : Type} : Imm (It2 α) := ⟨fun h => h⟩
theorem all2_it2 {α : Type} {K : Frag} {H : Hp} : ∀ xs : List (It2 α), All2 (fun v (x : It2 α) => Enc.rep K H v x) (xs.map It2.u) xs
  | [] => trivial
  | _ :: xs => ⟨rfl, all2_it2 xs⟩
def cpO {α : Type} [Enc α] : Ow (List (It2 α)) := ⟨fun K F G v xs => (rgO (α := List α)).own K F G v (xs.map It2.a) ∧ ∃ p, v = .ref p ∧ G p = some (.lst (xs.map It2.u)),
  fun s ⟨h, g⟩ => ⟨rgO.mF s h, g⟩, fun s ⟨h, p, e, g⟩ => ⟨rgO.mG s h, p, e, s _ _ g⟩, fun ⟨_, p, e, g⟩ _ t => ⟨p, _, e, t _ _ g, all2_it2 _⟩⟩
section
variable {X : Cx} {W : WX} {ss : List Slot} {e e2 : Expr} {sts rest : List Stmt} {tg : Expr} {pos : Pos}
open Classical in
noncomputable def itF {S L R α γ : Type} (xs : List (It2 γ)) (f : S → α × γ → Res (Out S L R)) (s : S) (b : α × It2 γ) : Res (Out S L R) := if b.2 ∈ xs then f s (b.1, b.2.a) else .stuck
def fcp {α : Type} [Enc α] (xs : List (It2 α)) : Slot := ⟨fun K F _ o => ∃ v, o = some v ∧ Enc.rep K F v xs ∧ Enc.rep K F v (xs.map It2.a), fun s _ ⟨v, e, h, h'⟩ => ⟨v, e, Enc.mono s h, Enc.mono s h'⟩⟩
open Classical in
noncomputable def itG {S L R α γ : Type} (xs : List (It2 α)) (f : S → α × γ → Res (Out S L R)) (s : S) (b : It2 α × γ) : Res (Out S L R) := if b.1 ∈ xs then f s (b.1.a, b.2) else .stuck
end
instance {α β γ δ ε : Type} [Enc α] [Enc β] [Enc γ] [Enc δ] [Enc ε] : Cst (fun x : α × β => (Sum.inl (x.1, Sum.inr (Sum.inl x.2)) : α × (δ ⊕ (β ⊕ ε)) ⊕ γ)) := ⟨fun ⟨p, u1, u2, e, g, r1, r2⟩ => ⟨p, u1, u2, e, g, r1, r2⟩⟩
instance {α β γ δ ε ζ η : Type} [Enc α] [Enc β] [Enc γ] [Enc δ] [Enc ε] [Enc ζ] [Enc η] : Cst (fun x : T3 α β γ => (Sum.inr ⟨x.a, Sum.inl x.b, Sum.inr (Sum.inr x.c)⟩ : δ ⊕ T3 α (β ⊕ ζ) (ε ⊕ (η ⊕ γ)))) := ⟨fun ⟨p, u1, u2, u3, e, g, r1, r2, r3⟩ => ⟨p, u1, u2, u3, e, g, r1, r2, r3⟩⟩
instance {α β γ δ ε ζ η θ : Type} [Enc α] [Enc β] [Enc γ] [Enc δ] [Enc ε] [Enc ζ] [Enc η] [Enc θ] : Cst (fun x : T3 α β γ => (Sum.inr ⟨x.a, Sum.inr (Sum.inr x.b), Sum.inr (Sum.inr x.c)⟩ : δ ⊕ T3 α (ε ⊕ (η ⊕ β)) (ζ ⊕ (θ ⊕ γ)))) := ⟨fun ⟨p, u1, u2, u3, e, g, r1, r2, r3⟩ => ⟨p, u1, u2, u3, e, g, r1, r2, r3⟩⟩
def Spv (H : Hp) (v : V) : Prop := (∃ n, v = .int n) ∨ v = .non ∨ ∃ q ws, v = .ref q ∧ H q = some (.lst ws)
class Spl (β : Type) [Enc β] : Prop where
  spl : ∀ {K : Frag} {H : Hp} {v : V} {b : β}, Enc.rep K H v b → Spv H v
instance : Spl Int := ⟨fun h => .inl ⟨_, h⟩⟩
instance {α : Type} [Enc α] : Spl (List α) := ⟨fun ⟨p, vs, e, h, _⟩ => .inr (.inr ⟨p, vs, e, h⟩)⟩
instance {α : Type} [Enc α] [Spl α] : Spl (Option α) := ⟨fun {K H v b} h => by
  cases b with
  | none => exact .inr (.inl h)
  | some a => exact Spl.spl (β := α) h.2⟩
instance {α β : Type} [Enc α] [Enc β] [Spl α] [Spl β] : Spl (α ⊕ β) := ⟨fun {K H v b} h => by
  cases b with
  | inl a => exact Spl.spl (β := α) h
  | inr b => exact Spl.spl (β := β) h⟩
def cqs {α : Type} [Enc α] (o : V) (x : PvT α) : Slot :=
  ⟨fun K F G o' => o' = some o ∧ Enc.rep K F o x ∧ ∀ a ∈ pvs x, Spv G a.v,
   fun s t ⟨e, r, h⟩ => ⟨e, Enc.mono s r, fun a z => by
     rcases h a z with h | h | ⟨q, ws, h1, h2⟩
     · exact .inl h
     · exact .inr (.inl h)
     · exact .inr (.inr ⟨q, ws, h1, t _ _ h2⟩)⟩⟩
section
variable {X : Cx} {W : WX} {ss : List Slot} {pos : Pos}
end
section
variable {X : Cx} {W : WX} {ss : List Slot} {a b c : Expr} {pos : Pos}
end
def gxAt {α β : Type} : ((β × α) ⊕ T3 β α α) → Int → Res α
  | .inl y, i => if i = 1 then Res.ok y.2 else .stuck
  | .inr y, i => if i = 1 then Res.ok y.b else if i = 2 then Res.ok y.c else .stuck
section
variable {α β : Type} [Enc α] [Enc β] {X : Cx} {W : WX} {ss : List Slot} {pos : Pos} {a b : Expr}
end
class LsT (τ : Type) [Enc τ] : Prop where
  ls : ∀ {K : Frag} {F : Hp} {v : V} {x : τ}, Enc.rep K F v x → ∃ p vs, v = .ref p ∧ F p = some (.lst vs) ∧ ∀ {H : Hp} {q : Addr}, Same (tups F) H → H q = some (.lst vs) → Enc.rep K H (.ref q) x
instance {α : Type} [Enc α] [Imm α] : LsT (List α) := ⟨fun ⟨p, vs, e, h, r⟩ => ⟨p, vs, e, h, fun s g => ⟨_, vs, rfl, g, All2.imp (fun _ _ z => Enc.mono s (Imm.imm z)) r⟩⟩⟩
instance {α β : Type} [Enc α] [Enc β] [LsT α] [LsT β] : LsT (α ⊕ β) := ⟨fun {K F v x} h => by
  cases x with
  | inl a => exact LsT.ls (τ := α) h
  | inr b => exact LsT.ls (τ := β) h⟩
section
variable {X : Cx} {W : WX} {ss : List Slot} {tg elt iter : Expr} {scope : Scope} {own : List (Str × Nat)} {pos : Pos}
end
def toLs {α β γ : Type} : α ⊕ (β ⊕ Option γ) → Res (β ⊕ γ)
  | .inr (.inl x) => .ok (.inl x)
  | .inr (.inr (some x)) => .ok (.inr x)
  | _ => .stuck
section
variable {X : Cx} {W : WX} {ss : List Slot} {a : Expr} {pos : Pos}
end
end G

namespace G
open PySem PySem.Spec PyProof.Rows L2
def wAdo (K : PySem.W.Frag) (c : Value) (i : Nat) (ts : Value → Option Addr → TS) (Wout : WX) (D : Ends) : WX := fun cls d σ H =>
  ∃ b, PySem.W.exmOne K cls c = some b ∧ (b = true → ∀ a oe, H a = none → ts cls d { nx := fun σ' H' => D.nx (σ'.set i none) H', rt := D.rt, bk := fun σ' H' => D.bk (σ'.set i none) H', ct := fun σ' H' => D.ct (σ'.set i none) H' } (σ.set i (some (.ref a))) (upd H a (.frz oe (ExV cls d a)))) ∧ (b = false → Wout cls d σ H)
section
variable {X : Cx} {pins : List (Addr × Obj)} {σ : L2.St} {H : Hp} {s : Shared}
theorem Inv.dropPin {a : Addr} {oe : Obj} (J : Inv (X.suite a ((a, oe) :: (X.pn ++ pins))) [] σ H s) (ok : X.Ok) : Inv (X.suite a (X.pn ++ pins)) [] σ H s :=
  ⟨ok.suite _ _, J.os, J.bare, J.base, J.loc, J.cell, J.free, J.freeC, fun p hp => J.pin p (by rw [List.append_nil] at hp ⊢; exact List.mem_cons_of_mem _ hp), J.hok, J.len⟩
theorem Inv.outSuite {a : Addr} (J : Inv (X.suite a (X.pn ++ pins)) [] σ H s) (ok : X.Ok) : Inv X pins σ H s :=
  ⟨ok, J.os, J.bare, J.base, J.loc, J.cell, J.free, J.freeC, fun p hp => J.pin p (by rw [List.append_nil]; exact hp), J.hok, J.len⟩
variable {B : Heap} {a : Addr} {cls : Value} {d : Option Addr} {sI : Shared}
theorem Lies.tracked (l : Lies X pins σ H B a cls d sI s) (hs : X.stack = X.env :: X.outer) (hf : X.env.frame = some X.env.locals) (hex : X.ex = []) (ok : X.Ok) {oe : Obj} (e : s.heap.get? a = some oe) (z : Zc cls d oe) {vs : Array Value} (hv : oe.data = .fields vs) :
    Inv (X.suite a (X.pn ++ pins)) [] σ (upd H a (.frz oe (ExV cls d a))) s := by
  have S := l.held hf e hv
  have q3 : a ≠ X.env.locals := l.notL hf
  exact Inv.adopt (X := X.suite a (X.pn ++ pins)) (Inv.dropPin S ok) e l.fresh (l.young hs hex) q3 (fun v w => by rw [hv] at w; cases w) (fun p m => l.away hs p (by rw [List.append_nil] at m; exact m)) (exV_ok e z ⟨vs, hv⟩)
end
section
variable {X : Cx} {x n : Str} {c : Value} {i : Nat} {body suite : List Stmt} {b₀ : Stmt} {np pos pos' : Pos} {tb : WX → TS} {ts : Value → Option Addr → TS} {Wout : WX}
theorem ps_try_ado (hs : X.stack = X.env :: X.outer) (hf : X.env.frame = some X.env.locals) (hex : X.ex = []) (hN : X.N.Nodup) (hi : X.N[i]? = some n) (hln : X.env.kindOf n = some .local) (hc : Names X x c) (tk : Takes X Wout)
    (hb : ∀ (Wb : WX) (pn : List (Addr × Obj)) (out : Value → Shared → Prop), Takes (X.tr pn out) Wb → PassesOwn (model X.prog X.w) X.A X.env out → PSs (X.tr pn out) body (tb Wb))
    (hsu : ∀ (a : Addr) (cls : Value) (d : Option Addr) (pn : List (Addr × Obj)), PSs (X.suite a pn) (b₀ :: suite) (ts cls d)) :
    PS X (.Try body [.ExceptHandler (some (.Name x np)) (some n) (b₀ :: suite) pos'] [] [] pos) (fun D σ H => tb (wAdo X.K c i ts Wout D) D σ H) := by
  refine ⟨fun pins s σ H D I want => wpAny_Try_except ?_⟩
  let clause : ExceptHandler := .ExceptHandler (some (.Name x np)) (some n) (b₀ :: suite) pos'
  let out : Value → Shared → Prop := fun e t => wpAny (model X.prog X.w) X.A (noteFrame e X.env) (fun _ t => wpAny (model X.prog X.w) X.A (setFlight e none) (fun _ t => wpAny (model X.prog X.w) X.A (handleBy e X.env [clause]) (SP X pins D) X.xe t) X.xe t) X.xe t
  have takes : Takes (X.tr (X.pn ++ pins) out) (wAdo X.K c i ts Wout D) := by
    rintro u t ⟨a, B, sI, pins', σ', H', cls, d, rfl, J', low, grew, sky, fresh, sys, gen, b, isB, yes, no⟩
    rw [show (X.tr (X.pn ++ pins) out).stack = X.env :: X.outer from hs] at sky
    refine Sky.land Zc.steady (by rw [I.ok.frames, hs]) hf sky fun h1 fl1 g1 => ?_
    have l1 : Lies X pins σ' H' B a cls d sI { t with heap := h1 } := ⟨J'.ofTry I.ok, low, grew.trans g1, fl1, fresh, sys, gen⟩
    obtain ⟨o1, at1, z1, vs1, v1⟩ := l1.obj
    have S1 := l1.held hf at1 v1
    refine wpAny_handleBy_cons (codeAny_handlers_test ?_) (fun q => nomatch q)
    have cl : PySem.W.Looks (model X.prog X.w) h1 (typeOf (.ref a)) cls := fun _ _ _ _ k q => wpAny_typeOf_ref (k _ _ at1) (by rw [z1.1]; exact q)
    have named : ∀ {Q : Value → Shared → Prop} {E : Value → Shared → Prop}, Q c { t with heap := h1 } → wpAny (model X.prog X.w) (X.A.mark (some (.ref a))) (eval (.Name x np) X.env) Q E { t with heap := h1 } := by
      intro Q E q
      rcases hc with ⟨g, nd, m | ⟨m, bt, nn⟩⟩
      · exact ld_glob S1 g m q nd
      · exact ld_blt S1 g m bt q nn nd
    refine named (PySem.W.Looks.here (PySem.W.exm_one (M := model X.prog X.w) l1.inv.kIn cl isB) ?_)
    cases b with
    | false => exact l1.on hs hf tk (no rfl)
    | true =>
      refine codeAny_handlers_suite_as (HandSPX.lands_againZ fl1 fun h2 fl2 g2 => ?_)
      have l2 := l1.up fl2 g2
      obtain ⟨o2, at2, z2, vs2, v2⟩ := l2.obj
      refine store_ok (X := X.suite a (X.pn ++ pins)) (v := .ref a) (l2.tracked hs hf hex I.ok at2 z2 v2) hN hi (.inl hln) rfl (fun s5 S5 => ?_) (.inr hln)
      refine wpAny_mono ((hsu a cls d (X.pn ++ pins)).run [] s5 _ _ _ S5 (yes rfl a o2 fresh)) (fun f s6 left => ?_) (fun _ _ z => z.elim)
      cases f with
      | next =>
        obtain ⟨σ6, H6, S6, q6⟩ := left
        exact gone_ok (Inv.outSuite S6 I.ok) hN hi hln fun s7 J7 => ⟨_, _, J7, q6⟩
      | brk =>
        obtain ⟨σ6, H6, S6, q6⟩ := left
        exact gone_ok (Inv.outSuite S6 I.ok) hN hi hln fun s7 J7 => ⟨_, _, J7, q6⟩
      | cont =>
        obtain ⟨σ6, H6, S6, q6⟩ := left
        exact gone_ok (Inv.outSuite S6 I.ok) hN hi hln fun s7 J7 => ⟨_, _, J7, q6⟩
      | ret u =>
        obtain ⟨v6, σ6, H6, S6, r6, q6⟩ := left
        exact gone_ok (Inv.outSuite S6 I.ok) hN hi hln fun s7 J7 => ⟨_, _, _, J7, r6, q6⟩
  refine wpAny_mono ((hb _ (X.pn ++ pins) out takes PassesOwn.looking).run [] s σ H D (I.toTry _) want) (fun f t left => ?_) (fun _ _ z => z)
  have left := sp_ofTry I.ok left
  cases f with
  | next => exact wpAny_execs_nil left
  | brk => exact left
  | cont => exact left
  | ret u => exact left
end
section
variable [Md] {X : Cx} {W : WX} {ss : List Slot}
theorem b1_ado {S L R : Type} {st b₀ : Stmt} {suite : List Stmt} {y n : Str} {np pos' : Pos} {tab : ETab} {M : Res (Out S L R)} {N : Exn → Res (Out S L R)} {post : S → List Slot} {pl : L → List Slot} {kr : R → Slot} {pos : Pos} (i : Nat) (tk : Takes X W)
    (hb : ∀ (W' : WX) (pn : List (Addr × Obj)) (xe : Value → Shared → Prop), Takes (X.tr pn xe) W' → PS (X.tr pn xe) st (rdE (X.tr pn xe) W' ss M post pl kr))
    (c : CTab X.K X.mg y tab)
    (hsu : ∀ (x : Exn) (a : Addr) (pn : List (Addr × Obj)), SB (X.suite a pn) wNo (ss.set i (fr x)) (b₀ :: suite) (N x) post pl kr)
    (hps : ∀ s, (post s)[i]? = some any) (hpl : ∀ s, (pl s)[i]? = some any) (hM : X.mg = Md.mg := by rfl)
    (hg : Gl X y := by rfl) (hdb : (y == ("__debug__" : Str)) = false := by decide)
    (hN : X.N.Nodup) (hi : X.N[i]? = some n := by rfl) (hln : X.env.kindOf n = some .local := by rfl)
    (hst : X.stack = X.env :: X.outer := by rfl) (hf : X.env.frame = some X.env.locals := by rfl) (hex : X.ex = [] := by rfl) : B1 X W ss (.Try [st] [.ExceptHandler (some (.Name y np)) (some n) (b₀ :: suite) pos'] [] [] pos) (catchR M [(tab, N)]) post pl kr := by
  obtain ⟨Y, gY, hY⟩ := c
  let ts : Value → Option Addr → TS := fun cls d D σ H => ∃ x : Exn, ∃ B F0 F Gs, Asn X.K B F0 (ss.set i (fr x)) σ H F Gs ∧ wpS X wNo (N x) B (outOk X post pl kr D B F0)
  have clr : ∀ {K : Frag} {B F0 H F : Hp} {ts : List Slot} {σ : L2.St} {Gs : List Hp}, ts[i]? = some any → Asn K B F0 ts σ H F Gs → Asn K B F0 ts (σ.set i none) H F (Gs.set i noHp) := fun {K B F0 H F ts σ Gs} e A => by
    have A' := A.set (s := any) (o := none) (G := noHp) (Same.refl H) ⟨Same.refl F, A.ext.sub, fun _ _ h => .inl h⟩ priv_no trivial i
    have : ts.set i any = ts := by
      obtain ⟨hl, he⟩ := List.getElem?_eq_some_iff.mp e
      rw [← he]; exact List.set_getElem_self hl
    rw [this] at A'
    exact A'
  refine PS_imp (ps_try_ado (tb := fun W' => rdE X W' ss M post pl kr) (ts := ts) hst hf hex hN hi hln ⟨hg, hdb, .inl gY⟩ tk (fun W' pn xe tk' _ => pss_one (hb W' pn xe tk')) (fun a cls d pn => ?_)) fun D σ H ⟨B, F0, F, Gs, A, q⟩ => ⟨B, F0, F, Gs, A, ?_⟩
  · exact ⟨fun pins s σ H D I ⟨x, B, F0, F, Gs, A, q⟩ => (hsu x a pn).run pins s σ H D I ⟨B, F0, F, Gs, A, by cases e : N x with
      | ok o =>
        rw [e] at q
        cases o <;> exact q
      | exc z =>
        rw [e] at q
        exact fun σ cls d H' a b c => q σ cls d H' a b c
      | stuck => rw [e] at q; exact q⟩⟩
  · cases M with
    | ok o => cases o <;> exact q
    | stuck => exact q.elim
    | exc x =>
      intro cls d H' hm s hp
      have q : wpS X W (pickR x [(tab, N)]) B _ := q
      unfold pickR at q
      cases e : lookB tab x.cls with
      | none => rw [e] at q; exact q.elim
      | some b =>
        rw [e] at q
        obtain ⟨C, gC, hC⟩ := hY _ _ e
        have : cls = .ref C := Option.some.inj (hm.symm.trans gC)
        subst this
        refine ⟨b, hC, fun hb a oe na => ?_, fun hb => ?_⟩
        · subst hb
          have s2 := s.trans (same_upd (o := HO.frz oe (ExV (.ref C) d a)) na)
          have sF := A.ext.sub.trans s2
          have gM : Md.mg x.cls = some (.ref C) := by rw [← hM]; exact gC
          have rx : Enc.rep (α := Exn) X.K (join F (tups (upd H' a (.frz oe (ExV (.ref C) d a))))) (V.ref a) x := ⟨a, C, d, oe, _, rfl, gM, join_r sF (tups_le _) _ _ (tups_some upd_same rfl), isEx_v, payRep_mono (join_r sF (tups_le _)) (payRep_tups (payRep_mono (same_upd na) hp))⟩
          have A' := A.set (s := fr x) (o := some (.ref a)) (G := noHp) s2 (ext_imm A.ext.sub s2) priv_no ⟨.ref a, rfl, rx⟩ i
          refine ⟨x, B, F0, _, _, A', ?_⟩
          have q : wpS X W (noX (N x)) B _ := q
          revert q
          cases N x with
          | exc z => exact fun q => q.elim
          | stuck => exact fun q => q.elim
          | ok o =>
            cases o with
            | nx s => exact fun q σ' H' F' Gs' A'' => q _ _ _ _ (clr (hps s) A'')
            | rt r => exact fun q => q
            | bk l => exact fun q σ' H' F' Gs' A'' => q _ _ _ _ (clr (hpl l) A'')
            | ct l => exact fun q σ' H' F' Gs' A'' => q _ _ _ _ (clr (hpl l) A'')
        · subst hb
          exact q σ _ d H' hm (A.base.trans s) hp
end
end G

namespace G
open PySem PySem.Spec PyProof.Rows L2
abbrev At := PySem.Str ⊕ Option Int
instance : Sca At := ⟨fun x => match x with | .inl s => .str s | .inr o => Sca.v o, fun {K H u a} h => by
  cases a with
  | inl s => exact Sca.flat (α := Str) (K := K) (H := H) h
  | inr o => exact Sca.flat (α := Option Int) (K := K) (H := H) h⟩
instance : FlatS At := ⟨fun a => by cases a with | inl s => rfl | inr o => exact FlatS.flat o, fun a b => by
  cases a with
  | inl s =>
    cases b with
    | inl t => exact (FlatS.iff s t).trans ⟨fun e => by rw [e], fun e => by injection e⟩
    | inr o => cases o <;> exact ⟨fun h => (nomatch h), fun h => (nomatch h)⟩
  | inr o =>
    cases b with
    | inl t => cases o <;> exact ⟨fun h => (nomatch h), fun h => (nomatch h)⟩
    | inr o' => exact (FlatS.iff o o').trans ⟨fun e => by rw [e], fun e => by injection e⟩⟩
instance : NKc At := ⟨fun a => match a with | .inl s => .text s | .inr o => NKc.nk o, fun a b e => by
  cases a with
  | inl s =>
    cases b with
    | inl t => exact congrArg Sum.inl (by injection e)
    | inr o => cases o <;> cases e
  | inr o =>
    cases b with
    | inl t => cases o <;> cases e
    | inr o' => exact congrArg Sum.inr (NKc.inj o o' e), 0, fun a => by
  cases a with
  | inl s => simp [NestedKey.depth]
  | inr o => exact NKc.dep o, fun {K H v a} h => by
  cases a with
  | inl s => exact NKc.kh (α := Str) h
  | inr o => exact NKc.kh (α := Option Int) h⟩
instance : Dat At where
  py := fun a => match a with | .inl s => .str s | .inr o => Dat.py o
  dp := fun {K H v a} h => by
    cases a with
    | inl s => exact Dat.dp (α := Str) h
    | inr o => exact Dat.dp (α := Option Int) h
  lay := fun a => match a with | .inl s => PyData.strOk s | .inr _ => true
  dep := 0
  layOk := fun {a} h => by
    cases a with
    | inl s => exact Dat.layOk (α := Str) h
    | inr o => exact Dat.layOk (α := Option Int) (a := o) (by cases o <;> rfl)
  depOk := fun a => by
    cases a with
    | inl s => exact Dat.depOk (α := Str) s
    | inr o => exact Dat.depOk (α := Option Int) o
def inA (a : At) (xs : List (Option Int)) : Bool := match a with
  | .inl _ => false
  | .inr o => memB o xs
section
variable {X : Cx}
end
def Cv {α β : Type} [Enc α] [Enc β] (f : α → β) : Prop := ∀ {K : Frag} {H : Hp} {v : V} {a : α}, Enc.rep K H v a → Enc.rep K H v (f a)
section
variable {α β : Type} [Enc α] [Enc β] {f : α → β} {X : Cx} {W : WX} {ss : List Slot} {e : Expr}
end
def atmI (i : Int) : At := .inr (some i)
def r4A (r : T4 Str (Option Int) (Option Int) Int) : T4 At At At At := ⟨.inl r.a, .inr r.b, .inr r.c, .inr (some r.d)⟩
def r3A (r : T3 Str (Option Int) (Option Int)) : T3 At At At := ⟨.inl r.a, .inr r.b, .inr r.c⟩
structure FnV (x : String) where
instance [Md] {x : String} : Enc (FnV x) := ⟨fun _ _ v _ => ∃ f, v = .ref f ∧ Md.mg x = some (.ref f), fun _ h => h⟩
instance [Md] {x : String} : Imm (FnV x) := ⟨fun h => h⟩
section
variable [Md] {X : Cx} {W : WX} {ss : List Slot} {k j : Nat} {A' A R : Type} [EncA A'] [EncA A] {c : A' → A} {g : A → Res R} {kr : R → Slot} {p pos : Pos} {e : Expr} {es : List Expr}
end
end G

namespace G
open PySem PySem.Spec PyProof.Rows L2
def Sat {α : Type} (m : Res α) (P : α → Prop) : Prop := ∃ a, m = .ok a ∧ P a
theorem Sat.ok {α : Type} {a : α} {P : α → Prop} (h : P a) : Sat (.ok a) P := ⟨a, rfl, h⟩
theorem Sat.bind {α β : Type} {m : Res α} {k : α → Res β} {P : α → Prop} {Q : β → Prop} (h : Sat m P) (hk : ∀ a, P a → Sat (k a) Q) : Sat (m.bind k) Q := by
  obtain ⟨a, e, p⟩ := h
  rw [e]
  exact hk a p
theorem Sat.imp {α : Type} {m : Res α} {P Q : α → Prop} (h : Sat m P) (f : ∀ a, P a → Q a) : Sat m Q := let ⟨a, e, p⟩ := h; ⟨a, e, f a p⟩
theorem Sat.eq {α : Type} {m : Res α} {a : α} (h : Sat m (fun b => b = a)) : m = .ok a := by obtain ⟨b, e, q⟩ := h; rw [e, q]
theorem Sat.of_eq {α : Type} {m : Res α} {a : α} {P : α → Prop} (e : m = .ok a) (h : P a) : Sat m P := ⟨a, e, h⟩
theorem Sat.guard {α : Type} {c : Bool} {m : Res α} {P : α → Prop} (hc : c = true) (h : Sat m P) : Sat (guardR c m) P := by rw [hc]; exact h
theorem Sat.ite {α : Type} {c : Bool} {a b : Res α} {P : α → Prop} (h1 : c = true → Sat a P) (h2 : c = false → Sat b P) : Sat (if c = true then a else b) P := by
  cases c with
  | true => exact h1 rfl
  | false => exact h2 rfl
theorem Sat.idx {α : Type} {xs : List α} {i : Nat} {P : α → Prop} (hi : i < xs.length) (h : P xs[i]) : Sat (G.idx xs (i : Int)) P := ⟨_, idx_nat (List.getElem?_eq_getElem hi), h⟩
theorem idx_int {α : Type} {xs : List α} {i : Int} {a : α} (h0 : 0 ≤ i) (h : xs[i.toNat]? = some a) : G.idx xs i = .ok a := by
  have h2 := idx_nat (xs := xs) (i := i.toNat) h
  rw [Int.toNat_of_nonneg h0] at h2
  exact h2
theorem Sat.idxI {α : Type} {xs : List α} {i : Int} {P : α → Prop} (h0 : 0 ≤ i) (hi : i < xs.length) (h : ∀ a, xs[i.toNat]? = some a → P a) : Sat (G.idx xs i) P := by
  have hl : i.toNat < xs.length := by omega
  exact ⟨_, idx_int h0 (List.getElem?_eq_getElem hl), h _ (List.getElem?_eq_getElem hl)⟩
theorem Sat.foldR {S α : Type} {f : S → α → Res S} {xs : List α} {s0 : S} (I : Nat → S → Prop) (h0 : I 0 s0) (hs : ∀ i s a, xs[i]? = some a → I i s → Sat (f s a) (I (i + 1))) : Sat (G.foldR f s0 xs) (I xs.length) := by
  induction xs generalizing s0 I with
  | nil => exact .ok h0
  | cons a as ih =>
    refine Sat.bind (hs 0 s0 a rfl h0) fun s p => ?_
    exact ih (fun i s => I (i + 1) s) p fun i s b hb q => hs (i + 1) s b hb q
theorem loopO_all {S L R α : Type} {f : S → α → Res (Out S S R)} {xs : List α} {s0 : S} (I : Nat → S → Prop) (h0 : I 0 s0) (hs : ∀ i s a, xs[i]? = some a → I i s → Sat (f s a) (fun o => ∃ s', o = .nx s' ∧ I (i + 1) s')) :
    Sat (G.loopO (L := L) f s0 xs) (fun o => ∃ s, o = .nx s ∧ I xs.length s) := by
  induction xs generalizing s0 I with
  | nil => exact .ok ⟨s0, rfl, h0⟩
  | cons a as ih =>
    refine Sat.bind (hs 0 s0 a rfl h0) fun o ⟨s', e, p⟩ => ?_
    subst e
    exact ih (fun i s => I (i + 1) s) p fun i s b hb q => hs (i + 1) s b hb q
theorem Sat.lcT {α β : Type} {p : α → Res Bool} {g : α → Res β} {xs : List α} {p' : α → Bool} {g' : α → β} {P : List β → Prop} (hl : xs.length ≤ 1000000) (hp : ∀ a ∈ xs, p a = .ok (p' a)) (hg : ∀ a ∈ xs, p' a = true → g a = .ok (g' a)) (h : P ((xs.filter p').map g')) : Sat (G.lcT p g xs) P :=
  .guard (decide_eq_true hl) (.of_eq (lcR_filter hp hg) h)
theorem lcT_map {α β : Type} {g : α → Res β} {xs : List α} {g' : α → β} (hl : xs.length ≤ 1000000) (hg : ∀ a ∈ xs, g a = .ok (g' a)) : G.lcT (fun _ => .ok true) g xs = .ok (xs.map g') := by
  unfold G.lcT
  rw [decide_eq_true hl]
  exact lcR_ok (fun _ _ => rfl) hg
theorem Sat.lcAll {α β : Type} {g : α → Res β} {xs : List α} {Q : β → Prop} {P : List β → Prop} (hl : xs.length ≤ 1000000) (hg : ∀ a ∈ xs, Sat (g a) Q) (h : ∀ bs : List β, bs.length = xs.length → (∀ b ∈ bs, Q b) → P bs) : Sat (G.lcT (fun _ => .ok true) g xs) P := by
  refine .guard (decide_eq_true hl) ?_
  have go : ∀ xs : List α, (∀ a ∈ xs, Sat (g a) Q) → Sat (lcR (fun _ => .ok true) g xs) (fun bs => bs.length = xs.length ∧ ∀ b ∈ bs, Q b) := by
    intro xs
    induction xs with
    | nil => intro _; exact .ok ⟨rfl, fun _ m => by cases m⟩
    | cons a as ih =>
      intro h
      obtain ⟨b, e, q⟩ := h a List.mem_cons_self
      obtain ⟨bs, e2, l, q2⟩ := ih fun c m => h c (List.mem_cons_of_mem _ m)
      refine ⟨b :: bs, ?_, by rw [List.length_cons, List.length_cons, l], fun c m => ?_⟩
      · unfold lcR
        simp only [e, e2, Res.ok_bind]
      · rcases List.mem_cons.mp m with z | z
        · rw [z]; exact q
        · exact q2 c z
  exact (go xs hg).imp fun bs ⟨l, q⟩ => h bs l q
theorem Sat.mul {i j : Int} {P : Int → Prop} (h : (-(2 ^ 64) < i ∧ i < 2 ^ 64) ∨ (-(2 ^ 64) < j ∧ j < 2 ^ 64)) (p : P (i * j)) : Sat (mulR i j) P := by
  rcases h with ⟨a, b⟩ | ⟨a, b⟩
  · exact .of_eq (mulR_l a b) p
  · exact .of_eq (mulR_r a b) p
theorem Sat.mod {i j : Int} {P : Int → Prop} (h1 : 0 < j) (p : P (i % j)) : Sat (modR i j) P := .of_eq (modR_of h1) p
theorem Sat.app {α : Type} {xs : List α} {a : α} {P : List α → Prop} (h : xs.length ≤ 1000000) (p : P (xs ++ [a])) : Sat (appR xs a) P := .guard (decide_eq_true h) (.ok p)
theorem appR_ok {α : Type} {xs : List α} {a : α} (h : xs.length ≤ 1000000) : appR xs a = .ok (xs ++ [a]) := guardR_of (decide_eq_true h)
theorem catR_ok {α : Type} {xs ys : List α} (h : xs.length + ys.length ≤ 1000000) : catR xs ys = .ok (xs ++ ys) := guardR_of (decide_eq_true h)
theorem extR_ok {α : Type} {xs ys : List α} (h : xs.length + ys.length ≤ 1000000) : extR xs ys = .ok (xs ++ ys) := guardR_of (decide_eq_true h)
theorem repR1_ok {α : Type} {a : α} {k : Int} (h0 : 0 ≤ k) (h : k ≤ 1000000) : repR [a] k = .ok (List.replicate k.toNat a) := by
  unfold repR small62 big
  have e : (List.replicate k.toNat [a]).flatten = List.replicate k.toNat a := by
    induction k.toNat with
    | zero => rfl
    | succ n ih => rw [List.replicate_succ, List.flatten_cons, ih, List.replicate_succ]; rfl
  rw [e]
  refine guardR_of ?_
  simp only [Bool.and_eq_true, decide_eq_true_eq, List.length_singleton]
  omega
theorem Sat.range {n : Int} {P : List Int → Prop} (h0 : 0 ≤ n) (h : n < 1000000) (p : P (rangeL 0 n.toNat)) : Sat (guardR (small62 n) (Res.ok (rangeL 0 n.toNat))) P := by
  refine .guard ?_ (.ok p)
  unfold small62
  simp only [Bool.and_eq_true, decide_eq_true_eq]
  omega
theorem range_ok {n : Int} (h0 : 0 ≤ n) (h : n < 1000000) : (guardR (small62 n) (Res.ok (rangeL 0 n.toNat))) = .ok (rangeL 0 n.toNat) := by
  refine guardR_of ?_
  unfold small62
  simp only [Bool.and_eq_true, decide_eq_true_eq]
  omega
theorem catS_ok {x y : Str} (h : x.length + y.length ≤ 1000000) : catS x y = .ok (x ++ y) := guardR_of (decide_eq_true h)
theorem strI_ok {i : Int} (h0 : 0 ≤ i) (h : i < 10 ^ 60) : strI i = .ok (toString i) := guardR_of (decide_eq_true (by omega))
end G

namespace G
open PySem PySem.Spec PyProof.Rows L2
theorem Sat.bassoc {α β γ : Type} {m : Res α} {f : α → Res β} {k : β → Res γ} {P : γ → Prop} (h : Sat (m.bind fun a => (f a).bind k) P) : Sat ((m.bind f).bind k) P := by rw [Res.bind_assoc]; exact h
theorem Sat.bok {α β : Type} {a : α} {k : α → Res β} {P : β → Prop} (h : Sat (k a) P) : Sat ((Res.ok a).bind k) P := h
theorem Sat.bite {α β : Type} {c : Bool} {a b : Res α} {k : α → Res β} {P : β → Prop} (h1 : c = true → Sat (a.bind k) P) (h2 : c = false → Sat (b.bind k) P) : Sat ((if c = true then a else b).bind k) P := by
  cases c with
  | true => exact h1 rfl
  | false => exact h2 rfl
theorem Sat.beq {α β : Type} {m : Res α} {a : α} {k : α → Res β} {P : β → Prop} (e : m = .ok a) (h : Sat (k a) P) : Sat (m.bind k) P := by rw [e]; exact h
theorem Sat.bmul {β : Type} {i j : Int} {k : Int → Res β} {P : β → Prop} (h : (-(2 ^ 64) < i ∧ i < 2 ^ 64) ∨ (-(2 ^ 64) < j ∧ j < 2 ^ 64)) (p : Sat (k (i * j)) P) : Sat ((mulR i j).bind k) P := by
  rcases h with ⟨a, b⟩ | ⟨a, b⟩
  · exact .beq (mulR_l a b) p
  · exact .beq (mulR_r a b) p
theorem Sat.bmod {β : Type} {i j : Int} {k : Int → Res β} {P : β → Prop} (h1 : 0 < j) (p : Sat (k (i % j)) P) : Sat ((modR i j).bind k) P := .beq (modR_of h1) p
theorem Sat.bdiv {β : Type} {i j : Int} {k : Int → Res β} {P : β → Prop} (h1 : 0 < j) (h2 : j < 10 ^ 70) (p : Sat (k (i / j)) P) : Sat ((divR i j).bind k) P := .beq (divR_of h1 h2) p
theorem Sat.bapp {α β : Type} {xs : List α} {a : α} {k : List α → Res β} {P : β → Prop} (h : xs.length ≤ 1000000) (p : Sat (k (xs ++ [a])) P) : Sat ((appR xs a).bind k) P := .beq (appR_ok h) p
theorem Sat.bidx {α β : Type} {xs : List α} {i : Int} {a : α} {k : α → Res β} {P : β → Prop} (h0 : 0 ≤ i) (h : xs[i.toNat]? = some a) (p : Sat (k a) P) : Sat ((G.idx xs i).bind k) P := .beq (idx_int h0 h) p
theorem Sat.brange {β : Type} {n : Int} {k : List Int → Res β} {P : β → Prop} (h0 : 0 ≤ n) (h : n < 1000000) (p : Sat (k (rangeL 0 n.toNat)) P) : Sat ((guardR (small62 n) (Res.ok (rangeL 0 n.toNat))).bind k) P := .beq (range_ok h0 h) p
theorem rangeL0 {n i : Nat} {a : Int} (h : (rangeL 0 n)[i]? = some a) : i < n ∧ a = (i : Int) := by
  have := rangeL_get h
  omega
theorem get_of {α : Type} {xs : List α} {i : Nat} (h : i < xs.length) : xs[i]? = some xs[i] := List.getElem?_eq_getElem h
theorem join_len (sep : Str) : ∀ l : List Str, (Txt.join sep l).length = (l.map (·.length)).sum + (l.length - 1) * sep.length
  | [] => by show 0 = 0 + 0 * sep.length; rw [Nat.zero_mul]
  | a :: r => by
    show (Builtin.Str.glued sep (a :: r)).length = _
    rw [StrLaws.glued_eq_join, len_join_cons]; rfl
theorem joinR_ok {x : Str} {ys : List Str} (h : (ys.map (·.length)).sum + ys.length * x.length ≤ 1000000) : joinR x ys = .ok (Txt.join x ys) := guardR_of (decide_eq_true h)
end G
namespace G
open PySem PySem.Spec PyProof.Rows L2
theorem Sat.tail {S R : Type} {M : Res (Out S Empty R)} {k : S → Res R} {P : S → Prop} {Q : R → Prop} (h : Sat M (fun o => ∃ s, o = .nx s ∧ P s)) (hk : ∀ s, P s → Sat (k s) Q) : Sat (M.tail k) Q := by
  obtain ⟨o, e, s, e2, p⟩ := h
  subst e2
  unfold Res.tail
  rw [e]
  exact hk s p
theorem Sat.next {S S' L R : Type} {M : Res (Out S L R)} {k : S → Res (Out S' L R)} {P : S → Prop} {Q : Out S' L R → Prop} (h : Sat M (fun o => ∃ s, o = .nx s ∧ P s)) (hk : ∀ s, P s → Sat (k s) Q) : Sat (M.next k) Q := by
  obtain ⟨o, e, s, e2, p⟩ := h
  subst e2
  unfold Res.next
  rw [e]
  exact hk s p
theorem Sat.nx {S L R : Type} {s : S} {P : S → Prop} (p : P s) : Sat (Res.ok (Out.nx s) : Res (Out S L R)) (fun o => ∃ s, o = .nx s ∧ P s) := .ok ⟨s, rfl, p⟩
theorem unit_loop {L R α : Type} {f : Unit → α → Res (Out Unit Unit R)} {xs : List α} (hs : ∀ (i : Nat) (a : α), xs[i]? = some a → Sat (f () a) (fun o => ∃ s', o = .nx s' ∧ True)) :
    Sat (G.loopO (L := L) f () xs) (fun o => ∃ s, o = .nx s ∧ True) := loopO_all (fun _ _ => True) trivial fun i s a h _ => hs i a h
end G

namespace G
open PySem PySem.Spec PyProof.Rows L2
def TieOk (n : Int) (t : Int × Int) : Prop := 0 ≤ t.1 ∧ t.1 < t.2 ∧ t.2 < n
structure WebOk (w : Int × Tup (Int × Int)) : Prop where
  n1 : 1 ≤ w.1
  n2 : w.1 ≤ 40
  len : w.2.l.length ≤ 200
  ok : ∀ t ∈ w.2.l, TieOk w.1 t
  nd : w.2.l.Nodup
  up : w.2.l.Pairwise fun a b => leP a b = true
def tied (ts : List (Int × Int)) (a b : Int) : Prop := (a, b) ∈ ts ∨ (b, a) ∈ ts
instance {ts : List (Int × Int)} {a b : Int} : Decidable (tied ts a b) := by unfold tied; exact inferInstance
theorem tied_symm {ts : List (Int × Int)} {a b : Int} : tied ts a b ↔ tied ts b a := Or.comm
theorem WebOk.tie {w : Int × Tup (Int × Int)} (h : WebOk w) {a b : Int} (t : tied w.2.l a b) : 0 ≤ a ∧ a < w.1 ∧ 0 ≤ b ∧ b < w.1 ∧ a ≠ b := by
  rcases t with t | t
  · have ⟨x, y, z⟩ := h.ok _ t
    have x : 0 ≤ a := x
    have y : a < b := y
    have z : b < w.1 := z
    omega
  · have ⟨x, y, z⟩ := h.ok _ t
    have x : 0 ≤ b := x
    have y : b < a := y
    have z : a < w.1 := z
    omega
def nbr (k : Int) (t : Int × Int) : List Int := (if t.1 = k then [t.2] else []) ++ (if t.2 = k then [t.1] else [])
def nbrs (ts : List (Int × Int)) (k : Int) : List Int := ts.flatMap (nbr k)
theorem mem_nbr {k m : Int} {t : Int × Int} : m ∈ nbr k t ↔ t = (k, m) ∨ t = (m, k) := by
  obtain ⟨a, b⟩ := t
  unfold nbr
  simp only [List.mem_append, Prod.mk.injEq]
  constructor
  · rintro (h | h)
    · split at h
      · rename_i e; left; exact ⟨e, (List.mem_singleton.mp h).symm⟩
      · cases h
    · split at h
      · rename_i e; right; exact ⟨(List.mem_singleton.mp h).symm, e⟩
      · cases h
  · rintro (⟨e1, e2⟩ | ⟨e1, e2⟩)
    · left; rw [if_pos e1, e2]; exact List.mem_singleton.mpr rfl
    · right; rw [if_pos e2, e1]; exact List.mem_singleton.mpr rfl
theorem mem_nbrs {ts : List (Int × Int)} {k m : Int} : m ∈ nbrs ts k ↔ tied ts k m := by
  unfold nbrs tied
  rw [List.mem_flatMap]
  constructor
  · rintro ⟨t, h, e⟩
    rcases mem_nbr.mp e with rfl | rfl
    · exact .inl h
    · exact .inr h
  · rintro (h | h)
    · exact ⟨_, h, mem_nbr.mpr (.inl rfl)⟩
    · exact ⟨_, h, mem_nbr.mpr (.inr rfl)⟩
theorem nbrs_nodup {n : Int} {k : Int} : ∀ {ts : List (Int × Int)}, ts.Nodup → (∀ t ∈ ts, TieOk n t) → (nbrs ts k).Nodup
  | [], _, _ => .nil
  | t :: ts, nd, ok => by
    obtain ⟨n1, n2⟩ := List.nodup_cons.mp nd
    have ih := nbrs_nodup (k := k) n2 fun x m => ok x (List.mem_cons_of_mem _ m)
    show (nbr k t ++ nbrs ts k).Nodup
    refine List.nodup_append.mpr ⟨?_, ih, fun x hx y hy e => ?_⟩
    · have ⟨x, y, z⟩ := ok t List.mem_cons_self
      unfold nbr
      by_cases h1 : t.1 = k
      · rw [if_pos h1, if_neg (by omega)]; simp
      · rw [if_neg h1]
        by_cases h2 : t.2 = k
        · rw [if_pos h2]; simp
        · rw [if_neg h2]; simp
    · subst e
      have ⟨a, b, c⟩ := ok t List.mem_cons_self
      rcases mem_nbr.mp hx with e | e <;> rcases mem_nbrs.mp hy with h | h
      · exact n1 (e ▸ h)
      · have ⟨d, e2, f⟩ := ok _ (List.mem_cons_of_mem _ h)
        subst e
        have b : k < x := b
        have e2 : x < k := e2
        omega
      · have ⟨d, e2, f⟩ := ok _ (List.mem_cons_of_mem _ h)
        subst e
        have b : x < k := b
        have e2 : k < x := e2
        omega
      · exact n1 (e ▸ h)
theorem nbrs_len {ts : List (Int × Int)} {k : Int} : (nbrs ts k).length ≤ 2 * ts.length := by
  induction ts with
  | nil => exact Nat.le_refl _
  | cons t ts ih =>
    have : (nbr k t).length ≤ 2 := by
      unfold nbr
      split <;> split <;> simp
    show (nbr k t ++ nbrs ts k).length ≤ _
    rw [List.length_append, List.length_cons]
    omega
theorem rise_ext : ∀ {l m : List Int}, l.Pairwise (· < ·) → m.Pairwise (· < ·) → (∀ x, x ∈ l ↔ x ∈ m) → l = m
  | [], [], _, _, _ => rfl
  | [], b :: m, _, _, h => by have := (h b).mpr List.mem_cons_self; cases this
  | a :: l, [], _, _, h => by have := (h a).mp List.mem_cons_self; cases this
  | a :: l, b :: m, h1, h2, h => by
    obtain ⟨p1, p2⟩ := List.pairwise_cons.mp h1
    obtain ⟨q1, q2⟩ := List.pairwise_cons.mp h2
    have e : a = b := by
      rcases List.mem_cons.mp ((h a).mp List.mem_cons_self) with e | e
      · exact e
      · rcases List.mem_cons.mp ((h b).mpr List.mem_cons_self) with e2 | e2
        · exact e2.symm
        · have := q1 a e
          have := p1 b e2
          omega
    subst e
    congr 1
    refine rise_ext p2 q2 fun x => ?_
    constructor
    · intro hx
      rcases List.mem_cons.mp ((h x).mp (List.mem_cons_of_mem _ hx)) with e | e
      · have := p1 x hx; omega
      · exact e
    · intro hx
      rcases List.mem_cons.mp ((h x).mpr (List.mem_cons_of_mem _ hx)) with e | e
      · have := q1 x hx; omega
      · exact e
theorem sortI_rise {l : List Int} (h : l.Nodup) : (sortI l).Pairwise (· < ·) := by
  have a := sortI_pw l
  have b : (sortI l).Nodup := (sortI_perm l).nodup_iff.mpr h
  exact a.imp₂ (fun x y h1 h2 => by omega) b
theorem mem_sortI {l : List Int} {x : Int} : x ∈ sortI l ↔ x ∈ l := (sortI_perm l).mem_iff
theorem rangeL_rise (n : Nat) : (rangeL 0 n).Pairwise (· < ·) := by
  unfold rangeL
  refine List.pairwise_map.mpr ?_
  exact List.pairwise_lt_range.imp fun h => by omega
theorem mem_rangeL {n : Nat} {x : Int} : x ∈ rangeL 0 n ↔ 0 ≤ x ∧ x < n := by
  unfold rangeL
  rw [List.mem_map]
  constructor
  · rintro ⟨i, h, rfl⟩
    have := List.mem_range.mp h
    omega
  · rintro ⟨a, b⟩
    exact ⟨x.toNat, List.mem_range.mpr (by omega), by omega⟩
def Rise (n : Int) (l : List Int) : Prop := l.Pairwise (· < ·) ∧ ∀ x ∈ l, 0 ≤ x ∧ x < n
def nextL (w : Int × Tup (Int × Int)) (k : Int) : List Int := (rangeL 0 w.1.toNat).filter fun m => decide (tied w.2.l k m)
theorem nextL_rise (w : Int × Tup (Int × Int)) (h : 0 ≤ w.1) (k : Int) : Rise w.1 (nextL w k) := ⟨(rangeL_rise _).filter _, fun x m => by
  have := mem_rangeL.mp (List.mem_filter.mp m).1
  omega⟩
theorem mem_nextL {w : Int × Tup (Int × Int)} (h : WebOk w) {k m : Int} : m ∈ nextL w k ↔ tied w.2.l k m := by
  unfold nextL
  rw [List.mem_filter, mem_rangeL, decide_eq_true_iff]
  constructor
  · exact fun h => h.2
  · intro t
    have := h.tie t
    have := h.n1
    exact ⟨by omega, t⟩
theorem sort_nbrs {w : Int × Tup (Int × Int)} (h : WebOk w) (k : Int) : sortI (nbrs w.2.l k) = nextL w k :=
  rise_ext (sortI_rise (nbrs_nodup h.nd h.ok)) (nextL_rise w (by have := h.n1; omega) k).1 fun x => by rw [mem_sortI, mem_nbrs, mem_nextL h]
theorem nextL_len (w : Int × Tup (Int × Int)) (h : WebOk w) (k : Int) : (nextL w k).length ≤ 40 := by
  unfold nextL
  refine Nat.le_trans (List.length_filter_le _ _) ?_
  rw [rangeL_len]
  have := h.n2
  omega
theorem keys_len {κ β : Type} (d : Dic κ β) : (dkeys d).length = d.l.length := by unfold dkeys; rw [List.length_map]
theorem put_len {κ β : Type} [DecidableEq κ] (d : Dic κ β) (k : κ) (v : β) : (dput d k v).l.length ≤ d.l.length + 1 := by
  unfold dput
  split
  · show (List.map _ _).length ≤ _
    rw [List.length_map]; omega
  · show (d.l ++ _).length ≤ _
    rw [List.length_append]; exact Nat.le_refl _
theorem put_mem {κ β : Type} [DecidableEq κ] (d : Dic κ β) (k : κ) (v : β) (x : κ) : x ∈ dkeys (dput d k v) ↔ x = k ∨ x ∈ dkeys d := by
  rw [dkeys_put]
  split
  · rename_i h
    constructor
    · exact .inr
    · rintro (rfl | h') <;> assumption
  · rw [List.mem_append, List.mem_singleton]; exact Or.comm
theorem put_nodup {κ β : Type} [DecidableEq κ] (d : Dic κ β) (k : κ) (v : β) (h : (dkeys d).Nodup) : (dkeys (dput d k v)).Nodup := by
  rw [dkeys_put]
  split
  · exact h
  · rename_i hk
    exact List.nodup_append.mpr ⟨h, by simp, fun x hx y hy => by cases List.mem_singleton.mp hy; exact fun e => hk (e ▸ hx)⟩
structure Ties (n : Int) (i : Nat) (d : Dic (Int × Int) Bool) : Prop where
  len : d.l.length ≤ i
  ok : ∀ t ∈ dkeys d, TieOk n t
  nd : (dkeys d).Nodup
theorem Ties.nil (n : Int) : Ties n 0 ⟨[]⟩ := ⟨Nat.le_refl _, (fun t m => by cases m), .nil⟩
theorem Ties.le {n : Int} {i j : Nat} {d : Dic (Int × Int) Bool} (h : Ties n i d) (l : i ≤ j) : Ties n j d := ⟨Nat.le_trans h.len l, h.ok, h.nd⟩
theorem Ties.put {n : Int} {i : Nat} {d : Dic (Int × Int) Bool} (h : Ties n i d) {t : Int × Int} (ht : TieOk n t) : Ties n (i + 1) (dput d t true) :=
  ⟨Nat.le_trans (put_len _ _ _) (Nat.succ_le_succ h.len), fun x m => (put_mem _ _ _ _ |>.mp m).elim (fun e => e ▸ ht) (h.ok x), put_nodup _ _ _ h.nd⟩
theorem Ties.web {n : Int} {i : Nat} {d : Dic (Int × Int) Bool} (h : Ties n i d) (h1 : 1 ≤ n) (h2 : n ≤ 40) (hi : i ≤ 200) : WebOk (n, ⟨sortP (dkeys d)⟩) :=
  ⟨h1, h2, by
    show (sortP (dkeys d)).length ≤ 200
    rw [(sortP_perm _).length_eq, keys_len]
    exact Nat.le_trans h.len hi, fun t m => h.ok t ((sortP_perm _).mem_iff.mp m), (sortP_perm _).nodup_iff.mpr h.nd, sortP_pw _⟩
theorem cut_len {α : Type} (xs : List α) (lo hi : Nat) : (cut xs (some (lo : Int)) (some (hi : Int))).length ≤ hi - lo := by
  unfold cut
  rw [HT.sIx_nat, HT.sIx_nat, List.length_take]
  omega
def Digits (sizes ds : List Int) : Prop := ds.length = sizes.length ∧ ∀ (i : Nat) (d z : Int), ds[i]? = some d → sizes[i]? = some z → 0 ≤ d ∧ d < z
theorem Digits.get {sizes ds : List Int} (h : Digits sizes ds) {i : Nat} {z : Int} (e : sizes[i]? = some z) : ∃ d, ds[i]? = some d ∧ 0 ≤ d ∧ d < z := by
  have hi : i < ds.length := by rw [h.1]; exact (List.getElem?_eq_some_iff.mp e).1
  exact ⟨_, List.getElem?_eq_getElem hi, h.2 i _ z (List.getElem?_eq_getElem hi) e⟩
end G

namespace G
open PySem PySem.Spec PyProof.Rows L2
theorem Sat.while {S : Type} {c : S → Res Bool} {f : S → Res S} (I : Nat → S → Prop) {P : S → Prop} (hs : ∀ i s, I i s → ∃ b, c s = .ok b ∧ (b = true → Sat (f s) (I (i + 1))) ∧ (b = false → P s)) : ∀ (n : Nat) (i : Nat) (s0 : S), (∀ i s, I i s → i < n) → I i s0 → Sat (whileR c f (n - i) s0) P := by
  intro n
  have key : ∀ m i s0, n - i = m → (∀ i s, I i s → i < n) → I i s0 → Sat (whileR c f m s0) P := by
    intro m
    induction m with
    | zero => intro i s0 e hn h; have := hn i s0 h; omega
    | succ m ih =>
      intro i s0 e hn h
      obtain ⟨b, eb, ht, hf⟩ := hs i s0 h
      have e2 : whileR c f (m + 1) s0 = (c s0).bind fun b => if b then (f s0).bind (whileR c f m) else .ok s0 := rfl
      rw [e2, eb, Res.okb]
      cases b with
      | true => exact Sat.bind (ht rfl) fun s h' => ih (i + 1) s (by omega) hn h'
      | false => exact Sat.ok (hf rfl)
  exact fun i s0 hn h => key _ i s0 rfl hn h
def grow (okb : Int → Bool) : List Int → List Int → List Int
  | s, [] => s
  | s, a :: as => grow okb (if okb a = true ∧ a ∉ s then s ++ [a] else s) as
section
variable {okb : Int → Bool}
theorem mem_grow {x : Int} : ∀ {as s : List Int}, x ∈ grow okb s as ↔ x ∈ s ∨ (x ∈ as ∧ okb x = true)
  | [], s => by unfold grow; simp
  | a :: as, s => by
    unfold grow
    rw [mem_grow]
    split
    · rename_i h
      rw [List.mem_append, List.mem_singleton, List.mem_cons]
      constructor
      · rintro ((h1 | rfl) | h1)
        · exact .inl h1
        · exact .inr ⟨.inl rfl, h.1⟩
        · exact .inr ⟨.inr h1.1, h1.2⟩
      · rintro (h1 | ⟨rfl | h1, h2⟩)
        · exact .inl (.inl h1)
        · exact .inl (.inr rfl)
        · exact .inr ⟨h1, h2⟩
    · rename_i h
      rw [List.mem_cons]
      constructor
      · rintro (h1 | h1)
        · exact .inl h1
        · exact .inr ⟨.inr h1.1, h1.2⟩
      · rintro (h1 | ⟨rfl | h1, h2⟩)
        · exact .inl h1
        · by_cases hx : x ∈ s
          · exact .inl hx
          · exact (h ⟨h2, hx⟩).elim
        · exact .inr ⟨h1, h2⟩
theorem grow_nodup : ∀ {as s : List Int}, s.Nodup → (grow okb s as).Nodup
  | [], s, h => h
  | a :: as, s, h => by
    unfold grow
    refine grow_nodup ?_
    split
    · rename_i h'
      exact List.nodup_append.mpr ⟨h, by simp, fun x hx y hy => by cases List.mem_singleton.mp hy; exact fun e => h'.2 (e ▸ hx)⟩
    · exact h
theorem grow_pre : ∀ {as s : List Int}, s <+: grow okb s as
  | [], s => List.prefix_refl _
  | a :: as, s => by
    unfold grow
    refine List.IsPrefix.trans ?_ grow_pre
    split
    · exact List.prefix_append _ _
    · exact List.prefix_refl _
theorem foldR_grow {f : List Int → Int → Res (List Int)} {as s : List Int} (hf : ∀ a ∈ as, ∀ s : List Int, s.length ≤ 100000 → f s a = .ok (if okb a = true ∧ a ∉ s then s ++ [a] else s)) (hl : s.length + as.length ≤ 100000) : foldR f s as = .ok (grow okb s as) := by
  induction as generalizing s with
  | nil => rfl
  | cons a as ih =>
    rw [List.length_cons] at hl
    show (f s a).bind _ = _
    rw [hf a List.mem_cons_self s (by omega)]
    show foldR f _ as = .ok (grow okb (if okb a = true ∧ a ∉ s then s ++ [a] else s) as)
    refine ih (s := if okb a = true ∧ a ∉ s then s ++ [a] else s) (fun b m => hf b (List.mem_cons_of_mem _ m)) ?_
    split
    · rw [List.length_append, List.length_singleton]; omega
    · omega
end
inductive Reach (nb : Int → List Int) (okb : Int → Bool) (k : Int) : Int → Prop
  | here : Reach nb okb k k
  | on {x y : Int} : Reach nb okb k x → y ∈ nb x → okb y = true → Reach nb okb k y
theorem nodup_len : ∀ (n : Nat) {l : List Int}, l.Nodup → (∀ x ∈ l, 0 ≤ x ∧ x < n) → l.length ≤ n
  | 0, l, _, h => by
    cases l with
    | nil => exact Nat.le_refl _
    | cons a l => have := h a List.mem_cons_self; omega
  | n + 1, l, nd, h => by
    have e := List.length_filter_le (fun x => decide (x ≠ (n : Int))) l
    have ih := nodup_len n (l := l.filter fun x => decide (x ≠ (n : Int))) (nd.filter _) fun x m => by
      obtain ⟨m1, m2⟩ := List.mem_filter.mp m
      have := h x m1
      have := of_decide_eq_true m2
      omega
    have : l.length ≤ (l.filter fun x => decide (x ≠ (n : Int))).length + 1 := by
      clear ih e h
      induction l with
      | nil => simp
      | cons a l ih =>
        obtain ⟨n1, n2⟩ := List.nodup_cons.mp nd
        by_cases ha : a = (n : Int)
        · have : l.filter (fun x => decide (x ≠ (n : Int))) = l := List.filter_eq_self.mpr fun x m => decide_eq_true fun e => n1 (by rw [ha, ← e]; exact m)
          rw [List.filter_cons, if_neg (by simp [ha]), this, List.length_cons]; omega
        · rw [List.filter_cons, if_pos (by simp [ha]), List.length_cons, List.length_cons]
          have := ih n2
          omega
    omega
theorem bfs {nb : Int → List Int} {okb : Int → Bool} {k n : Int} {c : List Int × Int → Res Bool} {f : List Int × Int → Res (List Int × Int)} (hn : n ≤ 40) (hk : 0 ≤ k ∧ k < n) (hnb : ∀ x, 0 ≤ x → x < n → ∀ y ∈ nb x, 0 ≤ y ∧ y < n)
    (hc : ∀ s (i : Nat), c (s, (i : Int)) = .ok (decide ((i : Int) < (s.length : Int)))) (hf : ∀ s (i : Nat) x, s[i]? = some x → s.length ≤ 40 → (∀ y ∈ s, 0 ≤ y ∧ y < n) → f (s, (i : Int)) = .ok (grow okb s (nb x), (i : Int) + 1)) :
    Sat (whileR c f 64 ([k], 0)) (fun s => s.1.Nodup ∧ (∀ x ∈ s.1, 0 ≤ x ∧ x < n) ∧ ∀ x, x ∈ s.1 ↔ Reach nb okb k x) := by
  have hn0 : 0 ≤ n := by omega
  refine Sat.while (fun i s => s.2 = (i : Int) ∧ i ≤ s.1.length ∧ s.1.Nodup ∧ (∀ x ∈ s.1, 0 ≤ x ∧ x < n) ∧ (∀ x ∈ s.1, Reach nb okb k x) ∧ k ∈ s.1 ∧ ∀ j x, j < i → s.1[j]? = some x → ∀ y ∈ nb x, okb y = true → y ∈ s.1) ?_ 64 0 ([k], 0) ?_
    ⟨rfl, Nat.zero_le _, by simp, (fun x m => by cases List.mem_singleton.mp m; exact hk), (fun x m => by cases List.mem_singleton.mp m; exact .here), by simp, fun j x h => by omega⟩
  · rintro i ⟨s, at'⟩ ⟨e, hi, nd, rg, rc, ks, cl⟩
    have hi : i ≤ s.length := hi
    have nd' : s.Nodup := nd
    clear nd
    have nd := nd'
    have rg : ∀ x ∈ s, 0 ≤ x ∧ x < n := rg
    have rc : ∀ x ∈ s, Reach nb okb k x := rc
    have ks : k ∈ s := ks
    have cl : ∀ j x, j < i → s[j]? = some x → ∀ y ∈ nb x, okb y = true → y ∈ s := cl
    have e : at' = (i : Int) := e
    subst e
    have hl : s.length ≤ 40 := by
      have h40 : s.length ≤ n.toNat := nodup_len n.toNat nd fun x m => by have := rg x m; omega
      omega
    refine ⟨_, hc s i, fun h => ?_, fun h => ?_⟩
    · have hlt : i < s.length := by have := of_decide_eq_true h; omega
      have gx := get_of hlt
      have rx := rg s[i] (List.getElem_mem _)
      refine .of_eq (hf s i _ gx hl rg) ⟨rfl, ?_, grow_nodup nd, fun x m => ?_, fun x m => ?_, mem_grow.mpr (.inl ks), fun j x hj hx y my oy => ?_⟩
      · have := grow_pre (okb := okb) (as := nb s[i]) (s := s) |>.length_le
        show i + 1 ≤ (grow okb s (nb s[i])).length
        omega
      · rcases mem_grow.mp m with m | m
        · exact rg x m
        · exact hnb _ rx.1 rx.2 x m.1
      · rcases mem_grow.mp m with m | m
        · exact rc x m
        · exact .on (rc _ (List.getElem_mem hlt)) m.1 m.2
      · have hx : (grow okb s (nb s[i]))[j]? = some x := hx
        have hpre := grow_pre (okb := okb) (as := nb s[i]) (s := s)
        have hjs : s[j]? = some x := by
          obtain ⟨t, ht⟩ := hpre
          rw [← ht, List.getElem?_append_left (by omega)] at hx
          exact hx
        by_cases e : j = i
        · subst e
          rw [gx] at hjs
          cases hjs
          exact mem_grow.mpr (.inr ⟨my, oy⟩)
        · exact mem_grow.mpr (.inl (cl j x (by omega) hjs y my oy))
    · refine ⟨nd, rg, fun x => ⟨rc x, fun r => ?_⟩⟩
      have hge : s.length ≤ i := by have := of_decide_eq_false h; omega
      show x ∈ s
      induction r with
      | here => exact ks
      | on r my oy ih =>
        have ih : _ ∈ s := ih
        obtain ⟨j, hj⟩ := List.getElem?_of_mem ih
        have := (List.getElem?_eq_some_iff.mp hj).1
        exact cl j _ (by omega) hj _ my oy
  · rintro i s ⟨e, hi, nd, rg, _⟩
    have := nodup_len n.toNat nd fun x m => by have := rg x m; omega
    omega
def sgn (b : Str) (k : Int) : Str := ⟨#[b.cps.toList.getD k.toNat 0]⟩
theorem strIx_sgn {b : Str} {k : Int} (hl : b.length ≤ 1000000) (h0 : 0 ≤ k) (h1 : k < b.length) : strIx b k = .ok (sgn b k) := by
  unfold strIx
  rw [decide_eq_true hl]
  have hi : k.toNat < b.cps.toList.length := by rw [Array.length_toList]; show k.toNat < b.length; omega
  have e : atI b.cps.toList k = some b.cps.toList[k.toNat] := by
    have := atI_nat (get_of hi)
    rw [Int.toNat_of_nonneg h0] at this
    exact this
  rw [e]
  show Res.ok _ = Res.ok _
  unfold sgn
  rw [List.getD_eq_getElem?_getD, get_of hi]; rfl
theorem setI_nat {α : Type} {xs : List α} {i : Int} {a : α} (h0 : 0 ≤ i) (h1 : i < xs.length) : setI xs i a = xs.set i.toNat a := by
  unfold setI ixN
  rw [if_pos h0, if_pos (by omega)]
theorem idx_rangeMap {α : Type} {n : Nat} {f : Int → α} {i : Int} (h0 : 0 ≤ i) (h1 : i < n) : G.idx ((rangeL 0 n).map f) i = .ok (f i) := idx_int h0 (by
  rw [List.getElem?_map]
  have : (rangeL 0 n)[i.toNat]? = some i := by
    unfold rangeL
    rw [List.getElem?_map, List.getElem?_range (by omega)]
    show some (0 + (i.toNat : Int)) = _
    congr 1; omega
  rw [this]; rfl)
theorem set_rangeMap {α : Type} {n : Nat} {f : Int → α} {i : Int} {a : α} (h0 : 0 ≤ i) (h1 : i < n) : setI ((rangeL 0 n).map f) i a = (rangeL 0 n).map (fun k => if k = i then a else f k) := by
  rw [setI_nat h0 (by rw [List.length_map, rangeL_len]; exact h1)]
  apply List.ext_getElem?
  intro j
  rw [List.getElem?_set, List.getElem?_map, List.getElem?_map]
  by_cases hj : j < n
  · have : (rangeL 0 n)[j]? = some (j : Int) := by
      unfold rangeL
      rw [List.getElem?_map, List.getElem?_range hj]
      show some (0 + (j : Int)) = _
      congr 1; omega
    rw [this, List.length_map, rangeL_len]
    by_cases e : i.toNat = j
    · rw [if_pos e, if_pos (by omega)]
      show some a = some (if (j : Int) = i then a else f (j : Int))
      rw [if_pos (by omega)]
    · rw [if_neg e]
      show some (f (j : Int)) = some (if (j : Int) = i then a else f (j : Int))
      rw [if_neg (by omega)]
  · have : (rangeL 0 n)[j]? = none := List.getElem?_eq_none (by rw [rangeL_len]; omega)
    rw [this, if_neg (by omega)]; rfl
end G

namespace G
open PySem PySem.Spec PyProof.Rows L2
theorem Reach.trans {nb : Int → List Int} {okb : Int → Bool} {a b c : Int} (h1 : G.Reach nb okb a b) (h2 : G.Reach nb okb b c) : G.Reach nb okb a c := by
  induction h2 with
  | here => exact h1
  | on _ m o ih => exact .on ih m o
theorem Reach.ok {nb : Int → List Int} {okb : Int → Bool} {a b : Int} (h : G.Reach nb okb a b) (ha : okb a = true) : okb b = true := by
  cases h with
  | here => exact ha
  | on _ _ o => exact o
theorem Reach.symm {nb : Int → List Int} {okb : Int → Bool} (hs : ∀ x y, y ∈ nb x → x ∈ nb y) {a b : Int} (ha : okb a = true) (h : G.Reach nb okb a b) : G.Reach nb okb b a := by
  induction h with
  | here => exact .here
  | on r m o ih => exact Reach.trans (.on .here (hs _ _ m) (Reach.ok r ha)) ih
theorem nextL_symm {w : Int × Tup (Int × Int)} (h : WebOk w) (x y : Int) (m : y ∈ nextL w x) : x ∈ nextL w y := (mem_nextL h).mpr (tied_symm.mp ((mem_nextL h).mp m))
theorem Reach.range {w : Int × Tup (Int × Int)} (h : WebOk w) {okb : Int → Bool} {k x : Int} (hk : 0 ≤ k ∧ k < w.1) (r : G.Reach (nextL w) okb k x) : 0 ≤ x ∧ x < w.1 := by
  cases r with
  | here => exact hk
  | on _ m _ => exact (nextL_rise w (by have := h.n1; omega) _).2 x m
noncomputable def PL (w : Int × Tup (Int × Int)) (ok : Int → Bool) (k : Int) : List Int := (rangeL 0 w.1.toNat).filter fun x => @decide (G.Reach (nextL w) ok k x) (Classical.propDecidable _)
section
variable {w : Int × Tup (Int × Int)} {ok : Int → Bool}
noncomputable def isrep (w : Int × Tup (Int × Int)) (ok : Int → Bool) (k : Int) : Bool := ok k && (PL w ok k).all fun x => decide (k ≤ x)
noncomputable def reps (w : Int × Tup (Int × Int)) (ok : Int → Bool) (i : Nat) : List Int := (rangeL 0 i).filter (isrep w ok)
noncomputable def PS (w : Int × Tup (Int × Int)) (ok : Int → Bool) : List (List Int) := (reps w ok w.1.toNat).map (PL w ok)
theorem rangeL_succ (i : Nat) : rangeL 0 (i + 1) = rangeL 0 i ++ [(i : Int)] := by
  unfold rangeL
  rw [List.range_succ, List.map_append]
  simp
end
end G

namespace G
open PySem PySem.Spec PyProof.Rows L2
theorem cps_app (x y : Str) : (x ++ y).cps.toList = x.cps.toList ++ y.cps.toList := by
  show (x.cps ++ y.cps).toList = _
  exact Array.toList_append
def cpOf (b : Str) (k : Int) : Nat := b.cps.toList.getD k.toNat 0
theorem sgn_eq {b : Str} {k : Int} {c : Nat} : sgn b k = ⟨#[c]⟩ ↔ cpOf b k = c := by
  unfold sgn cpOf
  constructor
  · intro h
    injection h with h
    have := congrArg (fun a : Array Nat => a.toList) h
    simpa using this
  · intro h; rw [h]
theorem join_cps : ∀ l : List Str, (Txt.join (PySem.Str.ofString "") l).cps.toList = l.flatMap fun x => x.cps.toList := by
  have e : ∀ l : List Str, Txt.join (PySem.Str.ofString "") l = Str.join (PySem.Str.ofString "") l := fun l => by
    show Builtin.Str.glued _ _ = _
    rw [StrLaws.glued_eq_join]
  intro l
  rw [e]
  induction l with
  | nil => rfl
  | cons a l ih =>
    cases l with
    | nil => show a.cps.toList = _; simp
    | cons b l =>
      rw [show Str.join (PySem.Str.ofString "") (a :: b :: l) = a ++ PySem.Str.ofString "" ++ Str.join (PySem.Str.ofString "") (b :: l) from rfl, cps_app, cps_app, ih]
      have : (PySem.Str.ofString "").cps.toList = [] := by decide
      rw [this, List.append_nil]; rfl
end G

namespace G
open PySem PySem.Spec PyProof.Rows L2
theorem cutS_len (z : Str) (lo hi : Option Int) : (cutS z lo hi).length ≤ z.length := by
  unfold cutS
  show (Array.size (List.toArray _)) ≤ z.cps.size
  rw [List.size_toArray, List.length_take, List.length_drop, Array.length_toList]
  omega
theorem listS_ok {x : Str} (h : x.length ≤ 1000000) : listS x = .ok (signsOf x) := guardR_of (decide_eq_true h)
theorem mulS_ok {x : Str} {k : Int} (h0 : 0 ≤ k) (h1 : k ≤ 1000000) (h : x.length * k.toNat ≤ 1000000) : mulS x k = .ok (repS x k) := guardR_of (by
  rw [decide_eq_true h0, decide_eq_true h1, show big _ = true from decide_eq_true h]; rfl)
theorem strLen_ok {x : Str} (h : x.length ≤ 1000000) : strLen x = .ok (x.length : Int) := guardR_of (decide_eq_true h)
theorem inS_dotxo (c : Nat) : inS ⟨#[c]⟩ (PySem.Str.ofString ".xo") = decide (c = 46 ∨ c = 120 ∨ c = 111) := by
  rw [inS_one]
  have : (PySem.Str.ofString ".xo").cps.toList = [46, 120, 111] := by decide
  rw [this]
  simp
end G

namespace G
open PySem PySem.Spec PyProof.Rows L2
def nextsL (w : Int × Tup (Int × Int)) : List (List Int) := (rangeL 0 w.1.toNat).map (nextL w)
def Chain (w : Int × Tup (Int × Int)) (b : Str) (k : Int) (l : List Int) : Prop := Rise w.1 l ∧ l.length ≤ 40 ∧ ∀ x, x ∈ l ↔ Reach (nextL w) (fun y => decide (sgn b y = sgn b k)) k x
theorem Chain.uniq {w : Int × Tup (Int × Int)} {b : Str} {k : Int} {l m : List Int} (h1 : Chain w b k l) (h2 : Chain w b k m) : l = m := rise_ext h1.1.1 h2.1.1 fun x => by rw [h1.2.2, h2.2.2]
theorem chain_of_bfs {w : Int × Tup (Int × Int)} (h : WebOk w) {b : Str} {k : Int} {s : List Int} (h1 : s.Nodup) (h2 : ∀ x ∈ s, 0 ≤ x ∧ x < w.1) (h3 : ∀ x, x ∈ s ↔ Reach (nextL w) (fun y => decide (sgn b y = sgn b k)) k x) : Chain w b k (sortI s) := by
  have n1 := h.n1
  have n2 := h.n2
  refine ⟨⟨sortI_rise h1, fun x m => h2 x (mem_sortI.mp m)⟩, ?_, fun x => by rw [mem_sortI, h3]⟩
  rw [(sortI_perm s).length_eq]
  have : s.length ≤ w.1.toNat := nodup_len _ h1 fun x m => by have := h2 x m; omega
  omega
theorem inner {w : Int × Tup (Int × Int)} (h : WebOk w) {b : Str} (hb : b.length = w.1.toNat) {k x : Int} (hk : 0 ≤ k ∧ k < w.1) {s : List Int} (hs : s.length ≤ 40) :
    foldR (fun (s11 : (List Int)) (a12 : Int) => (Res.bind (Res.bind (Res.bind (Res.bind (strIx b a12) fun v13 => (Res.bind (strIx b k) fun v14 => (Res.ok (ScaEq.eq v13 v14)))) fun v15 => (if v15 then (Res.ok (!decide (a12 ∈ s11))) else (Res.ok false))) fun v18 => (if v18 then (Res.bind (appR s11 a12) fun found17 => (Res.ok found17)) else (Res.ok s11))) fun s16 => (Res.ok s16))) s (nextL w x) = .ok (grow (fun y => decide (sgn b y = sgn b k)) s (nextL w x)) := by
  have n1 := h.n1
  have n2 := h.n2
  have hn := nextL_len w h x
  refine foldR_grow (fun a ha s hs => ?_) (by omega)
  have ra := (nextL_rise w (by omega) x).2 a ha
  rw [strIx_sgn (by omega) ra.1 (by omega), strIx_sgn (by omega) hk.1 (by omega)]
  simp only [Res.okb, eqSS]
  by_cases e : sgn b a = sgn b k
  · by_cases m : a ∈ s
    · simp [e, m]
    · simp only [e, decide_true, if_true, m, decide_false, Bool.not_false, Res.okb, not_false_eq_true, and_self]
      rw [appR_ok (by omega)]; rfl
  · simp [e]
def Breath (w : Int × Tup (Int × Int)) (b : Str) (ch l : List Int) : Prop := Rise w.1 l ∧ l.length ≤ 40 ∧ ∀ x, x ∈ l ↔ (∃ c ∈ ch, x ∈ nextL w c) ∧ sgn b x = PySem.Str.ofString "."
theorem Breath.uniq {w : Int × Tup (Int × Int)} {b : Str} {ch l m : List Int} (h1 : Breath w b ch l) (h2 : Breath w b ch m) : l = m := rise_ext h1.1.1 h2.1.1 fun x => by rw [h1.2.2, h2.2.2]
theorem breath_of {w : Int × Tup (Int × Int)} (h : WebOk w) {b : Str} {ch s : List Int} (h1 : s.Nodup) (h2 : ∀ x ∈ s, 0 ≤ x ∧ x < w.1) (h3 : ∀ x, x ∈ s ↔ (∃ c ∈ ch, x ∈ nextL w c) ∧ sgn b x = PySem.Str.ofString ".") : Breath w b ch (sortI s) := by
  have n1 := h.n1
  have n2 := h.n2
  refine ⟨⟨sortI_rise h1, fun x m => h2 x (mem_sortI.mp m)⟩, ?_, fun x => by rw [mem_sortI, h3]⟩
  rw [(sortI_perm s).length_eq]
  have : s.length ≤ w.1.toNat := nodup_len _ h1 fun x m => by have := h2 x m; omega
  omega
abbrev dotb (b : Str) : Int → Bool := fun y => decide (sgn b y = PySem.Str.ofString ".")
theorem grow_step (w : Int × Tup (Int × Int)) (h : WebOk w) (b : Str) {ch : List Int} {i : Nat} {k : Int} (hk : ch[i]? = some k) {s : List Int} (h1 : s.Nodup) (h2 : ∀ x ∈ s, 0 ≤ x ∧ x < w.1) (h3 : ∀ x, x ∈ s ↔ (∃ c ∈ ch.take i, x ∈ nextL w c) ∧ sgn b x = PySem.Str.ofString ".") :
    (grow (dotb b) s (nextL w k)).Nodup ∧ (∀ x ∈ grow (dotb b) s (nextL w k), 0 ≤ x ∧ x < w.1) ∧ ∀ x, x ∈ grow (dotb b) s (nextL w k) ↔ (∃ c ∈ ch.take (i + 1), x ∈ nextL w c) ∧ sgn b x = PySem.Str.ofString "." := by
  have n1 := h.n1
  refine ⟨grow_nodup h1, fun x m => ?_, fun x => ?_⟩
  · rcases mem_grow.mp m with m | m
    · exact h2 x m
    · exact (nextL_rise w (by omega) k).2 x m.1
  · rw [mem_grow, h3, List.take_succ, hk]
    unfold dotb
    rw [decide_eq_true_iff]
    constructor
    · rintro (⟨⟨c, m, e⟩, d⟩ | ⟨m, d⟩)
      · exact ⟨⟨c, List.mem_append_left _ m, e⟩, d⟩
      · exact ⟨⟨k, by simp, m⟩, d⟩
    · rintro ⟨⟨c, m, e⟩, d⟩
      rcases List.mem_append.mp m with m | m
      · exact .inl ⟨⟨c, m, e⟩, d⟩
      · have : c = k := by simpa using m
        subst this
        exact .inr ⟨e, d⟩
theorem filt_grow {okb : Int → Bool} : ∀ {as : List Int} {s t : List Int}, as.Nodup → (∀ x ∈ as, x ∈ t ↔ x ∈ s) → grow okb t as = t ++ as.filter (fun x => okb x && !decide (x ∈ s))
  | [], s, t, _, _ => by unfold grow; simp
  | a :: as, s, t, nd, e => by
    obtain ⟨n1, n2⟩ := List.nodup_cons.mp nd
    unfold grow
    have ea := e a List.mem_cons_self
    by_cases h : okb a = true ∧ a ∉ t
    · rw [if_pos h, filt_grow (s := s) n2 fun x m => by
        rw [List.mem_append, List.mem_singleton]
        constructor
        · rintro (z | rfl)
          · exact (e x (List.mem_cons_of_mem _ m)).mp z
          · exact (n1 m).elim
        · exact fun z => .inl ((e x (List.mem_cons_of_mem _ m)).mpr z)]
      have h2 : a ∉ s := fun z => h.2 (ea.mpr z)
      rw [List.filter_cons, if_pos (by simp [h.1, h2])]
      simp
    · rw [if_neg h, filt_grow (s := s) n2 fun x m => e x (List.mem_cons_of_mem _ m)]
      rw [List.filter_cons, if_neg]
      simp only [Bool.and_eq_true, Bool.not_eq_true', decide_eq_false_iff_not, not_and]
      intro h1 h2
      exact h ⟨h1, fun z => h2 (ea.mp z)⟩
abbrev dot : Str := PySem.Str.ofString "."
abbrev xS : Str := PySem.Str.ofString "x"
abbrev oS : Str := PySem.Str.ofString "o"
def adj (w : Int × Tup (Int × Int)) (b : Str) (z : Str) (p : List Int) : Bool := p.any fun k => (nextL w k).any fun y => decide (sgn b y = z)
def handsOf (w : Int × Tup (Int × Int)) (b : Str) (p : List Int) : Str := Txt.join (PySem.Str.ofString "") ([xS, oS].filter fun z => adj w b z p)
def emp (w : Int × Tup (Int × Int)) (b : Str) : List Int := (rangeL 0 w.1.toNat).filter fun k => decide (sgn b k = dot)
theorem sgn_dot {b : Str} {k : Int} : sgn b k = dot ↔ cpOf b k = 46 := by
  have : dot = ⟨#[46]⟩ := by decide
  rw [this]; exact sgn_eq
def signOk (b : Str) : Prop := ∀ c ∈ b.cps.toList, c = 46 ∨ c = 120 ∨ c = 111
def putL (b : Str) (some' : List Int) (c : Nat) : Str := ⟨((rangeL 0 b.length).map fun k => if k ∈ some' then c else cpOf b k).toArray⟩
theorem putL_cps (b : Str) (some' : List Int) (c : Nat) : (putL b some' c).cps.toList = (rangeL 0 b.length).map fun k => if k ∈ some' then c else cpOf b k := by unfold putL; simp
theorem putL_len (b : Str) (some' : List Int) (c : Nat) : (putL b some' c).length = b.length := by
  show (putL b some' c).cps.size = _
  rw [← Array.length_toList, putL_cps, List.length_map, rangeL_len]
theorem rangeL_at {n : Nat} {k : Int} (h0 : 0 ≤ k) (h1 : k < n) : (rangeL 0 n)[k.toNat]? = some k := by
  have h : k.toNat < (rangeL 0 n).length := by rw [rangeL_len]; omega
  have := (rangeL0 (get_of h)).2
  rw [get_of h, this]
  congr 1; omega
theorem putL_at {b : Str} {some' : List Int} {c : Nat} {k : Int} (h0 : 0 ≤ k) (h1 : k < b.length) : cpOf (putL b some' c) k = if k ∈ some' then c else cpOf b k := by
  unfold cpOf
  rw [putL_cps, List.getD_eq_getElem?_getD, List.getElem?_map, rangeL_at h0 h1]; rfl
theorem sgn_cp {b : Str} {k : Int} : sgn b k = ⟨#[cpOf b k]⟩ := rfl
theorem str1_inj {c d : Nat} : (⟨#[c]⟩ : Str) = ⟨#[d]⟩ ↔ c = d := by simp
theorem sgn_iff {b b' : Str} {k k' : Int} : sgn b k = sgn b' k' ↔ cpOf b k = cpOf b' k' := by rw [sgn_cp, sgn_cp, str1_inj]
theorem dot_eq : dot = ⟨#[46]⟩ := by decide
theorem signOk_at {b : Str} (h : signOk b) {k : Int} (h0 : 0 ≤ k) (h1 : k < b.length) : cpOf b k = 46 ∨ cpOf b k = 120 ∨ cpOf b k = 111 := by
  have hl : k.toNat < b.cps.toList.length := by rw [Array.length_toList]; show k.toNat < b.length; omega
  have : cpOf b k = b.cps.toList[k.toNat] := by unfold cpOf; rw [List.getD_eq_getElem?_getD, get_of hl]; rfl
  rw [this]
  exact h _ (List.getElem_mem hl)
theorem putL_ok {b : Str} (h : signOk b) (some' : List Int) {c : Nat} (hc : c = 46 ∨ c = 120 ∨ c = 111) : signOk (putL b some' c) := fun d m => by
  rw [putL_cps] at m
  obtain ⟨k, mk, rfl⟩ := List.mem_map.mp m
  have := mem_rangeL.mp mk
  split
  · exact hc
  · exact signOk_at h this.1 (by omega)
def Breathes (w : Int × Tup (Int × Int)) (b : Str) (k : Int) : Prop := ∃ x, G.Reach (nextL w) (fun y => decide (sgn b y = sgn b k)) k x ∧ ∃ y ∈ nextL w x, sgn b y = dot
noncomputable def breathB (w : Int × Tup (Int × Int)) (b : Str) (k : Int) : Bool := @decide (Breathes w b k) (Classical.propDecidable _)
theorem breathB_iff {w : Int × Tup (Int × Int)} {b : Str} {k : Int} : breathB w b k = true ↔ Breathes w b k := by unfold breathB; exact @decide_eq_true_iff _ (Classical.propDecidable _)
def Sound (w : Int × Tup (Int × Int)) (b : Str) : Prop := ∀ k, 0 ≤ k → k < w.1 → sgn b k ≠ dot → Breathes w b k
noncomputable def goneL (w : Int × Tup (Int × Int)) (b : Str) : List Int := (rangeL 0 w.1.toNat).filter fun k => !decide (sgn b k = dot) && !breathB w b k
noncomputable def clearedL (w : Int × Tup (Int × Int)) (b : Str) : Str := putL b (goneL w b) 46
theorem breathes_of {w : Int × Tup (Int × Int)} (h : WebOk w) {b : Str} {k x : Int} (r : G.Reach (nextL w) (fun y => decide (sgn b y = sgn b k)) k x) (hb : Breathes w b k) : Breathes w b x := by
  obtain ⟨z, rz, y, my, hy⟩ := hb
  have ex : sgn b x = sgn b k := by
    have := Reach.ok r (decide_eq_true rfl)
    exact of_decide_eq_true this
  refine ⟨z, ?_, y, my, hy⟩
  rw [ex]
  exact Reach.trans (Reach.symm (nextL_symm h) (decide_eq_true rfl) r) rz
theorem cleared_sound {w : Int × Tup (Int × Int)} (h : WebOk w) {b : Str} (hb : b.length = w.1.toNat) : Sound w (clearedL w b) := by
  intro k h0 h1 hd
  have n1 := h.n1
  have at' : ∀ {x : Int}, 0 ≤ x → x < w.1 → cpOf (clearedL w b) x = if x ∈ goneL w b then 46 else cpOf b x := fun {x} a c => putL_at a (by omega)
  have ng : k ∉ goneL w b := fun m => hd (by rw [dot_eq]; exact sgn_eq.mpr (by rw [at' h0 h1, if_pos m]))
  have ek : cpOf (clearedL w b) k = cpOf b k := by rw [at' h0 h1, if_neg ng]
  have hdb : sgn b k ≠ dot := fun e => hd (by rw [dot_eq] at e ⊢; exact sgn_eq.mpr (by rw [ek]; exact sgn_eq.mp e))
  have br : Breathes w b k := by
    by_cases e : breathB w b k = true
    · exact breathB_iff.mp e
    · refine (ng ?_).elim
      unfold goneL
      refine List.mem_filter.mpr ⟨mem_rangeL.mpr ⟨h0, by omega⟩, ?_⟩
      rw [decide_eq_false hdb]
      simpa using e
  obtain ⟨x, r, y, my, hy⟩ := br
  have stay : ∀ {x : Int}, G.Reach (nextL w) (fun y => decide (sgn b y = sgn b k)) k x → x ∉ goneL w b ∧ cpOf b x = cpOf b k := fun {x} r => by
    have ex : sgn b x = sgn b k := of_decide_eq_true (Reach.ok r (decide_eq_true rfl))
    refine ⟨fun m => ?_, sgn_iff.mp ex⟩
    unfold goneL at m
    have q := (List.mem_filter.mp m).2
    rw [Bool.and_eq_true] at q
    have := breathes_of h r ⟨_, by assumption, y, my, hy⟩
    rw [breathB_iff.mpr this] at q
    exact absurd q.2 (by decide)
  have rr : ∀ {x : Int}, G.Reach (nextL w) (fun y => decide (sgn b y = sgn b k)) k x → G.Reach (nextL w) (fun y => decide (sgn (clearedL w b) y = sgn (clearedL w b) k)) k x := fun {x} r => by
    induction r with
    | here => exact .here
    | on r m o ih =>
      refine .on ih m (decide_eq_true (sgn_iff.mpr ?_))
      have s := stay (.on r m o)
      have rg := Reach.range h ⟨h0, h1⟩ (.on r m o)
      rw [at' rg.1 rg.2, if_neg s.1, ek, s.2]
  have ry := (nextL_rise w (by omega) x).2 y my
  refine ⟨x, rr r, y, my, ?_⟩
  rw [dot_eq] at hy ⊢
  refine sgn_eq.mpr ?_
  rw [at' ry.1 ry.2]
  split
  · rfl
  · exact sgn_eq.mp hy
def swap (c : Nat) : Nat := if c = 120 then 111 else if c = 111 then 120 else c
abbrev XD : Dic Str Str := dofL (((PySem.Str.ofString "x"), (PySem.Str.ofString "o")) :: (((PySem.Str.ofString "o"), (PySem.Str.ofString "x")) :: (((PySem.Str.ofString "."), (PySem.Str.ofString ".")) :: [])))
end G

namespace G
open PySem PySem.Spec PyProof.Rows L2
def shT (n : Int) (t : Int × Int) : Int × Int := (t.1 + n, t.2 + n)
def besW (w1 w2 : Int × Tup (Int × Int)) : Int × Tup (Int × Int) := (w1.1 + w2.1, ⟨w1.2.l ++ w2.2.l.map (shT w1.1)⟩)
section
variable {w1 w2 : Int × Tup (Int × Int)}
def mvL (n : Int) (l : List Int) : List Int := l.map fun x => x + n
variable (h1 : WebOk w1) (h2 : WebOk w2) (hU : WebOk (besW w1 w2))
include h1 h2 hU
variable {ok ok1 ok2 : Int → Bool} (o1 : ∀ x, 0 ≤ x → x < w1.1 → ok x = ok1 x) (o2 : ∀ x, 0 ≤ x → x < w2.1 → ok (x + w1.1) = ok2 x)
include o1 in
include o2 in
include o1 in
include o2 in
include o1 in
include o2 in
omit h1 h2 hU in
include o1 o2 in
end
section
variable {w1 w2 : Int × Tup (Int × Int)} (h1 : WebOk w1) (h2 : WebOk w2) (hU : WebOk (besW w1 w2)) {b1 b2 : Str} (l1 : b1.length = w1.1.toNat) (l2 : b2.length = w2.1.toNat)
include h1 h2 hU l1 l2
end
end G

namespace G
open PySem PySem.Spec PyProof.Rows L2
abbrev LI := List Int
theorem nodup_sub_len {α : Type} [DecidableEq α] : ∀ {l m : List α}, l.Nodup → (∀ x ∈ l, x ∈ m) → l.length ≤ m.length
  | [], _, _, _ => Nat.zero_le _
  | a :: l, m, nd, hs => by
    have ⟨h1, h2⟩ := List.nodup_cons.mp nd
    have ma := hs a List.mem_cons_self
    have := nodup_sub_len (l := l) (m := m.erase a) h2 fun x mx => by
      have ne : x ≠ a := fun e => by subst e; exact h1 mx
      exact (List.mem_erase_of_ne ne).mpr (hs x (List.mem_cons_of_mem _ mx))
    rw [List.length_erase_of_mem ma] at this
    have := List.length_pos_of_mem ma
    rw [List.length_cons]; omega
theorem sublist_filter {α : Type} [DecidableEq α] {C L : List α} (h : C.Sublist L) (nd : L.Nodup) : C = L.filter fun x => decide (x ∈ C) := by
  induction h with
  | slnil => rfl
  | cons a h ih =>
    have ⟨h1, h2⟩ := List.nodup_cons.mp nd
    rw [List.filter_cons, if_neg (by simpa using fun m => h1 (h.subset m))]
    exact ih h2
  | cons_cons a h ih =>
    rename_i l1 l2
    have ⟨h1, h2⟩ := List.nodup_cons.mp nd
    rw [List.filter_cons, if_pos (by simp)]
    congr 1
    refine (ih h2).trans (List.filter_congr fun x m => ?_)
    have : x ≠ a := fun e => h1 (e ▸ m)
    simp [this]
theorem sublist_uniq {α : Type} [DecidableEq α] {C D L : List α} (h : C.Sublist L) (h' : D.Sublist L) (nd : L.Nodup) (e : ∀ x, x ∈ C ↔ x ∈ D) : C = D := by
  rw [sublist_filter h nd, sublist_filter h' nd]
  exact List.filter_congr fun x _ => by rw [Bool.eq_iff_iff, decide_eq_true_iff, decide_eq_true_iff, e]
section
variable (CL YL : List LI) (SV BD : LI → LI → Bool)
def srv (c : LI) (Y : List LI) : Nat := (Y.filter (SV c)).length
def bwi (y : LI) (C : List LI) : Bool := !(CL.filter (BD y)).any fun c => !decide (c ∈ C)
theorem bwi_iff {CL : List LI} {BD : LI → LI → Bool} {y : LI} {C : List LI} : bwi CL BD y C = true ↔ ∀ c ∈ CL, BD y c = true → c ∈ C := by
  unfold bwi
  rw [Bool.not_eq_true', ← Bool.not_eq_true, List.any_eq_true]
  constructor
  · intro h c m e
    by_cases q : c ∈ C
    · exact q
    · exact (h ⟨c, List.mem_filter.mpr ⟨m, e⟩, by simp [q]⟩).elim
  · rintro h ⟨c, m, e⟩
    have := h c (List.mem_filter.mp m).1 (List.mem_filter.mp m).2
    simp [this] at e
structure Lets (C Y : List LI) : Prop where
  c : ∀ x ∈ C, x ∈ CL
  cn : C.Nodup
  y : ∀ x ∈ Y, x ∈ YL
  yn : Y.Nodup
  s : ∀ c ∈ C, 2 ≤ srv SV c Y
  b : ∀ y ∈ Y, bwi CL BD y C = true
structure Great (p : List LI × List LI) : Prop where
  c : p.1.Sublist CL
  y : p.2.Sublist YL
  lets : Lets CL YL SV BD p.1 p.2
  all : ∀ C Y, Lets CL YL SV BD C Y → (∀ x ∈ C, x ∈ p.1) ∧ ∀ x ∈ Y, x ∈ p.2
variable {CL YL SV BD}
theorem srv_mono {c : LI} {Y Z : List LI} (nd : Y.Nodup) (h : ∀ x ∈ Y, x ∈ Z) : srv SV c Y ≤ srv SV c Z := by
  unfold srv
  exact nodup_sub_len (nd.filter _) fun x m => List.mem_filter.mpr ⟨h x (List.mem_filter.mp m).1, (List.mem_filter.mp m).2⟩
theorem Great.uniq {p q : List LI × List LI} (h : Great CL YL SV BD p) (h' : Great CL YL SV BD q) (nc : CL.Nodup) (ny : YL.Nodup) : p = q := by
  refine Prod.ext (sublist_uniq h.c h'.c nc fun x => ⟨fun m => ?_, fun m => ?_⟩) (sublist_uniq h.y h'.y ny fun x => ⟨fun m => ?_, fun m => ?_⟩)
  · exact (h'.all _ _ h.lets).1 x m
  · exact (h.all _ _ h'.lets).1 x m
  · exact (h'.all _ _ h.lets).2 x m
  · exact (h.all _ _ h'.lets).2 x m
def joinB (a b : List LI) : List LI := a ++ b.filter fun x => !decide (x ∈ a)
theorem mem_joinB {a b : List LI} {x : LI} : x ∈ joinB a b ↔ x ∈ a ∨ x ∈ b := by
  unfold joinB
  rw [List.mem_append, List.mem_filter]
  constructor
  · rintro (h | h)
    · exact .inl h
    · exact .inr h.1
  · rintro (h | h)
    · exact .inl h
    · by_cases m : x ∈ a
      · exact .inl m
      · exact .inr ⟨h, by simp [m]⟩
theorem joinB_nodup {a b : List LI} (ha : a.Nodup) (hb : b.Nodup) : (joinB a b).Nodup := by
  unfold joinB
  refine List.nodup_append.mpr ⟨ha, hb.filter _, fun x m y m' e => ?_⟩
  subst e
  have := (List.mem_filter.mp m').2
  simp [m] at this
theorem Lets.join {C Y C' Y' : List LI} (h : Lets CL YL SV BD C Y) (h' : Lets CL YL SV BD C' Y') : Lets CL YL SV BD (joinB C C') (joinB Y Y') where
  c := fun x m => (mem_joinB.mp m).elim (h.c x) (h'.c x)
  cn := joinB_nodup h.cn h'.cn
  y := fun x m => (mem_joinB.mp m).elim (h.y x) (h'.y x)
  yn := joinB_nodup h.yn h'.yn
  s := fun c m => by
    rcases mem_joinB.mp m with m | m
    · exact Nat.le_trans (h.s c m) (srv_mono h.yn fun x mx => mem_joinB.mpr (.inl mx))
    · exact Nat.le_trans (h'.s c m) (srv_mono h'.yn fun x mx => mem_joinB.mpr (.inr mx))
  b := fun y m => by
    rw [bwi_iff]
    intro c mc e
    rcases mem_joinB.mp m with m | m
    · exact mem_joinB.mpr (.inl (bwi_iff.mp (h.b y m) c mc e))
    · exact mem_joinB.mpr (.inr (bwi_iff.mp (h'.b y m) c mc e))
def stC (C Y : List LI) : List LI := C.filter fun c => decide (1 < srv SV c Y)
def stY (C Y : List LI) : List LI := Y.filter fun y => bwi CL BD y C
abbrev GS := Int × List LI × List LI
end
def someBad (ls th : List LI) (a : Int × LI) : Bool := !decide (a.2 ∈ ls) || decide (a.2 ∈ th.take a.1.toNat)
end G

namespace G
open PySem PySem.Spec PyProof.Rows L2
def EndsR {S L R : Type} (P : S → Prop) (Q : R → Prop) (o : Out S L R) : Prop := (∃ s, o = .nx s ∧ P s) ∨ ∃ r, o = .rt r ∧ Q r
end G

namespace G
open PySem PySem.Spec PyProof.Rows L2
structure IsPart (n : Nat) (r : List Int) : Prop where
  nd : r.Nodup
  rg : ∀ x ∈ r, 0 ≤ x ∧ x < n
structure IsOrd (n : Nat) (r : List Int) : Prop extends IsPart n r where
  len : r.length = n
theorem IsPart.le {n : Nat} {r : List Int} (h : IsPart n r) : r.length ≤ n := nodup_len n h.nd h.rg
theorem IsOrd.all {n : Nat} {r : List Int} (h : IsOrd n r) {x : Int} (h0 : 0 ≤ x) (h1 : x < n) : x ∈ r := by
  by_cases m : x ∈ r
  · exact m
  · have := nodup_len n (List.nodup_cons.mpr ⟨m, h.nd⟩) fun y my => (List.mem_cons.mp my).elim (fun e => by rw [e]; exact ⟨h0, h1⟩) (h.rg y)
    rw [List.length_cons, h.len] at this
    omega
def nameOf (r : List Int) (i : Int) : Int := r.getD i.toNat 0
theorem nameOf_get {r : List Int} {i : Int} (h1 : i.toNat < r.length) : r[i.toNat]? = some (nameOf r i) := by
  unfold nameOf
  rw [List.getD_eq_getElem?_getD, List.getElem?_eq_getElem h1]; rfl
theorem IsPart.inj {n : Nat} {r : List Int} (h : IsPart n r) {i j : Int} (hi : 0 ≤ i) (hi1 : i < r.length) (hj : 0 ≤ j) (hj1 : j < r.length) (e : nameOf r i = nameOf r j) : i = j := by
  have a := nameOf_get (r := r) (i := i) (by omega)
  have b := nameOf_get (r := r) (i := j) (by omega)
  rw [e, ← b] at a
  have := (List.getElem?_inj (by omega : i.toNat < r.length) h.nd).mp a
  omega
def callT (r : List Int) (t : Int × Int) : Int × Int := (min (nameOf r t.1) (nameOf r t.2), max (nameOf r t.1) (nameOf r t.2))
def callW (w : Int × Tup (Int × Int)) (r : List Int) : Int × Tup (Int × Int) := (w.1, ⟨sortP (w.2.l.map (callT r))⟩)
def FitK (ts ts' : List (Int × Int)) (r : List Int) (k : Nat) : Prop := ∀ a : Int, 0 ≤ a → a < k → ((a, (k : Int)) ∈ ts ↔ callT r (a, (k : Int)) ∈ ts')
def ext (n : Nat) : Nat → List Int → List (List Int)
  | 0, p => [p]
  | m + 1, p => ((rangeL 0 n).filter fun s => !decide (s ∈ p)).flatMap fun s => ext n m (p ++ [s])
instance instDecTupG {α : Type} [DecidableEq α] : DecidableEq (Tup α) := fun a b => if h : a.l = b.l then isTrue (by cases a; cases b; cases h; rfl) else isFalse (fun e => h (by rw [e]))
noncomputable def dec (P : Prop) : Bool := @decide P (Classical.propDecidable P)
theorem cut_lenE {α : Type} (xs : List α) {lo hi : Nat} (h : lo ≤ hi) (hl : hi ≤ xs.length) : (cut xs (some (lo : Int)) (some (hi : Int))).length = hi - lo := by
  unfold cut
  rw [HT.sIx_nat, HT.sIx_nat, List.length_take, List.length_drop]
  omega
end G

namespace G
open PySem PySem.Spec PyProof.Rows L2
def spotOf (r : List Int) (x : Int) : Int := (r.idxOf x : Nat)
def compO (o l : List Int) : List Int := l.map (nameOf o)
def invO (n : Nat) (l : List Int) : List Int := (rangeL 0 n).map (spotOf l)
def calB (b : Str) (r : List Int) : Str := ⟨((rangeL 0 b.length).map fun k => cpOf b (spotOf r k)).toArray⟩
noncomputable def autL (w : Int × Tup (Int × Int)) : List (List Int) := (ext w.1.toNat w.1.toNat []).filter fun r => dec (callW w r = w)
end G

namespace G
open PySem PySem.Spec PyProof.Rows L2
instance : DatEq (Option Int) := ⟨fun a b => by
  cases a <;> cases b
  · exact ⟨fun _ => rfl, fun _ => rfl⟩
  · exact ⟨fun h => (nomatch h), fun h => (nomatch h)⟩
  · exact ⟨fun h => (nomatch h), fun h => (nomatch h)⟩
  · rename_i i j
    show PyData.eqv (Dat.py i) (Dat.py j) = true ↔ _
    rw [DatEq.iff]; simp⟩
instance : DatEq (Option Str) := ⟨fun a b => by
  cases a <;> cases b
  · exact ⟨fun _ => rfl, fun _ => rfl⟩
  · exact ⟨fun h => (nomatch h), fun h => (nomatch h)⟩
  · exact ⟨fun h => (nomatch h), fun h => (nomatch h)⟩
  · rename_i i j
    show PyData.eqv (Dat.py i) (Dat.py j) = true ↔ _
    rw [DatEq.iff]; simp⟩
@[simp] theorem noX_ok' {α : Type} (a : α) : noX (Res.ok a) = .ok a := rfl
@[simp] theorem noX_exc' {α : Type} (x : Exn) : noX (Res.exc x : Res α) = .stuck := rfl
@[simp] theorem noX_stuck' {α : Type} : noX (Res.stuck : Res α) = .stuck := rfl
theorem Sat.noX {α : Type} {m : Res α} {P : α → Prop} (h : Sat m P) : Sat (noX m) P := by
  obtain ⟨a, e, p⟩ := h
  rw [e]; exact .ok p
end G
namespace G
open PySem PySem.Spec PyProof.Rows L2
end G

namespace K58
open PySem PySem.Spec PyProof.Rows L2 G
def topS (i : Nat) : Stmt := PySem.Challenge.pw_ringstones_k58_no_standing.main.body.getD i (.Pass ⟨0, 0, 0, 0⟩)
abbrev FlT_Fight : Type := (((((Unit × (Int × (G.Tup (Int × Int)))) × G.Dy) × PySem.Str) × (List Int)) × Int)
instance : ObN "Fight" := ⟨["aim", "the_field", "first_board", "the_rules", "the_web"]⟩
abbrev FlT_Chase : Type := (Unit × Int)
instance : ObN "Chase" := ⟨["fight"]⟩
def it_tab_TooMany : ETab := [((PySem.Str.ofString "NoFight"), false)]
def it_tab_NoText : ETab := [((PySem.Str.ofString "NoFight"), false)]
def it_tab_NoName : ETab := [((PySem.Str.ofString "NoFight"), false)]
def it_tab_NoField : ETab := [((PySem.Str.ofString "NoFight"), false)]
def it_tab_NoCrossing : ETab := [((PySem.Str.ofString "NoFight"), false)]
def it_tab_NoBoard : ETab := [((PySem.Str.ofString "NoFight"), false)]
def it_tab_Again : ETab := [((PySem.Str.ofString "NoFight"), false)]
def it_tab_NoFight : ETab := [((PySem.Str.ofString "NoFight"), true)]
def it_tab_ValueError : ETab := [((PySem.Str.ofString "NoFight"), true)]
def ct_tab_RingError : ETab := [((PySem.Str.ofString "NoFight"), true)]
section
variable [ObC "Fight"] [ObC "Chase"]
section
variable [Md]
def m_next_to (web : (Int × (G.Tup (Int × Int)))) (k : Int) : Res (List Int) :=
  (Res.bind (Res.ok ([] : (List Int))) fun (found1 : (List Int)) => (Res.bind (foldR (fun (s2 : (List Int)) (a3 : (Int × Int)) => (Res.bind (if (ScaEq.eq a3.1 k) then (Res.bind (appR s2 a3.2) fun found5 => (Res.ok found5)) else (Res.ok s2)) fun s4 => (Res.bind (if (ScaEq.eq a3.2 k) then (Res.bind (appR s4 a3.1) fun found7 => (Res.ok found7)) else (Res.ok s4)) fun s6 => (Res.ok s6)))) found1 (web.2).l) fun s2 => (Res.ok (sortI s2))))
abbrev s_next_to : Stmt := topS 16
abbrev N_next_to : List Str := ["web", "k", "found", "one", "other"]
theorem S_next_to : FnScope N_next_to ["web", "k"] (defScope s_next_to) := ⟨rfl, rfl, rfl, by decide +kernel, rfl, by decide +kernel, by decide +kernel⟩
set_option maxHeartbeats 4000000 in
theorem cal_next_to {P : Program} {w : World} {K : Frag} {base : Heap} (D : IsDef K Md.mg "next_to" s_next_to) (b_sorted : Md.mg "sorted" = none) :
    Cal P w K Md.mg base 1 "next_to" (fun a : (Int × (G.Tup (Int × Int))) × Int × Unit => a) (fun a : (Int × (G.Tup (Int × Int))) × Int × Unit => m_next_to a.1 a.2.1) ow :=
  cal_mk (N := N_next_to) (ps := ["web", "k"]) D S_next_to rfl (fun _ _ _ _ _ _ us hl => match us, hl with | [_, _], _ => rfl) fun a f cdv A' outer s H E hr => by
    obtain ⟨web, k, _⟩ := a
    have S := S_next_to
    have tk := takes_of (X := cxOf (L2.CX P w) P w K Md.mg base N_next_to "next_to" (defScope s_next_to) f cdv A' outer s H E) (E := E) rfl rfl rfl rfl
    refine' ST.slots (ss' := [G.fr web, G.fr k, G.any, G.any, G.any]) (ST.cast ?h ?q) rfl
    (case h => exact (st_seq (s1_set 2 (xk_lst (xhk_nil (α := Int))) S.nd) fun (found1 : (List Int)) => (st_seq (s1_for (S := (List Int)) (fun (s2 : (List Int)) => [G.fr web, G.fr k, G.ow s2, G.any, G.any]) found1 (it_tup (xk_imm (xi_p2 (xi_fr 0)))) (tg_two (tg_name 3 S.nd) (tg_name 4 S.nd)) (fun s2 a3 => (sn_seq (s1_if (post := (fun (s4 : (List Int)) => [G.fr web, G.fr k, G.ow s4, G.fr a3.1, G.fr a3.2])) (t_cmp op_eq (b_eqS (α := Int) (β := Int)) (nomark _) (xi_fr 3) (xi_fr 1)) (sn_seq (s1_append 2 (xk_fr 4)) fun found5 => (sn_nil (s := found5) (wk_eq (wk_eq (wk_eq (wk_eq (wk_eq wk_nil))))))) (sn_nil (s := s2) (wk_eq (wk_eq (wk_eq (wk_eq (wk_eq wk_nil))))))) fun s4 => (sn_seq (s1_if (post := (fun (s6 : (List Int)) => [G.fr web, G.fr k, G.ow s6, G.fr a3.1, G.fr a3.2])) (t_cmp op_eq (b_eqS (α := Int) (β := Int)) (nomark _) (xi_fr 4) (xi_fr 1)) (sn_seq (s1_append 2 (xk_fr 3)) fun found7 => (sn_nil (s := found7) (wk_eq (wk_eq (wk_eq (wk_eq (wk_eq wk_nil))))))) (sn_nil (s := s4) (wk_eq (wk_eq (wk_eq (wk_eq (wk_eq wk_nil))))))) fun s6 => (sn_nil (s := s6) (wk_eq (wk_eq (wk_eq (wk_any (wk_any wk_nil))))))))) (wk_eq (wk_eq (wk_eq (wk_eq (wk_eq wk_nil)))))) fun s2 => (st_ret (xk_sortedI (xa_cons (xi_ow 2) xa_nil) b_sorted)))))
    (case q => first | (unfold m_next_to; simp only [Res.okb, Res.bind_assoc]; done) | (unfold m_next_to; simp only [Res.okb, Res.bind_assoc]; rfl) | rfl)
def m_is_board (web : (Int × (G.Tup (Int × Int)))) (thing : PySem.Str) : Res Bool :=
  (Res.bind (if (!true) then (Res.ok true) else (Res.bind (strLen thing) fun v1 => (Res.ok (!ScaEq.eq v1 (web.1))))) fun v5 => (if v5 then (Res.ok false) else (Res.tail (S := Unit) (R := Bool) (loopO (fun (s2 : Unit) (a3 : PySem.Str) => ((Res.next (S := Unit) (if (!inS a3 (PySem.Str.ofString ".xo")) then (Res.ok (Out.rt false)) else (Res.ok (Out.nx ()))) fun s4 => (Res.ok (Out.nx ()))) : Res (Out (Unit) (Unit) Bool))) () (signsOf thing)) fun s2 => (Res.ok true))))
abbrev s_is_board : Stmt := topS 21
abbrev N_is_board : List Str := ["web", "thing", "sign"]
theorem S_is_board : FnScope N_is_board ["web", "thing"] (defScope s_is_board) := ⟨rfl, rfl, rfl, by decide +kernel, rfl, by decide +kernel, by decide +kernel⟩
set_option maxHeartbeats 4000000 in
theorem cal_is_board {P : Program} {w : World} {K : Frag} {base : Heap} (D : IsDef K Md.mg "is_board" s_is_board) (b_isinstance : Md.mg "isinstance" = none) (b_str : Md.mg "str" = none) (b_len : Md.mg "len" = none) :
    Cal P w K Md.mg base 1 "is_board" (fun a : (Int × (G.Tup (Int × Int))) × PySem.Str × Unit => a) (fun a : (Int × (G.Tup (Int × Int))) × PySem.Str × Unit => m_is_board a.1 a.2.1) fr :=
  cal_mk (N := N_is_board) (ps := ["web", "thing"]) D S_is_board rfl (fun _ _ _ _ _ _ us hl => match us, hl with | [_, _], _ => rfl) fun a f cdv A' outer s H E hr => by
    obtain ⟨web, thing, _⟩ := a
    have S := S_is_board
    have tk := takes_of (X := cxOf (L2.CX P w) P w K Md.mg base N_is_board "is_board" (defScope s_is_board) f cdv A' outer s H E) (E := E) rfl rfl rfl rfl
    refine' ST.slots (ss' := [G.fr web, G.fr thing, G.any]) (ST.cast ?h ?q) rfl
    (case h => exact (st_guard (xt_w (xw_or (xt_not (xt_val (xi_isi (α := PySem.Str) (TT := "str") (r := true) (xi_fr 1) (pe_ty b_str (by decide +kernel)) (by decide +kernel) b_isinstance))) (xw_or1 (t_cmp op_ne (b_neS (α := Int) (β := Int)) (nomark _) (xi_bf call_len c_lenStr b_len PySem.boot_len (xa_cons (xi_fr 1) xa_nil)) (xi_p1 (xi_fr 0)))))) (st_ret (xk_imm xi_bl)) (st_b1 (S := Unit) (R := Bool) (pl := fun x => nomatch x) (b1_for (S := Unit) (R := Bool) (fun (s2 : Unit) => [G.fr web, G.fr thing, G.any]) () (it_str (xi_fr 1)) (tg_name 2 S.nd) (fun s2 a3 => (sb_b1 (S := Unit) (b1_if (post := (fun (s4 : Unit) => [G.fr web, G.fr thing, G.fr a3])) (t_cmp op_notin_str b_ninS (by with_unfolding_all rfl) (xi_fr 2) xi_str) (sb_ret (xk_imm xi_bl)) (sb_nil (s := ()) (wk_eq (wk_eq (wk_eq wk_nil))))) fun s4 => (sb_nil (s := ()) (wk_eq (wk_eq (wk_any wk_nil)))))) (wk_eq (wk_eq (wk_eq wk_nil)))) fun s2 => (st_ret (xk_imm xi_bl)))))
    (case q => first | (unfold m_is_board; simp only [Res.okb, Res.bind_assoc]; done) | (unfold m_is_board; simp only [Res.okb, Res.bind_assoc]; rfl) | rfl)
def m_is_board__D (web : (Int × (G.Tup (Int × Int)))) (thing : G.Dy) : Res Bool :=
  (Res.bind (if (!(dyIs "str" thing)) then (Res.ok true) else (Res.bind (dyLen thing) fun v1 => (Res.ok (!ScaEq.eq v1 (web.1))))) fun v7 => (if v7 then (Res.ok false) else (Res.tail (S := Unit) (R := Bool) (Res.bind (Res.bind (dyS thing) fun v2 => (Res.ok (signsOf v2))) fun v6 => (loopO (fun (s3 : Unit) (a4 : PySem.Str) => ((Res.next (S := Unit) (if (!inS a4 (PySem.Str.ofString ".xo")) then (Res.ok (Out.rt false)) else (Res.ok (Out.nx ()))) fun s5 => (Res.ok (Out.nx ()))) : Res (Out (Unit) (Unit) Bool))) () v6)) fun s3 => (Res.ok true))))
abbrev s_is_board__D : Stmt := topS 21
abbrev N_is_board__D : List Str := ["web", "thing", "sign"]
theorem S_is_board__D : FnScope N_is_board__D ["web", "thing"] (defScope s_is_board__D) := ⟨rfl, rfl, rfl, by decide +kernel, rfl, by decide +kernel, by decide +kernel⟩
set_option maxHeartbeats 4000000 in
theorem cal_is_board__D {P : Program} {w : World} {K : Frag} {base : Heap} (D : IsDef K Md.mg "is_board" s_is_board__D) (b_isinstance : Md.mg "isinstance" = none) (b_str : Md.mg "str" = none) (b_len : Md.mg "len" = none) :
    Cal P w K Md.mg base 1 "is_board" (fun a : (Int × (G.Tup (Int × Int))) × G.Dy × Unit => a) (fun a : (Int × (G.Tup (Int × Int))) × G.Dy × Unit => m_is_board__D a.1 a.2.1) fr :=
  cal_mk (N := N_is_board__D) (ps := ["web", "thing"]) D S_is_board__D rfl (fun _ _ _ _ _ _ us hl => match us, hl with | [_, _], _ => rfl) fun a f cdv A' outer s H E hr => by
    obtain ⟨web, thing, _⟩ := a
    have S := S_is_board__D
    have tk := takes_of (X := cxOf (L2.CX P w) P w K Md.mg base N_is_board__D "is_board" (defScope s_is_board__D) f cdv A' outer s H E) (E := E) rfl rfl rfl rfl
    refine' ST.slots (ss' := [G.fr web, G.fr thing, G.any]) (ST.cast ?h ?q) rfl
    (case h => exact (st_guard (xt_w (xw_or (xt_not (xt_val (xi_isD isT_str (xi_fr 1) (pe_ty b_str (by decide +kernel)) b_isinstance))) (xw_or1 (t_cmp op_ne (b_neS (α := Int) (β := Int)) (nomark _) (xi_bf call_len c_lenDy b_len PySem.boot_len (xa_cons (xi_fr 1) xa_nil)) (xi_p1 (xi_fr 0)))))) (st_ret (xk_imm xi_bl)) (st_b1 (S := Unit) (R := Bool) (pl := fun x => nomatch x) (b1_for (S := Unit) (R := Bool) (fun (s3 : Unit) => [G.fr web, G.fr thing, G.any]) () (it_str (xi_cast cS (xi_fr 1))) (tg_name 2 S.nd) (fun s3 a4 => (sb_b1 (S := Unit) (b1_if (post := (fun (s5 : Unit) => [G.fr web, G.fr thing, G.fr a4])) (t_cmp op_notin_str b_ninS (by with_unfolding_all rfl) (xi_fr 2) xi_str) (sb_ret (xk_imm xi_bl)) (sb_nil (s := ()) (wk_eq (wk_eq (wk_eq wk_nil))))) fun s5 => (sb_nil (s := ()) (wk_eq (wk_eq (wk_any wk_nil)))))) (wk_eq (wk_eq (wk_eq wk_nil)))) fun s3 => (st_ret (xk_imm xi_bl)))))
    (case q => first | (unfold m_is_board__D; simp only [Res.okb, Res.bind_assoc]; done) | (unfold m_is_board__D; simp only [Res.okb, Res.bind_assoc]; rfl) | rfl)
def m_chain_of (web : (Int × (G.Tup (Int × Int)))) (board : PySem.Str) (k : Int) : Res (List Int) :=
  (Res.bind (Res.bind (strIx board k) fun v1 => (Res.ok (ScaEq.eq v1 (PySem.Str.ofString ".")))) fun v21 => (if v21 then (Res.ok ([] : (List Int))) else (Res.bind (Res.ok (k :: [])) fun (found2 : (List Int)) => (Res.bind (Res.ok (0 : Int)) fun (at'3 : Int) => (Res.bind (whileR (fun (s4 : (List Int) × Int) => (Res.ok (decide (s4.2 < (s4.1.length : Int))))) (fun (s4 : (List Int) × Int) => (Res.bind (Res.bind (Res.bind (Res.bind (Res.bind (idx s4.1 s4.2) fun v8 => (Res.ok (v8, ()))) fun v9 => (Res.ok (web, v9))) fun a10 => (m_next_to a10.1 a10.2.1)) fun v19 => (foldR (fun (s11 : (List Int)) (a12 : Int) => (Res.bind (Res.bind (Res.bind (Res.bind (strIx board a12) fun v13 => (Res.bind (strIx board k) fun v14 => (Res.ok (ScaEq.eq v13 v14)))) fun v15 => (if v15 then (Res.ok (!decide (a12 ∈ s11))) else (Res.ok false))) fun v18 => (if v18 then (Res.bind (appR s11 a12) fun found17 => (Res.ok found17)) else (Res.ok s11))) fun s16 => (Res.ok s16))) s4.1 v19)) fun s11 => (Res.bind (Res.ok (s4.2 + (1 : Int))) fun (at'20 : Int) => (Res.ok (s11, at'20))))) (64) (found2, at'3)) fun s4 => (Res.ok (sortI s4.1)))))))
abbrev s_chain_of : Stmt := topS 23
abbrev N_chain_of : List Str := ["web", "board", "k", "found", "at", "one"]
theorem S_chain_of : FnScope N_chain_of ["web", "board", "k"] (defScope s_chain_of) := ⟨rfl, rfl, rfl, by decide +kernel, rfl, by decide +kernel, by decide +kernel⟩
set_option maxHeartbeats 4000000 in
theorem cal_chain_of {P : Program} {w : World} {K : Frag} {base : Heap} (D : IsDef K Md.mg "chain_of" s_chain_of) (c_next_to : Cal P w K Md.mg base 1 "next_to" (fun a : (Int × (G.Tup (Int × Int))) × Int × Unit => a) (fun a : (Int × (G.Tup (Int × Int))) × Int × Unit => m_next_to a.1 a.2.1) ow) (b_len : Md.mg "len" = none) (b_sorted : Md.mg "sorted" = none) :
    Cal P w K Md.mg base 2 "chain_of" (fun a : (Int × (G.Tup (Int × Int))) × PySem.Str × Int × Unit => a) (fun a : (Int × (G.Tup (Int × Int))) × PySem.Str × Int × Unit => m_chain_of a.1 a.2.1 a.2.2.1) ow :=
  cal_mk (N := N_chain_of) (ps := ["web", "board", "k"]) D S_chain_of rfl (fun _ _ _ _ _ _ us hl => match us, hl with | [_, _, _], _ => rfl) fun a f cdv A' outer s H E hr => by
    obtain ⟨web, board, k, _⟩ := a
    have S := S_chain_of
    have tk := takes_of (X := cxOf (L2.CX P w) P w K Md.mg base N_chain_of "chain_of" (defScope s_chain_of) f cdv A' outer s H E) (E := E) rfl rfl rfl rfl
    refine' ST.slots (ss' := [G.fr web, G.fr board, G.fr k, G.any, G.any, G.any]) (ST.cast ?h ?q) rfl
    (case h => exact (st_guard (t_cmp op_eq (b_eqS (α := PySem.Str) (β := PySem.Str)) (nomark _) (xi_ixStr (xi_fr 1) (xi_fr 2)) xi_str) (st_ret (xk_lst (xhk_nil (α := Int)))) (st_seq (s1_set 3 (xk_lst (xak_imm (xh_cons (xi_fr 2) (xh_nil)))) S.nd) fun (found2 : (List Int)) => (st_seq (s1_set 4 (xk_imm xi_int) S.nd) fun (at'3 : Int) => (st_seq (s1_while (S := (List Int) × Int) (64) (fun (s4 : (List Int) × Int) => [G.fr web, G.fr board, G.fr k, G.ow s4.1, G.fr s4.2, G.any]) (found2, at'3) (fun s4 => (t_cmp op_lt b_lt (nomark _) (xi_fr 4) (xi_bf call_len c_lenL b_len PySem.boot_len (xa_cons (xi_ow 3) xa_nil)))) (fun s4 => (sn_seq (s1_for (S := (List Int)) (fun (s11 : (List Int)) => [G.fr web, G.fr board, G.fr k, G.ow s11, G.fr s4.2, G.any]) s4.1 (it_list (xk_free (xk_cal c_next_to hr tk (xa_cons (xi_fr 0) (xa_cons (xi_ixL (xi_ow 3) (xi_fr 4)) xa_nil))))) (tg_name 5 S.nd) (fun s11 a12 => (sn_seq (s1_if (post := (fun (s16 : (List Int)) => [G.fr web, G.fr board, G.fr k, G.ow s16, G.fr s4.2, G.fr a12])) (xt_w (xw_and (t_cmp op_eq (b_eqS (α := PySem.Str) (β := PySem.Str)) (nomark _) (xi_ixStr (xi_fr 1) (xi_fr 5)) (xi_ixStr (xi_fr 1) (xi_fr 2))) (xw_and1 (t_cmp op_notIn_seq (b_ninL (α := Int)) (by with_unfolding_all rfl) (xi_fr 5) (xi_ow 3))))) (sn_seq (s1_append 3 (xk_fr 5)) fun found17 => (sn_nil (s := found17) (wk_eq (wk_eq (wk_eq (wk_eq (wk_eq (wk_eq wk_nil)))))))) (sn_nil (s := s11) (wk_eq (wk_eq (wk_eq (wk_eq (wk_eq (wk_eq wk_nil)))))))) fun s16 => (sn_nil (s := s16) (wk_eq (wk_eq (wk_eq (wk_eq (wk_eq (wk_any wk_nil))))))))) (wk_eq (wk_eq (wk_eq (wk_eq (wk_eq (wk_eq wk_nil))))))) fun s11 => (sn_seq (s1_set 4 (xk_imm (x_bin op_add b_add (xi_fr 4) xi_int)) S.nd) fun (at'20 : Int) => (sn_nil (s := (s11, at'20)) (wk_eq (wk_eq (wk_eq (wk_eq (wk_eq (wk_eq wk_nil)))))))))) (wk_eq (wk_eq (wk_eq (wk_eq (wk_eq (wk_eq wk_nil))))))) fun s4 => (st_ret (xk_sortedI (xa_cons (xi_ow 3) xa_nil) b_sorted)))))))
    (case q => first | (unfold m_chain_of; simp only [Res.okb, Res.bind_assoc]; done) | (unfold m_chain_of; simp only [Res.okb, Res.bind_assoc]; rfl) | rfl)
def m_empties_by (web : (Int × (G.Tup (Int × Int)))) (board : PySem.Str) (some' : (List Int)) : Res (List Int) :=
  (Res.bind (Res.ok ([] : (List Int))) fun (found1 : (List Int)) => (Res.bind (foldR (fun (s2 : (List Int)) (a3 : Int) => (Res.bind (Res.bind (m_next_to web a3) fun v11 => (foldR (fun (s4 : (List Int)) (a5 : Int) => (Res.bind (Res.bind (Res.bind (Res.bind (strIx board a5) fun v6 => (Res.ok (ScaEq.eq v6 (PySem.Str.ofString ".")))) fun v7 => (if v7 then (Res.ok (!decide (a5 ∈ s4))) else (Res.ok false))) fun v10 => (if v10 then (Res.bind (appR s4 a5) fun found9 => (Res.ok found9)) else (Res.ok s4))) fun s8 => (Res.ok s8))) s2 v11)) fun s4 => (Res.ok s4))) found1 some') fun s2 => (Res.ok (sortI s2))))
abbrev s_empties_by : Stmt := topS 24
abbrev N_empties_by : List Str := ["web", "board", "some", "found", "k", "one"]
theorem S_empties_by : FnScope N_empties_by ["web", "board", "some"] (defScope s_empties_by) := ⟨rfl, rfl, rfl, by decide +kernel, rfl, by decide +kernel, by decide +kernel⟩
set_option maxHeartbeats 4000000 in
theorem cal_empties_by {P : Program} {w : World} {K : Frag} {base : Heap} (D : IsDef K Md.mg "empties_by" s_empties_by) (c_next_to : Cal P w K Md.mg base 1 "next_to" (fun a : (Int × (G.Tup (Int × Int))) × Int × Unit => a) (fun a : (Int × (G.Tup (Int × Int))) × Int × Unit => m_next_to a.1 a.2.1) ow) (b_sorted : Md.mg "sorted" = none) :
    Cal P w K Md.mg base 2 "empties_by" (fun a : (Int × (G.Tup (Int × Int))) × PySem.Str × (List Int) × Unit => a) (fun a : (Int × (G.Tup (Int × Int))) × PySem.Str × (List Int) × Unit => m_empties_by a.1 a.2.1 a.2.2.1) ow :=
  cal_mk (N := N_empties_by) (ps := ["web", "board", "some"]) D S_empties_by rfl (fun _ _ _ _ _ _ us hl => match us, hl with | [_, _, _], _ => rfl) fun a f cdv A' outer s H E hr => by
    obtain ⟨web, board, some', _⟩ := a
    have S := S_empties_by
    have tk := takes_of (X := cxOf (L2.CX P w) P w K Md.mg base N_empties_by "empties_by" (defScope s_empties_by) f cdv A' outer s H E) (E := E) rfl rfl rfl rfl
    refine' ST.slots (ss' := [G.fr web, G.fr board, G.fr some', G.any, G.any, G.any]) (ST.cast ?h ?q) rfl
    (case h => exact (st_seq (s1_set 3 (xk_lst (xhk_nil (α := Int))) S.nd) fun (found1 : (List Int)) => (st_seq (s1_for (S := (List Int)) (fun (s2 : (List Int)) => [G.fr web, G.fr board, G.fr some', G.ow s2, G.any, G.any]) found1 (it_list (xk_fr 2)) (tg_name 4 S.nd) (fun s2 a3 => (sn_seq (s1_for (S := (List Int)) (fun (s4 : (List Int)) => [G.fr web, G.fr board, G.fr some', G.ow s4, G.fr a3, G.any]) s2 (it_list (xk_free (xk_cal c_next_to hr tk (xa_cons (xi_fr 0) (xa_cons (xi_fr 4) xa_nil))))) (tg_name 5 S.nd) (fun s4 a5 => (sn_seq (s1_if (post := (fun (s8 : (List Int)) => [G.fr web, G.fr board, G.fr some', G.ow s8, G.fr a3, G.fr a5])) (xt_w (xw_and (t_cmp op_eq (b_eqS (α := PySem.Str) (β := PySem.Str)) (nomark _) (xi_ixStr (xi_fr 1) (xi_fr 5)) xi_str) (xw_and1 (t_cmp op_notIn_seq (b_ninL (α := Int)) (by with_unfolding_all rfl) (xi_fr 5) (xi_ow 3))))) (sn_seq (s1_append 3 (xk_fr 5)) fun found9 => (sn_nil (s := found9) (wk_eq (wk_eq (wk_eq (wk_eq (wk_eq (wk_eq wk_nil)))))))) (sn_nil (s := s4) (wk_eq (wk_eq (wk_eq (wk_eq (wk_eq (wk_eq wk_nil)))))))) fun s8 => (sn_nil (s := s8) (wk_eq (wk_eq (wk_eq (wk_eq (wk_eq (wk_any wk_nil))))))))) (wk_eq (wk_eq (wk_eq (wk_eq (wk_eq (wk_eq wk_nil))))))) fun s4 => (sn_nil (s := s4) (wk_eq (wk_eq (wk_eq (wk_eq (wk_any (wk_eq wk_nil))))))))) (wk_eq (wk_eq (wk_eq (wk_eq (wk_eq (wk_eq wk_nil))))))) fun s2 => (st_ret (xk_sortedI (xa_cons (xi_ow 3) xa_nil) b_sorted)))))
    (case q => first | (unfold m_empties_by; simp only [Res.okb, Res.bind_assoc]; done) | (unfold m_empties_by; simp only [Res.okb, Res.bind_assoc]; rfl) | rfl)
def m_chains (web : (Int × (G.Tup (Int × Int)))) (board : PySem.Str) : Res (List (List Int)) :=
  (Res.bind (Res.ok ([] : (List (List Int)))) fun (found1 : (List (List Int))) => (Res.bind (Res.ok ([] : (List Int))) fun (gone2 : (List Int)) => (Res.bind (Res.bind (guardR (small62 (web.1)) (Res.ok (rangeL 0 ((web.1)).toNat))) fun v12 => (foldR (fun (s3 : (List Int) × (List (List Int))) (a4 : Int) => (Res.bind (Res.bind (Res.bind (Res.bind (strIx board a4) fun v5 => (Res.ok (!ScaEq.eq v5 (PySem.Str.ofString ".")))) fun v6 => (if v6 then (Res.ok (!decide (a4 ∈ s3.1))) else (Res.ok false))) fun v11 => (if v11 then (Res.bind (m_chain_of web board a4) fun (chain8 : (List Int)) => (Res.bind (extR s3.1 chain8) fun gone9 => (Res.bind (appR s3.2 chain8) fun found10 => (Res.ok (gone9, found10))))) else (Res.ok (s3.1, s3.2)))) fun s7 => (Res.ok (s7.1, s7.2)))) (gone2, found1) v12)) fun s3 => (Res.ok s3.2))))
abbrev s_chains : Stmt := topS 26
abbrev N_chains : List Str := ["web", "board", "found", "gone", "k", "chain"]
theorem S_chains : FnScope N_chains ["web", "board"] (defScope s_chains) := ⟨rfl, rfl, rfl, by decide +kernel, rfl, by decide +kernel, by decide +kernel⟩
set_option maxHeartbeats 4000000 in
theorem cal_chains {P : Program} {w : World} {K : Frag} {base : Heap} (D : IsDef K Md.mg "chains" s_chains) (c_chain_of : Cal P w K Md.mg base 2 "chain_of" (fun a : (Int × (G.Tup (Int × Int))) × PySem.Str × Int × Unit => a) (fun a : (Int × (G.Tup (Int × Int))) × PySem.Str × Int × Unit => m_chain_of a.1 a.2.1 a.2.2.1) ow) (b_range : Md.mg "range" = none) :
    Cal P w K Md.mg base 3 "chains" (fun a : (Int × (G.Tup (Int × Int))) × PySem.Str × Unit => a) (fun a : (Int × (G.Tup (Int × Int))) × PySem.Str × Unit => m_chains a.1 a.2.1) (G.os (G.lsO G.l1)) :=
  cal_mk (N := N_chains) (ps := ["web", "board"]) D S_chains rfl (fun _ _ _ _ _ _ us hl => match us, hl with | [_, _], _ => rfl) fun a f cdv A' outer s H E hr => by
    obtain ⟨web, board, _⟩ := a
    have S := S_chains
    have tk := takes_of (X := cxOf (L2.CX P w) P w K Md.mg base N_chains "chains" (defScope s_chains) f cdv A' outer s H E) (E := E) rfl rfl rfl rfl
    refine' ST.slots (ss' := [G.fr web, G.fr board, G.any, G.any, G.any, G.any]) (ST.cast ?h ?q) rfl
    (case h => exact (st_seq (s1_set 2 (xk_nilO (xk_lst (xhk_nil (α := (List Int))))) S.nd) fun (found1 : (List (List Int))) => (st_seq (s1_set 3 (xk_lst (xhk_nil (α := Int))) S.nd) fun (gone2 : (List Int)) => (st_seq (s1_for (S := (List Int) × (List (List Int))) (fun (s3 : (List Int) × (List (List Int))) => [G.fr web, G.fr board, G.os (G.lsO G.l1) s3.2, G.ow s3.1, G.any, G.any]) (gone2, found1) (it_range1 (xa_cons (xi_p1 (xi_fr 0)) xa_nil) b_range) (tg_name 4 S.nd) (fun s3 a4 => (sn_seq (s1_if (post := (fun (s7 : (List Int) × (List (List Int))) => [G.fr web, G.fr board, G.os (G.lsO G.l1) s7.2, G.ow s7.1, G.fr a4, G.any])) (xt_w (xw_and (t_cmp op_ne (b_neS (α := PySem.Str) (β := PySem.Str)) (nomark _) (xi_ixStr (xi_fr 1) (xi_fr 4)) xi_str) (xw_and1 (t_cmp op_notIn_seq (b_ninL (α := Int)) (by with_unfolding_all rfl) (xi_fr 4) (xi_ow 3))))) (sn_seq (s1_set 5 (xk_cal c_chain_of hr tk (xa_cons (xi_fr 0) (xa_cons (xi_fr 1) (xa_cons (xi_fr 4) xa_nil)))) S.nd) fun (chain8 : (List Int)) => (sn_seq (s1_extI 3 (xi_ow 5)) fun gone9 => (sn_slot 5 ow_os (sn_seq (s1_appMv 2 5) fun found10 => (sn_nil (s := (gone9, found10)) (wk_eq (wk_eq (wk_eq (wk_eq (wk_eq (wk_eq wk_nil))))))))))) (sn_nil (s := (s3.1, s3.2)) (wk_eq (wk_eq (wk_eq (wk_eq (wk_eq (wk_eq wk_nil)))))))) fun s7 => (sn_nil (s := (s7.1, s7.2)) (wk_eq (wk_eq (wk_eq (wk_eq (wk_any (wk_eq wk_nil))))))))) (wk_eq (wk_eq (wk_eq (wk_eq (wk_eq (wk_eq wk_nil))))))) fun s3 => (st_retO 2)))))
    (case q => first | (unfold m_chains; simp only [Res.okb, Res.bind_assoc]; done) | (unfold m_chains; simp only [Res.okb, Res.bind_assoc]; rfl) | rfl)
def m_is_sound (web : (Int × (G.Tup (Int × Int)))) (board : PySem.Str) : Res Bool :=
  (Res.tail (S := Unit) (R := Bool) (Res.bind (m_chains web board) fun v6 => (loopO (fun (s1 : Unit) (a2 : (List Int)) => ((Res.next (S := Unit) (Res.bind (Res.bind (m_empties_by web board a2) fun v3 => (eqD v3 ([] : (List Int)))) fun v5 => (if v5 then (Res.ok (Out.rt false)) else (Res.ok (Out.nx ())))) fun s4 => (Res.ok (Out.nx ()))) : Res (Out (Unit) (Unit) Bool))) () v6)) fun s1 => (Res.ok true))
abbrev s_is_sound : Stmt := topS 27
abbrev N_is_sound : List Str := ["web", "board", "chain"]
theorem S_is_sound : FnScope N_is_sound ["web", "board"] (defScope s_is_sound) := ⟨rfl, rfl, rfl, by decide +kernel, rfl, by decide +kernel, by decide +kernel⟩
set_option maxHeartbeats 4000000 in
theorem cal_is_sound {P : Program} {w : World} {K : Frag} {base : Heap} (D : IsDef K Md.mg "is_sound" s_is_sound) (c_empties_by : Cal P w K Md.mg base 2 "empties_by" (fun a : (Int × (G.Tup (Int × Int))) × PySem.Str × (List Int) × Unit => a) (fun a : (Int × (G.Tup (Int × Int))) × PySem.Str × (List Int) × Unit => m_empties_by a.1 a.2.1 a.2.2.1) ow) (c_chains : Cal P w K Md.mg base 3 "chains" (fun a : (Int × (G.Tup (Int × Int))) × PySem.Str × Unit => a) (fun a : (Int × (G.Tup (Int × Int))) × PySem.Str × Unit => m_chains a.1 a.2.1) (G.os (G.lsO G.l1))) :
    Cal P w K Md.mg base 4 "is_sound" (fun a : (Int × (G.Tup (Int × Int))) × PySem.Str × Unit => a) (fun a : (Int × (G.Tup (Int × Int))) × PySem.Str × Unit => m_is_sound a.1 a.2.1) fr :=
  cal_mk (N := N_is_sound) (ps := ["web", "board"]) D S_is_sound rfl (fun _ _ _ _ _ _ us hl => match us, hl with | [_, _], _ => rfl) fun a f cdv A' outer s H E hr => by
    obtain ⟨web, board, _⟩ := a
    have S := S_is_sound
    have tk := takes_of (X := cxOf (L2.CX P w) P w K Md.mg base N_is_sound "is_sound" (defScope s_is_sound) f cdv A' outer s H E) (E := E) rfl rfl rfl rfl
    refine' ST.slots (ss' := [G.fr web, G.fr board, G.any]) (ST.cast ?h ?q) rfl
    (case h => exact (st_b1 (S := Unit) (R := Bool) (pl := fun x => nomatch x) (b1_for (S := Unit) (R := Bool) (fun (s1 : Unit) => [G.fr web, G.fr board, G.any]) () (it_list (xk_freeO (xk_cal c_chains hr tk (xa_cons (xi_fr 0) (xa_cons (xi_fr 1) xa_nil))))) (tg_name 2 S.nd) (fun s1 a2 => (sb_b1 (S := Unit) (b1_if (post := (fun (s4 : Unit) => [G.fr web, G.fr board, G.fr a2])) (t_cmp (op_eqD (hu64 hr)) (b_eqD (α := (List Int)) (β := (List Int))) (nomark _) (xi_cal c_empties_by hr tk (xa_cons (xi_fr 0) (xa_cons (xi_fr 1) (xa_cons (xi_fr 2) xa_nil)))) (xi_of (xk_lst (xhk_nil (α := Int))))) (sb_ret (xk_imm xi_bl)) (sb_nil (s := ()) (wk_eq (wk_eq (wk_eq wk_nil))))) fun s4 => (sb_nil (s := ()) (wk_eq (wk_eq (wk_any wk_nil)))))) (wk_eq (wk_eq (wk_eq wk_nil)))) fun s1 => (st_ret (xk_imm xi_bl))))
    (case q => first | (unfold m_is_sound; simp only [Res.okb, Res.bind_assoc]; done) | (unfold m_is_sound; simp only [Res.okb, Res.bind_assoc]; rfl) | rfl)
def m_is_rules (thing : G.Dy) : Res Bool :=
  (Res.bind (if (!(dyIs "tuple" thing)) then (Res.ok true) else (Res.bind (dyLen thing) fun v1 => (Res.ok (!ScaEq.eq v1 (3 : Int))))) fun v11 => (if v11 then (Res.ok false) else (Res.bind (Res.bind (Res.bind (Res.bind (dyIx thing (0 : Int)) fun v2 => (Res.ok (dyIs "str" v2))) fun v3 => (Res.ok (!v3))) fun v6 => (if v6 then (Res.ok true) else (Res.bind (Res.bind (dyIx thing (0 : Int)) fun v4 => (dyS v4)) fun v5 => (Res.ok (!decide (v5 ∈ (⟨[(PySem.Str.ofString "free"), (PySem.Str.ofString "ko"), (PySem.Str.ofString "whole")]⟩ : G.Tup PySem.Str).l)))))) fun v10 => (if v10 then (Res.ok false) else (Res.bind (Res.bind (dyIx thing (1 : Int)) fun v7 => (Res.ok (dyIs "bool" v7))) fun v9 => (if v9 then (Res.bind (dyIx thing (2 : Int)) fun v8 => (Res.ok (dyIs "bool" v8))) else (Res.ok false)))))))
abbrev s_is_rules : Stmt := topS 30
abbrev N_is_rules : List Str := ["thing"]
theorem S_is_rules : FnScope N_is_rules ["thing"] (defScope s_is_rules) := ⟨rfl, rfl, rfl, by decide +kernel, rfl, by decide +kernel, by decide +kernel⟩
set_option maxHeartbeats 4000000 in
theorem cal_is_rules {P : Program} {w : World} {K : Frag} {base : Heap} (D : IsDef K Md.mg "is_rules" s_is_rules) (b_isinstance : Md.mg "isinstance" = none) (b_tuple : Md.mg "tuple" = none) (b_len : Md.mg "len" = none) (b_str : Md.mg "str" = none) (b_bool : Md.mg "bool" = none) (g_AGAINS : GTup K Md.mg "AGAINS" (⟨[(PySem.Str.ofString "free"), (PySem.Str.ofString "ko"), (PySem.Str.ofString "whole")]⟩ : G.Tup PySem.Str)) :
    Cal P w K Md.mg base 1 "is_rules" (fun a : G.Dy × Unit => a) (fun a : G.Dy × Unit => m_is_rules a.1) fr :=
  cal_mk (N := N_is_rules) (ps := ["thing"]) D S_is_rules rfl (fun _ _ _ _ _ _ us hl => match us, hl with | [_], _ => rfl) fun a f cdv A' outer s H E hr => by
    obtain ⟨thing, _⟩ := a
    have S := S_is_rules
    have tk := takes_of (X := cxOf (L2.CX P w) P w K Md.mg base N_is_rules "is_rules" (defScope s_is_rules) f cdv A' outer s H E) (E := E) rfl rfl rfl rfl
    refine' ST.slots (ss' := [G.fr thing]) (ST.cast ?h ?q) rfl
    (case h => exact (st_guard (xt_w (xw_or (xt_not (xt_val (xi_isD isT_tuple (xi_fr 0) (pe_ty b_tuple (by decide +kernel)) b_isinstance))) (xw_or1 (t_cmp op_ne (b_neS (α := Int) (β := Int)) (nomark _) (xi_bf call_len c_lenDy b_len PySem.boot_len (xa_cons (xi_fr 0) xa_nil)) xi_int)))) (st_ret (xk_imm xi_bl)) (st_guard (xt_w (xw_or (xt_not (xt_val (xi_isD isT_str (xi_ixD (xi_fr 0) xi_int) (pe_ty b_str (by decide +kernel)) b_isinstance))) (xw_or1 (t_cmp op_notIn_seq (b_ninT (α := PySem.Str)) (by with_unfolding_all rfl) (xi_cast cS (xi_ixD (xi_fr 0) xi_int)) (xi_gtup g_AGAINS))))) (st_ret (xk_imm xi_bl)) (st_ret (xk_imm (xi_and (xi_isD isT_bool (xi_ixD (xi_fr 0) xi_int) (pe_ty b_bool (by decide +kernel)) b_isinstance) (xi_one (xi_isD isT_bool (xi_ixD (xi_fr 0) xi_int) (pe_ty b_bool (by decide +kernel)) b_isinstance))))))))
    (case q => first | (unfold m_is_rules; simp only [Res.okb, Res.bind_assoc]; done) | (unfold m_is_rules; simp only [Res.okb, Res.bind_assoc]; rfl) | rfl)
def m_is_crossing (web : (Int × (G.Tup (Int × Int)))) (thing : G.Dy) : Res Bool :=
  (if (dyIs "int" thing) then (if (!(dyIs "bool" thing)) then (Res.bind (dyI thing) fun v1 => (if (decide ((0 : Int) ≤ v1)) then (Res.ok (decide (v1 < (web.1)))) else (Res.ok false))) else (Res.ok false)) else (Res.ok false))
abbrev s_is_crossing : Stmt := topS 41
abbrev N_is_crossing : List Str := ["web", "thing"]
theorem S_is_crossing : FnScope N_is_crossing ["web", "thing"] (defScope s_is_crossing) := ⟨rfl, rfl, rfl, by decide +kernel, rfl, by decide +kernel, by decide +kernel⟩
set_option maxHeartbeats 4000000 in
theorem cal_is_crossing {P : Program} {w : World} {K : Frag} {base : Heap} (D : IsDef K Md.mg "is_crossing" s_is_crossing) (b_isinstance : Md.mg "isinstance" = none) (b_int : Md.mg "int" = none) (b_bool : Md.mg "bool" = none) :
    Cal P w K Md.mg base 1 "is_crossing" (fun a : (Int × (G.Tup (Int × Int))) × G.Dy × Unit => a) (fun a : (Int × (G.Tup (Int × Int))) × G.Dy × Unit => m_is_crossing a.1 a.2.1) fr :=
  cal_mk (N := N_is_crossing) (ps := ["web", "thing"]) D S_is_crossing rfl (fun _ _ _ _ _ _ us hl => match us, hl with | [_, _], _ => rfl) fun a f cdv A' outer s H E hr => by
    obtain ⟨web, thing, _⟩ := a
    have S := S_is_crossing
    have tk := takes_of (X := cxOf (L2.CX P w) P w K Md.mg base N_is_crossing "is_crossing" (defScope s_is_crossing) f cdv A' outer s H E) (E := E) rfl rfl rfl rfl
    refine' ST.slots (ss' := [G.fr web, G.fr thing]) (ST.cast ?h ?q) rfl
    (case h => exact (st_ret (xk_imm (xi_and (xi_isD isT_int (xi_fr 1) (pe_ty b_int (by decide +kernel)) b_isinstance) (xi_and (xi_not (xi_isD isT_bool (xi_fr 1) (pe_ty b_bool (by decide +kernel)) b_isinstance)) (xi_one (x_chain op_le b_le op_lt b_lt xi_int (xi_cast cI (xi_fr 1)) (xi_p1 (xi_fr 0)))))))))
    (case q => first | (unfold m_is_crossing; simp only [Res.okb, Res.bind_assoc]; done) | (unfold m_is_crossing; simp only [Res.okb, Res.bind_assoc]; rfl) | rfl)
def m_is_field (web : (Int × (G.Tup (Int × Int)))) (thing : G.Dy) : Res Bool :=
  (Res.bind (if (!(dyIs "list" thing)) then (Res.ok true) else (eqDy thing (ToDy.dy (([] : (List G.Dy)) : (List G.Dy))))) fun v11 => (if v11 then (Res.ok false) else (Res.bind (Res.ok (-(1 : Int))) fun (last1 : Int) => (Res.tail (S := Int) (R := Bool) (Res.bind (dyL thing) fun v10 => (loopO (fun (s2 : Int) (a3 : G.Dy) => ((Res.next (S := Unit) (Res.bind (Res.bind (Res.bind (m_is_crossing web a3) fun v4 => (Res.ok (!v4))) fun v6 => (if v6 then (Res.ok true) else (Res.bind (dyI a3) fun v5 => (Res.ok (decide (v5 ≤ s2)))))) fun v8 => (if v8 then (Res.ok (Out.rt false)) else (Res.ok (Out.nx ())))) fun s7 => (Res.bind (dyI a3) fun (last9 : Int) => (Res.ok (Out.nx last9)))) : Res (Out (Int) (Int) Bool))) last1 v10)) fun s2 => (Res.ok true)))))
abbrev s_is_field : Stmt := topS 42
abbrev N_is_field : List Str := ["web", "thing", "last", "one"]
theorem S_is_field : FnScope N_is_field ["web", "thing"] (defScope s_is_field) := ⟨rfl, rfl, rfl, by decide +kernel, rfl, by decide +kernel, by decide +kernel⟩
set_option maxHeartbeats 4000000 in
theorem cal_is_field {P : Program} {w : World} {K : Frag} {base : Heap} (D : IsDef K Md.mg "is_field" s_is_field) (c_is_crossing : Cal P w K Md.mg base 1 "is_crossing" (fun a : (Int × (G.Tup (Int × Int))) × G.Dy × Unit => a) (fun a : (Int × (G.Tup (Int × Int))) × G.Dy × Unit => m_is_crossing a.1 a.2.1) fr) (b_isinstance : Md.mg "isinstance" = none) (b_list : Md.mg "list" = none) :
    Cal P w K Md.mg base 2 "is_field" (fun a : (Int × (G.Tup (Int × Int))) × G.Dy × Unit => a) (fun a : (Int × (G.Tup (Int × Int))) × G.Dy × Unit => m_is_field a.1 a.2.1) fr :=
  cal_mk (N := N_is_field) (ps := ["web", "thing"]) D S_is_field rfl (fun _ _ _ _ _ _ us hl => match us, hl with | [_, _], _ => rfl) fun a f cdv A' outer s H E hr => by
    obtain ⟨web, thing, _⟩ := a
    have S := S_is_field
    have tk := takes_of (X := cxOf (L2.CX P w) P w K Md.mg base N_is_field "is_field" (defScope s_is_field) f cdv A' outer s H E) (E := E) rfl rfl rfl rfl
    refine' ST.slots (ss' := [G.fr web, G.fr thing, G.any, G.any]) (ST.cast ?h ?q) rfl
    (case h => exact (st_guard (xt_w (xw_or (xt_not (xt_val (xi_isD isT_list (xi_fr 1) (pe_ty b_list (by decide +kernel)) b_isinstance))) (xw_or1 (t_cmp (op_eqDy (hu64 hr)) b_eqDy (nomark _) (xi_fr 1) (xi_dy (α := (List G.Dy)) (xi_of (xk_lst (xhk_nil (α := G.Dy))))))))) (st_ret (xk_imm xi_bl)) (st_seq (s1_set 2 (xk_imm (xi_neg xi_int)) S.nd) fun (last1 : Int) => (st_b1 (S := Int) (R := Bool) (pl := fun x => nomatch x) (b1_for (S := Int) (R := Bool) (fun (s2 : Int) => [G.fr web, G.fr thing, G.fr s2, G.any]) last1 (it_list (xk_cast cL (xk_fr 1))) (tg_name 3 S.nd) (fun s2 a3 => (sb_b1 (S := Unit) (b1_if (post := (fun (s7 : Unit) => [G.fr web, G.fr thing, G.fr s2, G.fr a3])) (xt_w (xw_or (xt_not (xt_val (xi_cal c_is_crossing hr tk (xa_cons (xi_fr 0) (xa_cons (xi_fr 3) xa_nil))))) (xw_or1 (t_cmp op_le b_le (nomark _) (xi_cast cI (xi_fr 3)) (xi_fr 2))))) (sb_ret (xk_imm xi_bl)) (sb_nil (s := ()) (wk_eq (wk_eq (wk_eq (wk_eq wk_nil)))))) fun s7 => (sb_seq (s1_set 2 (xk_imm (xi_cast cI (xi_fr 3))) S.nd) fun (last9 : Int) => (sb_nil (s := last9) (wk_eq (wk_eq (wk_eq (wk_any wk_nil)))))))) (wk_eq (wk_eq (wk_eq (wk_eq wk_nil))))) fun s2 => (st_ret (xk_imm xi_bl))))))
    (case q => first | (unfold m_is_field; simp only [Res.okb, Res.bind_assoc]; done) | (unfold m_is_field; simp only [Res.okb, Res.bind_assoc]; rfl) | rfl)
def m_are_fight_rules (thing : G.Dy) : Res Bool :=
  (Res.bind (m_is_rules thing) fun v5 => (if v5 then (Res.bind (Res.bind (Res.bind (dyIx thing (0 : Int)) fun v1 => (dyS v1)) fun v2 => (Res.ok (decide (v2 ∈ (⟨((PySem.Str.ofString "free") :: ((PySem.Str.ofString "ko") :: []))⟩ : (G.Tup PySem.Str)).l)))) fun v4 => (if v4 then (Res.bind (dyIx thing (1 : Int)) fun v3 => (dyB v3)) else (Res.ok false))) else (Res.ok false)))
abbrev s_are_fight_rules : Stmt := topS 43
abbrev N_are_fight_rules : List Str := ["thing"]
theorem S_are_fight_rules : FnScope N_are_fight_rules ["thing"] (defScope s_are_fight_rules) := ⟨rfl, rfl, rfl, by decide +kernel, rfl, by decide +kernel, by decide +kernel⟩
set_option maxHeartbeats 4000000 in
theorem cal_are_fight_rules {P : Program} {w : World} {K : Frag} {base : Heap} (D : IsDef K Md.mg "are_fight_rules" s_are_fight_rules) (c_is_rules : Cal P w K Md.mg base 1 "is_rules" (fun a : G.Dy × Unit => a) (fun a : G.Dy × Unit => m_is_rules a.1) fr) :
    Cal P w K Md.mg base 2 "are_fight_rules" (fun a : G.Dy × Unit => a) (fun a : G.Dy × Unit => m_are_fight_rules a.1) fr :=
  cal_mk (N := N_are_fight_rules) (ps := ["thing"]) D S_are_fight_rules rfl (fun _ _ _ _ _ _ us hl => match us, hl with | [_], _ => rfl) fun a f cdv A' outer s H E hr => by
    obtain ⟨thing, _⟩ := a
    have S := S_are_fight_rules
    have tk := takes_of (X := cxOf (L2.CX P w) P w K Md.mg base N_are_fight_rules "are_fight_rules" (defScope s_are_fight_rules) f cdv A' outer s H E) (E := E) rfl rfl rfl rfl
    refine' ST.slots (ss' := [G.fr thing]) (ST.cast ?h ?q) rfl
    (case h => exact (st_ret (xk_imm (xi_and (xi_cal c_is_rules hr tk (xa_cons (xi_fr 0) xa_nil)) (xi_and (x_cmp op_in_seq (b_inT (α := PySem.Str)) (by with_unfolding_all rfl) (xi_cast cS (xi_ixD (xi_fr 0) xi_int)) (xi_tup (xh_cons xi_str (xh_cons xi_str (xh_nil))))) (xi_one (xi_cast cB (xi_ixD (xi_fr 0) xi_int))))))))
    (case q => first | (unfold m_are_fight_rules; simp only [Res.okb, Res.bind_assoc]; done) | (unfold m_are_fight_rules; simp only [Res.okb, Res.bind_assoc]; rfl) | rfl)
def m_Fight___init__ (web : (Int × (G.Tup (Int × Int)))) (rules : G.Dy) (board : G.Dy) (field : G.Dy) (target : G.Dy) : Res FlT_Fight :=
  (Res.bind (Res.bind (Res.bind (m_are_fight_rules rules) fun v1 => (Res.ok (!v1))) fun v8 => (if v8 then (Res.ok true) else (Res.bind (Res.bind (m_is_board__D web board) fun v2 => (Res.ok (!v2))) fun v7 => (if v7 then (Res.ok true) else (Res.bind (Res.bind (Res.bind (Res.bind (dyS board) fun v3 => (Res.ok (v3, ()))) fun v4 => (Res.ok (web, v4))) fun a5 => (m_is_sound a5.1 a5.2.1)) fun v6 => (Res.ok (!v6))))))) fun v21 => (if v21 then (Res.exc ⟨(PySem.Str.ofString "NoFight"), .no⟩) else (Res.bind (Res.bind (Res.bind (m_is_field web field) fun v9 => (Res.ok (!v9))) fun v14 => (if v14 then (Res.ok true) else (Res.bind (Res.bind (m_is_crossing web target) fun v10 => (Res.ok (!v10))) fun v13 => (if v13 then (Res.ok true) else (Res.bind (Res.bind (dyI target) fun v11 => (dyIx board v11)) fun v12 => (eqDy v12 (ToDy.dy ((PySem.Str.ofString ".") : PySem.Str)))))))) fun v20 => (if v20 then (Res.exc ⟨(PySem.Str.ofString "NoFight"), .no⟩) else (Res.bind (Res.ok web) fun (the_web15 : (Int × (G.Tup (Int × Int)))) => (Res.bind (Res.ok rules) fun (the_rules16 : G.Dy) => (Res.bind (dyS board) fun (first_board17 : PySem.Str) => (Res.bind (dyLI field) fun (the_field18 : (List Int)) => (Res.bind (dyI target) fun (aim19 : Int) => (Res.ok ((((((), the_web15), the_rules16), first_board17), the_field18), aim19)))))))))))
abbrev s_Fight___init__ : Stmt := inClass (topS 44) 0
abbrev N_Fight___init__ : List Str := ["self", "web", "rules", "board", "field", "target"]
theorem S_Fight___init__ : FnScope N_Fight___init__ ["self", "web", "rules", "board", "field", "target"] (defScope s_Fight___init__) := ⟨rfl, rfl, rfl, by decide +kernel, rfl, by decide +kernel, by decide +kernel⟩
set_option maxHeartbeats 4000000 in
theorem cal_Fight___init__ {P : Program} {w : World} {K : Frag} {base : Heap} (D : IsIni K "Fight" "Fight.__init__" s_Fight___init__) (gl : Md.mg "Fight" = some (.ref (ObC.C "Fight"))) (c_is_board__D : Cal P w K Md.mg base 1 "is_board" (fun a : (Int × (G.Tup (Int × Int))) × G.Dy × Unit => a) (fun a : (Int × (G.Tup (Int × Int))) × G.Dy × Unit => m_is_board__D a.1 a.2.1) fr) (c_is_sound : Cal P w K Md.mg base 4 "is_sound" (fun a : (Int × (G.Tup (Int × Int))) × PySem.Str × Unit => a) (fun a : (Int × (G.Tup (Int × Int))) × PySem.Str × Unit => m_is_sound a.1 a.2.1) fr) (c_is_crossing : Cal P w K Md.mg base 1 "is_crossing" (fun a : (Int × (G.Tup (Int × Int))) × G.Dy × Unit => a) (fun a : (Int × (G.Tup (Int × Int))) × G.Dy × Unit => m_is_crossing a.1 a.2.1) fr) (c_is_field : Cal P w K Md.mg base 2 "is_field" (fun a : (Int × (G.Tup (Int × Int))) × G.Dy × Unit => a) (fun a : (Int × (G.Tup (Int × Int))) × G.Dy × Unit => m_is_field a.1 a.2.1) fr) (c_are_fight_rules : Cal P w K Md.mg base 2 "are_fight_rules" (fun a : G.Dy × Unit => a) (fun a : G.Dy × Unit => m_are_fight_rules a.1) fr) (b_list : Md.mg "list" = none) (x_NoFight : HasCl K Md.mg "NoFight") (ok_Fight : ObOk K "Fight") :
    CalI P w K Md.mg base 5 "Fight" (fun a : (Int × (G.Tup (Int × Int))) × G.Dy × G.Dy × G.Dy × G.Dy × Unit => m_Fight___init__ a.1 a.2.1 a.2.2.1 a.2.2.2.1 a.2.2.2.2.1) :=
  cal_mkI (N := N_Fight___init__) (ps := ["self", "web", "rules", "board", "field", "target"]) D gl S_Fight___init__ rfl (fun _ _ _ _ _ _ us hl => match us, hl with | [_, _, _, _, _, _], _ => rfl) fun p_ a f cdv A' outer s H E hr => by
    obtain ⟨web, rules, board, field, target, _⟩ := a
    have S := S_Fight___init__
    have tk := takes_of (X := cxOf (L2.CX P w) P w K Md.mg base N_Fight___init__ "Fight.__init__" (defScope s_Fight___init__) f cdv A' outer s H E) (E := E) rfl rfl rfl rfl
    refine' ST.slots (ss' := [(G.nob (ObC.C "Fight") p_ [] (() : Unit)), G.fr web, G.fr rules, G.fr board, G.fr field, G.fr target]) (ST.cast ?h ?q) rfl
    (case h => exact (st_guard (xt_w (xw_or (xt_not (xt_val (xi_cal c_are_fight_rules hr tk (xa_cons (xi_fr 2) xa_nil)))) (xw_or (xt_not (xt_val (xi_cal c_is_board__D hr tk (xa_cons (xi_fr 1) (xa_cons (xi_fr 3) xa_nil))))) (xw_or1 (xt_not (xt_val (xi_cal c_is_sound hr tk (xa_cons (xi_fr 1) (xa_cons (xi_cast cS (xi_fr 3)) xa_nil))))))))) (st_raise x_NoFight tk) (st_guard (xt_w (xw_or (xt_not (xt_val (xi_cal c_is_field hr tk (xa_cons (xi_fr 1) (xa_cons (xi_fr 4) xa_nil))))) (xw_or (xt_not (xt_val (xi_cal c_is_crossing hr tk (xa_cons (xi_fr 1) (xa_cons (xi_fr 5) xa_nil))))) (xw_or1 (t_cmp (op_eqDy (hu64 hr)) b_eqDy (nomark _) (xi_ixD (xi_fr 3) (xi_cast cI (xi_fr 5))) (xi_dy (α := PySem.Str) xi_str)))))) (st_raise x_NoFight tk) (st_seq (s1_setF 0 rfl (xk_fr 1) ok_Fight.cl (ok_Fight.na _ (by decide +kernel)) (by decide)) fun (the_web15 : (Int × (G.Tup (Int × Int)))) => (st_seq (s1_setF 0 rfl (xk_fr 2) ok_Fight.cl (ok_Fight.na _ (by decide +kernel)) (by decide)) fun (the_rules16 : G.Dy) => (st_seq (s1_setF 0 rfl (xk_cast cS (xk_fr 3)) ok_Fight.cl (ok_Fight.na _ (by decide +kernel)) (by decide)) fun (first_board17 : PySem.Str) => (st_seq (s1_setF 0 rfl (xk_free (xk_list (xa_cons (xi_cast cLI (xi_fr 4)) xa_nil) b_list)) ok_Fight.cl (ok_Fight.na _ (by decide +kernel)) (by decide)) fun (the_field18 : (List Int)) => (st_seq (s1_setF 0 rfl (xk_cast cI (xk_fr 5)) ok_Fight.cl (ok_Fight.na _ (by decide +kernel)) (by decide)) fun (aim19 : Int) => (st_ini 0 rfl)))))))))
    (case q => first | (unfold m_Fight___init__; simp only [Res.okb, Res.bind_assoc]; done) | (unfold m_Fight___init__; simp only [Res.okb, Res.bind_assoc]; rfl) | rfl)
def m_Fight_holder (self : (G.Ob "Fight" FlT_Fight)) : Res PySem.Str :=
  (strIx (self.v.1.1.2) (self.v.2))
abbrev s_Fight_holder : Stmt := inClass (topS 44) 5
abbrev N_Fight_holder : List Str := ["self"]
theorem S_Fight_holder : FnScope N_Fight_holder ["self"] (defScope s_Fight_holder) := ⟨rfl, rfl, rfl, by decide +kernel, rfl, by decide +kernel, by decide +kernel⟩
set_option maxHeartbeats 4000000 in
theorem cal_Fight_holder {P : Program} {w : World} {K : Frag} {base : Heap} (D : IsMeth K "Fight" "Fight.holder" "holder" s_Fight_holder) (ok_Fight : ObOk K "Fight") :
    CalM P w K Md.mg base 1 "Fight" "holder" (fun a : (G.Ob "Fight" FlT_Fight) × Unit => a) (fun a : (G.Ob "Fight" FlT_Fight) × Unit => m_Fight_holder a.1) fr :=
  cal_mkM (N := N_Fight_holder) (ps := ["self"]) D S_Fight_holder rfl (fun _ _ _ _ _ _ us hl => match us, hl with | [_], _ => rfl) fun a f cdv A' outer s H E hr => by
    obtain ⟨self, _⟩ := a
    have S := S_Fight_holder
    have tk := takes_of (X := cxOf (L2.CX P w) P w K Md.mg base N_Fight_holder "Fight.holder" (defScope s_Fight_holder) f cdv A' outer s H E) (E := E) rfl rfl rfl rfl
    refine' ST.slots (ss' := [G.fr self]) (ST.cast ?h ?q) rfl
    (case h => exact (st_ret (xk_imm (xi_ixStr (xi_of (xk_fld ok_Fight (sel_s (sel_s sel_0)) (xk_fr 0))) (xi_of (xk_fld ok_Fight sel_0 (xk_fr 0)))))))
    (case q => first | (unfold m_Fight_holder; simp only [Res.okb, Res.bind_assoc]; done) | (unfold m_Fight_holder; simp only [Res.okb, Res.bind_assoc]; rfl) | rfl)
def m_live_together (web : (Int × (G.Tup (Int × Int)))) (rules : G.Dy) (board : G.Dy) (field : G.Dy) (one : G.Dy) (other : G.Dy) (most : Int) : Res Unit :=
  (Res.bind (Res.bind (Res.bind (m_Fight___init__ web rules board field one) fun v4 => (Res.ok (⟨v4⟩ : (G.Ob "Fight" FlT_Fight)))) fun v7 => (Res.bind (Res.bind (Res.bind (m_Fight___init__ web rules board field other) fun v5 => (Res.ok (⟨v5⟩ : (G.Ob "Fight" FlT_Fight)))) fun v6 => (Res.ok (v6 :: []))) fun v8 => (Res.ok (v7 :: v8)))) fun (fights1 : (List (G.Ob "Fight" FlT_Fight))) => (Res.bind (Res.bind (Res.bind (idx fights1 (0 : Int)) fun v9 => (m_Fight_holder v9)) fun v11 => (Res.bind (Res.bind (idx fights1 (1 : Int)) fun v10 => (m_Fight_holder v10)) fun v12 => (Res.ok (ScaEq.eq v11 v12)))) fun v13 => (if v13 then (Res.exc ⟨(PySem.Str.ofString "NoFight"), .no⟩) else (Res.stuck))))
abbrev s_live_together : Stmt := topS 67
abbrev N_live_together : List Str := ["web", "rules", "board", "field", "one", "other", "most", "fights", "theirs", "fight", "living", "told", "found", "k"]
theorem S_live_together : FnScope N_live_together ["web", "rules", "board", "field", "one", "other", "most"] (defScope s_live_together) := ⟨rfl, rfl, rfl, by decide +kernel, rfl, by decide +kernel, by decide +kernel⟩
set_option maxHeartbeats 4000000 in
theorem cal_live_together {P : Program} {w : World} {K : Frag} {base : Heap} (D : IsDef K Md.mg "live_together" s_live_together) (c_Fight___init__ : CalI P w K Md.mg base 5 "Fight" (fun a : (Int × (G.Tup (Int × Int))) × G.Dy × G.Dy × G.Dy × G.Dy × Unit => m_Fight___init__ a.1 a.2.1 a.2.2.1 a.2.2.2.1 a.2.2.2.2.1)) (c_Fight_holder : CalM P w K Md.mg base 1 "Fight" "holder" (fun a : (G.Ob "Fight" FlT_Fight) × Unit => a) (fun a : (G.Ob "Fight" FlT_Fight) × Unit => m_Fight_holder a.1) fr) (x_NoFight : HasCl K Md.mg "NoFight") (ok_Fight : ObOk K "Fight") :
    Cal P w K Md.mg base 7 "live_together" (fun a : (Int × (G.Tup (Int × Int))) × G.Dy × G.Dy × G.Dy × G.Dy × G.Dy × Int × Unit => a) (fun a : (Int × (G.Tup (Int × Int))) × G.Dy × G.Dy × G.Dy × G.Dy × G.Dy × Int × Unit => m_live_together a.1 a.2.1 a.2.2.1 a.2.2.2.1 a.2.2.2.2.1 a.2.2.2.2.2.1 a.2.2.2.2.2.2.1) fr :=
  cal_mk (N := N_live_together) (ps := ["web", "rules", "board", "field", "one", "other", "most"]) D S_live_together rfl (fun _ _ _ _ _ _ us hl => match us, hl with | [_, _, _, _, _, _, _], _ => rfl) fun a f cdv A' outer s H E hr => by
    obtain ⟨web, rules, board, field, one, other, most, _⟩ := a
    have S := S_live_together
    have tk := takes_of (X := cxOf (L2.CX P w) P w K Md.mg base N_live_together "live_together" (defScope s_live_together) f cdv A' outer s H E) (E := E) rfl rfl rfl rfl
    refine' ST.slots (ss' := [G.fr web, G.fr rules, G.fr board, G.fr field, G.fr one, G.fr other, G.fr most, G.any, G.any, G.any, G.any, G.any, G.any, G.any]) (ST.cast ?h ?q) rfl
    (case h => exact (st_seq (s1_set 7 (xk_free (xk_lst (xhk_cons (xk_make (nm := "Fight") c_Fight___init__ hr tk (xak_cons (xk_imm (xi_fr 0)) (xak_cons (xk_fr 1) (xak_cons (xk_fr 2) (xak_cons (xk_fr 3) (xak_cons (xk_fr 4) xak_nil)))))) (xhk_cons (xk_make (nm := "Fight") c_Fight___init__ hr tk (xak_cons (xk_imm (xi_fr 0)) (xak_cons (xk_fr 1) (xak_cons (xk_fr 2) (xak_cons (xk_fr 3) (xak_cons (xk_fr 5) xak_nil)))))) (xhk_nil))))) S.nd) fun (fights1 : (List (G.Ob "Fight" FlT_Fight))) => (st_guard (t_cmp op_eq (b_eqS (α := PySem.Str) (β := PySem.Str)) (nomark _) (xi_of (xk_meth0 ok_Fight c_Fight_holder hr tk (xk_ixL (xk_fr 7) xi_int))) (xi_of (xk_meth0 ok_Fight c_Fight_holder hr tk (xk_ixL (xk_fr 7) xi_int)))) (st_raise x_NoFight tk) st_stuck)))
    (case q => first | (unfold m_live_together; simp only [Res.okb, Res.bind_assoc]; done) | (unfold m_live_together; simp only [Res.okb, Res.bind_assoc]; rfl) | rfl)
def m_Chase___init__ (fight : (G.Ob "Fight" FlT_Fight)) : Res FlT_Chase :=
  (Res.stuck)
abbrev s_Chase___init__ : Stmt := inClass (topS 69) 0
abbrev N_Chase___init__ : List Str := ["self", "fight"]
theorem S_Chase___init__ : FnScope N_Chase___init__ ["self", "fight"] (defScope s_Chase___init__) := ⟨rfl, rfl, rfl, by decide +kernel, rfl, by decide +kernel, by decide +kernel⟩
set_option maxHeartbeats 4000000 in
theorem cal_Chase___init__ {P : Program} {w : World} {K : Frag} {base : Heap} (D : IsIni K "Chase" "Chase.__init__" s_Chase___init__) (gl : Md.mg "Chase" = some (.ref (ObC.C "Chase"))) (ok_Chase : ObOk K "Chase") :
    CalI P w K Md.mg base 1 "Chase" (fun a : (G.Ob "Fight" FlT_Fight) × Unit => m_Chase___init__ a.1) :=
  cal_mkI (N := N_Chase___init__) (ps := ["self", "fight"]) D gl S_Chase___init__ rfl (fun _ _ _ _ _ _ us hl => match us, hl with | [_, _], _ => rfl) fun p_ a f cdv A' outer s H E hr => by
    obtain ⟨fight, _⟩ := a
    have S := S_Chase___init__
    have tk := takes_of (X := cxOf (L2.CX P w) P w K Md.mg base N_Chase___init__ "Chase.__init__" (defScope s_Chase___init__) f cdv A' outer s H E) (E := E) rfl rfl rfl rfl
    refine' ST.slots (ss' := [(G.nob (ObC.C "Chase") p_ [] (() : Unit)), G.fr fight]) (ST.cast ?h ?q) rfl
    (case h => exact st_stuck)
    (case q => first | (unfold m_Chase___init__; simp only [Res.okb, Res.bind_assoc]; done) | (unfold m_Chase___init__; simp only [Res.okb, Res.bind_assoc]; rfl) | rfl)
def m_ladder (web : (Int × (G.Tup (Int × Int)))) (rules : G.Dy) (board : G.Dy) (target : G.Dy) (most : Int) : Res Unit :=
  (Res.bind (Res.bind (Res.bind (Res.bind (Res.bind (Res.bind (Res.bind (Res.bind (Res.bind (Res.bind (Res.bind (guardR (small62 (web.1) && big ((web.1)).toNat) (Res.ok (rangeL 0 ((web.1)).toNat))) fun v2 => (Res.ok (ToDy.dy (v2 : (List Int))))) fun v3 => (Res.ok (v3, (target, ())))) fun v4 => (Res.ok (board, v4))) fun v5 => (Res.ok (rules, v5))) fun v6 => (Res.ok (web, v6))) fun a7 => (m_Fight___init__ a7.1 a7.2.1 a7.2.2.1 a7.2.2.2.1 a7.2.2.2.2.1)) fun v8 => (Res.ok (⟨v8⟩ : (G.Ob "Fight" FlT_Fight)))) fun v9 => (Res.ok (v9, ()))) fun a10 => (m_Chase___init__ a10.1)) fun v11 => (Res.ok (⟨v11⟩ : (G.Ob "Chase" FlT_Chase)))) fun (chase1 : (G.Ob "Chase" FlT_Chase)) => (Res.stuck))
abbrev s_ladder : Stmt := topS 70
abbrev N_ladder : List Str := ["web", "rules", "board", "target", "most", "chase", "plan"]
theorem S_ladder : FnScope N_ladder ["web", "rules", "board", "target", "most"] (defScope s_ladder) := ⟨rfl, rfl, rfl, by decide +kernel, rfl, by decide +kernel, by decide +kernel⟩
set_option maxHeartbeats 4000000 in
theorem cal_ladder {P : Program} {w : World} {K : Frag} {base : Heap} (D : IsDef K Md.mg "ladder" s_ladder) (c_Fight___init__ : CalI P w K Md.mg base 5 "Fight" (fun a : (Int × (G.Tup (Int × Int))) × G.Dy × G.Dy × G.Dy × G.Dy × Unit => m_Fight___init__ a.1 a.2.1 a.2.2.1 a.2.2.2.1 a.2.2.2.2.1)) (c_Chase___init__ : CalI P w K Md.mg base 1 "Chase" (fun a : (G.Ob "Fight" FlT_Fight) × Unit => m_Chase___init__ a.1)) (b_list : Md.mg "list" = none) (b_range : Md.mg "range" = none) :
    Cal P w K Md.mg base 7 "ladder" (fun a : (Int × (G.Tup (Int × Int))) × G.Dy × G.Dy × G.Dy × Int × Unit => a) (fun a : (Int × (G.Tup (Int × Int))) × G.Dy × G.Dy × G.Dy × Int × Unit => m_ladder a.1 a.2.1 a.2.2.1 a.2.2.2.1 a.2.2.2.2.1) fr :=
  cal_mk (N := N_ladder) (ps := ["web", "rules", "board", "target", "most"]) D S_ladder rfl (fun _ _ _ _ _ _ us hl => match us, hl with | [_, _, _, _, _], _ => rfl) fun a f cdv A' outer s H E hr => by
    obtain ⟨web, rules, board, target, most, _⟩ := a
    have S := S_ladder
    have tk := takes_of (X := cxOf (L2.CX P w) P w K Md.mg base N_ladder "ladder" (defScope s_ladder) f cdv A' outer s H E) (E := E) rfl rfl rfl rfl
    refine' ST.slots (ss' := [G.fr web, G.fr rules, G.fr board, G.fr target, G.fr most, G.any, G.any]) (ST.cast ?h ?q) rfl
    (case h => exact (st_seq (s1_set 5 (xk_make (nm := "Chase") c_Chase___init__ hr tk (xak_cons (xk_make (nm := "Fight") c_Fight___init__ hr tk (xak_cons (xk_imm (xi_fr 0)) (xak_cons (xk_fr 1) (xak_cons (xk_fr 2) (xak_cons (xk_dy (α := (List Int)) (xk_free (xk_listR1 (xi_p1 (xi_fr 0)) b_list b_range))) (xak_cons (xk_fr 3) xak_nil)))))) xak_nil)) S.nd) fun (chase1 : (G.Ob "Chase" FlT_Chase)) => st_stuck))
    (case q => first | (unfold m_ladder; simp only [Res.okb, Res.bind_assoc]; done) | (unfold m_ladder; simp only [Res.okb, Res.bind_assoc]; rfl) | rfl)
def m_l_numbers (l_cell : Int) (l_sizes : (List Int)) : Res (List Int) :=
  (Res.bind (Res.ok (max l_cell ((-(1 : Int)) - l_cell))) fun (l_number1 : Int) => (Res.bind (Res.ok l_number1) fun (l_left2 : Int) => (Res.bind (Res.ok ([] : (List Int))) fun (l_found3 : (List Int)) => (Res.bind (Res.bind (guardR (small62 (l_sizes.length : Int)) (Res.ok (rangeL 0 ((l_sizes.length : Int)).toNat))) fun v35 => (foldR (fun (s4 : (List Int) × Int) (a5 : Int) => (Res.bind (Res.bind (if (decide (l_number1 ≥ ((10 : Int) ^ (18 : Int).toNat))) then (Res.ok (decide (s4.2 > (0 : Int)))) else (Res.ok false)) fun v34 => (if v34 then (Res.bind (Res.bind (Res.bind (idx l_sizes a5) fun v8 => (modR s4.2 v8)) fun v9 => (appR s4.1 v9)) fun l_found7 => (Res.bind (Res.bind (idx l_sizes a5) fun v11 => (divR s4.2 v11)) fun (l_left10 : Int) => (Res.ok (l_found7, l_left10)))) else (Res.bind (Res.bind (Res.bind (Res.bind (Res.bind (Res.bind (Res.bind (mulR (101 : Int) a5) fun v18 => (mulR v18 a5)) fun v19 => (Res.ok (l_number1 + v19))) fun v20 => (Res.ok (v20 + a5))) fun v21 => (modR v21 (2147483647 : Int))) fun v22 => (mulR v22 (48271 : Int))) fun v23 => (modR v23 (2147483647 : Int))) fun (l_one12 : Int) => (Res.bind (Res.bind (Res.bind (Res.bind (mulR l_one12 l_one12) fun v27 => (modR v27 (2147483629 : Int))) fun v28 => (mulR v28 (48271 : Int))) fun v29 => (modR v29 (2147483647 : Int))) fun (l_one24 : Int) => (Res.bind (Res.bind (Res.bind (divR l_one24 (16 : Int)) fun v31 => (Res.bind (idx l_sizes a5) fun v32 => (modR v31 v32))) fun v33 => (appR s4.1 v33)) fun l_found30 => (Res.ok (l_found30, s4.2))))))) fun s6 => (Res.ok (s6.1, s6.2)))) (l_found3, l_left2) v35)) fun s4 => (Res.ok s4.1)))))
abbrev s__law_numbers : Stmt := topS 72
abbrev N__law_numbers : List Str := ["_law_cell", "_law_sizes", "_law_number", "_law_left", "_law_found", "_law_k", "_law_one"]
theorem S__law_numbers : FnScope N__law_numbers ["_law_cell", "_law_sizes"] (defScope s__law_numbers) := ⟨rfl, rfl, rfl, by decide +kernel, rfl, by decide +kernel, by decide +kernel⟩
set_option maxHeartbeats 4000000 in
theorem cal__law_numbers {P : Program} {w : World} {K : Frag} {base : Heap} (D : IsDef K Md.mg "_law_numbers" s__law_numbers) (b_max : Md.mg "max" = none) (b_len : Md.mg "len" = none) (b_range : Md.mg "range" = none) :
    Cal P w K Md.mg base 1 "_law_numbers" (fun a : Int × (List Int) × Unit => a) (fun a : Int × (List Int) × Unit => m_l_numbers a.1 a.2.1) ow :=
  cal_mk (N := N__law_numbers) (ps := ["_law_cell", "_law_sizes"]) D S__law_numbers rfl (fun _ _ _ _ _ _ us hl => match us, hl with | [_, _], _ => rfl) fun a f cdv A' outer s H E hr => by
    obtain ⟨l_cell, l_sizes, _⟩ := a
    have S := S__law_numbers
    have tk := takes_of (X := cxOf (L2.CX P w) P w K Md.mg base N__law_numbers "_law_numbers" (defScope s__law_numbers) f cdv A' outer s H E) (E := E) rfl rfl rfl rfl
    refine' ST.slots (ss' := [G.fr l_cell, G.fr l_sizes, G.any, G.any, G.any, G.any, G.any]) (ST.cast ?h ?q) rfl
    (case h => exact (st_seq (s1_set 2 (xk_imm (xi_bf (call_max2 rfl) c_max b_max (by decide +kernel) (xa_cons (xi_fr 0) (xa_cons (x_bin op_sub b_sub (xi_neg xi_int) (xi_fr 0)) xa_nil)))) S.nd) fun (l_number1 : Int) => (st_seq (s1_set 3 (xk_fr 2) S.nd) fun (l_left2 : Int) => (st_seq (s1_set 4 (xk_lst (xhk_nil (α := Int))) S.nd) fun (l_found3 : (List Int)) => (st_seq (s1_for (S := (List Int) × Int) (fun (s4 : (List Int) × Int) => [G.fr l_cell, G.fr l_sizes, G.fr l_number1, G.fr s4.2, G.ow s4.1, G.any, G.any]) (l_found3, l_left2) (it_range1 (xa_cons (xi_bf call_len c_lenL b_len PySem.boot_len (xa_cons (xi_fr 1) xa_nil)) xa_nil) b_range) (tg_name 5 S.nd) (fun s4 a5 => (sn_seq (s1_if (post := (fun (s6 : (List Int) × Int) => [G.fr l_cell, G.fr l_sizes, G.fr l_number1, G.fr s6.2, G.ow s6.1, G.fr a5, G.any])) (xt_w (xw_and (t_cmp op_ge b_ge (nomark _) (xi_fr 2) (xi_pow (by unfold CPow; decide))) (xw_and1 (t_cmp op_gt b_gt (nomark _) (xi_fr 3) xi_int)))) (sn_seq (s1_append 4 (xk_imm (x_bin op_mod b_mod (xi_fr 3) (xi_ixL (xi_fr 1) (xi_fr 5))))) fun l_found7 => (sn_seq (s1_set 3 (xk_imm (x_bin op_fdivW b_div (xi_fr 3) (xi_ixL (xi_fr 1) (xi_fr 5)))) S.nd) fun (l_left10 : Int) => (sn_nil (s := (l_found7, l_left10)) (wk_eq (wk_eq (wk_eq (wk_eq (wk_eq (wk_eq (wk_eq wk_nil)))))))))) (sn_seq (s1_set 6 (xk_imm (x_bin op_mod b_mod (x_bin op_mul b_mul (x_bin op_mod b_mod (x_bin op_add b_add (x_bin op_add b_add (xi_fr 2) (x_bin op_mul b_mul (x_bin op_mul b_mul xi_int (xi_fr 5)) (xi_fr 5))) (xi_fr 5)) xi_int) xi_int) xi_int)) S.nd) fun (l_one12 : Int) => (sn_seq (s1_set 6 (xk_imm (x_bin op_mod b_mod (x_bin op_mul b_mul (x_bin op_mod b_mod (x_bin op_mul b_mul (xi_fr 6) (xi_fr 6)) xi_int) xi_int) xi_int)) S.nd) fun (l_one24 : Int) => (sn_seq (s1_append 4 (xk_imm (x_bin op_mod b_mod (x_bin op_fdivW b_div (xi_fr 6) xi_int) (xi_ixL (xi_fr 1) (xi_fr 5))))) fun l_found30 => (sn_nil (s := (l_found30, s4.2)) (wk_eq (wk_eq (wk_eq (wk_eq (wk_eq (wk_eq (wk_any wk_nil)))))))))))) fun s6 => (sn_nil (s := (s6.1, s6.2)) (wk_eq (wk_eq (wk_eq (wk_eq (wk_eq (wk_any (wk_eq wk_nil)))))))))) (wk_eq (wk_eq (wk_eq (wk_eq (wk_eq (wk_eq (wk_eq wk_nil)))))))) fun s4 => (st_retOw 4))))))
    (case q => first | (unfold m_l_numbers; simp only [Res.okb, Res.bind_assoc]; done) | (unfold m_l_numbers; simp only [Res.okb, Res.bind_assoc]; rfl) | rfl)
def m_l_cell_at (l_script : G.Scr) (l_k : Int) : Res Int :=
  (if (decide (l_k < (l_script.ns.length : Int))) then (idx l_script.ns l_k) else (Res.ok (0 : Int)))
abbrev s__law_cell_at : Stmt := topS 73
abbrev N__law_cell_at : List Str := ["_law_script", "_law_k"]
theorem S__law_cell_at : FnScope N__law_cell_at ["_law_script", "_law_k"] (defScope s__law_cell_at) := ⟨rfl, rfl, rfl, by decide +kernel, rfl, by decide +kernel, by decide +kernel⟩
set_option maxHeartbeats 4000000 in
theorem cal__law_cell_at {P : Program} {w : World} {K : Frag} {base : Heap} (D : IsDef K Md.mg "_law_cell_at" s__law_cell_at) (b_len : Md.mg "len" = none) :
    Cal P w K Md.mg base 1 "_law_cell_at" (fun a : G.Scr × Int × Unit => a) (fun a : G.Scr × Int × Unit => m_l_cell_at a.1 a.2.1) fr :=
  cal_mk (N := N__law_cell_at) (ps := ["_law_script", "_law_k"]) D S__law_cell_at rfl (fun _ _ _ _ _ _ us hl => match us, hl with | [_, _], _ => rfl) fun a f cdv A' outer s H E hr => by
    obtain ⟨l_script, l_k, _⟩ := a
    have S := S__law_cell_at
    have tk := takes_of (X := cxOf (L2.CX P w) P w K Md.mg base N__law_cell_at "_law_cell_at" (defScope s__law_cell_at) f cdv A' outer s H E) (E := E) rfl rfl rfl rfl
    refine' ST.slots (ss' := [G.fr l_script, G.fr l_k]) (ST.cast ?h ?q) rfl
    (case h => exact (st_guard (t_cmp op_lt b_lt (nomark _) (xi_fr 1) (xi_bf call_len c_lenScr b_len PySem.boot_len (xa_cons (xi_fr 0) xa_nil))) (st_ret (xk_imm (xi_ixS (xi_fr 0) (xi_fr 1)))) (st_ret (xk_imm xi_int))))
    (case q => first | (unfold m_l_cell_at; simp only [Res.okb, Res.bind_assoc]; done) | (unfold m_l_cell_at; simp only [Res.okb, Res.bind_assoc]; rfl) | rfl)
def m_l_nexts (l_web_here : (Int × (G.Tup (Int × Int)))) : Res (List (List Int)) :=
  (Res.bind (Res.bind (guardR (small62 (l_web_here.1)) (Res.ok (rangeL 0 ((l_web_here.1)).toNat))) fun v3 => (lcT (fun _ => Res.ok true) (fun a2 => (Res.ok ([] : (List Int)))) v3)) fun (l_found1 : (List (List Int))) => (Res.bind (foldR (fun (s4 : (List (List Int))) (a5 : (Int × Int)) => (Res.bind (Res.bind (idx s4 a5.1) fun v7 => (Res.bind (appR v7 a5.2) fun v8 => (Res.ok (setI s4 a5.1 v8)))) fun l_found6 => (Res.bind (Res.bind (idx l_found6 a5.2) fun v10 => (Res.bind (appR v10 a5.1) fun v11 => (Res.ok (setI l_found6 a5.2 v11)))) fun l_found9 => (Res.ok l_found9)))) l_found1 (l_web_here.2).l) fun s4 => (lcT (fun _ => Res.ok true) (fun a12 => (Res.ok (sortI a12))) s4)))
abbrev s__law_nexts : Stmt := topS 74
abbrev N__law_nexts : List Str := ["_law_web_here", "_law_found", "_law_one", "_law_other", "_law_k", "_law_row"]
theorem S__law_nexts : FnScope N__law_nexts ["_law_web_here"] (defScope s__law_nexts) := ⟨rfl, rfl, rfl, by decide +kernel, rfl, by decide +kernel, by decide +kernel⟩
set_option maxHeartbeats 4000000 in
theorem cal__law_nexts {P : Program} {w : World} {K : Frag} {base : Heap} (D : IsDef K Md.mg "_law_nexts" s__law_nexts) (b_range : Md.mg "range" = none) (b_sorted : Md.mg "sorted" = none) :
    Cal P w K Md.mg base 1 "_law_nexts" (fun a : (Int × (G.Tup (Int × Int))) × Unit => a) (fun a : (Int × (G.Tup (Int × Int))) × Unit => m_l_nexts a.1) fr :=
  cal_mk (N := N__law_nexts) (ps := ["_law_web_here"]) D S__law_nexts rfl (fun _ _ _ _ _ _ us hl => match us, hl with | [_], _ => rfl) fun a f cdv A' outer s H E hr => by
    obtain ⟨l_web_here, _⟩ := a
    have S := S__law_nexts
    have tk := takes_of (X := cxOf (L2.CX P w) P w K Md.mg base N__law_nexts "_law_nexts" (defScope s__law_nexts) f cdv A' outer s H E) (E := E) rfl rfl rfl rfl
    refine' ST.slots (ss' := [G.fr l_web_here, G.any, G.any, G.any, G.any, G.any]) (ST.cast ?h ?q) rfl
    (case h => exact (st_seq (s1_lcO 1 (own := [("_law_k", 4)]) (it_range1 (xa_cons (xi_p1 (xi_fr 0)) xa_nil) b_range) (tc_name 4 S.nd) (fun a2 _ _ _ _ _ => (xk_os (xk_lst (xhk_nil (α := Int))))) S.nd (blkOk_by (N := N__law_nexts) (sc := defScope s__law_nexts) (by decide +kernel)) (sw_true rfl rfl rfl (by decide +kernel))) fun (l_found1 : (List (List Int))) => (st_seq (s1_for (S := (List (List Int))) (fun (s4 : (List (List Int))) => [G.fr l_web_here, G.os (G.lsO G.l1) s4, G.any, G.any, G.any, G.any]) l_found1 (it_tup (xk_imm (xi_p2 (xi_fr 0)))) (tg_two (tg_name 2 S.nd) (tg_name 3 S.nd)) (fun s4 a5 => (sn_seq (s1_app2 1 (xi_fr 2) (xk_fr 3)) fun l_found6 => (sn_seq (s1_app2 1 (xi_fr 3) (xk_fr 2)) fun l_found9 => (sn_nil (s := l_found9) (wk_eq (wk_eq (wk_any (wk_any (wk_eq (wk_eq wk_nil)))))))))) (wk_eq (wk_eq (wk_eq (wk_eq (wk_eq (wk_eq wk_nil))))))) fun s4 => (st_frozO 1 (st_ret (xk_free (xk_lc (own := [("_law_row", 5)]) (it_list (xk_fr 1)) (tc_name 5 S.nd) (fun a12 _ _ _ _ _ => (xk_free (xk_sortedI (xa_cons (xi_fr 5) xa_nil) b_sorted))) S.nd (blkOk_by (N := N__law_nexts) (sc := defScope s__law_nexts) (by decide +kernel)))))))))
    (case q => first | (unfold m_l_nexts; simp only [Res.okb, Res.bind_assoc]; done) | (unfold m_l_nexts; simp only [Res.okb, Res.bind_assoc]; rfl) | rfl)
def m_l_chain (l_nexts_here : (List (List Int))) (l_board : PySem.Str) (l_k : Int) : Res (List Int) :=
  (Res.bind (Res.ok (l_k :: [])) fun (l_found1 : (List Int)) => (Res.bind (Res.ok (0 : Int)) fun (l_at2 : Int) => (Res.bind (whileR (fun (s3 : (List Int) × Int) => (Res.ok (decide (s3.2 < (s3.1.length : Int))))) (fun (s3 : (List Int) × Int) => (Res.bind (Res.bind (Res.bind (idx s3.1 s3.2) fun v6 => (idx l_nexts_here v6)) fun v15 => (foldR (fun (s7 : (List Int)) (a8 : Int) => (Res.bind (Res.bind (Res.bind (Res.bind (strIx l_board a8) fun v9 => (Res.bind (strIx l_board l_k) fun v10 => (Res.ok (ScaEq.eq v9 v10)))) fun v11 => (if v11 then (Res.ok (!decide (a8 ∈ s7))) else (Res.ok false))) fun v14 => (if v14 then (Res.bind (appR s7 a8) fun l_found13 => (Res.ok l_found13)) else (Res.ok s7))) fun s12 => (Res.ok s12))) s3.1 v15)) fun s7 => (Res.bind (Res.ok (s3.2 + (1 : Int))) fun (l_at16 : Int) => (Res.ok (s7, l_at16))))) (64) (l_found1, l_at2)) fun s3 => (Res.ok (sortI s3.1)))))
abbrev s__law_chain : Stmt := topS 75
abbrev N__law_chain : List Str := ["_law_nexts_here", "_law_board", "_law_k", "_law_found", "_law_at", "_law_one"]
theorem S__law_chain : FnScope N__law_chain ["_law_nexts_here", "_law_board", "_law_k"] (defScope s__law_chain) := ⟨rfl, rfl, rfl, by decide +kernel, rfl, by decide +kernel, by decide +kernel⟩
set_option maxHeartbeats 4000000 in
theorem cal__law_chain {P : Program} {w : World} {K : Frag} {base : Heap} (D : IsDef K Md.mg "_law_chain" s__law_chain) (b_len : Md.mg "len" = none) (b_sorted : Md.mg "sorted" = none) :
    Cal P w K Md.mg base 1 "_law_chain" (fun a : (List (List Int)) × PySem.Str × Int × Unit => a) (fun a : (List (List Int)) × PySem.Str × Int × Unit => m_l_chain a.1 a.2.1 a.2.2.1) ow :=
  cal_mk (N := N__law_chain) (ps := ["_law_nexts_here", "_law_board", "_law_k"]) D S__law_chain rfl (fun _ _ _ _ _ _ us hl => match us, hl with | [_, _, _], _ => rfl) fun a f cdv A' outer s H E hr => by
    obtain ⟨l_nexts_here, l_board, l_k, _⟩ := a
    have S := S__law_chain
    have tk := takes_of (X := cxOf (L2.CX P w) P w K Md.mg base N__law_chain "_law_chain" (defScope s__law_chain) f cdv A' outer s H E) (E := E) rfl rfl rfl rfl
    refine' ST.slots (ss' := [G.fr l_nexts_here, G.fr l_board, G.fr l_k, G.any, G.any, G.any]) (ST.cast ?h ?q) rfl
    (case h => exact (st_seq (s1_set 3 (xk_lst (xak_imm (xh_cons (xi_fr 2) (xh_nil)))) S.nd) fun (l_found1 : (List Int)) => (st_seq (s1_set 4 (xk_imm xi_int) S.nd) fun (l_at2 : Int) => (st_seq (s1_while (S := (List Int) × Int) (64) (fun (s3 : (List Int) × Int) => [G.fr l_nexts_here, G.fr l_board, G.fr l_k, G.ow s3.1, G.fr s3.2, G.any]) (l_found1, l_at2) (fun s3 => (t_cmp op_lt b_lt (nomark _) (xi_fr 4) (xi_bf call_len c_lenL b_len PySem.boot_len (xa_cons (xi_ow 3) xa_nil)))) (fun s3 => (sn_seq (s1_for (S := (List Int)) (fun (s7 : (List Int)) => [G.fr l_nexts_here, G.fr l_board, G.fr l_k, G.ow s7, G.fr s3.2, G.any]) s3.1 (it_list (xk_ixL (xk_fr 0) (xi_ixL (xi_ow 3) (xi_fr 4)))) (tg_name 5 S.nd) (fun s7 a8 => (sn_seq (s1_if (post := (fun (s12 : (List Int)) => [G.fr l_nexts_here, G.fr l_board, G.fr l_k, G.ow s12, G.fr s3.2, G.fr a8])) (xt_w (xw_and (t_cmp op_eq (b_eqS (α := PySem.Str) (β := PySem.Str)) (nomark _) (xi_ixStr (xi_fr 1) (xi_fr 5)) (xi_ixStr (xi_fr 1) (xi_fr 2))) (xw_and1 (t_cmp op_notIn_seq (b_ninL (α := Int)) (by with_unfolding_all rfl) (xi_fr 5) (xi_ow 3))))) (sn_seq (s1_append 3 (xk_fr 5)) fun l_found13 => (sn_nil (s := l_found13) (wk_eq (wk_eq (wk_eq (wk_eq (wk_eq (wk_eq wk_nil)))))))) (sn_nil (s := s7) (wk_eq (wk_eq (wk_eq (wk_eq (wk_eq (wk_eq wk_nil)))))))) fun s12 => (sn_nil (s := s12) (wk_eq (wk_eq (wk_eq (wk_eq (wk_eq (wk_any wk_nil))))))))) (wk_eq (wk_eq (wk_eq (wk_eq (wk_eq (wk_eq wk_nil))))))) fun s7 => (sn_seq (s1_set 4 (xk_imm (x_bin op_add b_add (xi_fr 4) xi_int)) S.nd) fun (l_at16 : Int) => (sn_nil (s := (s7, l_at16)) (wk_eq (wk_eq (wk_eq (wk_eq (wk_eq (wk_eq wk_nil)))))))))) (wk_eq (wk_eq (wk_eq (wk_eq (wk_eq (wk_eq wk_nil))))))) fun s3 => (st_ret (xk_sortedI (xa_cons (xi_ow 3) xa_nil) b_sorted))))))
    (case q => first | (unfold m_l_chain; simp only [Res.okb, Res.bind_assoc]; done) | (unfold m_l_chain; simp only [Res.okb, Res.bind_assoc]; rfl) | rfl)
def m_l_breaths (l_nexts_here : (List (List Int))) (l_board : PySem.Str) (l_chain_here : (List Int)) : Res (List Int) :=
  (Res.bind (Res.ok ([] : (List Int))) fun (l_found1 : (List Int)) => (Res.bind (foldR (fun (s2 : (List Int)) (a3 : Int) => (Res.bind (Res.bind (Res.bind (idx l_nexts_here a3) fun v8 => (lcT (fun a5 => (Res.bind (Res.bind (strIx l_board a5) fun v6 => (Res.ok (ScaEq.eq v6 (PySem.Str.ofString ".")))) fun v7 => (if v7 then (Res.ok (!decide (a5 ∈ s2))) else (Res.ok false)))) (fun a5 => (Res.ok a5)) v8)) fun v9 => (extR s2 v9)) fun l_found4 => (Res.ok l_found4))) l_found1 l_chain_here) fun s2 => (Res.ok (sortI s2))))
abbrev s__law_breaths : Stmt := topS 76
abbrev N__law_breaths : List Str := ["_law_nexts_here", "_law_board", "_law_chain_here", "_law_found", "_law_k", "_law_one"]
theorem S__law_breaths : FnScope N__law_breaths ["_law_nexts_here", "_law_board", "_law_chain_here"] (defScope s__law_breaths) := ⟨rfl, rfl, rfl, by decide +kernel, rfl, by decide +kernel, by decide +kernel⟩
set_option maxHeartbeats 4000000 in
theorem cal__law_breaths {P : Program} {w : World} {K : Frag} {base : Heap} (D : IsDef K Md.mg "_law_breaths" s__law_breaths) (b_sorted : Md.mg "sorted" = none) :
    Cal P w K Md.mg base 1 "_law_breaths" (fun a : (List (List Int)) × PySem.Str × (List Int) × Unit => a) (fun a : (List (List Int)) × PySem.Str × (List Int) × Unit => m_l_breaths a.1 a.2.1 a.2.2.1) ow :=
  cal_mk (N := N__law_breaths) (ps := ["_law_nexts_here", "_law_board", "_law_chain_here"]) D S__law_breaths rfl (fun _ _ _ _ _ _ us hl => match us, hl with | [_, _, _], _ => rfl) fun a f cdv A' outer s H E hr => by
    obtain ⟨l_nexts_here, l_board, l_chain_here, _⟩ := a
    have S := S__law_breaths
    have tk := takes_of (X := cxOf (L2.CX P w) P w K Md.mg base N__law_breaths "_law_breaths" (defScope s__law_breaths) f cdv A' outer s H E) (E := E) rfl rfl rfl rfl
    refine' ST.slots (ss' := [G.fr l_nexts_here, G.fr l_board, G.fr l_chain_here, G.any, G.any, G.any]) (ST.cast ?h ?q) rfl
    (case h => exact (st_seq (s1_set 3 (xk_lst (xhk_nil (α := Int))) S.nd) fun (l_found1 : (List Int)) => (st_seq (s1_for (S := (List Int)) (fun (s2 : (List Int)) => [G.fr l_nexts_here, G.fr l_board, G.fr l_chain_here, G.ow s2, G.any, G.any]) l_found1 (it_list (xk_fr 2)) (tg_name 4 S.nd) (fun s2 a3 => (sn_seq (s1_extI 3 (xi_of (xk_lcIf (own := [("_law_one", 5)]) (it_list (xk_ixL (xk_fr 0) (xi_fr 4))) (tc_name 5 S.nd) (fun a5 _ _ _ _ _ => (xt_w (xw_and (t_cmp op_eq (b_eqS (α := PySem.Str) (β := PySem.Str)) (nomark _) (xi_ixStr (xi_fr 1) (xi_fr 5)) xi_str) (xw_and1 (t_cmp op_notIn_seq (b_ninL (α := Int)) (by with_unfolding_all rfl) (xi_fr 5) (xi_ow 3)))))) (fun a5 _ _ _ _ _ => (xk_fr 5)) S.nd (blkOk_by (N := N__law_breaths) (sc := defScope s__law_breaths) (by decide +kernel))))) fun l_found4 => (sn_nil (s := l_found4) (wk_eq (wk_eq (wk_eq (wk_eq (wk_any (wk_eq wk_nil))))))))) (wk_eq (wk_eq (wk_eq (wk_eq (wk_eq (wk_eq wk_nil))))))) fun s2 => (st_ret (xk_sortedI (xa_cons (xi_ow 3) xa_nil) b_sorted)))))
    (case q => first | (unfold m_l_breaths; simp only [Res.okb, Res.bind_assoc]; done) | (unfold m_l_breaths; simp only [Res.okb, Res.bind_assoc]; rfl) | rfl)
def m_l_put (l_board : PySem.Str) (l_some : (List Int)) (l_sign : PySem.Str) : Res PySem.Str :=
  (Res.bind (Res.bind (Res.bind (Res.bind (strLen l_board) fun v1 => (Res.ok (v1, ()))) fun v2 => (guardR (small62 v2.1) (Res.ok (rangeL 0 (v2.1).toNat)))) fun v8 => (lcT (fun _ => Res.ok true) (fun a3 => (Res.bind (Res.bind (strIx l_board a3) fun v6 => (Res.ok (v6 :: (l_sign :: [])))) fun v7 => (idx v7 (if (decide (a3 ∈ l_some)) then (1 : Int) else 0)))) v8)) fun v9 => (joinR (PySem.Str.ofString "") v9))
abbrev s__law_put : Stmt := topS 77
abbrev N__law_put : List Str := ["_law_board", "_law_some", "_law_sign", "_law_k"]
theorem S__law_put : FnScope N__law_put ["_law_board", "_law_some", "_law_sign"] (defScope s__law_put) := ⟨rfl, rfl, rfl, by decide +kernel, rfl, by decide +kernel, by decide +kernel⟩
set_option maxHeartbeats 4000000 in
theorem cal__law_put {P : Program} {w : World} {K : Frag} {base : Heap} (D : IsDef K Md.mg "_law_put" s__law_put) (b_len : Md.mg "len" = none) (b_range : Md.mg "range" = none) (b_int : Md.mg "int" = none) :
    Cal P w K Md.mg base 1 "_law_put" (fun a : PySem.Str × (List Int) × PySem.Str × Unit => a) (fun a : PySem.Str × (List Int) × PySem.Str × Unit => m_l_put a.1 a.2.1 a.2.2.1) fr :=
  cal_mk (N := N__law_put) (ps := ["_law_board", "_law_some", "_law_sign"]) D S__law_put rfl (fun _ _ _ _ _ _ us hl => match us, hl with | [_, _, _], _ => rfl) fun a f cdv A' outer s H E hr => by
    obtain ⟨l_board, l_some, l_sign, _⟩ := a
    have S := S__law_put
    have tk := takes_of (X := cxOf (L2.CX P w) P w K Md.mg base N__law_put "_law_put" (defScope s__law_put) f cdv A' outer s H E) (E := E) rfl rfl rfl rfl
    refine' ST.slots (ss' := [G.fr l_board, G.fr l_some, G.fr l_sign, G.any]) (ST.cast ?h ?q) rfl
    (case h => exact (st_ret (xk_imm (xi_join xi_str (xi_of (xk_lc (own := [("_law_k", 3)]) (it_range1 (xa_cons (xi_bf call_len c_lenStr b_len PySem.boot_len (xa_cons (xi_fr 0) xa_nil)) xa_nil) b_range) (tc_name 3 S.nd) (fun a3 _ _ _ _ _ => (xk_imm (xi_ixL (xi_of (xk_lst (xak_imm (xh_cons (xi_ixStr (xi_fr 0) (xi_fr 3)) (xh_cons (xi_fr 2) (xh_nil)))))) (xi_bt call_int1 c_intB b_int (by decide +kernel) (xa_cons (x_cmp op_in_seq (b_inL (α := Int)) (by with_unfolding_all rfl) (xi_fr 3) (xi_fr 1)) xa_nil))))) S.nd (blkOk_by (N := N__law_put) (sc := defScope s__law_put) (by decide +kernel))))))))
    (case q => first | (unfold m_l_put; simp only [Res.okb, Res.bind_assoc]; done) | (unfold m_l_put; simp only [Res.okb, Res.bind_assoc]; rfl) | rfl)
def m_l_cleared (l_nexts_here : (List (List Int))) (l_board : PySem.Str) : Res PySem.Str :=
  (Res.bind (Res.ok ([] : (List Int))) fun (l_gone1 : (List Int)) => (Res.bind (Res.bind (Res.bind (Res.bind (strLen l_board) fun v2 => (Res.ok (v2, ()))) fun v3 => (guardR (small62 v3.1) (Res.ok (rangeL 0 (v3.1).toNat)))) fun v13 => (foldR (fun (s4 : (List Int)) (a5 : Int) => (Res.bind (m_l_chain l_nexts_here l_board a5) fun (l_chain_here6 : (List Int)) => (Res.bind (Res.bind (Res.bind (Res.bind (strIx l_board a5) fun v7 => (Res.ok (!ScaEq.eq v7 (PySem.Str.ofString ".")))) fun v9 => (if v9 then (Res.bind (m_l_breaths l_nexts_here l_board l_chain_here6) fun v8 => (eqD v8 ([] : (List Int)))) else (Res.ok false))) fun v12 => (if v12 then (Res.bind (appR s4 a5) fun l_gone11 => (Res.ok l_gone11)) else (Res.ok s4))) fun s10 => (Res.ok s10)))) l_gone1 v13)) fun s4 => (m_l_put l_board s4 (PySem.Str.ofString "."))))
abbrev s__law_cleared : Stmt := topS 78
abbrev N__law_cleared : List Str := ["_law_nexts_here", "_law_board", "_law_gone", "_law_k", "_law_chain_here"]
theorem S__law_cleared : FnScope N__law_cleared ["_law_nexts_here", "_law_board"] (defScope s__law_cleared) := ⟨rfl, rfl, rfl, by decide +kernel, rfl, by decide +kernel, by decide +kernel⟩
set_option maxHeartbeats 4000000 in
theorem cal__law_cleared {P : Program} {w : World} {K : Frag} {base : Heap} (D : IsDef K Md.mg "_law_cleared" s__law_cleared) (c__law_chain : Cal P w K Md.mg base 1 "_law_chain" (fun a : (List (List Int)) × PySem.Str × Int × Unit => a) (fun a : (List (List Int)) × PySem.Str × Int × Unit => m_l_chain a.1 a.2.1 a.2.2.1) ow) (c__law_breaths : Cal P w K Md.mg base 1 "_law_breaths" (fun a : (List (List Int)) × PySem.Str × (List Int) × Unit => a) (fun a : (List (List Int)) × PySem.Str × (List Int) × Unit => m_l_breaths a.1 a.2.1 a.2.2.1) ow) (c__law_put : Cal P w K Md.mg base 1 "_law_put" (fun a : PySem.Str × (List Int) × PySem.Str × Unit => a) (fun a : PySem.Str × (List Int) × PySem.Str × Unit => m_l_put a.1 a.2.1 a.2.2.1) fr) (b_len : Md.mg "len" = none) (b_range : Md.mg "range" = none) :
    Cal P w K Md.mg base 2 "_law_cleared" (fun a : (List (List Int)) × PySem.Str × Unit => a) (fun a : (List (List Int)) × PySem.Str × Unit => m_l_cleared a.1 a.2.1) fr :=
  cal_mk (N := N__law_cleared) (ps := ["_law_nexts_here", "_law_board"]) D S__law_cleared rfl (fun _ _ _ _ _ _ us hl => match us, hl with | [_, _], _ => rfl) fun a f cdv A' outer s H E hr => by
    obtain ⟨l_nexts_here, l_board, _⟩ := a
    have S := S__law_cleared
    have tk := takes_of (X := cxOf (L2.CX P w) P w K Md.mg base N__law_cleared "_law_cleared" (defScope s__law_cleared) f cdv A' outer s H E) (E := E) rfl rfl rfl rfl
    refine' ST.slots (ss' := [G.fr l_nexts_here, G.fr l_board, G.any, G.any, G.any]) (ST.cast ?h ?q) rfl
    (case h => exact (st_seq (s1_set 2 (xk_lst (xhk_nil (α := Int))) S.nd) fun (l_gone1 : (List Int)) => (st_seq (s1_for (S := (List Int)) (fun (s4 : (List Int)) => [G.fr l_nexts_here, G.fr l_board, G.ow s4, G.any, G.any]) l_gone1 (it_range1 (xa_cons (xi_bf call_len c_lenStr b_len PySem.boot_len (xa_cons (xi_fr 1) xa_nil)) xa_nil) b_range) (tg_name 3 S.nd) (fun s4 a5 => (sn_seq (s1_set 4 (xk_free (xk_cal c__law_chain hr tk (xa_cons (xi_fr 0) (xa_cons (xi_fr 1) (xa_cons (xi_fr 3) xa_nil))))) S.nd) fun (l_chain_here6 : (List Int)) => (sn_seq (s1_if (post := (fun (s10 : (List Int)) => [G.fr l_nexts_here, G.fr l_board, G.ow s10, G.fr a5, G.fr l_chain_here6])) (xt_w (xw_and (t_cmp op_ne (b_neS (α := PySem.Str) (β := PySem.Str)) (nomark _) (xi_ixStr (xi_fr 1) (xi_fr 3)) xi_str) (xw_and1 (t_cmp (op_eqD (hu64 hr)) (b_eqD (α := (List Int)) (β := (List Int))) (nomark _) (xi_cal c__law_breaths hr tk (xa_cons (xi_fr 0) (xa_cons (xi_fr 1) (xa_cons (xi_fr 4) xa_nil)))) (xi_of (xk_lst (xhk_nil (α := Int)))))))) (sn_seq (s1_append 2 (xk_fr 3)) fun l_gone11 => (sn_nil (s := l_gone11) (wk_eq (wk_eq (wk_eq (wk_eq (wk_eq wk_nil))))))) (sn_nil (s := s4) (wk_eq (wk_eq (wk_eq (wk_eq (wk_eq wk_nil))))))) fun s10 => (sn_nil (s := s10) (wk_eq (wk_eq (wk_eq (wk_any (wk_any wk_nil))))))))) (wk_eq (wk_eq (wk_eq (wk_eq (wk_eq wk_nil)))))) fun s4 => (st_ret (xk_imm (xi_cal c__law_put hr tk (xa_cons (xi_fr 1) (xa_cons (xi_ow 2) (xa_cons xi_str xa_nil)))))))))
    (case q => first | (unfold m_l_cleared; simp only [Res.okb, Res.bind_assoc]; done) | (unfold m_l_cleared; simp only [Res.okb, Res.bind_assoc]; rfl) | rfl)
def m_l_web (l_cell : Int) (l_most : Int) : Res (Int × (G.Tup (Int × Int))) :=
  (Res.bind (Res.bind (Res.bind (Res.bind (Res.bind (Res.bind (Res.bind (mulR l_most (l_most - (1 : Int))) fun v2 => (divR v2 (2 : Int))) fun v3 => (repR ((3 : Int) :: []) v3)) fun v4 => (catR (l_most :: []) v4)) fun v5 => (Res.ok (v5, ()))) fun v6 => (Res.ok (l_cell, v6))) fun a7 => (m_l_numbers a7.1 a7.2.1)) fun (l_digits1 : (List Int)) => (Res.bind (Res.bind (idx l_digits1 (0 : Int)) fun v9 => (Res.ok ((1 : Int) + v9))) fun (l_many8 : Int) => (Res.bind (Res.ok ([] : (List (Int × Int)))) fun (l_ties10 : (List (Int × Int))) => (Res.bind (Res.ok (1 : Int)) fun (l_at11 : Int) => (Res.bind (Res.bind (guardR (small62 l_many8) (Res.ok (rangeL 0 (l_many8).toNat))) fun v22 => (foldR (fun (s12 : Int × (List (Int × Int))) (a13 : Int) => (Res.bind (Res.bind (guardR (small62 (a13 + (1 : Int)) && small62 l_many8) (Res.ok (rangeL (a13 + (1 : Int)) (l_many8 - (a13 + (1 : Int))).toNat))) fun v21 => (foldR (fun (s14 : (List (Int × Int)) × Int) (a15 : Int) => (Res.bind (Res.bind (Res.bind (idx l_digits1 s14.2) fun v16 => (Res.ok (ScaEq.eq v16 (0 : Int)))) fun v19 => (if v19 then (Res.bind (appR s14.1 (a13, a15)) fun l_ties18 => (Res.ok l_ties18)) else (Res.ok s14.1))) fun s17 => (Res.bind (Res.ok (s14.2 + (1 : Int))) fun (l_at20 : Int) => (Res.ok (s17, l_at20))))) (s12.2, s12.1) v21)) fun s14 => (Res.ok (s14.2, s14.1)))) (l_at11, l_ties10) v22)) fun s12 => (Res.ok (l_many8, (⟨s12.2⟩ : (G.Tup (Int × Int))))))))))
abbrev s__law_web : Stmt := topS 79
abbrev N__law_web : List Str := ["_law_cell", "_law_most", "_law_digits", "_law_many", "_law_ties", "_law_at", "_law_one", "_law_other"]
theorem S__law_web : FnScope N__law_web ["_law_cell", "_law_most"] (defScope s__law_web) := ⟨rfl, rfl, rfl, by decide +kernel, rfl, by decide +kernel, by decide +kernel⟩
set_option maxHeartbeats 4000000 in
theorem cal__law_web {P : Program} {w : World} {K : Frag} {base : Heap} (D : IsDef K Md.mg "_law_web" s__law_web) (c__law_numbers : Cal P w K Md.mg base 1 "_law_numbers" (fun a : Int × (List Int) × Unit => a) (fun a : Int × (List Int) × Unit => m_l_numbers a.1 a.2.1) ow) (b_range : Md.mg "range" = none) (b_tuple : Md.mg "tuple" = none) :
    Cal P w K Md.mg base 2 "_law_web" (fun a : Int × Int × Unit => a) (fun a : Int × Int × Unit => m_l_web a.1 a.2.1) fr :=
  cal_mk (N := N__law_web) (ps := ["_law_cell", "_law_most"]) D S__law_web rfl (fun _ _ _ _ _ _ us hl => match us, hl with | [_, _], _ => rfl) fun a f cdv A' outer s H E hr => by
    obtain ⟨l_cell, l_most, _⟩ := a
    have S := S__law_web
    have tk := takes_of (X := cxOf (L2.CX P w) P w K Md.mg base N__law_web "_law_web" (defScope s__law_web) f cdv A' outer s H E) (E := E) rfl rfl rfl rfl
    refine' ST.slots (ss' := [G.fr l_cell, G.fr l_most, G.any, G.any, G.any, G.any, G.any, G.any]) (ST.cast ?h ?q) rfl
    (case h => exact (st_seq (s1_set 2 (xk_free (xk_cal c__law_numbers hr tk (xa_cons (xi_fr 0) (xa_cons (xi_of (xk_cat (xi_of (xk_lst (xak_imm (xh_cons (xi_fr 1) (xh_nil))))) (xi_of (xk_rep (xi_of (xk_lst (xak_imm (xh_cons xi_int (xh_nil))))) (x_bin op_fdivW b_div (x_bin op_mul b_mul (xi_fr 1) (x_bin op_sub b_sub (xi_fr 1) xi_int)) xi_int))))) xa_nil)))) S.nd) fun (l_digits1 : (List Int)) => (st_seq (s1_set 3 (xk_imm (x_bin op_add b_add xi_int (xi_ixL (xi_fr 2) xi_int))) S.nd) fun (l_many8 : Int) => (st_seq (s1_set 4 (xk_lst (xhk_nil (α := (Int × Int)))) S.nd) fun (l_ties10 : (List (Int × Int))) => (st_seq (s1_set 5 (xk_imm xi_int) S.nd) fun (l_at11 : Int) => (st_seq (s1_for (S := Int × (List (Int × Int))) (fun (s12 : Int × (List (Int × Int))) => [G.fr l_cell, G.fr l_most, G.fr l_digits1, G.fr l_many8, G.ow s12.2, G.fr s12.1, G.any, G.any]) (l_at11, l_ties10) (it_range1 (xa_cons (xi_fr 3) xa_nil) b_range) (tg_name 6 S.nd) (fun s12 a13 => (sn_seq (s1_for (S := (List (Int × Int)) × Int) (fun (s14 : (List (Int × Int)) × Int) => [G.fr l_cell, G.fr l_most, G.fr l_digits1, G.fr l_many8, G.ow s14.1, G.fr s14.2, G.fr a13, G.any]) (s12.2, s12.1) (it_range2 (xa_cons (x_bin op_add b_add (xi_fr 6) xi_int) (xa_cons (xi_fr 3) xa_nil)) b_range) (tg_name 7 S.nd) (fun s14 a15 => (sn_seq (s1_if (post := (fun (s17 : (List (Int × Int))) => [G.fr l_cell, G.fr l_most, G.fr l_digits1, G.fr l_many8, G.ow s17, G.fr s14.2, G.fr a13, G.fr a15])) (t_cmp op_eq (b_eqS (α := Int) (β := Int)) (nomark _) (xi_ixL (xi_fr 2) (xi_fr 5)) xi_int) (sn_seq (s1_append 4 (xk_imm (xi_pair (xa_cons (xi_fr 6) (xa_cons (xi_fr 7) xa_nil))))) fun l_ties18 => (sn_nil (s := l_ties18) (wk_eq (wk_eq (wk_eq (wk_eq (wk_eq (wk_eq (wk_eq (wk_eq wk_nil)))))))))) (sn_nil (s := s14.1) (wk_eq (wk_eq (wk_eq (wk_eq (wk_eq (wk_eq (wk_eq (wk_eq wk_nil)))))))))) fun s17 => (sn_seq (s1_set 5 (xk_imm (x_bin op_add b_add (xi_fr 5) xi_int)) S.nd) fun (l_at20 : Int) => (sn_nil (s := (s17, l_at20)) (wk_eq (wk_eq (wk_eq (wk_eq (wk_eq (wk_eq (wk_eq (wk_any wk_nil)))))))))))) (wk_eq (wk_eq (wk_eq (wk_eq (wk_eq (wk_eq (wk_eq (wk_eq wk_nil))))))))) fun s14 => (sn_nil (s := (s14.2, s14.1)) (wk_eq (wk_eq (wk_eq (wk_eq (wk_eq (wk_eq (wk_any (wk_eq wk_nil))))))))))) (wk_eq (wk_eq (wk_eq (wk_eq (wk_eq (wk_eq (wk_eq (wk_eq wk_nil))))))))) fun s12 => (st_ret (xk_imm (xi_pair (xa_cons (xi_fr 3) (xa_cons (xi_bt call_tuple_of c_tuple b_tuple (by decide +kernel) (xa_cons (xi_ow 4) xa_nil)) xa_nil)))))))))))
    (case q => first | (unfold m_l_web; simp only [Res.okb, Res.bind_assoc]; done) | (unfold m_l_web; simp only [Res.okb, Res.bind_assoc]; rfl) | rfl)
def m_l_drawn (l_script : G.Scr) (l_first : Int) : Res (G.T5 (Int × (G.Tup (Int × Int))) (G.T3 PySem.Str Bool Bool) PySem.Str (List Int) Int) :=
  (Res.bind (Res.bind (Res.bind (m_l_cell_at l_script l_first) fun v2 => (Res.ok (v2, ((6 : Int), ())))) fun a3 => (m_l_web a3.1 a3.2.1)) fun (l_web_here1 : (Int × (G.Tup (Int × Int)))) => (Res.bind (m_l_nexts l_web_here1) fun (l_nexts_here4 : (List (List Int))) => (Res.bind (Res.bind (Res.bind (Res.bind (Res.bind (m_l_cell_at l_script (l_first + (1 : Int))) fun v11 => (Res.bind (Res.bind (repR ((3 : Int) :: []) (l_web_here1.1)) fun v10 => (Res.ok (v10, ()))) fun v12 => (Res.ok (v11, v12)))) fun a13 => (m_l_numbers a13.1 a13.2.1)) fun v15 => (lcT (fun _ => Res.ok true) (fun a14 => (strIx (PySem.Str.ofString ".xo") a14)) v15)) fun v16 => (joinR (PySem.Str.ofString "") v16)) fun (l_signs5 : PySem.Str) => (Res.bind (m_l_cleared l_nexts_here4 l_signs5) fun (l_board17 : PySem.Str) => (Res.bind (Res.bind (Res.bind (mulS (PySem.Str.ofString ".") (l_web_here1.1)) fun v18 => (Res.ok (ScaEq.eq l_board17 v18))) fun v33 => (if v33 then (Res.bind (Res.bind (Res.bind (Res.bind (Res.bind (Res.bind (guardR (small62 (5 : Int)) (Res.ok (rangeL 0 ((5 : Int)).toNat))) fun v25 => (lcT (fun _ => Res.ok true) (fun a24 => (Res.ok (a24, (a24 + (1 : Int))))) v25)) fun v26 => (Res.ok (⟨v26⟩ : (G.Tup (Int × Int))))) fun v27 => (Res.ok (v27, ()))) fun v28 => (Res.ok ((6 : Int), v28))) fun v29 => (Res.ok (v29.1, v29.2.1))) fun (l_web_here20 : (Int × (G.Tup (Int × Int)))) => (Res.bind (Res.bind (catS (PySem.Str.ofString ".") (PySem.Str.ofString "xo")) fun v31 => (Res.bind (mulS (PySem.Str.ofString ".") (3 : Int)) fun v32 => (catS v31 v32))) fun (l_board30 : PySem.Str) => (Res.ok (l_web_here20, l_board30)))) else (Res.ok (l_web_here1, l_board17)))) fun s19 => (Res.bind (Res.bind (guardR (small62 (s19.1.1)) (Res.ok (rangeL 0 ((s19.1.1)).toNat))) fun v37 => (lcT (fun a35 => (Res.bind (strIx s19.2 a35) fun v36 => (Res.ok (!ScaEq.eq v36 (PySem.Str.ofString "."))))) (fun a35 => (Res.ok a35)) v37)) fun (l_stones34 : (List Int)) => (Res.bind (Res.bind (Res.bind (m_l_cell_at l_script (l_first + (2 : Int))) fun v39 => (Res.ok (v39, (((61 : Int) :: ((59 : Int) :: ((53 : Int) :: ((47 : Int) :: ((2 : Int) :: ((2 : Int) :: [])))))), ())))) fun a40 => (m_l_numbers a40.1 a40.2.1)) fun (l_digits38 : (List Int)) => (Res.bind (Res.bind (lcT (fun _ => Res.ok true) (fun a42 => (modR a42 (s19.1.1))) (cut l_digits38 (some (1 : Int)) (some (4 : Int)))) fun v43 => (guardR (decide (v43.length < 60)) (Res.ok (setI' v43)))) fun (l_field41 : (List Int)) => (Res.bind (Res.bind (Res.bind (Res.bind (idx l_digits38 (4 : Int)) fun v47 => (idx ((PySem.Str.ofString "free") :: ((PySem.Str.ofString "ko") :: [])) v47)) fun v51 => (Res.bind (Res.bind (Res.bind (Res.bind (idx l_digits38 (5 : Int)) fun v48 => (Res.ok (ScaEq.eq v48 (1 : Int)))) fun v49 => (Res.ok (v49, ()))) fun v50 => (Res.ok (true, v50))) fun v52 => (Res.ok (v51, v52)))) fun v53 => (Res.ok (⟨v53.1, v53.2.1, v53.2.2.1⟩ : (G.T3 PySem.Str Bool Bool)))) fun (l_rules44 : (G.T3 PySem.Str Bool Bool)) => (Res.bind (Res.bind (Res.bind (Res.bind (Res.bind (Res.bind (Res.bind (Res.bind (idx l_digits38 (0 : Int)) fun v54 => (modR v54 (l_stones34.length : Int))) fun v55 => (idx l_stones34 v55)) fun v56 => (Res.ok (v56, ()))) fun v57 => (Res.ok (l_field41, v57))) fun v58 => (Res.ok (s19.2, v58))) fun v59 => (Res.ok (l_rules44, v59))) fun v60 => (Res.ok (s19.1, v60))) fun v61 => (Res.ok (⟨v61.1, v61.2.1, v61.2.2.1, v61.2.2.2.1, v61.2.2.2.2.1⟩ : (G.T5 (Int × (G.Tup (Int × Int))) (G.T3 PySem.Str Bool Bool) PySem.Str (List Int) Int)))))))))))))
abbrev s__law_drawn : Stmt := topS 80
abbrev N__law_drawn : List Str := ["_law_script", "_law_first", "_law_web_here", "_law_nexts_here", "_law_signs", "_law_board", "_law_stones", "_law_digits", "_law_field", "_law_rules", "_law_k", "_law_digit"]
theorem S__law_drawn : FnScope N__law_drawn ["_law_script", "_law_first"] (defScope s__law_drawn) := ⟨rfl, rfl, rfl, by decide +kernel, rfl, by decide +kernel, by decide +kernel⟩
set_option maxHeartbeats 4000000 in
theorem cal__law_drawn {P : Program} {w : World} {K : Frag} {base : Heap} (D : IsDef K Md.mg "_law_drawn" s__law_drawn) (c__law_numbers : Cal P w K Md.mg base 1 "_law_numbers" (fun a : Int × (List Int) × Unit => a) (fun a : Int × (List Int) × Unit => m_l_numbers a.1 a.2.1) ow) (c__law_cell_at : Cal P w K Md.mg base 1 "_law_cell_at" (fun a : G.Scr × Int × Unit => a) (fun a : G.Scr × Int × Unit => m_l_cell_at a.1 a.2.1) fr) (c__law_nexts : Cal P w K Md.mg base 1 "_law_nexts" (fun a : (Int × (G.Tup (Int × Int))) × Unit => a) (fun a : (Int × (G.Tup (Int × Int))) × Unit => m_l_nexts a.1) fr) (c__law_cleared : Cal P w K Md.mg base 2 "_law_cleared" (fun a : (List (List Int)) × PySem.Str × Unit => a) (fun a : (List (List Int)) × PySem.Str × Unit => m_l_cleared a.1 a.2.1) fr) (c__law_web : Cal P w K Md.mg base 2 "_law_web" (fun a : Int × Int × Unit => a) (fun a : Int × Int × Unit => m_l_web a.1 a.2.1) fr) (b_range : Md.mg "range" = none) (b_tuple : Md.mg "tuple" = none) (b_sorted : Md.mg "sorted" = none) (b_set : Md.mg "set" = none) (b_len : Md.mg "len" = none) :
    Cal P w K Md.mg base 3 "_law_drawn" (fun a : G.Scr × Int × Unit => a) (fun a : G.Scr × Int × Unit => m_l_drawn a.1 a.2.1) fr :=
  cal_mk (N := N__law_drawn) (ps := ["_law_script", "_law_first"]) D S__law_drawn rfl (fun _ _ _ _ _ _ us hl => match us, hl with | [_, _], _ => rfl) fun a f cdv A' outer s H E hr => by
    obtain ⟨l_script, l_first, _⟩ := a
    have S := S__law_drawn
    have tk := takes_of (X := cxOf (L2.CX P w) P w K Md.mg base N__law_drawn "_law_drawn" (defScope s__law_drawn) f cdv A' outer s H E) (E := E) rfl rfl rfl rfl
    refine' ST.slots (ss' := [G.fr l_script, G.fr l_first, G.any, G.any, G.any, G.any, G.any, G.any, G.any, G.any, G.any, G.any]) (ST.cast ?h ?q) rfl
    (case h => exact (st_seq (s1_set 2 (xk_imm (xi_cal c__law_web hr tk (xa_cons (xi_cal c__law_cell_at hr tk (xa_cons (xi_fr 0) (xa_cons (xi_fr 1) xa_nil))) (xa_cons xi_int xa_nil)))) S.nd) fun (l_web_here1 : (Int × (G.Tup (Int × Int)))) => (st_seq (s1_set 3 (xk_calF c__law_nexts hr tk (xak_cons (xk_imm (xi_fr 2)) xak_nil)) S.nd) fun (l_nexts_here4 : (List (List Int))) => (st_seq (s1_set 4 (xk_imm (xi_join xi_str (xi_of (xk_lc (own := [("_law_digit", 11)]) (it_list (xk_free (xk_cal c__law_numbers hr tk (xa_cons (xi_cal c__law_cell_at hr tk (xa_cons (xi_fr 0) (xa_cons (x_bin op_add b_add (xi_fr 1) xi_int) xa_nil))) (xa_cons (xi_of (xk_rep (xi_of (xk_lst (xak_imm (xh_cons xi_int (xh_nil))))) (xi_p1 (xi_fr 2)))) xa_nil))))) (tc_name 11 S.nd) (fun a14 _ _ _ _ _ => (xk_imm (xi_ixStr xi_str (xi_fr 11)))) S.nd (blkOk_by (N := N__law_drawn) (sc := defScope s__law_drawn) (by decide +kernel)))))) S.nd) fun (l_signs5 : PySem.Str) => (st_seq (s1_set 5 (xk_imm (xi_cal c__law_cleared hr tk (xa_cons (xi_fr 3) (xa_cons (xi_fr 4) xa_nil)))) S.nd) fun (l_board17 : PySem.Str) => (st_seq (s1_if (post := (fun (s19 : (Int × (G.Tup (Int × Int))) × PySem.Str) => [G.fr l_script, G.fr l_first, G.fr s19.1, G.fr l_nexts_here4, G.fr l_signs5, G.fr s19.2, G.any, G.any, G.any, G.any, G.any, G.any])) (t_cmp op_eq (b_eqS (α := PySem.Str) (β := PySem.Str)) (nomark _) (xi_fr 5) (x_bin op_mulStr b_mulS xi_str (xi_p1 (xi_fr 2)))) (sn_seq (s1_set 2 (xk_imm (xi_pair (xa_cons xi_int (xa_cons (xi_bt call_tuple_of c_tuple b_tuple (by decide +kernel) (xa_cons (xi_of (xk_lc (own := [("_law_k", 10)]) (it_range1 (xa_cons xi_int xa_nil) b_range) (tc_name 10 S.nd) (fun a24 _ _ _ _ _ => (xk_imm (xi_pair (xa_cons (xi_fr 10) (xa_cons (x_bin op_add b_add (xi_fr 10) xi_int) xa_nil))))) S.nd (blkOk_by (N := N__law_drawn) (sc := defScope s__law_drawn) (by decide +kernel)))) xa_nil)) xa_nil)))) S.nd) fun (l_web_here20 : (Int × (G.Tup (Int × Int)))) => (sn_seq (s1_set 5 (xk_imm (x_bin op_add_str b_catS (x_bin op_add_str b_catS xi_str xi_str) (x_bin op_mulStr b_mulS xi_str xi_int))) S.nd) fun (l_board30 : PySem.Str) => (sn_nil (s := (l_web_here20, l_board30)) (wk_eq (wk_eq (wk_eq (wk_eq (wk_eq (wk_eq (wk_eq (wk_eq (wk_eq (wk_eq (wk_eq (wk_eq wk_nil))))))))))))))) (sn_nil (s := (l_web_here1, l_board17)) (wk_eq (wk_eq (wk_eq (wk_eq (wk_eq (wk_eq (wk_eq (wk_eq (wk_eq (wk_eq (wk_eq (wk_eq wk_nil)))))))))))))) fun s19 => (st_seq (s1_lcIf 6 (own := [("_law_k", 10)]) (it_range1 (xa_cons (xi_p1 (xi_fr 2)) xa_nil) b_range) (tc_name 10 S.nd) (fun a35 _ _ _ _ _ => (t_cmp op_ne (b_neS (α := PySem.Str) (β := PySem.Str)) (nomark _) (xi_ixStr (xi_fr 5) (xi_fr 10)) xi_str)) (fun a35 _ _ _ _ _ => (xk_fr 10)) S.nd (blkOk_by (N := N__law_drawn) (sc := defScope s__law_drawn) (by decide +kernel)) (sw_true rfl rfl rfl (by decide +kernel))) fun (l_stones34 : (List Int)) => (st_seq (s1_set 7 (xk_free (xk_cal c__law_numbers hr tk (xa_cons (xi_cal c__law_cell_at hr tk (xa_cons (xi_fr 0) (xa_cons (x_bin op_add b_add (xi_fr 1) xi_int) xa_nil))) (xa_cons (xi_of (xk_lst (xak_imm (xh_cons xi_int (xh_cons xi_int (xh_cons xi_int (xh_cons xi_int (xh_cons xi_int (xh_cons xi_int (xh_nil)))))))))) xa_nil)))) S.nd) fun (l_digits38 : (List Int)) => (st_seq (s1_set 8 (xk_free (xk_sortedSet (xa_cons (xi_of (xk_lc (own := [("_law_digit", 11)]) (it_list (xk_free (xk_slice (xi_fr 7) (xo_some xi_int) (xo_some xi_int)))) (tc_name 11 S.nd) (fun a42 _ _ _ _ _ => (xk_imm (x_bin op_mod b_mod (xi_fr 11) (xi_p1 (xi_fr 2))))) S.nd (blkOk_by (N := N__law_drawn) (sc := defScope s__law_drawn) (by decide +kernel)))) xa_nil) b_sorted b_set)) S.nd) fun (l_field41 : (List Int)) => (st_seq (s1_set 9 (xk_imm (xi_triple (xa_cons (xi_ixL (xi_of (xk_lst (xak_imm (xh_cons xi_str (xh_cons xi_str (xh_nil)))))) (xi_ixL (xi_fr 7) xi_int)) (xa_cons xi_bl (xa_cons (x_cmp op_eq (b_eqS (α := Int) (β := Int)) (nomark _) (xi_ixL (xi_fr 7) xi_int) xi_int) xa_nil))))) S.nd) fun (l_rules44 : (G.T3 PySem.Str Bool Bool)) => (st_ret (xk_t5d (xak_cons (xk_imm (xi_fr 2)) (xak_cons (xk_imm (xi_fr 9)) (xak_cons (xk_imm (xi_fr 5)) (xak_cons (xk_fr 8) (xak_cons (xk_imm (xi_ixL (xi_ow 6) (x_bin op_mod b_mod (xi_ixL (xi_fr 7) xi_int) (xi_bf call_len c_lenL b_len PySem.boot_len (xa_cons (xi_ow 6) xa_nil))))) xak_nil)))))))))))))))))
    (case q => first | (unfold m_l_drawn; simp only [Res.okb, Res.bind_assoc]; done) | (unfold m_l_drawn; simp only [Res.okb, Res.bind_assoc]; rfl) | rfl)
def m_l_marks (l_e : G.Exn) : Res Bool :=
  (Res.bind (isE2s [it_tab_Again, it_tab_NoBoard, it_tab_NoCrossing, it_tab_NoField, it_tab_NoName, it_tab_NoText, it_tab_TooMany] l_e) fun v2 => (if v2 then (Res.ok false) else (Res.bind (isE2 it_tab_NoFight l_e) fun v1 => (if v1 then (isE2 it_tab_ValueError l_e) else (Res.ok false)))))
abbrev s__law_marks : Stmt := topS 81
abbrev N__law_marks : List Str := ["_law_e"]
theorem S__law_marks : FnScope N__law_marks ["_law_e"] (defScope s__law_marks) := ⟨rfl, rfl, rfl, by decide +kernel, rfl, by decide +kernel, by decide +kernel⟩
set_option maxHeartbeats 4000000 in
theorem cal__law_marks {P : Program} {w : World} {K : Frag} {base : Heap} (D : IsDef K Md.mg "_law_marks" s__law_marks) (b_isinstance : Md.mg "isinstance" = none) (it_TooMany : ITab K Md.mg "TooMany" it_tab_TooMany) (it_NoText : ITab K Md.mg "NoText" it_tab_NoText) (it_NoName : ITab K Md.mg "NoName" it_tab_NoName) (it_NoField : ITab K Md.mg "NoField" it_tab_NoField) (it_NoCrossing : ITab K Md.mg "NoCrossing" it_tab_NoCrossing) (it_NoBoard : ITab K Md.mg "NoBoard" it_tab_NoBoard) (it_Again : ITab K Md.mg "Again" it_tab_Again) (it_NoFight : ITab K Md.mg "NoFight" it_tab_NoFight) (it_ValueError : ITab K Md.mg "ValueError" it_tab_ValueError) :
    Cal P w K Md.mg base 1 "_law_marks" (fun a : G.Exn × Unit => a) (fun a : G.Exn × Unit => m_l_marks a.1) fr :=
  cal_mk (N := N__law_marks) (ps := ["_law_e"]) D S__law_marks rfl (fun _ _ _ _ _ _ us hl => match us, hl with | [_], _ => rfl) fun a f cdv A' outer s H E hr => by
    obtain ⟨l_e, _⟩ := a
    have S := S__law_marks
    have tk := takes_of (X := cxOf (L2.CX P w) P w K Md.mg base N__law_marks "_law_marks" (defScope s__law_marks) f cdv A' outer s H E) (E := E) rfl rfl rfl rfl
    refine' ST.slots (ss' := [G.fr l_e]) (ST.cast ?h ?q) rfl
    (case h => exact (st_guard (xt_val (xi_isVs (xi_fr 0) (ITs.cons it_Again rfl (by decide) rfl (ITs.cons it_NoBoard rfl (by decide) rfl (ITs.cons it_NoCrossing rfl (by decide) rfl (ITs.cons it_NoField rfl (by decide) rfl (ITs.cons it_NoName rfl (by decide) rfl (ITs.cons it_NoText rfl (by decide) rfl (ITs.cons it_TooMany rfl (by decide) rfl ITs.nil))))))) b_isinstance)) (st_ret (xk_imm xi_bl)) (st_ret (xk_imm (xi_and (xi_isV (xi_fr 0) it_NoFight b_isinstance) (xi_one (xi_isV (xi_fr 0) it_ValueError b_isinstance)))))))
    (case q => first | (unfold m_l_marks; simp only [Res.okb, Res.bind_assoc]; done) | (unfold m_l_marks; simp only [Res.okb, Res.bind_assoc]; rfl) | rfl)
set_option maxHeartbeats 4000000 in
theorem cal__law_marks_77 {P : Program} {w : World} {K : Frag} {base : Heap} (D : IsDef K Md.mg "_law_marks" s__law_marks) (b_isinstance : Md.mg "isinstance" = none) (it_TooMany : ITab K Md.mg "TooMany" it_tab_TooMany) (it_NoText : ITab K Md.mg "NoText" it_tab_NoText) (it_NoName : ITab K Md.mg "NoName" it_tab_NoName) (it_NoField : ITab K Md.mg "NoField" it_tab_NoField) (it_NoCrossing : ITab K Md.mg "NoCrossing" it_tab_NoCrossing) (it_NoBoard : ITab K Md.mg "NoBoard" it_tab_NoBoard) (it_Again : ITab K Md.mg "Again" it_tab_Again) (it_NoFight : ITab K Md.mg "NoFight" it_tab_NoFight) (it_ValueError : ITab K Md.mg "ValueError" it_tab_ValueError) :
    CalQ P w K Md.mg base 1 "_law_marks" (fun a : G.Exn × Unit => m_l_marks a.1) fr :=
  cal_mkQ (N := N__law_marks) (ps := ["_law_e"]) D S__law_marks rfl (fun _ _ _ _ _ _ us hl => match us, hl with | [_], _ => rfl) fun a f cdv A' outer s H E hr => by
    obtain ⟨l_e, _⟩ := a
    have S := S__law_marks
    refine' ST.slots (ss' := [G.fr l_e]) (ST.cast ?h ?q) rfl
    (case h => exact (st_guard (xt_val (xi_isVs (xi_fr 0) (ITs.cons it_Again rfl (by decide) rfl (ITs.cons it_NoBoard rfl (by decide) rfl (ITs.cons it_NoCrossing rfl (by decide) rfl (ITs.cons it_NoField rfl (by decide) rfl (ITs.cons it_NoName rfl (by decide) rfl (ITs.cons it_NoText rfl (by decide) rfl (ITs.cons it_TooMany rfl (by decide) rfl ITs.nil))))))) b_isinstance)) (st_ret (xk_imm xi_bl)) (st_ret (xk_imm (xi_and (xi_isV (xi_fr 0) it_NoFight b_isinstance) (xi_one (xi_isV (xi_fr 0) it_ValueError b_isinstance)))))))
    (case q => first | (unfold m_l_marks; simp only [Res.okb, Res.bind_assoc]; done) | (unfold m_l_marks; simp only [Res.okb, Res.bind_assoc]; rfl) | rfl)
def m_l_no_together (l_web_here : (Int × (G.Tup (Int × Int)))) (l_things : (List G.Dy)) (l_one : G.Dy) (l_other : G.Dy) : Res Bool :=
  (Res.tail (S := Unit) (R := Bool) (catchR ((Res.bind (Res.bind (Res.bind (Res.bind (idx l_things (0 : Int)) fun v5 => (Res.bind (Res.bind (idx l_things (1 : Int)) fun v3 => (Res.bind (Res.bind (idx l_things (2 : Int)) fun v2 => (Res.ok (v2, (l_one, (l_other, ((50 : Int), ())))))) fun v4 => (Res.ok (v3, v4)))) fun v6 => (Res.ok (v5, v6)))) fun v7 => (Res.ok (l_web_here, v7))) fun a8 => (m_live_together a8.1 a8.2.1 a8.2.2.1 a8.2.2.2.1 a8.2.2.2.2.1 a8.2.2.2.2.2.1 a8.2.2.2.2.2.2.1)) fun _ => (Res.ok (Out.nx ()))) : Res (Out (Unit) (Empty) Bool)) [(ct_tab_RingError, fun (x : Exn) => (Res.bind (m_l_marks x) fun v9 => (Res.ok (Out.rt v9))))]) fun s1 => (Res.ok false))
abbrev s__law_no_together : Stmt := topS 82
abbrev N__law_no_together : List Str := ["_law_web_here", "_law_things", "_law_one", "_law_other", "_law_e"]
theorem S__law_no_together : FnScope N__law_no_together ["_law_web_here", "_law_things", "_law_one", "_law_other"] (defScope s__law_no_together) := ⟨rfl, rfl, rfl, by decide +kernel, rfl, by decide +kernel, by decide +kernel⟩
set_option maxHeartbeats 4000000 in
theorem cal__law_no_together {P : Program} {w : World} {K : Frag} {base : Heap} (D : IsDef K Md.mg "_law_no_together" s__law_no_together) (c_live_together : Cal P w K Md.mg base 7 "live_together" (fun a : (Int × (G.Tup (Int × Int))) × G.Dy × G.Dy × G.Dy × G.Dy × G.Dy × Int × Unit => a) (fun a : (Int × (G.Tup (Int × Int))) × G.Dy × G.Dy × G.Dy × G.Dy × G.Dy × Int × Unit => m_live_together a.1 a.2.1 a.2.2.1 a.2.2.2.1 a.2.2.2.2.1 a.2.2.2.2.2.1 a.2.2.2.2.2.2.1) fr) (c__law_marks_77 : CalQ P w K Md.mg base 1 "_law_marks" (fun a : G.Exn × Unit => m_l_marks a.1) fr) (ct_RingError : CTab K Md.mg "RingError" ct_tab_RingError) :
    Cal P w K Md.mg base 8 "_law_no_together" (fun a : (Int × (G.Tup (Int × Int))) × (List G.Dy) × G.Dy × G.Dy × Unit => a) (fun a : (Int × (G.Tup (Int × Int))) × (List G.Dy) × G.Dy × G.Dy × Unit => m_l_no_together a.1 a.2.1 a.2.2.1 a.2.2.2.1) fr :=
  cal_mk (N := N__law_no_together) (ps := ["_law_web_here", "_law_things", "_law_one", "_law_other"]) D S__law_no_together rfl (fun _ _ _ _ _ _ us hl => match us, hl with | [_, _, _, _], _ => rfl) fun a f cdv A' outer s H E hr => by
    obtain ⟨l_web_here, l_things, l_one, l_other, _⟩ := a
    have S := S__law_no_together
    have tk := takes_of (X := cxOf (L2.CX P w) P w K Md.mg base N__law_no_together "_law_no_together" (defScope s__law_no_together) f cdv A' outer s H E) (E := E) rfl rfl rfl rfl
    refine' ST.slots (ss' := [G.fr l_web_here, G.fr l_things, G.fr l_one, G.fr l_other, G.any]) (ST.cast ?h ?q) rfl
    (case h => exact (st_b1 (S := Unit) (R := Bool) (pl := fun x => nomatch x) (b1_ado (post := (fun (s1 : Unit) => [G.fr l_web_here, G.fr l_things, G.fr l_one, G.fr l_other, G.any])) 4 tk (fun W' pn xe tk => (eb_do (s0 := ()) (xk_imm (xi_cal c_live_together hr tk (xa_cons (xi_fr 0) (xa_cons (xi_ixL (xi_fr 1) xi_int) (xa_cons (xi_ixL (xi_fr 1) xi_int) (xa_cons (xi_ixL (xi_fr 1) xi_int) (xa_cons (xi_fr 2) (xa_cons (xi_fr 3) (xa_cons xi_int xa_nil))))))))) (wk_eq (wk_eq (wk_eq (wk_eq (wk_eq wk_nil))))))) ct_RingError (fun x a pn => (have tk : ∀ {X : L2.Cx}, L2.Takes X G.wNo := takes_no; (sb_ret (xk_imm (xi_calQ c__law_marks_77 (roomQ hr) tk (xa_cons (xi_fr 4) xa_nil)))))) (fun _ => rfl) (fun s => by first | exact rfl | exact (nomatch s)) (hN := S.nd)) fun s1 => (st_ret (xk_imm xi_bl))))
    (case q => first | (unfold m_l_no_together; simp only [Res.okb, Res.bind_assoc]; done) | (unfold m_l_no_together; simp only [Res.okb, Res.bind_assoc]; rfl) | rfl)
def m_l_no_ladder (l_web_here : (Int × (G.Tup (Int × Int)))) (l_things : (List G.Dy)) : Res Bool :=
  (Res.tail (S := Unit) (R := Bool) (catchR ((Res.bind (Res.bind (Res.bind (Res.bind (idx l_things (0 : Int)) fun v5 => (Res.bind (Res.bind (idx l_things (1 : Int)) fun v3 => (Res.bind (Res.bind (idx l_things (3 : Int)) fun v2 => (Res.ok (v2, ((50 : Int), ())))) fun v4 => (Res.ok (v3, v4)))) fun v6 => (Res.ok (v5, v6)))) fun v7 => (Res.ok (l_web_here, v7))) fun a8 => (m_ladder a8.1 a8.2.1 a8.2.2.1 a8.2.2.2.1 a8.2.2.2.2.1)) fun _ => (Res.ok (Out.nx ()))) : Res (Out (Unit) (Empty) Bool)) [(ct_tab_RingError, fun (x : Exn) => (Res.bind (m_l_marks x) fun v9 => (Res.ok (Out.rt v9))))]) fun s1 => (Res.ok false))
abbrev s__law_no_ladder : Stmt := topS 83
abbrev N__law_no_ladder : List Str := ["_law_web_here", "_law_things", "_law_e"]
theorem S__law_no_ladder : FnScope N__law_no_ladder ["_law_web_here", "_law_things"] (defScope s__law_no_ladder) := ⟨rfl, rfl, rfl, by decide +kernel, rfl, by decide +kernel, by decide +kernel⟩
set_option maxHeartbeats 4000000 in
theorem cal__law_no_ladder {P : Program} {w : World} {K : Frag} {base : Heap} (D : IsDef K Md.mg "_law_no_ladder" s__law_no_ladder) (c_ladder : Cal P w K Md.mg base 7 "ladder" (fun a : (Int × (G.Tup (Int × Int))) × G.Dy × G.Dy × G.Dy × Int × Unit => a) (fun a : (Int × (G.Tup (Int × Int))) × G.Dy × G.Dy × G.Dy × Int × Unit => m_ladder a.1 a.2.1 a.2.2.1 a.2.2.2.1 a.2.2.2.2.1) fr) (c__law_marks_77 : CalQ P w K Md.mg base 1 "_law_marks" (fun a : G.Exn × Unit => m_l_marks a.1) fr) (ct_RingError : CTab K Md.mg "RingError" ct_tab_RingError) :
    Cal P w K Md.mg base 8 "_law_no_ladder" (fun a : (Int × (G.Tup (Int × Int))) × (List G.Dy) × Unit => a) (fun a : (Int × (G.Tup (Int × Int))) × (List G.Dy) × Unit => m_l_no_ladder a.1 a.2.1) fr :=
  cal_mk (N := N__law_no_ladder) (ps := ["_law_web_here", "_law_things"]) D S__law_no_ladder rfl (fun _ _ _ _ _ _ us hl => match us, hl with | [_, _], _ => rfl) fun a f cdv A' outer s H E hr => by
    obtain ⟨l_web_here, l_things, _⟩ := a
    have S := S__law_no_ladder
    have tk := takes_of (X := cxOf (L2.CX P w) P w K Md.mg base N__law_no_ladder "_law_no_ladder" (defScope s__law_no_ladder) f cdv A' outer s H E) (E := E) rfl rfl rfl rfl
    refine' ST.slots (ss' := [G.fr l_web_here, G.fr l_things, G.any]) (ST.cast ?h ?q) rfl
    (case h => exact (st_b1 (S := Unit) (R := Bool) (pl := fun x => nomatch x) (b1_ado (post := (fun (s1 : Unit) => [G.fr l_web_here, G.fr l_things, G.any])) 2 tk (fun W' pn xe tk => (eb_do (s0 := ()) (xk_imm (xi_cal c_ladder hr tk (xa_cons (xi_fr 0) (xa_cons (xi_ixL (xi_fr 1) xi_int) (xa_cons (xi_ixL (xi_fr 1) xi_int) (xa_cons (xi_ixL (xi_fr 1) xi_int) (xa_cons xi_int xa_nil))))))) (wk_eq (wk_eq (wk_eq wk_nil))))) ct_RingError (fun x a pn => (have tk : ∀ {X : L2.Cx}, L2.Takes X G.wNo := takes_no; (sb_ret (xk_imm (xi_calQ c__law_marks_77 (roomQ hr) tk (xa_cons (xi_fr 2) xa_nil)))))) (fun _ => rfl) (fun s => by first | exact rfl | exact (nomatch s)) (hN := S.nd)) fun s1 => (st_ret (xk_imm xi_bl))))
    (case q => first | (unfold m_l_no_ladder; simp only [Res.okb, Res.bind_assoc]; done) | (unfold m_l_no_ladder; simp only [Res.okb, Res.bind_assoc]; rfl) | rfl)
def m_l_bad (l_web_here : (Int × (G.Tup (Int × Int)))) (l_things : (List G.Dy)) (l_way : Int) (l_number : Int) : Res G.Dy :=
  (Res.bind (guardR (decide (l_things.length = 4)) (Res.ok l_things)) fun p1 => (if (ScaEq.eq l_way (0 : Int)) then (Res.bind (Res.bind (Res.bind (Res.bind (Res.bind (Res.bind (Res.bind (dyIx (p1.headD default) (2 : Int)) fun v3 => (Res.ok (v3, ()))) fun v4 => (Res.ok (true, v4))) fun v5 => (Res.ok ((PySem.Str.ofString "whole"), v5))) fun v6 => (Res.ok (⟨v6.1, v6.2.1, v6.2.2.1⟩ : (G.T3 PySem.Str Bool G.Dy)))) fun v7 => (Res.ok (ToDy.dy (v7 : (G.T3 PySem.Str Bool G.Dy))))) fun v27 => (Res.bind (Res.bind (Res.bind (Res.bind (Res.bind (dyIx (p1.headD default) (0 : Int)) fun v10 => (Res.bind (Res.bind (Res.bind (dyIx (p1.headD default) (2 : Int)) fun v8 => (Res.ok (v8, ()))) fun v9 => (Res.ok (false, v9))) fun v11 => (Res.ok (v10, v11)))) fun v12 => (Res.ok (⟨v12.1, v12.2.1, v12.2.2.1⟩ : (G.T3 G.Dy Bool G.Dy)))) fun v13 => (Res.ok (ToDy.dy (v13 : (G.T3 G.Dy Bool G.Dy))))) fun v25 => (Res.bind (Res.bind (Res.bind (Res.bind (Res.bind (dyIx (p1.headD default) (0 : Int)) fun v16 => (Res.bind (Res.bind (Res.bind (dyIx (p1.headD default) (2 : Int)) fun v14 => (Res.ok (v14, ()))) fun v15 => (Res.ok ((1 : Int), v15))) fun v17 => (Res.ok (v16, v17)))) fun v18 => (Res.ok (⟨v18.1, v18.2.1, v18.2.2.1⟩ : (G.T3 G.Dy Int G.Dy)))) fun v19 => (Res.ok (ToDy.dy (v19 : (G.T3 G.Dy Int G.Dy))))) fun v23 => (Res.bind (Res.bind (Res.bind (Res.bind (dyT (p1.headD default)) fun v20 => (Res.ok v20.l)) fun v21 => (Res.ok (ToDy.dy (v21 : (List G.Dy))))) fun v22 => (Res.ok (v22 :: ((ToDy.dy (() : Unit)) :: [])))) fun v24 => (Res.ok (v23 :: v24)))) fun v26 => (Res.ok (v25 :: v26)))) fun v28 => (Res.ok (v27 :: v28)))) fun (l_some2 : (List G.Dy)) => (Res.bind (catR l_some2 ((ToDy.dy ((⟨(PySem.Str.ofString "so"), true, true⟩ : (G.T3 PySem.Str Bool Bool)) : (G.T3 PySem.Str Bool Bool))) :: ((ToDy.dy (((PySem.Str.ofString "ko"), true) : (PySem.Str × Bool))) :: ((ToDy.dy ((⟨((ToDy.dy ((PySem.Str.ofString "ko") : PySem.Str)) :: ((ToDy.dy (true : Bool)) :: ((ToDy.dy (true : Bool)) :: ((ToDy.dy (true : Bool)) :: []))))⟩ : (G.Tup G.Dy)) : (G.Tup G.Dy))) :: ((ToDy.dy ((⟨(PySem.Str.ofString "free"), true, ()⟩ : (G.T3 PySem.Str Bool Unit)) : (G.T3 PySem.Str Bool Unit))) :: []))))) fun v31 => (Res.bind (modR l_number (9 : Int)) fun v32 => (idx v31 v32)))) else (if (ScaEq.eq l_way (1 : Int)) then (Res.bind (Res.bind (Res.bind (Res.bind (dyS (p1.tail.headD default)) fun v34 => (catS v34 (PySem.Str.ofString "."))) fun v35 => (Res.ok (ToDy.dy (v35 : PySem.Str)))) fun v60 => (Res.bind (Res.bind (Res.bind (Res.bind (dyS (p1.tail.headD default)) fun v36 => (cutStr v36 none (some (-(1 : Int))))) fun v37 => (Res.ok (ToDy.dy (v37 : PySem.Str)))) fun v58 => (Res.bind (Res.bind (Res.bind (Res.bind (Res.bind (Res.bind (dyS (p1.tail.headD default)) fun v38 => (listS v38)) fun v39 => (Res.ok (ToDy.dy (v39 : (List PySem.Str))))) fun v54 => (Res.bind (Res.bind (Res.bind (Res.bind (Res.bind (dyS (p1.tail.headD default)) fun v42 => (cutStr v42 none (some (-(1 : Int))))) fun v43 => (catS v43 (PySem.Str.ofString "X"))) fun v44 => (Res.ok (ToDy.dy (v44 : PySem.Str)))) fun v52 => (Res.bind (Res.bind (Res.bind (Res.bind (Res.bind (mulS (PySem.Str.ofString "x") (l_web_here.1)) fun v45 => (Res.ok (ToDy.dy (v45 : PySem.Str)))) fun v48 => (Res.bind (Res.bind (Res.bind (mulS (PySem.Str.ofString "o") (l_web_here.1)) fun v46 => (Res.ok (ToDy.dy (v46 : PySem.Str)))) fun v47 => (Res.ok (v47 :: []))) fun v49 => (Res.ok (v48 :: v49)))) fun v50 => (Res.ok ((ToDy.dy (((PySem.Str.ofString "x") :: []) : (List PySem.Str))) :: v50))) fun v51 => (Res.ok ((ToDy.dy ((5 : Int) : Int)) :: v51))) fun v53 => (Res.ok (v52 :: v53)))) fun v55 => (Res.ok (v54 :: v55)))) fun v56 => (Res.ok ((ToDy.dy (() : Unit)) :: v56))) fun v57 => (Res.ok ((ToDy.dy ((PySem.Str.ofString "") : PySem.Str)) :: v57))) fun v59 => (Res.ok (v58 :: v59)))) fun v61 => (Res.ok (v60 :: v61)))) fun (l_some33 : (List G.Dy)) => (Res.bind (modR l_number (10 : Int)) fun v63 => (idx l_some33 v63))) else (if (ScaEq.eq l_way (2 : Int)) then (Res.bind (Res.bind (Res.bind (Res.bind (Res.bind (Res.bind (dyL (p1.tail.tail.headD default)) fun v65 => (Res.ok (⟨v65⟩ : (G.Tup G.Dy)))) fun v66 => (Res.ok (ToDy.dy (v66 : (G.Tup G.Dy))))) fun v81 => (Res.bind (Res.bind (Res.bind (Res.bind (dyL (p1.tail.tail.headD default)) fun v67 => (Res.bind (dyL (p1.tail.tail.headD default)) fun v68 => (catR v67 v68))) fun v69 => (Res.ok (ToDy.dy (v69 : (List G.Dy))))) fun v79 => (Res.bind (Res.bind (Res.bind (Res.bind (Res.bind (Res.bind (Res.bind (Res.bind (Res.bind (Res.bind (dyL (p1.tail.tail.headD default)) fun v70 => (catR v70 ((ToDy.dy ((l_web_here.1) : Int)) :: []))) fun v71 => (Res.ok (ToDy.dy (v71 : (List G.Dy))))) fun v72 => (Res.ok (v72 :: ((ToDy.dy ((() :: []) : (List Unit))) :: [])))) fun v73 => (Res.ok ((ToDy.dy ((PySem.Str.ofString "0") : PySem.Str)) :: v73))) fun v74 => (Res.ok (Dy.dic :: v74))) fun v75 => (Res.ok ((ToDy.dy (((PySem.Str.ofString "0") :: []) : (List PySem.Str))) :: v75))) fun v76 => (Res.ok ((ToDy.dy ((true :: []) : (List Bool))) :: v76))) fun v77 => (Res.ok ((ToDy.dy (((-(1 : Int)) :: []) : (List Int))) :: v77))) fun v78 => (Res.ok ((ToDy.dy (((l_web_here.1) :: []) : (List Int))) :: v78))) fun v80 => (Res.ok (v79 :: v80)))) fun v82 => (Res.ok (v81 :: v82)))) fun v83 => (Res.ok ((ToDy.dy (() : Unit)) :: v83))) fun v84 => (Res.ok ((ToDy.dy (([] : (List G.Dy)) : (List G.Dy))) :: v84))) fun (l_some64 : (List G.Dy)) => (Res.bind (modR l_number (12 : Int)) fun v86 => (idx l_some64 v86))) else (Res.bind (Res.bind (guardR (small62 (l_web_here.1)) (Res.ok (rangeL 0 ((l_web_here.1)).toNat))) fun v90 => (lcT (fun a88 => (Res.bind (dyIx (p1.tail.headD default) a88) fun v89 => (eqDy v89 (ToDy.dy ((PySem.Str.ofString ".") : PySem.Str))))) (fun a88 => (Res.ok a88)) v90)) fun (l_empty87 : (List Int)) => (Res.bind (Res.bind (Res.bind (idx l_empty87 (0 : Int)) fun v109 => (Res.ok (ToDy.dy (v109 : Int)))) fun v121 => (Res.bind (Res.bind (Res.bind (Res.bind (Res.bind (Res.bind (Res.bind (Res.bind (Res.bind (Res.bind (Res.bind (Res.bind (dyI (p1.tail.tail.tail.headD default)) fun v110 => (strI v110)) fun v111 => (Res.ok (ToDy.dy (v111 : PySem.Str)))) fun v112 => (Res.ok (v112 :: []))) fun v113 => (Res.ok ((ToDy.dy (((10 : Int) ^ (9 : Int).toNat) : Int)) :: v113))) fun v114 => (Res.ok ((ToDy.dy ((⟨((p1.tail.tail.tail.headD default) :: [])⟩ : (G.Tup G.Dy)) : (G.Tup G.Dy))) :: v114))) fun v115 => (Res.ok ((ToDy.dy (((p1.tail.tail.tail.headD default) :: []) : (List G.Dy))) :: v115))) fun v116 => (Res.ok ((ToDy.dy ((PySem.Str.ofString "0") : PySem.Str)) :: v116))) fun v117 => (Res.ok ((ToDy.dy (true : Bool)) :: v117))) fun v118 => (Res.ok ((ToDy.dy (() : Unit)) :: v118))) fun v119 => (Res.ok ((ToDy.dy ((-(1 : Int)) : Int)) :: v119))) fun v120 => (Res.ok ((ToDy.dy ((l_web_here.1) : Int)) :: v120))) fun v122 => (Res.ok (v121 :: v122)))) fun v123 => (Res.bind (modR l_number (10 : Int)) fun v124 => (idx v123 v124))))))))
abbrev s__law_bad : Stmt := topS 84
abbrev N__law_bad : List Str := ["_law_web_here", "_law_things", "_law_way", "_law_number", "_law_rules", "_law_board", "_law_field", "_law_target", "_law_some", "_law_empty", "_law_k"]
theorem S__law_bad : FnScope N__law_bad ["_law_web_here", "_law_things", "_law_way", "_law_number"] (defScope s__law_bad) := ⟨rfl, rfl, rfl, by decide +kernel, rfl, by decide +kernel, by decide +kernel⟩
set_option maxHeartbeats 4000000 in
theorem cal__law_bad {P : Program} {w : World} {K : Frag} {base : Heap} (D : IsDef K Md.mg "_law_bad" s__law_bad) (b_list : Md.mg "list" = none) (b_tuple : Md.mg "tuple" = none) (b_range : Md.mg "range" = none) (b_str : Md.mg "str" = none) :
    Cal P w K Md.mg base 1 "_law_bad" (fun a : (Int × (G.Tup (Int × Int))) × (List G.Dy) × Int × Int × Unit => a) (fun a : (Int × (G.Tup (Int × Int))) × (List G.Dy) × Int × Int × Unit => m_l_bad a.1 a.2.1 a.2.2.1 a.2.2.2.1) fr :=
  cal_mk (N := N__law_bad) (ps := ["_law_web_here", "_law_things", "_law_way", "_law_number"]) D S__law_bad rfl (fun _ _ _ _ _ _ us hl => match us, hl with | [_, _, _, _], _ => rfl) fun a f cdv A' outer s H E hr => by
    obtain ⟨l_web_here, l_things, l_way, l_number, _⟩ := a
    have S := S__law_bad
    have tk := takes_of (X := cxOf (L2.CX P w) P w K Md.mg base N__law_bad "_law_bad" (defScope s__law_bad) f cdv A' outer s H E) (E := E) rfl rfl rfl rfl
    refine' ST.slots (ss' := [G.fr l_web_here, G.fr l_things, G.fr l_way, G.fr l_number, G.any, G.any, G.any, G.any, G.any, G.any, G.any]) (ST.cast ?h ?q) rfl
    (case h => exact (st_seq (s1_unl (xk_fr 1) (tl_cons (tg_name 4 S.nd) (tl_cons (tg_name 5 S.nd) (tl_cons (tg_name 6 S.nd) (tl_cons (tg_name 7 S.nd) tl_nil))))) fun p1 => (ST.slots (ss' := [G.fr l_web_here, G.fr l_things, G.fr l_way, G.fr l_number, G.fr (p1.headD default), G.fr (p1.tail.headD default), G.fr (p1.tail.tail.headD default), G.fr (p1.tail.tail.tail.headD default), G.any, G.any, G.any]) (st_guard (t_cmp op_eq (b_eqS (α := Int) (β := Int)) (nomark _) (xi_fr 2) xi_int) (st_seq (s1_set 8 (xk_free (xk_lst (xhk_cons (xk_dy (α := (G.T3 PySem.Str Bool G.Dy)) (xk_triple (xak_cons (xk_imm xi_str) (xak_cons (xk_imm xi_bl) (xak_cons (xk_ixD (xk_fr 4) xi_int) xak_nil))))) (xhk_cons (xk_dy (α := (G.T3 G.Dy Bool G.Dy)) (xk_triple (xak_cons (xk_ixD (xk_fr 4) xi_int) (xak_cons (xk_imm xi_bl) (xak_cons (xk_ixD (xk_fr 4) xi_int) xak_nil))))) (xhk_cons (xk_dy (α := (G.T3 G.Dy Int G.Dy)) (xk_triple (xak_cons (xk_ixD (xk_fr 4) xi_int) (xak_cons (xk_imm xi_int) (xak_cons (xk_ixD (xk_fr 4) xi_int) xak_nil))))) (xhk_cons (xk_dy (α := (List G.Dy)) (xk_free (xk_listTk (xk_cast cT (xk_fr 4)) b_list))) (xhk_cons (xk_dy (α := Unit) (xk_imm xi_non)) (xhk_nil)))))))) S.nd) fun (l_some2 : (List G.Dy)) => (ST.slots (ss' := [G.fr l_web_here, G.fr l_things, G.fr l_way, G.fr l_number, G.fr (p1.headD default), G.fr (p1.tail.headD default), G.fr (p1.tail.tail.headD default), G.fr (p1.tail.tail.tail.headD default), G.fr l_some2, G.any, G.any]) (st_ret (xk_ixL (xk_free (xk_catL (xl_fr (xk_fr 8)) (xl_own (xk_lst (xhk_cons (xk_dy (α := (G.T3 PySem.Str Bool Bool)) (xk_imm (xi_triple (xa_cons xi_str (xa_cons xi_bl (xa_cons xi_bl xa_nil)))))) (xhk_cons (xk_dy (α := (PySem.Str × Bool)) (xk_imm (xi_pair (xa_cons xi_str (xa_cons xi_bl xa_nil))))) (xhk_cons (xk_dy (α := (G.Tup G.Dy)) (xk_tupK (xhk_cons (xk_dy (α := PySem.Str) (xk_imm xi_str)) (xhk_cons (xk_dy (α := Bool) (xk_imm xi_bl)) (xhk_cons (xk_dy (α := Bool) (xk_imm xi_bl)) (xhk_cons (xk_dy (α := Bool) (xk_imm xi_bl)) (xhk_nil))))))) (xhk_cons (xk_dy (α := (G.T3 PySem.Str Bool Unit)) (xk_imm (xi_triple (xa_cons xi_str (xa_cons xi_bl (xa_cons xi_non xa_nil)))))) (xhk_nil))))))))) (x_bin op_mod b_mod (xi_fr 3) xi_int))) rfl)) (st_guard (t_cmp op_eq (b_eqS (α := Int) (β := Int)) (nomark _) (xi_fr 2) xi_int) (st_seq (s1_set 8 (xk_free (xk_lst (xhk_cons (xk_dy (α := PySem.Str) (xk_imm (x_bin op_add_str b_catS (xi_cast cS (xi_fr 5)) xi_str))) (xhk_cons (xk_dy (α := PySem.Str) (xk_imm (xi_sliceStr (xi_cast cS (xi_fr 5)) xo_none (xo_some (xi_neg xi_int))))) (xhk_cons (xk_dy (α := PySem.Str) (xk_imm xi_str)) (xhk_cons (xk_dy (α := Unit) (xk_imm xi_non)) (xhk_cons (xk_dy (α := (List PySem.Str)) (xk_free (xk_listS (xi_cast cS (xi_fr 5)) b_list))) (xhk_cons (xk_dy (α := PySem.Str) (xk_imm (x_bin op_add_str b_catS (xi_sliceStr (xi_cast cS (xi_fr 5)) xo_none (xo_some (xi_neg xi_int))) xi_str))) (xhk_cons (xk_dy (α := Int) (xk_imm xi_int)) (xhk_cons (xk_dy (α := (List PySem.Str)) (xk_free (xk_lst (xak_imm (xh_cons xi_str (xh_nil)))))) (xhk_cons (xk_dy (α := PySem.Str) (xk_imm (x_bin op_mulStr b_mulS xi_str (xi_p1 (xi_fr 0))))) (xhk_cons (xk_dy (α := PySem.Str) (xk_imm (x_bin op_mulStr b_mulS xi_str (xi_p1 (xi_fr 0))))) (xhk_nil))))))))))))) S.nd) fun (l_some33 : (List G.Dy)) => (ST.slots (ss' := [G.fr l_web_here, G.fr l_things, G.fr l_way, G.fr l_number, G.fr (p1.headD default), G.fr (p1.tail.headD default), G.fr (p1.tail.tail.headD default), G.fr (p1.tail.tail.tail.headD default), G.fr l_some33, G.any, G.any]) (st_ret (xk_ixL (xk_fr 8) (x_bin op_mod b_mod (xi_fr 3) xi_int))) rfl)) (st_guard (t_cmp op_eq (b_eqS (α := Int) (β := Int)) (nomark _) (xi_fr 2) xi_int) (st_seq (s1_set 8 (xk_free (xk_lst (xhk_cons (xk_dy (α := (List G.Dy)) (xk_free (xk_lst (xhk_nil (α := G.Dy))))) (xhk_cons (xk_dy (α := Unit) (xk_imm xi_non)) (xhk_cons (xk_dy (α := (G.Tup G.Dy)) (xk_tupleL (xl_fr (xk_cast cL (xk_fr 6))) b_tuple)) (xhk_cons (xk_dy (α := (List G.Dy)) (xk_free (xk_catL (xl_fr (xk_cast cL (xk_fr 6))) (xl_fr (xk_cast cL (xk_fr 6)))))) (xhk_cons (xk_dy (α := (List Int)) (xk_free (xk_lst (xak_imm (xh_cons (xi_p1 (xi_fr 0)) (xh_nil)))))) (xhk_cons (xk_dy (α := (List Int)) (xk_free (xk_lst (xak_imm (xh_cons (xi_neg xi_int) (xh_nil)))))) (xhk_cons (xk_dy (α := (List Bool)) (xk_free (xk_lst (xak_imm (xh_cons xi_bl (xh_nil)))))) (xhk_cons (xk_dy (α := (List PySem.Str)) (xk_free (xk_lst (xak_imm (xh_cons xi_str (xh_nil)))))) (xhk_cons xk_dic0 (xhk_cons (xk_dy (α := PySem.Str) (xk_imm xi_str)) (xhk_cons (xk_dy (α := (List G.Dy)) (xk_free (xk_catL (xl_fr (xk_cast cL (xk_fr 6))) (xl_own (xk_lst (xhk_cons (xk_dy (α := Int) (xk_imm (xi_p1 (xi_fr 0)))) (xhk_nil))))))) (xhk_cons (xk_dy (α := (List Unit)) (xk_free (xk_lst (xak_imm (xh_cons xi_non (xh_nil)))))) (xhk_nil))))))))))))))) S.nd) fun (l_some64 : (List G.Dy)) => (ST.slots (ss' := [G.fr l_web_here, G.fr l_things, G.fr l_way, G.fr l_number, G.fr (p1.headD default), G.fr (p1.tail.headD default), G.fr (p1.tail.tail.headD default), G.fr (p1.tail.tail.tail.headD default), G.fr l_some64, G.any, G.any]) (st_ret (xk_ixL (xk_fr 8) (x_bin op_mod b_mod (xi_fr 3) xi_int))) rfl)) (st_seq (s1_lcIf 9 (own := [("_law_k", 10)]) (it_range1 (xa_cons (xi_p1 (xi_fr 0)) xa_nil) b_range) (tc_name 10 S.nd) (fun a88 _ _ _ _ _ => (t_cmp (op_eqDy (hu64 hr)) b_eqDy (nomark _) (xi_ixD (xi_fr 5) (xi_fr 10)) (xi_dy (α := PySem.Str) xi_str))) (fun a88 _ _ _ _ _ => (xk_fr 10)) S.nd (blkOk_by (N := N__law_bad) (sc := defScope s__law_bad) (by decide +kernel)) (sw_true rfl rfl rfl (by decide +kernel))) fun (l_empty87 : (List Int)) => (ST.slots (ss' := [G.fr l_web_here, G.fr l_things, G.fr l_way, G.fr l_number, G.fr (p1.headD default), G.fr (p1.tail.headD default), G.fr (p1.tail.tail.headD default), G.fr (p1.tail.tail.tail.headD default), G.any, G.ow l_empty87, G.any]) (st_ret (xk_ixL (xk_free (xk_lst (xhk_cons (xk_dy (α := Int) (xk_imm (xi_ixL (xi_ow 9) xi_int))) (xhk_cons (xk_dy (α := Int) (xk_imm (xi_p1 (xi_fr 0)))) (xhk_cons (xk_dy (α := Int) (xk_imm (xi_neg xi_int))) (xhk_cons (xk_dy (α := Unit) (xk_imm xi_non)) (xhk_cons (xk_dy (α := Bool) (xk_imm xi_bl)) (xhk_cons (xk_dy (α := PySem.Str) (xk_imm xi_str)) (xhk_cons (xk_dy (α := (List G.Dy)) (xk_free (xk_lst (xhk_cons (xk_fr 7) (xhk_nil))))) (xhk_cons (xk_dy (α := (G.Tup G.Dy)) (xk_tupK (xhk_cons (xk_fr 7) (xhk_nil)))) (xhk_cons (xk_dy (α := Int) (xk_imm (xi_pow (by unfold CPow; decide)))) (xhk_cons (xk_dy (α := PySem.Str) (xk_imm (xi_bt call_str_int c_str b_str (by decide +kernel) (xa_cons (xi_cast cI (xi_fr 7)) xa_nil)))) (xhk_nil))))))))))))) (x_bin op_mod b_mod (xi_fr 3) xi_int))) rfl))))) rfl)))
    (case q => first | (unfold m_l_bad; simp only [Res.okb, Res.bind_assoc]; done) | (unfold m_l_bad; simp only [Res.okb, Res.bind_assoc]; rfl) | rfl)
def m_l_unsound (l_web_here : (Int × (G.Tup (Int × Int)))) (l_things : (List G.Dy)) : Res Bool :=
  (Res.bind (guardR (decide (l_things.length = 4)) (Res.ok l_things)) fun p1 => (Res.bind (Res.bind (Res.bind (Res.bind (catT (l_web_here.2) (⟨(((l_web_here.1), ((l_web_here.1) + (1 : Int))) :: [])⟩ : (G.Tup (Int × Int)))) fun v3 => (Res.ok (v3, ()))) fun v4 => (Res.ok (((l_web_here.1) + (2 : Int)), v4))) fun v5 => (Res.ok (v5.1, v5.2.1))) fun (l_more2 : (Int × (G.Tup (Int × Int)))) => (Res.bind (Res.bind (Res.bind (Res.bind (Res.bind (dyI (p1.tail.tail.tail.headD default)) fun v7 => (dyIx (p1.tail.headD default) v7)) fun v8 => (eqDy v8 (ToDy.dy ((PySem.Str.ofString "x") : PySem.Str)))) fun v9 => (Res.ok (if v9 then (1 : Int) else 0))) fun v10 => (Res.ok ((l_web_here.1) + v10))) fun (l_other6 : Int) => (Res.bind (Res.bind (Res.bind (Res.bind (Res.bind (dyS (p1.tail.headD default)) fun v12 => (catS v12 (PySem.Str.ofString "xo"))) fun v13 => (Res.ok (ToDy.dy (v13 : PySem.Str)))) fun v14 => (Res.ok (v14 :: ((p1.tail.tail.headD default) :: ((p1.tail.tail.tail.headD default) :: []))))) fun v15 => (Res.ok ((p1.headD default) :: v15))) fun (l_bent11 : (List G.Dy)) => (Res.bind (Res.bind (Res.bind (m_l_no_together l_more2 l_bent11 (p1.tail.tail.tail.headD default) (ToDy.dy (l_other6 : Int))) fun v16 => (Res.ok (!v16))) fun v18 => (if v18 then (Res.ok true) else (Res.bind (m_l_no_together l_more2 l_bent11 (ToDy.dy (l_other6 : Int)) (p1.tail.tail.tail.headD default)) fun v17 => (Res.ok (!v17))))) fun v19 => (if v19 then (Res.ok false) else (m_l_no_ladder l_more2 l_bent11)))))))
abbrev s__law_unsound : Stmt := topS 85
abbrev N__law_unsound : List Str := ["_law_web_here", "_law_things", "_law_rules", "_law_board", "_law_field", "_law_target", "_law_more", "_law_other", "_law_bent"]
theorem S__law_unsound : FnScope N__law_unsound ["_law_web_here", "_law_things"] (defScope s__law_unsound) := ⟨rfl, rfl, rfl, by decide +kernel, rfl, by decide +kernel, by decide +kernel⟩
set_option maxHeartbeats 4000000 in
theorem cal__law_unsound {P : Program} {w : World} {K : Frag} {base : Heap} (D : IsDef K Md.mg "_law_unsound" s__law_unsound) (c__law_no_together : Cal P w K Md.mg base 8 "_law_no_together" (fun a : (Int × (G.Tup (Int × Int))) × (List G.Dy) × G.Dy × G.Dy × Unit => a) (fun a : (Int × (G.Tup (Int × Int))) × (List G.Dy) × G.Dy × G.Dy × Unit => m_l_no_together a.1 a.2.1 a.2.2.1 a.2.2.2.1) fr) (c__law_no_ladder : Cal P w K Md.mg base 8 "_law_no_ladder" (fun a : (Int × (G.Tup (Int × Int))) × (List G.Dy) × Unit => a) (fun a : (Int × (G.Tup (Int × Int))) × (List G.Dy) × Unit => m_l_no_ladder a.1 a.2.1) fr) (b_int : Md.mg "int" = none) :
    Cal P w K Md.mg base 9 "_law_unsound" (fun a : (Int × (G.Tup (Int × Int))) × (List G.Dy) × Unit => a) (fun a : (Int × (G.Tup (Int × Int))) × (List G.Dy) × Unit => m_l_unsound a.1 a.2.1) fr :=
  cal_mk (N := N__law_unsound) (ps := ["_law_web_here", "_law_things"]) D S__law_unsound rfl (fun _ _ _ _ _ _ us hl => match us, hl with | [_, _], _ => rfl) fun a f cdv A' outer s H E hr => by
    obtain ⟨l_web_here, l_things, _⟩ := a
    have S := S__law_unsound
    have tk := takes_of (X := cxOf (L2.CX P w) P w K Md.mg base N__law_unsound "_law_unsound" (defScope s__law_unsound) f cdv A' outer s H E) (E := E) rfl rfl rfl rfl
    refine' ST.slots (ss' := [G.fr l_web_here, G.fr l_things, G.any, G.any, G.any, G.any, G.any, G.any, G.any]) (ST.cast ?h ?q) rfl
    (case h => exact (st_seq (s1_unl (xk_fr 1) (tl_cons (tg_name 2 S.nd) (tl_cons (tg_name 3 S.nd) (tl_cons (tg_name 4 S.nd) (tl_cons (tg_name 5 S.nd) tl_nil))))) fun p1 => (st_seq (s1_set 6 (xk_imm (xi_pair (xa_cons (x_bin op_add b_add (xi_p1 (xi_fr 0)) xi_int) (xa_cons (x_bin op_catA b_catTu (xi_p2 (xi_fr 0)) (xi_tup (xh_cons (xi_pair (xa_cons (xi_p1 (xi_fr 0)) (xa_cons (x_bin op_add b_add (xi_p1 (xi_fr 0)) xi_int) xa_nil))) (xh_nil)))) xa_nil)))) S.nd) fun (l_more2 : (Int × (G.Tup (Int × Int)))) => (st_seq (s1_set 7 (xk_imm (x_bin op_add b_add (xi_p1 (xi_fr 0)) (xi_bt call_int1 c_intB b_int (by decide +kernel) (xa_cons (x_cmp (op_eqDy (hu64 hr)) b_eqDy (nomark _) (xi_ixD (xi_fr 3) (xi_cast cI (xi_fr 5))) (xi_dy (α := PySem.Str) xi_str)) xa_nil)))) S.nd) fun (l_other6 : Int) => (st_seq (s1_set 8 (xk_free (xk_lst (xhk_cons (xk_fr 2) (xhk_cons (xk_dy (α := PySem.Str) (xk_imm (x_bin op_add_str b_catS (xi_cast cS (xi_fr 3)) xi_str))) (xhk_cons (xk_fr 4) (xhk_cons (xk_fr 5) (xhk_nil))))))) S.nd) fun (l_bent11 : (List G.Dy)) => (st_guard (xt_w (xw_or (xt_not (xt_val (xi_cal c__law_no_together hr tk (xa_cons (xi_fr 6) (xa_cons (xi_fr 8) (xa_cons (xi_fr 5) (xa_cons (xi_dy (α := Int) (xi_fr 7)) xa_nil))))))) (xw_or1 (xt_not (xt_val (xi_cal c__law_no_together hr tk (xa_cons (xi_fr 6) (xa_cons (xi_fr 8) (xa_cons (xi_dy (α := Int) (xi_fr 7)) (xa_cons (xi_fr 5) xa_nil)))))))))) (st_ret (xk_imm xi_bl)) (st_ret (xk_imm (xi_cal c__law_no_ladder hr tk (xa_cons (xi_fr 6) (xa_cons (xi_fr 8) xa_nil)))))))))))
    (case q => first | (unfold m_l_unsound; simp only [Res.okb, Res.bind_assoc]; done) | (unfold m_l_unsound; simp only [Res.okb, Res.bind_assoc]; rfl) | rfl)
def m_law (l_script : G.Scr) : Res Bool :=
  (Res.bind (m_l_drawn l_script (0 : Int)) fun (p1 : (G.T5 (Int × (G.Tup (Int × Int))) (G.T3 PySem.Str Bool Bool) PySem.Str (List Int) Int)) => (Res.bind (Res.ok ((ToDy.dy (p1.b : (G.T3 PySem.Str Bool Bool))) :: ((ToDy.dy (p1.c : PySem.Str)) :: ((ToDy.dy (p1.d : (List Int))) :: ((ToDy.dy (p1.e : Int)) :: []))))) fun (l_things2 : (List G.Dy)) => (Res.bind (Res.bind (guardR (small62 (p1.a.1)) (Res.ok (rangeL 0 ((p1.a.1)).toNat))) fun v7 => (lcT (fun a4 => (Res.bind (strIx p1.c a4) fun v5 => (Res.bind (strIx p1.c p1.e) fun v6 => (Res.ok (ScaEq.eq v5 v6))))) (fun a4 => (Res.ok a4)) v7)) fun (l_same3 : (List Int)) => (Res.bind (Res.bind (Res.bind (guardR (small62 (p1.a.1)) (Res.ok (rangeL 0 ((p1.a.1)).toNat))) fun v14 => (lcT (fun a9 => (Res.bind (strIx p1.c a9) fun v12 => (Res.bind (Res.bind (Res.bind (strIx p1.c p1.e) fun v10 => (Res.ok (v10 :: []))) fun v11 => (Res.ok ((PySem.Str.ofString ".") :: v11))) fun v13 => (Res.ok (!decide (v12 ∈ v13)))))) (fun a9 => (Res.ok a9)) v14)) fun v15 => (catR v15 l_same3)) fun (l_others8 : (List Int)) => (Res.bind (Res.bind (m_l_unsound p1.a l_things2) fun v16 => (Res.ok (!v16))) fun v91 => (if v91 then (Res.ok false) else (Res.tail (S := Unit) (R := Bool) (Res.bind (Res.bind (Res.bind (m_l_cell_at l_script (3 : Int)) fun v20 => (Res.ok (v20 :: []))) fun v21 => (catR v21 (cut l_script.ns (some (4 : Int)) (some (24 : Int))))) fun v90 => (loopO (fun (s22 : Unit) (a23 : Int) => ((Res.bind (Res.bind (m_l_numbers a23 ((4 : Int) :: ((360 : Int) :: ((61 : Int) :: [])))) fun v25 => (guardR (decide (v25.length = 3)) (Res.ok v25))) fun p24 => (Res.bind (Res.ok l_things2) fun (l_bent26 : (List G.Dy)) => (Res.bind (Res.bind (m_l_bad p1.a l_things2 (p24.headD default) (p24.tail.headD default)) fun v28 => (setR l_bent26 (p24.headD default) v28)) fun (l_bent27 : (List G.Dy)) => (Res.next (S := Unit) (Res.bind (if (!ScaEq.eq (p24.headD default) (2 : Int)) then (Res.bind (m_l_no_ladder p1.a l_bent27) fun v29 => (Res.ok (!v29))) else (Res.ok false)) fun v31 => (if v31 then (Res.ok (Out.rt false)) else (Res.ok (Out.nx ())))) fun s30 => (Res.bind (idx l_others8 (0 : Int)) fun (l_other32 : Int) => (Res.bind (Res.bind (if (decide ((p24.headD default) < (3 : Int))) then (Res.bind (strIx p1.c l_other32) fun v33 => (Res.bind (strIx p1.c p1.e) fun v34 => (Res.ok (ScaEq.eq v33 v34)))) else (Res.ok false)) fun v37 => (if v37 then (Res.bind (Res.ok (-(1 : Int))) fun (l_other36 : Int) => (Res.ok l_other36)) else (Res.ok l_other32))) fun s35 => (Res.next (S := Unit) (Res.bind (Res.bind (Res.bind (Res.bind (Res.bind (idx l_bent27 (3 : Int)) fun v58 => (Res.ok (v58, (s35, ())))) fun v59 => (Res.ok (v59.1, v59.2.1))) fun v60 => (Res.ok (ToDy.dy (v60 : (G.Dy × Int))))) fun v66 => (Res.bind (Res.bind (Res.bind (Res.bind (Res.bind (Res.bind (idx l_bent27 (3 : Int)) fun v61 => (Res.ok (v61, ()))) fun v62 => (Res.ok (s35, v62))) fun v63 => (Res.ok (v63.1, v63.2.1))) fun v64 => (Res.ok (ToDy.dy (v64 : (Int × G.Dy))))) fun v65 => (Res.ok (v65 :: []))) fun v67 => (Res.ok (v66 :: v67)))) fun v79 => (loopO (fun (s68 : Unit) (a69 : G.Dy) => ((Res.next (S := Unit) (Res.bind (Res.bind (Res.bind (Res.bind (Res.bind (Res.bind (dyIx a69 (0 : Int)) fun v71 => (Res.bind (Res.bind (dyIx a69 (1 : Int)) fun v70 => (Res.ok (v70, ()))) fun v72 => (Res.ok (v71, v72)))) fun v73 => (Res.ok (l_bent27, v73))) fun v74 => (Res.ok (p1.a, v74))) fun a75 => (m_l_no_together a75.1 a75.2.1 a75.2.2.1 a75.2.2.2.1)) fun v76 => (Res.ok (!v76))) fun v78 => (if v78 then (Res.ok (Out.rt false)) else (Res.ok (Out.nx ())))) fun s77 => (Res.ok (Out.nx ()))) : Res (Out (Unit) (Unit) Bool))) () v79)) fun s68 => (Res.next (S := Unit) (Res.bind (Res.bind (Res.bind (Res.bind (Res.bind (Res.bind (Res.bind (Res.bind (Res.bind (modR (p24.tail.tail.headD default) (l_same3.length : Int)) fun v80 => (idx l_same3 v80)) fun v81 => (Res.ok (ToDy.dy (v81 : Int)))) fun v82 => (Res.ok (v82, ()))) fun v83 => (Res.ok ((ToDy.dy (p1.e : Int)), v83))) fun v84 => (Res.ok (l_things2, v84))) fun v85 => (Res.ok (p1.a, v85))) fun a86 => (m_l_no_together a86.1 a86.2.1 a86.2.2.1 a86.2.2.2.1)) fun v87 => (Res.ok (!v87))) fun v89 => (if v89 then (Res.ok (Out.rt false)) else (Res.ok (Out.nx ())))) fun s88 => (Res.ok (Out.nx ())))))))))) : Res (Out (Unit) (Unit) Bool))) () v90)) fun s22 => (Res.ok true))))))))
abbrev s_law : Stmt := topS 86
abbrev N_law : List Str := ["_law_script", "_law_web_here", "_law_rules", "_law_board", "_law_field", "_law_target", "_law_things", "_law_same", "_law_others", "_law_cell", "_law_way", "_law_number", "_law_place", "_law_bent", "_law_other", "_law_pair", "_law_k"]
theorem S_law : FnScope N_law ["_law_script"] (defScope s_law) := ⟨rfl, rfl, rfl, by decide +kernel, rfl, by decide +kernel, by decide +kernel⟩
set_option maxHeartbeats 4000000 in
theorem fn_law {P : Program} {w : World} {K : Frag} {base : Heap} {f : Addr} {fd : FuncData} (F : Fun K "law" "law" s_law f fd) (c__law_numbers : Cal P w K Md.mg base 1 "_law_numbers" (fun a : Int × (List Int) × Unit => a) (fun a : Int × (List Int) × Unit => m_l_numbers a.1 a.2.1) ow) (c__law_cell_at : Cal P w K Md.mg base 1 "_law_cell_at" (fun a : G.Scr × Int × Unit => a) (fun a : G.Scr × Int × Unit => m_l_cell_at a.1 a.2.1) fr) (c__law_drawn : Cal P w K Md.mg base 3 "_law_drawn" (fun a : G.Scr × Int × Unit => a) (fun a : G.Scr × Int × Unit => m_l_drawn a.1 a.2.1) fr) (c__law_no_together : Cal P w K Md.mg base 8 "_law_no_together" (fun a : (Int × (G.Tup (Int × Int))) × (List G.Dy) × G.Dy × G.Dy × Unit => a) (fun a : (Int × (G.Tup (Int × Int))) × (List G.Dy) × G.Dy × G.Dy × Unit => m_l_no_together a.1 a.2.1 a.2.2.1 a.2.2.2.1) fr) (c__law_no_ladder : Cal P w K Md.mg base 8 "_law_no_ladder" (fun a : (Int × (G.Tup (Int × Int))) × (List G.Dy) × Unit => a) (fun a : (Int × (G.Tup (Int × Int))) × (List G.Dy) × Unit => m_l_no_ladder a.1 a.2.1) fr) (c__law_bad : Cal P w K Md.mg base 1 "_law_bad" (fun a : (Int × (G.Tup (Int × Int))) × (List G.Dy) × Int × Int × Unit => a) (fun a : (Int × (G.Tup (Int × Int))) × (List G.Dy) × Int × Int × Unit => m_l_bad a.1 a.2.1 a.2.2.1 a.2.2.2.1) fr) (c__law_unsound : Cal P w K Md.mg base 9 "_law_unsound" (fun a : (Int × (G.Tup (Int × Int))) × (List G.Dy) × Unit => a) (fun a : (Int × (G.Tup (Int × Int))) × (List G.Dy) × Unit => m_l_unsound a.1 a.2.1) fr) (b_range : Md.mg "range" = none) (b_list : Md.mg "list" = none) (b_len : Md.mg "len" = none) :
    FnOk P w K Md.mg base (L2.CX P w) 10 f fd ["_law_script"] (spOf K Md.mg (fun a : G.Scr × Unit => m_law a.1) fr) :=
  fn_ok (N := N_law) F S_law rfl fun a cdv A' outer s H E hr => by
    obtain ⟨l_script, _⟩ := a
    have S := S_law
    have tk := takes_of (X := cxOf (L2.CX P w) P w K Md.mg base N_law "law" (defScope s_law) f cdv A' outer s H E) (E := E) rfl rfl rfl rfl
    refine' ST.slots (ss' := [G.fr l_script, G.any, G.any, G.any, G.any, G.any, G.any, G.any, G.any, G.any, G.any, G.any, G.any, G.any, G.any, G.any, G.any]) (ST.cast ?h ?q) rfl
    (case h => exact (st_seq (s1_asg (xk_calF c__law_drawn hr tk (xak_cons (xk_fr 0) (xak_cons (xk_imm xi_int) xak_nil))) (tg_five (tg_name 1 S.nd) (tg_name 2 S.nd) (tg_name 3 S.nd) (tg_name 4 S.nd) (tg_name 5 S.nd))) fun (p1 : (G.T5 (Int × (G.Tup (Int × Int))) (G.T3 PySem.Str Bool Bool) PySem.Str (List Int) Int)) => (ST.slots (ss' := [G.fr l_script, G.fr p1.a, G.fr p1.b, G.fr p1.c, G.fr p1.d, G.fr p1.e, G.any, G.any, G.any, G.any, G.any, G.any, G.any, G.any, G.any, G.any, G.any]) (st_seq (s1_set 6 (xk_free (xk_lst (xhk_cons (xk_dy (α := (G.T3 PySem.Str Bool Bool)) (xk_fr 2)) (xhk_cons (xk_dy (α := PySem.Str) (xk_fr 3)) (xhk_cons (xk_dy (α := (List Int)) (xk_fr 4)) (xhk_cons (xk_dy (α := Int) (xk_fr 5)) (xhk_nil))))))) S.nd) fun (l_things2 : (List G.Dy)) => (ST.slots (ss' := [G.fr l_script, G.fr p1.a, G.fr p1.b, G.fr p1.c, G.fr p1.d, G.fr p1.e, G.fr l_things2, G.any, G.any, G.any, G.any, G.any, G.any, G.any, G.any, G.any, G.any]) (st_seq (s1_lcIf 7 (own := [("_law_k", 16)]) (it_range1 (xa_cons (xi_p1 (xi_fr 1)) xa_nil) b_range) (tc_name 16 S.nd) (fun a4 _ _ _ _ _ => (t_cmp op_eq (b_eqS (α := PySem.Str) (β := PySem.Str)) (nomark _) (xi_ixStr (xi_fr 3) (xi_fr 16)) (xi_ixStr (xi_fr 3) (xi_fr 5)))) (fun a4 _ _ _ _ _ => (xk_fr 16)) S.nd (blkOk_by (N := N_law) (sc := defScope s_law) (by decide +kernel)) (sw_true rfl rfl rfl (by decide +kernel))) fun (l_same3 : (List Int)) => (ST.slots (ss' := [G.fr l_script, G.fr p1.a, G.fr p1.b, G.fr p1.c, G.fr p1.d, G.fr p1.e, G.fr l_things2, G.ow l_same3, G.any, G.any, G.any, G.any, G.any, G.any, G.any, G.any, G.any]) (st_seq (s1_set 8 (xk_free (xk_cat (xi_of (xk_lcIf (own := [("_law_k", 16)]) (it_range1 (xa_cons (xi_p1 (xi_fr 1)) xa_nil) b_range) (tc_name 16 S.nd) (fun a9 _ _ _ _ _ => (t_cmp op_notIn_seq (b_ninL (α := PySem.Str)) (by with_unfolding_all rfl) (xi_ixStr (xi_fr 3) (xi_fr 16)) (xi_of (xk_lst (xak_imm (xh_cons xi_str (xh_cons (xi_ixStr (xi_fr 3) (xi_fr 5)) (xh_nil)))))))) (fun a9 _ _ _ _ _ => (xk_fr 16)) S.nd (blkOk_by (N := N_law) (sc := defScope s_law) (by decide +kernel)))) (xi_ow 7))) S.nd) fun (l_others8 : (List Int)) => (ST.slots (ss' := [G.fr l_script, G.fr p1.a, G.fr p1.b, G.fr p1.c, G.fr p1.d, G.fr p1.e, G.fr l_things2, G.ow l_same3, G.fr l_others8, G.any, G.any, G.any, G.any, G.any, G.any, G.any, G.any]) (st_guard (xt_not (xt_val (xi_cal c__law_unsound hr tk (xa_cons (xi_fr 1) (xa_cons (xi_fr 6) xa_nil))))) (st_ret (xk_imm xi_bl)) (st_b1 (S := Unit) (R := Bool) (pl := fun x => nomatch x) (b1_for (S := Unit) (R := Bool) (fun (s22 : Unit) => [G.fr l_script, G.fr p1.a, G.fr p1.b, G.fr p1.c, G.fr p1.d, G.fr p1.e, G.fr l_things2, G.ow l_same3, G.fr l_others8, G.any, G.any, G.any, G.any, G.any, G.any, G.any, G.any]) () (it_list (xk_free (xk_cat (xi_of (xk_lst (xak_imm (xh_cons (xi_cal c__law_cell_at hr tk (xa_cons (xi_fr 0) (xa_cons xi_int xa_nil))) (xh_nil))))) (xi_of (xk_sliceS (xi_fr 0) (xo_some xi_int) (xo_some xi_int)))))) (tg_name 9 S.nd) (fun s22 a23 => (sb_seq (s1_unl (xk_free (xk_cal c__law_numbers hr tk (xa_cons (xi_fr 9) (xa_cons (xi_of (xk_lst (xak_imm (xh_cons xi_int (xh_cons xi_int (xh_cons xi_int (xh_nil))))))) xa_nil)))) (tl_cons (tg_name 10 S.nd) (tl_cons (tg_name 11 S.nd) (tl_cons (tg_name 12 S.nd) tl_nil)))) fun p24 => (SB.slots (ss' := [G.fr l_script, G.fr p1.a, G.fr p1.b, G.fr p1.c, G.fr p1.d, G.fr p1.e, G.fr l_things2, G.ow l_same3, G.fr l_others8, G.fr a23, G.fr (p24.headD default), G.fr (p24.tail.headD default), G.fr (p24.tail.tail.headD default), G.any, G.any, G.any, G.any]) (sb_seq (s1_set 13 (xk_listL (xl_fr (xk_fr 6)) b_list) S.nd) fun (l_bent26 : (List G.Dy)) => (SB.slots (ss' := [G.fr l_script, G.fr p1.a, G.fr p1.b, G.fr p1.c, G.fr p1.d, G.fr p1.e, G.fr l_things2, G.ow l_same3, G.fr l_others8, G.fr a23, G.fr (p24.headD default), G.fr (p24.tail.headD default), G.fr (p24.tail.tail.headD default), G.ow l_bent26, G.any, G.any, G.any]) (sb_seq (s1_setI 13 (xk_calF c__law_bad hr tk (xak_cons (xk_imm (xi_fr 1)) (xak_cons (xk_fr 6) (xak_cons (xk_imm (xi_fr 10)) (xak_cons (xk_imm (xi_fr 11)) xak_nil))))) (xi_fr 10) (hg := pg_sub (pv 13) (xi_fr 10) set_list)) fun (l_bent27 : (List G.Dy)) => (SB.slots (ss' := [G.fr l_script, G.fr p1.a, G.fr p1.b, G.fr p1.c, G.fr p1.d, G.fr p1.e, G.fr l_things2, G.ow l_same3, G.fr l_others8, G.fr a23, G.fr (p24.headD default), G.fr (p24.tail.headD default), G.fr (p24.tail.tail.headD default), G.ow l_bent27, G.any, G.any, G.any]) (sb_b1 (S := Unit) (b1_if (post := (fun (s30 : Unit) => [G.fr l_script, G.fr p1.a, G.fr p1.b, G.fr p1.c, G.fr p1.d, G.fr p1.e, G.fr l_things2, G.ow l_same3, G.fr l_others8, G.fr a23, G.fr (p24.headD default), G.fr (p24.tail.headD default), G.fr (p24.tail.tail.headD default), G.ow l_bent27, G.any, G.any, G.any])) (xt_w (xw_and (t_cmp op_ne (b_neS (α := Int) (β := Int)) (nomark _) (xi_fr 10) xi_int) (xw_and1 (xt_not (xt_val (xi_cal c__law_no_ladder hr tk (xa_cons (xi_fr 1) (xa_cons (xi_ow 13) xa_nil)))))))) (sb_ret (xk_imm xi_bl)) (sb_nil (s := ()) (wk_eq (wk_eq (wk_eq (wk_eq (wk_eq (wk_eq (wk_eq (wk_eq (wk_eq (wk_eq (wk_eq (wk_eq (wk_eq (wk_eq (wk_eq (wk_eq (wk_eq wk_nil))))))))))))))))))) fun s30 => (sb_seq (s1_set 14 (xk_imm (xi_ixL (xi_fr 8) xi_int)) S.nd) fun (l_other32 : Int) => (SB.slots (ss' := [G.fr l_script, G.fr p1.a, G.fr p1.b, G.fr p1.c, G.fr p1.d, G.fr p1.e, G.fr l_things2, G.ow l_same3, G.fr l_others8, G.fr a23, G.fr (p24.headD default), G.fr (p24.tail.headD default), G.fr (p24.tail.tail.headD default), G.ow l_bent27, G.fr l_other32, G.any, G.any]) (sb_seq (s1_if (post := (fun (s35 : Int) => [G.fr l_script, G.fr p1.a, G.fr p1.b, G.fr p1.c, G.fr p1.d, G.fr p1.e, G.fr l_things2, G.ow l_same3, G.fr l_others8, G.fr a23, G.fr (p24.headD default), G.fr (p24.tail.headD default), G.fr (p24.tail.tail.headD default), G.ow l_bent27, G.fr s35, G.any, G.any])) (xt_w (xw_and (t_cmp op_lt b_lt (nomark _) (xi_fr 10) xi_int) (xw_and1 (t_cmp op_eq (b_eqS (α := PySem.Str) (β := PySem.Str)) (nomark _) (xi_ixStr (xi_fr 3) (xi_fr 14)) (xi_ixStr (xi_fr 3) (xi_fr 5)))))) (sn_seq (s1_set 14 (xk_imm (xi_neg xi_int)) S.nd) fun (l_other36 : Int) => (SN.slots (ss' := [G.fr l_script, G.fr p1.a, G.fr p1.b, G.fr p1.c, G.fr p1.d, G.fr p1.e, G.fr l_things2, G.ow l_same3, G.fr l_others8, G.fr a23, G.fr (p24.headD default), G.fr (p24.tail.headD default), G.fr (p24.tail.tail.headD default), G.ow l_bent27, G.fr l_other36, G.any, G.any]) (sn_nil (s := l_other36) (wk_eq (wk_eq (wk_eq (wk_eq (wk_eq (wk_eq (wk_eq (wk_eq (wk_eq (wk_eq (wk_eq (wk_eq (wk_eq (wk_eq (wk_eq (wk_eq (wk_eq wk_nil)))))))))))))))))) rfl)) (sn_nil (s := l_other32) (wk_eq (wk_eq (wk_eq (wk_eq (wk_eq (wk_eq (wk_eq (wk_eq (wk_eq (wk_eq (wk_eq (wk_eq (wk_eq (wk_eq (wk_eq (wk_eq (wk_eq wk_nil))))))))))))))))))) fun s35 => (SB.slots (ss' := [G.fr l_script, G.fr p1.a, G.fr p1.b, G.fr p1.c, G.fr p1.d, G.fr p1.e, G.fr l_things2, G.ow l_same3, G.fr l_others8, G.fr a23, G.fr (p24.headD default), G.fr (p24.tail.headD default), G.fr (p24.tail.tail.headD default), G.ow l_bent27, G.fr s35, G.any, G.any]) (sb_b1 (S := Unit) (b1_for (S := Unit) (R := Bool) (fun (s68 : Unit) => [G.fr l_script, G.fr p1.a, G.fr p1.b, G.fr p1.c, G.fr p1.d, G.fr p1.e, G.fr l_things2, G.ow l_same3, G.fr l_others8, G.fr a23, G.fr (p24.headD default), G.fr (p24.tail.headD default), G.fr (p24.tail.tail.headD default), G.ow l_bent27, G.fr s35, G.any, G.any]) () (it_list (xk_free (xk_lst (xhk_cons (xk_dy (α := (G.Dy × Int)) (xk_pair (xak_cons (xk_ixLL (xl_ow 13) xi_int) (xak_cons (xk_fr 14) xak_nil)))) (xhk_cons (xk_dy (α := (Int × G.Dy)) (xk_pair (xak_cons (xk_fr 14) (xak_cons (xk_ixLL (xl_ow 13) xi_int) xak_nil)))) (xhk_nil)))))) (tg_name 15 S.nd) (fun s68 a69 => (sb_b1 (S := Unit) (b1_if (post := (fun (s77 : Unit) => [G.fr l_script, G.fr p1.a, G.fr p1.b, G.fr p1.c, G.fr p1.d, G.fr p1.e, G.fr l_things2, G.ow l_same3, G.fr l_others8, G.fr a23, G.fr (p24.headD default), G.fr (p24.tail.headD default), G.fr (p24.tail.tail.headD default), G.ow l_bent27, G.fr s35, G.fr a69, G.any])) (xt_not (xt_val (xi_cal c__law_no_together hr tk (xa_cons (xi_fr 1) (xa_cons (xi_ow 13) (xa_cons (xi_ixD (xi_fr 15) xi_int) (xa_cons (xi_ixD (xi_fr 15) xi_int) xa_nil))))))) (sb_ret (xk_imm xi_bl)) (sb_nil (s := ()) (wk_eq (wk_eq (wk_eq (wk_eq (wk_eq (wk_eq (wk_eq (wk_eq (wk_eq (wk_eq (wk_eq (wk_eq (wk_eq (wk_eq (wk_eq (wk_eq (wk_eq wk_nil))))))))))))))))))) fun s77 => (sb_nil (s := ()) (wk_eq (wk_eq (wk_eq (wk_eq (wk_eq (wk_eq (wk_eq (wk_eq (wk_eq (wk_eq (wk_eq (wk_eq (wk_eq (wk_eq (wk_eq (wk_any (wk_eq wk_nil)))))))))))))))))))) (wk_eq (wk_eq (wk_eq (wk_eq (wk_eq (wk_eq (wk_eq (wk_eq (wk_eq (wk_eq (wk_eq (wk_eq (wk_eq (wk_eq (wk_eq (wk_eq (wk_eq wk_nil)))))))))))))))))) fun s68 => (sb_b1 (S := Unit) (b1_if (post := (fun (s88 : Unit) => [G.fr l_script, G.fr p1.a, G.fr p1.b, G.fr p1.c, G.fr p1.d, G.fr p1.e, G.fr l_things2, G.ow l_same3, G.fr l_others8, G.fr a23, G.fr (p24.headD default), G.fr (p24.tail.headD default), G.fr (p24.tail.tail.headD default), G.ow l_bent27, G.fr s35, G.any, G.any])) (xt_not (xt_val (xi_cal c__law_no_together hr tk (xa_cons (xi_fr 1) (xa_cons (xi_fr 6) (xa_cons (xi_dy (α := Int) (xi_fr 5)) (xa_cons (xi_dy (α := Int) (xi_ixL (xi_ow 7) (x_bin op_mod b_mod (xi_fr 12) (xi_bf call_len c_lenL b_len PySem.boot_len (xa_cons (xi_ow 7) xa_nil))))) xa_nil))))))) (sb_ret (xk_imm xi_bl)) (sb_nil (s := ()) (wk_eq (wk_eq (wk_eq (wk_eq (wk_eq (wk_eq (wk_eq (wk_eq (wk_eq (wk_eq (wk_eq (wk_eq (wk_eq (wk_eq (wk_eq (wk_eq (wk_eq wk_nil))))))))))))))))))) fun s88 => (sb_nil (s := ()) (wk_eq (wk_eq (wk_eq (wk_eq (wk_eq (wk_eq (wk_eq (wk_eq (wk_eq (wk_any (wk_any (wk_any (wk_any (wk_any (wk_any (wk_eq (wk_eq wk_nil)))))))))))))))))))) rfl)) rfl))) rfl)) rfl)) rfl))) (wk_eq (wk_eq (wk_eq (wk_eq (wk_eq (wk_eq (wk_eq (wk_eq (wk_eq (wk_eq (wk_eq (wk_eq (wk_eq (wk_eq (wk_eq (wk_eq (wk_eq wk_nil)))))))))))))))))) fun s22 => (st_ret (xk_imm xi_bl)))) rfl)) rfl)) rfl)) rfl)))
    (case q => first | (unfold m_law; simp only [Res.okb, Res.bind_assoc]; done) | (unfold m_law; simp only [Res.okb, Res.bind_assoc]; rfl) | rfl)
end
end
theorem all_mk {l : PySem.W.OpenLaw} {w : World} {K : Frag} {h : Heap} {mg : PySem.Str → Option Value} {fa : Addr} (X : K.In h) (G : h.Ns mainGlobals mg) (hfa : mg "law" = some (.ref fa)) (hg : ∀ ns : List Int, ns.length ≤ 63 → m_law ⟨ns⟩ = .ok true) {od0 an0 : Option Addr} {sl0 : Array (Option Value)} {oc0 kV0 dc0 pm0 cd0 ct0 : Value} {f0 : Addr} {od1 an1 : Option Addr} {sl1 : Array (Option Value)} {oc1 kV1 dc1 pm1 cd1 ct1 : Value} {f1 : Addr} {od2 an2 : Option Addr} {sl2 : Array (Option Value)} {oc2 kV2 dc2 pm2 cd2 ct2 : Value} {f2 : Addr} {od3 an3 : Option Addr} {sl3 : Array (Option Value)} {oc3 kV3 dc3 pm3 cd3 ct3 : Value} {f3 : Addr} {od4 an4 : Option Addr} {sl4 : Array (Option Value)} {oc4 kV4 dc4 pm4 cd4 ct4 : Value} {f4 : Addr} {od5 an5 : Option Addr} {sl5 : Array (Option Value)} {oc5 kV5 dc5 pm5 cd5 ct5 : Value} {f5 : Addr} {od6 an6 : Option Addr} {sl6 : Array (Option Value)} {oc6 kV6 dc6 pm6 cd6 ct6 : Value} {f6 : Addr} {od7 an7 : Option Addr} {sl7 : Array (Option Value)} {oc7 kV7 dc7 pm7 cd7 ct7 : Value} {f7 : Addr} {od8 an8 : Option Addr} {sl8 : Array (Option Value)} {oc8 kV8 dc8 pm8 cd8 ct8 : Value} {f8 : Addr} {od9 an9 : Option Addr} {sl9 : Array (Option Value)} {oc9 kV9 dc9 pm9 cd9 ct9 : Value} {f9 : Addr} {od10 an10 : Option Addr} {sl10 : Array (Option Value)} {oc10 kV10 dc10 pm10 cd10 ct10 : Value} {f10 : Addr} {od11 an11 : Option Addr} {sl11 : Array (Option Value)} {oc11 kV11 dc11 pm11 cd11 ct11 : Value} {f11 : Addr} {od12 an12 : Option Addr} {sl12 : Array (Option Value)} {oc12 kV12 dc12 pm12 cd12 ct12 : Value} {f12 : Addr} {od13 an13 : Option Addr} {sl13 : Array (Option Value)} {oc13 kV13 dc13 pm13 cd13 ct13 : Value} {f13 : Addr} {od14 an14 : Option Addr} {sl14 : Array (Option Value)} {oc14 kV14 dc14 pm14 cd14 ct14 : Value} {f14 : Addr} {od15 an15 : Option Addr} {sl15 : Array (Option Value)} {oc15 kV15 dc15 pm15 cd15 ct15 : Value} {f15 : Addr} {od16 an16 : Option Addr} {sl16 : Array (Option Value)} {oc16 kV16 dc16 pm16 cd16 ct16 : Value} {f16 : Addr} {od17 an17 : Option Addr} {sl17 : Array (Option Value)} {oc17 kV17 dc17 pm17 cd17 ct17 : Value} {f17 : Addr} {od18 an18 : Option Addr} {sl18 : Array (Option Value)} {oc18 kV18 dc18 pm18 cd18 ct18 : Value} {f18 : Addr} {od19 an19 : Option Addr} {sl19 : Array (Option Value)} {oc19 kV19 dc19 pm19 cd19 ct19 : Value} {f19 : Addr} {od20 an20 : Option Addr} {sl20 : Array (Option Value)} {oc20 kV20 dc20 pm20 cd20 ct20 : Value} {f20 : Addr} {od21 an21 : Option Addr} {sl21 : Array (Option Value)} {oc21 kV21 dc21 pm21 cd21 ct21 : Value} {f21 : Addr} {od22 an22 : Option Addr} {sl22 : Array (Option Value)} {oc22 kV22 dc22 pm22 cd22 ct22 : Value} {f22 : Addr} {od23 an23 : Option Addr} {sl23 : Array (Option Value)} {oc23 kV23 dc23 pm23 cd23 ct23 : Value} {f23 : Addr} {od24 an24 : Option Addr} {sl24 : Array (Option Value)} {oc24 kV24 dc24 pm24 cd24 ct24 : Value} {f24 : Addr} {od25 an25 : Option Addr} {sl25 : Array (Option Value)} {oc25 kV25 dc25 pm25 cd25 ct25 : Value} {f25 : Addr} {od26 an26 : Option Addr} {sl26 : Array (Option Value)} {oc26 kV26 dc26 pm26 cd26 ct26 : Value} {f26 : Addr} {od27 an27 : Option Addr} {sl27 : Array (Option Value)} {oc27 kV27 dc27 pm27 cd27 ct27 : Value} {f27 : Addr} {od28 an28 : Option Addr} {sl28 : Array (Option Value)} {oc28 kV28 dc28 pm28 cd28 ct28 : Value} {f28 : Addr} {od29 an29 : Option Addr} {sl29 : Array (Option Value)} {oc29 kV29 dc29 pm29 cd29 ct29 : Value} {f29 : Addr} {od30 an30 : Option Addr} {sl30 : Array (Option Value)} {oc30 kV30 dc30 pm30 cd30 ct30 : Value} {f30 : Addr} {gp0 : Addr} {god0 : Option Addr} {gosl0 : Array (Option Value)} {gits0 : List Value} {gn0 : Nat} {C_NoFight : Addr} {C_TooMany : Addr} {C_NoText : Addr} {C_NoName : Addr} {C_NoField : Addr} {C_NoCrossing : Addr} {C_NoBoard : Addr} {C_Again : Addr} {C_RingError : Addr} {C_Fight : Addr} {C_Chase : Addr}
    (a0 : PySem.W.nsIn K mainGlobals "next_to" = some (some (.ref f0))) (l0 : K.lookup f0 = some ⟨oc0, od0, .func (PySem.W.fnOf "next_to" "next_to" (defArgs s_next_to) (defBody s_next_to) (defScope s_next_to) .none kV0 dc0 pm0 an0 cd0 ct0), sl0⟩) (c0 : PySem.W.codeIn K cd0 "next_to" = true) (k0 : PySem.W.keepIn K (.ref f0) = true)
    (a1 : PySem.W.nsIn K mainGlobals "is_board" = some (some (.ref f1))) (l1 : K.lookup f1 = some ⟨oc1, od1, .func (PySem.W.fnOf "is_board" "is_board" (defArgs s_is_board) (defBody s_is_board) (defScope s_is_board) .none kV1 dc1 pm1 an1 cd1 ct1), sl1⟩) (c1 : PySem.W.codeIn K cd1 "is_board" = true) (k1 : PySem.W.keepIn K (.ref f1) = true)
    (a2 : PySem.W.nsIn K mainGlobals "is_board" = some (some (.ref f2))) (l2 : K.lookup f2 = some ⟨oc2, od2, .func (PySem.W.fnOf "is_board" "is_board" (defArgs s_is_board__D) (defBody s_is_board__D) (defScope s_is_board__D) .none kV2 dc2 pm2 an2 cd2 ct2), sl2⟩) (c2 : PySem.W.codeIn K cd2 "is_board" = true) (k2 : PySem.W.keepIn K (.ref f2) = true)
    (a3 : PySem.W.nsIn K mainGlobals "chain_of" = some (some (.ref f3))) (l3 : K.lookup f3 = some ⟨oc3, od3, .func (PySem.W.fnOf "chain_of" "chain_of" (defArgs s_chain_of) (defBody s_chain_of) (defScope s_chain_of) .none kV3 dc3 pm3 an3 cd3 ct3), sl3⟩) (c3 : PySem.W.codeIn K cd3 "chain_of" = true) (k3 : PySem.W.keepIn K (.ref f3) = true)
    (a4 : PySem.W.nsIn K mainGlobals "empties_by" = some (some (.ref f4))) (l4 : K.lookup f4 = some ⟨oc4, od4, .func (PySem.W.fnOf "empties_by" "empties_by" (defArgs s_empties_by) (defBody s_empties_by) (defScope s_empties_by) .none kV4 dc4 pm4 an4 cd4 ct4), sl4⟩) (c4 : PySem.W.codeIn K cd4 "empties_by" = true) (k4 : PySem.W.keepIn K (.ref f4) = true)
    (a5 : PySem.W.nsIn K mainGlobals "chains" = some (some (.ref f5))) (l5 : K.lookup f5 = some ⟨oc5, od5, .func (PySem.W.fnOf "chains" "chains" (defArgs s_chains) (defBody s_chains) (defScope s_chains) .none kV5 dc5 pm5 an5 cd5 ct5), sl5⟩) (c5 : PySem.W.codeIn K cd5 "chains" = true) (k5 : PySem.W.keepIn K (.ref f5) = true)
    (a6 : PySem.W.nsIn K mainGlobals "is_sound" = some (some (.ref f6))) (l6 : K.lookup f6 = some ⟨oc6, od6, .func (PySem.W.fnOf "is_sound" "is_sound" (defArgs s_is_sound) (defBody s_is_sound) (defScope s_is_sound) .none kV6 dc6 pm6 an6 cd6 ct6), sl6⟩) (c6 : PySem.W.codeIn K cd6 "is_sound" = true) (k6 : PySem.W.keepIn K (.ref f6) = true)
    (a7 : PySem.W.nsIn K mainGlobals "is_rules" = some (some (.ref f7))) (l7 : K.lookup f7 = some ⟨oc7, od7, .func (PySem.W.fnOf "is_rules" "is_rules" (defArgs s_is_rules) (defBody s_is_rules) (defScope s_is_rules) .none kV7 dc7 pm7 an7 cd7 ct7), sl7⟩) (c7 : PySem.W.codeIn K cd7 "is_rules" = true) (k7 : PySem.W.keepIn K (.ref f7) = true)
    (a8 : PySem.W.nsIn K mainGlobals "is_crossing" = some (some (.ref f8))) (l8 : K.lookup f8 = some ⟨oc8, od8, .func (PySem.W.fnOf "is_crossing" "is_crossing" (defArgs s_is_crossing) (defBody s_is_crossing) (defScope s_is_crossing) .none kV8 dc8 pm8 an8 cd8 ct8), sl8⟩) (c8 : PySem.W.codeIn K cd8 "is_crossing" = true) (k8 : PySem.W.keepIn K (.ref f8) = true)
    (a9 : PySem.W.nsIn K mainGlobals "is_field" = some (some (.ref f9))) (l9 : K.lookup f9 = some ⟨oc9, od9, .func (PySem.W.fnOf "is_field" "is_field" (defArgs s_is_field) (defBody s_is_field) (defScope s_is_field) .none kV9 dc9 pm9 an9 cd9 ct9), sl9⟩) (c9 : PySem.W.codeIn K cd9 "is_field" = true) (k9 : PySem.W.keepIn K (.ref f9) = true)
    (a10 : PySem.W.nsIn K mainGlobals "are_fight_rules" = some (some (.ref f10))) (l10 : K.lookup f10 = some ⟨oc10, od10, .func (PySem.W.fnOf "are_fight_rules" "are_fight_rules" (defArgs s_are_fight_rules) (defBody s_are_fight_rules) (defScope s_are_fight_rules) .none kV10 dc10 pm10 an10 cd10 ct10), sl10⟩) (c10 : PySem.W.codeIn K cd10 "are_fight_rules" = true) (k10 : PySem.W.keepIn K (.ref f10) = true)
    (a11 : PySem.W.findIn K (.ref C_Fight) "__init__" = some (some (.ref f11))) (l11 : K.lookup f11 = some ⟨oc11, od11, .func (PySem.W.fnOf "__init__" "Fight.__init__" (defArgs s_Fight___init__) (defBody s_Fight___init__) (defScope s_Fight___init__) .none kV11 dc11 pm11 an11 cd11 ct11), sl11⟩) (c11 : PySem.W.codeIn K cd11 "Fight.__init__" = true) (k11 : PySem.W.keepIn K (.ref f11) = true)
    (a12 : PySem.W.findIn K (.ref C_Fight) "holder" = some (some (.ref f12))) (l12 : K.lookup f12 = some ⟨oc12, od12, .func (PySem.W.fnOf "holder" "Fight.holder" (defArgs s_Fight_holder) (defBody s_Fight_holder) (defScope s_Fight_holder) .none kV12 dc12 pm12 an12 cd12 ct12), sl12⟩) (c12 : PySem.W.codeIn K cd12 "Fight.holder" = true) (k12 : PySem.W.keepIn K (.ref f12) = true)
    (a13 : PySem.W.nsIn K mainGlobals "live_together" = some (some (.ref f13))) (l13 : K.lookup f13 = some ⟨oc13, od13, .func (PySem.W.fnOf "live_together" "live_together" (defArgs s_live_together) (defBody s_live_together) (defScope s_live_together) .none kV13 dc13 pm13 an13 cd13 ct13), sl13⟩) (c13 : PySem.W.codeIn K cd13 "live_together" = true) (k13 : PySem.W.keepIn K (.ref f13) = true)
    (a14 : PySem.W.findIn K (.ref C_Chase) "__init__" = some (some (.ref f14))) (l14 : K.lookup f14 = some ⟨oc14, od14, .func (PySem.W.fnOf "__init__" "Chase.__init__" (defArgs s_Chase___init__) (defBody s_Chase___init__) (defScope s_Chase___init__) .none kV14 dc14 pm14 an14 cd14 ct14), sl14⟩) (c14 : PySem.W.codeIn K cd14 "Chase.__init__" = true) (k14 : PySem.W.keepIn K (.ref f14) = true)
    (a15 : PySem.W.nsIn K mainGlobals "ladder" = some (some (.ref f15))) (l15 : K.lookup f15 = some ⟨oc15, od15, .func (PySem.W.fnOf "ladder" "ladder" (defArgs s_ladder) (defBody s_ladder) (defScope s_ladder) .none kV15 dc15 pm15 an15 cd15 ct15), sl15⟩) (c15 : PySem.W.codeIn K cd15 "ladder" = true) (k15 : PySem.W.keepIn K (.ref f15) = true)
    (a16 : PySem.W.nsIn K mainGlobals "_law_numbers" = some (some (.ref f16))) (l16 : K.lookup f16 = some ⟨oc16, od16, .func (PySem.W.fnOf "_law_numbers" "_law_numbers" (defArgs s__law_numbers) (defBody s__law_numbers) (defScope s__law_numbers) .none kV16 dc16 pm16 an16 cd16 ct16), sl16⟩) (c16 : PySem.W.codeIn K cd16 "_law_numbers" = true) (k16 : PySem.W.keepIn K (.ref f16) = true)
    (a17 : PySem.W.nsIn K mainGlobals "_law_cell_at" = some (some (.ref f17))) (l17 : K.lookup f17 = some ⟨oc17, od17, .func (PySem.W.fnOf "_law_cell_at" "_law_cell_at" (defArgs s__law_cell_at) (defBody s__law_cell_at) (defScope s__law_cell_at) .none kV17 dc17 pm17 an17 cd17 ct17), sl17⟩) (c17 : PySem.W.codeIn K cd17 "_law_cell_at" = true) (k17 : PySem.W.keepIn K (.ref f17) = true)
    (a18 : PySem.W.nsIn K mainGlobals "_law_nexts" = some (some (.ref f18))) (l18 : K.lookup f18 = some ⟨oc18, od18, .func (PySem.W.fnOf "_law_nexts" "_law_nexts" (defArgs s__law_nexts) (defBody s__law_nexts) (defScope s__law_nexts) .none kV18 dc18 pm18 an18 cd18 ct18), sl18⟩) (c18 : PySem.W.codeIn K cd18 "_law_nexts" = true) (k18 : PySem.W.keepIn K (.ref f18) = true)
    (a19 : PySem.W.nsIn K mainGlobals "_law_chain" = some (some (.ref f19))) (l19 : K.lookup f19 = some ⟨oc19, od19, .func (PySem.W.fnOf "_law_chain" "_law_chain" (defArgs s__law_chain) (defBody s__law_chain) (defScope s__law_chain) .none kV19 dc19 pm19 an19 cd19 ct19), sl19⟩) (c19 : PySem.W.codeIn K cd19 "_law_chain" = true) (k19 : PySem.W.keepIn K (.ref f19) = true)
    (a20 : PySem.W.nsIn K mainGlobals "_law_breaths" = some (some (.ref f20))) (l20 : K.lookup f20 = some ⟨oc20, od20, .func (PySem.W.fnOf "_law_breaths" "_law_breaths" (defArgs s__law_breaths) (defBody s__law_breaths) (defScope s__law_breaths) .none kV20 dc20 pm20 an20 cd20 ct20), sl20⟩) (c20 : PySem.W.codeIn K cd20 "_law_breaths" = true) (k20 : PySem.W.keepIn K (.ref f20) = true)
    (a21 : PySem.W.nsIn K mainGlobals "_law_put" = some (some (.ref f21))) (l21 : K.lookup f21 = some ⟨oc21, od21, .func (PySem.W.fnOf "_law_put" "_law_put" (defArgs s__law_put) (defBody s__law_put) (defScope s__law_put) .none kV21 dc21 pm21 an21 cd21 ct21), sl21⟩) (c21 : PySem.W.codeIn K cd21 "_law_put" = true) (k21 : PySem.W.keepIn K (.ref f21) = true)
    (a22 : PySem.W.nsIn K mainGlobals "_law_cleared" = some (some (.ref f22))) (l22 : K.lookup f22 = some ⟨oc22, od22, .func (PySem.W.fnOf "_law_cleared" "_law_cleared" (defArgs s__law_cleared) (defBody s__law_cleared) (defScope s__law_cleared) .none kV22 dc22 pm22 an22 cd22 ct22), sl22⟩) (c22 : PySem.W.codeIn K cd22 "_law_cleared" = true) (k22 : PySem.W.keepIn K (.ref f22) = true)
    (a23 : PySem.W.nsIn K mainGlobals "_law_web" = some (some (.ref f23))) (l23 : K.lookup f23 = some ⟨oc23, od23, .func (PySem.W.fnOf "_law_web" "_law_web" (defArgs s__law_web) (defBody s__law_web) (defScope s__law_web) .none kV23 dc23 pm23 an23 cd23 ct23), sl23⟩) (c23 : PySem.W.codeIn K cd23 "_law_web" = true) (k23 : PySem.W.keepIn K (.ref f23) = true)
    (a24 : PySem.W.nsIn K mainGlobals "_law_drawn" = some (some (.ref f24))) (l24 : K.lookup f24 = some ⟨oc24, od24, .func (PySem.W.fnOf "_law_drawn" "_law_drawn" (defArgs s__law_drawn) (defBody s__law_drawn) (defScope s__law_drawn) .none kV24 dc24 pm24 an24 cd24 ct24), sl24⟩) (c24 : PySem.W.codeIn K cd24 "_law_drawn" = true) (k24 : PySem.W.keepIn K (.ref f24) = true)
    (a25 : PySem.W.nsIn K mainGlobals "_law_marks" = some (some (.ref f25))) (l25 : K.lookup f25 = some ⟨oc25, od25, .func (PySem.W.fnOf "_law_marks" "_law_marks" (defArgs s__law_marks) (defBody s__law_marks) (defScope s__law_marks) .none kV25 dc25 pm25 an25 cd25 ct25), sl25⟩) (c25 : PySem.W.codeIn K cd25 "_law_marks" = true) (k25 : PySem.W.keepIn K (.ref f25) = true)
    (a26 : PySem.W.nsIn K mainGlobals "_law_no_together" = some (some (.ref f26))) (l26 : K.lookup f26 = some ⟨oc26, od26, .func (PySem.W.fnOf "_law_no_together" "_law_no_together" (defArgs s__law_no_together) (defBody s__law_no_together) (defScope s__law_no_together) .none kV26 dc26 pm26 an26 cd26 ct26), sl26⟩) (c26 : PySem.W.codeIn K cd26 "_law_no_together" = true) (k26 : PySem.W.keepIn K (.ref f26) = true)
    (a27 : PySem.W.nsIn K mainGlobals "_law_no_ladder" = some (some (.ref f27))) (l27 : K.lookup f27 = some ⟨oc27, od27, .func (PySem.W.fnOf "_law_no_ladder" "_law_no_ladder" (defArgs s__law_no_ladder) (defBody s__law_no_ladder) (defScope s__law_no_ladder) .none kV27 dc27 pm27 an27 cd27 ct27), sl27⟩) (c27 : PySem.W.codeIn K cd27 "_law_no_ladder" = true) (k27 : PySem.W.keepIn K (.ref f27) = true)
    (a28 : PySem.W.nsIn K mainGlobals "_law_bad" = some (some (.ref f28))) (l28 : K.lookup f28 = some ⟨oc28, od28, .func (PySem.W.fnOf "_law_bad" "_law_bad" (defArgs s__law_bad) (defBody s__law_bad) (defScope s__law_bad) .none kV28 dc28 pm28 an28 cd28 ct28), sl28⟩) (c28 : PySem.W.codeIn K cd28 "_law_bad" = true) (k28 : PySem.W.keepIn K (.ref f28) = true)
    (a29 : PySem.W.nsIn K mainGlobals "_law_unsound" = some (some (.ref f29))) (l29 : K.lookup f29 = some ⟨oc29, od29, .func (PySem.W.fnOf "_law_unsound" "_law_unsound" (defArgs s__law_unsound) (defBody s__law_unsound) (defScope s__law_unsound) .none kV29 dc29 pm29 an29 cd29 ct29), sl29⟩) (c29 : PySem.W.codeIn K cd29 "_law_unsound" = true) (k29 : PySem.W.keepIn K (.ref f29) = true)
    (a30 : PySem.W.nsIn K mainGlobals "law" = some (some (.ref f30))) (l30 : K.lookup f30 = some ⟨oc30, od30, .func (PySem.W.fnOf "law" "law" (defArgs s_law) (defBody s_law) (defScope s_law) .none kV30 dc30 pm30 an30 cd30 ct30), sl30⟩) (c30 : PySem.W.codeIn K cd30 "law" = true) (k30 : PySem.W.keepIn K (.ref f30) = true)
    (z_sorted : PySem.W.nsIn K mainGlobals "sorted" = some none)
    (z_isinstance : PySem.W.nsIn K mainGlobals "isinstance" = some none)
    (z_str : PySem.W.nsIn K mainGlobals "str" = some none)
    (z_len : PySem.W.nsIn K mainGlobals "len" = some none)
    (z_range : PySem.W.nsIn K mainGlobals "range" = some none)
    (z_tuple : PySem.W.nsIn K mainGlobals "tuple" = some none)
    (z_bool : PySem.W.nsIn K mainGlobals "bool" = some none)
    (z_int : PySem.W.nsIn K mainGlobals "int" = some none)
    (z_list : PySem.W.nsIn K mainGlobals "list" = some none)
    (z_max : PySem.W.nsIn K mainGlobals "max" = some none)
    (z_set : PySem.W.nsIn K mainGlobals "set" = some none)
    (ga0 : PySem.W.nsIn K mainGlobals "AGAINS" = some (some (.ref gp0))) (gl0 : K.lookup gp0 = some ⟨.type "tuple", god0, .seq gits0.toArray gn0, gosl0⟩) (gv0 : Vals (([(PySem.Str.ofString "free"), (PySem.Str.ofString "ko"), (PySem.Str.ofString "whole")] : List PySem.Str).map V.str) gits0)
    (xa_NoFight : PySem.W.nsIn K mainGlobals "NoFight" = some (some (.ref C_NoFight)))
    (xk_NoFight : PySem.W.keepIn K (.ref C_NoFight) = true)
    (xb_NoFight : PySem.W.subIn K (.ref C_NoFight) (.type "BaseException") = some true)
    (xt_NoFight : PySem.W.typeIn K (.ref C_NoFight) = some (.type "type"))
    (xi_NoFight : PySem.W.isClsIn K C_NoFight = true)
    (xg_NoFight : PySem.W.findIn K (.ref C_NoFight) "__getattribute__" = some (some (.builtin "BaseException.__getattribute__")))
    (xr_NoFight : PySem.W.findIn K (.ref C_NoFight) "__getattr__" = some none)
    (xd_NoFight : PySem.W.hasDictIn K C_NoFight = true)
    (xc_NoFight : PySem.W.findIn K (.ref C_NoFight) "__class__" = some (some (.builtin "object.__class__")))
    (xm_NoFight : PySem.W.mroIn K C_NoFight (.type "object") = some true)
    (xs_NoFight : PySem.W.subIn K (.ref C_NoFight) (.ref C_NoFight) = some true)
    (xx_NoFight : PySem.W.excIn K C_NoFight vB "ValueError.__new__" = true)
    (xa_TooMany : PySem.W.nsIn K mainGlobals "TooMany" = some (some (.ref C_TooMany)))
    (xk_TooMany : PySem.W.keepIn K (.ref C_TooMany) = true)
    (xb_TooMany : PySem.W.subIn K (.ref C_TooMany) (.type "BaseException") = some true)
    (xt_TooMany : PySem.W.typeIn K (.ref C_TooMany) = some (.type "type"))
    (xi_TooMany : PySem.W.isClsIn K C_TooMany = true)
    (xg_TooMany : PySem.W.findIn K (.ref C_TooMany) "__getattribute__" = some (some (.builtin "BaseException.__getattribute__")))
    (xr_TooMany : PySem.W.findIn K (.ref C_TooMany) "__getattr__" = some none)
    (xd_TooMany : PySem.W.hasDictIn K C_TooMany = true)
    (xc_TooMany : PySem.W.findIn K (.ref C_TooMany) "__class__" = some (some (.builtin "object.__class__")))
    (xm_TooMany : PySem.W.mroIn K C_TooMany (.type "object") = some true)
    (xs_TooMany : PySem.W.subIn K (.ref C_TooMany) (.ref C_TooMany) = some true)
    (xa_NoText : PySem.W.nsIn K mainGlobals "NoText" = some (some (.ref C_NoText)))
    (xk_NoText : PySem.W.keepIn K (.ref C_NoText) = true)
    (xb_NoText : PySem.W.subIn K (.ref C_NoText) (.type "BaseException") = some true)
    (xt_NoText : PySem.W.typeIn K (.ref C_NoText) = some (.type "type"))
    (xi_NoText : PySem.W.isClsIn K C_NoText = true)
    (xg_NoText : PySem.W.findIn K (.ref C_NoText) "__getattribute__" = some (some (.builtin "BaseException.__getattribute__")))
    (xr_NoText : PySem.W.findIn K (.ref C_NoText) "__getattr__" = some none)
    (xd_NoText : PySem.W.hasDictIn K C_NoText = true)
    (xc_NoText : PySem.W.findIn K (.ref C_NoText) "__class__" = some (some (.builtin "object.__class__")))
    (xm_NoText : PySem.W.mroIn K C_NoText (.type "object") = some true)
    (xs_NoText : PySem.W.subIn K (.ref C_NoText) (.ref C_NoText) = some true)
    (xa_NoName : PySem.W.nsIn K mainGlobals "NoName" = some (some (.ref C_NoName)))
    (xk_NoName : PySem.W.keepIn K (.ref C_NoName) = true)
    (xb_NoName : PySem.W.subIn K (.ref C_NoName) (.type "BaseException") = some true)
    (xt_NoName : PySem.W.typeIn K (.ref C_NoName) = some (.type "type"))
    (xi_NoName : PySem.W.isClsIn K C_NoName = true)
    (xg_NoName : PySem.W.findIn K (.ref C_NoName) "__getattribute__" = some (some (.builtin "BaseException.__getattribute__")))
    (xr_NoName : PySem.W.findIn K (.ref C_NoName) "__getattr__" = some none)
    (xd_NoName : PySem.W.hasDictIn K C_NoName = true)
    (xc_NoName : PySem.W.findIn K (.ref C_NoName) "__class__" = some (some (.builtin "object.__class__")))
    (xm_NoName : PySem.W.mroIn K C_NoName (.type "object") = some true)
    (xs_NoName : PySem.W.subIn K (.ref C_NoName) (.ref C_NoName) = some true)
    (xa_NoField : PySem.W.nsIn K mainGlobals "NoField" = some (some (.ref C_NoField)))
    (xk_NoField : PySem.W.keepIn K (.ref C_NoField) = true)
    (xb_NoField : PySem.W.subIn K (.ref C_NoField) (.type "BaseException") = some true)
    (xt_NoField : PySem.W.typeIn K (.ref C_NoField) = some (.type "type"))
    (xi_NoField : PySem.W.isClsIn K C_NoField = true)
    (xg_NoField : PySem.W.findIn K (.ref C_NoField) "__getattribute__" = some (some (.builtin "BaseException.__getattribute__")))
    (xr_NoField : PySem.W.findIn K (.ref C_NoField) "__getattr__" = some none)
    (xd_NoField : PySem.W.hasDictIn K C_NoField = true)
    (xc_NoField : PySem.W.findIn K (.ref C_NoField) "__class__" = some (some (.builtin "object.__class__")))
    (xm_NoField : PySem.W.mroIn K C_NoField (.type "object") = some true)
    (xs_NoField : PySem.W.subIn K (.ref C_NoField) (.ref C_NoField) = some true)
    (xa_NoCrossing : PySem.W.nsIn K mainGlobals "NoCrossing" = some (some (.ref C_NoCrossing)))
    (xk_NoCrossing : PySem.W.keepIn K (.ref C_NoCrossing) = true)
    (xb_NoCrossing : PySem.W.subIn K (.ref C_NoCrossing) (.type "BaseException") = some true)
    (xt_NoCrossing : PySem.W.typeIn K (.ref C_NoCrossing) = some (.type "type"))
    (xi_NoCrossing : PySem.W.isClsIn K C_NoCrossing = true)
    (xg_NoCrossing : PySem.W.findIn K (.ref C_NoCrossing) "__getattribute__" = some (some (.builtin "BaseException.__getattribute__")))
    (xr_NoCrossing : PySem.W.findIn K (.ref C_NoCrossing) "__getattr__" = some none)
    (xd_NoCrossing : PySem.W.hasDictIn K C_NoCrossing = true)
    (xc_NoCrossing : PySem.W.findIn K (.ref C_NoCrossing) "__class__" = some (some (.builtin "object.__class__")))
    (xm_NoCrossing : PySem.W.mroIn K C_NoCrossing (.type "object") = some true)
    (xs_NoCrossing : PySem.W.subIn K (.ref C_NoCrossing) (.ref C_NoCrossing) = some true)
    (xa_NoBoard : PySem.W.nsIn K mainGlobals "NoBoard" = some (some (.ref C_NoBoard)))
    (xk_NoBoard : PySem.W.keepIn K (.ref C_NoBoard) = true)
    (xb_NoBoard : PySem.W.subIn K (.ref C_NoBoard) (.type "BaseException") = some true)
    (xt_NoBoard : PySem.W.typeIn K (.ref C_NoBoard) = some (.type "type"))
    (xi_NoBoard : PySem.W.isClsIn K C_NoBoard = true)
    (xg_NoBoard : PySem.W.findIn K (.ref C_NoBoard) "__getattribute__" = some (some (.builtin "BaseException.__getattribute__")))
    (xr_NoBoard : PySem.W.findIn K (.ref C_NoBoard) "__getattr__" = some none)
    (xd_NoBoard : PySem.W.hasDictIn K C_NoBoard = true)
    (xc_NoBoard : PySem.W.findIn K (.ref C_NoBoard) "__class__" = some (some (.builtin "object.__class__")))
    (xm_NoBoard : PySem.W.mroIn K C_NoBoard (.type "object") = some true)
    (xs_NoBoard : PySem.W.subIn K (.ref C_NoBoard) (.ref C_NoBoard) = some true)
    (xa_Again : PySem.W.nsIn K mainGlobals "Again" = some (some (.ref C_Again)))
    (xk_Again : PySem.W.keepIn K (.ref C_Again) = true)
    (xb_Again : PySem.W.subIn K (.ref C_Again) (.type "BaseException") = some true)
    (xt_Again : PySem.W.typeIn K (.ref C_Again) = some (.type "type"))
    (xi_Again : PySem.W.isClsIn K C_Again = true)
    (xg_Again : PySem.W.findIn K (.ref C_Again) "__getattribute__" = some (some (.builtin "BaseException.__getattribute__")))
    (xr_Again : PySem.W.findIn K (.ref C_Again) "__getattr__" = some none)
    (xd_Again : PySem.W.hasDictIn K C_Again = true)
    (xc_Again : PySem.W.findIn K (.ref C_Again) "__class__" = some (some (.builtin "object.__class__")))
    (xm_Again : PySem.W.mroIn K C_Again (.type "object") = some true)
    (xs_Again : PySem.W.subIn K (.ref C_Again) (.ref C_Again) = some true)
    (xa_RingError : PySem.W.nsIn K mainGlobals "RingError" = some (some (.ref C_RingError)))
    (xk_RingError : PySem.W.keepIn K (.ref C_RingError) = true)
    (xb_RingError : PySem.W.subIn K (.ref C_RingError) (.type "BaseException") = some true)
    (xt_RingError : PySem.W.typeIn K (.ref C_RingError) = some (.type "type"))
    (xi_RingError : PySem.W.isClsIn K C_RingError = true)
    (xg_RingError : PySem.W.findIn K (.ref C_RingError) "__getattribute__" = some (some (.builtin "BaseException.__getattribute__")))
    (xr_RingError : PySem.W.findIn K (.ref C_RingError) "__getattr__" = some none)
    (xd_RingError : PySem.W.hasDictIn K C_RingError = true)
    (xc_RingError : PySem.W.findIn K (.ref C_RingError) "__class__" = some (some (.builtin "object.__class__")))
    (xm_RingError : PySem.W.mroIn K C_RingError (.type "object") = some true)
    (xs_RingError : PySem.W.subIn K (.ref C_RingError) (.ref C_RingError) = some true)
    (xn : PySem.W.specialIn K (.builtin "object.__class__") "__get__" = some (some (.builtin "getset_descriptor.__get__")))
    (xz : PySem.W.takesIn K (.builtin "object.__class__") = some true)
    (sb_NoFight_TooMany : PySem.W.subIn K (.ref C_NoFight) (.ref C_TooMany) = some false)
    (sb_NoFight_NoText : PySem.W.subIn K (.ref C_NoFight) (.ref C_NoText) = some false)
    (sb_NoFight_NoName : PySem.W.subIn K (.ref C_NoFight) (.ref C_NoName) = some false)
    (sb_NoFight_NoField : PySem.W.subIn K (.ref C_NoFight) (.ref C_NoField) = some false)
    (sb_NoFight_NoCrossing : PySem.W.subIn K (.ref C_NoFight) (.ref C_NoCrossing) = some false)
    (sb_NoFight_NoBoard : PySem.W.subIn K (.ref C_NoFight) (.ref C_NoBoard) = some false)
    (sb_NoFight_Again : PySem.W.subIn K (.ref C_NoFight) (.ref C_Again) = some false)
    (sb_NoFight_ValueError : PySem.W.subIn K (.ref C_NoFight) (.type "ValueError") = some true)
    (sb_NoFight_RingError : PySem.W.subIn K (.ref C_NoFight) (.ref C_RingError) = some true)
    (xo_ValueError : PySem.W.nsIn K mainGlobals "ValueError" = some none)
    (oa_Fight : PySem.W.nsIn K mainGlobals "Fight" = some (some (.ref C_Fight)))
    (og_Fight : PySem.W.plainGet K C_Fight PySem.Str.empty = true)
    (oh_Fight : PySem.W.hasDictIn K C_Fight = true)
    (oo_Fight : PySem.W.plainOver K C_Fight = true)
    (os_Fight : PySem.W.findIn K (.ref C_Fight) "__setattr__" = some (some (.builtin "object.__setattr__")))
    (om_Fight : PySem.W.makesIn K C_Fight = true)
    (oq_Fight : PySem.W.keepIn K (.ref C_Fight) = true)
    (of_Fight_the_web : PySem.W.findIn K (.ref C_Fight) "the_web" = some none)
    (of_Fight_the_rules : PySem.W.findIn K (.ref C_Fight) "the_rules" = some none)
    (of_Fight_first_board : PySem.W.findIn K (.ref C_Fight) "first_board" = some none)
    (of_Fight_the_field : PySem.W.findIn K (.ref C_Fight) "the_field" = some none)
    (of_Fight_aim : PySem.W.findIn K (.ref C_Fight) "aim" = some none)
    (oa_Chase : PySem.W.nsIn K mainGlobals "Chase" = some (some (.ref C_Chase)))
    (og_Chase : PySem.W.plainGet K C_Chase PySem.Str.empty = true)
    (oh_Chase : PySem.W.hasDictIn K C_Chase = true)
    (oo_Chase : PySem.W.plainOver K C_Chase = true)
    (os_Chase : PySem.W.findIn K (.ref C_Chase) "__setattr__" = some (some (.builtin "object.__setattr__")))
    (om_Chase : PySem.W.makesIn K C_Chase = true)
    (oq_Chase : PySem.W.keepIn K (.ref C_Chase) = true)
    (of_Chase_fight : PySem.W.findIn K (.ref C_Chase) "fight" = some none)
    (im11 : PySem.W.isFn K (.ref f11) = true)
    (im12 : PySem.W.isFn K (.ref f12) = true)
    (im14 : PySem.W.isFn K (.ref f14) = true)
    : ∃ fd : FuncData, (∀ (s : Shared) (v : Value), BindsTo s fd ⟨[v], []⟩ [("_law_script", v)]) ∧ ∀ base : Heap, K.In base → base.Ns mainGlobals mg → FnOk l.prog w K mg base (L2.CX l.prog w) 10 fa fd ["_law_script"] (spLaw K) := by
  have e := hfa.symm.trans (PySem.W.mg_of X G a30)
  cases e
  letI : Md := ⟨mg⟩
  have b_sorted := PySem.W.mg_none_of X G z_sorted
  have b_isinstance := PySem.W.mg_none_of X G z_isinstance
  have b_str := PySem.W.mg_none_of X G z_str
  have b_len := PySem.W.mg_none_of X G z_len
  have b_range := PySem.W.mg_none_of X G z_range
  have b_tuple := PySem.W.mg_none_of X G z_tuple
  have b_bool := PySem.W.mg_none_of X G z_bool
  have b_int := PySem.W.mg_none_of X G z_int
  have b_list := PySem.W.mg_none_of X G z_list
  have b_max := PySem.W.mg_none_of X G z_max
  have b_set := PySem.W.mg_none_of X G z_set
  have cl_NoFight : Cl K mg "NoFight" C_NoFight := ⟨PySem.W.mg_of X G xa_NoFight, xk_NoFight, xb_NoFight, xt_NoFight, xi_NoFight, ⟨xg_NoFight, xr_NoFight, xb_NoFight, xd_NoFight, xc_NoFight, xn, xz, xm_NoFight⟩, xs_NoFight⟩
  have cl_TooMany : Cl K mg "TooMany" C_TooMany := ⟨PySem.W.mg_of X G xa_TooMany, xk_TooMany, xb_TooMany, xt_TooMany, xi_TooMany, ⟨xg_TooMany, xr_TooMany, xb_TooMany, xd_TooMany, xc_TooMany, xn, xz, xm_TooMany⟩, xs_TooMany⟩
  have cl_NoText : Cl K mg "NoText" C_NoText := ⟨PySem.W.mg_of X G xa_NoText, xk_NoText, xb_NoText, xt_NoText, xi_NoText, ⟨xg_NoText, xr_NoText, xb_NoText, xd_NoText, xc_NoText, xn, xz, xm_NoText⟩, xs_NoText⟩
  have cl_NoName : Cl K mg "NoName" C_NoName := ⟨PySem.W.mg_of X G xa_NoName, xk_NoName, xb_NoName, xt_NoName, xi_NoName, ⟨xg_NoName, xr_NoName, xb_NoName, xd_NoName, xc_NoName, xn, xz, xm_NoName⟩, xs_NoName⟩
  have cl_NoField : Cl K mg "NoField" C_NoField := ⟨PySem.W.mg_of X G xa_NoField, xk_NoField, xb_NoField, xt_NoField, xi_NoField, ⟨xg_NoField, xr_NoField, xb_NoField, xd_NoField, xc_NoField, xn, xz, xm_NoField⟩, xs_NoField⟩
  have cl_NoCrossing : Cl K mg "NoCrossing" C_NoCrossing := ⟨PySem.W.mg_of X G xa_NoCrossing, xk_NoCrossing, xb_NoCrossing, xt_NoCrossing, xi_NoCrossing, ⟨xg_NoCrossing, xr_NoCrossing, xb_NoCrossing, xd_NoCrossing, xc_NoCrossing, xn, xz, xm_NoCrossing⟩, xs_NoCrossing⟩
  have cl_NoBoard : Cl K mg "NoBoard" C_NoBoard := ⟨PySem.W.mg_of X G xa_NoBoard, xk_NoBoard, xb_NoBoard, xt_NoBoard, xi_NoBoard, ⟨xg_NoBoard, xr_NoBoard, xb_NoBoard, xd_NoBoard, xc_NoBoard, xn, xz, xm_NoBoard⟩, xs_NoBoard⟩
  have cl_Again : Cl K mg "Again" C_Again := ⟨PySem.W.mg_of X G xa_Again, xk_Again, xb_Again, xt_Again, xi_Again, ⟨xg_Again, xr_Again, xb_Again, xd_Again, xc_Again, xn, xz, xm_Again⟩, xs_Again⟩
  have cl_RingError : Cl K mg "RingError" C_RingError := ⟨PySem.W.mg_of X G xa_RingError, xk_RingError, xb_RingError, xt_RingError, xi_RingError, ⟨xg_RingError, xr_RingError, xb_RingError, xd_RingError, xc_RingError, xn, xz, xm_RingError⟩, xs_RingError⟩
  have x_NoFight : HasCl K mg "NoFight" := ⟨C_NoFight, cl_NoFight, xx_NoFight⟩
  have it_TooMany : ITab K mg "TooMany" it_tab_TooMany := itab_mk cl_TooMany (tabs_cons cl_NoFight sb_NoFight_TooMany tabs_nil)
  have it_NoText : ITab K mg "NoText" it_tab_NoText := itab_mk cl_NoText (tabs_cons cl_NoFight sb_NoFight_NoText tabs_nil)
  have it_NoName : ITab K mg "NoName" it_tab_NoName := itab_mk cl_NoName (tabs_cons cl_NoFight sb_NoFight_NoName tabs_nil)
  have it_NoField : ITab K mg "NoField" it_tab_NoField := itab_mk cl_NoField (tabs_cons cl_NoFight sb_NoFight_NoField tabs_nil)
  have it_NoCrossing : ITab K mg "NoCrossing" it_tab_NoCrossing := itab_mk cl_NoCrossing (tabs_cons cl_NoFight sb_NoFight_NoCrossing tabs_nil)
  have it_NoBoard : ITab K mg "NoBoard" it_tab_NoBoard := itab_mk cl_NoBoard (tabs_cons cl_NoFight sb_NoFight_NoBoard tabs_nil)
  have it_Again : ITab K mg "Again" it_tab_Again := itab_mk cl_Again (tabs_cons cl_NoFight sb_NoFight_Again tabs_nil)
  have it_NoFight : ITab K mg "NoFight" it_tab_NoFight := itab_mk cl_NoFight (tabs_cons cl_NoFight xs_NoFight tabs_nil)
  have it_ValueError : ITab K mg "ValueError" it_tab_ValueError := itab_ty (PySem.W.mg_none_of X G xo_ValueError) (by decide +kernel) (by decide) (by decide +kernel) (tabs_cons cl_NoFight sb_NoFight_ValueError tabs_nil)
  have ct_RingError : CTab K mg "RingError" ct_tab_RingError := ctab_mk cl_RingError (tabs_cons cl_NoFight sb_NoFight_RingError tabs_nil)
  letI : ObC "Fight" := ⟨C_Fight⟩
  have ok_Fight : ObOk K "Fight" := ⟨⟨og_Fight, oh_Fight, oo_Fight, os_Fight⟩, fun f m => by
    have m : f ∈ (["aim", "the_field", "first_board", "the_rules", "the_web"] : List PySem.Str) := m
    simp only [List.mem_cons, List.not_mem_nil, or_false] at m
    rcases m with rfl | rfl | rfl | rfl | rfl
    · exact of_Fight_aim
    · exact of_Fight_the_field
    · exact of_Fight_first_board
    · exact of_Fight_the_rules
    · exact of_Fight_the_web
    , by decide⟩
  letI : ObC "Chase" := ⟨C_Chase⟩
  have ok_Chase : ObOk K "Chase" := ⟨⟨og_Chase, oh_Chase, oo_Chase, os_Chase⟩, fun f m => by
    have m : f ∈ (["fight"] : List PySem.Str) := m
    simp only [List.mem_cons, List.not_mem_nil, or_false] at m
    rcases m with rfl
    · exact of_Chase_fight
    , by decide⟩
  have g_AGAINS := gtup_mk X G ga0 gl0 gv0 (by decide)
  have d_next_to := isDef_mk (st := s_next_to) X G a0 l0 c0 k0
  have d_is_board := isDef_mk (st := s_is_board) X G a1 l1 c1 k1
  have d_is_board__D := isDef_mk (st := s_is_board__D) X G a2 l2 c2 k2
  have d_chain_of := isDef_mk (st := s_chain_of) X G a3 l3 c3 k3
  have d_empties_by := isDef_mk (st := s_empties_by) X G a4 l4 c4 k4
  have d_chains := isDef_mk (st := s_chains) X G a5 l5 c5 k5
  have d_is_sound := isDef_mk (st := s_is_sound) X G a6 l6 c6 k6
  have d_is_rules := isDef_mk (st := s_is_rules) X G a7 l7 c7 k7
  have d_is_crossing := isDef_mk (st := s_is_crossing) X G a8 l8 c8 k8
  have d_is_field := isDef_mk (st := s_is_field) X G a9 l9 c9 k9
  have d_are_fight_rules := isDef_mk (st := s_are_fight_rules) X G a10 l10 c10 k10
  have d_Fight___init__ : IsIni K "Fight" "Fight.__init__" s_Fight___init__ := ⟨f11, _, fun_mk (st := s_Fight___init__) l11 c11 k11, ⟨om_Fight, a11, im11, oq_Fight⟩⟩
  have d_Fight_holder : IsMeth K "Fight" "Fight.holder" "holder" s_Fight_holder := ⟨f12, _, fun_mk (st := s_Fight_holder) l12 c12 k12, ⟨a12, im12, k12⟩⟩
  have d_live_together := isDef_mk (st := s_live_together) X G a13 l13 c13 k13
  have d_Chase___init__ : IsIni K "Chase" "Chase.__init__" s_Chase___init__ := ⟨f14, _, fun_mk (st := s_Chase___init__) l14 c14 k14, ⟨om_Chase, a14, im14, oq_Chase⟩⟩
  have d_ladder := isDef_mk (st := s_ladder) X G a15 l15 c15 k15
  have d__law_numbers := isDef_mk (st := s__law_numbers) X G a16 l16 c16 k16
  have d__law_cell_at := isDef_mk (st := s__law_cell_at) X G a17 l17 c17 k17
  have d__law_nexts := isDef_mk (st := s__law_nexts) X G a18 l18 c18 k18
  have d__law_chain := isDef_mk (st := s__law_chain) X G a19 l19 c19 k19
  have d__law_breaths := isDef_mk (st := s__law_breaths) X G a20 l20 c20 k20
  have d__law_put := isDef_mk (st := s__law_put) X G a21 l21 c21 k21
  have d__law_cleared := isDef_mk (st := s__law_cleared) X G a22 l22 c22 k22
  have d__law_web := isDef_mk (st := s__law_web) X G a23 l23 c23 k23
  have d__law_drawn := isDef_mk (st := s__law_drawn) X G a24 l24 c24 k24
  have d__law_marks := isDef_mk (st := s__law_marks) X G a25 l25 c25 k25
  have d__law_no_together := isDef_mk (st := s__law_no_together) X G a26 l26 c26 k26
  have d__law_no_ladder := isDef_mk (st := s__law_no_ladder) X G a27 l27 c27 k27
  have d__law_bad := isDef_mk (st := s__law_bad) X G a28 l28 c28 k28
  have d__law_unsound := isDef_mk (st := s__law_unsound) X G a29 l29 c29 k29
  refine ⟨PySem.W.fnOf "law" "law" (defArgs s_law) (defBody s_law) (defScope s_law) .none kV30 dc30 pm30 an30 cd30 ct30, fun s v => .of_eq rfl, fun base _ _ => ?_⟩
  have c_next_to := cal_next_to (P := l.prog) (w := w) (base := base) d_next_to  b_sorted  
  have c_is_board := cal_is_board (P := l.prog) (w := w) (base := base) d_is_board  b_isinstance b_str b_len  
  have c_is_board__D := cal_is_board__D (P := l.prog) (w := w) (base := base) d_is_board__D  b_isinstance b_str b_len  
  have c_chain_of := cal_chain_of (P := l.prog) (w := w) (base := base) d_chain_of c_next_to b_len b_sorted  
  have c_empties_by := cal_empties_by (P := l.prog) (w := w) (base := base) d_empties_by c_next_to b_sorted  
  have c_chains := cal_chains (P := l.prog) (w := w) (base := base) d_chains c_chain_of b_range  
  have c_is_sound := cal_is_sound (P := l.prog) (w := w) (base := base) d_is_sound c_empties_by c_chains   
  have c_is_rules := cal_is_rules (P := l.prog) (w := w) (base := base) d_is_rules  b_isinstance b_tuple b_len b_str b_bool g_AGAINS 
  have c_is_crossing := cal_is_crossing (P := l.prog) (w := w) (base := base) d_is_crossing  b_isinstance b_int b_bool  
  have c_is_field := cal_is_field (P := l.prog) (w := w) (base := base) d_is_field c_is_crossing b_isinstance b_list  
  have c_are_fight_rules := cal_are_fight_rules (P := l.prog) (w := w) (base := base) d_are_fight_rules c_is_rules   
  have c_Fight___init__ := cal_Fight___init__ (P := l.prog) (w := w) (base := base) d_Fight___init__ (PySem.W.mg_of X G oa_Fight) c_is_board__D c_is_sound c_is_crossing c_is_field c_are_fight_rules b_list  x_NoFight ok_Fight
  have c_Fight_holder := cal_Fight_holder (P := l.prog) (w := w) (base := base) d_Fight_holder    ok_Fight
  have c_live_together := cal_live_together (P := l.prog) (w := w) (base := base) d_live_together c_Fight___init__ c_Fight_holder   x_NoFight ok_Fight
  have c_Chase___init__ := cal_Chase___init__ (P := l.prog) (w := w) (base := base) d_Chase___init__ (PySem.W.mg_of X G oa_Chase)    ok_Chase
  have c_ladder := cal_ladder (P := l.prog) (w := w) (base := base) d_ladder c_Fight___init__ c_Chase___init__ b_list b_range  
  have c__law_numbers := cal__law_numbers (P := l.prog) (w := w) (base := base) d__law_numbers  b_max b_len b_range  
  have c__law_cell_at := cal__law_cell_at (P := l.prog) (w := w) (base := base) d__law_cell_at  b_len  
  have c__law_nexts := cal__law_nexts (P := l.prog) (w := w) (base := base) d__law_nexts  b_range b_sorted  
  have c__law_chain := cal__law_chain (P := l.prog) (w := w) (base := base) d__law_chain  b_len b_sorted  
  have c__law_breaths := cal__law_breaths (P := l.prog) (w := w) (base := base) d__law_breaths  b_sorted  
  have c__law_put := cal__law_put (P := l.prog) (w := w) (base := base) d__law_put  b_len b_range b_int  
  have c__law_cleared := cal__law_cleared (P := l.prog) (w := w) (base := base) d__law_cleared c__law_chain c__law_breaths c__law_put b_len b_range  
  have c__law_web := cal__law_web (P := l.prog) (w := w) (base := base) d__law_web c__law_numbers b_range b_tuple  
  have c__law_drawn := cal__law_drawn (P := l.prog) (w := w) (base := base) d__law_drawn c__law_numbers c__law_cell_at c__law_nexts c__law_cleared c__law_web b_range b_tuple b_sorted b_set b_len  
  have c__law_marks := cal__law_marks (P := l.prog) (w := w) (base := base) d__law_marks  b_isinstance  it_TooMany it_NoText it_NoName it_NoField it_NoCrossing it_NoBoard it_Again it_NoFight it_ValueError
  have c__law_marks_77 := cal__law_marks_77 (P := l.prog) (w := w) (base := base) d__law_marks  b_isinstance  it_TooMany it_NoText it_NoName it_NoField it_NoCrossing it_NoBoard it_Again it_NoFight it_ValueError
  have c__law_no_together := cal__law_no_together (P := l.prog) (w := w) (base := base) d__law_no_together c_live_together c__law_marks_77   ct_RingError
  have c__law_no_ladder := cal__law_no_ladder (P := l.prog) (w := w) (base := base) d__law_no_ladder c_ladder c__law_marks_77   ct_RingError
  have c__law_bad := cal__law_bad (P := l.prog) (w := w) (base := base) d__law_bad  b_list b_tuple b_range b_str  
  have c__law_unsound := cal__law_unsound (P := l.prog) (w := w) (base := base) d__law_unsound c__law_no_together c__law_no_ladder b_int  
  exact law_ok (fn_law (fun_mk (st := s_law) l30 c30 k30) c__law_numbers c__law_cell_at c__law_drawn c__law_no_together c__law_no_ladder c__law_bad c__law_unsound b_range b_list b_len  ) hg
end K58

namespace K58
open PySem PySem.Spec PyProof.Rows L2 G
theorem numbers (c : Int) (sizes : List Int) (hl : sizes.length ≤ 100000) (hs : ∀ z ∈ sizes, 0 < z ∧ z < 10 ^ 70) : Sat (m_l_numbers c sizes) (Digits sizes) := by
  unfold m_l_numbers
  refine .bok (.bok (.bok (.bassoc (.brange (by omega) (by omega) ?_))))
  rw [Int.toNat_natCast]
  refine .bind (P := fun s => Digits sizes s.1) ?_ fun s p => .ok p
  refine (Sat.foldR (fun i s => s.1.length = i ∧ ∀ (j : Nat) (d z : Int), s.1[j]? = some d → sizes[j]? = some z → 0 ≤ d ∧ d < z) ⟨rfl, fun j d z h => by cases h⟩ ?_).imp fun s ⟨a, b⟩ => ⟨by rw [a, rangeL_len], b⟩
  intro i s a ha ⟨l, p⟩
  obtain ⟨hi, rfl⟩ := rangeL0 ha
  obtain ⟨z, hz⟩ : ∃ z, sizes[i]? = some z := ⟨_, get_of hi⟩
  have hz0 := hs z (List.mem_of_getElem? hz)
  have fin : ∀ (x : Int) (y : Int), Sat (Res.ok ((s.1 ++ [x % z]), y)) (fun s : List Int × Int => s.1.length = i + 1 ∧ ∀ (j : Nat) (d z : Int), s.1[j]? = some d → sizes[j]? = some z → 0 ≤ d ∧ d < z) := by
    intro x y
    refine .ok ⟨by rw [List.length_append, l]; rfl, fun j d z' hd hz' => ?_⟩
    by_cases hj : j < s.1.length
    · rw [List.getElem?_append_left hj] at hd
      exact p j d z' hd hz'
    · rw [List.getElem?_append_right (by omega)] at hd
      have : j = i := by
        have := (List.getElem?_eq_some_iff.mp hd).1
        rw [List.length_singleton] at this
        omega
      subst this
      rw [l, Nat.sub_self] at hd
      injection hd with hd
      rw [hz] at hz'
      injection hz' with hz'
      subst hz' hd
      exact ⟨Int.emod_nonneg _ (by omega), Int.emod_lt_of_pos _ hz0.1⟩
  have gz : sizes[(i : Int).toNat]? = some z := by rw [Int.toNat_natCast]; exact hz
  have B1 : ∀ x : Int, -(2 ^ 64) < x % 2147483647 ∧ x % 2147483647 < 2 ^ 64 := fun x => by omega
  repeat' first
    | with_reducible refine Sat.bassoc ?_
    | with_reducible refine Sat.bok ?_
    | with_reducible refine Sat.bite (fun _ => ?_) (fun _ => ?_)
    | with_reducible refine Sat.bidx (by omega) gz ?_
    | with_reducible refine Sat.bmul (by first | exact .inl (by omega) | exact .inr (by omega) | exact .inl (B1 _)) ?_
    | with_reducible refine Sat.bmod (by first | exact hz0.1 | omega) ?_
    | with_reducible refine Sat.bdiv (by first | exact hz0.1 | omega) (by first | exact hz0.2 | omega) ?_
    | with_reducible refine Sat.bapp (by omega) ?_
    | exact fin _ _
theorem nextTo (w : Int × Tup (Int × Int)) (h : WebOk w) (k : Int) : m_next_to w k = .ok (nextL w k) := by
  refine Sat.eq ?_
  unfold m_next_to
  have hl := h.len
  refine .bok ?_
  refine .bind (Sat.foldR (fun i s => s = nbrs (w.2.l.take i) k) (by rw [List.take_zero]; rfl) ?_) fun s e => ?_
  · rintro i s t ht rfl
    have hi := (List.getElem?_eq_some_iff.mp ht).1
    have hb := nbrs_len (ts := w.2.l.take i) (k := k)
    rw [List.length_take] at hb
    have e : nbrs (w.2.l.take (i + 1)) k = nbrs (w.2.l.take i) k ++ nbr k t := by
      unfold nbrs
      rw [List.take_succ, ht, List.flatMap_append]
      simp
    rw [e]
    unfold nbr
    by_cases h1 : t.1 = k <;> by_cases h2 : t.2 = k
    · rw [eqII, eqII, decide_eq_true h1, decide_eq_true h2, if_pos h1, if_pos h2]
      refine .bassoc (.bapp (by omega) (.bok (.bassoc (.bapp (by rw [List.length_append, List.length_singleton]; omega) (.bok (.ok ?_))))))
      rw [List.append_assoc]
    · rw [eqII, eqII, decide_eq_true h1, decide_eq_false h2, if_pos h1, if_neg h2, List.append_nil]
      exact .bassoc (.bapp (by omega) (.bok (.bok (.ok rfl))))
    · rw [eqII, eqII, decide_eq_false h1, decide_eq_true h2, if_neg h1, if_pos h2, List.nil_append]
      exact .bok (.bassoc (.bapp (by omega) (.bok (.ok rfl))))
    · rw [eqII, eqII, decide_eq_false h1, decide_eq_false h2, if_neg h1, if_neg h2, List.append_nil, List.append_nil]
      exact .bok (.bok (.ok rfl))
  · subst e
    rw [List.take_length]
    exact .ok (sort_nbrs h k)
theorem nexts (w : Int × Tup (Int × Int)) (h : WebOk w) : m_l_nexts w = .ok (nextsL w) := by
  refine Sat.eq ?_
  unfold m_l_nexts
  have hl := h.len
  have n1 := h.n1
  have n2 := h.n2
  have rl : (rangeL 0 w.1.toNat).length ≤ 40 := by rw [rangeL_len]; omega
  refine .bassoc (.brange (by omega) (by omega) ?_)
  rw [lcT_map (g' := fun _ => ([] : List Int)) (by omega) (fun _ _ => rfl)]
  refine .bok ?_
  refine .bind (Sat.foldR (fun i s => s = (rangeL 0 w.1.toNat).map (nbrs (w.2.l.take i))) (by rw [List.take_zero]; rfl) ?_) fun s e => ?_
  · rintro i s t ht rfl
    have hi := (List.getElem?_eq_some_iff.mp ht).1
    have ⟨ta, tb, tc⟩ := h.ok t (List.mem_of_getElem? ht)
    have hb : ∀ k, (nbrs (w.2.l.take i) k).length ≤ 400 := fun k => by
      have := nbrs_len (ts := w.2.l.take i) (k := k)
      rw [List.length_take] at this
      omega
    have e : ∀ k, nbrs (w.2.l.take (i + 1)) k = nbrs (w.2.l.take i) k ++ nbr k t := fun k => by
      unfold nbrs
      rw [List.take_succ, ht, List.flatMap_append]
      simp
    refine .bassoc ?_
    rw [idx_rangeMap (by omega) (by omega)]
    refine .bok (.bassoc (.bapp (Nat.le_trans (hb _) (by decide)) (.bok ?_)))
    rw [set_rangeMap (by omega) (by omega)]
    refine .bassoc ?_
    rw [idx_rangeMap (by omega) (by omega)]
    rw [if_neg (by omega)]
    refine .bok (.bassoc (.bapp (Nat.le_trans (hb _) (by decide)) (.bok ?_)))
    rw [set_rangeMap (by omega) (by omega)]
    refine .ok ?_
    refine List.map_congr_left fun k _ => ?_
    rw [e]
    unfold nbr
    by_cases h1 : t.1 = k <;> by_cases h2 : t.2 = k
    · omega
    · rw [if_neg (by omega), if_pos h1.symm, if_pos h1, if_neg h2, h1, List.append_nil]
    · rw [if_pos h2.symm, if_neg h1, if_pos h2, h2, List.nil_append]
    · rw [if_neg (by omega), if_neg (by omega), if_neg h1, if_neg h2, List.append_nil, List.append_nil]
  · subst e
    rw [List.take_length, lcT_map (g' := sortI) (by rw [List.length_map]; omega) (fun _ _ => rfl), List.map_map]
    refine .ok ?_
    unfold nextsL
    exact List.map_congr_left fun k _ => sort_nbrs h k
theorem lawChain (w : Int × Tup (Int × Int)) (h : WebOk w) (b : Str) (hb : b.length = w.1.toNat) (k : Int) (hk : 0 ≤ k ∧ k < w.1) : Sat (m_l_chain (nextsL w) b k) (Chain w b k) := by
  unfold m_l_chain
  have n1 := h.n1
  have n2 := h.n2
  simp only [Res.okb]
  refine .bind (bfs (nb := nextL w) (okb := fun y => decide (sgn b y = sgn b k)) n2 hk (fun x _ _ y my => (nextL_rise w (by omega) x).2 y my) (fun s i => rfl) (fun s i x hx hs hr => ?_)) fun s ⟨h1, h2, h3⟩ => .ok (chain_of_bfs h h1 h2 h3)
  have hx' := hr x (List.mem_of_getElem? hx)
  rw [idx_int (by omega) (by rw [Int.toNat_natCast]; exact hx)]
  simp only [Res.okb]
  unfold nextsL
  rw [idx_rangeMap hx'.1 (by omega)]
  simp only [Res.okb]
  rw [inner h hb hk hs]
  rfl
theorem chainOf (w : Int × Tup (Int × Int)) (h : WebOk w) (b : Str) (hb : b.length = w.1.toNat) (k : Int) (hk : 0 ≤ k ∧ k < w.1) (hd : sgn b k ≠ PySem.Str.ofString ".") : Sat (m_chain_of w b k) (Chain w b k) := by
  unfold m_chain_of
  have n1 := h.n1
  have n2 := h.n2
  refine .bassoc (.beq (strIx_sgn (by omega) hk.1 (by omega)) (.bok ?_))
  rw [eqSS, decide_eq_false hd]
  refine .ite (fun h => by cases h) (fun _ => .bok (.bok ?_))
  refine .bind (bfs (nb := nextL w) (okb := fun y => decide (sgn b y = sgn b k)) n2 hk (fun x _ _ y my => (nextL_rise w (by omega) x).2 y my) (fun s i => rfl) (fun s i x hx hs _ => ?_)) fun s ⟨h1, h2, h3⟩ => .ok (chain_of_bfs h h1 h2 h3)
  rw [idx_int (by omega) (by rw [Int.toNat_natCast]; exact hx)]
  simp only [Res.okb]
  rw [nextTo w h]
  simp only [Res.okb]
  rw [inner h hb hk hs]
  rfl
theorem lawBreaths (w : Int × Tup (Int × Int)) (h : WebOk w) (b : Str) (hb : b.length = w.1.toNat) (ch : List Int) (hc : ∀ c ∈ ch, 0 ≤ c ∧ c < w.1) : Sat (m_l_breaths (nextsL w) b ch) (Breath w b ch) := by
  unfold m_l_breaths
  have n1 := h.n1
  have n2 := h.n2
  refine .bok (.bind (Sat.foldR (fun i s => s.Nodup ∧ (∀ x ∈ s, 0 ≤ x ∧ x < w.1) ∧ ∀ x, x ∈ s ↔ (∃ c ∈ ch.take i, x ∈ nextL w c) ∧ sgn b x = PySem.Str.ofString ".") ⟨.nil, (fun x m => by cases m), fun x => by simp⟩ ?_) fun s ⟨h1, h2, h3⟩ => .ok (breath_of h h1 h2 fun x => by rw [h3, List.take_length]))
  rintro i s k hk ⟨h1, h2, h3⟩
  have rk := hc k (List.mem_of_getElem? hk)
  have hl : s.length ≤ w.1.toNat := nodup_len _ h1 fun x m => by have := h2 x m; omega
  have hn := nextL_len w h k
  unfold nextsL
  rw [idx_rangeMap rk.1 (by omega)]
  refine .bassoc (.bassoc (.bok ?_))
  have e : lcT (fun a5 => (Res.bind (Res.bind (strIx b a5) fun v6 => (Res.ok (ScaEq.eq v6 (PySem.Str.ofString ".")))) fun v7 => (if v7 then (Res.ok (!decide (a5 ∈ s))) else (Res.ok false)))) (fun a5 => (Res.ok a5)) (nextL w k) = .ok ((nextL w k).filter fun x => dotb b x && !decide (x ∈ s)) := by
    refine Sat.eq (.lcT (p' := fun x => dotb b x && !decide (x ∈ s)) (g' := fun x => x) (by omega) (fun a ha => ?_) (fun _ _ _ => rfl) (by rw [List.map_id']))
    have ra := (nextL_rise w (by omega) k).2 a ha
    rw [strIx_sgn (by omega) ra.1 (by omega)]
    simp only [Res.okb, eqSS]
    unfold dotb
    by_cases e : sgn b a = PySem.Str.ofString "."
    · simp [e]
    · simp [e]
  rw [e]
  have hf : ((nextL w k).filter fun x => dotb b x && !decide (x ∈ s)).length ≤ (nextL w k).length := List.length_filter_le _ _
  refine .bok ?_
  rw [extR_ok (by omega)]
  refine .bok (.ok ?_)
  have g := filt_grow (okb := dotb b) (as := nextL w k) (s := s) (t := s) ((nextL_rise w (by omega) k).1.imp fun h => by omega) fun x _ => Iff.rfl
  rw [← g]
  exact grow_step w h b hk h1 h2 h3
theorem emptiesBy (w : Int × Tup (Int × Int)) (h : WebOk w) (b : Str) (hb : b.length = w.1.toNat) (ch : List Int) : Sat (m_empties_by w b ch) (Breath w b ch) := by
  unfold m_empties_by
  have n1 := h.n1
  have n2 := h.n2
  refine .bok (.bind (Sat.foldR (fun i s => s.Nodup ∧ (∀ x ∈ s, 0 ≤ x ∧ x < w.1) ∧ ∀ x, x ∈ s ↔ (∃ c ∈ ch.take i, x ∈ nextL w c) ∧ sgn b x = PySem.Str.ofString ".") ⟨.nil, (fun x m => by cases m), fun x => by simp⟩ ?_) fun s ⟨h1, h2, h3⟩ => .ok (breath_of h h1 h2 fun x => by rw [h3, List.take_length]))
  rintro i s k hk ⟨h1, h2, h3⟩
  rw [nextTo w h]
  have hl : s.length ≤ w.1.toNat := nodup_len _ h1 fun x m => by have := h2 x m; omega
  have hn := nextL_len w h k
  refine .bassoc (.bok ?_)
  rw [foldR_grow (okb := dotb b) (fun a ha s hs => ?_) (by omega)]
  · exact .ok (grow_step w h b hk h1 h2 h3)
  · have ra := (nextL_rise w (by omega) k).2 a ha
    rw [strIx_sgn (by omega) ra.1 (by omega)]
    simp only [Res.okb, eqSS]
    unfold dotb
    by_cases e : sgn b a = PySem.Str.ofString "."
    · by_cases m : a ∈ s
      · simp [e, m]
      · simp only [e, decide_true, if_true, m, decide_false, Bool.not_false, Res.okb, not_false_eq_true, and_self]
        rw [appR_ok (by omega)]; rfl
    · simp [e]
theorem put_is {b : Str} (hl : b.length ≤ 1000) (some' : List Int) (c : Nat) : m_l_put b some' ⟨#[c]⟩ = .ok (putL b some' c) := by
  refine Sat.eq ?_
  unfold m_l_put
  rw [strLen_ok (by omega)]
  simp only [Res.okb]
  rw [range_ok (by omega) (by omega), Int.toNat_natCast]
  simp only [Res.okb]
  rw [lcT_map (g' := fun k => (⟨#[if k ∈ some' then c else cpOf b k]⟩ : Str)) (by rw [rangeL_len]; omega) (fun k m => by
    have hk := mem_rangeL.mp m
    rw [strIx_sgn (by omega) hk.1 (by omega)]
    simp only [Res.okb]
    by_cases e : k ∈ some'
    · rw [decide_eq_true e, if_pos rfl, if_pos e]; rfl
    · rw [decide_eq_false e, if_neg Bool.false_ne_true, if_neg e]; rfl)]
  have p1 : ∀ x ∈ ((rangeL 0 b.length).map fun k => (⟨#[if k ∈ some' then c else cpOf b k]⟩ : Str)), x.length = 1 := fun x m => by
    obtain ⟨k, _, rfl⟩ := List.mem_map.mp m; rfl
  have hs := sumLen_of_ones _ p1
  have z : (PySem.Str.ofString "").length = 0 := by decide
  have ml : ((rangeL 0 b.length).map fun k => (⟨#[if k ∈ some' then c else cpOf b k]⟩ : Str)).length = b.length := by rw [List.length_map, rangeL_len]
  simp only [Res.okb]
  rw [joinR_ok (by rw [z]; omega)]
  refine .ok ?_
  have : (Txt.join (PySem.Str.ofString "") ((rangeL 0 b.length).map fun k => (⟨#[if k ∈ some' then c else cpOf b k]⟩ : Str))).cps.toList = (putL b some' c).cps.toList := by
    rw [join_cps, putL_cps, List.flatMap_map]
    induction rangeL 0 b.length with
    | nil => rfl
    | cons a l ih => rw [List.flatMap_cons, ih]; rfl
  cases h : Txt.join (PySem.Str.ofString "") ((rangeL 0 b.length).map fun k => (⟨#[if k ∈ some' then c else cpOf b k]⟩ : Str)) with
  | mk x =>
    rw [h] at this
    cases h2 : putL b some' c with
    | mk y =>
      rw [h2] at this
      congr 1
      exact Array.ext' this
theorem cleared_is {w : Int × Tup (Int × Int)} (h : WebOk w) {b : Str} (hb : b.length = w.1.toNat) : m_l_cleared (nextsL w) b = .ok (clearedL w b) := by
  refine Sat.eq ?_
  unfold m_l_cleared
  have n1 := h.n1
  have n2 := h.n2
  simp only [Res.okb]
  rw [strLen_ok (by omega)]
  simp only [Res.okb]
  rw [range_ok (by omega) (by omega), Int.toNat_natCast]
  simp only [Res.okb]
  refine .bind (P := fun g => g = goneL w b) ((Sat.foldR (fun i s => s = (rangeL 0 i).filter fun k => !decide (sgn b k = dot) && !breathB w b k) rfl fun i s k hk hs => ?_).imp fun g e => by rw [e, rangeL_len, hb]; rfl) fun g e => ?_
  · obtain ⟨hi, rfl⟩ := rangeL0 hk
    have hk : 0 ≤ (i : Int) ∧ (i : Int) < w.1 := by omega
    refine .bind (lawChain w h b hb _ hk) fun ch hch => ?_
    have hl : s.length ≤ i := by
      rw [hs]
      exact Nat.le_trans (List.length_filter_le _ _) (by rw [rangeL_len]; exact Nat.le_refl _)
    rw [rangeL_succ, List.filter_append, ← hs, List.filter_cons, strIx_sgn (by omega) hk.1 (by omega)]
    simp only [Res.okb, eqSS]
    by_cases hd : sgn b (i : Int) = dot
    · rw [decide_eq_true hd, if_neg (by simp)]
      simp only [Bool.not_true, Bool.false_eq_true, if_false, Res.okb, List.filter_nil, List.append_nil, Bool.false_and]
      exact .ok rfl
    · rw [decide_eq_false hd]
      simp only [Bool.not_false, if_true, Res.bind_assoc, Bool.true_and]
      refine .bind (lawBreaths w h b hb ch fun c m => hch.1.2 c m) fun br hbr => ?_
      rw [eqD_eq]
      simp only [Res.okb]
      have key : decide (br = []) = !breathB w b (i : Int) := by
        rw [Bool.eq_iff_iff, decide_eq_true_iff, Bool.not_eq_true', ← Bool.not_eq_true, breathB_iff]
        constructor
        · rintro rfl ⟨x, r, y, my, hy⟩
          have := (hbr.2.2 y).mpr ⟨⟨x, (hch.2.2 x).mpr r, my⟩, hy⟩
          cases this
        · intro hn
          cases e : br with
          | nil => rfl
          | cons a l =>
            have := (hbr.2.2 a).mp (by rw [e]; exact List.mem_cons_self)
            obtain ⟨⟨c, mc, ma⟩, ha⟩ := this
            exact (hn ⟨c, (hch.2.2 c).mp mc, a, ma, ha⟩).elim
      rw [key]
      cases breathB w b (i : Int) with
      | true =>
        simp only [Bool.not_true, Bool.false_eq_true, if_false, Res.okb, List.filter_nil, List.append_nil]
        exact .ok rfl
      | false =>
        simp only [Bool.not_false, if_true, List.filter_nil]
        exact .bassoc (.bapp (xs := s) (by omega) (.bok (.ok rfl)))
  · subst e
    show Sat (m_l_put b _ dot) _
    rw [dot_eq, put_is (by omega)]
    exact .ok rfl
theorem cleared_sat {w : Int × Tup (Int × Int)} (h : WebOk w) {b : Str} (hb : b.length = w.1.toNat) (ho : signOk b) : Sat (m_l_cleared (nextsL w) b) (fun b' => b'.length = w.1.toNat ∧ signOk b' ∧ Sound w b') := by
  rw [cleared_is h hb]
  exact .ok ⟨by unfold clearedL; rw [putL_len]; exact hb, putL_ok ho _ (.inl rfl), cleared_sound h hb⟩
theorem xo_sign {d : Int} (h0 : 0 ≤ d) (h1 : d < 3) {t : Str} (ht : t.length = 3) (hs : signOk t) : Sat (strIx t d) (fun b => b.length = 1 ∧ signOk b) := by
  refine .of_eq (strIx_sgn (by omega) h0 (by omega)) ⟨rfl, fun c m => ?_⟩
  have : c = cpOf t d := by
    have : (sgn t d).cps.toList = [cpOf t d] := rfl
    rw [this] at m
    exact List.mem_singleton.mp m
  rw [this]
  exact signOk_at hs h0 (by omega)
theorem join_signs {bs : List Str} (h : ∀ b ∈ bs, b.length = 1 ∧ signOk b) (hl : bs.length ≤ 1000) : Sat (joinR (PySem.Str.ofString "") bs) (fun b => b.length = bs.length ∧ signOk b) := by
  have z : (PySem.Str.ofString "").length = 0 := by decide
  have hs := sumLen_of_ones bs fun b m => (h b m).1
  refine .of_eq (joinR_ok (by rw [z]; omega)) ⟨by rw [join_len, z, hs, Nat.mul_zero]; rfl, fun c m => ?_⟩
  rw [join_cps] at m
  obtain ⟨x, mx, mc⟩ := List.mem_flatMap.mp m
  exact (h x mx).2 c mc
def okD {α : Type} (d : α) (m : Res α) : α := match m with
  | .ok a => a
  | _ => d
theorem okD_ok {α : Type} {d a : α} {m : Res α} (h : m = .ok a) : okD d m = a := by rw [h]; rfl
def CH (w : Int × Tup (Int × Int)) (b : Str) (k : Int) : List Int := okD [] (m_chain_of w b k)
def EM (w : Int × Tup (Int × Int)) (b : Str) (ch : List Int) : List Int := okD [] (m_empties_by w b ch)
theorem ch_ok {w : Int × Tup (Int × Int)} (h : WebOk w) {b : Str} (hb : b.length = w.1.toNat) {k : Int} (hk : 0 ≤ k ∧ k < w.1) (hd : sgn b k ≠ dot) :
    m_chain_of w b k = .ok (CH w b k) ∧ m_l_chain (nextsL w) b k = .ok (CH w b k) ∧ Chain w b k (CH w b k) := by
  obtain ⟨l, e1, c1⟩ := chainOf w h b hb k hk hd
  obtain ⟨m, e2, c2⟩ := lawChain w h b hb k hk
  have := c1.uniq c2
  subst this
  unfold CH
  rw [okD_ok e1]
  exact ⟨e1, e2, c1⟩
theorem em_ok {w : Int × Tup (Int × Int)} (h : WebOk w) {b : Str} (hb : b.length = w.1.toNat) (ch : List Int) : m_empties_by w b ch = .ok (EM w b ch) ∧ Breath w b ch (EM w b ch) := by
  obtain ⟨x1, f1, b1⟩ := emptiesBy w h b hb ch
  unfold EM
  rw [okD_ok f1]
  exact ⟨f1, b1⟩
def step (w : Int × Tup (Int × Int)) (b : Str) (st : List Int × List (List Int)) (k : Int) : List Int × List (List Int) := if sgn b k ≠ dot ∧ k ∉ st.1 then (st.1 ++ CH w b k, st.2 ++ [CH w b k]) else st
def upto (w : Int × Tup (Int × Int)) (b : Str) (i : Nat) : List Int × List (List Int) := ((rangeL 0 w.1.toNat).take i).foldl (step w b) ([], [])
def DD (w : Int × Tup (Int × Int)) (b : Str) : List (List Int) := (upto w b w.1.toNat).2
theorem upto_succ {w : Int × Tup (Int × Int)} {b : Str} {i : Nat} (h : i < w.1.toNat) : upto w b (i + 1) = step w b (upto w b i) (i : Int) := by
  have e : (rangeL 0 w.1.toNat)[i]? = some (i : Int) := by
    unfold rangeL
    rw [List.getElem?_map, List.getElem?_range h]
    show some (0 + (i : Int)) = _
    congr 1; omega
  unfold upto
  rw [List.take_succ, e, List.foldl_append]
  rfl
structure Up (w : Int × Tup (Int × Int)) (b : Str) (i : Nat) : Prop where
  l1 : (upto w b i).1.length ≤ 40 * i
  l2 : (upto w b i).2.length ≤ i
  ch : ∀ d ∈ (upto w b i).2, ∃ k, (0 ≤ k ∧ k < w.1) ∧ sgn b k ≠ dot ∧ d = CH w b k
  all : ∀ j : Int, 0 ≤ j → j < i → sgn b j ≠ dot → j ∈ (upto w b i).1
  fl : (upto w b i).1 = (upto w b i).2.flatten
theorem up {w : Int × Tup (Int × Int)} (h : WebOk w) {b : Str} (hb : b.length = w.1.toNat) : ∀ i : Nat, i ≤ w.1.toNat → Up w b i
  | 0, _ => ⟨Nat.le_refl _, Nat.le_refl _, (fun d m => by cases m), (fun j h0 h1 => by omega), rfl⟩
  | i + 1, hi => by
    have ih := up h hb i (by omega)
    have n1 := h.n1
    have hk : 0 ≤ (i : Int) ∧ (i : Int) < w.1 := by omega
    have e := upto_succ (w := w) (b := b) (i := i) (by omega)
    unfold step at e
    by_cases hc : sgn b (i : Int) ≠ dot ∧ (i : Int) ∉ (upto w b i).1
    · rw [if_pos hc] at e
      obtain ⟨_, _, c⟩ := ch_ok h hb hk hc.1
      have hl := c.2.1
      have mem : (i : Int) ∈ CH w b (i : Int) := (c.2.2 _).mpr .here
      have := ih.l1
      have := ih.l2
      refine ⟨?_, ?_, ?_, ?_, ?_⟩
      · rw [e, List.length_append]; omega
      · rw [e, List.length_append, List.length_singleton]; omega
      · rw [e]
        intro d m
        rcases List.mem_append.mp m with m | m
        · exact ih.ch d m
        · exact ⟨i, hk, hc.1, List.mem_singleton.mp m⟩
      · rw [e]
        intro j h0 h1 hd
        by_cases ej : j = (i : Int)
        · subst ej; exact List.mem_append_right _ mem
        · exact List.mem_append_left _ (ih.all j h0 (by omega) hd)
      · rw [e]
        show _ ++ _ = (_ ++ [_]).flatten
        rw [List.flatten_append, ← ih.fl]; simp
    · rw [if_neg hc] at e
      have := ih.l1
      have := ih.l2
      refine ⟨by rw [e]; omega, by rw [e]; omega, by rw [e]; exact ih.ch, ?_, by rw [e]; exact ih.fl⟩
      rw [e]
      intro j h0 h1 hd
      by_cases ej : j = (i : Int)
      · subst ej
        by_cases m : (i : Int) ∈ (upto w b i).1
        · exact m
        · exact (hc ⟨hd, m⟩).elim
      · exact ih.all j h0 (by omega) hd
theorem chains_are {w : Int × Tup (Int × Int)} (h : WebOk w) {b : Str} (hb : b.length = w.1.toNat) : m_chains w b = .ok (DD w b) := by
  refine Sat.eq ?_
  unfold m_chains
  have n1 := h.n1
  have n2 := h.n2
  refine .bok (.bok (.bassoc (.brange (by omega) (by omega) ?_)))
  refine .bind (Sat.foldR (fun i s => s = upto w b i) rfl ?_) fun s e => .ok (by rw [e, rangeL_len]; rfl)
  rintro i s k hk rfl
  obtain ⟨hi, rfl⟩ := rangeL0 hk
  have hk : 0 ≤ (i : Int) ∧ (i : Int) < w.1 := by omega
  have u := up h hb i (by omega)
  have e := upto_succ (w := w) (b := b) (i := i) (by omega)
  unfold step at e
  rw [strIx_sgn (by omega) hk.1 (by omega)]
  simp only [Res.okb, eqSS]
  by_cases hd : sgn b (i : Int) = dot
  · rw [if_neg (by simp [hd])] at e
    rw [decide_eq_true hd]
    exact .ok e.symm
  · by_cases hm : (i : Int) ∈ (upto w b i).1
    · rw [if_neg (by simp [hm])] at e
      rw [decide_eq_false hd, decide_eq_true hm]
      exact .ok e.symm
    · rw [if_pos ⟨hd, hm⟩] at e
      rw [decide_eq_false hd, decide_eq_false hm]
      simp only [Bool.not_false, if_true, Res.okb]
      obtain ⟨e1, _, c⟩ := ch_ok h hb hk hd
      have := c.2.1
      have := u.l1
      have := u.l2
      rw [e1]
      simp only [Res.okb]
      rw [extR_ok (by omega)]
      simp only [Res.okb]
      rw [appR_ok (by omega)]
      exact .ok e.symm
def nbr' (w : Int × Tup (Int × Int)) (b : Str) (d : List Int) : Bool := decide (EM w b d = [])
theorem loop_any {L α : Type} {p : α → Bool} {f : Unit → α → Res (Out Unit Unit Bool)} : ∀ {xs : List α}, (∀ a ∈ xs, f () a = .ok (if p a = true then .rt false else .nx ())) → loopO (L := L) f () xs = .ok (if xs.any p = true then .rt false else .nx ())
  | [], _ => rfl
  | a :: as, h => by
    show (f () a).bind _ = _
    rw [h a List.mem_cons_self]
    by_cases e : p a = true
    · rw [if_pos e, if_pos (by simp [e])]; rfl
    · rw [if_neg e]
      show loopO (L := L) f () as = _
      rw [loop_any fun b m => h b (List.mem_cons_of_mem _ m)]
      have : p a = false := by simpa using e
      simp [this]
theorem sound_is {w : Int × Tup (Int × Int)} (h : WebOk w) {b : Str} (hb : b.length = w.1.toNat) : m_is_sound w b = .ok (!(DD w b).any (nbr' w b)) := by
  unfold m_is_sound
  rw [chains_are h hb]
  simp only [Res.okb]
  rw [loop_any (p := nbr' w b) fun d _ => ?_]
  · cases (DD w b).any (nbr' w b) <;> rfl
  · rw [(em_ok h hb d).1]
    simp only [Res.okb]
    rw [eqD_eq]
    simp only [Res.okb]
    unfold nbr'
    cases decide (EM w b d = []) <;> rfl
theorem sound_true {w : Int × Tup (Int × Int)} (h : WebOk w) {b : Str} (hb : b.length = w.1.toNat) (s : Sound w b) : m_is_sound w b = .ok true := by
  rw [sound_is h hb]
  congr 1
  rw [Bool.not_eq_true', List.any_eq_false]
  intro d m
  obtain ⟨k, hk, hd, rfl⟩ := (up h hb _ (Nat.le_refl _)).ch d m
  obtain ⟨_, _, c⟩ := ch_ok h hb hk hd
  obtain ⟨x, r, y, my, hy⟩ := s k hk.1 hk.2 hd
  have := ((em_ok h hb (CH w b k)).2.2.2 y).mpr ⟨⟨x, (c.2.2 x).mpr r, my⟩, hy⟩
  unfold nbr'
  simp only [decide_eq_true_eq]
  intro e
  rw [e] at this; cases this
theorem isboard_is {w : Int × Tup (Int × Int)} (h : WebOk w) {b : Str} (hb : b.length = w.1.toNat) (hs : signOk b) : m_is_board w b = .ok true := by
  have n1 := h.n1
  have n2 := h.n2
  unfold m_is_board
  rw [strLen_ok (by omega)]
  have e : ScaEq.eq (b.length : Int) w.1 = true := decide_eq_true (by omega)
  simp only [Bool.not_true, Bool.false_eq_true, if_false, Res.okb, e]
  refine Sat.eq (.tail (P := fun _ => True) (unit_loop fun i a ha => ?_) fun _ _ => .ok rfl)
  have ma := List.mem_of_getElem? ha
  unfold signsOf at ma
  obtain ⟨c, mc, rfl⟩ := List.mem_map.mp ma
  rw [inS_dotxo, decide_eq_true (hs c mc)]
  exact .next (P := fun _ => True) (.nx trivial) fun _ _ => .nx trivial
def tri (n : Nat) : Nat → Nat
  | 0 => 1
  | i + 1 => tri n i + (n - 1 - i)
theorem rangeL_from {lo : Int} {n i : Nat} {a : Int} (h : (rangeL lo n)[i]? = some a) : i < n ∧ a = lo + (i : Int) := rangeL_get h
noncomputable def stonesL (b : Str) (n : Nat) : List Int := (rangeL 0 n).filter fun k => !decide (sgn b k = dot)
theorem stones_lc {b : Str} {n : Nat} (hb : b.length = n) (hn : n ≤ 1000) : lcT (fun a => Res.bind (strIx b a) fun v => Res.ok (!ScaEq.eq v (PySem.Str.ofString "."))) (fun a => Res.ok a) (rangeL 0 n) = .ok (stonesL b n) := by
  refine Sat.eq (.lcT (p' := fun k => !decide (sgn b k = dot)) (g' := fun k => k) (by rw [rangeL_len]; omega) (fun k m => ?_) (fun _ _ _ => rfl) (by rw [List.map_id']; rfl))
  have := mem_rangeL.mp m
  rw [strIx_sgn (by omega) this.1 (by omega)]; rfl
theorem mem_stonesL {b : Str} {n : Nat} {k : Int} : k ∈ stonesL b n ↔ (0 ≤ k ∧ k < n) ∧ sgn b k ≠ dot := by
  unfold stonesL
  rw [List.mem_filter, mem_rangeL]; simp
structure FOkN (N : Int) (p : T6 (Int × Tup (Int × Int)) (T3 Str Bool Bool) Str (List Int) Int Str) : Prop where
  web : WebOk p.a
  small : p.a.1 ≤ N
  len : p.c.length = p.a.1.toNat
  ok : signOk p.c
  sound : Sound p.a p.c
  pass : p.b.b = true
  again : p.b.a = PySem.Str.ofString "ko" ∨ p.b.a = PySem.Str.ofString "free"
  rise : p.d.Pairwise (· < ·)
  ne : p.d ≠ []
  rg : ∀ x ∈ p.d, 0 ≤ x ∧ x < p.a.1
  aim : 0 ≤ p.e ∧ p.e < p.a.1
  st : sgn p.c p.e ≠ dot
  hand : p.f = ⟨#[120]⟩ ∨ p.f = ⟨#[111]⟩
abbrev FOk := FOkN 8
theorem FOkN.up {N : Int} {p : T6 (Int × Tup (Int × Int)) (T3 Str Bool Bool) Str (List Int) Int Str} (h : FOkN N p) (hN : N ≤ 8) : FOk p := ⟨h.web, Int.le_trans h.small hN, h.len, h.ok, h.sound, h.pass, h.again, h.rise, h.ne, h.rg, h.aim, h.st, h.hand⟩
def szF (most : Int) : List Int := (most - 1) :: (List.replicate 28 3 ++ (List.replicate 7 2 ++ [60, 2, 2, 2]))
theorem rep_cps (c : Nat) (k : Int) : (repS ⟨#[c]⟩ k).cps.toList = List.replicate k.toNat c := by
  unfold repS
  show (List.replicate k.toNat [c]).flatten = _
  induction k.toNat with
  | zero => rfl
  | succ m ih => rw [List.replicate_succ, List.flatten_cons, ih, List.replicate_succ]; rfl
theorem rep_len (c : Nat) (k : Int) : (repS ⟨#[c]⟩ k).length = k.toNat := by
  show (repS ⟨#[c]⟩ k).cps.size = _
  rw [← Array.length_toList, rep_cps, List.length_replicate]
theorem rep_at {c : Nat} {k y : Int} (h0 : 0 ≤ y) (h1 : y < k) : cpOf (repS ⟨#[c]⟩ k) y = c := by
  unfold cpOf
  rw [rep_cps, List.getD_eq_getElem?_getD, List.getElem?_replicate_of_lt (by omega)]; rfl
theorem sound_false {w : Int × Tup (Int × Int)} (h : WebOk w) {b : Str} (hb : b.length = w.1.toNat) {k : Int} (hk : 0 ≤ k ∧ k < w.1) (hd : sgn b k ≠ dot) (nb : ¬ Breathes w b k) : m_is_sound w b = .ok false := by
  rw [sound_is h hb]
  have n1 := h.n1
  have u := up h hb _ (Nat.le_refl w.1.toNat)
  have mk := u.all k hk.1 (by omega) hd
  rw [u.fl] at mk
  obtain ⟨d, md, mkd⟩ := List.mem_flatten.mp mk
  obtain ⟨j, hj, hdj, rfl⟩ := u.ch d md
  obtain ⟨_, _, c⟩ := ch_ok h hb hj hdj
  have rj := (c.2.2 k).mp mkd
  have e : EM w b (CH w b j) = [] := by
    cases q : EM w b (CH w b j) with
    | nil => rfl
    | cons y ys =>
      have my : y ∈ EM w b (CH w b j) := by rw [q]; exact List.mem_cons_self
      obtain ⟨⟨x, mx, mn⟩, hy⟩ := ((em_ok h hb (CH w b j)).2.2.2 y).mp my
      exact absurd (breathes_of h rj ⟨x, (c.2.2 x).mp mx, y, mn, hy⟩) nb
  have : (DD w b).any (nbr' w b) = true := List.any_eq_true.mpr ⟨_, md, decide_eq_true e⟩
  rw [this]; rfl
theorem isboard_bad {w : Int × Tup (Int × Int)} (h : WebOk w) {b : Str} (hl : b.length ≤ 1000) (hx : b.length ≠ w.1.toNat ∨ ∃ c ∈ b.cps.toList, ¬ (c = 46 ∨ c = 120 ∨ c = 111)) : m_is_board w b = .ok false := by
  have n1 := h.n1
  have n2 := h.n2
  unfold m_is_board
  rw [strLen_ok (by omega)]
  simp only [Bool.not_true, Bool.false_eq_true, if_false, Res.okb]
  by_cases e : b.length = w.1.toNat
  · rw [show ScaEq.eq (b.length : Int) w.1 = true from decide_eq_true (by omega)]
    simp only [Bool.not_true, Bool.false_eq_true, if_false]
    have hx : ∃ c ∈ b.cps.toList, ¬ (c = 46 ∨ c = 120 ∨ c = 111) := hx.resolve_left (fun z => z e)
    rw [loop_any (p := fun a3 => !inS a3 (PySem.Str.ofString ".xo")) fun d _ => by cases inS d (PySem.Str.ofString ".xo") <;> rfl]
    have : (signsOf b).any (fun a3 => !inS a3 (PySem.Str.ofString ".xo")) = true := by
      obtain ⟨c, mc, hc⟩ := hx
      refine List.any_eq_true.mpr ⟨⟨#[c]⟩, List.mem_map.mpr ⟨c, mc, rfl⟩, ?_⟩
      rw [inS_dotxo, decide_eq_false hc]; rfl
    rw [this]; rfl
  · rw [show ScaEq.eq (b.length : Int) w.1 = false from decide_eq_false (by omega)]
    rfl
theorem nodots {w : Int × Tup (Int × Int)} (h : WebOk w) {b : Str} (hd : ∀ y, 0 ≤ y → y < w.1 → cpOf b y ≠ 46) (k : Int) : ¬ Breathes w b k := by
  rintro ⟨x, r, y, m, e⟩
  have n1 := h.n1
  have := (nextL_rise w (by omega) x).2 y m
  exact hd y this.1 this.2 (by rw [dot_eq] at e; exact sgn_eq.mp e)
theorem full_bad {w : Int × Tup (Int × Int)} (h : WebOk w) {c : Nat} (hc : c = 120 ∨ c = 111) : m_is_sound w (repS ⟨#[c]⟩ w.1) = .ok false := by
  have n1 := h.n1
  refine sound_false h (rep_len c w.1) (k := 0) (by omega) (fun e => ?_) (nodots h (fun y y0 y1 => by rw [rep_at y0 y1]; omega) 0)
  rw [dot_eq] at e
  have e := sgn_eq.mp e
  rw [rep_at (by omega) (by omega)] at e
  omega
abbrev WP := T6 (Int × Tup (Int × Int)) (T3 Str Bool Bool) Str (List Int) Int Str
theorem tri5 : ∀ n ≤ 6, ∀ i < n, tri n i + (n - 1 - i) ≤ 16 := by decide
theorem web_ok (c : Int) : Sat (m_l_web c 6) fun w => WebOk w ∧ 1 ≤ w.1 ∧ w.1 ≤ 6 ∧ w.2.l.length ≤ 144 := by
  unfold m_l_web
  have e1 : (Res.bind (Res.bind (Res.bind (Res.bind (mulR (6 : Int) (6 - (1 : Int))) fun v2 => (divR v2 (2 : Int))) fun v3 => (repR ((3 : Int) :: []) v3)) fun v4 => (catR ((6 : Int) :: []) v4)) fun v5 => (Res.ok (v5, ()))) = .ok (((6 : Int) :: List.replicate 15 3), ()) := rfl
  rw [e1]
  simp only [Res.okb]
  refine .bind (numbers c _ (by show 16 ≤ 100000; omega) (by decide)) fun ds hd => ?_
  have hl : ds.length = 16 := hd.1
  obtain ⟨a, ga, a0, a1⟩ := hd.get (i := 0) (z := 6) rfl
  simp only [Res.bind_assoc]
  refine .bidx (by decide) ga ?_
  simp only [Res.okb]
  obtain ⟨n, en⟩ : ∃ n : Nat, 1 + a = (n : Int) := ⟨(1 + a).toNat, by omega⟩
  rw [en]
  have h1 : 1 ≤ n := by omega
  have h2 : n ≤ 6 := by omega
  refine .brange (by omega) (by omega) ?_
  rw [Int.toNat_natCast]
  refine .bind (P := fun s : Int × List (Int × Int) => (∀ t ∈ s.2, TieOk n t) ∧ s.2.Pairwise (fun a b => leP b a = false) ∧ s.2.length ≤ 144) ((Sat.foldR (fun i s => s.1 = ((tri n i : Nat) : Int) ∧ s.2.length ≤ 12 * i ∧ (∀ t ∈ s.2, TieOk n t ∧ t.1 < (i : Int)) ∧ s.2.Pairwise (fun a b => leP b a = false)) ⟨rfl, Nat.le_refl _, (fun t m => by cases m), .nil⟩ fun i s k hk hs => ?_).imp fun s ⟨_, l, p, q⟩ => ⟨fun t m => (p t m).1, q, by rw [rangeL_len] at l; omega⟩) fun s ⟨p, q, l⟩ => ?_
  · obtain ⟨hi, rfl⟩ := rangeL0 hk
    obtain ⟨ht, hl1, hp, hq⟩ := hs
    have hr : guardR (small62 ((i : Int) + 1) && small62 (n : Int)) (Res.ok (rangeL ((i : Int) + 1) ((n : Int) - ((i : Int) + 1)).toNat)) = .ok (rangeL ((i : Int) + 1) (n - 1 - i)) := by
      rw [guardR_of (by unfold small62; simp only [Bool.and_eq_true, decide_eq_true_eq]; omega)]
      congr 2; omega
    rw [hr]
    have tl := tri5 n h2 i hi
    refine .bok (.bind (P := fun s' : List (Int × Int) × Int => s'.2 = ((tri n (i + 1) : Nat) : Int) ∧ s'.1.length ≤ 12 * (i + 1) ∧ (∀ t ∈ s'.1, TieOk n t ∧ t.1 < ((i + 1 : Nat) : Int)) ∧ s'.1.Pairwise (fun a b => leP b a = false)) ?_ fun s' h => .ok h)
    refine (Sat.foldR (fun j s' => s'.2 = ((tri n i + j : Nat) : Int) ∧ s'.1.length ≤ 12 * i + j ∧ (∀ t ∈ s'.1, TieOk n t ∧ (t.1 < (i : Int) ∨ t.1 = (i : Int) ∧ t.2 < (i : Int) + 1 + (j : Int))) ∧ s'.1.Pairwise (fun a b => leP b a = false)) ⟨by rw [ht]; rfl, hl1, fun t m => ⟨(hp t m).1, .inl (hp t m).2⟩, hq⟩ fun j s' b hb hs' => ?_).imp fun s' ⟨x, y, z, u⟩ => ⟨by rw [x, rangeL_len]; rfl, by rw [rangeL_len] at y; omega, fun t m => ⟨(z t m).1, by have := (z t m).2; omega⟩, u⟩
    obtain ⟨hj, rfl⟩ := rangeL_from hb
    obtain ⟨x, y, z, u⟩ := hs'
    rw [x]
    have gx : ds[((tri n i + j : Nat) : Int).toNat]? = some (ds[tri n i + j]'(by omega)) := by rw [Int.toNat_natCast]; exact get_of (by omega)
    refine .bidx (by omega) gx (.bind (P := fun ts : List (Int × Int) => ts.length ≤ 12 * i + (j + 1) ∧ (∀ t ∈ ts, TieOk n t ∧ (t.1 < (i : Int) ∨ t.1 = (i : Int) ∧ t.2 < (i : Int) + 1 + ((j + 1 : Nat) : Int))) ∧ ts.Pairwise (fun a b => leP b a = false)) (.ite (fun _ => ?_) fun _ => .ok ⟨by omega, fun t m => ⟨(z t m).1, by have := (z t m).2; omega⟩, u⟩) fun ts ⟨a, b, c⟩ => .ok ⟨by show ((tri n i + j : Nat) : Int) + 1 = _; omega, a, b, c⟩)
    refine .bapp (by omega) (.ok ⟨by rw [List.length_append]; show _ + 1 ≤ _; omega, fun t m => ?_, ?_⟩)
    · rcases List.mem_append.mp m with m | m
      · exact ⟨(z t m).1, by have := (z t m).2; omega⟩
      · cases List.mem_singleton.mp m
        refine ⟨⟨by show 0 ≤ (i : Int); omega, by show (i : Int) < (i : Int) + 1 + (j : Int); omega, by show (i : Int) + 1 + (j : Int) < (n : Int); omega⟩, .inr ⟨rfl, by show (i : Int) + 1 + (j : Int) < _; omega⟩⟩
    · refine List.pairwise_append.mpr ⟨u, List.pairwise_singleton _ _, fun t m t' m' => ?_⟩
      cases List.mem_singleton.mp m'
      have := (z t m).2
      cases e : leP ((i : Int), (i : Int) + 1 + (j : Int)) t with
      | false => rfl
      | true =>
        rw [leP_iff] at e
        have e : (i : Int) < t.1 ∨ (i : Int) = t.1 ∧ (i : Int) + 1 + (j : Int) ≤ t.2 := e
        omega
  · refine .ok ⟨⟨by show (1 : Int) ≤ n; omega, by show (n : Int) ≤ 40; omega, by show s.2.length ≤ 200; omega, p, q.imp fun {x y} h e => by
        subst e
        have : leP x x = true := by rw [leP_iff]; omega
        exact absurd h (by rw [this]; exact Bool.noConfusion), q.imp fun {x y} h => by
        rw [leP_iff]
        have : ¬ leP y x = true := by rw [h]; exact Bool.false_ne_true
        rw [leP_iff] at this
        omega⟩, by show (1 : Int) ≤ n; omega, by show (n : Int) ≤ 6; omega, l⟩
theorem cell_ok (ns : List Int) {k : Int} (h0 : 0 ≤ k) : ∃ v, m_l_cell_at ⟨ns⟩ k = .ok v := by
  unfold m_l_cell_at
  by_cases c : k < (ns.length : Int)
  · rw [decide_eq_true c, if_pos rfl]
    exact ⟨_, idx_int h0 (get_of (xs := ns) (i := k.toNat) (by omega))⟩
  · rw [decide_eq_false c, if_neg Bool.false_ne_true]
    exact ⟨0, rfl⟩
abbrev DF := T5 (Int × Tup (Int × Int)) (T3 Str Bool Bool) Str (List Int) Int
def dF (t : DF) : WP := ⟨t.a, t.b, t.c, t.d, t.e, ⟨#[120]⟩⟩
def W4 : Int × Tup (Int × Int) := (6, ⟨[(0, 1), (1, 2), (2, 3), (3, 4), (4, 5)]⟩)
def B4 : Str := PySem.Str.ofString ".xo..."
theorem w4_ok : WebOk W4 := ⟨by decide, by decide, by decide, fun t m => by
  have m : t ∈ [((0 : Int), (1 : Int)), (1, 2), (2, 3), (3, 4), (4, 5)] := m
  simp only [List.mem_cons, List.not_mem_nil, or_false] at m
  rcases m with rfl | rfl | rfl | rfl | rfl <;> exact ⟨by decide, by decide, by decide⟩, by decide, by decide⟩
theorem b4_sound : Sound W4 B4 := fun k k0 k1 hd => by
  have k1 : k < 6 := k1
  have : k = 0 ∨ k = 1 ∨ k = 2 ∨ k = 3 ∨ k = 4 ∨ k = 5 := by omega
  rcases this with rfl | rfl | rfl | rfl | rfl | rfl
  · exact absurd (show sgn B4 0 = dot by decide) hd
  · exact ⟨1, .here, 0, by decide, by decide⟩
  · exact ⟨2, .here, 3, by decide, by decide⟩
  · exact absurd (show sgn B4 3 = dot by decide) hd
  · exact absurd (show sgn B4 4 = dot by decide) hd
  · exact absurd (show sgn B4 5 = dot by decide) hd
theorem dots_eq {b : Str} {n : Nat} (hb : b.length = n) (h : ∀ k : Int, 0 ≤ k → k < n → sgn b k = dot) : b = repS (PySem.Str.ofString ".") (n : Int) := by
  refine PySem.W.str_of_cps ?_
  have e : (repS (PySem.Str.ofString ".") (n : Int)).cps.toList = List.replicate n 46 := by
    have go : ∀ m : Nat, (List.replicate m [46]).flatten = List.replicate m 46 := fun m => by
      induction m with
      | zero => rfl
      | succ m ih => rw [List.replicate_succ, List.flatten_cons, ih]; rfl
    show ((List.replicate ((n : Int)).toNat [46]).flatten) = _
    rw [Int.toNat_natCast, go]
  rw [e]
  have hb' : b.cps.toList.length = n := hb
  refine List.ext_getElem (by rw [hb', List.length_replicate]) fun i h1 h2 => ?_
  rw [List.getElem_replicate]
  have := sgn_dot.mp (h (i : Int) (by omega) (by omega))
  unfold cpOf at this
  rw [Int.toNat_natCast, List.getD_eq_getElem?_getD, List.getElem?_eq_getElem h1] at this
  exact this
theorem drawn_ok (ns : List Int) {k : Int} (hk : 0 ≤ k) : Sat (m_l_drawn ⟨ns⟩ k) fun t => FOkN 8 (dF t) ∧ t.a.1 ≤ 6 ∧ t.a.2.l.length ≤ 144 := by
  unfold m_l_drawn
  obtain ⟨c0, e0⟩ := cell_ok ns (k := k) hk
  obtain ⟨c1, e1⟩ := cell_ok ns (k := k + 1) (by omega)
  obtain ⟨c2, e2⟩ := cell_ok ns (k := k + 2) (by omega)
  rw [e0, e1, e2]
  simp only [Res.okb]
  refine .bind (web_ok c0) fun w ⟨hw, w1, w6, wl⟩ => ?_
  obtain ⟨n, en⟩ : ∃ n : Nat, w.1 = (n : Int) := ⟨w.1.toNat, by omega⟩
  rw [nexts w hw]
  simp only [Res.okb]
  rw [en, repR1_ok (by omega) (by omega), Int.toNat_natCast]
  simp only [Res.okb, Res.bind_assoc]
  refine .bind (numbers c1 _ (by rw [List.length_replicate]; omega) (fun z m => by rw [(List.mem_replicate.mp m).2]; decide)) fun ds hd => ?_
  have hl' : ds.length = n := by rw [hd.1, List.length_replicate]
  refine .bind (P := fun bs : List Str => bs.length = n ∧ ∀ b ∈ bs, b.length = 1 ∧ signOk b) (.lcAll (Q := fun b : Str => b.length = 1 ∧ signOk b) (by omega) (fun d m => ?_) fun bs l q => ⟨by omega, q⟩) fun bs ⟨hb1, hb2⟩ => ?_
  · obtain ⟨i, e⟩ := List.mem_iff_getElem?.mp m
    have li := (List.getElem?_eq_some_iff.mp e).1
    have := hd.2 i d 3 e (by rw [List.getElem?_replicate, if_pos (by omega)])
    exact xo_sign this.1 (by omega) rfl (by unfold signOk; decide)
  · refine .bind (join_signs hb2 (by omega)) fun b0 ⟨l0, o0⟩ => ?_
    refine .bind (cleared_sat hw (by omega) o0) fun b ⟨lb, ob, sb⟩ => ?_
    have lb : b.length = n := by omega
    rw [mulS_ok (by omega) (by omega) (by show 1 * _ ≤ _; omega)]
    simp only [Res.okb]
    refine .bind (P := fun s : (Int × Tup (Int × Int)) × Str => WebOk s.1 ∧ (s.1.1 ≤ 6 ∧ s.1.2.l.length ≤ 144) ∧ s.2.length = s.1.1.toNat ∧ signOk s.2 ∧ Sound s.1 s.2 ∧ stonesL s.2 s.1.1.toNat ≠ []) ?_ fun s ⟨q1, q2, q3, q4, q5, q6⟩ => ?_
    · cases hdots : ScaEq.eq b (repS (PySem.Str.ofString ".") (n : Int)) with
      | true =>
        simp only [if_true]
        exact .of_eq (a := (W4, B4)) rfl ⟨w4_ok, ⟨by decide, by decide⟩, rfl, by unfold signOk; decide, b4_sound, by
          intro e
          have : (1 : Int) ∈ stonesL B4 6 := mem_stonesL.mpr ⟨by decide, by decide⟩
          have e : stonesL B4 6 = [] := e
          rw [e] at this; cases this⟩
      | false =>
        simp only [Bool.false_eq_true, if_false]
        refine .ok ⟨hw, ⟨w6, wl⟩, by show b.length = w.1.toNat; omega, ob, sb, fun e => ?_⟩
        have hne : b ≠ repS (PySem.Str.ofString ".") (n : Int) := of_decide_eq_false hdots
        refine hne (dots_eq lb fun k k0 k1 => Classical.byContradiction fun hk => ?_)
        have e : stonesL b w.1.toNat = [] := e
        have : k ∈ stonesL b w.1.toNat := mem_stonesL.mpr ⟨⟨k0, by omega⟩, hk⟩
        rw [e] at this; cases this
    · obtain ⟨w', b'⟩ := s
      dsimp only at q1 q2 q3 q4 q5 q6 ⊢
      have n1 := q1.n1
      obtain ⟨n', en'⟩ : ∃ n' : Nat, w'.1 = (n' : Int) := ⟨w'.1.toNat, by omega⟩
      have nn : w'.1.toNat = n' := by omega
      rw [nn] at q3 q6
      rw [en']
      refine .brange (by omega) (by omega) ?_
      rw [Int.toNat_natCast, stones_lc q3 (by omega)]
      simp only [Res.okb]
      refine .bind (numbers c2 _ (by show 6 ≤ 100000; omega) (by decide)) fun dg hg => ?_
      have gl : dg.length = 6 := hg.1
      obtain ⟨d0, g0, a0, b0⟩ := hg.get (i := 0) (z := 61) rfl
      obtain ⟨d4, g4, a4, b4⟩ := hg.get (i := 4) (z := 2) rfl
      obtain ⟨d5, g5, a5, b5⟩ := hg.get (i := 5) (z := 2) rfl
      have cl : (cut dg (some (1 : Int)) (some (4 : Int))).length = 3 := by
        have := cut_lenE dg (lo := 1) (hi := 4) (by decide) (by omega)
        exact this
      have lcm : lcT (fun _ : Int => Res.ok true) (fun a42 => modR a42 (n' : Int)) (cut dg (some (1 : Int)) (some (4 : Int))) = .ok ((cut dg (some (1 : Int)) (some (4 : Int))).map fun a => a % (n' : Int)) := lcT_map (by omega) fun a _ => modR_of (by omega)
      rw [lcm]
      simp only [Res.okb]
      rw [guardR_of (show decide (((cut dg (some (1 : Int)) (some (4 : Int))).map fun a => a % (n' : Int)).length < 60) = true from decide_eq_true (by rw [List.length_map]; omega))]
      simp only [Res.okb]
      have fl3 : ((cut dg (some (1 : Int)) (some (4 : Int))).map fun a => a % (n' : Int)).length = 3 := by rw [List.length_map]; exact cl
      have frg : ∀ x ∈ (cut dg (some (1 : Int)) (some (4 : Int))).map fun a => a % (n' : Int), 0 ≤ x ∧ x < (n' : Int) := fun x m => by
        obtain ⟨a, _, rfl⟩ := List.mem_map.mp m
        exact ⟨Int.emod_nonneg a (by omega), Int.emod_lt_of_pos a (by omega)⟩
      generalize (cut dg (some (1 : Int)) (some (4 : Int))).map (fun a => a % (n' : Int)) = fl at fl3 frg
      refine .bidx (by decide) g4 ?_
      obtain ⟨rl, er, hr⟩ : ∃ rl : Str, idx ((PySem.Str.ofString "free") :: ((PySem.Str.ofString "ko") :: [])) d4 = .ok rl ∧ (rl = PySem.Str.ofString "ko" ∨ rl = PySem.Str.ofString "free") := by
        have : d4 = 0 ∨ d4 = 1 := by omega
        rcases this with rfl | rfl
        · exact ⟨_, rfl, .inr rfl⟩
        · exact ⟨_, rfl, .inl rfl⟩
      rw [er]
      simp only [Res.okb]
      refine .bidx (by decide) g5 (.bidx (by decide) g0 ?_)
      have sp : 0 < (stonesL b' n').length := List.length_pos_iff.mpr q6
      refine .bmod (by omega) ?_
      have r0 := Int.emod_nonneg d0 (b := ((stonesL b' n').length : Int)) (by omega)
      have r1 := Int.emod_lt_of_pos d0 (b := ((stonesL b' n').length : Int)) (by omega)
      have g := get_of (xs := stonesL b' n') (i := (d0 % ((stonesL b' n').length : Int)).toNat) (by omega)
      refine .bidx r0 g ?_
      generalize (stonesL b' n')[(d0 % ((stonesL b' n').length : Int)).toNat]'(by omega) = aim at g
      obtain ⟨am, ad⟩ := mem_stonesL.mp (List.mem_of_getElem? g)
      have fr : (setI' fl).Pairwise (· < ·) := sortI_rise (onceI_nodup fl)
      have fm : ∀ x, x ∈ setI' fl ↔ x ∈ fl := fun x => by unfold setI'; rw [mem_sortI, mem_onceI]
      refine .ok ⟨⟨q1, by show w'.1 ≤ 8; omega, by show b'.length = w'.1.toNat; omega, q4, q5, rfl, hr, fr, fun e => ?_, fun x m => ?_, by show 0 ≤ aim ∧ aim < w'.1; omega, ad, .inl rfl⟩, q2⟩
      · cases fl with
        | nil => cases fl3
        | cons z zs =>
          have := (fm z).mpr List.mem_cons_self
          have e : setI' (z :: zs) = [] := e
          rw [e] at this; cases this
      · have := frg x ((fm x).mp m)
        show 0 ≤ x ∧ x < w'.1
        omega
theorem isboardD_str (w : Int × Tup (Int × Int)) (b : Str) : m_is_board__D w (.str b) = m_is_board w b := by
  unfold m_is_board__D m_is_board
  rfl
theorem isboardD_not (w : Int × Tup (Int × Int)) {d : Dy} (h : dyIs "str" d = false) : m_is_board__D w d = .ok false := by
  unfold m_is_board__D
  rw [h]; rfl
abbrev NF : Exn := ⟨PySem.Str.ofString "NoFight", .no⟩
section
variable {w : Int × Tup (Int × Int)} {ru b f a : Dy}
theorem gate_rules (e : m_are_fight_rules ru = .ok false) : m_Fight___init__ w ru b f a = .exc NF := by
  unfold m_Fight___init__
  rw [e]; rfl
theorem gate_board (e : m_are_fight_rules ru = .ok true) (e2 : m_is_board__D w b = .ok false) : m_Fight___init__ w ru b f a = .exc NF := by
  unfold m_Fight___init__
  rw [e, e2]; rfl
theorem gate_sound {s : Str} (e : m_are_fight_rules ru = .ok true) (e2 : m_is_board__D w (.str s) = .ok true) (e3 : m_is_sound w s = .ok false) : m_Fight___init__ w ru (.str s) f a = .exc NF := by
  unfold m_Fight___init__
  rw [e, e2, show dyS (.str s) = .ok s from rfl]
  simp only [Res.okb, Bool.not_true, Bool.false_eq_true, if_false]
  rw [e3]; rfl
theorem gate_field {s : Str} (e : m_are_fight_rules ru = .ok true) (e2 : m_is_board__D w (.str s) = .ok true) (e3 : m_is_sound w s = .ok true) (e4 : m_is_field w f = .ok false) : m_Fight___init__ w ru (.str s) f a = .exc NF := by
  unfold m_Fight___init__
  rw [e, e2, show dyS (.str s) = .ok s from rfl, e4]
  simp only [Res.okb, Bool.not_true, Bool.false_eq_true, if_false]
  rw [e3]; rfl
theorem gate_aim {s : Str} (e : m_are_fight_rules ru = .ok true) (e2 : m_is_board__D w (.str s) = .ok true) (e3 : m_is_sound w s = .ok true) (e4 : m_is_field w f = .ok true) (e5 : m_is_crossing w a = .ok false) : m_Fight___init__ w ru (.str s) f a = .exc NF := by
  unfold m_Fight___init__
  rw [e, e2, show dyS (.str s) = .ok s from rfl, e4, e5]
  simp only [Res.okb, Bool.not_true, Bool.false_eq_true, if_false]
  rw [e3]; rfl
theorem gate_dot {s : Str} {k : Int} (e : m_are_fight_rules ru = .ok true) (e2 : m_is_board__D w (.str s) = .ok true) (e3 : m_is_sound w s = .ok true) (e4 : m_is_field w f = .ok true) (e5 : m_is_crossing w (.int k) = .ok true) (e6 : dyIx (.str s) k = .ok (.str (PySem.Str.ofString "."))) : m_Fight___init__ w ru (.str s) f (.int k) = .exc NF := by
  have ed : eqDy (.str (PySem.Str.ofString ".")) (ToDy.dy (PySem.Str.ofString "." : Str)) = .ok true := by
    unfold eqDy
    rw [if_pos ⟨rfl, by decide⟩]
  unfold m_Fight___init__
  rw [e, e2, show dyS (.str s) = .ok s from rfl, e4, e5, show dyI (.int k) = .ok k from rfl]
  simp only [Res.okb, Bool.not_true, Bool.false_eq_true, if_false]
  rw [e3, e6]
  simp only [Res.okb, Bool.not_true, Bool.false_eq_true, if_false]
  rw [ed]; rfl
theorem cross_int (k : Int) : m_is_crossing w (.int k) = .ok (decide (0 ≤ k) && decide (k < w.1)) := by
  unfold m_is_crossing
  show (if decide (0 ≤ k) = true then Res.ok (decide (k < w.1)) else Res.ok false) = _
  cases decide (0 ≤ k) <;> rfl
theorem cross_not {d : Dy} (h : dyIs "int" d = false ∨ dyIs "bool" d = true) : m_is_crossing w d = .ok false := by
  unfold m_is_crossing
  rcases h with e | e
  · rw [e]; rfl
  · rw [e]; cases dyIs "int" d <;> rfl
end
structure Flat (d : Dy) : Prop where
  nd : noDic d = true
  ly : PyData.canLay0 (dyPy d) = true
  dp : (dyPy d).depth = 0
theorem flat_int (k : Int) : Flat (.int k) := ⟨rfl, by simp [dyPy, PyData.canLay0], by simp [dyPy, PyData.depth]⟩
theorem flat_bl (k : Bool) : Flat (.bl k) := ⟨rfl, by simp [dyPy, PyData.canLay0], by simp [dyPy, PyData.depth]⟩
theorem flat_non : Flat .non := ⟨rfl, by simp [dyPy, PyData.canLay0], by simp [dyPy, PyData.depth]⟩
theorem flat_str : Flat (.str (PySem.Str.ofString "0")) := ⟨rfl, by decide +kernel, by simp [dyPy, PyData.depth]⟩
theorem flat_all : ∀ {xs : List Dy}, (∀ x ∈ xs, Flat x) → noDics xs = true ∧ PyData.canLayAll0 (dyPys xs) = true ∧ PyData.depthAll (dyPys xs) = 0
  | [], _ => by simp [noDics, dyPys, PyData.canLayAll0, PyData.depthAll]
  | a :: as, h => by
    obtain ⟨h1, h2, h3⟩ := flat_all fun x m => h x (List.mem_cons_of_mem _ m)
    obtain ⟨a1, a2, a3⟩ := h a List.mem_cons_self
    simp [noDics, dyPys, PyData.canLayAll0, PyData.depthAll, h1, h2, h3, a1, a2, a3]
theorem eq_nil {xs : List Dy} (h : ∀ x ∈ xs, Flat x) : eqDy (.lst xs) (ToDy.dy ([] : List Dy)) = .ok xs.isEmpty := by
  unfold eqDy
  cases xs with
  | nil => rw [if_pos ⟨rfl, by decide⟩]; rfl
  | cons a as =>
    obtain ⟨h1, h2, h3⟩ := flat_all h
    rw [if_neg (fun z => by have := z.1; cases this)]
    have s1 : SeqAt.shaped (dyPy (.lst (a :: as))) = true := by
      unfold SeqAt.shaped
      simp only [dyPy, PyData.canLay0, PyData.depth, h2, h3]
      rfl
    have s2 : SeqAt.shaped (dyPy (ToDy.dy ([] : List Dy))) = true := by decide +kernel
    have n1 : noDic (.lst (a :: as)) = true := h1
    rw [n1, s1, s2]
    show Res.ok _ = _
    congr 1
def goodF (w : Int × Tup (Int × Int)) : Int → List Dy → Bool
  | _, [] => true
  | s, .int k :: r => decide (0 ≤ k) && decide (k < w.1) && decide (s < k) && goodF w k r
  | _, _ :: _ => false
theorem field_loop {w : Int × Tup (Int × Int)} {f : Int → Dy → Res (Out Int Int Bool)} (hf : ∀ s a, f s a = Res.next (S := Unit) (Res.bind (Res.bind (Res.bind (m_is_crossing w a) fun v4 => (Res.ok (!v4))) fun v6 => (if v6 then (Res.ok true) else (Res.bind (dyI a) fun v5 => (Res.ok (decide (v5 ≤ s)))))) fun v8 => (if v8 then (Res.ok (Out.rt false)) else (Res.ok (Out.nx ())))) fun _ => (Res.bind (dyI a) fun (last9 : Int) => (Res.ok (Out.nx last9)))) :
    ∀ (xs : List Dy), (∀ x ∈ xs, (∃ k, x = .int k) ∨ dyIs "int" x = false ∨ dyIs "bool" x = true) → ∀ s, ∃ z, loopO (L := Empty) f s xs = .ok (if goodF w s xs = true then .nx z else .rt false)
  | [], _, s => ⟨s, rfl⟩
  | a :: as, h, s => by
    have ih := field_loop hf as fun x m => h x (List.mem_cons_of_mem _ m)
    show ∃ z, Res.bind (f s a) _ = _
    rw [hf]
    rcases h a List.mem_cons_self with ⟨k, e⟩ | e
    · subst e
      rw [cross_int, show dyI (.int k) = .ok k from rfl]
      by_cases g : (decide (0 ≤ k) && decide (k < w.1)) = true
      · rw [g]
        simp only [Res.okb, Bool.not_true, Bool.false_eq_true, if_false]
        by_cases q : k ≤ s
        · refine ⟨0, ?_⟩
          rw [decide_eq_true q]
          have : goodF w s (.int k :: as) = false := by
            unfold goodF
            rw [decide_eq_false (show ¬ s < k by omega)]; simp
          rw [this]; rfl
        · obtain ⟨z, hz⟩ := ih k
          refine ⟨z, ?_⟩
          rw [decide_eq_false q]
          have : goodF w s (.int k :: as) = goodF w k as := by
            show (decide (0 ≤ k) && decide (k < w.1) && decide (s < k) && goodF w k as) = _
            rw [g, decide_eq_true (show s < k by omega)]; rfl
          rw [this]
          exact hz
      · refine ⟨0, ?_⟩
        have g' : (decide (0 ≤ k) && decide (k < w.1)) = false := by simpa using g
        have : goodF w s (.int k :: as) = false := by
          show (decide (0 ≤ k) && decide (k < w.1) && decide (s < k) && goodF w k as) = false
          rw [g']; rfl
        rw [this, g']; rfl
    · refine ⟨0, ?_⟩
      rw [cross_not e]
      have : goodF w s (a :: as) = false := by
        cases a with
        | int k =>
          rcases e with e | e
          · rw [show dyIs "int" (.int k) = true from rfl] at e; cases e
          · rw [show dyIs "bool" (.int k) = false from rfl] at e; cases e
        | _ => rfl
      rw [this]; rfl
theorem fieldD_is {w : Int × Tup (Int × Int)} {xs : List Dy} (hx : ∀ x ∈ xs, Flat x) (hk : ∀ x ∈ xs, (∃ k, x = .int k) ∨ dyIs "int" x = false ∨ dyIs "bool" x = true) : m_is_field w (.lst xs) = .ok (!xs.isEmpty && goodF w (-1) xs) := by
  unfold m_is_field
  rw [show dyIs "list" (.lst xs) = true from rfl]
  simp only [Bool.not_true, Bool.false_eq_true, if_false]
  rw [eq_nil hx]
  simp only [Res.okb]
  cases e : xs.isEmpty with
  | true => rfl
  | false =>
    simp only [Bool.false_eq_true, if_false, Bool.not_false, Bool.true_and]
    rw [show dyL (.lst xs) = .ok xs from rfl]
    simp only [Res.okb]
    obtain ⟨z, hz⟩ := field_loop (w := w) (f := fun (s2 : Int) (a3 : G.Dy) => ((Res.next (S := Unit) (Res.bind (Res.bind (Res.bind (m_is_crossing w a3) fun v4 => (Res.ok (!v4))) fun v6 => (if v6 then (Res.ok true) else (Res.bind (dyI a3) fun v5 => (Res.ok (decide (v5 ≤ s2)))))) fun v8 => (if v8 then (Res.ok (Out.rt false)) else (Res.ok (Out.nx ())))) fun s7 => (Res.bind (dyI a3) fun (last9 : Int) => (Res.ok (Out.nx last9)))) : Res (Out (Int) (Int) Bool))) (fun _ _ => rfl) xs hk (-1)
    rw [hz]
    cases goodF w (-1) xs <;> rfl
theorem fieldD_not {w : Int × Tup (Int × Int)} {d : Dy} (h : dyIs "list" d = false) : m_is_field w d = .ok false := by
  unfold m_is_field
  rw [h]; rfl
theorem good_ints {w : Int × Tup (Int × Int)} : ∀ {f : List Int} {s : Int}, f.Pairwise (· < ·) → (∀ x ∈ f, 0 ≤ x ∧ x < w.1) → (∀ x ∈ f, s < x) → goodF w s (f.map Dy.int) = true
  | [], _, _, _, _ => rfl
  | k :: r, s, hp, hg, hs => by
    obtain ⟨p1, p2⟩ := List.pairwise_cons.mp hp
    have g := hg k List.mem_cons_self
    show (decide (0 ≤ k) && decide (k < w.1) && decide (s < k) && goodF w k (r.map Dy.int)) = true
    rw [decide_eq_true g.1, decide_eq_true g.2, decide_eq_true (hs k List.mem_cons_self), good_ints p2 (fun x m => hg x (List.mem_cons_of_mem _ m)) p1]; rfl
theorem good_app {w : Int × Tup (Int × Int)} : ∀ {f : List Int} {s : Int} {r : List Dy}, (∀ t, (∀ x ∈ f, x ≤ t) → s ≤ t → (t = s ∨ t ∈ f) → goodF w t r = false) → goodF w s (f.map Dy.int ++ r) = true → f.Pairwise (· < ·) → False
  | [], s, r, h, g, _ => by
    have := h s (fun x m => by cases m) (Int.le_refl _) (.inl rfl)
    rw [show ([] : List Int).map Dy.int ++ r = r from rfl, this] at g; cases g
  | k :: f, s, r, h, g, hp => by
    obtain ⟨p1, p2⟩ := List.pairwise_cons.mp hp
    have g : (decide (0 ≤ k) && decide (k < w.1) && decide (s < k) && goodF w k (f.map Dy.int ++ r)) = true := g
    simp only [Bool.and_eq_true, decide_eq_true_eq] at g
    refine good_app (s := k) (r := r) (fun t ht hk hor => h t (fun x m => ?_) (by omega) ?_) g.2 p2
    · rcases List.mem_cons.mp m with e | m
      · subst e; exact hk
      · exact ht x m
    · rcases hor with e | m
      · subst e; exact .inr List.mem_cons_self
      · exact .inr (List.mem_cons_of_mem _ m)
theorem dyL_int (l : List Int) : (ToDy.dy l : Dy) = .lst (l.map Dy.int) := rfl
theorem ints_flat (l : List Int) : ∀ x ∈ l.map Dy.int, Flat x := fun x m => by
  obtain ⟨k, _, e⟩ := List.mem_map.mp m
  subst e; exact flat_int k
theorem ints_kind (l : List Int) : ∀ x ∈ l.map Dy.int, (∃ k, x = .int k) ∨ dyIs "int" x = false ∨ dyIs "bool" x = true := fun x m => by
  obtain ⟨k, _, e⟩ := List.mem_map.mp m
  exact .inl ⟨k, e.symm⟩
theorem fieldD_ok {w : Int × Tup (Int × Int)} {f : List Int} (hp : f.Pairwise (· < ·)) (hn : f ≠ []) (hg : ∀ x ∈ f, 0 ≤ x ∧ x < w.1) : m_is_field w (ToDy.dy f) = .ok true := by
  rw [dyL_int, fieldD_is (ints_flat f) (ints_kind f), good_ints hp hg fun x m => by have := hg x m; omega]
  cases f with
  | nil => exact absurd rfl hn
  | cons a r => rfl
theorem rulesD_ok {ru : T3 Str Bool Bool} (hp : ru.b = true) (ha : ru.a = PySem.Str.ofString "ko" ∨ ru.a = PySem.Str.ofString "free") : m_are_fight_rules (ToDy.dy ru) = .ok true := by
  obtain ⟨a, b, c⟩ := ru
  cases hp
  have ha : a = PySem.Str.ofString "ko" ∨ a = PySem.Str.ofString "free" := ha
  rcases ha with e | e <;> subst e <;> cases c <;> rfl
def BadB (w : Int × Tup (Int × Int)) (x : Dy) : Prop := m_is_board__D w x = .ok false ∨ ∃ s, x = .str s ∧ m_is_board__D w x = .ok true ∧ m_is_sound w s = .ok false
theorem lapp (s t : Str) : (s ++ t).length = s.length + t.length := by
  show (s ++ t).cps.size = s.cps.size + t.cps.size
  rw [← Array.length_toList, cps_app, List.length_append, Array.length_toList, Array.length_toList]
theorem not_good {w : Int × Tup (Int × Int)} {s : Int} {xs : List Dy} (h : goodF w s xs = true → False) : goodF w s xs = false := by
  cases e : goodF w s xs with
  | true => exact (h e).elim
  | false => rfl
theorem eqDy_str (a b : Str) (ha : PyData.strOk a = true) (hb : PyData.strOk b = true) : eqDy (ToDy.dy a) (ToDy.dy b) = .ok (decide (a = b)) := by
  unfold eqDy
  have ev : PyData.eqv (dyPy (ToDy.dy a)) (dyPy (ToDy.dy b)) = decide (a = b) := by
    show PyData.eqv (.str a) (.str b) = _
    unfold PyData.eqv
    by_cases h : a = b <;> simp [h]
  by_cases h : (ToDy.dy a : Dy) = ToDy.dy b ∧ dyDep (ToDy.dy a) ≤ 60
  · rw [if_pos h]
    have : a = b := Dy.str.inj h.1
    rw [decide_eq_true this]
  · rw [if_neg h]
    have s1 : ∀ x : Str, PyData.strOk x = true → SeqAt.shaped (dyPy (ToDy.dy x)) = true := fun x hx => by
      show SeqAt.shaped (.str x) = true
      unfold SeqAt.shaped
      simp [PyData.canLay0, PyData.depth, hx]
    rw [s1 a ha, s1 b hb, ev]
    rfl
theorem sgn_ok {b : Str} (ho : signOk b) {k : Int} (h0 : 0 ≤ k) (h1 : k < b.length) : PyData.strOk (sgn b k) = true := by
  rcases signOk_at ho h0 h1 with q | q | q <;> rw [sgn_eq.mpr q] <;> decide +kernel
theorem dyLI_int (f : List Int) : dyLI (ToDy.dy f) = .ok f := by
  show (match intsD (f.map Dy.int) with
    | some is => Res.ok is
    | none => .stuck) = _
  have : intsD (f.map Dy.int) = some f := by
    induction f with
    | nil => rfl
    | cons a r ih => rw [List.map_cons, intsD, ih]; rfl
  rw [this]
section
variable {w : Int × Tup (Int × Int)} {ru : Dy} {s : Str} {f : List Int} {k : Int}
theorem init_good (e : m_are_fight_rules ru = .ok true) (e2 : m_is_board__D w (.str s) = .ok true) (e3 : m_is_sound w s = .ok true) (e4 : m_is_field w (ToDy.dy f) = .ok true) (e5 : m_is_crossing w (.int k) = .ok true) (ho : signOk s) (hl : s.length ≤ 1000) (h0 : 0 ≤ k) (h1 : k < s.length) (hd : sgn s k ≠ dot) :
    m_Fight___init__ w ru (.str s) (ToDy.dy f) (.int k) = .ok ((((((), w), ru), s), f), k) := by
  have e6 : dyIx (.str s) k = .ok (.str (sgn s k)) := by
    show (strIx s k).bind _ = _
    rw [strIx_sgn (by omega) h0 h1, Res.okb]
  have e7 : eqDy (.str (sgn s k)) (ToDy.dy (PySem.Str.ofString "." : Str)) = .ok false := by
    rw [show (Dy.str (sgn s k)) = ToDy.dy (sgn s k) from rfl, eqDy_str _ _ (sgn_ok ho h0 h1) (by decide +kernel)]
    rw [decide_eq_false (by rw [show PySem.Str.ofString "." = dot from rfl]; exact hd)]
  unfold m_Fight___init__
  rw [e, e2, show dyS (.str s) = .ok s from rfl, e4, e5, show dyI (.int k) = .ok k from rfl, dyLI_int]
  simp only [Res.okb, Bool.not_true, Bool.false_eq_true, if_false]
  rw [e3, e6]
  simp only [Res.okb, Bool.not_true, Bool.false_eq_true, if_false]
  rw [e7]
  simp only [Res.okb, Bool.not_true, Bool.false_eq_true, if_false]
end
section
variable {w : Int × Tup (Int × Int)} {r b f o1 o2 t : Dy} {m : Int}
theorem live_1 (e : m_Fight___init__ w r b f o1 = .exc NF) : m_live_together w r b f o1 o2 m = .exc NF := by
  unfold m_live_together
  rw [e]; rfl
theorem live_2 {F1 : FlT_Fight} (e : m_Fight___init__ w r b f o1 = .ok F1) (e2 : m_Fight___init__ w r b f o2 = .exc NF) : m_live_together w r b f o1 o2 m = .exc NF := by
  unfold m_live_together
  rw [e, e2]; rfl
theorem live_3 {F1 F2 : FlT_Fight} {c : Str} (e : m_Fight___init__ w r b f o1 = .ok F1) (e2 : m_Fight___init__ w r b f o2 = .ok F2) (h1 : m_Fight_holder ⟨F1⟩ = .ok c) (h2 : m_Fight_holder ⟨F2⟩ = .ok c) : m_live_together w r b f o1 o2 m = .exc NF := by
  unfold m_live_together
  rw [e, e2]
  simp only [Res.okb]
  rw [show G.idx [(⟨F1⟩ : Ob "Fight" FlT_Fight), ⟨F2⟩] 0 = .ok ⟨F1⟩ from rfl, show G.idx [(⟨F1⟩ : Ob "Fight" FlT_Fight), ⟨F2⟩] 1 = .ok ⟨F2⟩ from rfl]
  simp only [Res.okb]
  rw [h1, h2]
  simp only [Res.okb]
  rw [show ScaEq.eq c c = true from decide_eq_true rfl]
  rfl
theorem marks_is : m_l_marks NF = .ok true := by
  have h : ∀ {m : Res Bool}, (match m with | .ok b => b | _ => false) = true → m = .ok true := fun {m} h => by
    cases m with
    | ok b => exact congrArg Res.ok h
    | exc x => cases h
    | stuck => cases h
  exact h (by decide +kernel)
theorem noto (e : m_live_together w r b f o1 o2 50 = .exc NF) : m_l_no_together w [r, b, f, t] o1 o2 = .ok true := by
  unfold m_l_no_together
  rw [show G.idx [r, b, f, t] 0 = .ok r from rfl, show G.idx [r, b, f, t] 1 = .ok b from rfl, show G.idx [r, b, f, t] 2 = .ok f from rfl]
  simp only [Res.okb]
  rw [e]
  show Res.tail (pickR _ _) _ = _
  unfold pickR
  rw [show lookB ct_tab_RingError (PySem.Str.ofString "NoFight") = some true from by decide +kernel]
  show Res.tail (noX (Res.bind (m_l_marks NF) _)) _ = _
  rw [marks_is]; rfl
theorem nola (h0 : 0 ≤ w.1) (h1 : w.1 ≤ 40) (e : m_Fight___init__ w r b (ToDy.dy (rangeL 0 w.1.toNat)) t = .exc NF) : m_l_no_ladder w [r, b, f, t] = .ok true := by
  have el : m_ladder w r b t 50 = .exc NF := by
    unfold m_ladder
    rw [guardR_of (by unfold small62 big; simp only [Bool.and_eq_true, decide_eq_true_eq]; omega)]
    simp only [Res.okb]
    rw [e]; rfl
  unfold m_l_no_ladder
  rw [show G.idx [r, b, f, t] 0 = .ok r from rfl, show G.idx [r, b, f, t] 1 = .ok b from rfl, show G.idx [r, b, f, t] 3 = .ok t from rfl]
  simp only [Res.okb]
  rw [el]
  show Res.tail (pickR _ _) _ = _
  unfold pickR
  rw [show lookB ct_tab_RingError (PySem.Str.ofString "NoFight") = some true from by decide +kernel]
  show Res.tail (noX (Res.bind (m_l_marks NF) _)) _ = _
  rw [marks_is]; rfl
end
theorem cutm_len (b : Str) : (cutS b none (some (-1))).length = b.length - 1 := by
  unfold cutS
  show (Array.size (List.toArray _)) = b.cps.size - 1
  rw [List.size_toArray, List.length_take, List.length_drop, Array.length_toList, HT.sIx_none]
  have e1 : HT.sIx b.length b.length (some (-1)) = b.length - 1 := by
    show (if (-1 : Int) < 0 then ((-1 : Int) + (b.length : Int)).toNat else min (-1 : Int).toNat b.length) = _
    rw [if_pos (by decide)]; omega
  rw [e1]
  show min (b.cps.size - 1 - 0) (b.cps.size - 0) = b.cps.size - 1
  omega
theorem mapid (xs : List Dy) : (ToDy.dy xs : Dy) = .lst xs := congrArg Dy.lst (List.map_id' _)
section
variable {n : Int} {ts : Tup (Int × Int)} {ra : Str} {rc : Bool} {b : Str} {f : List Int} {e : Int} {num : Int}
theorem bad_0 {w : Int × Tup (Int × Int)} (h0 : 0 ≤ num) (hra : ra = PySem.Str.ofString "ko" ∨ ra = PySem.Str.ofString "free") :
    Sat (m_l_bad w [ToDy.dy (⟨ra, true, rc⟩ : T3 Str Bool Bool), .str b, ToDy.dy f, .int e] 0 num) fun x => m_are_fight_rules x = .ok false := by
  unfold m_l_bad
  rw [guardR_of (show decide (([ToDy.dy (⟨ra, true, rc⟩ : T3 Str Bool Bool), Dy.str b, ToDy.dy f, Dy.int e] : List Dy).length = 4) = true from rfl), Res.okb, show ScaEq.eq (0 : Int) (0 : Int) = true from rfl, if_pos rfl]
  have key : ∀ L : List Dy, L.length = 9 → (∀ x ∈ L, m_are_fight_rules x = .ok false) → Sat (Res.bind (modR num (9 : Int)) fun v32 => G.idx L v32) fun x => m_are_fight_rules x = .ok false := fun L hl hL =>
    .bmod (by omega) (.idxI (by omega) (by rw [hl]; omega) fun x hx => hL x (List.mem_of_getElem? hx))
  rcases hra with q | q <;> subst q <;> cases rc <;> refine key _ rfl ?_ <;> intro x m <;> simp only [List.mem_append, List.mem_cons, List.not_mem_nil, or_false] at m <;> rcases m with (m | m | m | m | m) | m | m | m | m <;> subst m <;> rfl
theorem bad_1 (h0 : 0 ≤ num) (h : WebOk (n, ts)) (sm : n ≤ 8) (hb : b.length = n.toNat) {r fd t : Dy} (ho : signOk b) :
    Sat (m_l_bad (n, ts) [r, .str b, fd, t] 1 num) fun x => BadB (n, ts) x := by
  have n1 : 1 ≤ n := h.n1
  have cl := cutS_len b none (some (-1))
  have c1 := cutm_len b
  have ec : cutStr b none (some (-1)) = .ok (cutS b none (some (-1))) := guardR_of (decide_eq_true (by omega))
  unfold m_l_bad
  rw [guardR_of (show decide (([r, Dy.str b, fd, t] : List Dy).length = 4) = true from rfl), Res.okb, show ScaEq.eq (1 : Int) (0 : Int) = false from rfl, if_neg Bool.false_ne_true, show ScaEq.eq (1 : Int) (1 : Int) = true from rfl, if_pos rfl]
  show Sat (Res.bind (Res.bind (Res.bind (Res.bind (dyS (.str b)) _) _) _) _) _
  rw [show List.headD (List.tail [r, Dy.str b, fd, t]) default = Dy.str b from rfl, show dyS (.str b) = .ok b from rfl]
  simp only [Res.okb]
  rw [show PySem.Str.ofString "." = (⟨#[46]⟩ : Str) from by decide, show PySem.Str.ofString "x" = (⟨#[120]⟩ : Str) from by decide, show PySem.Str.ofString "o" = (⟨#[111]⟩ : Str) from by decide, show PySem.Str.ofString "X" = (⟨#[88]⟩ : Str) from by decide]
  rw [catS_ok (x := b) (by show _ + 1 ≤ _; omega), ec, listS_ok (x := b) (by omega), mulS_ok (x := ⟨#[120]⟩) (k := n) (by omega) (by omega) (by show 1 * _ ≤ _; omega), mulS_ok (x := ⟨#[111]⟩) (k := n) (by omega) (by omega) (by show 1 * _ ≤ _; omega)]
  simp only [Res.okb]
  rw [catS_ok (by show _ + 1 ≤ _; omega)]
  simp only [Res.okb]
  refine .bmod (by omega) (.idxI (by omega) (by show _ < ((10 : Nat) : Int); omega) fun x hx => ?_)
  have m := List.mem_of_getElem? hx
  have bs : ∀ s : Str, m_is_board (n, ts) s = .ok false → BadB (n, ts) (.str s) := fun s e => .inl (by rw [isboardD_str]; exact e)
  have full : ∀ c, c = 120 ∨ c = 111 → BadB (n, ts) (.str (repS ⟨#[c]⟩ n)) := fun c hc => by
    refine .inr ⟨_, rfl, ?_, full_bad h hc⟩
    rw [isboardD_str]
    refine isboard_is h (rep_len _ _) fun y my => ?_
    rw [rep_cps] at my
    rw [(List.mem_replicate.mp my).2]; omega
  simp only [List.mem_cons, List.not_mem_nil, or_false] at m
  rcases m with m | m | m | m | m | m | m | m | m | m <;> subst m
  · exact bs _ (isboard_bad h (by rw [lapp]; show _ + 1 ≤ _; omega) (.inl (by rw [lapp]; show _ + 1 ≠ n.toNat; omega)))
  · exact bs _ (isboard_bad h (by omega) (.inl (by show _ ≠ n.toNat; omega)))
  · exact bs _ (isboard_bad h (by decide) (.inl (by show 0 ≠ n.toNat; omega)))
  · exact .inl (isboardD_not _ rfl)
  · exact .inl (isboardD_not _ rfl)
  · exact bs _ (isboard_bad h (by rw [lapp]; show _ + 1 ≤ _; omega) (.inr ⟨88, by rw [cps_app]; exact List.mem_append_right _ (List.mem_singleton.mpr rfl), by omega⟩))
  · exact .inl (isboardD_not _ rfl)
  · exact .inl (isboardD_not _ rfl)
  · exact full 120 (.inl rfl)
  · exact full 111 (.inr rfl)
theorem bad_2 (h0 : 0 ≤ num) (n0 : 1 ≤ n) {r bd t : Dy} (hp : f.Pairwise (· < ·)) (hne : f ≠ []) (fl : f.length ≤ 100) :
    Sat (m_l_bad (n, ts) [r, bd, ToDy.dy f, t] 2 num) fun x => m_is_field (n, ts) x = .ok false := by
  have intsF : ∀ xs : List Dy, (∀ x ∈ xs, ∃ k : Int, x = .int k) → goodF (n, ts) (-1) xs = false → m_is_field (n, ts) (.lst xs) = .ok false := fun xs hk h => by
    rw [fieldD_is (fun x m => by obtain ⟨k, rfl⟩ := hk x m; exact flat_int k) (fun x m => .inl (hk x m)), h, Bool.and_false]
  have fi : ∀ x ∈ f.map Dy.int, ∃ k : Int, x = .int k := fun x m => by
    obtain ⟨k, _, e⟩ := List.mem_map.mp m
    exact ⟨k, e.symm⟩
  unfold m_l_bad
  rw [guardR_of (show decide (([r, bd, ToDy.dy f, t] : List Dy).length = 4) = true from rfl), Res.okb, show ScaEq.eq (2 : Int) (0 : Int) = false from rfl, if_neg Bool.false_ne_true, show ScaEq.eq (2 : Int) (1 : Int) = false from rfl, if_neg Bool.false_ne_true, show ScaEq.eq (2 : Int) (2 : Int) = true from rfl, if_pos rfl]
  rw [show List.headD (List.tail (List.tail [r, bd, ToDy.dy f, t])) default = ToDy.dy f from rfl, show dyL (ToDy.dy f) = .ok (f.map Dy.int) from rfl]
  simp only [Res.okb]
  rw [catR_ok (xs := f.map Dy.int) (ys := f.map Dy.int) (by simp; omega), catR_ok (xs := f.map Dy.int) (by simp; omega)]
  simp only [Res.okb]
  refine .bmod (by omega) (.idxI (by omega) (by show _ < ((12 : Nat) : Int); omega) fun x hx => ?_)
  have m := List.mem_of_getElem? hx
  simp only [List.mem_cons, List.not_mem_nil, or_false] at m
  rcases m with m | m | m | m | m | m | m | m | m | m | m | m <;> subst m
  · rw [mapid, fieldD_is (fun x m => by cases m) (fun x m => by cases m)]; rfl
  · exact fieldD_not rfl
  · exact fieldD_not rfl
  · rw [mapid]
    refine intsF _ (fun x m => (List.mem_append.mp m).elim (fi x) (fi x)) (not_good fun g => ?_)
    refine good_app (fun t ht _ _ => ?_) g hp
    cases f with
    | nil => exact absurd rfl hne
    | cons a r =>
      show (decide (0 ≤ a) && decide (a < n) && decide (t < a) && _) = false
      rw [decide_eq_false (show ¬ t < a by have := ht a List.mem_cons_self; omega)]; simp
  · rw [show (ToDy.dy [n] : Dy) = .lst [.int n] from rfl]
    refine intsF _ (fun x m => ⟨n, List.mem_singleton.mp m⟩) ?_
    show (decide (0 ≤ n) && decide (n < n) && decide (-1 < n) && true) = false
    rw [decide_eq_false (show ¬ n < n by omega)]; simp
  · rw [show (ToDy.dy [(-1 : Int)] : Dy) = .lst [.int (-1)] from rfl]
    exact intsF _ (fun x m => ⟨-1, List.mem_singleton.mp m⟩) rfl
  · rw [show (ToDy.dy [true]) = Dy.lst [.bl true] from rfl, fieldD_is (fun x m => by cases List.mem_singleton.mp m; exact flat_bl _) (fun x m => by cases List.mem_singleton.mp m; exact .inr (.inr rfl))]; rfl
  · rw [show (ToDy.dy [PySem.Str.ofString "0"]) = Dy.lst [.str (PySem.Str.ofString "0")] from rfl, fieldD_is (fun x m => by cases List.mem_singleton.mp m; exact flat_str) (fun x m => by cases List.mem_singleton.mp m; exact .inr (.inl rfl))]; rfl
  · exact fieldD_not rfl
  · exact fieldD_not rfl
  · rw [mapid]
    refine intsF _ (fun x m => (List.mem_append.mp m).elim (fi x) fun m => ⟨n, List.mem_singleton.mp m⟩) (not_good fun g => ?_)
    refine good_app (fun t ht _ _ => ?_) g hp
    show (decide (0 ≤ n) && decide (n < n) && decide (t < n) && true) = false
    rw [decide_eq_false (show ¬ n < n by omega)]; simp
  · rw [show (ToDy.dy [()]) = Dy.lst [.non] from rfl, fieldD_is (fun x m => by cases List.mem_singleton.mp m; exact flat_non) (fun x m => by cases List.mem_singleton.mp m; exact .inr (.inl rfl))]; rfl
end
section
variable {n : Int} {ts : Tup (Int × Int)} {ru : Dy} {b : Str} {e : Int} {num : Int}
theorem emptyL {w : Int × Tup (Int × Int)} (h : WebOk w) (hs : Sound w b) (he : 0 ≤ e ∧ e < w.1) (hd : sgn b e ≠ dot) : (rangeL 0 w.1.toNat).filter (fun k => decide (sgn b k = dot)) ≠ [] := by
  obtain ⟨x, _, y, my, hy⟩ := hs e he.1 he.2 hd
  have n1 := h.n1
  have ry := (nextL_rise w (by omega) x).2 y my
  intro z
  have : y ∈ (rangeL 0 w.1.toNat).filter (fun k => decide (sgn b k = dot)) := List.mem_filter.mpr ⟨mem_rangeL.mpr (by omega), decide_eq_true hy⟩
  rw [z] at this; cases this
theorem bad_3 {fd : Dy} (h0 : 0 ≤ num) (h : WebOk (n, ts)) (sm : n ≤ 8) (hb : b.length = n.toNat) (ho : signOk b) (hs : Sound (n, ts) b) (he : 0 ≤ e ∧ e < n) (hd : sgn b e ≠ dot) (r1 : m_are_fight_rules ru = .ok true) (b1 : m_is_board__D (n, ts) (.str b) = .ok true) (b2 : m_is_sound (n, ts) b = .ok true) :
    Sat (m_l_bad (n, ts) [ru, .str b, fd, .int e] 3 num) fun x => ∀ f', m_is_field (n, ts) f' = .ok true → m_Fight___init__ (n, ts) ru (.str b) f' x = .exc NF := by
  have n1 : 1 ≤ n := h.n1
  unfold m_l_bad
  rw [guardR_of (show decide (([ru, Dy.str b, fd, Dy.int e] : List Dy).length = 4) = true from rfl), Res.okb, show ScaEq.eq (3 : Int) (0 : Int) = false from rfl, if_neg Bool.false_ne_true, show ScaEq.eq (3 : Int) (1 : Int) = false from rfl, if_neg Bool.false_ne_true, show ScaEq.eq (3 : Int) (2 : Int) = false from rfl, if_neg Bool.false_ne_true]
  rw [show List.headD (List.tail [ru, Dy.str b, fd, Dy.int e]) default = Dy.str b from rfl, show List.headD (List.tail (List.tail (List.tail [ru, Dy.str b, fd, Dy.int e]))) default = Dy.int e from rfl, show dyI (.int e) = .ok e from rfl]
  rw [guardR_of (show small62 n = true from by unfold small62; simp; omega)]
  simp only [Res.okb]
  have eE : lcT (fun a88 => (Res.bind (dyIx (.str b) a88) fun v89 => (eqDy v89 (ToDy.dy ((PySem.Str.ofString ".") : PySem.Str))))) (fun a88 => (Res.ok a88)) (rangeL 0 n.toNat) = .ok ((rangeL 0 n.toNat).filter fun k => decide (sgn b k = dot)) := by
    refine Sat.eq (.lcT (p' := fun k => decide (sgn b k = dot)) (g' := fun k => k) (by rw [rangeL_len]; omega) (fun k m => ?_) (fun _ _ _ => rfl) (by rw [List.map_id']))
    have := mem_rangeL.mp m
    rw [show dyIx (.str b) k = (strIx b k).bind (fun x => .ok (.str x)) from rfl, strIx_sgn (by omega) this.1 (by omega), Res.okb, Res.okb, show (Dy.str (sgn b k)) = ToDy.dy (sgn b k) from rfl, eqDy_str _ _ (sgn_ok ho this.1 (by omega)) (by decide +kernel)]
  rw [eE]
  simp only [Res.okb]
  have ne := emptyL (w := (n, ts)) h hs he hd
  have hE : ∀ k ∈ (rangeL 0 n.toNat).filter (fun k => decide (sgn b k = dot)), (0 ≤ k ∧ k < n) ∧ sgn b k = dot := fun k m => by
    obtain ⟨mk, ek⟩ := List.mem_filter.mp m
    have := mem_rangeL.mp mk
    exact ⟨by omega, of_decide_eq_true ek⟩
  have ne' : (rangeL 0 n.toNat).filter (fun k => decide (sgn b k = dot)) ≠ [] := ne
  generalize (rangeL 0 n.toNat).filter (fun k => decide (sgn b k = dot)) = E at ne' hE
  obtain ⟨k0, E', rfl⟩ : ∃ k E', E = k :: E' := by
    cases E with
    | nil => exact absurd rfl ne'
    | cons k E' => exact ⟨k, E', rfl⟩
  have hk := hE k0 List.mem_cons_self
  rw [show G.idx (k0 :: E') 0 = .ok k0 from idx_int (Int.le_refl _) rfl]
  simp only [Res.okb]
  have cr : ∀ k : Int, ¬ (0 ≤ k ∧ k < n) → m_is_crossing (n, ts) (.int k) = .ok false := fun k hk => by
    rw [cross_int]
    congr 1
    rw [Bool.and_eq_false_iff, decide_eq_false_iff_not, decide_eq_false_iff_not]
    show ¬ 0 ≤ k ∨ ¬ k < n
    omega
  rw [strI_ok he.1 (by omega)]
  simp only [Res.okb]
  refine .bmod (by omega) (.idxI (by omega) (by show _ < ((10 : Nat) : Int); omega) fun x hx f' f1 => ?_)
  have m := List.mem_of_getElem? hx
  simp only [List.mem_cons, List.not_mem_nil, or_false] at m
  rcases m with m | m | m | m | m | m | m | m | m | m <;> subst m
  · refine gate_dot r1 b1 b2 f1 ?_ ?_
    · rw [cross_int]
      show Res.ok (decide (0 ≤ k0) && decide (k0 < n)) = _
      rw [decide_eq_true (show 0 ≤ k0 by omega), decide_eq_true (show k0 < n by omega)]; rfl
    · show (strIx b k0).bind _ = _
      rw [strIx_sgn (by omega) (by omega) (by omega), Res.okb, hk.2]
  · exact gate_aim r1 b1 b2 f1 (cr n (by omega))
  · exact gate_aim r1 b1 b2 f1 (cr _ (by omega))
  · exact gate_aim r1 b1 b2 f1 (cross_not (.inl rfl))
  · exact gate_aim r1 b1 b2 f1 (cross_not (.inr rfl))
  · exact gate_aim r1 b1 b2 f1 (cross_not (.inl rfl))
  · exact gate_aim r1 b1 b2 f1 (cross_not (.inl rfl))
  · exact gate_aim r1 b1 b2 f1 (cross_not (.inl rfl))
  · exact gate_aim r1 b1 b2 f1 (cr _ (by rw [show (10 : Int) ^ (9 : Int).toNat = 1000000000 from by decide]; omega))
  · exact gate_aim r1 b1 b2 f1 (cross_not (.inl rfl))
theorem unsound_is {fd : Dy} (h : WebOk (n, ts)) (tl : ts.l.length ≤ 150) (sm : n ≤ 8) (hb : b.length = n.toNat) (ho : signOk b) (he : 0 ≤ e ∧ e < n) (r1 : m_are_fight_rules ru = .ok true) :
    m_l_unsound (n, ts) [ru, .str b, fd, .int e] = .ok true := by
  have n1 : 1 ≤ n := h.n1
  have h' : WebOk (n + 2, (⟨ts.l ++ [(n, n + 1)]⟩ : Tup (Int × Int))) := by
    have old : ∀ t ∈ ts.l, 0 ≤ t.1 ∧ t.1 < t.2 ∧ t.2 < n := fun t m => h.ok t m
    refine ⟨by show 1 ≤ n + 2; omega, by show n + 2 ≤ 40; omega, by show (ts.l ++ [(n, n + 1)]).length ≤ 200; rw [List.length_append, List.length_singleton]; omega, fun t m => ?_, ?_, ?_⟩
    · rcases List.mem_append.mp m with m | m
      · have := old t m
        exact ⟨this.1, this.2.1, by show t.2 < n + 2; omega⟩
      · cases List.mem_singleton.mp m
        exact ⟨by show 0 ≤ n; omega, by show n < n + 1; omega, by show n + 1 < n + 2; omega⟩
    · refine List.nodup_append.mpr ⟨h.nd, (List.nodup_cons.mpr ⟨by simp, List.nodup_nil⟩), fun t m t' m' e => ?_⟩
      cases List.mem_singleton.mp m'
      have := old t m
      rw [e] at this
      have : n + 1 < n := this.2.2
      omega
    · refine List.pairwise_append.mpr ⟨h.up, List.pairwise_singleton _ _, fun t m t' m' => ?_⟩
      cases List.mem_singleton.mp m'
      have := old t m
      rw [leP_iff]
      exact .inl (by show t.1 < n; omega)
  have hb' : (b ++ PySem.Str.ofString "xo").length = (n + 2).toNat := by
    rw [lapp, hb]
    show n.toNat + 2 = _
    omega
  have ho' : signOk (b ++ PySem.Str.ofString "xo") := fun c m => by
    rw [cps_app] at m
    rcases List.mem_append.mp m with m | m
    · exact ho c m
    · have m : c ∈ [120, 111] := m
      simp only [List.mem_cons, List.not_mem_nil, or_false] at m
      omega
  have at0 : cpOf (b ++ PySem.Str.ofString "xo") n = 120 := by
    unfold cpOf
    rw [cps_app, List.getD_eq_getElem?_getD, List.getElem?_append_right (by rw [Array.length_toList]; show b.length ≤ _; omega)]
    rw [show n.toNat - b.cps.toList.length = 0 from by rw [Array.length_toList]; show n.toNat - b.length = 0; omega]
    rfl
  have at1 : cpOf (b ++ PySem.Str.ofString "xo") (n + 1) = 111 := by
    unfold cpOf
    rw [cps_app, List.getD_eq_getElem?_getD, List.getElem?_append_right (by rw [Array.length_toList]; show b.length ≤ _; omega)]
    rw [show (n + 1).toNat - b.cps.toList.length = 1 from by rw [Array.length_toList]; show (n + 1).toNat - b.length = 1; omega]
    rfl
  have nx : ∀ y, y ∈ nextL (n + 2, (⟨ts.l ++ [(n, n + 1)]⟩ : Tup (Int × Int))) n → y = n + 1 := fun y m => by
    have old : ∀ t ∈ ts.l, 0 ≤ t.1 ∧ t.1 < t.2 ∧ t.2 < n := fun t m => h.ok t m
    rcases (mem_nextL h').mp m with m | m
    · rcases List.mem_append.mp m with m | m
      · have := old _ m
        have : n < y ∧ y < n := ⟨this.2.1, this.2.2⟩
        omega
      · exact (Prod.mk.inj (List.mem_singleton.mp m)).2
    · rcases List.mem_append.mp m with m | m
      · have := old _ m
        have : n < n := this.2.2
        omega
      · have := (Prod.mk.inj (List.mem_singleton.mp m)).2
        omega
  have nb : ¬ Breathes (n + 2, (⟨ts.l ++ [(n, n + 1)]⟩ : Tup (Int × Int))) (b ++ PySem.Str.ofString "xo") n := by
    rintro ⟨x, rx, y, my, hy⟩
    have hx : x = n := by
      clear hy my
      induction rx with
      | here => rfl
      | on r m ok ih =>
        rw [ih] at m
        have e := nx _ m
        have e2 := of_decide_eq_true ok
        rw [e, sgn_eq.mpr at0] at e2
        have := sgn_eq.mp e2
        omega
    subst hx
    have e := nx y my
    subst e
    have := sgn_dot.mp hy
    omega
  have b1 : m_is_board__D (n + 2, (⟨ts.l ++ [(n, n + 1)]⟩ : Tup (Int × Int))) (.str (b ++ PySem.Str.ofString "xo")) = .ok true := by rw [isboardD_str]; exact isboard_is h' hb' ho'
  have b2 : m_is_sound (n + 2, (⟨ts.l ++ [(n, n + 1)]⟩ : Tup (Int × Int))) (b ++ PySem.Str.ofString "xo") = .ok false :=
    sound_false h' hb' (k := n) ⟨by omega, by show n < n + 2; omega⟩ (fun e => by have := sgn_dot.mp e; omega) nb
  have g : ∀ f a, m_Fight___init__ (n + 2, (⟨ts.l ++ [(n, n + 1)]⟩ : Tup (Int × Int))) ru (.str (b ++ PySem.Str.ofString "xo")) f a = .exc NF := fun f a => gate_sound r1 b1 b2
  have xq : ∃ q, eqDy (ToDy.dy (sgn b e)) (ToDy.dy ((PySem.Str.ofString "x") : PySem.Str)) = .ok q := ⟨_, eqDy_str _ _ (sgn_ok ho he.1 (by omega)) (by decide +kernel)⟩
  obtain ⟨q, eq⟩ := xq
  unfold m_l_unsound
  rw [guardR_of (show decide (([ru, Dy.str b, fd, Dy.int e] : List Dy).length = 4) = true from rfl), Res.okb]
  rw [show List.headD (List.tail [ru, Dy.str b, fd, Dy.int e]) default = Dy.str b from rfl, show List.headD (List.tail (List.tail (List.tail [ru, Dy.str b, fd, Dy.int e]))) default = Dy.int e from rfl, show dyI (.int e) = .ok e from rfl, show dyS (.str b) = .ok b from rfl]
  rw [show catT ts (⟨[(n, n + 1)]⟩ : Tup (Int × Int)) = .ok ⟨ts.l ++ [(n, n + 1)]⟩ from guardR_of (decide_eq_true (by show ts.l.length + 1 ≤ _; omega))]
  simp only [Res.okb]
  rw [catS_ok (x := b) (y := PySem.Str.ofString "xo") (by show _ + 2 ≤ _; omega), show dyIx (.str b) e = (strIx b e).bind (fun x => .ok (.str x)) from rfl, strIx_sgn (by omega) he.1 (by omega), Res.okb, Res.okb, show (Dy.str (sgn b e)) = ToDy.dy (sgn b e) from rfl, eq]
  simp only [Res.okb]
  rw [show (ToDy.dy (b ++ PySem.Str.ofString "xo" : Str)) = Dy.str (b ++ PySem.Str.ofString "xo") from rfl]
  rw [show List.headD [ru, Dy.str b, fd, Dy.int e] default = ru from rfl, show List.headD (List.tail (List.tail [ru, Dy.str b, fd, Dy.int e])) default = fd from rfl]
  rw [noto (live_1 (g _ _)), noto (live_1 (g _ _)), nola (by show 0 ≤ n + 2; omega) (by show n + 2 ≤ 40; omega) (g _ _)]
  rfl
end
theorem law_true (ns : List Int) (_ : ns.length ≤ 63) : m_law ⟨ns⟩ = .ok true := by
  refine Sat.eq ?_
  unfold m_law
  refine .bind (drawn_ok ns (k := 0) (by decide)) fun t ⟨h, n6, tl⟩ => ?_
  obtain ⟨⟨n, ts⟩, ⟨ra, rb, rc⟩, b, f, e⟩ := t
  have hw : WebOk (n, ts) := h.web
  have n1 : 1 ≤ n := hw.n1
  have n6 : n ≤ 6 := n6
  have tl : ts.l.length ≤ 144 := tl
  have hb : b.length = n.toNat := h.len
  have ho : signOk b := h.ok
  have hs : Sound (n, ts) b := h.sound
  have he : 0 ≤ e ∧ e < n := h.aim
  have hd : sgn b e ≠ dot := h.st
  have hr : f.Pairwise (· < ·) := h.rise
  have hne : f ≠ [] := h.ne
  have hg : ∀ x ∈ f, 0 ≤ x ∧ x < n := h.rg
  have hp : rb = true := h.pass
  subst hp
  have hra : ra = PySem.Str.ofString "ko" ∨ ra = PySem.Str.ofString "free" := h.again
  clear h
  have r1 : m_are_fight_rules (ToDy.dy (⟨ra, true, rc⟩ : T3 Str Bool Bool)) = .ok true := rulesD_ok rfl hra
  have b1 : m_is_board__D (n, ts) (.str b) = .ok true := by rw [isboardD_str]; exact isboard_is hw hb ho
  have b2 : m_is_sound (n, ts) b = .ok true := sound_true hw hb hs
  have f1 : m_is_field (n, ts) (ToDy.dy f) = .ok true := fieldD_ok hr hne hg
  have fr : m_is_field (n, ts) (ToDy.dy (rangeL 0 n.toNat)) = .ok true := fieldD_ok (rangeL_rise _) (fun z => by have := rangeL_len 0 n.toNat; rw [z] at this; have : 0 = n.toNat := this; omega) fun x m => by have := mem_rangeL.mp m; exact ⟨this.1, by show x < n; omega⟩
  have at_ : ∀ k, 0 ≤ k → k < n → strIx b k = .ok (sgn b k) := fun k k0 k1 => strIx_sgn (by omega) k0 (by omega)
  have eS : lcT (fun a4 => (Res.bind (strIx b a4) fun v5 => (Res.bind (strIx b e) fun v6 => (Res.ok (ScaEq.eq v5 v6) : Res Bool)))) (fun a4 => (Res.ok a4)) (rangeL 0 n.toNat) = .ok ((rangeL 0 n.toNat).filter fun k => decide (sgn b k = sgn b e)) := by
    refine Sat.eq (.lcT (p' := fun k => decide (sgn b k = sgn b e)) (g' := fun k => k) (by rw [rangeL_len]; omega) (fun k m => ?_) (fun _ _ _ => rfl) (by rw [List.map_id']))
    have := mem_rangeL.mp m
    rw [at_ k this.1 (by omega), at_ e he.1 he.2]; rfl
  have eO : lcT (fun a9 => (Res.bind (strIx b a9) fun v12 => (Res.bind (Res.bind (Res.bind (strIx b e) fun v10 => (Res.ok (v10 :: []))) fun v11 => (Res.ok ((PySem.Str.ofString ".") :: v11))) fun v13 => (Res.ok (!decide (v12 ∈ v13)) : Res Bool)))) (fun a9 => (Res.ok a9)) (rangeL 0 n.toNat) = .ok ((rangeL 0 n.toNat).filter fun k => !decide (sgn b k ∈ [dot, sgn b e])) := by
    refine Sat.eq (.lcT (p' := fun k => !decide (sgn b k ∈ [dot, sgn b e])) (g' := fun k => k) (by rw [rangeL_len]; omega) (fun k m => ?_) (fun _ _ _ => rfl) (by rw [List.map_id']))
    have := mem_rangeL.mp m
    rw [at_ k this.1 (by omega), at_ e he.1 he.2]; rfl
  rw [guardR_of (show small62 n = true from by unfold small62; simp; omega)]
  simp only [Res.okb]
  rw [eS, Res.okb, eO]
  simp only [Res.okb]
  have hS : ∀ k ∈ (rangeL 0 n.toNat).filter (fun k => decide (sgn b k = sgn b e)), (0 ≤ k ∧ k < n) ∧ sgn b k = sgn b e := fun k m => by
    obtain ⟨mk, ek⟩ := List.mem_filter.mp m
    have := mem_rangeL.mp mk
    exact ⟨by omega, of_decide_eq_true ek⟩
  have hO : ∀ k ∈ (rangeL 0 n.toNat).filter (fun k => !decide (sgn b k ∈ [dot, sgn b e])), (0 ≤ k ∧ k < n) ∧ sgn b k ≠ dot := fun k m => by
    obtain ⟨mk, ek⟩ := List.mem_filter.mp m
    have := mem_rangeL.mp mk
    refine ⟨by omega, fun z => ?_⟩
    rw [z] at ek
    simp at ek
  have eS' : e ∈ (rangeL 0 n.toNat).filter (fun k => decide (sgn b k = sgn b e)) := List.mem_filter.mpr ⟨mem_rangeL.mpr (by omega), decide_eq_true rfl⟩
  have lS : ((rangeL 0 n.toNat).filter (fun k => decide (sgn b k = sgn b e))).length ≤ 40 := Nat.le_trans (List.length_filter_le _ _) (by rw [rangeL_len]; omega)
  have lO : ((rangeL 0 n.toNat).filter (fun k => !decide (sgn b k ∈ [dot, sgn b e]))).length ≤ 40 := Nat.le_trans (List.length_filter_le _ _) (by rw [rangeL_len]; omega)
  generalize (rangeL 0 n.toNat).filter (fun k => decide (sgn b k = sgn b e)) = S at hS eS' lS
  generalize (rangeL 0 n.toNat).filter (fun k => !decide (sgn b k ∈ [dot, sgn b e])) = O at hO lO
  rw [catR_ok (by omega)]
  simp only [Res.okb]
  have hOS : ∀ k ∈ O ++ S, (0 ≤ k ∧ k < n) ∧ sgn b k ≠ dot := fun k m => (List.mem_append.mp m).elim (hO k) fun m => ⟨(hS k m).1, by rw [(hS k m).2]; exact hd⟩
  have nOS : O ++ S ≠ [] := fun z => by
    have : e ∈ O ++ S := List.mem_append_right _ eS'
    rw [z] at this; cases this
  generalize O ++ S = OS at hOS nOS
  obtain ⟨o, OS', rfl⟩ : ∃ o OS', OS = o :: OS' := by
    cases OS with
    | nil => exact absurd rfl nOS
    | cons o OS' => exact ⟨o, OS', rfl⟩
  have ho1 := hOS o List.mem_cons_self
  have es : (ToDy.dy b : Dy) = .str b := rfl
  have ei : (ToDy.dy e : Dy) = .int e := rfl
  have good : ∀ k, 0 ≤ k → k < n → sgn b k ≠ dot → ∀ f', m_is_field (n, ts) (ToDy.dy f') = .ok true → m_Fight___init__ (n, ts) (ToDy.dy (⟨ra, true, rc⟩ : T3 Str Bool Bool)) (.str b) (ToDy.dy f') (.int k) = .ok (((((((), (n, ts)), ToDy.dy (⟨ra, true, rc⟩ : T3 Str Bool Bool)), b), f'), k)) := fun k k0 k1 kd f' hf' =>
    init_good r1 b1 b2 hf' (by rw [cross_int]; show Res.ok (decide (0 ≤ k) && decide (k < n)) = _; rw [decide_eq_true k0, decide_eq_true k1]; rfl) ho (by omega) k0 (by omega) kd
  rw [es, ei, unsound_is hw (by omega) (by omega) hb ho he r1]
  simp only [Res.okb, Bool.not_true, Bool.false_eq_true, if_false]
  obtain ⟨c3, e3⟩ := cell_ok ns (k := 3) (by decide)
  rw [e3]
  simp only [Res.okb]
  rw [catR_ok (by
    have : (cut ns (some (4 : Int)) (some (24 : Int))).length ≤ 24 - 4 := cut_len ns 4 24
    simp only [List.length_cons, List.length_nil]
    omega)]
  simp only [Res.okb]
  refine .tail (P := fun _ => True) (unit_loop fun i k hk => ?_) fun _ _ => .ok rfl
  refine .bind (P := fun ds : List Int => ∃ x y z, ds = [x, y, z] ∧ (0 ≤ x ∧ x < 4) ∧ 0 ≤ y ∧ 0 ≤ z) ?_ fun ds ⟨x, y, z, eds, hx, hy, hz⟩ => ?_
  · refine .bind (numbers k _ (by decide) (by decide)) fun ds hdd => ?_
    have l3 : ds.length = 3 := hdd.1
    obtain ⟨x, y, z, rfl⟩ : ∃ x y z, ds = [x, y, z] := by
      match ds, l3 with
      | [x, y, z], _ => exact ⟨x, y, z, rfl⟩
    refine .of_eq (guardR_of rfl) ⟨x, y, z, rfl, hdd.2 0 x _ rfl rfl, (hdd.2 1 y _ rfl rfl).1, (hdd.2 2 z _ rfl rfl).1⟩
  subst eds
  rw [show List.headD [x, y, z] default = x from rfl, show List.headD (List.tail [x, y, z]) default = y from rfl, show List.headD (List.tail (List.tail [x, y, z])) default = z from rfl]
  have hbent : Sat (Res.bind (m_l_bad (n, ts) [ToDy.dy (⟨ra, true, rc⟩ : T3 Str Bool Bool), .str b, ToDy.dy f, .int e] x y) fun v28 => setR [ToDy.dy (⟨ra, true, rc⟩ : T3 Str Bool Bool), Dy.str b, ToDy.dy f, Dy.int e] x v28)
      (fun bent => ∃ r b' f' t', bent = [r, b', f', t'] ∧ (x ≠ 2 → m_l_no_ladder (n, ts) bent = .ok true) ∧ ∀ oth : Int, (x = 3 → oth = o) → m_l_no_together (n, ts) bent t' (.int oth) = .ok true ∧ m_l_no_together (n, ts) bent (.int oth) t' = .ok true) := by
    have n0 : (0 : Int) ≤ ((n, ts) : Int × Tup (Int × Int)).1 := by show 0 ≤ n; omega
    have n40 : ((n, ts) : Int × Tup (Int × Int)).1 ≤ 40 := by show n ≤ 40; omega
    have : x = 0 ∨ x = 1 ∨ x = 2 ∨ x = 3 := by omega
    rcases this with rfl | rfl | rfl | rfl
    · exact .bind (bad_0 hy hra) fun v hv => .of_eq (a := [v, .str b, ToDy.dy f, .int e]) rfl ⟨_, _, _, _, rfl, fun _ => nola n0 n40 (gate_rules hv), fun oth _ => ⟨noto (live_1 (gate_rules hv)), noto (live_1 (gate_rules hv))⟩⟩
    · refine .bind (bad_1 hy hw (by omega) hb ho) fun v hv => .of_eq (a := [ToDy.dy (⟨ra, true, rc⟩ : T3 Str Bool Bool), v, ToDy.dy f, .int e]) rfl ⟨_, _, _, _, rfl, ?_⟩
      have g : ∀ f a, m_Fight___init__ (n, ts) (ToDy.dy (⟨ra, true, rc⟩ : T3 Str Bool Bool)) v f a = .exc NF := fun f a => by
        rcases hv with hv | ⟨s, rfl, q1, q2⟩
        · exact gate_board r1 hv
        · exact gate_sound r1 q1 q2
      exact ⟨fun _ => nola n0 n40 (g _ _), fun oth _ => ⟨noto (live_1 (g _ _)), noto (live_1 (g _ _))⟩⟩
    · exact .bind (bad_2 hy n1 hr hne (by
        have : f = (rangeL 0 n.toNat).filter fun k => decide (k ∈ f) := rise_ext hr ((rangeL_rise _).filter _) fun x => by
          rw [List.mem_filter, mem_rangeL, decide_eq_true_iff]
          exact ⟨fun m => ⟨by have := hg x m; omega, m⟩, fun m => m.2⟩
        have l := List.length_filter_le (fun k => decide (k ∈ f)) (rangeL 0 n.toNat)
        rw [← this, rangeL_len] at l
        omega)) fun v hv => .of_eq (a := [ToDy.dy (⟨ra, true, rc⟩ : T3 Str Bool Bool), .str b, v, .int e]) rfl ⟨_, _, _, _, rfl, fun q => absurd rfl q, fun oth _ => ⟨noto (live_1 (gate_field r1 b1 b2 hv)), noto (live_1 (gate_field r1 b1 b2 hv))⟩⟩
    · refine .bind (bad_3 hy hw (by omega) hb ho hs he hd r1 b1 b2) fun v hv => .of_eq (a := [ToDy.dy (⟨ra, true, rc⟩ : T3 Str Bool Bool), .str b, ToDy.dy f, v]) rfl ⟨_, _, _, _, rfl, fun _ => nola n0 n40 (hv _ fr), fun oth q => ?_⟩
      have q := q rfl
      subst q
      exact ⟨noto (live_1 (hv _ f1)), noto (live_2 (good _ ho1.1.1 ho1.1.2 ho1.2 _ f1) (hv _ f1))⟩
  refine .bind hbent fun bent ⟨r, b', f', t', eb, hl, ht⟩ => ?_
  subst eb
  refine .next (P := fun _ => True) ?_ fun _ _ => ?_
  · by_cases q : x = 2
    · rw [show (!ScaEq.eq x (2 : Int)) = false from by rw [show ScaEq.eq x (2 : Int) = true from decide_eq_true q]; rfl]
      exact .nx trivial
    · rw [show (!ScaEq.eq x (2 : Int)) = true from by rw [show ScaEq.eq x (2 : Int) = false from decide_eq_false q]; rfl, if_pos rfl, hl q]
      exact .nx trivial
  rw [show G.idx (o :: OS') 0 = .ok o from idx_int (Int.le_refl _) rfl]
  simp only [Res.okb]
  refine .bind (P := fun oth : Int => x = 3 → oth = o) ?_ fun oth hoth => ?_
  · by_cases q : x < 3
    · rw [decide_eq_true q, if_pos rfl, at_ o ho1.1.1 ho1.1.2, at_ e he.1 he.2]
      simp only [Res.okb]
      exact .ite (fun _ => .ok fun z => by omega) fun _ => .ok fun z => rfl
    · rw [decide_eq_false q, if_neg Bool.false_ne_true]
      exact .ok fun z => rfl
  have ht2 := ht oth hoth
  refine .next (P := fun _ => True) ?_ fun _ _ => ?_
  · rw [show G.idx [r, b', f', t'] 3 = .ok t' from rfl]
    simp only [Res.okb]
    refine (unit_loop fun i a ha => ?_).imp fun q ⟨s', e, _⟩ => ⟨s', e, trivial⟩
    have m := List.mem_of_getElem? ha
    simp only [List.mem_cons, List.not_mem_nil, or_false] at m
    rcases m with rfl | rfl
    · rw [show dyIx (ToDy.dy ((t', oth) : Dy × Int)) 0 = .ok t' from rfl, show dyIx (ToDy.dy ((t', oth) : Dy × Int)) 1 = .ok (.int oth) from rfl]
      simp only [Res.okb]
      rw [ht2.1]
      exact .next (P := fun _ => True) (.nx trivial) fun _ _ => .nx trivial
    · rw [show dyIx (ToDy.dy ((oth, t') : Int × Dy)) 0 = .ok (.int oth) from rfl, show dyIx (ToDy.dy ((oth, t') : Int × Dy)) 1 = .ok t' from rfl]
      simp only [Res.okb]
      rw [ht2.2]
      exact .next (P := fun _ => True) (.nx trivial) fun _ _ => .nx trivial
  have pS : 0 < S.length := List.length_pos_of_mem eS'
  have r0 := Int.emod_nonneg z (b := (S.length : Int)) (by omega)
  have rr := Int.emod_lt_of_pos z (b := (S.length : Int)) (by omega)
  have g := get_of (xs := S) (i := (z % (S.length : Int)).toNat) (by omega)
  have hq := hS _ (List.mem_of_getElem? g)
  rw [modR_of (by omega), Res.okb, idx_int r0 g]
  simp only [Res.okb]
  generalize S[(z % (S.length : Int)).toNat]'(by omega) = q at hq
  rw [show (ToDy.dy q : Dy) = .int q from rfl, noto (live_3 (good e he.1 he.2 hd _ f1) (good q hq.1.1 hq.1.2 (by rw [hq.2]; exact hd) _ f1) (at_ e he.1 he.2) ((at_ q hq.1.1 hq.1.2).trans (by rw [hq.2])))]
  exact .next (P := fun _ => True) (.nx trivial) fun _ _ => .nx trivial
end K58


open PySem PySem.W PyProof.Rows in
set_option maxRecDepth 100000 in
set_option maxHeartbeats 0 in
theorem PySem.Challenge.cw_ringstones_k58_no_standing_holds : PySem.Challenge.rw_ringstones_k58_no_standing.Holds := by
  w_on; o_law; k_head; (case hw => w_witness2)
  k_fill
  refine L2.walk_of (l := PySem.Challenge.rw_ringstones_k58_no_standing) (n := 63) (k := 10) (x := "_law_script") (CX := fun w => L2.CX PySem.Challenge.rw_ringstones_k58_no_standing.prog w) (sp := fun w => G.spLaw _) rfl (by decide) rfl ⟨rfl, by decide, by decide⟩ (fun w h Y => by first | exact PySem.W.kIn_of Y | exact PySem.W.km_in_of Y) ?F (fun _ _ a ns hl _ hS => ⟨a, ns, rfl, hS, hl, fun _ _ h => h⟩) (fun _ _ _ _ _ h => by
    obtain ⟨_, _, _, _, _, _, _, _, _, _, _, _, z⟩ := h
    exact z.elim)
  case F =>
    intro w mg fa h KX G hmg
    refine' K58.all_mk KX G hmg K58.law_true ?a0 ?l0 ?c0 ?k0 ?a1 ?l1 ?c1 ?k1 ?a2 ?l2 ?c2 ?k2 ?a3 ?l3 ?c3 ?k3 ?a4 ?l4 ?c4 ?k4 ?a5 ?l5 ?c5 ?k5 ?a6 ?l6 ?c6 ?k6 ?a7 ?l7 ?c7 ?k7 ?a8 ?l8 ?c8 ?k8 ?a9 ?l9 ?c9 ?k9 ?a10 ?l10 ?c10 ?k10 ?a11 ?l11 ?c11 ?k11 ?a12 ?l12 ?c12 ?k12 ?a13 ?l13 ?c13 ?k13 ?a14 ?l14 ?c14 ?k14 ?a15 ?l15 ?c15 ?k15 ?a16 ?l16 ?c16 ?k16 ?a17 ?l17 ?c17 ?k17 ?a18 ?l18 ?c18 ?k18 ?a19 ?l19 ?c19 ?k19 ?a20 ?l20 ?c20 ?k20 ?a21 ?l21 ?c21 ?k21 ?a22 ?l22 ?c22 ?k22 ?a23 ?l23 ?c23 ?k23 ?a24 ?l24 ?c24 ?k24 ?a25 ?l25 ?c25 ?k25 ?a26 ?l26 ?c26 ?k26 ?a27 ?l27 ?c27 ?k27 ?a28 ?l28 ?c28 ?k28 ?a29 ?l29 ?c29 ?k29 ?a30 ?l30 ?c30 ?k30 ?z_sorted ?z_isinstance ?z_str ?z_len ?z_range ?z_tuple ?z_bool ?z_int ?z_list ?z_max ?z_set ?ga0 ?gl0 ?gv0 ?xa_NoFight ?xk_NoFight ?xb_NoFight ?xt_NoFight ?xi_NoFight ?xg_NoFight ?xr_NoFight ?xd_NoFight ?xc_NoFight ?xm_NoFight ?xs_NoFight ?xx_NoFight ?xa_TooMany ?xk_TooMany ?xb_TooMany ?xt_TooMany ?xi_TooMany ?xg_TooMany ?xr_TooMany ?xd_TooMany ?xc_TooMany ?xm_TooMany ?xs_TooMany ?xa_NoText ?xk_NoText ?xb_NoText ?xt_NoText ?xi_NoText ?xg_NoText ?xr_NoText ?xd_NoText ?xc_NoText ?xm_NoText ?xs_NoText ?xa_NoName ?xk_NoName ?xb_NoName ?xt_NoName ?xi_NoName ?xg_NoName ?xr_NoName ?xd_NoName ?xc_NoName ?xm_NoName ?xs_NoName ?xa_NoField ?xk_NoField ?xb_NoField ?xt_NoField ?xi_NoField ?xg_NoField ?xr_NoField ?xd_NoField ?xc_NoField ?xm_NoField ?xs_NoField ?xa_NoCrossing ?xk_NoCrossing ?xb_NoCrossing ?xt_NoCrossing ?xi_NoCrossing ?xg_NoCrossing ?xr_NoCrossing ?xd_NoCrossing ?xc_NoCrossing ?xm_NoCrossing ?xs_NoCrossing ?xa_NoBoard ?xk_NoBoard ?xb_NoBoard ?xt_NoBoard ?xi_NoBoard ?xg_NoBoard ?xr_NoBoard ?xd_NoBoard ?xc_NoBoard ?xm_NoBoard ?xs_NoBoard ?xa_Again ?xk_Again ?xb_Again ?xt_Again ?xi_Again ?xg_Again ?xr_Again ?xd_Again ?xc_Again ?xm_Again ?xs_Again ?xa_RingError ?xk_RingError ?xb_RingError ?xt_RingError ?xi_RingError ?xg_RingError ?xr_RingError ?xd_RingError ?xc_RingError ?xm_RingError ?xs_RingError ?xn ?xz ?sb_NoFight_TooMany ?sb_NoFight_NoText ?sb_NoFight_NoName ?sb_NoFight_NoField ?sb_NoFight_NoCrossing ?sb_NoFight_NoBoard ?sb_NoFight_Again ?sb_NoFight_ValueError ?sb_NoFight_RingError ?xo_ValueError ?oa_Fight ?og_Fight ?oh_Fight ?oo_Fight ?os_Fight ?om_Fight ?oq_Fight ?of_Fight_the_web ?of_Fight_the_rules ?of_Fight_first_board ?of_Fight_the_field ?of_Fight_aim ?oa_Chase ?og_Chase ?oh_Chase ?oo_Chase ?os_Chase ?om_Chase ?oq_Chase ?of_Chase_fight ?im11 ?im12 ?im14
    (case oa_Fight => first | rfl | k_is)
    (case oa_Chase => first | rfl | k_is)
    (case a0 => k_is)
    (case l0 => k_is)
    (case c0 => k_is)
    (case k0 => k_is)
    (case a1 => k_is)
    (case l1 => k_is)
    (case c1 => k_is)
    (case k1 => k_is)
    (case a2 => k_is)
    (case l2 => k_is)
    (case c2 => k_is)
    (case k2 => k_is)
    (case a3 => k_is)
    (case l3 => k_is)
    (case c3 => k_is)
    (case k3 => k_is)
    (case a4 => k_is)
    (case l4 => k_is)
    (case c4 => k_is)
    (case k4 => k_is)
    (case a5 => k_is)
    (case l5 => k_is)
    (case c5 => k_is)
    (case k5 => k_is)
    (case a6 => k_is)
    (case l6 => k_is)
    (case c6 => k_is)
    (case k6 => k_is)
    (case a7 => k_is)
    (case l7 => k_is)
    (case c7 => k_is)
    (case k7 => k_is)
    (case a8 => k_is)
    (case l8 => k_is)
    (case c8 => k_is)
    (case k8 => k_is)
    (case a9 => k_is)
    (case l9 => k_is)
    (case c9 => k_is)
    (case k9 => k_is)
    (case a10 => k_is)
    (case l10 => k_is)
    (case c10 => k_is)
    (case k10 => k_is)
    (case a11 => k_is)
    (case l11 => k_is)
    (case c11 => k_is)
    (case k11 => k_is)
    (case a12 => k_is)
    (case l12 => k_is)
    (case c12 => k_is)
    (case k12 => k_is)
    (case a13 => k_is)
    (case l13 => k_is)
    (case c13 => k_is)
    (case k13 => k_is)
    (case a14 => k_is)
    (case l14 => k_is)
    (case c14 => k_is)
    (case k14 => k_is)
    (case a15 => k_is)
    (case l15 => k_is)
    (case c15 => k_is)
    (case k15 => k_is)
    (case a16 => k_is)
    (case l16 => k_is)
    (case c16 => k_is)
    (case k16 => k_is)
    (case a17 => k_is)
    (case l17 => k_is)
    (case c17 => k_is)
    (case k17 => k_is)
    (case a18 => k_is)
    (case l18 => k_is)
    (case c18 => k_is)
    (case k18 => k_is)
    (case a19 => k_is)
    (case l19 => k_is)
    (case c19 => k_is)
    (case k19 => k_is)
    (case a20 => k_is)
    (case l20 => k_is)
    (case c20 => k_is)
    (case k20 => k_is)
    (case a21 => k_is)
    (case l21 => k_is)
    (case c21 => k_is)
    (case k21 => k_is)
    (case a22 => k_is)
    (case l22 => k_is)
    (case c22 => k_is)
    (case k22 => k_is)
    (case a23 => k_is)
    (case l23 => k_is)
    (case c23 => k_is)
    (case k23 => k_is)
    (case a24 => k_is)
    (case l24 => k_is)
    (case c24 => k_is)
    (case k24 => k_is)
    (case a25 => k_is)
    (case l25 => k_is)
    (case c25 => k_is)
    (case k25 => k_is)
    (case a26 => k_is)
    (case l26 => k_is)
    (case c26 => k_is)
    (case k26 => k_is)
    (case a27 => k_is)
    (case l27 => k_is)
    (case c27 => k_is)
    (case k27 => k_is)
    (case a28 => k_is)
    (case l28 => k_is)
    (case c28 => k_is)
    (case k28 => k_is)
    (case a29 => k_is)
    (case l29 => k_is)
    (case c29 => k_is)
    (case k29 => k_is)
    (case a30 => k_is)
    (case l30 => k_is)
    (case c30 => k_is)
    (case k30 => k_is)
    (case z_sorted => k_is)
    (case z_isinstance => k_is)
    (case z_str => k_is)
    (case z_len => k_is)
    (case z_range => k_is)
    (case z_tuple => k_is)
    (case z_bool => k_is)
    (case z_int => k_is)
    (case z_list => k_is)
    (case z_max => k_is)
    (case z_set => k_is)
    (case ga0 => k_is)
    (case gl0 => k_is)
    (case gv0 => exact (.cons ⟨_, rfl⟩ (.cons ⟨_, rfl⟩ (.cons ⟨_, rfl⟩ .nil))))
    (case xa_NoFight => first | rfl | k_is)
    (case xk_NoFight => first | rfl | k_is)
    (case xb_NoFight => first | rfl | k_is)
    (case xt_NoFight => first | rfl | k_is)
    (case xi_NoFight => first | rfl | k_is)
    (case xg_NoFight => first | rfl | k_is)
    (case xr_NoFight => first | rfl | k_is)
    (case xd_NoFight => first | rfl | k_is)
    (case xc_NoFight => first | rfl | k_is)
    (case xm_NoFight => first | rfl | k_is)
    (case xs_NoFight => first | rfl | k_is)
    (case xx_NoFight => k_exc)
    (case xa_TooMany => first | rfl | k_is)
    (case xk_TooMany => first | rfl | k_is)
    (case xb_TooMany => first | rfl | k_is)
    (case xt_TooMany => first | rfl | k_is)
    (case xi_TooMany => first | rfl | k_is)
    (case xg_TooMany => first | rfl | k_is)
    (case xr_TooMany => first | rfl | k_is)
    (case xd_TooMany => first | rfl | k_is)
    (case xc_TooMany => first | rfl | k_is)
    (case xm_TooMany => first | rfl | k_is)
    (case xs_TooMany => first | rfl | k_is)
    (case xa_NoText => first | rfl | k_is)
    (case xk_NoText => first | rfl | k_is)
    (case xb_NoText => first | rfl | k_is)
    (case xt_NoText => first | rfl | k_is)
    (case xi_NoText => first | rfl | k_is)
    (case xg_NoText => first | rfl | k_is)
    (case xr_NoText => first | rfl | k_is)
    (case xd_NoText => first | rfl | k_is)
    (case xc_NoText => first | rfl | k_is)
    (case xm_NoText => first | rfl | k_is)
    (case xs_NoText => first | rfl | k_is)
    (case xa_NoName => first | rfl | k_is)
    (case xk_NoName => first | rfl | k_is)
    (case xb_NoName => first | rfl | k_is)
    (case xt_NoName => first | rfl | k_is)
    (case xi_NoName => first | rfl | k_is)
    (case xg_NoName => first | rfl | k_is)
    (case xr_NoName => first | rfl | k_is)
    (case xd_NoName => first | rfl | k_is)
    (case xc_NoName => first | rfl | k_is)
    (case xm_NoName => first | rfl | k_is)
    (case xs_NoName => first | rfl | k_is)
    (case xa_NoField => first | rfl | k_is)
    (case xk_NoField => first | rfl | k_is)
    (case xb_NoField => first | rfl | k_is)
    (case xt_NoField => first | rfl | k_is)
    (case xi_NoField => first | rfl | k_is)
    (case xg_NoField => first | rfl | k_is)
    (case xr_NoField => first | rfl | k_is)
    (case xd_NoField => first | rfl | k_is)
    (case xc_NoField => first | rfl | k_is)
    (case xm_NoField => first | rfl | k_is)
    (case xs_NoField => first | rfl | k_is)
    (case xa_NoCrossing => first | rfl | k_is)
    (case xk_NoCrossing => first | rfl | k_is)
    (case xb_NoCrossing => first | rfl | k_is)
    (case xt_NoCrossing => first | rfl | k_is)
    (case xi_NoCrossing => first | rfl | k_is)
    (case xg_NoCrossing => first | rfl | k_is)
    (case xr_NoCrossing => first | rfl | k_is)
    (case xd_NoCrossing => first | rfl | k_is)
    (case xc_NoCrossing => first | rfl | k_is)
    (case xm_NoCrossing => first | rfl | k_is)
    (case xs_NoCrossing => first | rfl | k_is)
    (case xa_NoBoard => first | rfl | k_is)
    (case xk_NoBoard => first | rfl | k_is)
    (case xb_NoBoard => first | rfl | k_is)
    (case xt_NoBoard => first | rfl | k_is)
    (case xi_NoBoard => first | rfl | k_is)
    (case xg_NoBoard => first | rfl | k_is)
    (case xr_NoBoard => first | rfl | k_is)
    (case xd_NoBoard => first | rfl | k_is)
    (case xc_NoBoard => first | rfl | k_is)
    (case xm_NoBoard => first | rfl | k_is)
    (case xs_NoBoard => first | rfl | k_is)
    (case xa_Again => first | rfl | k_is)
    (case xk_Again => first | rfl | k_is)
    (case xb_Again => first | rfl | k_is)
    (case xt_Again => first | rfl | k_is)
    (case xi_Again => first | rfl | k_is)
    (case xg_Again => first | rfl | k_is)
    (case xr_Again => first | rfl | k_is)
    (case xd_Again => first | rfl | k_is)
    (case xc_Again => first | rfl | k_is)
    (case xm_Again => first | rfl | k_is)
    (case xs_Again => first | rfl | k_is)
    (case xa_RingError => first | rfl | k_is)
    (case xk_RingError => first | rfl | k_is)
    (case xb_RingError => first | rfl | k_is)
    (case xt_RingError => first | rfl | k_is)
    (case xi_RingError => first | rfl | k_is)
    (case xg_RingError => first | rfl | k_is)
    (case xr_RingError => first | rfl | k_is)
    (case xd_RingError => first | rfl | k_is)
    (case xc_RingError => first | rfl | k_is)
    (case xm_RingError => first | rfl | k_is)
    (case xs_RingError => first | rfl | k_is)
    (case xn => first | rfl | k_is)
    (case xz => first | rfl | k_is)
    (case sb_NoFight_TooMany => first | rfl | k_is)
    (case sb_NoFight_NoText => first | rfl | k_is)
    (case sb_NoFight_NoName => first | rfl | k_is)
    (case sb_NoFight_NoField => first | rfl | k_is)
    (case sb_NoFight_NoCrossing => first | rfl | k_is)
    (case sb_NoFight_NoBoard => first | rfl | k_is)
    (case sb_NoFight_Again => first | rfl | k_is)
    (case sb_NoFight_ValueError => first | rfl | k_is)
    (case sb_NoFight_RingError => first | rfl | k_is)
    (case xo_ValueError => first | rfl | k_is)
    (case og_Fight => first | rfl | k_is)
    (case oh_Fight => first | rfl | k_is)
    (case oo_Fight => first | rfl | k_is)
    (case os_Fight => first | rfl | k_is)
    (case om_Fight => first | rfl | k_is)
    (case oq_Fight => first | rfl | k_is)
    (case of_Fight_the_web => first | rfl | k_is)
    (case of_Fight_the_rules => first | rfl | k_is)
    (case of_Fight_first_board => first | rfl | k_is)
    (case of_Fight_the_field => first | rfl | k_is)
    (case of_Fight_aim => first | rfl | k_is)
    (case og_Chase => first | rfl | k_is)
    (case oh_Chase => first | rfl | k_is)
    (case oo_Chase => first | rfl | k_is)
    (case os_Chase => first | rfl | k_is)
    (case om_Chase => first | rfl | k_is)
    (case oq_Chase => first | rfl | k_is)
    (case of_Chase_fight => first | rfl | k_is)
    (case im11 => first | rfl | k_is)
    (case im12 => first | rfl | k_is)
    (case im14 => first | rfl | k_is)
