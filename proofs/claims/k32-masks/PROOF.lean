import PyProof.Rows.All
import Wide.All
import OpenK.AllK
import Wide.FinOn
import HandS.ForMost
import HandS.ForExc
import HandS.Evl
import HandS.Wide
import HandS.WideBits
import HandS.Deep
import HandS.IsInst
import HandS.Star
import HandS.CallSlots
import HandS.ExcOwn
import HandS.Property
import HandS.Zip
import KE.KOpsOwn
import HandS.OwnEq
import KE.KFmtOwn
import HandS.TupAny
import HandS.Text
import HandS.ExcField
import HandS.TryOnly
import HandS.ExcInit
import HandS.Small
import HandS.Conv
import HandS.Iter
import KE.KUnpackStar
import PySem.Challenge.RW_boardbits_k32_masks
set_option Elab.async false
set_option linter.all false
set_option maxRecDepth 100000
set_option maxHeartbeats 4000000
/-! DL, part a: data without a heap (D), how values and objects stand for it (Rp, Own), frames of data (I2), what code does on data (Res). -/
namespace DL
open PySem L2 Evl

/-- data: a value with all that it holds -/
inductive D where
  | non | bl (b : Bool) | int (i : Int) | str (s : Str)
  | lst (xs : List D) | tup (xs : List D) | rol (xs : List D) | ins (k : Nat) (xs : List D)

/-- what stands fast: the written part, the classes' addresses, their fields in order -/
structure Ct where
  K : PySem.W.Frag
  cl : Nat → Addr
  fn : Nat → List Str
  /-- the exception that is handled here: its address, class, attributes' dict -/
  xs : Option (Addr × Value × Option Addr) := none

mutual
/-- v stands for d, by objects that never change -/
def Rp (c : Ct) (F : Hp) : D → V → Prop
  | .non, v => v = .non
  | .bl b, v => v = .bl b
  | .int i, v => v = .int i
  | .str s, v => v = .str s
  | .lst ds, v => ∃ p vs, v = .ref p ∧ F p = some (.lst vs) ∧ RpL c F ds vs
  | .tup ds, v => ∃ p vs, v = .ref p ∧ SqT c.K F p vs ∧ RpL c F ds vs
  | .rol ds, v => ∃ p vs, v = .ref p ∧ SqL c.K F p vs ∧ RpL c F ds vs
  | .ins k ds, v => ∃ p dx vs, v = .ref p ∧ F p = some (.ins (c.cl k) dx ((c.fn k).zip vs)) ∧ RpL c F ds vs
def RpL (c : Ct) (F : Hp) : List D → List V → Prop
  | [], vs => vs = []
  | d :: ds, vs => ∃ v r, vs = v :: r ∧ Rp c F d v ∧ RpL c F ds r
end

section
variable {c : Ct} {F G H H' : Hp}
mutual
theorem Rp.mono (e : Ex F G) : ∀ (d : D) (v : V), Rp c F d v → Rp c G d v
  | .non, _, h => h
  | .bl _, _, h => h
  | .int _, _, h => h
  | .str _, _, h => h
  | .lst ds, _, ⟨p, vs, h1, h2, h3⟩ => ⟨p, vs, h1, e _ _ h2, RpL.mono e ds vs h3⟩
  | .tup ds, _, ⟨p, vs, h1, h2, h3⟩ => ⟨p, vs, h1, ex_t e h2, RpL.mono e ds vs h3⟩
  | .rol ds, _, ⟨p, vs, h1, h2, h3⟩ => ⟨p, vs, h1, ex_l e h2, RpL.mono e ds vs h3⟩
  | .ins _ ds, _, ⟨p, dx, vs, h1, h2, h3⟩ => ⟨p, dx, vs, h1, e _ _ h2, RpL.mono e ds vs h3⟩
theorem RpL.mono (e : Ex F G) : ∀ (ds : List D) (vs : List V), RpL c F ds vs → RpL c G ds vs
  | [], _, h => h
  | d :: ds, _, ⟨v, r, h1, h2, h3⟩ => ⟨v, r, h1, Rp.mono e d v h2, RpL.mono e ds r h3⟩
end
theorem RpL.len : ∀ {ds : List D} {vs : List V}, RpL c F ds vs → ds.length = vs.length
  | [], _, h => by cases h; rfl
  | d :: ds, _, ⟨v, r, h1, h2, h3⟩ => by subst h1; simp [RpL.len h3]
theorem RpL.get : ∀ {ds : List D} {vs : List V} {i : Nat} {d : D}, RpL c F ds vs → ds[i]? = some d → ∃ v, vs[i]? = some v ∧ Rp c F d v
  | [], _, _, _, h, g => by simp at g
  | d :: ds, _, i, x, ⟨v, r, h1, h2, h3⟩, g => by
    subst h1
    cases i with
    | zero => simp at g; subst g; exact ⟨v, rfl, h2⟩
    | succ i =>
      simp at g
      obtain ⟨w, h4, h5⟩ := RpL.get (i := i) h3 g
      exact ⟨w, by simpa using h4, h5⟩
theorem RpL.getV : ∀ {ds : List D} {vs : List V} {i : Nat} {v : V}, RpL c F ds vs → vs[i]? = some v → ∃ d, ds[i]? = some d ∧ Rp c F d v
  | [], _, _, _, h, g => by cases h; simp at g
  | d :: ds, _, i, x, ⟨v, r, h1, h2, h3⟩, g => by
    subst h1
    cases i with
    | zero => simp at g; subst g; exact ⟨d, rfl, h2⟩
    | succ i =>
      simp at g
      obtain ⟨w, h4, h5⟩ := RpL.getV (i := i) h3 g
      exact ⟨w, by simpa using h4, h5⟩
theorem RpL.app : ∀ {ds es : List D} {vs ws : List V}, RpL c F ds vs → RpL c F es ws → RpL c F (ds ++ es) (vs ++ ws)
  | [], _, _, _, h, g => by cases h; exact g
  | d :: ds, _, _, _, ⟨v, r, h1, h2, h3⟩, g => by subst h1; exact ⟨v, _, rfl, h2, RpL.app h3 g⟩
theorem RpL.one {d : D} {v : V} (h : Rp c F d v) : RpL c F [d] [v] := ⟨v, [], rfl, h, rfl⟩
theorem RpL.set : ∀ {ds : List D} {vs : List V} {d : D} {v : V} (i : Nat), RpL c F ds vs → Rp c F d v → RpL c F (ds.set i d) (vs.set i v)
  | [], _, _, _, _, h, g => by cases h; exact rfl
  | d :: ds, _, x, y, i, ⟨v, r, h1, h2, h3⟩, g => by
    subst h1
    cases i with
    | zero => exact ⟨y, r, rfl, g, h3⟩
    | succ i => exact ⟨v, _, rfl, h2, RpL.set i h3 g⟩
theorem RpL.take : ∀ {ds : List D} {vs : List V} (n : Nat), RpL c F ds vs → RpL c F (ds.take n) (vs.take n)
  | _, _, 0, _ => rfl
  | [], _, n + 1, h => by cases h; exact rfl
  | d :: ds, _, n + 1, ⟨v, r, h1, h2, h3⟩ => by subst h1; exact ⟨v, _, rfl, h2, RpL.take n h3⟩
theorem RpL.drop : ∀ {ds : List D} {vs : List V} (n : Nat), RpL c F ds vs → RpL c F (ds.drop n) (vs.drop n)
  | _, _, 0, h => h
  | [], _, n + 1, h => by cases h; exact rfl
  | d :: ds, _, n + 1, ⟨v, r, h1, h2, h3⟩ => by subst h1; exact RpL.drop n h3
theorem RpL.rev : ∀ {ds : List D} {vs : List V}, RpL c F ds vs → RpL c F ds.reverse vs.reverse
  | [], _, h => by cases h; exact rfl
  | d :: ds, _, ⟨v, r, h1, h2, h3⟩ => by subst h1; rw [List.reverse_cons, List.reverse_cons]; exact RpL.app (RpL.rev h3) (RpL.one h2)
theorem RpL.ints : ∀ {ns : List Int} {vs : List V}, RpL c F (ns.map D.int) vs → vs = ns.map V.int
  | [], _, h => h
  | n :: ns, _, ⟨v, r, h1, h2, h3⟩ => by subst h1; rw [List.map_cons, RpL.ints h3, show v = V.int n from h2]
theorem RpL.of_ints : ∀ (ns : List Int), RpL c F (ns.map D.int) (ns.map V.int)
  | [] => rfl
  | n :: ns => ⟨V.int n, _, rfl, rfl, RpL.of_ints ns⟩

/-- an object at p that is known alone here, and may change: it holds d -/
def Own (c : Ct) (F H : Hp) (d : D) (p : Addr) : Prop := F p = none ∧ match d with
  | .lst ds => ∃ vs, H p = some (.lst vs) ∧ RpL c F ds vs
  | .ins k ds => ∃ dx vs, H p = some (.ins (c.cl k) dx ((c.fn k).zip vs)) ∧ RpL c F ds vs
  | _ => False
theorem Own.at {d : D} {p : Addr} (h : Own c F H d p) : ∃ o, H p = some o := by
  cases d with
  | lst ds => obtain ⟨_, vs, h, _⟩ := h; exact ⟨_, h⟩
  | ins k ds => obtain ⟨_, dx, vs, h, _⟩ := h; exact ⟨_, h⟩
  | _ => exact h.2.elim
/-- the known part grows, the object stays -/
theorem Own.mono {d : D} {p : Addr} (h : Own c F H d p) (e : Ex F G) (hp : G p = none) (k : ∀ o, H p = some o → H' p = some o) : Own c G H' d p := by
  cases d with
  | lst ds => obtain ⟨_, vs, h1, h2⟩ := h; exact ⟨hp, vs, k _ h1, RpL.mono e ds vs h2⟩
  | ins j ds => obtain ⟨_, dx, vs, h1, h3⟩ := h; exact ⟨hp, dx, vs, k _ h1, RpL.mono e ds vs h3⟩
  | _ => exact h.2.elim
/-- frozen: from here on it never changes -/
theorem Own.seal {d : D} {p : Addr} (h : Own c F H d p) (e : Ex F H) : ∃ G, Ex F G ∧ Ex G H ∧ Rp c G d (.ref p) ∧ ∀ b, b ≠ p → G b = F b := by
  have key : ∀ o, H p = some o → Ex (upd F p o) H := fun o h1 a u h => by
    by_cases ha : a = p
    · subst ha; rw [upd_same] at h; rw [← h]; exact h1
    · rw [upd_ne ha] at h; exact e _ _ h
  cases d with
  | lst ds =>
    obtain ⟨hp, vs, h1, h2⟩ := h
    have x := Ex.new (o := .lst vs) hp
    exact ⟨_, x, key _ h1, ⟨p, vs, rfl, upd_same, RpL.mono x ds vs h2⟩, fun b hb => upd_ne hb⟩
  | ins j ds =>
    obtain ⟨hp, dx, vs, h1, h3⟩ := h
    have x := Ex.new (o := .ins (c.cl j) dx ((c.fn j).zip vs)) hp
    exact ⟨_, x, key _ h1, ⟨p, dx, vs, rfl, upd_same, RpL.mono x ds vs h3⟩, fun b hb => upd_ne hb⟩
  | _ => exact h.2.elim
end
end DL

/-! DL, part b: frames of data (I2), what is handed from step to step (T, TR), the steps on them. -/
namespace DL
open PySem L2 Evl

structure XV where
  k : Nat
  ds : List D
/-- what a name holds: shared data; an object known to this name alone; an object of a caller's; the exception that is handled -/
inductive B where
  | sh (d : D) | ow (d : D) | br (d : D) | ex (x : XV)
def B.d : B → D
  | .sh d => d | .ow d => d | .br d => d | .ex _ => .non
def B.isRoot : B → Bool
  | .sh _ => false | .ow _ => true | .br _ => true | .ex _ => false
def B.re : B → D → B
  | .sh _, d => .sh d | .ow _, d => .ow d | .br _, d => .br d | .ex x, _ => .ex x
abbrev DEnv := List (Option B)
/-- what an expression hands on: a name's object itself; data; a new object -/
inductive T where
  | sl (i : Nat) | vl (d : D) | nw (d : D)
inductive Res (α : Type) where
  | stuck | ok (a : α) | exc (x : XV) (e : DEnv)
def Res.bind {α β : Type} (r : Res α) (f : α → Res β) : Res β := match r with
  | .stuck => .stuck | .ok a => f a | .exc x e => .exc x e
def Wp {α : Type} (r : Res α) (ok : α → Prop) (ex : XV → DEnv → Prop) : Prop := match r with
  | .stuck => False | .ok a => ok a | .exc x e => ex x e
theorem Wp.bind {α β : Type} {r : Res α} {f : α → Res β} {ok : β → Prop} {ex : XV → DEnv → Prop} : Wp (r.bind f) ok ex = Wp r (fun a => Wp (f a) ok ex) ex := by
  cases r <;> rfl
theorem Wp.mono {α : Type} {r : Res α} {ok ok' : α → Prop} {ex ex' : XV → DEnv → Prop} (h : Wp r ok ex) (h1 : ∀ a, r = .ok a → ok a → ok' a) (h2 : ∀ x e, ex x e → ex' x e) : Wp r ok' ex' := by
  cases r with
  | stuck => exact h
  | ok a => exact h1 a rfl h
  | exc x e => exact h2 x e h
/-- of an option: none is stuck -/
def Res.of {α : Type} : Option α → Res α
  | none => .stuck | some a => .ok a
theorem Wp.of {α : Type} {o : Option α} {ok : α → Prop} {ex : XV → DEnv → Prop} (h : Wp (Res.of o) ok ex) : ∃ a, o = some a ∧ ok a := by
  cases o with
  | none => exact h.elim
  | some a => exact ⟨a, rfl, h⟩

/-- what a frame starts from: the heap at the entry, what is known to stand fast, the callers' objects that are lent -/
structure Zs where
  H0 : Hp
  F0 : Hp
  Bo : Addr → Prop
  V0 : Nat → V

/-- an exception of a class of one's own, by its attributes -/
def XR (c : Ct) (F : Hp) (x : XV) (cls : Value) (dd : Option Addr) : Prop := cls = .ref (c.cl x.k) ∧
  ((x.ds = [] ∧ dd = none) ∨ ∃ a fs vs, dd = some a ∧ F a = some (.xd fs) ∧ RpL c F x.ds vs ∧ (∀ (i : Nat) (f : Str) (v : V), (c.fn x.k)[i]? = some f → vs[i]? = some v → fs.lookup f = some v))
theorem XR.mono {c : Ct} {F G : Hp} (e : Ex F G) {x : XV} {cls : Value} {dd : Option Addr} (h : XR c F x cls dd) : XR c G x cls dd := by
  obtain ⟨h1, h2⟩ := h
  refine ⟨h1, ?_⟩
  rcases h2 with h2 | ⟨a, fs, vs, h2, h3, h4, h5⟩
  · exact .inl h2
  · exact .inr ⟨a, fs, vs, h2, e _ _ h3, RpL.mono e _ _ h4, h5⟩
def BR (c : Ct) (z : Zs) (F H : Hp) : B → V → Prop
  | .sh d, v => Rp c F d v
  | .ow d, v => ∃ p, v = .ref p ∧ Own c F H d p ∧ z.H0 p = none
  | .br d, v => ∃ p, v = .ref p ∧ Own c F H d p ∧ z.Bo p
  | .ex x, v => ∃ a cls dd, c.xs = some (a, cls, dd) ∧ v = .ref a ∧ XR c F x cls dd
def RootAt (σ : L2.St) (e : DEnv) (i : Nat) (p : Addr) : Prop := ∃ b, e[i]? = some (some b) ∧ b.isRoot = true ∧ σ[i]? = some (some (.ref p))
structure I2 (c : Ct) (z : Zs) (σ : L2.St) (H F : Hp) (e : DEnv) : Prop where
  len : e.length = σ.length
  f0 : Ex z.F0 F
  fh : Ex F H
  keep : ∀ p o, z.H0 p = some o → ¬ z.Bo p → H p = some o
  slot : ∀ (i : Nat) (b : B), e[i]? = some (some b) → ∃ v, σ[i]? = some (some v) ∧ BR c z F H b v
  dist : ∀ (i j : Nat) (p : Addr), RootAt σ e i p → RootAt σ e j p → i = j
  bo : ∀ p, z.Bo p → ∃ o, H p = some o
  nf : ∀ p, z.H0 p ≠ none → z.F0 p = none → F p = none
  brv : ∀ (i : Nat) (d : D) (v : V), e[i]? = some (some (.br d)) → σ[i]? = some (some v) → z.V0 i = v

def TR (c : Ct) (z : Zs) (F H : Hp) (σ : L2.St) (e : DEnv) : T → V → Prop
  | .sl i, v => σ[i]? = some (some v)
  | .vl d, v => Rp c F d v
  | .nw d, v => ∃ p, v = .ref p ∧ Own c F H d p ∧ z.H0 p = none ∧ ∀ i, ¬ RootAt σ e i p

section
variable {c : Ct} {z : Zs} {σ : L2.St} {H H' F G : Hp} {e : DEnv}
theorem I2.own {i : Nat} {b : B} (I : I2 c z σ H F e) (h : e[i]? = some (some b)) (hr : b.isRoot = true) : ∃ p, σ[i]? = some (some (.ref p)) ∧ Own c F H b.d p ∧ (z.H0 p = none ∨ z.Bo p) := by
  obtain ⟨v, hv, r⟩ := I.slot i b h
  cases b with
  | sh d => cases hr
  | ow d => obtain ⟨p, rfl, o, k⟩ := r; exact ⟨p, hv, o, .inl k⟩
  | br d => obtain ⟨p, rfl, o, k⟩ := r; exact ⟨p, hv, o, .inr k⟩
  | ex x => cases hr
theorem I2.rootAt {i : Nat} {p : Addr} (I : I2 c z σ H F e) (h : RootAt σ e i p) : ∃ d, Own c F H d p := by
  obtain ⟨b, h1, h2, h3⟩ := h
  obtain ⟨q, h4, o, _⟩ := I.own h1 h2
  rw [h3] at h4; cases h4
  exact ⟨_, o⟩
theorem Own.ne_none {d : D} {p q : Addr} (o : Own c F H d p) (h : H q = none) : p ≠ q := fun z => by
  obtain ⟨x, hx⟩ := o.at
  rw [z, h] at hx; cases hx
theorem I2.fresh0 {p : Addr} (I : I2 c z σ H F e) (hp : H p = none) : z.H0 p = none := by
  cases h : z.H0 p with
  | none => rfl
  | some o =>
    by_cases hb : z.Bo p
    · obtain ⟨o', h'⟩ := I.bo p hb
      rw [hp] at h'; cases h'
    · rw [I.keep p o h hb] at hp; cases hp
theorem I2.noroot {p : Addr} (I : I2 c z σ H F e) (hp : H p = none) (i : Nat) : ¬ RootAt σ e i p := fun h => by
  obtain ⟨d, o⟩ := I.rootAt h
  exact o.ne_none hp rfl

/-- the known part grows by objects that no name owns -/
theorem I2.grow (I : I2 c z σ H F e) (x : Ex F G) (y : Ex G H) (k : ∀ (i : Nat) (p : Addr), RootAt σ e i p → G p = none) (n : ∀ p, z.H0 p ≠ none → G p = F p) : I2 c z σ H G e := by
  refine ⟨I.len, I.f0.trans x, y, I.keep, fun i b h => ?_, I.dist, I.bo, fun p h1 h2 => (n p h1).trans (I.nf p h1 h2), I.brv⟩
  obtain ⟨v, hv, r⟩ := I.slot i b h
  refine ⟨v, hv, ?_⟩
  cases b with
  | sh d => exact Rp.mono x d v r
  | ow d => obtain ⟨p, rfl, o, q⟩ := r; exact ⟨p, rfl, o.mono x (k i p ⟨_, h, rfl, hv⟩) (fun _ h => h), q⟩
  | br d => obtain ⟨p, rfl, o, q⟩ := r; exact ⟨p, rfl, o.mono x (k i p ⟨_, h, rfl, hv⟩) (fun _ h => h), q⟩
  | ex y => obtain ⟨a, cls, dd, h1, h2, h3⟩ := r; exact ⟨a, cls, dd, h1, h2, h3.mono x⟩
/-- a new object of no name is frozen -/
theorem I2.sealNew {d : D} {p : Addr} (I : I2 c z σ H F e) (o : Own c F H d p) (h0 : z.H0 p = none) (hr : ∀ i, ¬ RootAt σ e i p) : ∃ G, Ex F G ∧ I2 c z σ H G e ∧ Rp c G d (.ref p) := by
  obtain ⟨G, x, y, r, k⟩ := o.seal I.fh
  refine ⟨G, x, I.grow x y (fun i q h => ?_) (fun q h => k q fun z => h (z ▸ h0)), r⟩
  obtain ⟨d', o'⟩ := I.rootAt h
  rw [k q fun z => hr i (z ▸ h)]
  exact o'.1
theorem get_set {α : Type} {l : List α} {i j : Nat} {a x : α} (h : (l.set i a)[j]? = some x) : (j = i ∧ x = a) ∨ (j ≠ i ∧ l[j]? = some x) := by
  by_cases e : i = j
  · subst e
    rw [List.getElem?_set] at h
    by_cases hi : i < l.length
    · simp [hi] at h; exact .inl ⟨rfl, h.symm⟩
    · simp [hi] at h
  · rw [List.getElem?_set_ne e] at h
    exact .inr ⟨fun q => e q.symm, h⟩
theorem get_setS {α : Type} {l : List α} {i : Nat} {a : α} (h : i < l.length) : (l.set i a)[i]? = some a := by
  rw [List.getElem?_set]; simp [h]
theorem get_lt {α : Type} {l : List α} {i : Nat} {x : α} (h : l[i]? = some x) : i < l.length := (List.getElem?_eq_some_iff.mp h).1
/-- a name forgets what it is alone with -/
theorem I2.drop (I : I2 c z σ H F e) (i : Nat) : I2 c z σ H F (e.set i none) := by
  have key : ∀ (j : Nat) (b : B), (e.set i none)[j]? = some (some b) → e[j]? = some (some b) := fun j b h => by
    rcases get_set h with ⟨_, q⟩ | ⟨_, q⟩
    · cases q
    · exact q
  exact ⟨by rw [List.length_set]; exact I.len, I.f0, I.fh, I.keep, fun j b h => I.slot j b (key j b h), fun j k p ⟨b, h1, h2, h3⟩ ⟨b', h1', h2', h3'⟩ => I.dist j k p ⟨b, key _ _ h1, h2, h3⟩ ⟨b', key _ _ h1', h2', h3'⟩, I.bo, I.nf, fun j d v h => I.brv j d v (key _ _ h)⟩
/-- a name's binding is replaced by shared data -/
theorem I2.rebind {i : Nat} {v : V} {d : D} (I : I2 c z σ H F e) (hv : σ[i]? = some (some v)) (r : Rp c F d v) : I2 c z σ H F (e.set i (some (.sh d))) := by
  refine ⟨by rw [List.length_set]; exact I.len, I.f0, I.fh, I.keep, fun j b h => ?_, fun j k p ⟨b, h1, h2, h3⟩ ⟨b', h1', h2', h3'⟩ => ?_, I.bo, I.nf, fun j d' v' h => ?_⟩
  · rcases get_set h with ⟨rfl, q⟩ | ⟨_, q⟩
    · cases q; exact ⟨v, hv, r⟩
    · exact I.slot j b q
  · rcases get_set h1 with ⟨_, q⟩ | ⟨_, q⟩
    · cases q; cases h2
    · rcases get_set h1' with ⟨_, q'⟩ | ⟨_, q'⟩
      · cases q'; cases h2'
      · exact I.dist j k p ⟨b, q, h2, h3⟩ ⟨b', q', h2', h3'⟩
  · rcases get_set h with ⟨_, q⟩ | ⟨_, q⟩
    · cases q
    · exact I.brv j d' v' q
/-- a name's own object is frozen -/
theorem I2.freeze {i : Nat} {d : D} (I : I2 c z σ H F e) (h : e[i]? = some (some (.ow d))) : ∃ G v, Ex F G ∧ I2 c z σ H G (e.set i (some (.sh d))) ∧ σ[i]? = some (some v) ∧ Rp c G d v := by
  obtain ⟨v, hv, p, rfl, o, hp⟩ := I.slot i _ h
  obtain ⟨G, x, I', r⟩ := (I.drop i).sealNew o hp fun j ⟨b, h1, h2, h3⟩ => by
    rcases get_set h1 with ⟨_, q⟩ | ⟨ne, q⟩
    · cases q
    · exact ne (I.dist j i p ⟨b, q, h2, h3⟩ ⟨_, h, rfl, hv⟩)
  have I'' := I'.rebind (i := i) (by exact hv) r
  rw [List.set_set] at I''
  exact ⟨G, _, x, I'', hv, r⟩
/-- the heap grows: new objects are laid, nobody's yet -/
theorem I2.alloc (I : I2 c z σ H F e) (e1 : Ex H H') : I2 c z σ H' F e := by
  refine ⟨I.len, I.f0, I.fh.trans e1, fun q u h1 h2 => e1 _ _ (I.keep q u h1 h2), fun i b h => ?_, I.dist, fun q h => let ⟨u, k⟩ := I.bo q h; ⟨u, e1 _ _ k⟩, I.nf, I.brv⟩
  obtain ⟨v, hv, r⟩ := I.slot i b h
  refine ⟨v, hv, ?_⟩
  cases b with
  | sh d => exact r
  | ow d => obtain ⟨q, rfl, w, k⟩ := r; exact ⟨q, rfl, w.mono (Ex.refl F) w.1 (fun _ h => e1 _ _ h), k⟩
  | br d => obtain ⟨q, rfl, w, k⟩ := r; exact ⟨q, rfl, w.mono (Ex.refl F) w.1 (fun _ h => e1 _ _ h), k⟩
  | ex y => exact r
/-- a new tuple, known at once -/
theorem I2.allocT {p : Addr} {o : HO} (I : I2 c z σ H F e) (hp : H p = none) : I2 c z σ (upd H p o) (upd F p o) e := by
  have hF : F p = none := fresh_back I.fh hp
  have J := I.alloc (Ex.new (o := o) hp)
  refine J.grow (Ex.new hF) (fun a u h => ?_) (fun i q h => ?_) (fun q h => upd_ne fun z => h (z ▸ I.fresh0 hp))
  · by_cases ha : a = p
    · subst ha; rw [upd_same] at h; rw [upd_same]; exact h
    · rw [upd_ne ha] at h; rw [upd_ne ha]; exact I.fh _ _ h
  · obtain ⟨d, w⟩ := I.rootAt h
    rw [upd_ne (w.ne_none hp)]
    exact w.1
theorem B.re_root {b : B} {d : D} : (b.re d).isRoot = b.isRoot := by cases b <;> rfl
/-- names' objects are changed (those of the names in L), the known part and the heap grow -/
theorem I2.change {L : List Nat} {e' : DEnv} (I : I2 c z σ H F e) (hl : e'.length = e.length) (x : Ex F G) (y : Ex G H') (kp : ∀ p o, H p = some o → (∀ i ∈ L, ¬ RootAt σ e i p) → H' p = some o)
    (kb : ∀ p, H p ≠ none → H' p ≠ none) (nf : ∀ p, H p ≠ none → F p = none → G p = none)
    (hb : ∀ (i : Nat) (b' : B), e'[i]? = some (some b') → ∃ b, e[i]? = some (some b) ∧ ((b' = b ∧ (b.isRoot = true → i ∉ L)) ∨ (b.isRoot = true ∧ ∃ d p, b' = b.re d ∧ σ[i]? = some (some (.ref p)) ∧ Own c G H' d p))) : I2 c z σ H' G e' := by
  have key : ∀ i p, RootAt σ e' i p → RootAt σ e i p := fun i p ⟨b', h1, h2, h3⟩ => by
    obtain ⟨b, h4, h5⟩ := hb i b' h1
    refine ⟨b, h4, ?_, h3⟩
    rcases h5 with ⟨rfl, _⟩ | ⟨h5, _⟩
    · exact h2
    · exact h5
  have h0 : ∀ p, z.H0 p ≠ none → H p ≠ none := fun p h => by
    cases q : z.H0 p with
    | none => exact absurd q h
    | some o =>
      by_cases hB : z.Bo p
      · obtain ⟨u, k⟩ := I.bo p hB; rw [k]; exact fun z => nomatch z
      · rw [I.keep p o q hB]; exact fun z => nomatch z
  refine ⟨hl.trans I.len, I.f0.trans x, y, fun p o h1 h2 => kp p o (I.keep p o h1 h2) fun i _ ⟨b, h3, h4, h5⟩ => ?_, fun i b' h => ?_, fun i j p h1 h2 => I.dist i j p (key _ _ h1) (key _ _ h2), fun p h => ?_, fun p h1 h2 => nf p (h0 p h1) (I.nf p h1 h2), fun i d v h hv => ?_⟩
  · obtain ⟨v, hv, r⟩ := I.slot i b h3
    rw [h5] at hv; cases hv
    cases b with
    | sh d => cases h4
    | ow d => obtain ⟨q, e1, _, h6⟩ := r; cases e1; rw [h1] at h6; cases h6
    | br d => obtain ⟨q, e1, _, h6⟩ := r; cases e1; exact h2 h6
    | ex y => cases h4
  · obtain ⟨b, h1, h2⟩ := hb i b' h
    obtain ⟨v, hv, r⟩ := I.slot i b h1
    refine ⟨v, hv, ?_⟩
    rcases h2 with ⟨rfl, h2⟩ | ⟨h2, d, p, rfl, h3, h4⟩
    · cases b' with
      | sh d => exact Rp.mono x d v r
      | ow d =>
        obtain ⟨p, rfl, o, q⟩ := r
        have hp : H p ≠ none := by obtain ⟨u, hu⟩ := o.at; rw [hu]; exact fun z => nomatch z
        exact ⟨p, rfl, o.mono x (nf p hp o.1) (fun u hu => kp p u hu fun j hj hr => h2 rfl (I.dist i j p ⟨_, h1, rfl, hv⟩ hr ▸ hj)), q⟩
      | br d =>
        obtain ⟨p, rfl, o, q⟩ := r
        have hp : H p ≠ none := by obtain ⟨u, hu⟩ := o.at; rw [hu]; exact fun z => nomatch z
        exact ⟨p, rfl, o.mono x (nf p hp o.1) (fun u hu => kp p u hu fun j hj hr => h2 rfl (I.dist i j p ⟨_, h1, rfl, hv⟩ hr ▸ hj)), q⟩
      | ex y => obtain ⟨a, cls, dd, h1, h2, h3⟩ := r; exact ⟨a, cls, dd, h1, h2, h3.mono x⟩
    · rw [h3] at hv; cases hv
      cases b with
      | sh d => cases h2
      | ow d' => obtain ⟨q, e1, _, h6⟩ := r; cases e1; exact ⟨p, rfl, h4, h6⟩
      | br d' => obtain ⟨q, e1, _, h6⟩ := r; cases e1; exact ⟨p, rfl, h4, h6⟩
      | ex y => cases h2
  · obtain ⟨u, hu⟩ := I.bo p h
    have := kb p (by rw [hu]; exact fun z => nomatch z)
    cases q : H' p with
    | none => exact absurd q this
    | some o => exact ⟨o, rfl⟩
  · obtain ⟨b, h1, h2⟩ := hb i _ h
    have : ∃ d', b = .br d' := by
      rcases h2 with ⟨rfl, _⟩ | ⟨_, d', p, h3, _⟩
      · exact ⟨d, rfl⟩
      · cases b with
        | sh _ => cases h3
        | ow _ => cases h3
        | br d'' => exact ⟨d'', rfl⟩
        | ex _ => cases h3
    obtain ⟨d', rfl⟩ := this
    exact I.brv i d' v h1 hv
/-- one name's object is changed -/
theorem I2.mut {i : Nat} {b : B} {p : Addr} {d : D} {o : HO} (I : I2 c z σ H F e) (h : e[i]? = some (some b)) (hr : b.isRoot = true) (hv : σ[i]? = some (some (.ref p))) (w : Own c F (upd H p o) d p) : I2 c z σ (upd H p o) F (e.set i (some (b.re d))) := by
  refine I.change (L := [i]) (by rw [List.length_set]) (Ex.refl F) (fun a u h1 => ?_) (fun q u h1 h2 => ?_) (fun q h1 => ?_) (fun _ _ h => h) fun j b' h1 => ?_
  · by_cases ha : a = p
    · subst ha; rw [w.1] at h1; cases h1
    · rw [upd_ne ha]; exact I.fh _ _ h1
  · by_cases ha : q = p
    · subst ha; exact absurd ⟨b, h, hr, hv⟩ (h2 i List.mem_cons_self)
    · rw [upd_ne ha]; exact h1
  · by_cases ha : q = p
    · subst ha; rw [upd_same]; exact fun z => nomatch z
    · rw [upd_ne ha]; exact h1
  · rcases get_set h1 with ⟨rfl, q⟩ | ⟨ne, q⟩
    · cases q; exact ⟨b, h, .inr ⟨hr, d, p, rfl, hv, w⟩⟩
    · exact ⟨b', q, .inl ⟨rfl, fun _ => by simp [ne]⟩⟩
/-- a name is bound to shared data -/
theorem I2.store {i : Nat} {v : V} {d : D} (I : I2 c z σ H F e) (hi : i < σ.length) (r : Rp c F d v) : I2 c z (σ.set i (some v)) H F (e.set i (some (.sh d))) := by
  have key : ∀ (j : Nat) (p : Addr), RootAt (σ.set i (some v)) (e.set i (some (.sh d))) j p → RootAt σ e j p := fun j p ⟨b, h1, h2, h3⟩ => by
    rcases get_set h1 with ⟨_, q⟩ | ⟨ne, q⟩
    · cases q; cases h2
    · rcases get_set h3 with ⟨q', _⟩ | ⟨_, q'⟩
      · exact absurd q' ne
      · exact ⟨b, q, h2, q'⟩
  refine ⟨by rw [List.length_set, List.length_set]; exact I.len, I.f0, I.fh, I.keep, fun j b h => ?_, fun j k p h1 h2 => I.dist j k p (key _ _ h1) (key _ _ h2), I.bo, I.nf, fun j d' v' h h' => ?_⟩
  · rcases get_set h with ⟨rfl, q⟩ | ⟨ne, q⟩
    · cases q; exact ⟨v, get_setS hi, r⟩
    · obtain ⟨w, h1, h2⟩ := I.slot j b q
      exact ⟨w, by rw [List.getElem?_set_ne (Ne.symm ne)]; exact h1, h2⟩
  · rcases get_set h with ⟨_, q⟩ | ⟨ne, q⟩
    · cases q
    · rw [List.getElem?_set_ne (Ne.symm ne)] at h'
      exact I.brv j d' v' q h'
/-- a name is bound to a new object -/
theorem I2.storeN {i : Nat} {p : Addr} {d : D} (I : I2 c z σ H F e) (hi : i < σ.length) (w : Own c F H d p) (h0 : z.H0 p = none) (hn : ∀ i, ¬ RootAt σ e i p) : I2 c z (σ.set i (some (.ref p))) H F (e.set i (some (.ow d))) := by
  have key : ∀ (j : Nat) (q : Addr), RootAt (σ.set i (some (.ref p))) (e.set i (some (.ow d))) j q → (j = i ∧ q = p) ∨ (j ≠ i ∧ RootAt σ e j q) := fun j q ⟨b, h1, h2, h3⟩ => by
    rcases get_set h1 with ⟨e1, q1⟩ | ⟨ne, q1⟩
    · rcases get_set h3 with ⟨_, q2⟩ | ⟨ne, _⟩
      · cases q2; exact .inl ⟨e1, rfl⟩
      · exact absurd e1 ne
    · rcases get_set h3 with ⟨q', _⟩ | ⟨_, q'⟩
      · exact absurd q' ne
      · exact .inr ⟨ne, b, q1, h2, q'⟩
  refine ⟨by rw [List.length_set, List.length_set]; exact I.len, I.f0, I.fh, I.keep, fun j b h => ?_, fun j k q h1 h2 => ?_, I.bo, I.nf, fun j d' v' h h' => ?_⟩
  · rcases get_set h with ⟨rfl, q⟩ | ⟨ne, q⟩
    · cases q; exact ⟨_, get_setS hi, p, rfl, w, h0⟩
    · obtain ⟨w, h1, h2⟩ := I.slot j b q
      exact ⟨w, by rw [List.getElem?_set_ne (Ne.symm ne)]; exact h1, h2⟩
  · rcases key j q h1 with ⟨rfl, rfl⟩ | ⟨n1, r1⟩
    · rcases key k q h2 with ⟨rfl, _⟩ | ⟨_, r2⟩
      · rfl
      · exact absurd r2 (hn k)
    · rcases key k q h2 with ⟨rfl, rfl⟩ | ⟨_, r2⟩
      · exact absurd r1 (hn j)
      · exact I.dist j k q r1 r2
  · rcases get_set h with ⟨_, q⟩ | ⟨ne, q⟩
    · cases q
    · rw [List.getElem?_set_ne (Ne.symm ne)] at h'
      exact I.brv j d' v' q h'
/-- a name goes -/
theorem I2.unbind {i : Nat} (I : I2 c z σ H F e) : I2 c z (σ.set i none) H F (e.set i none) := by
  have key : ∀ (j : Nat) (b : B), (e.set i none)[j]? = some (some b) → j ≠ i ∧ e[j]? = some (some b) := fun j b h => by
    rcases get_set h with ⟨_, q⟩ | ⟨ne, q⟩
    · cases q
    · exact ⟨ne, q⟩
  refine ⟨by rw [List.length_set, List.length_set]; exact I.len, I.f0, I.fh, I.keep, fun j b h => ?_, fun j k p ⟨b, h1, h2, h3⟩ ⟨b', h1', h2', h3'⟩ => ?_, I.bo, I.nf, fun j d' v' h h' => ?_⟩
  · obtain ⟨ne, q⟩ := key j b h
    obtain ⟨w, h1, h2⟩ := I.slot j b q
    exact ⟨w, by rw [List.getElem?_set_ne (Ne.symm ne)]; exact h1, h2⟩
  · obtain ⟨ne, q⟩ := key j b h1
    obtain ⟨ne', q'⟩ := key k b' h1'
    rw [List.getElem?_set_ne (Ne.symm ne)] at h3
    rw [List.getElem?_set_ne (Ne.symm ne')] at h3'
    exact I.dist j k p ⟨b, q, h2, h3⟩ ⟨b', q', h2', h3'⟩
  · obtain ⟨ne, q⟩ := key j _ h
    rw [List.getElem?_set_ne (Ne.symm ne)] at h'
    exact I.brv j d' v' q h'

/-! ### what is handed on -/
/-- read: shared, or of a name -/
def View (c : Ct) (F H : Hp) (d : D) (v : V) : Prop := Rp c F d v ∨ ∃ p, v = .ref p ∧ Own c F H d p
def T.seal : T → T
  | .nw d => .vl d
  | t => t
def lookT (t : T) (e : DEnv) : Option D := match t with
  | .sl i => match e[i]? with
    | some (some (.ex _)) => none
    | some (some b) => some b.d
    | _ => none
  | .vl d => some d
  | .nw d => some d
def escape (t : T) (e : DEnv) : Option (D × DEnv) := match t with
  | .sl i => match e[i]? with
    | some (some (.sh d)) => some (d, e)
    | some (some (.ow d)) => some (d, e.set i (some (.sh d)))
    | _ => none
  | .vl d => some (d, e)
  | .nw d => some (d, e)
theorem TR.seal {t : T} {v : V} (I : I2 c z σ H F e) (h : TR c z F H σ e t v) : ∃ G, Ex F G ∧ I2 c z σ H G e ∧ TR c z G H σ e t.seal v := by
  cases t with
  | sl i => exact ⟨F, Ex.refl F, I, h⟩
  | vl d => exact ⟨F, Ex.refl F, I, h⟩
  | nw d =>
    obtain ⟨p, rfl, w, h0, hn⟩ := h
    exact I.sealNew w h0 hn
theorem TR.keep {t : T} {v : V} {e' : DEnv} (h : TR c z F H σ e t.seal v) (x : Ex F G) : TR c z G H' σ e' t.seal v := by
  cases t with
  | sl i => exact h
  | vl d => exact Rp.mono x d v h
  | nw d => exact Rp.mono x d v h
theorem TR.view {t : T} {v : V} {d : D} (I : I2 c z σ H F e) (h : TR c z F H σ e t v) (l : lookT t e = some d) : View c F H d v := by
  cases t with
  | sl i =>
    unfold lookT at l
    dsimp only at l
    split at l
    · cases l
    · rename_i b hne hb
      obtain ⟨w, hw, r⟩ := I.slot i b hb
      have h' : σ[i]? = some (some v) := h
      rw [h'] at hw; cases hw; cases l
      cases b with
      | sh d => exact .inl r
      | ow d => obtain ⟨p, rfl, o, _⟩ := r; exact .inr ⟨p, rfl, o⟩
      | br d => obtain ⟨p, rfl, o, _⟩ := r; exact .inr ⟨p, rfl, o⟩
      | ex y => exact (hne y rfl).elim
    · cases l
  | vl d => cases l; exact .inl h
  | nw d => cases l; obtain ⟨p, rfl, w, _⟩ := h; exact .inr ⟨p, rfl, w⟩
theorem TR.escape {t : T} {v : V} {d : D} {e' : DEnv} (I : I2 c z σ H F e) (h : TR c z F H σ e t v) (l : escape t e = some (d, e')) : ∃ G, Ex F G ∧ I2 c z σ H G e' ∧ Rp c G d v := by
  cases t with
  | sl i =>
    have h' : σ[i]? = some (some v) := h
    unfold DL.escape at l
    dsimp only at l
    split at l
    · rename_i d' hb
      obtain ⟨w, hw, r⟩ := I.slot i _ hb
      rw [h'] at hw; cases hw; cases l
      exact ⟨F, Ex.refl F, I, r⟩
    · rename_i d' hb
      obtain ⟨G, w, x, J, hw, r⟩ := I.freeze hb
      rw [h'] at hw; cases hw; cases l
      exact ⟨G, x, J, r⟩
    · cases l
  | vl d' => cases l; exact ⟨F, Ex.refl F, I, h⟩
  | nw d' =>
    cases l
    obtain ⟨p, rfl, w, h0, hn⟩ := h
    exact I.sealNew w h0 hn
end
end DL

/-! DL, part c: judgements of expressions (DE), tests (DT), arguments (DA) by what they do on data; operators. -/
namespace DL
open PySem L2 Evl

abbrev FE := DEnv → Res (T × DEnv)
abbrev FT := DEnv → Res (Bool × DEnv)
abbrev FA := DEnv → Res (List T × DEnv)
/-- what is wished of an exception -/
def Xp (c : Ct) (z : Zs) (W : WX) (σ : L2.St) (F : Hp) (x : XV) (e' : DEnv) : Prop := ∀ cls dd H' F', Ex F F' → I2 c z σ H' F' e' → XR c F' x cls dd → W cls dd σ H'
theorem Xp.mono {c : Ct} {z : Zs} {W : WX} {σ : L2.St} {F G : Hp} {x : XV} {e' : DEnv} (h : Xp c z W σ F x e') (k : Ex F G) : Xp c z W σ G x e' := fun cls dd H' F' k' I r => h cls dd H' F' (k.trans k') I r
def SndE (c : Ct) (W : WX) (te : TE) (f : FE) : Prop := ∀ (z : Zs) σ H F e (Q : VK), I2 c z σ H F e →
  Wp (f e) (fun r => ∀ v H' F', Ex F F' → I2 c z σ H' F' r.2 → TR c z F' H' σ r.2 r.1 v → Q v H') (Xp c z W σ F) → te σ H Q
def SndT (c : Ct) (W : WX) (tt : TT) (f : FT) : Prop := ∀ (z : Zs) σ H F e (Q : Bool → Hp → Prop), I2 c z σ H F e →
  Wp (f e) (fun r => ∀ H' F', Ex F F' → I2 c z σ H' F' r.2 → Q r.1 H') (Xp c z W σ F) → tt σ H Q
/-- tokens of arguments, all sealed -/
def TRs (c : Ct) (z : Zs) (F H : Hp) (σ : L2.St) (e : DEnv) : List T → List V → Prop
  | [], vs => vs = []
  | t :: ts, vs => ∃ v r, vs = v :: r ∧ t.seal = t ∧ TR c z F H σ e t v ∧ TRs c z F H σ e ts r
def SndA (c : Ct) (W : WX) (ta : TA) (f : FA) : Prop := ∀ (z : Zs) σ H F e (Q : List V → Hp → Prop), I2 c z σ H F e →
  Wp (f e) (fun r => ∀ vs H' F', Ex F F' → I2 c z σ H' F' r.2 → TRs c z F' H' σ r.2 r.1 vs → Q vs H') (Xp c z W σ F) → ta σ H Q

structure DE (X : Cx) (c : Ct) (W : WX) (ex : Expr) (te : TE) (f : FE) : Prop where
  pe : PE X ex te
  sn : SndE c W te f
structure DT (X : Cx) (c : Ct) (W : WX) (ex : Expr) (tt : TT) (f : FT) : Prop where
  pt : PT X ex tt
  sn : SndT c W tt f
structure DA (X : Cx) (c : Ct) (W : WX) (es : List Expr) (ta : TA) (f : FA) : Prop where
  pa : PA X es ta
  sn : SndA c W ta f

theorem T.seal_seal (t : T) : t.seal.seal = t.seal := by cases t <;> rfl
section
variable {X : Cx} {c : Ct} {z : Zs} {W : WX} {σ : L2.St} {H H' F G : Hp} {e : DEnv} {a b : Expr} {ta tb : TE} {fa fb : FE} {es : List Expr} {tr : TA} {fr : FA} {pos : Pos}
theorem TRs.keep {e' : DEnv} (x : Ex F G) : ∀ {ts : List T} {vs : List V}, TRs c z F H σ e ts vs → TRs c z G H' σ e' ts vs
  | [], _, h => h
  | t :: ts, _, ⟨v, r, h1, h2, h3, h4⟩ => ⟨v, r, h1, h2, by rw [← h2] at h3 ⊢; exact h3.keep x, TRs.keep x h4⟩
theorem TRs.len : ∀ {ts : List T} {vs : List V}, TRs c z F H σ e ts vs → ts.length = vs.length
  | [], _, h => by cases h; rfl
  | t :: ts, _, ⟨v, r, h1, h2, h3, h4⟩ => by subst h1; simp [TRs.len h4]

/-! ### names, constants -/
def fVar (i : Nat) : FE := fun e => match e[i]? with
  | some (some _) => .ok (.sl i, e)
  | _ => .stuck
theorem sn_var (i : Nat) : SndE c W (tVar i) (fVar i) := fun z σ H F e Q I h => by
  unfold fVar at h
  split at h
  · rename_i b hb
    obtain ⟨v, hv, r⟩ := I.slot i b hb
    exact ⟨v, hv, h v H F (Ex.refl F) I hv⟩
  · exact h.elim
def fC (d : D) : FE := fun e => .ok (.vl d, e)
theorem sn_c {d : D} {v : V} (h : ∀ F, Rp c F d v) : SndE c W (tC v) (fC d) := fun z σ H F e Q I k => k v H F (Ex.refl F) I (h F)
theorem de_var (i : Nat) {x : Str} (h : PE X (.Name x pos) (tVar i)) : DE X c W (.Name x pos) (tVar i) (fVar i) := ⟨h, sn_var i⟩
theorem de_int {n j} : DE X c W (.Constant (.int n) j pos) (tC (.int n)) (fC (.int n)) := ⟨pe_int, sn_c fun _ => rfl⟩
theorem de_bl {n j} : DE X c W (.Constant (.bool n) j pos) (tC (.bl n)) (fC (.bl n)) := ⟨pe_bl, sn_c fun _ => rfl⟩
theorem de_non {j} : DE X c W (.Constant .none j pos) (tC .non) (fC .non) := ⟨pe_non, sn_c fun _ => rfl⟩
theorem de_str {n j} : DE X c W (.Constant (.str n) j pos) (tC (.str n)) (fC (.str n)) := ⟨pe_str, sn_c fun _ => rfl⟩

/-! ### arguments -/
def fA0 : FA := fun e => .ok ([], e)
def fA1 (fa : FE) (fr : FA) : FA := fun e => (fa e).bind fun r => (fr r.2).bind fun q => .ok (r.1.seal :: q.1, q.2)
theorem da_nil : DA X c W [] tNil fA0 := ⟨pa_nil, fun z σ H F e Q I h => h [] H F (Ex.refl F) I rfl⟩
theorem da_cons (ha : DE X c W a ta fa) (hr : DA X c W es tr fr) (hs : starEach (a :: es) X.env = (false, eval a X.env) :: starEach es X.env := by rfl) : DA X c W (a :: es) (tCons ta tr) (fA1 fa fr) := by
  refine ⟨pa_cons ha.pe hr.pa hs, fun z σ H F e Q I h => ?_⟩
  unfold fA1 at h
  rw [Wp.bind] at h
  refine ha.sn z σ H F e _ I (h.mono (fun r _ h v H1 F1 x1 I1 t1 => ?_) fun _ _ h => h)
  obtain ⟨F2, x2, I2, t2⟩ := t1.seal I1
  rw [Wp.bind] at h
  refine hr.sn z σ H1 F2 _ _ I2 (h.mono (fun q _ h vs H3 F3 x3 I3 t3 => ?_) fun _ _ h => h.mono (x1.trans x2))
  exact h (v :: vs) H3 F3 ((x1.trans x2).trans x3) I3 ⟨v, vs, rfl, T.seal_seal _, t2.keep x3, t3⟩

/-! ### results of operations -/
inductive RV where
  | fl (d : D) | nl (ds : List D) | nt (ds : List D)
def RV.tok : RV → T
  | .fl d => .vl d | .nl ds => .nw (.lst ds) | .nt ds => .vl (.tup ds)
def RV.Post (c : Ct) (F H : Hp) (Q : VK) : RV → Prop
  | .fl d => ∀ v, Rp c F d v → Q v H
  | .nl ds => ∀ p vs, RpL c F ds vs → H p = none → Q (.ref p) (upd H p (.lst vs))
  | .nt ds => ∀ p vs, RpL c F ds vs → H p = none → Q (.ref p) (upd H p (.tup vs))
theorem RV.post_of {rv : RV} {Q : VK} (I : I2 c z σ H F e) (k : ∀ v H' F', Ex F F' → I2 c z σ H' F' e → TR c z F' H' σ e rv.tok v → Q v H') : rv.Post c F H Q := by
  cases rv with
  | fl d => exact fun v r => k v H F (Ex.refl F) I r
  | nl ds =>
    intro p vs r hp
    exact k _ _ F (Ex.refl F) (I.alloc (Ex.new hp)) ⟨p, rfl, ⟨fresh_back I.fh hp, vs, upd_same, r⟩, I.fresh0 hp, I.noroot hp⟩
  | nt ds =>
    intro p vs r hp
    have x := Ex.new (o := HO.tup vs) (fresh_back I.fh hp)
    exact k _ _ _ x (I.allocT hp) ⟨p, vs, rfl, st_of upd_same, RpL.mono x ds vs r⟩

/-! ### operators -/
def R2Ok (c : Ct) (r : R2) (op : D → D → Option RV) : Prop := ∀ F H d1 d2 v1 v2 rv (Q : VK), Ex F H → View c F H d1 v1 → View c F H d2 v2 → op d1 d2 = some rv → rv.Post c F H Q → r v1 v2 H Q
def R1Ok (c : Ct) (r : V → Hp → VK → Prop) (op : D → Option RV) : Prop := ∀ F H d1 v1 rv (Q : VK), Ex F H → View c F H d1 v1 → op d1 = some rv → rv.Post c F H Q → r v1 H Q
def fOp2 (op : D → D → Option RV) (fa fb : FE) : FE := fun e => (fa e).bind fun r => (fb r.2).bind fun q => Res.of ((lookT r.1.seal q.2).bind fun d1 => (lookT q.1 q.2).bind fun d2 => (op d1 d2).bind fun rv => some (rv.tok, q.2))
def fOp1 (op : D → Option RV) (fa : FE) : FE := fun e => (fa e).bind fun r => Res.of ((lookT r.1 r.2).bind fun d1 => (op d1).bind fun rv => some (rv.tok, r.2))
theorem obind {α β : Type} {o : Option α} {f : α → Option β} {b : β} (h : o.bind f = some b) : ∃ a, o = some a ∧ f a = some b := by
  cases o with
  | none => cases h
  | some a => exact ⟨a, rfl, h⟩
theorem sn_op2 {r : R2} {op : D → D → Option RV} (ho : R2Ok c r op) (ha : SndE c W ta fa) (hb : SndE c W tb fb) : SndE c W (tOp r ta tb) (fOp2 op fa fb) := fun z σ H F e Q I h => by
  unfold fOp2 at h
  rw [Wp.bind] at h
  refine ha z σ H F e _ I (h.mono (fun r _ h v H1 F1 x1 I1 t1 => ?_) fun _ _ h => h)
  obtain ⟨F2, x2, I2, t2⟩ := t1.seal I1
  rw [Wp.bind] at h
  refine hb z σ H1 F2 _ _ I2 (h.mono (fun q _ h w H3 F3 x3 I3 t3 => ?_) fun _ _ h => h.mono (x1.trans x2))
  obtain ⟨a, ea, h⟩ := Wp.of h
  obtain ⟨d1, l1, ea⟩ := obind ea
  obtain ⟨d2, l2, ea⟩ := obind ea
  obtain ⟨rv, l3, ea⟩ := obind ea
  cases ea
  refine ho F3 H3 d1 d2 v w rv Q I3.fh ((t2.keep (H' := H3) x3).view I3 l1) (t3.view I3 l2) l3 (RV.post_of I3 fun v' H' F' x' I' t' => ?_)
  exact h v' H' F' (((x1.trans x2).trans x3).trans x') I' t'
theorem sn_op1 {r : V → Hp → VK → Prop} {op : D → Option RV} (ho : R1Ok c r op) (ha : SndE c W ta fa) : SndE c W (tUn r ta) (fOp1 op fa) := fun z σ H F e Q I h => by
  unfold fOp1 at h
  rw [Wp.bind] at h
  refine ha z σ H F e _ I (h.mono (fun r _ h v H1 F1 x1 I1 t1 => ?_) fun _ _ h => h)
  obtain ⟨a, ea, h⟩ := Wp.of h
  obtain ⟨d1, l1, ea⟩ := obind ea
  obtain ⟨rv, l3, ea⟩ := obind ea
  cases ea
  exact ho F1 H1 d1 v rv Q I1.fh (t1.view I1 l1) l3 (RV.post_of I1 fun v' H' F' x' I' t' => h v' H' F' (x1.trans x') I' t')
theorem de_op {o : Operator} {r : R2} {op : D → D → Option RV} (hp : OpR X (binaryOp o) r) (ho : R2Ok c r op) (ha : DE X c W a ta fa) (hb : DE X c W b tb fb) : DE X c W (.BinOp a o b pos) (tOp r ta tb) (fOp2 op fa fb) :=
  ⟨pe_op hp ha.pe hb.pe, sn_op2 ho ha.sn hb.sn⟩
theorem de_un {o : UnaryOp} {r : V → Hp → VK → Prop} {op : D → Option RV} (hp : UnR X (unaryOp o) r) (ho : R1Ok c r op) (ha : DE X c W a ta fa) : DE X c W (.UnaryOp o a pos) (tUn r ta) (fOp1 op fa) :=
  ⟨pe_un hp ha.pe, sn_op1 ho ha.sn⟩
theorem de_cmp {o : CmpOp} {r : R2} {op : D → D → Option RV} (hp : OpR X (compareOp o) r) (ho : R2Ok c r op) (ha : DE X c W a ta fa) (hb : DE X c W b tb fb) (hm : behindInMarks o b = false) : DE X c W (.Compare a [o] [b] pos) (tOp r ta tb) (fOp2 op fa fb) :=
  ⟨pe_cmpR hp ha.pe hb.pe hm, sn_op2 ho ha.sn hb.sn⟩
/-- an item -/
theorem de_ix {r : R2} {op : D → D → Option RV} (hp : IxR X r) (ho : R2Ok c r op) (ha : DE X c W a ta fa) (hb : DE X c W b tb fb) (hs : PlainIx b) : DE X c W (.Subscript a b pos) (tOp r ta tb) (fOp2 op fa fb) :=
  ⟨pe_ix hp ha.pe hb.pe hs, sn_op2 ho ha.sn hb.sn⟩

/-! ### calls of what is built in -/
def lookTs : List T → DEnv → Option (List D)
  | [], _ => some []
  | t :: ts, e => (lookT t e).bind fun d => (lookTs ts e).bind fun ds => some (d :: ds)
def Views (c : Ct) (F H : Hp) : List D → List V → Prop
  | [], vs => vs = []
  | d :: ds, vs => ∃ v r, vs = v :: r ∧ View c F H d v ∧ Views c F H ds r
theorem TRs.views (I : I2 c z σ H F e) : ∀ {ts : List T} {vs : List V} {ds : List D}, TRs c z F H σ e ts vs → lookTs ts e = some ds → Views c F H ds vs
  | [], _, _, h, l => by cases l; exact h
  | t :: ts, _, _, ⟨v, r, h1, h2, h3, h4⟩, l => by
    obtain ⟨d, l1, l⟩ := obind l
    obtain ⟨ds, l2, l⟩ := obind l
    cases l
    exact ⟨v, r, h1, h3.view I l1, TRs.views I h4 l2⟩
def RlOk (c : Ct) (r : List V → Hp → VK → Prop) (op : List D → Option RV) : Prop := ∀ F H ds vs rv (Q : VK), Ex F H → Views c F H ds vs → op ds = some rv → rv.Post c F H Q → r vs H Q
def fCB (op : List D → Option RV) (fr : FA) : FE := fun e => (fr e).bind fun r => Res.of ((lookTs r.1 r.2).bind fun ds => (op ds).bind fun rv => some (rv.tok, r.2))
theorem sn_cb {r : List V → Hp → VK → Prop} {op : List D → Option RV} (ho : RlOk c r op) (ha : SndA c W tr fr) : SndE c W (tCB r tr) (fCB op fr) := fun z σ H F e Q I h => by
  unfold fCB at h
  rw [Wp.bind] at h
  refine ha z σ H F e _ I (h.mono (fun r _ h v H1 F1 x1 I1 t1 => ?_) fun _ _ h => h)
  obtain ⟨a, ea, h⟩ := Wp.of h
  obtain ⟨d1, l1, ea⟩ := obind ea
  obtain ⟨rv, l3, ea⟩ := obind ea
  cases ea
  exact ho F1 H1 d1 v rv Q I1.fh (t1.views I1 l1) l3 (RV.post_of I1 fun v' H' F' x' I' t' => h v' H' F' (x1.trans x') I' t')
theorem de_callB {r : List V → Hp → VK → Prop} {op : List D → Option RV} {x : Str} {id : String} {p : Pos} (hc : CallR X (.builtin id) r) (ho : RlOk c r op) (hg : Gl X x) (hm : X.mg x = none) (hv : bootBuiltins x = some (.builtin id)) (ha : DA X c W (a :: es) tr fr)
    (hn : x ≠ "__name__" := by decide) (hdb : (x == ("__debug__" : Str)) = false := by decide) (he : starEach (a :: es) X.env = (false, eval a X.env) :: starEach es X.env := by rfl) (hpl : (backTo pos (starEach es X.env)).any (·.1) = false := by rfl) :
    DE X c W (.Call (.Name x p) (a :: es) [] pos) (tCB r tr) (fCB op fr) := ⟨pe_callB hc hg hm hv ha.pa hn hdb he hpl, sn_cb ho ha.sn⟩
theorem de_callTy {r : List V → Hp → VK → Prop} {op : List D → Option RV} {x : Str} {id : String} {p : Pos} (hc : CallR X (.type id) r) (ho : RlOk c r op) (hg : Gl X x) (hm : X.mg x = none) (hv : bootBuiltins x = some (.type id)) (ha : DA X c W (a :: es) tr fr)
    (hn : x ≠ "__name__" := by decide) (hdb : (x == ("__debug__" : Str)) = false := by decide) (he : starEach (a :: es) X.env = (false, eval a X.env) :: starEach es X.env := by rfl) (hpl : (backTo pos (starEach es X.env)).any (·.1) = false := by rfl) :
    DE X c W (.Call (.Name x p) (a :: es) [] pos) (tCB r tr) (fCB op fr) := ⟨pe_callTy hc hg hm hv ha.pa hn hdb he hpl, sn_cb ho ha.sn⟩

/-! ### tests -/
def fB (f : FE) : FT := fun e => (f e).bind fun r => match lookT r.1 r.2 with
  | some (.bl b) => .ok (b, r.2)
  | _ => .stuck
theorem View.bl {b : Bool} {v : V} (h : View c F H (.bl b) v) : v = .bl b := by
  rcases h with h | ⟨p, _, h⟩
  · exact h
  · exact h.2.elim
theorem View.int {n : Int} {v : V} (h : View c F H (.int n) v) : v = .int n := by
  rcases h with h | ⟨p, _, h⟩
  · exact h
  · exact h.2.elim
theorem View.str {n : Str} {v : V} (h : View c F H (.str n) v) : v = .str n := by
  rcases h with h | ⟨p, _, h⟩
  · exact h
  · exact h.2.elim
theorem View.non {v : V} (h : View c F H .non v) : v = .non := by
  rcases h with h | ⟨p, _, h⟩
  · exact h
  · exact h.2.elim
theorem View.lst {ds : List D} {v : V} (x : Ex F H) (h : View c F H (.lst ds) v) : ∃ p vs, v = .ref p ∧ H p = some (.lst vs) ∧ RpL c F ds vs := by
  rcases h with ⟨p, vs, h1, h2, h3⟩ | ⟨p, h1, _, vs, h2, h3⟩
  · exact ⟨p, vs, h1, x _ _ h2, h3⟩
  · exact ⟨p, vs, h1, h2, h3⟩
theorem View.rol {ds : List D} {v : V} (x : Ex F H) (h : View c F H (.rol ds) v) : ∃ p vs, v = .ref p ∧ SqL c.K H p vs ∧ RpL c F ds vs := by
  rcases h with ⟨p, vs, h1, h2, h3⟩ | ⟨p, h1, h⟩
  · exact ⟨p, vs, h1, ex_l x h2, h3⟩
  · exact h.2.elim
theorem View.tup {ds : List D} {v : V} (x : Ex F H) (h : View c F H (.tup ds) v) : ∃ p vs, v = .ref p ∧ SqT c.K H p vs ∧ RpL c F ds vs := by
  rcases h with ⟨p, vs, h1, h2, h3⟩ | ⟨p, h1, h⟩
  · exact ⟨p, vs, h1, ex_t x h2, h3⟩
  · exact h.2.elim
theorem View.ins {k : Nat} {ds : List D} {v : V} (x : Ex F H) (h : View c F H (.ins k ds) v) : ∃ p dx vs, v = .ref p ∧ H p = some (.ins (c.cl k) dx ((c.fn k).zip vs)) ∧ RpL c F ds vs := by
  rcases h with ⟨p, dx, vs, h1, h2, h3⟩ | ⟨p, h1, _, dx, vs, h2, h3⟩
  · exact ⟨p, dx, vs, h1, x _ _ h2, h3⟩
  · exact ⟨p, dx, vs, h1, h2, h3⟩
theorem sn_B {t : TT} (h : ∀ σ H Q, (ta σ H fun x H1 => ∃ k, x = .bl k ∧ Q k H1) → t σ H Q) (ha : SndE c W ta fa) : SndT c W t (fB fa) := fun z σ H F e Q I k => by
  unfold fB at k
  rw [Wp.bind] at k
  refine h σ H Q (ha z σ H F e _ I (k.mono (fun r _ h v H1 F1 x1 I1 t1 => ?_) fun _ _ h => h))
  cases hl : lookT r.1 r.2 with
  | none => rw [hl] at h; exact h.elim
  | some d =>
    rw [hl] at h
    cases d <;> first | exact h.elim | skip
    rename_i b
    exact ⟨b, (t1.view I1 hl).bl, h H1 F1 x1 I1⟩
theorem dt_val (ha : DE X c W a ta fa) (he : ∀ whole, isTrue a X.env whole = (do let v ← whole; standAt a.pos; holding [v] (truthy v)) := by intro _; rfl) : DT X c W a (tB ta) (fB fa) := ⟨pt_val ha.pe he, sn_B (fun _ _ _ h => h) ha.sn⟩
theorem dt_cmp {o : CmpOp} {r : R2} {op : D → D → Option RV} (hp : OpR X (compareOp o) r) (ho : R2Ok c r op) (ha : DE X c W a ta fa) (hb : DE X c W b tb fb) (hm : behindInMarks o b = false) : DT X c W (.Compare a [o] [b] pos) (tTest (tOp r ta tb)) (fB (fOp2 op fa fb)) :=
  ⟨pt_cmpR hp ha.pe hb.pe hm, sn_B (fun _ _ _ h => h) (sn_op2 ho ha.sn hb.sn)⟩
variable {tA tB' : TT} {fA fB' : FT} {rest : List Expr}
def fNot (f : FT) : FT := fun e => (f e).bind fun r => .ok (!r.1, r.2)
def fAnd (f g : FT) : FT := fun e => (f e).bind fun r => if r.1 = true then g r.2 else .ok (false, r.2)
def fOr (f g : FT) : FT := fun e => (f e).bind fun r => if r.1 = true then .ok (true, r.2) else g r.2
theorem sn_not (ha : SndT c W tA fA) : SndT c W (tNot tA) (fNot fA) := fun z σ H F e Q I h => by
  unfold fNot at h
  rw [Wp.bind] at h
  exact ha z σ H F e _ I (h.mono (fun r _ h => h) fun _ _ h => h)
theorem sn_and (ha : SndT c W tA fA) (hb : SndT c W tB' fB') : SndT c W (tAnd tA tB') (fAnd fA fB') := fun z σ H F e Q I h => by
  unfold fAnd at h
  rw [Wp.bind] at h
  refine ha z σ H F e _ I (h.mono (fun r _ h H1 F1 x1 I1 => ?_) fun _ _ h => h)
  obtain ⟨b, e1⟩ := r
  cases b with
  | true =>
    rw [if_pos rfl] at h
    show tB' σ H1 Q
    exact hb z σ H1 F1 e1 Q I1 (h.mono (fun q _ h H2 F2 x2 I2 => h H2 F2 (x1.trans x2) I2) fun _ _ h => h.mono x1)
  | false =>
    rw [if_neg Bool.false_ne_true] at h
    exact h H1 F1 x1 I1
theorem sn_or (ha : SndT c W tA fA) (hb : SndT c W tB' fB') : SndT c W (tOr tA tB') (fOr fA fB') := fun z σ H F e Q I h => by
  unfold fOr at h
  rw [Wp.bind] at h
  refine ha z σ H F e _ I (h.mono (fun r _ h H1 F1 x1 I1 => ?_) fun _ _ h => h)
  obtain ⟨b, e1⟩ := r
  cases b with
  | false =>
    rw [if_neg Bool.false_ne_true] at h
    show tB' σ H1 Q
    exact hb z σ H1 F1 e1 Q I1 (h.mono (fun q _ h H2 F2 x2 I2 => h H2 F2 (x1.trans x2) I2) fun _ _ h => h.mono x1)
  | true =>
    rw [if_pos rfl] at h
    exact h H1 F1 x1 I1
/-- and, or: a test whatever its whole is -/
structure DW (X : Cx) (c : Ct) (W : WX) (ex : Expr) (tt : TT) (f : FT) : Prop where
  pw : PW X ex tt
  sn : SndT c W tt f
theorem DW.dt {ex : Expr} (h : DW X c W ex tA fA) : DT X c W ex tA fA := ⟨h.pw.pt, h.sn⟩
theorem dt_not (ha : DT X c W a tA fA) : DT X c W (.UnaryOp .Not a pos) (tNot tA) (fNot fA) := ⟨pt_not ha.pt, sn_not ha.sn⟩
theorem dw_and1 (ha : DT X c W a tA fA) : DW X c W (.BoolOp .And [a] pos) tA fA := ⟨pw_and1 ha.pt, ha.sn⟩
theorem dw_or1 (ha : DT X c W a tA fA) : DW X c W (.BoolOp .Or [a] pos) tA fA := ⟨pw_or1 ha.pt, ha.sn⟩
theorem dw_and (ha : DT X c W a tA fA) (hb : DW X c W (.BoolOp .And (b :: rest) pos) tB' fB') : DW X c W (.BoolOp .And (a :: b :: rest) pos) (tAnd tA tB') (fAnd fA fB') := ⟨pw_and ha.pt hb.pw, sn_and ha.sn hb.sn⟩
theorem dw_or (ha : DT X c W a tA fA) (hb : DW X c W (.BoolOp .Or (b :: rest) pos) tB' fB') : DW X c W (.BoolOp .Or (a :: b :: rest) pos) (tOr tA tB') (fOr fA fB') := ⟨pw_or ha.pt hb.pw, sn_or ha.sn hb.sn⟩
/-! as values -/
def fNotV (f : FE) : FE := fun e => (fB f e).bind fun r => .ok (.vl (.bl (!r.1)), r.2)
def fAndV (f g : FE) : FE := fun e => (fB f e).bind fun r => if r.1 = true then g r.2 else .ok (.vl (.bl false), r.2)
def fOrV (f g : FE) : FE := fun e => (fB f e).bind fun r => if r.1 = true then .ok (.vl (.bl true), r.2) else g r.2
theorem sn_notV (ha : SndE c W ta fa) : SndE c W (tNotV ta) (fNotV fa) := fun z σ H F e Q I h => by
  unfold fNotV at h
  rw [Wp.bind] at h
  exact sn_B (t := fun σ H Q => ta σ H fun x H1 => ∃ k, x = .bl k ∧ Q k H1) (fun _ _ _ h => h) ha z σ H F e (fun k H1 => Q (.bl (!k)) H1) I (h.mono (fun r _ h H1 F1 x1 I1 => h _ H1 F1 x1 I1 rfl) fun _ _ h => h)
theorem sn_andV (ha : SndE c W ta fa) (hb : SndE c W tb fb) : SndE c W (tAndV ta tb) (fAndV fa fb) := fun z σ H F e Q I h => by
  unfold fAndV at h
  rw [Wp.bind] at h
  refine sn_B (t := fun σ H Q => ta σ H fun x H1 => ∃ k, x = .bl k ∧ Q k H1) (fun _ _ _ h => h) ha z σ H F e (fun k H1 => if k = true then tb σ H1 Q else Q (.bl false) H1) I (h.mono (fun r _ h H1 F1 x1 I1 => ?_) fun _ _ h => h)
  obtain ⟨b, e1⟩ := r
  cases b with
  | true =>
    rw [if_pos rfl] at h ⊢
    exact hb z σ H1 F1 e1 Q I1 (h.mono (fun q _ h v H2 F2 x2 I2 t2 => h v H2 F2 (x1.trans x2) I2 t2) fun _ _ h => h.mono x1)
  | false =>
    rw [if_neg Bool.false_ne_true] at h ⊢
    exact h _ H1 F1 x1 I1 rfl
theorem sn_orV (ha : SndE c W ta fa) (hb : SndE c W tb fb) : SndE c W (tOrV ta tb) (fOrV fa fb) := fun z σ H F e Q I h => by
  unfold fOrV at h
  rw [Wp.bind] at h
  refine sn_B (t := fun σ H Q => ta σ H fun x H1 => ∃ k, x = .bl k ∧ Q k H1) (fun _ _ _ h => h) ha z σ H F e (fun k H1 => if k = true then Q (.bl true) H1 else tb σ H1 Q) I (h.mono (fun r _ h H1 F1 x1 I1 => ?_) fun _ _ h => h)
  obtain ⟨b, e1⟩ := r
  cases b with
  | false =>
    rw [if_neg Bool.false_ne_true] at h ⊢
    exact hb z σ H1 F1 e1 Q I1 (h.mono (fun q _ h v H2 F2 x2 I2 t2 => h v H2 F2 (x1.trans x2) I2 t2) fun _ _ h => h.mono x1)
  | true =>
    rw [if_pos rfl] at h ⊢
    exact h _ H1 F1 x1 I1 rfl
theorem de_notV (ha : DE X c W a ta fa) : DE X c W (.UnaryOp .Not a pos) (tNotV ta) (fNotV fa) := ⟨pe_not ha.pe, sn_notV ha.sn⟩
theorem de_and1 {o} (ha : DE X c W a ta fa) : DE X c W (.BoolOp o [a] pos) ta fa := ⟨pe_one ha.pe, ha.sn⟩
theorem de_and (ha : DE X c W a ta fa) (hb : DE X c W (.BoolOp .And (b :: rest) pos) tb fb) : DE X c W (.BoolOp .And (a :: b :: rest) pos) (tAndV ta tb) (fAndV fa fb) := ⟨pe_and ha.pe hb.pe, sn_andV ha.sn hb.sn⟩
theorem de_or (ha : DE X c W a ta fa) (hb : DE X c W (.BoolOp .Or (b :: rest) pos) tb fb) : DE X c W (.BoolOp .Or (a :: b :: rest) pos) (tOrV ta tb) (fOrV fa fb) := ⟨pe_or ha.pe hb.pe, sn_orV ha.sn hb.sn⟩
def fIf (t : FT) (f g : FE) : FE := fun e => (t e).bind fun r => if r.1 = true then f r.2 else g r.2
theorem sn_if (hc : SndT c W tA fA) (ha : SndE c W ta fa) (hb : SndE c W tb fb) : SndE c W (tIf tA ta tb) (fIf fA fa fb) := fun z σ H F e Q I h => by
  unfold fIf at h
  rw [Wp.bind] at h
  refine hc z σ H F e _ I (h.mono (fun r _ h H1 F1 x1 I1 => ?_) fun _ _ h => h)
  obtain ⟨b, e1⟩ := r
  cases b with
  | true =>
    rw [if_pos rfl] at h ⊢
    exact ha z σ H1 F1 e1 Q I1 (h.mono (fun q _ h v H2 F2 x2 I2 t2 => h v H2 F2 (x1.trans x2) I2 t2) fun _ _ h => h.mono x1)
  | false =>
    rw [if_neg Bool.false_ne_true] at h ⊢
    exact hb z σ H1 F1 e1 Q I1 (h.mono (fun q _ h v H2 F2 x2 I2 t2 => h v H2 F2 (x1.trans x2) I2 t2) fun _ _ h => h.mono x1)
theorem de_if {t : Expr} (hc : DT X c W t tA fA) (ha : DE X c W a ta fa) (hb : DE X c W b tb fb) : DE X c W (.IfExp t a b pos) (tIf tA ta tb) (fIf fA fa fb) := ⟨pe_ifExp hc.pt ha.pe hb.pe, sn_if hc.sn ha.sn hb.sn⟩
end
end DL

/-! DL, part d: the operators on data. -/
namespace DL
open PySem L2 Evl

def lim : Nat := 1000000
theorem lim_ok {n : Nat} (h : n ≤ lim) : n ≤ sizeLine := Nat.le_trans h (by decide)
theorem lim_lt {n : Nat} (h : n < lim) : n < sizeLine := Nat.lt_of_lt_of_le h (by decide)

/-! ### two ints -/
def opI (C : Int → Int → Bool) (g : Int → Int → D) (a b : D) : Option RV := match a, b with
  | .int i, .int j => if C i j then some (.fl (g i j)) else none
  | _, _ => none
section
variable {c : Ct}
theorem ok_rI {C : Int → Int → Prop} {B : Int → Int → Bool} {g : Int → Int → V} {G : Int → Int → D} (h : ∀ i j, B i j = true → C i j) (hg : ∀ i j F, Rp c F (G i j) (g i j)) : R2Ok c (rI C g) (opI B G) := by
  intro F H d1 d2 v1 v2 rv Q x k1 k2 l q
  cases d1 <;> cases d2 <;> try cases l
  rename_i i j
  unfold opI at l
  dsimp only at l
  split at l
  · rename_i hb
    cases l
    exact ⟨i, j, k1.int, k2.int, h i j hb, q _ (hg i j F)⟩
  · cases l
theorem ok_rI0 {g : Int → Int → V} {G : Int → Int → D} (hg : ∀ i j F, Rp c F (G i j) (g i j)) : R2Ok c (rI0 g) (opI (fun _ _ => true) G) := by
  intro F H d1 d2 v1 v2 rv Q x k1 k2 l q
  cases d1 <;> cases d2 <;> try cases l
  rename_i i j
  exact ⟨i, j, k1.int, k2.int, q _ (hg i j F)⟩
def opSub := opI (fun _ _ => true) fun i j => .int (i - j)
def mulOk (i j : Int) : Bool := decide (i.natAbs.log2 + j.natAbs.log2 < 1000000)
def divOk (_ j : Int) : Bool := decide (j ≠ 0) && decide (j.natAbs.log2 < 9000)
def modOk (_ j : Int) : Bool := decide (j ≠ 0)
def powOk (i j : Int) : Bool := decide (0 ≤ j) && decide (j ≤ 1000000) && decide (i.natAbs < 2 ^ 64)
def shlOk (i j : Int) : Bool := decide (0 ≤ j) && decide ((Builtin.Int.intBits i : Int) + j ≤ 2 ^ 27)
def shrOk (_ j : Int) : Bool := decide (0 ≤ j)
def opDiv := opI divOk fun i j => .int (i.fdiv j)
def opMod := opI modOk fun i j => .int (i.fmod j)
def opPow := opI powOk fun i j => .int (i ^ j.toNat)
def opShl := opI shlOk fun i j => .int (i * 2 ^ j.toNat)
def opShr := opI shrOk fun i j => .int (i / 2 ^ j.toNat)
def opAnd := opI (fun _ _ => true) fun i j => .int (Builtin.bitAnd i j)
def opOr := opI (fun _ _ => true) fun i j => .int (Builtin.bitOr i j)
def opXor := opI (fun _ _ => true) fun i j => .int (Builtin.bitXor i j)
def opLt := opI (fun _ _ => true) fun i j => .bl (decide (i < j))
def opLe := opI (fun _ _ => true) fun i j => .bl (decide (i ≤ j))
def opGt := opI (fun _ _ => true) fun i j => .bl (decide (j < i))
def opGe := opI (fun _ _ => true) fun i j => .bl (decide (j ≤ i))
def CDivD (i j : Int) : Prop := j ≠ 0 ∧ j.natAbs.log2 < 9000
section
variable {X : Cx}
theorem op_fdivD : OpR X (binaryOp .FloorDiv) (rI CDivD fun i j => .int (i.fdiv j)) := L2.opI fun _ _ _ _ _ _ _ hc q => PyProof.Rows.floordiv_int hc.1 q (.inl (PyProof.noPylong_of_log2 hc.2))
end
theorem ok_sub : R2Ok c (rI0 fun i j => .int (i - j)) opSub := ok_rI0 fun _ _ _ => rfl
theorem ok_div : R2Ok c (rI CDivD fun i j => .int (i.fdiv j)) opDiv := ok_rI (fun i j h => by simp [divOk] at h; exact h) fun _ _ _ => rfl
theorem ok_mod : R2Ok c (rI (fun _ j => j ≠ 0) fun i j => .int (i.fmod j)) opMod := ok_rI (fun i j h => by simp [modOk] at h; exact h) fun _ _ _ => rfl
theorem ok_pow : R2Ok c (rI CPow fun i j => .int (i ^ j.toNat)) opPow := ok_rI (fun i j h => by simp [powOk] at h; exact ⟨h.1.1, h.1.2, h.2⟩) fun _ _ _ => rfl
theorem ok_shl : R2Ok c (rI CShl fun i j => .int (i * 2 ^ j.toNat)) opShl := ok_rI (fun i j h => by
  unfold shlOk at h
  obtain ⟨h1, h2⟩ := Bool.and_eq_true_iff.mp h
  exact ⟨of_decide_eq_true h1, of_decide_eq_true h2⟩) fun _ _ _ => rfl
theorem ok_shr : R2Ok c (rI (fun _ j => 0 ≤ j) fun i j => .int (i / 2 ^ j.toNat)) opShr := ok_rI (fun i j h => by simp [shrOk] at h; exact h) fun _ _ _ => rfl
theorem ok_and : R2Ok c (rI0 fun i j => .int (Builtin.bitAnd i j)) opAnd := ok_rI0 fun _ _ _ => rfl
theorem ok_or : R2Ok c (rI0 fun i j => .int (Builtin.bitOr i j)) opOr := ok_rI0 fun _ _ _ => rfl
theorem ok_xor : R2Ok c (rI0 fun i j => .int (Builtin.bitXor i j)) opXor := ok_rI0 fun _ _ _ => rfl
theorem ok_lt : R2Ok c (rI0 fun i j => .bl (decide (i < j))) opLt := ok_rI0 fun _ _ _ => rfl
theorem ok_le : R2Ok c (rI0 fun i j => .bl (decide (i ≤ j))) opLe := ok_rI0 fun _ _ _ => rfl
theorem ok_gt : R2Ok c (rI0 fun i j => .bl (decide (j < i))) opGt := ok_rI0 fun _ _ _ => rfl
theorem ok_ge : R2Ok c (rI0 fun i j => .bl (decide (j ≤ i))) opGe := ok_rI0 fun _ _ _ => rfl
/-- one int -/
def opU (g : Int → D) (a : D) : Option RV := match a with
  | .int i => some (.fl (g i))
  | _ => none
theorem ok_rU {g : Int → V} {G : Int → D} (hg : ∀ i F, Rp c F (G i) (g i)) : R1Ok c (rU g) (opU G) := by
  intro F H d1 v1 rv Q x k1 l q
  cases d1 <;> try cases l
  rename_i i
  exact ⟨i, k1.int, q _ (hg i F)⟩
def opNeg := opU fun i => .int (-i)
def opInv := opU fun i => .int (Builtin.bitNot i)
theorem ok_neg : R1Ok c (rU fun i => .int (-i)) opNeg := ok_rU fun _ _ => rfl
theorem ok_inv : R1Ok c (rU fun i => .int (Builtin.bitNot i)) opInv := ok_rU fun _ _ => rfl

/-! ### + and * of any kind -/
def ROr (r r' : R2) : R2 := fun x y H Q => r x y H Q ∨ r' x y H Q
def rAddS' : R2 := fun x y H Q => ∃ i j, x = .str i ∧ y = .str j ∧ i.length + j.length ≤ sizeLine ∧ Q (.str (i ++ j)) H
def opAdd (a b : D) : Option RV := match a, b with
  | .int i, .int j => some (.fl (.int (i + j)))
  | .str i, .str j => if i.length + j.length ≤ lim then some (.fl (.str (i ++ j))) else none
  | .lst i, .lst j => if i.length + j.length ≤ lim then some (.nl (i ++ j)) else none
  | _, _ => none
theorem op_addA {X : Cx} : OpR X (binaryOp .Add) (ROr (rI0 fun i j => .int (i + j)) (ROr rAddS' rCat)) := op_add.or (op_add_str.or op_cat)
theorem ok_add : R2Ok c (ROr (rI0 fun i j => .int (i + j)) (ROr rAddS' rCat)) opAdd := by
  intro F H d1 d2 v1 v2 rv Q x k1 k2 l q
  cases d1 <;> cases d2 <;> try cases l
  · rename_i i j
    exact .inl ⟨i, j, k1.int, k2.int, q _ rfl⟩
  · rename_i i j
    unfold opAdd at l
    dsimp only at l
    split at l
    · rename_i h
      cases l
      exact .inr (.inl ⟨i, j, k1.str, k2.str, lim_ok h, q _ rfl⟩)
    · cases l
  · rename_i i j
    unfold opAdd at l
    dsimp only at l
    split at l
    · rename_i h
      cases l
      obtain ⟨p1, w1, e1, h1, r1⟩ := k1.lst x
      obtain ⟨p2, w2, e2, h2, r2⟩ := k2.lst x
      refine .inr (.inr ⟨p1, p2, w1, w2, e1, e2, h1, h2, ?_, fun p hp => q p _ (r1.app r2) hp⟩)
      rw [← r1.len, ← r2.len]
      exact lim_ok h
    · cases l
def opMul (a b : D) : Option RV := match a, b with
  | .int i, .int j => if mulOk i j then some (.fl (.int (i * j))) else none
  | .lst i, .int k => if decide (0 ≤ k) && decide (k ≤ 1000000) && decide (i.length * k.toNat ≤ lim) then some (.nl (List.replicate k.toNat i).flatten) else none
  | _, _ => none
theorem RpL.rep {F : Hp} {ds : List D} {vs : List V} (h : RpL c F ds vs) : ∀ n : Nat, RpL c F (List.replicate n ds).flatten (List.replicate n vs).flatten
  | 0 => rfl
  | n + 1 => by
    rw [List.replicate_succ, List.replicate_succ, List.flatten_cons, List.flatten_cons]
    exact h.app (RpL.rep h n)
theorem op_mulA {X : Cx} : OpR X (binaryOp .Mult) (ROr (rI CMulW fun i j => .int (i * j)) rRep) := op_mulW.or op_rep
theorem ok_mul : R2Ok c (ROr (rI CMulW fun i j => .int (i * j)) rRep) opMul := by
  intro F H d1 d2 v1 v2 rv Q x k1 k2 l q
  cases d1 <;> cases d2 <;> try cases l
  · rename_i i j
    unfold opMul at l
    dsimp only at l
    split at l
    · rename_i h
      cases l
      exact .inl ⟨i, j, k1.int, k2.int, show i.natAbs.log2 + j.natAbs.log2 < 1000000 from of_decide_eq_true h, q _ rfl⟩
    · cases l
  · rename_i i j
    unfold opMul at l
    dsimp only at l
    split at l
    · rename_i h
      cases l
      obtain ⟨h, h3⟩ := Bool.and_eq_true_iff.mp h
      obtain ⟨h1, h2⟩ := Bool.and_eq_true_iff.mp h
      have h1 := of_decide_eq_true h1
      have h2 := of_decide_eq_true h2
      have h3 := of_decide_eq_true h3
      obtain ⟨p1, w1, e1, h4, r1⟩ := k1.lst x
      refine .inr ⟨p1, j, w1, e1, k2.int, h4, by omega, by omega, ?_, fun p hp => q p _ (r1.rep _) hp⟩
      rw [← r1.len]
      exact lim_ok h3
    · cases l

/-! ### equality of data -/
mutual
def toPy : D → PyData
  | .non => .none
  | .bl b => .bool b
  | .int i => .int i
  | .str s => .str s
  | .lst ds => .list (toPyL ds)
  | .rol ds => .list (toPyL ds)
  | .tup ds => .tuple (toPyL ds)
  | .ins _ _ => .dict []
def toPyL : List D → List PyData
  | [] => []
  | d :: ds => toPy d :: toPyL ds
end
def dOk (d : D) : Bool := SeqAt.shaped (toPy d)
def deq (a b : D) : Bool := PyData.eqv (toPy a) (toPy b)
mutual
theorem Rp.dp {F H : Hp} (x : Ex F H) : ∀ (d : D) (v : V), (toPy d).canLay0 = true → Rp c F d v → Dp c.K H v (toPy d)
  | .non, _, _, h => by cases h; exact .non
  | .bl _, _, _, h => by cases h; exact .bl _
  | .int _, _, _, h => by cases h; exact .int _
  | .str _, _, _, h => by cases h; exact .str _
  | .lst ds, _, k, ⟨p, vs, h1, h2, h3⟩ => by subst h1; exact .lst (sq_of (x _ _ h2)) (RpL.dp x ds vs k h3)
  | .rol ds, _, k, ⟨p, vs, h1, h2, h3⟩ => by subst h1; exact .lst (ex_l x h2) (RpL.dp x ds vs k h3)
  | .tup ds, _, k, ⟨p, vs, h1, h2, h3⟩ => by subst h1; exact .tup (ex_t x h2) (RpL.dp x ds vs k h3)
  | .ins _ ds, _, k, _ => by cases k
theorem RpL.dp {F H : Hp} (x : Ex F H) : ∀ (ds : List D) (vs : List V), PyData.canLayAll0 (toPyL ds) = true → RpL c F ds vs → DpAll c.K H vs (toPyL ds)
  | [], _, _, h => by cases h; exact .nil
  | d :: ds, _, k, ⟨v, r, h1, h2, h3⟩ => by
    subst h1
    obtain ⟨k1, k2⟩ := Bool.and_eq_true_iff.mp k
    exact .cons (Rp.dp x d v k1 h2) (RpL.dp x ds r k2 h3)
end
theorem View.dp {F H : Hp} {d : D} {v : V} (x : Ex F H) (k : (toPy d).canLay0 = true) (h : View c F H d v) : Dp c.K H v (toPy d) := by
  rcases h with h | ⟨p, rfl, h⟩
  · exact h.dp x d v k
  · cases d with
    | lst ds => obtain ⟨_, vs, h1, h2⟩ := h; exact .lst (sq_of h1) (h2.dp x ds vs k)
    | ins j ds => cases k
    | _ => exact h.2.elim
theorem dOk.lay {d : D} (h : dOk d = true) : (toPy d).canLay0 = true := SeqAt.canLay_of_shaped h
def opEq (a b : D) : Option RV := if dOk a && dOk b then some (.fl (.bl (deq a b))) else none
def opNe (a b : D) : Option RV := if dOk a && dOk b then some (.fl (.bl (!deq a b))) else none
theorem ok_eq : R2Ok c (rEqD c.K) opEq := by
  intro F H d1 d2 v1 v2 rv Q x k1 k2 l q
  unfold opEq at l
  split at l
  · rename_i h
    obtain ⟨h1, h2⟩ := Bool.and_eq_true_iff.mp h
    cases l
    exact ⟨_, _, k1.dp x (dOk.lay h1), k2.dp x (dOk.lay h2), h1, h2, q _ rfl⟩
  · cases l
theorem ok_ne : R2Ok c (rNeD c.K) opNe := by
  intro F H d1 d2 v1 v2 rv Q x k1 k2 l q
  unfold opNe at l
  split at l
  · rename_i h
    obtain ⟨h1, h2⟩ := Bool.and_eq_true_iff.mp h
    cases l
    exact ⟨_, _, k1.dp x (dOk.lay h1), k2.dp x (dOk.lay h2), h1, h2, q _ rfl⟩
  · cases l
/-- x in a list -/
def opIn (a b : D) : Option RV := match b with
  | .lst ds => if dOk a && dOk b then some (.fl (.bl (ds.any fun y => deq y a))) else none
  | _ => none
def opNi (a b : D) : Option RV := match b with
  | .lst ds => if dOk a && dOk b then some (.fl (.bl (!ds.any fun y => deq y a))) else none
  | _ => none
theorem any_py (d : D) : ∀ ds : List D, ((toPyL ds).any fun y => PyData.eqv y (toPy d)) = ds.any fun y => deq y d
  | [] => rfl
  | e :: ds => by
    show (PyData.eqv (toPy e) (toPy d) || (toPyL ds).any fun y => PyData.eqv y (toPy d)) = (deq e d || ds.any fun y => deq y d)
    rw [any_py d ds]
    rfl
theorem ok_in : R2Ok c (rInD c.K) opIn := by
  intro F H d1 d2 v1 v2 rv Q x k1 k2 l q
  cases d2 <;> try cases l
  rename_i ds
  unfold opIn at l
  dsimp only at l
  split at l
  · rename_i h
    obtain ⟨h1, h2⟩ := Bool.and_eq_true_iff.mp h
    cases l
    refine ⟨_, _, k1.dp x (dOk.lay h1), k2.dp x (dOk.lay h2), h1, h2, ?_⟩
    rw [any_py]
    exact q _ rfl
  · cases l
theorem ok_ni : R2Ok c (rNotInD c.K) opNi := by
  intro F H d1 d2 v1 v2 rv Q x k1 k2 l q
  cases d2 <;> try cases l
  rename_i ds
  unfold opNi at l
  dsimp only at l
  split at l
  · rename_i h
    obtain ⟨h1, h2⟩ := Bool.and_eq_true_iff.mp h
    cases l
    refine ⟨_, _, k1.dp x (dOk.lay h1), k2.dp x (dOk.lay h2), h1, h2, ?_⟩
    rw [any_py]
    exact q _ rfl
  · cases l

/-! ### items, slices, lengths -/
def opIx (a b : D) : Option RV := match a, b with
  | .lst ds, .int i => (atI ds i).map .fl
  | .rol ds, .int i => (atI ds i).map .fl
  | .tup ds, .int i => (atI ds i).map .fl
  | .str z, .int i => if z.length ≤ lim then (atI z.cps.toList i).map fun c => .fl (.str ⟨#[c]⟩) else none
  | _, _ => none
theorem atI_rp {F : Hp} {ds : List D} {vs : List V} {i : Int} {d : D} (r : RpL c F ds vs) (h : atI ds i = some d) : ∃ v, atI vs i = some v ∧ Rp c F d v := by
  unfold atI at h ⊢
  rw [← r.len]
  obtain ⟨j, h1, h2⟩ := obind h
  obtain ⟨v, h3, h4⟩ := r.get h2
  exact ⟨v, by rw [h1]; exact h3, h4⟩
theorem omap {α β : Type} {o : Option α} {f : α → β} {b : β} (h : o.map f = some b) : ∃ a, o = some a ∧ f a = b := by
  cases o with
  | none => cases h
  | some a => exact ⟨a, rfl, Option.some.inj h⟩
theorem ok_ix : R2Ok c (rIx c.K) opIx := by
  intro F H d1 d2 v1 v2 rv Q x k1 k2 l q
  cases d1 <;> cases d2 <;> try cases l
  · rename_i z i
    unfold opIx at l
    dsimp only at l
    split at l
    · rename_i h
      obtain ⟨ch, h1, h2⟩ := omap l
      subst h2
      exact .inr (.inr ⟨z, i, ch, k1.str, k2.int, lim_ok h, h1, q _ rfl⟩)
    · cases l
  · rename_i ds i
    obtain ⟨d, h1, h2⟩ := omap l
    subst h2
    obtain ⟨p, vs, e1, h3, r⟩ := k1.lst x
    obtain ⟨v, h4, r'⟩ := atI_rp r h1
    exact .inl ⟨p, vs, i, v, e1, k2.int, sq_of h3, h4, q _ r'⟩
  · rename_i ds i
    obtain ⟨d, h1, h2⟩ := omap l
    subst h2
    obtain ⟨p, vs, e1, h3, r⟩ := k1.tup x
    obtain ⟨v, h4, r'⟩ := atI_rp r h1
    exact .inr (.inl ⟨p, vs, i, v, e1, k2.int, h3, h4, q _ r'⟩)
  · rename_i ds i
    obtain ⟨d, h1, h2⟩ := omap l
    subst h2
    obtain ⟨p, vs, e1, h3, r⟩ := k1.rol x
    obtain ⟨v, h4, r'⟩ := atI_rp r h1
    exact .inl ⟨p, vs, i, v, e1, k2.int, h3, h4, q _ r'⟩
def opLen (ds : List D) : Option RV := match ds with
  | [.lst xs] => some (.fl (.int xs.length))
  | [.rol xs] => some (.fl (.int xs.length))
  | [.tup xs] => some (.fl (.int xs.length))
  | [.str z] => if z.length ≤ lim then some (.fl (.int z.length)) else none
  | _ => none
abbrev rLen' (K : PySem.W.Frag) : List V → Hp → VK → Prop := fun xs H Q => (∃ p ys, xs = [.ref p] ∧ (SqL K H p ys ∨ SqT K H p ys) ∧ Q (.int ys.length) H) ∨ ∃ z, xs = [.str z] ∧ z.length ≤ sizeLine ∧ Q (.int z.length) H
theorem call_lenA {X : Cx} : CallR X (.builtin "len") (rLen' X.K) := call_len_seq.or call_len_str
theorem Views.one {F H : Hp} {d : D} {vs : List V} (h : Views c F H [d] vs) : ∃ v, vs = [v] ∧ View c F H d v := by
  obtain ⟨v, r, rfl, h1, h2⟩ := h
  cases h2
  exact ⟨v, rfl, h1⟩
theorem Views.two {F H : Hp} {d e : D} {vs : List V} (h : Views c F H [d, e] vs) : ∃ v w, vs = [v, w] ∧ View c F H d v ∧ View c F H e w := by
  obtain ⟨v, r, rfl, h1, h2⟩ := h
  obtain ⟨w, rfl, h3⟩ := h2.one
  exact ⟨v, w, rfl, h1, h3⟩
theorem ok_len : RlOk c (rLen' c.K) opLen := by
  intro F H ds vs rv Q x k l q
  unfold opLen at l
  split at l
  · rename_i xs
    cases l
    obtain ⟨v, rfl, y⟩ := k.one
    obtain ⟨p, ws, rfl, h, r⟩ := y.lst x
    exact .inl ⟨p, ws, rfl, .inl (sq_of h), by rw [← r.len]; exact q _ rfl⟩
  · rename_i xs
    cases l
    obtain ⟨v, rfl, y⟩ := k.one
    obtain ⟨p, ws, rfl, h, r⟩ := y.rol x
    exact .inl ⟨p, ws, rfl, .inl h, by rw [← r.len]; exact q _ rfl⟩
  · rename_i xs
    cases l
    obtain ⟨v, rfl, y⟩ := k.one
    obtain ⟨p, ws, rfl, h, r⟩ := y.tup x
    exact .inl ⟨p, ws, rfl, .inr h, by rw [← r.len]; exact q _ rfl⟩
  · rename_i z
    split at l
    · rename_i h
      cases l
      obtain ⟨v, rfl, y⟩ := k.one
      exact .inr ⟨z, by rw [y.str], lim_ok h, q _ rfl⟩
    · cases l
  · cases l
/-- list(x), tuple(x) -/
def opList (ds : List D) : Option RV := match ds with
  | [.lst xs] => some (.nl xs)
  | [.rol xs] => some (.nl xs)
  | [.tup xs] => some (.nl xs)
  | _ => none
abbrev rList' (K : PySem.W.Frag) : List V → Hp → VK → Prop := fun xs H Q => ∃ p ys, xs = [.ref p] ∧ (SqL K H p ys ∨ SqT K H p ys) ∧ ∀ l, H l = none → Q (.ref l) (upd H l (.lst ys))
theorem ok_list : RlOk c (rList' c.K) opList := by
  intro F H ds vs rv Q x k l q
  unfold opList at l
  split at l <;> try cases l
  · obtain ⟨v, rfl, y⟩ := k.one
    obtain ⟨p, ws, rfl, h, r⟩ := y.lst x
    exact ⟨p, ws, rfl, .inl (sq_of h), fun l hl => q l ws r hl⟩
  · obtain ⟨v, rfl, y⟩ := k.one
    obtain ⟨p, ws, rfl, h, r⟩ := y.rol x
    exact ⟨p, ws, rfl, .inl h, fun l hl => q l ws r hl⟩
  · obtain ⟨v, rfl, y⟩ := k.one
    obtain ⟨p, ws, rfl, h, r⟩ := y.tup x
    exact ⟨p, ws, rfl, .inr h, fun l hl => q l ws r hl⟩
def opTuple (ds : List D) : Option RV := match ds with
  | [.lst xs] => some (.nt xs)
  | [.rol xs] => some (.nt xs)
  | [.tup xs] => some (.fl (.tup xs))
  | _ => none
abbrev rTuple' (K : PySem.W.Frag) : List V → Hp → VK → Prop := fun xs H Q => ∃ p ys, xs = [.ref p] ∧ ((SqL K H p ys ∧ ∀ l, H l = none → Q (.ref l) (upd H l (.tup ys))) ∨ (SqT K H p ys ∧ Q (.ref p) H))
theorem ok_tuple : RlOk c (rTuple' c.K) opTuple := by
  intro F H ds vs rv Q x k l q
  unfold opTuple at l
  split at l <;> try cases l
  · obtain ⟨v, rfl, y⟩ := k.one
    obtain ⟨p, ws, rfl, h, r⟩ := y.lst x
    exact ⟨p, ws, rfl, .inl ⟨sq_of h, fun l hl => q l ws r hl⟩⟩
  · obtain ⟨v, rfl, y⟩ := k.one
    obtain ⟨p, ws, rfl, h, r⟩ := y.rol x
    exact ⟨p, ws, rfl, .inl ⟨h, fun l hl => q l ws r hl⟩⟩
  · rename_i xs
    obtain ⟨v, rfl, y⟩ := k.one
    rcases y with y | ⟨p, _, y⟩
    · obtain ⟨p, ws, rfl, h, r⟩ := id y
      exact ⟨p, ws, rfl, .inr ⟨ex_t x h, q _ y⟩⟩
    · exact y.2.elim
/-- int(n), int(flag); abs; min, max of two -/
def opInt (ds : List D) : Option RV := match ds with
  | [.int i] => some (.fl (.int i))
  | [.bl b] => some (.fl (.int (if b then 1 else 0)))
  | _ => none
abbrev rInt' : List V → Hp → VK → Prop := fun xs H Q => (∃ i, xs = [.int i] ∧ Q (.int i) H) ∨ ∃ k, xs = [.bl k] ∧ Q (.int (if k then 1 else 0)) H
theorem ok_int : RlOk c rInt' opInt := by
  intro F H ds vs rv Q x k l q
  unfold opInt at l
  split at l <;> try cases l
  · obtain ⟨v, rfl, y⟩ := k.one
    exact .inl ⟨_, by rw [y.int], q _ rfl⟩
  · obtain ⟨v, rfl, y⟩ := k.one
    exact .inr ⟨_, by rw [y.bl], q _ rfl⟩
def opAbs (ds : List D) : Option RV := match ds with
  | [.int i] => some (.fl (.int (if i < 0 then -i else i)))
  | _ => none
abbrev rAbs' : List V → Hp → VK → Prop := fun xs H Q => ∃ i, xs = [.int i] ∧ Q (.int (if i < 0 then -i else i)) H
theorem ok_abs : RlOk c rAbs' opAbs := by
  intro F H ds vs rv Q x k l q
  unfold opAbs at l
  split at l <;> try cases l
  obtain ⟨v, rfl, y⟩ := k.one
  exact ⟨_, by rw [y.int], q _ rfl⟩
def opMax2 (ds : List D) : Option RV := match ds with
  | [.int i, .int j] => some (.fl (.int (if j > i then j else i)))
  | _ => none
abbrev rMax2' : List V → Hp → VK → Prop := fun xs H Q => ∃ i j, xs = [.int i, .int j] ∧ Q (.int (if j > i then j else i)) H
theorem ok_max2 : RlOk c rMax2' opMax2 := by
  intro F H ds vs rv Q x k l q
  unfold opMax2 at l
  split at l <;> try cases l
  obtain ⟨v, w, rfl, k1, k2⟩ := k.two
  exact ⟨_, _, by rw [k1.int, k2.int], q _ rfl⟩
def opMin2 (ds : List D) : Option RV := match ds with
  | [.int i, .int j] => some (.fl (.int (if j < i then j else i)))
  | _ => none
abbrev rMin2' : List V → Hp → VK → Prop := fun xs H Q => ∃ i j, xs = [.int i, .int j] ∧ Q (.int (if j < i then j else i)) H
theorem ok_min2 : RlOk c rMin2' opMin2 := by
  intro F H ds vs rv Q x k l q
  unfold opMin2 at l
  split at l <;> try cases l
  obtain ⟨v, w, rfl, k1, k2⟩ := k.two
  exact ⟨_, _, by rw [k1.int, k2.int], q _ rfl⟩
end

/-! ### displays -/
section
variable {X : Cx} {c : Ct} {z : Zs} {W : WX} {es : List Expr} {ta : TA} {fa : FA} {pos : Pos}
def escs : List T → DEnv → Option (List D × DEnv)
  | [], e => some ([], e)
  | t :: ts, e => (escape t e).bind fun r => (escs ts r.2).bind fun q => some (r.1 :: q.1, q.2)
theorem TRs.escs {σ : L2.St} {H : Hp} : ∀ {ts : List T} {vs : List V} {F : Hp} {e : DEnv} {ds : List D} {e' : DEnv}, I2 c z σ H F e → TRs c z F H σ e ts vs → DL.escs ts e = some (ds, e') → ∃ G, Ex F G ∧ I2 c z σ H G e' ∧ RpL c G ds vs
  | [], vs, F, e, ds, e', I, h, l => by cases h; cases l; exact ⟨F, Ex.refl F, I, rfl⟩
  | t :: ts, vs, F, e, ds, e', I, h, l => by
    obtain ⟨v, r, rfl, h2, h3, h4⟩ := h
    obtain ⟨⟨d, e1⟩, l1, l⟩ := obind l
    obtain ⟨⟨ds', e2⟩, l2, l⟩ := obind l
    cases l
    obtain ⟨G, x1, I1, r1⟩ := h3.escape I l1
    obtain ⟨G2, x2, I2', r2⟩ := TRs.escs I1 (h4.keep x1) l2
    exact ⟨G2, x1.trans x2, I2', v, r, rfl, r1.mono x2 d v, r2⟩
def fLst (fa : FA) : FE := fun e => (fa e).bind fun r => Res.of ((escs r.1 r.2).bind fun q => if q.1.length ≤ lim then some (.nw (.lst q.1), q.2) else none)
def fTup (fa : FA) : FE := fun e => (fa e).bind fun r => Res.of ((escs r.1 r.2).bind fun q => if q.1.length ≤ lim then some (.vl (.tup q.1), q.2) else none)
theorem sn_lst (ha : SndA c W ta fa) : SndE c W (tLst ta) (fLst fa) := fun z σ H F e Q I h => by
  unfold fLst at h
  rw [Wp.bind] at h
  refine ha z σ H F e _ I (h.mono (fun r _ h vs H1 F1 x1 I1 t1 => ?_) fun _ _ h => h)
  obtain ⟨a, ea, h⟩ := Wp.of h
  obtain ⟨⟨ds, e2⟩, l1, ea⟩ := obind ea
  dsimp only at ea
  split at ea
  · rename_i hl
    cases ea
    obtain ⟨G, x2, J, rr⟩ := t1.escs I1 l1
    refine ⟨by rw [← rr.len]; exact lim_ok hl, fun p hp => ?_⟩
    exact h _ _ G (x1.trans x2) (J.alloc (Ex.new hp)) ⟨p, rfl, ⟨fresh_back J.fh hp, vs, upd_same, rr⟩, J.fresh0 hp, J.noroot hp⟩
  · cases ea
theorem sn_tup (ha : SndA c W ta fa) : SndE c W (tTup ta) (fTup fa) := fun z σ H F e Q I h => by
  unfold fTup at h
  rw [Wp.bind] at h
  refine ha z σ H F e _ I (h.mono (fun r _ h vs H1 F1 x1 I1 t1 => ?_) fun _ _ h => h)
  obtain ⟨a, ea, h⟩ := Wp.of h
  obtain ⟨⟨ds, e2⟩, l1, ea⟩ := obind ea
  dsimp only at ea
  split at ea
  · rename_i hl
    cases ea
    obtain ⟨G, x2, J, rr⟩ := t1.escs I1 l1
    refine ⟨by rw [← rr.len]; exact lim_ok hl, fun p hp => ?_⟩
    have x3 := Ex.new (o := HO.tup vs) (fresh_back J.fh hp)
    exact h _ _ _ ((x1.trans x2).trans x3) (J.allocT hp) ⟨p, vs, rfl, st_of upd_same, rr.mono x3 ds vs⟩
  · cases ea
theorem de_lst (ha : DA X c W es ta fa) : DE X c W (.List es pos) (tLst ta) (fLst fa) := ⟨pe_lst ha.pa, sn_lst ha.sn⟩
theorem de_tup {x1} (ha : DA X c W es ta fa) : DE X c W (.Tuple es x1 pos) (tTup ta) (fTup fa) := ⟨pe_tup ha.pa, sn_tup ha.sn⟩
end
end DL

/-! DL, part e: statements, loops, comprehensions. -/
namespace DL
open PySem L2 Evl

inductive Out where
  | nx (e : DEnv) | rt (t : T) (e : DEnv) | bk (e : DEnv) | ct (e : DEnv)
abbrev FS := DEnv → Res Out
def PoS (c : Ct) (z : Zs) (F : Hp) (D : Ends) : Out → Prop
  | .nx e' => ∀ σ' H' F', Ex F F' → I2 c z σ' H' F' e' → D.nx σ' H'
  | .rt t e' => ∀ v σ' H' F', Ex F F' → I2 c z σ' H' F' e' → TR c z F' H' σ' e' t v → D.rt v H'
  | .bk e' => ∀ σ' H' F', Ex F F' → I2 c z σ' H' F' e' → D.bk σ' H'
  | .ct e' => ∀ σ' H' F', Ex F F' → I2 c z σ' H' F' e' → D.ct σ' H'
def XpS (c : Ct) (z : Zs) (W : WX) (F : Hp) (x : XV) (e' : DEnv) : Prop := ∀ σ', Xp c z W σ' F x e'
def SndS (c : Ct) (W : WX) (ts : TS) (f : FS) : Prop := ∀ (z : Zs) σ H F e (D : Ends), I2 c z σ H F e → Wp (f e) (PoS c z F D) (XpS c z W F) → ts D σ H
structure DS (X : Cx) (c : Ct) (W : WX) (st : Stmt) (ts : TS) (f : FS) : Prop where
  ps : PS X st ts
  sn : SndS c W ts f
structure DSs (X : Cx) (c : Ct) (W : WX) (st : List Stmt) (ts : TS) (f : FS) : Prop where
  ps : PSs X st ts
  sn : SndS c W ts f
structure DG (X : Cx) (c : Ct) (tg : Expr) (g : TG) (fg : D → DEnv → Option DEnv) : Prop where
  pg : PG X tg g
  sn : ∀ (z : Zs) σ H F e d v e' (Q : L2.St → Hp → Prop), I2 c z σ H F e → Rp c F d v → fg d e = some e' → (∀ σ', I2 c z σ' H F e' → Q σ' H) → g v σ H Q

section
variable {X : Cx} {c : Ct} {z : Zs} {W : WX} {σ : L2.St} {H H' F G : Hp} {e : DEnv} {a b : Expr} {ta tb : TE} {fa fb : FE} {st : Stmt} {sts rest : List Stmt} {ts us : TS} {f g : FS} {tt : TT} {ft : FT} {pos : Pos}
theorem PoS.mono {D : Ends} {o : Out} (h : PoS c z F D o) (k : Ex F G) : PoS c z G D o := by
  cases o with
  | nx e' => exact fun σ' H' F' x I => h σ' H' F' (k.trans x) I
  | rt t e' => exact fun v σ' H' F' x I r => h v σ' H' F' (k.trans x) I r
  | bk e' => exact fun σ' H' F' x I => h σ' H' F' (k.trans x) I
  | ct e' => exact fun σ' H' F' x I => h σ' H' F' (k.trans x) I
theorem XpS.mono {x : XV} {e' : DEnv} (h : XpS c z W F x e') (k : Ex F G) : XpS c z W G x e' := fun σ' => (h σ').mono k

/-! ### stores -/
def storeT (i : Nat) (t : T) (e : DEnv) : Option DEnv := if i < e.length then (match t with
  | .vl d => some (e.set i (some (.sh d)))
  | .nw d => some (e.set i (some (.ow d)))
  | .sl j => match e[j]? with
    | some (some (.sh d)) => some (e.set i (some (.sh d)))
    | some (some (.ow d)) => some ((e.set j (some (.sh d))).set i (some (.sh d)))
    | _ => none) else none
theorem TR.store {i : Nat} {t : T} {v : V} {e' : DEnv} (I : I2 c z σ H F e) (h : TR c z F H σ e t v) (l : storeT i t e = some e') : ∃ G, Ex F G ∧ I2 c z (σ.set i (some v)) H G e' := by
  unfold storeT at l
  split at l
  · rename_i hi
    have hi' : i < σ.length := by rw [← I.len]; exact hi
    cases t with
    | vl d => cases l; exact ⟨F, Ex.refl F, I.store hi' h⟩
    | nw d => cases l; obtain ⟨p, rfl, w, h0, hn⟩ := h; exact ⟨F, Ex.refl F, I.storeN hi' w h0 hn⟩
    | sl j =>
      have h' : σ[j]? = some (some v) := h
      dsimp only at l
      split at l
      · rename_i d hb
        cases l
        obtain ⟨w, hw, r⟩ := I.slot j _ hb
        rw [h'] at hw; cases hw
        exact ⟨F, Ex.refl F, I.store hi' r⟩
      · rename_i d hb
        cases l
        obtain ⟨G, w, x, J, hw, r⟩ := I.freeze hb
        rw [h'] at hw; cases hw
        exact ⟨G, x, J.store hi' r⟩
      · cases l
  · cases l
def fSet (i : Nat) (f : FE) : FS := fun e => (f e).bind fun r => Res.of ((storeT i r.1 r.2).map .nx)
theorem sn_set {i : Nat} (ha : SndE c W ta fa) : SndS c W (tAsg ta (gName i)) (fSet i fa) := fun z σ H F e D I h => by
  unfold fSet at h
  rw [Wp.bind] at h
  refine ha z σ H F e _ I (h.mono (fun r _ h v H1 F1 x1 I1 t1 => ?_) fun _ _ h => h σ)
  obtain ⟨o, ea, h⟩ := Wp.of h
  obtain ⟨e', l1, rfl⟩ := omap ea
  obtain ⟨G, x2, J⟩ := t1.store I1 l1
  exact h _ _ _ (x1.trans x2) J
theorem ds_set {i : Nat} {x : Str} {pos' : Pos} (hN : X.N.Nodup) (hi : X.N[i]? = some x) (hx : Loc X.env.scope x) (ha : DE X c W a ta fa) (hs : swapsWith a (some (.Name x pos')) pos.line X.env = pure false := by rfl)
    (hf : X.fn x = true ∨ X.env.scope.names.lookup x = some .local := by first | exact .inl rfl | exact .inr rfl | assumption) : DS X c W (.Assign [.Name x pos'] a pos) (tAsg ta (gName i)) (fSet i fa) := ⟨ps_set hN hi hx ha.pe hs hf, sn_set ha.sn⟩

/-! ### plain statements -/
def fNext : FS := fun e => .ok (.nx e)
def fSeq (f g : FS) : FS := fun e => (f e).bind fun o => match o with
  | .nx e1 => g e1
  | .rt t e1 => .ok (.rt t e1)
  | .bk e1 => .ok (.bk e1)
  | .ct e1 => .ok (.ct e1)
theorem sn_next : SndS c W tNext fNext := fun z σ H F e D I h => h σ H F (Ex.refl F) I
theorem sn_seq (h1 : SndS c W ts f) (h2 : SndS c W us g) : SndS c W (tSeq ts us) (fSeq f g) := fun z σ H F e D I h => by
  unfold fSeq at h
  rw [Wp.bind] at h
  refine h1 z σ H F e { D with nx := us D } I (h.mono (fun o _ h => ?_) fun _ _ h => h)
  cases o with
  | nx e1 => exact fun σ' H' F' x I' => h2 z σ' H' F' e1 D I' (h.mono (fun _ _ h => h.mono x) fun _ _ h => h.mono x)
  | rt t e1 => exact h
  | bk e1 => exact h
  | ct e1 => exact h
theorem dss_nil : DSs X c W [] tNext fNext := ⟨pss_nil, sn_next⟩
theorem dss_cons (h1 : DS X c W st ts f) (h2 : DSs X c W rest us g) : DSs X c W (st :: rest) (tSeq ts us) (fSeq f g) := ⟨pss_cons h1.ps h2.ps, sn_seq h1.sn h2.sn⟩
theorem dss_one (h1 : DS X c W st ts f) : DSs X c W [st] ts f := ⟨pss_one h1.ps, h1.sn⟩
theorem ds_pass : DS X c W (.Pass pos) tNext fNext := ⟨ps_pass, sn_next⟩
def fBreak : FS := fun e => .ok (.bk e)
def fCont : FS := fun e => .ok (.ct e)
theorem ds_break : DS X c W (.Break pos) tBreak fBreak := ⟨ps_break, fun z σ H F e D I h => h σ H F (Ex.refl F) I⟩
theorem ds_cont : DS X c W (.Continue pos) tCont fCont := ⟨ps_continue, fun z σ H F e D I h => h σ H F (Ex.refl F) I⟩
def fDrop (f : FE) : FS := fun e => (f e).bind fun r => .ok (.nx r.2)
theorem sn_drop (ha : SndE c W ta fa) : SndS c W (tDrop ta) (fDrop fa) := fun z σ H F e D I h => by
  unfold fDrop at h
  rw [Wp.bind] at h
  exact ha z σ H F e _ I (h.mono (fun r _ h v H1 F1 x1 I1 t1 => h σ H1 F1 x1 I1) fun _ _ h => h σ)
theorem ds_expr (ha : DE X c W a ta fa) (hs : swapsWith a none pos.line X.env = pure false := by rfl) : DS X c W (.Expr a pos) (tDrop ta) (fDrop fa) := ⟨ps_expr ha.pe hs, sn_drop ha.sn⟩
def fRet (f : FE) : FS := fun e => (f e).bind fun r => .ok (.rt r.1 r.2)
theorem sn_ret (ha : SndE c W ta fa) : SndS c W (tRet ta) (fRet fa) := fun z σ H F e D I h => by
  unfold fRet at h
  rw [Wp.bind] at h
  exact ha z σ H F e _ I (h.mono (fun r _ h v H1 F1 x1 I1 t1 => h v σ H1 F1 x1 I1 t1) fun _ _ h => h σ)
theorem ds_ret (ha : DE X c W a ta fa) : DS X c W (.Return (some a) pos) (tRet ta) (fRet fa) := ⟨ps_ret ha.pe, sn_ret ha.sn⟩
def fRetN : FS := fun e => .ok (.rt (.vl .non) e)
theorem ds_retN : DS X c W (.Return none pos) tRetN fRetN := ⟨ps_retN, fun z σ H F e D I h => h _ σ H F (Ex.refl F) I rfl⟩
def fIfS (t : FT) (f g : FS) : FS := fun e => (t e).bind fun r => if r.1 = true then f r.2 else g r.2
theorem sn_ifS (hc : SndT c W tt ft) (h1 : SndS c W ts f) (h2 : SndS c W us g) : SndS c W (tIfS tt ts us) (fIfS ft f g) := fun z σ H F e D I h => by
  unfold fIfS at h
  rw [Wp.bind] at h
  refine hc z σ H F e _ I (h.mono (fun r _ h H1 F1 x1 I1 => ?_) fun _ _ h => h σ)
  obtain ⟨b, e1⟩ := r
  cases b with
  | true =>
    rw [if_pos rfl] at h ⊢
    exact h1 z σ H1 F1 e1 D I1 (h.mono (fun _ _ h => h.mono x1) fun _ _ h => h.mono x1)
  | false =>
    rw [if_neg Bool.false_ne_true] at h ⊢
    exact h2 z σ H1 F1 e1 D I1 (h.mono (fun _ _ h => h.mono x1) fun _ _ h => h.mono x1)
theorem ds_if {t : Expr} (hc : DT X c W t tt ft) (h1 : DSs X c W sts ts f) (h2 : DSs X c W rest us g) : DS X c W (.If t sts rest pos) (tIfS tt ts us) (fIfS ft f g) := ⟨ps_if hc.pt h1.ps h2.ps, sn_ifS hc.sn h1.sn h2.sn⟩

/-! ### targets -/
def fgName (i : Nat) (d : D) (e : DEnv) : Option DEnv := if i < e.length then some (e.set i (some (.sh d))) else none
theorem dg_name {i : Nat} {x : Str} (hN : X.N.Nodup) (hi : X.N[i]? = some x) (hx : Loc X.env.scope x) (hf : X.fn x = true ∨ X.env.scope.names.lookup x = some .local := by first | exact .inl rfl | exact .inr rfl | assumption) :
    DG X c (.Name x pos) (gName i) (fgName i) := by
  refine ⟨pg_name hN hi hx hf, fun z σ H F e d v e' Q I r l k => ?_⟩
  unfold fgName at l
  split at l
  · rename_i hl
    cases l
    exact k _ (I.store (by rw [← I.len]; exact hl) r)
  · cases l
/-- several targets for the items of a tuple -/
structure DGs (X : Cx) (c : Ct) (tgs : List Expr) (g : TGs) (fg : List D → DEnv → Option DEnv) : Prop where
  pg : PGs X tgs g
  sn : ∀ (z : Zs) σ H F e ds vs e' (Q : L2.St → Hp → Prop), I2 c z σ H F e → RpL c F ds vs → fg ds e = some e' → (∀ σ', I2 c z σ' H F e' → Q σ' H) → g vs σ H Q
def fgNil (ds : List D) (e : DEnv) : Option DEnv := match ds with
  | [] => some e
  | _ => none
def fgCons (f : D → DEnv → Option DEnv) (g : List D → DEnv → Option DEnv) (ds : List D) (e : DEnv) : Option DEnv := match ds with
  | [] => none
  | d :: ds => (f d e).bind fun e1 => g ds e1
theorem dgs_nil : DGs X c [] gNil fgNil := ⟨pgs_nil, fun z σ H F e ds vs e' Q I r l k => by
  cases ds with
  | nil => cases l; cases r; exact ⟨rfl, k σ I⟩
  | cons _ _ => cases l⟩
theorem dgs_cons {es : List Expr} {g1 : TG} {f1 : D → DEnv → Option DEnv} {gs : TGs} {fs : List D → DEnv → Option DEnv} (h1 : DG X c a g1 f1) (h2 : DGs X c es gs fs)
    (hs : (assignEach (a :: es) X.env).map (·.2) = assign a X.env :: (assignEach es X.env).map (·.2) := by rfl) : DGs X c (a :: es) (gCons g1 gs) (fgCons f1 fs) := ⟨pgs_cons h1.pg h2.pg hs, fun z σ H F e ds vs e' Q I r l k => by
  cases ds with
  | nil => cases l
  | cons d ds =>
    obtain ⟨v, w, rfl, r1, r2⟩ := r
    obtain ⟨e1, l1, l2⟩ := obind l
    exact ⟨v, w, rfl, h1.sn z σ H F e d v e1 _ I r1 l1 fun σ1 I1 => h2.sn z σ1 H F e1 ds w e' Q I1 r2 l2 k⟩⟩
def fgTup (n : Nat) (fg : List D → DEnv → Option DEnv) (d : D) (e : DEnv) : Option DEnv := match d with
  | .tup ds => if ds.length = n then fg ds e else none
  | _ => none
theorem dg_tup {es : List Expr} {k n : Nat} {gs : TGs} {fs : List D → DEnv → Option DEnv} (hK : X.K = c.K := by rfl) (hc : X.calm = true := by rfl) (h : DGs X c es gs fs) (hp : PG X (.Tuple es k pos) (gTup X.K n gs)) : DG X c (.Tuple es k pos) (gTup c.K n gs) (fgTup n fs) := by
  refine ⟨hK ▸ hp, fun z σ H F e d v e' Q I r l q => ?_⟩
  cases d <;> try cases l
  rename_i ds
  unfold fgTup at l
  dsimp only at l
  split at l
  · rename_i hl
    obtain ⟨p, vs, rfl, h1, h2⟩ := r
    exact ⟨p, vs, rfl, ex_t I.fh h1, by rw [← h2.len]; exact hl, h.sn z σ H F e ds vs e' Q I h2 l q⟩
  · cases l
/-- target = e -/
def fAsg (fg : D → DEnv → Option DEnv) (f : FE) : FS := fun e => (f e).bind fun r => Res.of ((escape r.1 r.2).bind fun q => (fg q.1 q.2).map .nx)
theorem sn_asg {gg : TG} {fg : D → DEnv → Option DEnv} (ha : SndE c W ta fa) (hg : ∀ (z : Zs) σ H F e d v e' (Q : L2.St → Hp → Prop), I2 c z σ H F e → Rp c F d v → fg d e = some e' → (∀ σ', I2 c z σ' H F e' → Q σ' H) → gg v σ H Q) :
    SndS c W (tAsg ta gg) (fAsg fg fa) := fun z σ H F e D I h => by
  unfold fAsg at h
  rw [Wp.bind] at h
  refine ha z σ H F e _ I (h.mono (fun r _ h v H1 F1 x1 I1 t1 => ?_) fun _ _ h => h σ)
  obtain ⟨o, ea, h⟩ := Wp.of h
  obtain ⟨⟨d, e1⟩, l1, ea⟩ := obind ea
  obtain ⟨e', l2, rfl⟩ := omap ea
  obtain ⟨G, x2, J, rr⟩ := t1.escape I1 l1
  exact hg z σ H1 G e1 d v e' D.nx J rr l2 fun σ' I' => h σ' H1 G (x1.trans x2) I'
theorem ds_asg {tg : Expr} {gg : TG} {fg : D → DEnv → Option DEnv} (ha : DE X c W a ta fa) (hg : DG X c tg gg fg) (hs : swapsWithSole [tg] a pos.line X.env = pure false := by rfl) (hw : swappedStores [tg] a X.env = pure none := by rfl) (h1 : (assignEach [tg] X.env).map (·.2) = [assign tg X.env] := by rfl) :
    DS X c W (.Assign [tg] a pos) (tAsg ta gg) (fAsg fg fa) := ⟨ps_asg ha.pe hg.pg hs hw h1, sn_asg ha.sn hg.sn⟩
/-- x, y = e1, e2 (two names) -/
def fPar (i j : Nat) (fr : FA) : FS := fun e => (fr e).bind fun r => Res.of (match r.1 with
  | [t, u] => (escape t r.2).bind fun q => (escape u q.2).bind fun q2 => if i < q2.2.length ∧ j < q2.2.length then some (.nx ((q2.2.set i (some (.sh q.1))).set j (some (.sh q2.1)))) else none
  | _ => none)
theorem sn_par {i j : Nat} {tr : TA} {fr : FA} (ha : SndA c W tr fr) : SndS c W (tPar i j tr) (fPar i j fr) := fun z σ H F e D I h => by
  unfold fPar at h
  rw [Wp.bind] at h
  refine ha z σ H F e _ I (h.mono (fun r _ h vs H1 F1 x1 I1 t1 => ?_) fun _ _ h => h σ)
  obtain ⟨o, ea, h⟩ := Wp.of h
  obtain ⟨ts, e1⟩ := r
  dsimp only at ea
  split at ea
  · rename_i t u _
    obtain ⟨v, r1, rfl, s1, k1, w, r2, rfl, s2, k2, k3⟩ := t1
    cases k3
    obtain ⟨⟨d1, e2⟩, l1, ea⟩ := obind ea
    obtain ⟨⟨d2, e3⟩, l2, ea⟩ := obind ea
    dsimp only at ea
    split at ea
    · rename_i hl
      cases ea
      obtain ⟨G1, y1, J1, q1⟩ := k1.escape I1 l1
      have k2' : TR c z G1 H1 σ e2 u w := by rw [← s2] at k2 ⊢; exact k2.keep y1
      obtain ⟨G2, y2, J2, q2⟩ := k2'.escape J1 l2
      have hi : i < σ.length := by rw [← J2.len]; exact hl.1
      have hj : j < σ.length := by rw [← J2.len]; exact hl.2
      have K1 := J2.store hi (q1.mono y2 d1 v)
      have K2 := K1.store (i := j) (by rw [List.length_set]; exact hj) q2
      exact ⟨v, w, rfl, h _ _ G2 ((x1.trans y1).trans y2) K2⟩
    · cases ea
  · cases ea
theorem ds_par {i j : Nat} {x y : Str} {px py pt : Pos} {kt k2 pt2} {tr : TA} {fr : FA} (hp : PS X (.Assign [.Tuple [.Name x px, .Name y py] kt pt] (.Tuple [a, b] k2 pt2) pos) (tPar i j tr)) (ha : DA X c W [a, b] tr fr) :
    DS X c W (.Assign [.Tuple [.Name x px, .Name y py] kt pt] (.Tuple [a, b] k2 pt2) pos) (tPar i j tr) (fPar i j fr) := ⟨hp, sn_par ha.sn⟩

/-! ### x += e, xs.append(e), xs[i] = e -/
def fAug (i : Nat) (op : D → D → Option RV) (f : FE) : FS := fun e => match e[i]? with
  | some (some (.sh d1)) => (f e).bind fun r => Res.of ((lookT r.1 r.2).bind fun d2 => (op d1 d2).bind fun rv => (storeT i rv.tok r.2).map .nx)
  | _ => .stuck
theorem sn_aug {i : Nat} {ti : TIp} {op : D → D → Option RV} (ho : ∀ F H d1 d2 v1 v2 rv (Q : VK), Ex F H → View c F H d1 v1 → View c F H d2 v2 → op d1 d2 = some rv → rv.Post c F H Q → ti v1 v2 H Q) (ha : SndE c W ta fa) :
    SndS c W (tAug i ta ti) (fAug i op fa) := fun z σ H F e D I h => by
  unfold fAug at h
  split at h
  · rename_i d1 hb
    obtain ⟨v1, hv1, r1⟩ := I.slot i _ hb
    refine ⟨v1, hv1, ?_⟩
    rw [Wp.bind] at h
    refine ha z σ H F e _ I (h.mono (fun r _ h v H1 F1 x1 I1 t1 => ?_) fun _ _ h => h σ)
    obtain ⟨o, ea, h⟩ := Wp.of h
    obtain ⟨d2, l1, ea⟩ := obind ea
    obtain ⟨rv, l2, ea⟩ := obind ea
    obtain ⟨e', l3, rfl⟩ := omap ea
    refine ho F1 H1 d1 d2 v1 v rv _ I1.fh (.inl (Rp.mono x1 d1 v1 r1)) (t1.view I1 l1) l2 (RV.post_of I1 fun w H2 F2 x2 I2' t2 => ?_)
    obtain ⟨G, x3, J⟩ := t2.store I2' l3
    exact h _ _ _ ((x1.trans x2).trans x3) J
  · exact h.elim
theorem ds_aug {i : Nat} {x : Str} {o : Operator} {ti : TIp} {op : D → D → Option RV} {pos' : Pos} (hN : X.N.Nodup) (hi : X.N[i]? = some x) (hx : Loc X.env.scope x) (ha : DE X c W a ta fa) (hp : PIp X o ti)
    (ho : ∀ F H d1 d2 v1 v2 rv (Q : VK), Ex F H → View c F H d1 v1 → View c F H d2 v2 → op d1 d2 = some rv → rv.Post c F H Q → ti v1 v2 H Q)
    (hf : X.fn x = true ∨ X.env.scope.names.lookup x = some .local := by first | exact .inl rfl | exact .inr rfl | assumption) : DS X c W (.AugAssign (.Name x pos') o a pos) (tAug i ta ti) (fAug i op fa) := ⟨ps_aug hN hi hx ha.pe hp hf, sn_aug ho ha.sn⟩
/-- a list that a name alone knows -/
def rootLst (e : DEnv) (j : Nat) : Option (List D) := match e[j]? with
  | some (some (.ow (.lst ds))) => some ds
  | some (some (.br (.lst ds))) => some ds
  | _ => none
def putLst (e : DEnv) (j : Nat) (ds : List D) : DEnv := match e[j]? with
  | some (some b) => e.set j (some (b.re (.lst ds)))
  | _ => e
theorem I2.rootLst {j : Nat} {ds : List D} (I : I2 c z σ H F e) (h : rootLst e j = some ds) : ∃ p vs, σ[j]? = some (some (.ref p)) ∧ H p = some (.lst vs) ∧ RpL c F ds vs ∧
    ∀ vs' ds', RpL c F ds' vs' → I2 c z σ (upd H p (.lst vs')) F (putLst e j ds') := by
  unfold DL.rootLst at h
  split at h <;> try cases h
  · rename_i hb
    obtain ⟨v, hv, p, rfl, ⟨hF, vs, h1, h2⟩, _⟩ := I.slot j _ hb
    refine ⟨p, vs, hv, h1, h2, fun vs' ds' r => ?_⟩
    unfold putLst
    rw [hb]
    exact I.mut (d := .lst ds') hb rfl hv ⟨hF, vs', upd_same, r⟩
  · rename_i hb
    obtain ⟨v, hv, p, rfl, ⟨hF, vs, h1, h2⟩, _⟩ := I.slot j _ hb
    refine ⟨p, vs, hv, h1, h2, fun vs' ds' r => ?_⟩
    unfold putLst
    rw [hb]
    exact I.mut (d := .lst ds') hb rfl hv ⟨hF, vs', upd_same, r⟩
/-- xs.append(e), xs a name -/
def fApp (j : Nat) (f : FE) : FE := fun e => (Res.of (rootLst e j)).bind fun _ => (f e).bind fun r => Res.of ((escape r.1 r.2).bind fun q => (rootLst q.2 j).bind fun ds => if ds.length < lim then some (.vl .non, putLst q.2 j (ds ++ [q.1])) else none)
theorem sn_app {j : Nat} (ha : SndE c W ta fa) : SndE c W (tBM c.K "list" rAppend (tVar j) (tCons ta tNil)) (fApp j fa) := fun z σ H F e Q I h => by
  unfold fApp at h
  rw [Wp.bind] at h
  obtain ⟨ds0, l0, h⟩ := Wp.of h
  obtain ⟨p0, vs0, hv0, h0, _, _⟩ := I.rootLst l0
  refine ⟨_, hv0, .inl ⟨rfl, _, sq_of h0⟩, ?_⟩
  rw [Wp.bind] at h
  refine ha z σ H F e _ I (h.mono (fun r _ h v H1 F1 x1 I1 t1 => ?_) fun _ _ h => h)
  obtain ⟨o, ea, h⟩ := Wp.of h
  obtain ⟨⟨d, e1⟩, l1, ea⟩ := obind ea
  obtain ⟨ds, l2, ea⟩ := obind ea
  dsimp only at ea
  split at ea
  · rename_i hl
    cases ea
    obtain ⟨G, x2, J, rr⟩ := t1.escape I1 l1
    obtain ⟨p, vs, hv, h1, r1, k⟩ := J.rootLst l2
    rw [hv0] at hv; cases hv
    refine ⟨p0, vs, v, rfl, rfl, h1, by rw [← r1.len]; exact lim_lt hl, ?_⟩
    exact h _ _ G (x1.trans x2) (k _ _ (r1.app (RpL.one rr))) rfl
  · cases ea
/-- xs.pop() -/
def fPop (j : Nat) : FE := fun e => Res.of ((rootLst e j).bind fun ds => (ds[ds.length - 1]?).bind fun d => some (.vl d, putLst e j ds.dropLast))
theorem RpL.dropLast {ds : List D} {vs : List V} (h : RpL c F ds vs) : RpL c F ds.dropLast vs.dropLast := by
  rw [List.dropLast_eq_take, List.dropLast_eq_take, h.len]
  exact h.take _
theorem sn_pop {j : Nat} : SndE c W (tBM0 c.K "list" rPop (tVar j)) (fPop j) := fun z σ H F e Q I h => by
  unfold fPop at h
  obtain ⟨o, ea, h⟩ := Wp.of h
  obtain ⟨ds, l1, ea⟩ := obind ea
  obtain ⟨d, l2, ea⟩ := obind ea
  cases ea
  obtain ⟨p, vs, hv, h1, r1, k⟩ := I.rootLst l1
  obtain ⟨v, h3, r3⟩ := r1.get l2
  refine ⟨_, hv, .inl ⟨rfl, _, sq_of h1⟩, p, vs, v, rfl, rfl, h1, by rw [← r1.len]; exact h3, ?_⟩
  exact h _ _ F (Ex.refl F) (k _ _ r1.dropLast) r3
/-- xs.extend(ys) -/
def fExt (j : Nat) (f : FE) : FE := fun e => (Res.of (rootLst e j)).bind fun _ => (f e).bind fun r => Res.of ((escape r.1 r.2).bind fun q => match q.1 with
  | .lst es => (rootLst q.2 j).bind fun ds => if ds.length + es.length ≤ lim then some (.vl .non, putLst q.2 j (ds ++ es)) else none
  | _ => none)
theorem sn_ext {j : Nat} (ha : SndE c W ta fa) : SndE c W (tBM c.K "list" rExtend (tVar j) (tCons ta tNil)) (fExt j fa) := fun z σ H F e Q I h => by
  unfold fExt at h
  rw [Wp.bind] at h
  obtain ⟨ds0, l0, h⟩ := Wp.of h
  obtain ⟨p0, vs0, hv0, h0, _, _⟩ := I.rootLst l0
  refine ⟨_, hv0, .inl ⟨rfl, _, sq_of h0⟩, ?_⟩
  rw [Wp.bind] at h
  refine ha z σ H F e _ I (h.mono (fun r _ h v H1 F1 x1 I1 t1 => ?_) fun _ _ h => h)
  obtain ⟨o, ea, h⟩ := Wp.of h
  obtain ⟨⟨d, e1⟩, l1, ea⟩ := obind ea
  obtain ⟨G, x2, J, rr⟩ := t1.escape I1 l1
  cases d <;> try cases ea
  rename_i es
  obtain ⟨ds, l2, ea⟩ := obind ea
  dsimp only at ea
  split at ea
  · rename_i hl
    cases ea
    obtain ⟨p, vs, hv, h1, r1, k⟩ := J.rootLst l2
    rw [hv0] at hv; cases hv
    obtain ⟨q, ws, rfl, h2, r2⟩ := rr
    refine ⟨p0, q, vs, ws, rfl, rfl, h1, J.fh _ _ h2, by rw [← r1.len, ← r2.len]; exact lim_ok hl, ?_⟩
    exact h _ _ G (x1.trans x2) (k _ _ (r1.app r2)) rfl
  · cases ea
/-- xs[i] = e, xs a name -/
def fSetIx (j : Nat) (fi fv : FE) : FS := fun e => (fv e).bind fun r => (Res.of ((escape r.1 r.2).bind fun q => (rootLst q.2 j).map fun _ => q)).bind fun q => (fi q.2).bind fun s => Res.of ((lookT s.1 s.2).bind fun k => match k with
  | .int k => (rootLst s.2 j).bind fun ds => (ixN ds.length k).map fun n => .nx (putLst s.2 j (ds.set n q.1))
  | _ => none)
theorem sn_setIx {j : Nat} {ti tv : TE} {fi fv : FE} (hi : SndE c W ti fi) (hv : SndE c W tv fv) : SndS c W (tAsg tv (gSub (tVar j) ti rSetL)) (fSetIx j fi fv) := fun z σ H F e D I h => by
  unfold fSetIx at h
  rw [Wp.bind] at h
  refine hv z σ H F e _ I (h.mono (fun r _ h v H1 F1 x1 I1 t1 => ?_) fun _ _ h => h σ)
  rw [Wp.bind] at h
  obtain ⟨⟨d, e1⟩, ea, h⟩ := Wp.of h
  obtain ⟨⟨d', e1'⟩, l1, ea⟩ := obind ea
  obtain ⟨ds0, l0, ea⟩ := omap ea
  cases ea
  obtain ⟨G, x2, J, rr⟩ := t1.escape I1 l1
  obtain ⟨p0, vs0, hv0, h0, _, _⟩ := J.rootLst l0
  refine ⟨_, hv0, ?_⟩
  rw [Wp.bind] at h
  refine hi z σ H1 G e1 _ J (h.mono (fun s _ h w H2 F2 x3 I2' t2 => ?_) fun _ _ h => (h.mono (x1.trans x2)) σ)
  obtain ⟨o, ea, h⟩ := Wp.of h
  obtain ⟨k, l2, ea⟩ := obind ea
  cases k <;> try cases ea
  rename_i k
  obtain ⟨ds, l3, ea⟩ := obind ea
  obtain ⟨n, l4, rfl⟩ := omap ea
  obtain ⟨p, vs, hv1, h1, r1, kk⟩ := I2'.rootLst l3
  rw [hv0] at hv1; cases hv1
  have ew := (t2.view I2' l2).int
  subst ew
  refine ⟨p0, vs, k, n, rfl, rfl, h1, by rw [← r1.len]; exact l4, ?_⟩
  exact h σ _ F2 ((x1.trans x2).trans x3) (kk _ _ (r1.set n (rr.mono x3 d v)))
theorem ds_setIx {j : Nat} {o i : Expr} {ti tv : TE} {fi fv : FE} {tgp : Pos} (hp : PS X (.Assign [.Subscript o i tgp] a pos) (tAsg tv (gSub (tVar j) ti rSetL))) (hi : SndE c W ti fi) (hv : SndE c W tv fv) : DS X c W (.Assign [.Subscript o i tgp] a pos) (tAsg tv (gSub (tVar j) ti rSetL)) (fSetIx j fi fv) := ⟨hp, sn_setIx hi hv⟩

/-! ### what is walked -/
/-- the iterator hands on the items -/
def ItOk (c : Ct) (z : Zs) (J : It) (F : Hp) (items : List D) : Prop := ∀ (i : Nat) (σ : L2.St) (H1 F1 : Hp) (e : DEnv), Ex F F1 → I2 c z σ H1 F1 e →
  (∀ d, items[i]? = some d → J.go i H1 ∧ ∀ x H2, J.yld i H1 x H2 → ∃ F2, Ex F1 F2 ∧ Ex H1 H2 ∧ I2 c z σ H2 F2 e ∧ Rp c F2 d x) ∧ (items.length ≤ i → J.stop i H1)
abbrev FI := DEnv → Res (List D × DEnv)
def SndI (c : Ct) (W : WX) (wi : TI) (fi : FI) : Prop := ∀ (z : Zs) σ H F e (R : It → Hp → Prop), I2 c z σ H F e →
  Wp (fi e) (fun r => ∀ J H' F', Ex F F' → I2 c z σ H' F' r.2 → (∀ z', ItOk c z' J F' r.1) → R J H') (Xp c z W σ F) → wi σ H R
structure DI (X : Cx) (c : Ct) (W : WX) (tg iter : Expr) (wi : TI) (fi : FI) : Prop where
  pi : PI X tg iter wi
  sn : SndI c W wi fi
/-- over a list -/
def fiL (f : FE) : FI := fun e => (f e).bind fun r => Res.of ((escape r.1 r.2).bind fun q => match q.1 with
  | .lst ds => some (ds, q.2)
  | .rol ds => some (ds, q.2)
  | _ => none)
theorem itOk_list {z' : Zs} {p : Addr} {vs : List V} {ds : List D} (h : SqL c.K F p vs) (r : RpL c F ds vs) : ItOk c z' (Itl c.K p) F ds := fun i σ H1 F1 e x I => by
  have h1 := ex_l (x.trans I.fh) h
  refine ⟨fun d hd => ?_, fun hl => ⟨vs, h1, by rw [← r.len]; exact hl⟩⟩
  obtain ⟨v, hv, rv⟩ := r.get hd
  refine ⟨⟨vs, v, h1, hv⟩, fun y H2 hy => ?_⟩
  obtain ⟨rfl, hy⟩ := hy
  have e1 := hy vs h1
  rw [hv] at e1; cases e1
  exact ⟨F1, Ex.refl F1, Ex.refl _, I, rv.mono x d v⟩
theorem sn_iL (ha : SndE c W ta fa) : SndI c W (iList c.K ta) (fiL fa) := fun z σ H F e R I h => by
  unfold fiL at h
  rw [Wp.bind] at h
  refine ha z σ H F e _ I (h.mono (fun r _ h v H1 F1 x1 I1 t1 => ?_) fun _ _ h => h)
  obtain ⟨o, ea, h⟩ := Wp.of h
  obtain ⟨⟨d, e1⟩, l1, ea⟩ := obind ea
  obtain ⟨G, x2, J, rr⟩ := t1.escape I1 l1
  cases d <;> try cases ea
  · obtain ⟨p, vs, rfl, h1, r⟩ := rr
    exact ⟨p, rfl, ⟨vs, sq_of (J.fh _ _ h1)⟩, h _ _ G (x1.trans x2) J fun z' => itOk_list (sq_of h1) r⟩
  · obtain ⟨p, vs, rfl, h1, r⟩ := rr
    exact ⟨p, rfl, ⟨vs, ex_l J.fh h1⟩, h _ _ G (x1.trans x2) J fun z' => itOk_list h1 r⟩
theorem di_list {tg : Expr} (hK : X.K = c.K := by rfl) (ha : DE X c W a ta fa) : DI X c W tg a (iList c.K ta) (fiL fa) := ⟨hK ▸ pi_list ha.pe, sn_iL ha.sn⟩
/-- over a tuple -/
def fiT (f : FE) : FI := fun e => (f e).bind fun r => Res.of ((escape r.1 r.2).bind fun q => match q.1 with
  | .tup ds => some (ds, q.2)
  | _ => none)
theorem itOk_tup {z' : Zs} {p : Addr} {vs : List V} {ds : List D} (h : SqT c.K F p vs) (r : RpL c F ds vs) : ItOk c z' (Itt c.K p) F ds := fun i σ H1 F1 e x I => by
  have h1 := ex_t (x.trans I.fh) h
  refine ⟨fun d hd => ?_, fun hl => ⟨vs, h1, by rw [← r.len]; exact hl⟩⟩
  obtain ⟨v, hv, rv⟩ := r.get hd
  refine ⟨⟨vs, v, h1, hv⟩, fun y H2 hy => ?_⟩
  obtain ⟨rfl, hy⟩ := hy
  have e1 := hy vs h1
  rw [hv] at e1; cases e1
  exact ⟨F1, Ex.refl F1, Ex.refl _, I, rv.mono x d v⟩
theorem sn_iT (ha : SndE c W ta fa) : SndI c W (iTup c.K ta) (fiT fa) := fun z σ H F e R I h => by
  unfold fiT at h
  rw [Wp.bind] at h
  refine ha z σ H F e _ I (h.mono (fun r _ h v H1 F1 x1 I1 t1 => ?_) fun _ _ h => h)
  obtain ⟨o, ea, h⟩ := Wp.of h
  obtain ⟨⟨d, e1⟩, l1, ea⟩ := obind ea
  obtain ⟨G, x2, J, rr⟩ := t1.escape I1 l1
  cases d <;> try cases ea
  obtain ⟨p, vs, rfl, h1, r⟩ := rr
  exact ⟨p, rfl, ⟨vs, ex_t J.fh h1⟩, h _ _ G (x1.trans x2) J fun z' => itOk_tup h1 r⟩
theorem di_tup {tg : Expr} (hK : X.K = c.K := by rfl) (ha : DE X c W a ta fa) : DI X c W tg a (iTup c.K ta) (fiT fa) := ⟨hK ▸ pi_tup ha.pe, sn_iT ha.sn⟩
/-- over range(n), range(a, b) -/
def irange (lo : Int) (n : Nat) : List D := (List.range n).map fun (i : Nat) => D.int (lo + (i : Int))
theorem itOk_range {z' : Zs} {lo : Int} {n : Nat} : ItOk c z' (Itr lo n) F (irange lo n) := fun i σ H1 F1 e x I => by
  refine ⟨fun d hd => ?_, fun hl => ?_⟩
  · unfold irange at hd
    rw [List.getElem?_map] at hd
    obtain ⟨k, hk, rfl⟩ := omap hd
    have hlt : i < n := by
      have := get_lt hk
      rwa [List.length_range] at this
    rw [List.getElem?_range hlt] at hk
    cases hk
    exact ⟨hlt, fun y H2 hy => ⟨F1, Ex.refl F1, by rw [hy.1]; exact Ex.refl _, by rw [hy.1]; exact I, hy.2⟩⟩
  · unfold irange at hl
    rw [List.length_map, List.length_range] at hl
    exact hl
def ok62 (i : Int) : Bool := decide (-(2 ^ 62) ≤ i) && decide (i < 2 ^ 62)
def fiR1 (fr : FA) : FI := fun e => (fr e).bind fun r => Res.of ((lookTs r.1 r.2).bind fun ds => match ds with
  | [.int n] => if ok62 n then some (irange 0 n.toNat, r.2) else none
  | _ => none)
def fiR2 (fr : FA) : FI := fun e => (fr e).bind fun r => Res.of ((lookTs r.1 r.2).bind fun ds => match ds with
  | [.int i, .int j] => if ok62 i && ok62 j then some (irange i (j - i).toNat, r.2) else none
  | _ => none)
theorem sn_iR1 {tr : TA} {fr : FA} (ha : SndA c W tr fr) : SndI c W (iRng1 tr) (fiR1 fr) := fun z σ H F e R I h => by
  unfold fiR1 at h
  rw [Wp.bind] at h
  refine ha z σ H F e _ I (h.mono (fun r _ h vs H1 F1 x1 I1 t1 => ?_) fun _ _ h => h)
  obtain ⟨o, ea, h⟩ := Wp.of h
  obtain ⟨ds, l1, ea⟩ := obind ea
  have k := t1.views I1 l1
  split at ea
  · rename_i n
    split at ea
    · rename_i hk
      cases ea
      obtain ⟨v, rfl, k'⟩ := k.one
      obtain ⟨b1, b2⟩ := Bool.and_eq_true_iff.mp hk
      exact ⟨n, by rw [k'.int], of_decide_eq_true b1, of_decide_eq_true b2, h _ H1 F1 x1 I1 fun z' => itOk_range⟩
    · cases ea
  · cases ea
theorem sn_iR2 {tr : TA} {fr : FA} (ha : SndA c W tr fr) : SndI c W (iRng2 tr) (fiR2 fr) := fun z σ H F e R I h => by
  unfold fiR2 at h
  rw [Wp.bind] at h
  refine ha z σ H F e _ I (h.mono (fun r _ h vs H1 F1 x1 I1 t1 => ?_) fun _ _ h => h)
  obtain ⟨o, ea, h⟩ := Wp.of h
  obtain ⟨ds, l1, ea⟩ := obind ea
  have k := t1.views I1 l1
  split at ea
  · rename_i i j
    split at ea
    · rename_i hk
      cases ea
      obtain ⟨v, w, rfl, k1, k2⟩ := k.two
      obtain ⟨b0, b3⟩ := Bool.and_eq_true_iff.mp hk
      obtain ⟨b1, b2⟩ := Bool.and_eq_true_iff.mp b0
      obtain ⟨b3, b4⟩ := Bool.and_eq_true_iff.mp b3
      exact ⟨i, j, by rw [k1.int, k2.int], ⟨of_decide_eq_true b1, of_decide_eq_true b2, of_decide_eq_true b3, of_decide_eq_true b4⟩, h _ H1 F1 x1 I1 fun z' => itOk_range⟩
    · cases ea
  · cases ea
theorem di_range1 {tg : Expr} {p : Pos} {tr : TA} {fr : FA} (hg : Gl X "range") (hm : X.mg "range" = none) (ha : DA X c W [a] tr fr) (hs : starEach [a] X.env = [(false, eval a X.env)] := by rfl) : DI X c W tg (.Call (.Name "range" p) [a] [] pos) (iRng1 tr) (fiR1 fr) := ⟨pi_range1 hg hm ha.pa hs, sn_iR1 ha.sn⟩
theorem di_range2 {tg : Expr} {p : Pos} {tr : TA} {fr : FA} (hg : Gl X "range") (hm : X.mg "range" = none) (ha : DA X c W [a, b] tr fr) (hs : starEach [a, b] X.env = [(false, eval a X.env), (false, eval b X.env)] := by rfl) (hs2 : starEach [b] X.env = [(false, eval b X.env)] := by rfl) :
    DI X c W tg (.Call (.Name "range" p) [a, b] [] pos) (iRng2 tr) (fiR2 fr) := ⟨pi_range2 hg hm ha.pa hs hs2, sn_iR2 ha.sn⟩

/-! ### for, while -/
def loopF (fg : D → DEnv → Option DEnv) (fb : FS) : List D → DEnv → Res Out
  | [], e => .ok (.nx e)
  | d :: ds, e => (Res.of (fg d e)).bind fun e1 => (fb e1).bind fun o => match o with
    | .nx e2 => loopF fg fb ds e2
    | .ct e2 => loopF fg fb ds e2
    | .bk e2 => .ok (.nx e2)
    | .rt t e2 => .ok (.rt t e2)
def fFor (fi : FI) (fg : D → DEnv → Option DEnv) (fb : FS) : FS := fun e => (fi e).bind fun r => loopF fg fb r.1 r.2
theorem sn_for {wi : TI} {fi : FI} {gg : TG} {fg : D → DEnv → Option DEnv} (hi : SndI c W wi fi) (hg : ∀ (z : Zs) σ H F e d v e' (Q : L2.St → Hp → Prop), I2 c z σ H F e → Rp c F d v → fg d e = some e' → (∀ σ', I2 c z σ' H F e' → Q σ' H) → gg v σ H Q) (hb : SndS c W ts f) :
    SndS c W (tFor wi gg ts) (fFor fi fg f) := fun z σ H F e D I h => by
  unfold fFor at h
  rw [Wp.bind] at h
  refine hi z σ H F e _ I (h.mono (fun r _ h J H1 F1 x1 I1 it => ?_) fun _ _ h => h σ)
  obtain ⟨items, e1⟩ := r
  refine ⟨fun i m σ' H' => m = items.length - i ∧ i ≤ items.length ∧ ∃ F' e', Ex F1 F' ∧ I2 c z σ' H' F' e' ∧ Wp (loopF fg f (items.drop i) e') (PoS c z F' D) (XpS c z W F'), ⟨items.length, rfl, Nat.zero_le _, F1, e1, Ex.refl F1, I1, h.mono (fun _ _ h => h.mono x1) fun _ _ h => h.mono x1⟩, ?_⟩
  rintro i m σ' H' ⟨rfl, hle, F', e', x', I', h'⟩
  obtain ⟨it1, it2⟩ := it z i σ' H' F' e' x' I'
  by_cases hlt : i < items.length
  · have hd : items[i]? = some items[i] := List.getElem?_eq_getElem hlt
    obtain ⟨go, yld⟩ := it1 _ hd
    rw [List.drop_eq_getElem_cons hlt] at h'
    unfold loopF at h'
    rw [Wp.bind] at h'
    obtain ⟨e2, l1, h'⟩ := Wp.of h'
    rw [Wp.bind] at h'
    refine .inr ⟨go, fun σ2 H2 => i + 1 ≤ items.length ∧ ∃ F2 e2, Ex F1 F2 ∧ I2 c z σ2 H2 F2 e2 ∧ Wp (loopF fg f (items.drop (i + 1)) e2) (PoS c z F2 D) (XpS c z W F2), fun σ2 H2 q => ⟨items.length - (i + 1), by omega, rfl, q⟩, fun y H2 hy => ?_⟩
    obtain ⟨F2, x2, _, J2, r2⟩ := yld y H2 hy
    refine hg z σ' H2 F2 e' _ y e2 _ J2 r2 l1 fun σ3 J3 => ?_
    refine hb z σ3 H2 F2 e2 _ J3 (h'.mono (fun o _ h => ?_) fun _ _ h => h.mono x2)
    cases o with
    | nx e4 => exact fun σ4 H4 F4 x4 I4 => ⟨hlt, F4, e4, (x'.trans x2).trans x4, I4, h.mono (fun _ _ h => h.mono (x2.trans x4)) fun _ _ h => h.mono (x2.trans x4)⟩
    | ct e4 => exact fun σ4 H4 F4 x4 I4 => ⟨hlt, F4, e4, (x'.trans x2).trans x4, I4, h.mono (fun _ _ h => h.mono (x2.trans x4)) fun _ _ h => h.mono (x2.trans x4)⟩
    | bk e4 => exact fun σ4 H4 F4 x4 I4 => h σ4 H4 F4 (x2.trans x4) I4
    | rt t e4 => exact fun v σ4 H4 F4 x4 I4 t4 => h v σ4 H4 F4 (x2.trans x4) I4 t4
  · have e0 : i = items.length := by omega
    subst e0
    rw [List.drop_length] at h'
    exact .inl ⟨it2 (Nat.le_refl _), h' σ' H' F' (Ex.refl F') I'⟩
theorem ds_for {tg iter : Expr} {wi : TI} {fi : FI} {gg : TG} {fg : D → DEnv → Option DEnv} (hp : PassesOwn (model X.prog X.w) X.A X.env X.xe) (hc : X.calm = true) (hi : DI X c W tg iter wi fi) (hg : DG X c tg gg fg) (hb : DSs X c W sts ts f)
    (hs : ∀ x, foldedSetIterable iter X.env x = pure x := by intro _; rfl) : DS X c W (.For tg iter sts [] pos) (tFor wi gg ts) (fFor fi fg f) := ⟨ps_for hp hc hi.pi hg.pg hb.ps hs, sn_for hi.sn hg.sn hb.sn⟩
def loopW (fc : FT) (fb : FS) : Nat → DEnv → Res Out
  | 0, _ => .stuck
  | n + 1, e => (fc e).bind fun r => if r.1 = true then (fb r.2).bind fun o => match o with
    | .nx e2 => loopW fc fb n e2
    | .ct e2 => loopW fc fb n e2
    | .bk e2 => .ok (.nx e2)
    | .rt t e2 => .ok (.rt t e2)
    else .ok (.nx r.2)
theorem sn_while (n : Nat) (hc : SndT c W tt ft) (hb : SndS c W ts f) : SndS c W (tWhile tt ts) (loopW ft f n) := fun z σ H F e D I h => by
  refine ⟨fun m σ' H' => ∃ F' e', Ex F F' ∧ I2 c z σ' H' F' e' ∧ Wp (loopW ft f m e') (PoS c z F' D) (XpS c z W F'), ⟨n, F, e, Ex.refl F, I, h⟩, ?_⟩
  rintro m σ' H' ⟨F', e', x', I', h'⟩
  cases m with
  | zero => exact h'.elim
  | succ m =>
    unfold loopW at h'
    rw [Wp.bind] at h'
    refine hc z σ' H' F' e' _ I' (h'.mono (fun r _ h H1 F1 x1 I1 => ?_) fun _ _ h => h σ')
    obtain ⟨b, e1⟩ := r
    cases b with
    | false =>
      rw [if_neg Bool.false_ne_true] at h
      show D.nx σ' H1
      exact h σ' H1 F1 x1 I1
    | true =>
      rw [if_pos rfl] at h ⊢
      rw [Wp.bind] at h
      refine ⟨fun σ2 H2 => ∃ F2 e2, Ex F F2 ∧ I2 c z σ2 H2 F2 e2 ∧ Wp (loopW ft f m e2) (PoS c z F2 D) (XpS c z W F2), fun σ2 H2 q => ⟨m, Nat.lt_succ_self _, q⟩, ?_⟩
      refine hb z σ' H1 F1 e1 _ I1 (h.mono (fun o _ h => ?_) fun _ _ h => h.mono x1)
      cases o with
      | nx e4 => exact fun σ4 H4 F4 x4 I4 => ⟨F4, e4, (x'.trans x1).trans x4, I4, h.mono (fun _ _ h => h.mono (x1.trans x4)) fun _ _ h => h.mono (x1.trans x4)⟩
      | ct e4 => exact fun σ4 H4 F4 x4 I4 => ⟨F4, e4, (x'.trans x1).trans x4, I4, h.mono (fun _ _ h => h.mono (x1.trans x4)) fun _ _ h => h.mono (x1.trans x4)⟩
      | bk e4 => exact fun σ4 H4 F4 x4 I4 => h σ4 H4 F4 (x1.trans x4) I4
      | rt t e4 => exact fun v σ4 H4 F4 x4 I4 t4 => h v σ4 H4 F4 (x1.trans x4) I4 t4
theorem ds_while {t : Expr} (n : Nat) (hp : PassesOwn (model X.prog X.w) X.A X.env X.xe) (hc : DT X c W t tt ft) (hb : DSs X c W sts ts f) : DS X c W (.While t sts [] pos) (tWhile tt ts) (loopW ft f n) := ⟨ps_while hp hc.pt hb.ps, sn_while n hc.sn hb.sn⟩
end
end DL

/-! DL, part f: comprehensions, defs and their calls, fields, new instances. -/
namespace DL
open PySem L2 Evl

section
variable {c : Ct} {z : Zs} {σ σw : L2.St} {H H' F F' G : Hp} {e e' : DEnv}
/-! ### a frame's names lent -/
def lendB : Option B → Option B
  | some (.ow d) => some (.br d)
  | some (.ex _) => none
  | x => x
def lendE (e : DEnv) : DEnv := e.map lendB
def lendZ (σ : L2.St) (H F : Hp) (e : DEnv) : Zs := ⟨H, F, fun p => ∃ i, RootAt σ e i p, fun i => ((σ[i]?).bind id).getD .non⟩
theorem lend_get {i : Nat} {b : B} (h : (lendE e)[i]? = some (some b)) : (∃ d, b = .sh d ∧ e[i]? = some (some (.sh d))) ∨ ∃ d b0, b = .br d ∧ e[i]? = some (some b0) ∧ b0.isRoot = true ∧ b0.d = d := by
  unfold lendE at h
  rw [List.getElem?_map] at h
  obtain ⟨x, h1, h2⟩ := omap h
  cases x with
  | none => cases h2
  | some b0 =>
    cases b0 with
    | sh d => cases h2; exact .inl ⟨d, rfl, h1⟩
    | ow d => cases h2; exact .inr ⟨d, _, rfl, h1, rfl, rfl⟩
    | br d => cases h2; exact .inr ⟨d, _, rfl, h1, rfl, rfl⟩
    | ex x => cases h2
theorem I2.lend (I : I2 c z σ H F e) : I2 c (lendZ σ H F e) σ H F (lendE e) := by
  refine ⟨by unfold lendE; rw [List.length_map]; exact I.len, Ex.refl F, I.fh, fun p o h _ => h, fun i b h => ?_, fun i j p ⟨b, h1, h2, h3⟩ ⟨b', h1', h2', h3'⟩ => ?_, fun p ⟨i, h⟩ => ?_, fun p _ h => h, fun i d v h hv => ?_⟩
  · rcases lend_get h with ⟨d, rfl, h1⟩ | ⟨d, b0, rfl, h1, h2, rfl⟩
    · exact I.slot i _ h1
    · obtain ⟨p, hp, o, _⟩ := I.own h1 h2
      exact ⟨_, hp, p, rfl, o, ⟨i, b0, h1, h2, hp⟩⟩
  · rcases lend_get h1 with ⟨d, rfl, q⟩ | ⟨d, b0, rfl, q, q2, rfl⟩
    · cases h2
    · rcases lend_get h1' with ⟨d', rfl, q'⟩ | ⟨d', b0', rfl, q', q2', rfl⟩
      · cases h2'
      · exact I.dist i j p ⟨b0, q, q2, h3⟩ ⟨b0', q', q2', h3'⟩
  · obtain ⟨d, o⟩ := I.rootAt h
    exact o.at
  · show ((σ[i]?).bind id).getD .non = v
    rw [hv]
    rfl
def backB : Option B → Option B → Option B
  | some (.sh d), _ => some (.sh d)
  | some (.ex x), _ => some (.ex x)
  | some (.ow _), some (.br d) => some (.ow d)
  | some (.br _), some (.br d) => some (.br d)
  | _, _ => none
def backE : DEnv → DEnv → DEnv
  | [], _ => []
  | b :: e, e2 => backB b (e2.headD none) :: backE e e2.tail
theorem back_len : ∀ (e e2 : DEnv), (backE e e2).length = e.length
  | [], _ => rfl
  | _ :: e, e2 => by unfold backE; rw [List.length_cons, List.length_cons, back_len e]
theorem back_get : ∀ {e e2 : DEnv} {i : Nat} {b : B}, (backE e e2)[i]? = some (some b) → ∃ b0, e[i]? = some (some b0) ∧ ((b = b0 ∧ b0.isRoot = false) ∨ (b0.isRoot = true ∧ ∃ d, e2[i]? = some (some (.br d)) ∧ b = b0.re d))
  | [], _, _, _, h => by simp [backE] at h
  | x :: e, e2, 0, b, h => by
    unfold backE at h
    have h' : backB x (e2.headD none) = some b := by simpa using h
    have e0 : e2.headD none ≠ none → e2[0]? = some (e2.headD none) := by
      cases e2 with
      | nil => exact fun z => absurd rfl z
      | cons y r => exact fun _ => rfl
    cases x with
    | none => cases h'
    | some b0 =>
      refine ⟨b0, rfl, ?_⟩
      cases b0 with
      | sh d => cases h'; exact .inl ⟨rfl, rfl⟩
      | ex x => cases h'; exact .inl ⟨rfl, rfl⟩
      | ow d =>
        generalize hq : e2.headD none = q at h' e0
        cases q with
        | none => cases h'
        | some b1 =>
          cases b1 <;> try cases h'
          rename_i d1
          exact .inr ⟨rfl, d1, e0 (fun z => nomatch z), rfl⟩
      | br d =>
        generalize hq : e2.headD none = q at h' e0
        cases q with
        | none => cases h'
        | some b1 =>
          cases b1 <;> try cases h'
          rename_i d1
          exact .inr ⟨rfl, d1, e0 (fun z => nomatch z), rfl⟩
  | x :: e, e2, i + 1, b, h => by
    unfold backE at h
    obtain ⟨b0, h1, h2⟩ := back_get (e := e) (e2 := e2.tail) (i := i) (b := b) (by simpa using h)
    refine ⟨b0, by simpa using h1, ?_⟩
    rcases h2 with h2 | ⟨h2, d, h3, h4⟩
    · exact .inl h2
    · refine .inr ⟨h2, d, ?_, h4⟩
      cases e2 with
      | nil => simp at h3
      | cons y r => simpa using h3
theorem I2.back (I : I2 c z σ H F e) (J : I2 c (lendZ σ H F e) σw H' F' e') : I2 c z σ H' F' (backE e e') := by
  have kb : ∀ p, H p ≠ none → H' p ≠ none := fun p h => by
    by_cases hb : (lendZ σ H F e).Bo p
    · obtain ⟨o, ho⟩ := J.bo p hb
      rw [ho]; exact fun z => nomatch z
    · cases q : H p with
      | none => exact absurd q h
      | some o => rw [J.keep p o q hb]; exact fun z => nomatch z
  refine I.change (L := List.range e.length) (back_len e e') J.f0 J.fh (fun p o h1 h2 => J.keep p o h1 fun ⟨i, hi⟩ => h2 i (List.mem_range.mpr (get_lt hi.choose_spec.1)) hi) kb (fun p h1 h2 => J.nf p h1 h2) fun i b h => ?_
  obtain ⟨b0, h1, h2⟩ := back_get h
  refine ⟨b0, h1, ?_⟩
  rcases h2 with ⟨rfl, h2⟩ | ⟨h2, d, h3, rfl⟩
  · exact .inl ⟨rfl, fun z => by rw [h2] at z; cases z⟩
  · obtain ⟨v, hv, p, rfl, o, _⟩ := J.slot i _ h3
    have e1 := J.brv i d _ h3 hv
    obtain ⟨p0, hp0, _⟩ := I.own h1 h2
    have e2 : ((σ[i]?).bind id).getD .non = V.ref p := e1
    rw [hp0] at e2
    have e3 : V.ref p0 = V.ref p := e2
    cases e3
    exact .inr ⟨h2, d, _, rfl, hp0, o⟩

/-! ### comprehensions -/
def wipeE (e : DEnv) : List Nat → DEnv
  | [] => e
  | v :: vs => (wipeE e vs).set v none
theorem I2.wipe (I : I2 c z σ H F e) : ∀ vs : List Nat, I2 c z (L2.wipe σ vs) H F (wipeE e vs)
  | [] => I
  | v :: vs => (I2.wipe I vs).unbind
end

/-- no name owns a new object -/
def noOw (e : DEnv) : Bool := e.all fun b => match b with
  | some (.ow _) => false
  | _ => true
/-- the block's slots bear nothing that is owned -/
def clearAt (e : DEnv) (vs : List Nat) : Bool := vs.all fun i => match e[i]? with
  | some (some (.ow _)) => false
  | some (some (.br _)) => false
  | _ => true
def loopC (fg : D → DEnv → Option DEnv) (ft : FT) (fe : FE) (vs : List Nat) : List D → List D → DEnv → Option (List D × DEnv)
  | [], acc, e => some (acc, e)
  | d :: ds, acc, e => if noOw e then (fg d e).bind fun e1 => match ft e1 with
    | .ok (true, e2) => match fe e2 with
      | .ok (t, e3) => (escape t e3).bind fun q => if noOw q.2 && decide (acc.length < lim) then loopC fg ft fe vs ds (acc ++ [q.1]) (wipeE q.2 vs) else none
      | _ => none
    | .ok (false, e2) => if noOw e2 then loopC fg ft fe vs ds acc (wipeE e2 vs) else none
    | _ => none
    else none
def fLc (fi : FI) (fg : D → DEnv → Option DEnv) (ft : FT) (fe : FE) (vs : List Nat) : FE := fun e => (fi e).bind fun r => Res.of (if clearAt r.2 vs then (loopC fg ft fe vs r.1 [] (wipeE (lendE r.2) vs)).map fun q => (.nw (.lst q.1), backE r.2 q.2) else none)
/-- no wish of an exception -/
abbrev W0 : WX := fun _ _ _ _ => False

section
variable {X : Cx} {c : Ct} {z : Zs} {W : WX} {σ σ' : L2.St} {H H' F F' G : Hp} {e e' : DEnv} {wi : TI} {fi : FI} {g : TG} {fg : D → DEnv → Option DEnv} {tt : TT} {ft : FT} {te : TE} {fe : FE} {vs : List Nat}
theorem noOw_get {i : Nat} {d : D} (h : noOw e = true) (h1 : e[i]? = some (some (.ow d))) : False := by
  have := List.all_eq_true.mp h _ (List.mem_of_getElem? h1)
  cases this
theorem I2.rebase (I : I2 c z σ H F e) (no : noOw e = true) : I2 c ⟨H, F, z.Bo, z.V0⟩ σ H F e := by
  refine ⟨I.len, Ex.refl F, I.fh, fun p o h _ => h, fun i b h => ?_, I.dist, I.bo, fun p _ h => h, I.brv⟩
  obtain ⟨v, hv, r⟩ := I.slot i b h
  refine ⟨v, hv, ?_⟩
  cases b with
  | sh d => exact r
  | ow d => exact (noOw_get no h).elim
  | br d => exact r
  | ex x => exact r
theorem I2.h0 (I : I2 c z σ H F e) {p : Addr} (h : z.H0 p ≠ none) : H p ≠ none := by
  cases q : z.H0 p with
  | none => exact absurd q h
  | some o =>
    by_cases hB : z.Bo p
    · obtain ⟨u, k⟩ := I.bo p hB; rw [k]; exact fun z => nomatch z
    · rw [I.keep p o q hB]; exact fun z => nomatch z
theorem I2.unbase (I : I2 c z σ H F e) (J : I2 c ⟨H, F, z.Bo, z.V0⟩ σ' H' F' e') (no : noOw e' = true) : I2 c z σ' H' F' e' := by
  refine ⟨J.len, I.f0.trans J.f0, J.fh, fun p o h hb => J.keep p o (I.keep p o h hb) hb, fun i b h => ?_, J.dist, J.bo, fun p h1 h2 => J.nf p (I.h0 h1) (I.nf p h1 h2), J.brv⟩
  obtain ⟨v, hv, r⟩ := J.slot i b h
  refine ⟨v, hv, ?_⟩
  cases b with
  | sh d => exact r
  | ow d => exact (noOw_get no h).elim
  | br d => exact r
  | ex x => exact r
theorem I2.other {Da : Addr} {o : HO} (I : I2 c z σ H F e) (no : noOw e = true) (hF : F Da = none) (h0 : z.H0 Da = none) (hb : ¬ z.Bo Da) : I2 c z σ (upd H Da o) F e := by
  refine ⟨I.len, I.f0, fun a u h => ?_, fun p u h hb' => ?_, fun i b h => ?_, I.dist, fun p h => ?_, I.nf, I.brv⟩
  · by_cases ha : a = Da
    · subst ha; rw [hF] at h; cases h
    · rw [upd_ne ha]; exact I.fh _ _ h
  · by_cases ha : p = Da
    · subst ha; rw [h0] at h; cases h
    · rw [upd_ne ha]; exact I.keep p u h hb'
  · obtain ⟨v, hv, r⟩ := I.slot i b h
    refine ⟨v, hv, ?_⟩
    cases b with
    | sh d => exact r
    | ow d => exact (noOw_get no h).elim
    | ex x => exact r
    | br d =>
      obtain ⟨p, rfl, w, hB⟩ := r
      have ne : p ≠ Da := fun z => hb (z ▸ hB)
      exact ⟨p, rfl, w.mono (Ex.refl F) w.1 (fun u hu => by rw [upd_ne ne]; exact hu), hB⟩
  · obtain ⟨u, hu⟩ := I.bo p h
    have ne : p ≠ Da := fun z => hb (z ▸ h)
    exact ⟨u, by rw [upd_ne ne]; exact hu⟩
theorem wipe_key : ∀ (vs : List Nat) (σ τ : L2.St), σ.length = τ.length → (∀ j, j ∉ vs → σ[j]? = τ[j]?) → L2.wipe σ vs = L2.wipe τ vs := by
  intro vs
  induction vs with
  | nil =>
    intro σ τ hl h
    exact List.ext_getElem? fun j => h j (by simp)
  | cons v vs ih =>
    intro σ τ hl h
    unfold L2.wipe
    have e1 : L2.wipe (σ.set v none) vs = L2.wipe (τ.set v none) vs := ih _ _ (by rw [List.length_set, List.length_set]; exact hl) fun j hj => by
      by_cases ej : v = j
      · subst ej
        rw [List.getElem?_set, List.getElem?_set, hl]
        simp
      · rw [List.getElem?_set_ne ej, List.getElem?_set_ne ej]
        exact h j (by simp; exact ⟨fun z => ej z.symm, hj⟩)
    have com : ∀ (vs : List Nat) (σ : L2.St), (L2.wipe σ vs).set v none = L2.wipe (σ.set v none) vs := by
      intro vs
      induction vs with
      | nil => intro σ; rfl
      | cons w vs ih2 =>
        intro σ
        unfold L2.wipe
        rw [← ih2 σ]
        by_cases ew : v = w
        · subst ew; rfl
        · exact List.set_comm _ _ (fun z => ew z.symm)
    rw [com, com]
    exact e1
theorem wipe_set {i : Nat} {x : Option V} (hi : i ∈ vs) : L2.wipe (σ.set i x) vs = L2.wipe σ vs := wipe_key vs _ _ (by rw [List.length_set]) fun j hj => by
  have hne : i ≠ j := fun z => hj (z ▸ hi)
  rw [List.getElem?_set_ne hne]
theorem wipe_idem : L2.wipe (L2.wipe σ vs) vs = L2.wipe σ vs := wipe_key vs _ _ (wipe_length _ _) fun j hj => wipe_out hj
theorem sn_lc (hi : SndI c W wi fi) (hg : ∀ (z : Zs) σ H F e d v e' (Q : L2.St → Hp → Prop), I2 c z σ H F e → Rp c F d v → fg d e = some e' → (∀ σ', I2 c z σ' H F e' → L2.wipe σ' vs = L2.wipe σ vs → Q σ' H) → g v σ H Q)
    (ht : SndT c W0 tt ft) (he : SndE c W0 te fe) : SndE c W (tLc wi g tt te vs) (fLc fi fg ft fe vs) := fun z σ H F e Q I h => by
  unfold fLc at h
  rw [Wp.bind] at h
  refine hi z σ H F e _ I (h.mono (fun r _ h J H1 F1 x1 I1 it => ?_) fun _ _ h => h)
  obtain ⟨items, e1⟩ := r
  obtain ⟨o, ea, h⟩ := Wp.of h
  dsimp only at ea
  split at ea
  · rename_i hclear
    obtain ⟨⟨res, eo⟩, lc, rfl⟩ := omap ea
    intro Da hDa
    have hF1 : F1 Da = none := fresh_back I1.fh hDa
    have hBo : ¬ (lendZ σ H1 F1 e1).Bo Da := fun ⟨i, hi⟩ => I1.noroot hDa i hi
    have hH0 : (lendZ σ H1 F1 e1).H0 Da = none := hDa
    refine ⟨fun i m H2 => m = items.length - i ∧ i ≤ items.length ∧ ∃ F2 e2 acc vs2, Ex F1 F2 ∧ H2 Da = some (.lst vs2) ∧ F2 Da = none ∧ RpL c F2 acc vs2 ∧
      I2 c (lendZ σ H1 F1 e1) (L2.wipe σ vs) H2 F2 e2 ∧ loopC fg ft fe vs (items.drop i) acc e2 = some (res, eo),
      ⟨items.length, rfl, Nat.zero_le _, F1, wipeE (lendE e1) vs, [], [], Ex.refl F1, upd_same, hF1, rfl, (I1.lend.wipe vs).alloc (Ex.new hDa), lc⟩, ?_⟩
    rintro i m H2 ⟨rfl, hle, F2, e2, acc, vs2, x2, hacc, hFD, racc, J2, lc'⟩
    by_cases hlt : i < items.length
    · have hd : items[i]? = some items[i] := List.getElem?_eq_getElem hlt
      rw [List.drop_eq_getElem_cons hlt] at lc'
      unfold loopC at lc'
      split at lc'
      · rename_i hno
        obtain ⟨e3, l3, lc'⟩ := obind lc'
        have R2 := J2.rebase hno
        obtain ⟨it1, _⟩ := it ⟨H2, F2, (lendZ σ H1 F1 e1).Bo, (lendZ σ H1 F1 e1).V0⟩ i _ H2 F2 e2 x2 R2
        obtain ⟨go, yld⟩ := it1 _ hd
        refine .inr ⟨go, fun H' => i + 1 ≤ items.length ∧ ∃ F2 e2 acc vs2, Ex F1 F2 ∧ H' Da = some (.lst vs2) ∧ F2 Da = none ∧ RpL c F2 acc vs2 ∧
          I2 c (lendZ σ H1 F1 e1) (L2.wipe σ vs) H' F2 e2 ∧ loopC fg ft fe vs (items.drop (i + 1)) acc e2 = some (res, eo), fun H' q => ⟨items.length - (i + 1), by omega, rfl, q⟩, fun y H3 hy => ?_⟩
        obtain ⟨F3, x3, xh3, J3, r3⟩ := yld y H3 hy
        refine hg _ (L2.wipe σ vs) H3 F3 e2 _ y e3 _ J3 r3 l3 fun σ4 J4 w4 => ?_
        have w4' : L2.wipe σ4 vs = L2.wipe σ vs := w4.trans wipe_idem
        refine ⟨w4', ?_⟩
        -- what stands at Da through a state of this turn
        have stays : ∀ {σ5 H5 F5 e5}, I2 c ⟨H2, F2, (lendZ σ H1 F1 e1).Bo, (lendZ σ H1 F1 e1).V0⟩ σ5 H5 F5 e5 → H5 Da = some (.lst vs2) ∧ F5 Da = none := fun {σ5 H5 F5 e5} K => ⟨K.keep Da _ hacc hBo, K.nf Da (by show H2 Da ≠ none; rw [hacc]; exact fun z => nomatch z) hFD⟩
        cases hft : ft e3 with
        | stuck => rw [hft] at lc'; cases lc'
        | exc x e' => rw [hft] at lc'; cases lc'
        | ok r =>
          obtain ⟨b, e5⟩ := r
          rw [hft] at lc'
          refine ht _ σ4 H3 F3 e3 _ J4 ?_
          rw [hft]
          show ∀ H' F', Ex F3 F' → I2 c _ σ4 H' F' e5 → _
          intro H5 F5 x5 J5
          cases b with
          | false =>
            dsimp only at lc'
            split at lc'
            · rename_i hno5
              rw [if_neg Bool.false_ne_true]
              obtain ⟨k1, k2⟩ := stays J5
              have U := (J2.unbase J5 hno5).wipe vs
              rw [w4'] at U
              exact ⟨hlt, F5, _, acc, vs2, (x2.trans x3).trans x5, k1, k2, racc.mono (x3.trans x5) _ _, U, lc'⟩
            · cases lc'
          | true =>
            dsimp only at lc'
            rw [if_pos rfl]
            cases hfe : fe e5 with
            | stuck => rw [hfe] at lc'; cases lc'
            | exc x e' => rw [hfe] at lc'; cases lc'
            | ok r =>
              obtain ⟨t, e6⟩ := r
              rw [hfe] at lc'
              refine he _ σ4 H5 F5 e5 _ J5 ?_
              rw [hfe]
              show ∀ v H' F', Ex F5 F' → I2 c _ σ4 H' F' e6 → TR c _ F' H' σ4 e6 t v → _
              intro v H6 F6 x6 J6 t6
              obtain ⟨⟨d, e7⟩, l7, lc'⟩ := obind lc'
              dsimp only at lc'
              split at lc'
              · rename_i hk
                obtain ⟨hno7, hlen⟩ := Bool.and_eq_true_iff.mp hk
                have hlen := of_decide_eq_true hlen
                obtain ⟨F7, x7, J7, r7⟩ := t6.escape J6 l7
                obtain ⟨k1, k2⟩ := stays J7
                have U0 := (J2.unbase J7 hno7)
                have U := (U0.other (o := .lst (vs2 ++ [v])) hno7 k2 hH0 hBo).wipe vs
                rw [w4'] at U
                have xx : Ex F2 F7 := ((x3.trans x5).trans x6).trans x7
                exact ⟨vs2, k1, by rw [← racc.len]; exact lim_lt hlen, hlt, F7, _, acc ++ [d], vs2 ++ [v], x2.trans xx, upd_same, k2, (racc.mono xx _ _).app (RpL.one r7), U, lc'⟩
              · cases lc'
      · cases lc'
    · have e0 : i = items.length := by omega
      subst e0
      rw [List.drop_length] at lc'
      cases lc'
      obtain ⟨_, it2⟩ := it (lendZ σ H1 F1 e1) items.length _ H2 F2 _ x2 J2
      have B := I1.back J2
      refine .inl ⟨it2 (Nat.le_refl _), h _ H2 F2 (x1.trans x2) B ⟨Da, rfl, ⟨hFD, vs2, hacc, racc⟩, I1.fresh0 hDa, fun i ⟨b, h1, h2, h3⟩ => ?_⟩⟩
      obtain ⟨b0, h4, h5⟩ := back_get h1
      have hr : b0.isRoot = true := by
        rcases h5 with ⟨rfl, h5⟩ | ⟨h5, _⟩
        · rw [h5] at h2; cases h2
        · exact h5
      exact I1.noroot hDa i ⟨b0, h4, hr, h3⟩
  · cases ea

/-- a target within a comprehension: it sets only the block's own names -/
structure DGC (X : Cx) (c : Ct) (vs : List Nat) (tg : Expr) (g : TG) (fg : D → DEnv → Option DEnv) : Prop where
  pg : PG X tg g
  sn : ∀ (z : Zs) σ H F e d v e' (Q : L2.St → Hp → Prop), I2 c z σ H F e → Rp c F d v → fg d e = some e' → (∀ σ', I2 c z σ' H F e' → L2.wipe σ' vs = L2.wipe σ vs → Q σ' H) → g v σ H Q
theorem dgc_name {i : Nat} {x : Str} {pos : Pos} (hN : X.N.Nodup) (hi : X.N[i]? = some x) (hx : Loc X.env.scope x) (hv : i ∈ vs) (hf : X.fn x = true ∨ X.env.scope.names.lookup x = some .local := by first | exact .inl rfl | exact .inr rfl | assumption) :
    DGC X c vs (.Name x pos) (gName i) (fgName i) := by
  refine ⟨pg_name hN hi hx hf, fun z σ H F e d v e' Q I r l k => ?_⟩
  unfold fgName at l
  split at l
  · rename_i hl
    cases l
    exact k _ (I.store (by rw [← I.len]; exact hl) r) (wipe_set hv)
  · cases l
structure DGCs (X : Cx) (c : Ct) (vs : List Nat) (tgs : List Expr) (g : TGs) (fg : List D → DEnv → Option DEnv) : Prop where
  pg : PGs X tgs g
  sn : ∀ (z : Zs) σ H F e ds ws e' (Q : L2.St → Hp → Prop), I2 c z σ H F e → RpL c F ds ws → fg ds e = some e' → (∀ σ', I2 c z σ' H F e' → L2.wipe σ' vs = L2.wipe σ vs → Q σ' H) → g ws σ H Q
theorem dgcs_nil : DGCs X c vs [] gNil fgNil := ⟨pgs_nil, fun z σ H F e ds ws e' Q I r l k => by
  cases ds with
  | nil => cases l; cases r; exact ⟨rfl, k σ I rfl⟩
  | cons _ _ => cases l⟩
theorem dgcs_cons {a : Expr} {es : List Expr} {g1 : TG} {f1 : D → DEnv → Option DEnv} {gs : TGs} {fs : List D → DEnv → Option DEnv} (h1 : DGC X c vs a g1 f1) (h2 : DGCs X c vs es gs fs)
    (hs : (assignEach (a :: es) X.env).map (·.2) = assign a X.env :: (assignEach es X.env).map (·.2) := by rfl) : DGCs X c vs (a :: es) (gCons g1 gs) (fgCons f1 fs) := ⟨pgs_cons h1.pg h2.pg hs, fun z σ H F e ds ws e' Q I r l k => by
  cases ds with
  | nil => cases l
  | cons d ds =>
    obtain ⟨v, w, rfl, r1, r2⟩ := r
    obtain ⟨e1, l1, l2⟩ := obind l
    exact ⟨v, w, rfl, h1.sn z σ H F e d v e1 _ I r1 l1 fun σ1 I1 w1 => h2.sn z σ1 H F e1 ds w e' Q I1 r2 l2 fun σ2 I2 w2 => k σ2 I2 (w2.trans w1)⟩⟩
theorem dgc_tup {es : List Expr} {k n : Nat} {pos : Pos} {gs : TGs} {fs : List D → DEnv → Option DEnv} (hK : X.K = c.K := by rfl) (h : DGCs X c vs es gs fs) (hc : X.calm = true := by rfl)
    (hn : (assignEach es X.env).length = n := by rfl) (hst : (assignEach es X.env).findIdx? (·.1) = none := by rfl) : DGC X c vs (.Tuple es k pos) (gTup c.K n gs) (fgTup n fs) := by
  refine ⟨hK ▸ pg_tup hc h.pg hn hst, fun z σ H F e d v e' Q I r l q => ?_⟩
  cases d <;> try cases l
  rename_i ds
  unfold fgTup at l
  dsimp only at l
  split at l
  · rename_i hl
    obtain ⟨p, ws, rfl, h1, h2⟩ := r
    exact ⟨p, ws, rfl, ex_t I.fh h1, by rw [← h2.len]; exact hl, h.sn z σ H F e ds ws e' Q I h2 l q⟩
  · cases l
theorem dg_tup' {es : List Expr} {k n : Nat} {pos : Pos} {gs : TGs} {fs : List D → DEnv → Option DEnv} (hK : X.K = c.K := by rfl) (h : DGs X c es gs fs) (hc : X.calm = true := by rfl)
    (hn : (assignEach es X.env).length = n := by rfl) (hst : (assignEach es X.env).findIdx? (·.1) = none := by rfl) : DG X c (.Tuple es k pos) (gTup c.K n gs) (fgTup n fs) := dg_tup hK hc h (pg_tup hc h.pg hn hst)

/-- the tests of a comprehension -/
structure DTs (X : Cx) (c : Ct) (W : WX) (ifs : List Expr) (tt : TT) (f : FT) : Prop where
  pts : PTs X ifs tt
  sn : SndT c W tt f
def fYes : FT := fun e => .ok (true, e)
theorem dts_nil : DTs X c W [] tYes fYes := ⟨pts_nil, fun z σ H F e Q I h => h H F (Ex.refl F) I⟩
theorem dts_one {a : Expr} (h : DT X c W a tt ft) : DTs X c W [a] tt ft := ⟨pts_one h.pt, h.sn⟩
abbrev Blk (X : Cx) (scope : Scope) (s : Shared) (H : Hp) (C : Addr) (cl : List (Str × Addr)) (fp : List Addr) : Cx := X.blk s H scope (compEnvC scope cl C X.env) fp
theorem de_lc {elt tg iter : Expr} {ifs : List Expr} {scope : Scope} {own : List (Str × Nat)} {pos : Pos} (hc : X.calm = true) (hN : X.N.Nodup) (hi : DI X c W tg iter wi fi) (ok : BlkOk X.N X.env.scope scope own)
    (hg : ∀ s H C cl fp, DGC (Blk X scope s H C cl fp) c (own.map (·.2)) tg g fg) (ht : ∀ s H C cl fp, DTs (Blk X scope s H C cl fp) c W0 ifs tt ft) (he : ∀ s H C cl fp, DE (Blk X scope s H C cl fp) c W0 elt te fe)
    (hs : ∀ x, foldedSetIterable iter X.env x = pure x := by intro _; rfl) : DE X c W (.ListComp elt [⟨tg, iter, ifs, 0⟩] scope pos) (tLc wi g tt te (own.map (·.2))) (fLc fi fg ft fe (own.map (·.2))) :=
  ⟨pe_lc hc hN hi.pi ok (fun s H C cl fp => (hg s H C cl fp).pg) (fun s H C cl fp => (ht s H C cl fp).pts) (fun s H C cl fp => (he s H C cl fp).pe) hs,
    sn_lc hi.sn (hg {} (fun _ => none) 0 [] []).sn (ht {} (fun _ => none) 0 [] []).sn (he {} (fun _ => none) 0 [] []).sn⟩
theorem ds_setLc {i : Nat} {y : Str} {py : Pos} {elt tg iter : Expr} {ifs : List Expr} {scope : Scope} {own : List (Str × Nat)} {pos spos : Pos} (hc : X.calm = true) (hN : X.N.Nodup) (hy : X.N[i]? = some y) (hyl : X.env.scope.names.lookup y = some .local)
    (hsw : swapsWith (.ListComp elt [⟨tg, iter, ifs, 0⟩] scope pos) (some (.Name y py)) spos.line X.env = pure true) (hi : DI X c W tg iter wi fi) (ok : BlkOk X.N X.env.scope scope own)
    (hg : ∀ s H C cl fp, DGC (Blk X scope s H C cl fp) c (own.map (·.2)) tg g fg) (ht : ∀ s H C cl fp, DTs (Blk X scope s H C cl fp) c W0 ifs tt ft) (he : ∀ s H C cl fp, DE (Blk X scope s H C cl fp) c W0 elt te fe)
    (hs : ∀ x, foldedSetIterable iter X.env x = pure x := by intro _; rfl) : DS X c W (.Assign [.Name y py] (.ListComp elt [⟨tg, iter, ifs, 0⟩] scope pos) spos) (tAsg (tLc wi g tt te (own.map (·.2))) (gName i)) (fSet i (fLc fi fg ft fe (own.map (·.2)))) :=
  ⟨ps_setLc hc hN hy hyl hsw hi.pi ok (fun s H C cl fp => (hg s H C cl fp).pg) (fun s H C cl fp => (ht s H C cl fp).pts) (fun s H C cl fp => (he s H C cl fp).pe) hs,
    sn_set (sn_lc hi.sn (hg {} (fun _ => none) 0 [] []).sn (ht {} (fun _ => none) 0 [] []).sn (he {} (fun _ => none) 0 [] []).sn)⟩
end
end DL

/-! DL, part g: defs as functions on data, their calls. -/
namespace DL
open PySem L2 Evl

/-- what a def hands back: its value, whether it is a new object, its arguments behind it -/
abbrev FnR := D × Bool × List B
abbrev Fn := List B → Res FnR
def ArgR (c : Ct) (F H : Hp) : B → V → Prop
  | .sh d, v => Rp c F d v
  | .br d, v => ∃ p, v = .ref p ∧ Own c F H d p
  | .ow _, _ => False
  | .ex _, _ => False
structure AR (c : Ct) (F H : Hp) (bs : List B) (vs : List V) : Prop where
  len : bs.length = vs.length
  get : ∀ (i : Nat) (b : B), bs[i]? = some b → ∃ v, vs[i]? = some v ∧ ArgR c F H b v
  dist : ∀ (i j : Nat) (p : Addr) (d d' : D), bs[i]? = some (.br d) → bs[j]? = some (.br d') → vs[i]? = some (.ref p) → vs[j]? = some (.ref p) → i = j
def BrAt (bs : List B) (vs : List V) (p : Addr) : Prop := ∃ (i : Nat) (d : D), bs[i]? = some (B.br d) ∧ vs[i]? = some (V.ref p)
structure Kp (H F H' F' : Hp) (Bo : Addr → Prop) : Prop where
  keep : ∀ p o, H p = some o → ¬ Bo p → H' p = some o
  nf : ∀ p, H p ≠ none → F p = none → F' p = none
  th : ∀ p, H p ≠ none → H' p ≠ none
def DR (c : Ct) (H F' H' : Hp) (d : D) (fr : Bool) (v : V) : Prop := match fr with
  | true => ∃ p, v = .ref p ∧ Own c F' H' d p ∧ H p = none
  | false => Rp c F' d v
/-- a def that does m on data -/
def spD (c : Ct) (n : Nat) (m : Fn) : Sp := fun vs H Q E => vs.length = n ∧ ∃ F bs, Ex F H ∧ AR c F H bs vs ∧
  Wp (m bs) (fun r => ∀ v H' F', Ex F F' → Ex F' H' → Kp H F H' F' (BrAt bs vs) → AR c F' H' r.2.2 vs → DR c H F' H' r.1 r.2.1 v → Q v H')
    (fun x _ => ∀ cls dd H' F', Ex F F' → Ex F' H' → Kp H F H' F' (BrAt bs vs) → XR c F' x cls dd → E cls dd H')

/-! ### from the body -/
def env0 (N : Nat) (bs : List B) : DEnv := bs.map some ++ List.replicate (N - bs.length) none
def outB : List B → DEnv → Option (List B)
  | [], _ => some []
  | b :: bs, e => match b with
    | .br _ => match e.head? with
      | some (some (.br d)) => (outB bs e.tail).map fun q => .br d :: q
      | _ => none
    | b => (outB bs e.tail).map fun q => b :: q
def fnRet (bs : List B) (t : T) (e : DEnv) : Option FnR := (outB bs e).bind fun q => match t with
  | .vl d => some (d, false, q)
  | .nw d => some (d, true, q)
  | .sl i => match e[i]? with
    | some (some (.sh d)) => some (d, false, q)
    | some (some (.ow d)) => some (d, true, q)
    | _ => none
def fFn (N : Nat) (body : FS) : Fn := fun bs => (body (env0 N bs)).bind fun o => Res.of (match o with
  | .nx e => fnRet bs (.vl .non) e
  | .rt t e => fnRet bs t e
  | _ => none)
section
variable {c : Ct} {z : Zs} {σ : L2.St} {H H' F F' G : Hp} {e : DEnv}
theorem outB_get : ∀ {bs : List B} {e : DEnv} {qs : List B}, outB bs e = some qs → qs.length = bs.length ∧ ∀ (i : Nat) (b : B), qs[i]? = some b → (∃ d0 d, bs[i]? = some (B.br d0) ∧ b = B.br d ∧ e[i]? = some (some (B.br d))) ∨ (bs[i]? = some b ∧ ∀ d, b ≠ B.br d)
  | [], e, qs, h => by cases h; exact ⟨rfl, fun i b h => by simp at h⟩
  | b0 :: bs, e, qs, h => by
    have tl : ∀ {i : Nat} {x : Option B}, e.tail[i]? = some x → e[i + 1]? = some x := fun {i x} h => by
      cases e with
      | nil => simp at h
      | cons y r => simpa using h
    cases b0 with
    | br d0 =>
      unfold outB at h
      dsimp only at h
      split at h
      · rename_i d hd
        obtain ⟨q, l1, rfl⟩ := omap h
        obtain ⟨l2, k⟩ := outB_get l1
        refine ⟨by rw [List.length_cons, List.length_cons, l2], fun i b hb => ?_⟩
        cases i with
        | zero =>
          simp at hb; subst hb
          refine .inl ⟨d0, d, rfl, rfl, ?_⟩
          cases e with
          | nil => simp at hd
          | cons y r => simpa using hd
        | succ i =>
          rcases k i b (by simpa using hb) with ⟨d1, d2, h1, h2, h3⟩ | ⟨h1, h2⟩
          · exact .inl ⟨d1, d2, by simpa using h1, h2, tl h3⟩
          · exact .inr ⟨by simpa using h1, h2⟩
      · cases h
    | sh d0 =>
      unfold outB at h
      dsimp only at h
      obtain ⟨q, l1, rfl⟩ := omap h
      obtain ⟨l2, k⟩ := outB_get l1
      refine ⟨by rw [List.length_cons, List.length_cons, l2], fun i b hb => ?_⟩
      cases i with
      | zero => simp at hb; subst hb; exact .inr ⟨rfl, fun d z => nomatch z⟩
      | succ i =>
        rcases k i b (by simpa using hb) with ⟨d1, d2, h1, h2, h3⟩ | ⟨h1, h2⟩
        · exact .inl ⟨d1, d2, by simpa using h1, h2, tl h3⟩
        · exact .inr ⟨by simpa using h1, h2⟩
    | ow d0 =>
      unfold outB at h
      dsimp only at h
      obtain ⟨q, l1, rfl⟩ := omap h
      obtain ⟨l2, k⟩ := outB_get l1
      refine ⟨by rw [List.length_cons, List.length_cons, l2], fun i b hb => ?_⟩
      cases i with
      | zero => simp at hb; subst hb; exact .inr ⟨rfl, fun d z => nomatch z⟩
      | succ i =>
        rcases k i b (by simpa using hb) with ⟨d1, d2, h1, h2, h3⟩ | ⟨h1, h2⟩
        · exact .inl ⟨d1, d2, by simpa using h1, h2, tl h3⟩
        · exact .inr ⟨by simpa using h1, h2⟩
    | ex d0 =>
      unfold outB at h
      dsimp only at h
      obtain ⟨q, l1, rfl⟩ := omap h
      obtain ⟨l2, k⟩ := outB_get l1
      refine ⟨by rw [List.length_cons, List.length_cons, l2], fun i b hb => ?_⟩
      cases i with
      | zero => simp at hb; subst hb; exact .inr ⟨rfl, fun d z => nomatch z⟩
      | succ i =>
        rcases k i b (by simpa using hb) with ⟨d1, d2, h1, h2, h3⟩ | ⟨h1, h2⟩
        · exact .inl ⟨d1, d2, by simpa using h1, h2, tl h3⟩
        · exact .inr ⟨by simpa using h1, h2⟩
def zOf (H F : Hp) (bs : List B) (vs : List V) : Zs := ⟨H, F, BrAt bs vs, fun i => (vs[i]?).getD .non⟩
theorem env0_get {N i : Nat} {bs : List B} {b : B} (h : (env0 N bs)[i]? = some (some b)) : bs[i]? = some b := by
  unfold env0 at h
  by_cases hi : i < bs.length
  · rw [List.getElem?_append_left (by simpa using hi), List.getElem?_map] at h
    obtain ⟨x, h1, h2⟩ := omap h
    cases h2
    exact h1
  · rw [List.getElem?_append_right (by simpa using hi)] at h
    rw [List.getElem?_replicate] at h
    split at h <;> cases h
theorem start_get {N : List Str} {vs : List V} {i : Nat} {v : V} (h : vs[i]? = some v) : (start N vs)[i]? = some (some v) := by
  unfold L2.start
  rw [List.getElem?_append_left (by simpa using get_lt h), List.getElem?_map, h]
  rfl
theorem start_get' {N : List Str} {vs : List V} {i : Nat} {v : V} (h : (start N vs)[i]? = some (some v)) : vs[i]? = some v := by
  unfold L2.start at h
  by_cases hi : i < vs.length
  · rw [List.getElem?_append_left (by simpa using hi), List.getElem?_map] at h
    obtain ⟨x, h1, h2⟩ := omap h
    cases h2
    exact h1
  · rw [List.getElem?_append_right (by simpa using hi)] at h
    rw [List.getElem?_replicate] at h
    split at h <;> cases h
theorem AR.start {N : List Str} {bs : List B} {vs : List V} (A : AR c F H bs vs) (x : Ex F H) : I2 c (zOf H F bs vs) (start N vs) H F (env0 N.length bs) := by
  refine ⟨?_, Ex.refl F, x, fun p o h _ => h, fun i b h => ?_, fun i j p ⟨b, h1, h2, h3⟩ ⟨b', h1', h2', h3'⟩ => ?_, fun p ⟨i, d, h1, h2⟩ => ?_, fun p _ h => h, fun i d v h hv => ?_⟩
  · unfold env0 L2.start
    simp [A.len]
  · have h1 := env0_get h
    obtain ⟨v, h2, r⟩ := A.get i b h1
    refine ⟨v, start_get h2, ?_⟩
    cases b with
    | sh d => exact r
    | ow d => exact r.elim
    | ex x => exact r.elim
    | br d => obtain ⟨p, rfl, o⟩ := r; exact ⟨p, rfl, o, i, d, h1, h2⟩
  · have g1 := env0_get h1
    have g2 := env0_get h1'
    have k1 := start_get' h3
    have k2 := start_get' h3'
    obtain ⟨v, _, r⟩ := A.get i b g1
    obtain ⟨v', _, r'⟩ := A.get j b' g2
    cases b with
    | sh d => cases h2
    | ow d => exact r.elim
    | ex x => cases h2
    | br d =>
      cases b' with
      | sh d => cases h2'
      | ow d => exact r'.elim
      | ex x => cases h2'
      | br d' => exact A.dist i j p d d' g1 g2 k1 k2
  · obtain ⟨v, h3, r⟩ := A.get i _ h1
    rw [h2] at h3; cases h3
    obtain ⟨q, e, o⟩ := r
    cases e
    exact o.at
  · have k1 := start_get' hv
    show (vs[i]?).getD .non = v
    rw [k1]; rfl
theorem I2.kp {bs : List B} {vs : List V} (J : I2 c (zOf H F bs vs) σ H' F' e) : Kp H F H' F' (BrAt bs vs) := ⟨fun p o h hb => J.keep p o h hb, fun p h1 h2 => J.nf p h1 h2, fun p h => J.h0 h⟩
theorem I2.outs {bs qs : List B} {vs : List V} (A : AR c F H bs vs) (J : I2 c (zOf H F bs vs) σ H' F' e) (h : outB bs e = some qs) : AR c F' H' qs vs := by
  obtain ⟨l, k⟩ := outB_get h
  refine ⟨l.trans A.len, fun i b hb => ?_, fun i j p d d' h1 h2 h3 h4 => ?_⟩
  · rcases k i b hb with ⟨d0, d, h1, rfl, h3⟩ | ⟨h1, h2⟩
    · obtain ⟨v, hv, r⟩ := J.slot i _ h3
      obtain ⟨p, rfl, o, _⟩ := r
      obtain ⟨v0, hv0, _⟩ := A.get i _ h1
      have e1 := J.brv i d _ h3 hv
      have e2 : (vs[i]?).getD .non = V.ref p := e1
      rw [hv0] at e2
      have e3 : v0 = V.ref p := e2
      subst e3
      exact ⟨_, hv0, p, rfl, o⟩
    · obtain ⟨v, hv, r⟩ := A.get i b h1
      refine ⟨v, hv, ?_⟩
      cases b with
      | sh d => exact Rp.mono J.f0 d v r
      | ow d => exact r.elim
      | ex x => exact r.elim
      | br d => exact (h2 d rfl).elim
  · rcases k i _ h1 with ⟨d0, _, g1, _, _⟩ | ⟨_, g⟩
    · rcases k j _ h2 with ⟨d1, _, g2, _, _⟩ | ⟨_, g⟩
      · exact A.dist i j p d0 d1 g1 g2 h3 h4
      · exact (g _ rfl).elim
    · exact (g _ rfl).elim
theorem I2.ret {bs : List B} {vs : List V} {t : T} {v : V} {r : FnR} (A : AR c F H bs vs) (J : I2 c (zOf H F bs vs) σ H' F' e) (ht : TR c (zOf H F bs vs) F' H' σ e t v) (h : fnRet bs t e = some r) :
    AR c F' H' r.2.2 vs ∧ DR c H F' H' r.1 r.2.1 v := by
  unfold fnRet at h
  obtain ⟨q, l1, h⟩ := obind h
  have a := J.outs A l1
  cases t with
  | vl d => cases h; exact ⟨a, ht⟩
  | nw d => cases h; obtain ⟨p, rfl, w, h0, _⟩ := ht; exact ⟨a, p, rfl, w, h0⟩
  | sl i =>
    have ht' : σ[i]? = some (some v) := ht
    dsimp only at h
    split at h
    · rename_i d hb
      obtain ⟨w, hw, k⟩ := J.slot i _ hb
      rw [ht'] at hw; cases hw; cases h
      exact ⟨a, k⟩
    · rename_i d hb
      obtain ⟨w, hw, p, rfl, o, h0⟩ := J.slot i _ hb
      rw [ht'] at hw; cases hw; cases h
      exact ⟨a, p, rfl, o, h0⟩
    · cases h
end
section
variable {P : Program} {w : World} {K : PySem.W.Frag} {mg : Str → Option Value} {base : Heap} {c : Ct}
/-- THE RULE of a def -/
theorem fn_ok {x qual : Str} {st : Stmt} {f : Addr} {fd : FuncData} {N ps : List Str} {k : Nat} {m : Fn} {body : FS} (F : Fun K x qual st f fd) (S : FnScope N ps (defScope st)) (hm : ∀ bs, bs.length = ps.length → fFn N.length body bs = m bs)
    (hb : ∀ (cdv : Value) (A : Around) (outer : List Env) (s : Shared) (H : Hp) (E : XK), Room k (A.deeper (PyProof.Rows.envOfC qual (defScope st) s.heap.objs.size f cdv)) →
      ∃ t, DSs (cxOf (CX P w) P w K mg base N qual (defScope st) f cdv A outer s H E) c (fun cls d _ H => E cls d H) (defBody st) t body) : FnOk P w K mg base (CX P w) (k + 1) f fd ps (spD c ps.length m) := by
  refine F.okX S (fun vs H Q E h => h.1) fun cdv A outer s H vs Q E hr h => ?_
  obtain ⟨t, dd⟩ := hb cdv A outer s H E hr
  refine ⟨t, dd.ps, ?_⟩
  obtain ⟨hl, FF, bs, x, a, h⟩ := h
  rw [← hm bs (a.len.trans hl)] at h
  unfold fFn at h
  rw [Wp.bind] at h
  refine dd.sn (zOf H FF bs vs) (start N vs) H FF _ _ (a.start x) (h.mono (fun o _ h => ?_) fun x e h σ' cls d H' F' x' J r => h cls d H' F' x' J.fh J.kp r)
  cases o with
  | nx e =>
    intro σ' H' F' x' J
    obtain ⟨r, l, h⟩ := Wp.of h
    obtain ⟨h1, h2⟩ := J.ret a (t := .vl .non) (v := .non) rfl l
    exact h .non H' F' x' J.fh J.kp h1 h2
  | rt t e =>
    intro v σ' H' F' x' J ht
    obtain ⟨r, l, h⟩ := Wp.of h
    obtain ⟨h1, h2⟩ := J.ret a ht l
    exact h v H' F' x' J.fh J.kp h1 h2
  | bk e => exact h.elim
  | ct e => exact h.elim
end
end DL

/-! DL, part h: calls. -/
namespace DL
open PySem L2 Evl

/-- arguments that are not lent are shared from here on -/
def escN : List Bool → List T → DEnv → Option (List T × DEnv)
  | _, [], e => some ([], e)
  | ms, t :: ts, e => match ms.headD false with
    | true => (escN ms.tail ts e).map fun q => (t :: q.1, q.2)
    | false => (escape t e).bind fun r => (escN ms.tail ts r.2).map fun q => (.vl r.1 :: q.1, q.2)
def argB (t : T) (e : DEnv) : Option B := match t with
  | .vl d => some (.sh d)
  | .nw _ => none
  | .sl i => match e[i]? with
    | some (some (.sh d)) => some (.sh d)
    | some (some (.ow d)) => some (.br d)
    | some (some (.br d)) => some (.br d)
    | _ => none
def argBs : List T → DEnv → Option (List B)
  | [], _ => some []
  | t :: ts, e => (argB t e).bind fun b => (argBs ts e).map fun bs => b :: bs
def isSl (i : Nat) : T → Bool
  | .sl j => i == j
  | _ => false
def nodupT : List T → Bool
  | [] => true
  | t :: ts => (match t with
    | .sl i => !ts.any (isSl i)
    | _ => true) && nodupT ts
/-- the lent names and what they hold behind the call -/
def upds : List T → List B → List (Nat × D)
  | [], _ => []
  | _, [] => []
  | t :: ts, b :: bs => match t, b with
    | .sl j, .br d => (j, d) :: upds ts bs
    | _, _ => upds ts bs
def isBr : B → Bool
  | .br _ => true
  | _ => false
def sameB (bs qs : List B) : Bool := bs.map isBr == qs.map isBr
def putAll (l : List (Nat × D)) : Nat → DEnv → DEnv
  | _, [] => []
  | k, x :: r => (match l.lookup k with
    | some d => x.map fun b => b.re d
    | none => x) :: putAll l (k + 1) r
def dropAll (l : List (Nat × D)) : Nat → DEnv → DEnv
  | _, [] => []
  | k, x :: r => (match l.lookup k with
    | some _ => none
    | none => x) :: dropAll l (k + 1) r
def callM (dds : List D) (m : Fn) (ts : List T) (e : DEnv) : Res (T × DEnv) :=
  (Res.of (argBs ts e)).bind fun bs => if nodupT ts then (match m (bs ++ dds.map .sh) with
    | .stuck => .stuck
    | .ok r => if sameB (bs ++ dds.map .sh) r.2.2 then .ok (if r.2.1 then .nw r.1 else .vl r.1, putAll (upds ts r.2.2) 0 e) else .stuck
    | .exc x _ => .exc x (dropAll (upds ts bs) 0 e)) else .stuck
def fCall (ms : List Bool) (dds : List D) (m : Fn) (fa : FA) : FE := fun e => (fa e).bind fun r => (Res.of (escN ms r.1 r.2)).bind fun q => callM dds m q.1 q.2

section
variable {c : Ct} {z : Zs} {W : WX} {σ : L2.St} {H H' F F' G : Hp} {e : DEnv} {ta : TA} {fa : FA}
theorem TRs.escN : ∀ {ts ts' : List T} {ms : List Bool} {vs : List V} {F : Hp} {e e' : DEnv}, I2 c z σ H F e → TRs c z F H σ e ts vs → DL.escN ms ts e = some (ts', e') → ∃ G, Ex F G ∧ I2 c z σ H G e' ∧ TRs c z G H σ e' ts' vs
  | [], ts', ms, vs, F, e, e', I, h, l => by
    unfold DL.escN at l
    cases l
    exact ⟨F, Ex.refl F, I, h⟩
  | t :: ts, ts', ms, vs, F, e, e', I, h, l => by
    obtain ⟨v, r, rfl, h1, h2, h3⟩ := h
    unfold DL.escN at l
    split at l
    · obtain ⟨⟨q, e2⟩, l1, eq1⟩ := omap l
      cases eq1
      obtain ⟨G, x, J, k⟩ := TRs.escN I h3 l1
      refine ⟨G, x, J, v, r, rfl, h1, ?_, k⟩
      rw [← h1] at h2 ⊢
      exact h2.keep x
    · obtain ⟨⟨d, e1⟩, l1, l⟩ := obind l
      obtain ⟨⟨q, e2⟩, l2, eq2⟩ := omap l
      cases eq2
      obtain ⟨G, x, J, rr⟩ := h2.escape I l1
      obtain ⟨G2, x2, J2, k⟩ := TRs.escN J (h3.keep x) l2
      exact ⟨G2, x.trans x2, J2, v, r, rfl, rfl, rr.mono x2 d v, k⟩
theorem argBs_get : ∀ {ts : List T} {bs : List B}, argBs ts e = some bs → ts.length = bs.length ∧ ∀ (i : Nat) (b : B), bs[i]? = some b → ∃ t, ts[i]? = some t ∧ argB t e = some b
  | [], bs, h => by cases h; exact ⟨rfl, fun i b h => by simp at h⟩
  | t :: ts, bs, h => by
    obtain ⟨b, l1, h⟩ := obind h
    obtain ⟨r, l2, rfl⟩ := omap h
    obtain ⟨l, k⟩ := argBs_get l2
    refine ⟨by simp [l], fun i b' hb => ?_⟩
    cases i with
    | zero => simp at hb; subst hb; exact ⟨t, rfl, l1⟩
    | succ i =>
      obtain ⟨t', h1, h2⟩ := k i b' (by simpa using hb)
      exact ⟨t', by simpa using h1, h2⟩
theorem TRs.get : ∀ {ts : List T} {vs : List V} {i : Nat} {t : T}, TRs c z F H σ e ts vs → ts[i]? = some t → ∃ v, vs[i]? = some v ∧ TR c z F H σ e t v
  | [], vs, i, t, h, g => by simp at g
  | t0 :: ts, vs, i, t, ⟨v, r, h1, h2, h3, h4⟩, g => by
    subst h1
    cases i with
    | zero => simp at g; subst g; exact ⟨v, rfl, h3⟩
    | succ i =>
      obtain ⟨w, h5, h6⟩ := TRs.get (i := i) h4 (by simpa using g)
      exact ⟨w, by simpa using h5, h6⟩
theorem nodupT_ix : ∀ {ts : List T} {i j s : Nat}, nodupT ts = true → ts[i]? = some (.sl s) → ts[j]? = some (.sl s) → i = j
  | [], i, j, s, h, g, _ => by simp at g
  | t :: ts, i, j, s, h, g1, g2 => by
    unfold nodupT at h
    obtain ⟨h1, h2⟩ := Bool.and_eq_true_iff.mp h
    have no : ∀ {k : Nat}, t = .sl s → ts[k]? = some (.sl s) → False := fun {k} e hk => by
      subst e
      have : ts.any (isSl s) = true := List.any_eq_true.mpr ⟨_, List.mem_of_getElem? hk, by simp [isSl]⟩
      have h1' : (!ts.any (isSl s)) = true := h1
      rw [this] at h1'; cases h1'
    cases i with
    | zero =>
      cases j with
      | zero => rfl
      | succ j => simp at g1 g2; exact (no g1 g2).elim
    | succ i =>
      cases j with
      | zero => simp at g1 g2; exact (no g2 g1).elim
      | succ j => exact congrArg (· + 1) (nodupT_ix (ts := ts) (i := i) (j := j) (s := s) h2 (by simpa using g1) (by simpa using g2))
/-- a lent argument: its token is a name's, which owns it -/
theorem argB_br {t : T} {d : D} (h : argB t e = some (.br d)) : ∃ j b, t = .sl j ∧ e[j]? = some (some b) ∧ b.isRoot = true ∧ b.d = d := by
  cases t with
  | vl d => cases h
  | nw d => cases h
  | sl j =>
    unfold argB at h
    dsimp only at h
    split at h <;> cases h
    · rename_i hb; exact ⟨j, _, rfl, hb, rfl, rfl⟩
    · rename_i hb; exact ⟨j, _, rfl, hb, rfl, rfl⟩
theorem argB_sh {t : T} {d : D} (h : argB t e = some (.sh d)) : t = .vl d ∨ ∃ j, t = .sl j ∧ e[j]? = some (some (.sh d)) := by
  cases t with
  | vl d => cases h; exact .inl rfl
  | nw d => cases h
  | sl j =>
    unfold argB at h
    dsimp only at h
    split at h <;> cases h
    rename_i hb; exact .inr ⟨j, rfl, hb⟩
theorem argB_ow {t : T} {d : D} (h : argB t e = some (.ow d)) : False := by
  cases t with
  | vl d => cases h
  | nw d => cases h
  | sl j =>
    unfold argB at h
    dsimp only at h
    split at h <;> cases h
theorem argB_ex {t : T} {x : XV} {e : DEnv} (h : argB t e = some (.ex x)) : False := by
  cases t with
  | vl d => cases h
  | nw d => cases h
  | sl j =>
    unfold argB at h
    dsimp only at h
    split at h <;> cases h
theorem args_ar {ts : List T} {bs : List B} {vs dvs : List V} {dds : List D} (I : I2 c z σ H F e) (h : TRs c z F H σ e ts vs) (l : argBs ts e = some bs) (nd : nodupT ts = true) (hd : RpL c F dds dvs) : AR c F H (bs ++ dds.map .sh) (vs ++ dvs) := by
  obtain ⟨ll, k⟩ := argBs_get l
  have lv : bs.length = vs.length := ll.symm.trans h.len
  have brs : ∀ {i : Nat} {d : D}, (bs ++ dds.map .sh)[i]? = some (.br d) → bs[i]? = some (.br d) := fun {i d} g => by
    by_cases hi : i < bs.length
    · rwa [List.getElem?_append_left hi] at g
    · rw [List.getElem?_append_right (by omega), List.getElem?_map] at g
      obtain ⟨x, _, q⟩ := omap g
      cases q
  refine ⟨by simp [lv, hd.len], fun i b g => ?_, fun i j p d d' g1 g2 g3 g4 => ?_⟩
  · by_cases hi : i < bs.length
    · rw [List.getElem?_append_left hi] at g
      obtain ⟨t, h1, h2⟩ := k i b g
      obtain ⟨v, h3, h4⟩ := h.get h1
      refine ⟨v, by rw [List.getElem?_append_left (by omega)]; exact h3, ?_⟩
      cases b with
      | sh d =>
        rcases argB_sh h2 with rfl | ⟨j, rfl, h5⟩
        · exact h4
        · obtain ⟨w, h6, r⟩ := I.slot j _ h5
          have h4' : σ[j]? = some (some v) := h4
          rw [h4'] at h6; cases h6
          exact r
      | ow d => exact (argB_ow h2).elim
      | ex x => exact (argB_ex h2).elim
      | br d =>
        obtain ⟨j, b0, rfl, h5, h6, rfl⟩ := argB_br h2
        obtain ⟨p, h7, o, _⟩ := I.own h5 h6
        have h4' : σ[j]? = some (some v) := h4
        rw [h4'] at h7; cases h7
        exact ⟨p, rfl, o⟩
    · rw [List.getElem?_append_right (by omega), List.getElem?_map] at g
      obtain ⟨d, h1, rfl⟩ := omap g
      obtain ⟨v, h2, r⟩ := hd.get h1
      exact ⟨v, by rw [List.getElem?_append_right (by omega), ← lv]; exact h2, r⟩
  · have k1 := brs g1
    have k2 := brs g2
    obtain ⟨t1, h1, h2⟩ := k i _ k1
    obtain ⟨t2, h3, h4⟩ := k j _ k2
    obtain ⟨s1, b1, rfl, h5, h6, _⟩ := argB_br h2
    obtain ⟨s2, b2, rfl, h7, h8, _⟩ := argB_br h4
    obtain ⟨v1, q1, r1⟩ := h.get h1
    obtain ⟨v2, q2, r2⟩ := h.get h3
    rw [List.getElem?_append_left (by have := get_lt q1; omega), q1] at g3
    rw [List.getElem?_append_left (by have := get_lt q2; omega), q2] at g4
    cases g3; cases g4
    have e12 := I.dist s1 s2 p ⟨b1, h5, h6, r1⟩ ⟨b2, h7, h8, r2⟩
    subst e12
    exact nodupT_ix nd h1 h3
theorem upds_mem : ∀ {ts : List T} {qs : List B} {j : Nat} {d : D}, (j, d) ∈ upds ts qs → ∃ (i : Nat), ts[i]? = some (T.sl j) ∧ qs[i]? = some (B.br d)
  | [], _, _, _, h => by simp [upds] at h
  | _ :: _, [], _, _, h => by simp [upds] at h
  | t :: ts, b :: qs, j, d, h => by
    unfold upds at h
    split at h
    · rcases List.mem_cons.mp h with h | h
      · cases h; exact ⟨0, rfl, rfl⟩
      · obtain ⟨i, h1, h2⟩ := upds_mem h
        exact ⟨i + 1, by simpa using h1, by simpa using h2⟩
    · obtain ⟨i, h1, h2⟩ := upds_mem h
      exact ⟨i + 1, by simpa using h1, by simpa using h2⟩
theorem mem_upds : ∀ {ts : List T} {qs : List B} {i j : Nat} {d : D}, ts[i]? = some (T.sl j) → qs[i]? = some (B.br d) → (j, d) ∈ upds ts qs
  | [], _, _, _, _, h, _ => by simp at h
  | _ :: _, [], _, _, _, _, h => by simp at h
  | t :: ts, b :: qs, 0, j, d, h, h' => by
    simp at h h'
    subst h; subst h'
    unfold upds
    exact List.mem_cons_self
  | t :: ts, b :: qs, i + 1, j, d, h, h' => by
    have r := mem_upds (ts := ts) (qs := qs) (i := i) (j := j) (d := d) (by simpa using h) (by simpa using h')
    unfold upds
    split
    · exact List.mem_cons_of_mem _ r
    · exact r
theorem lookup_mem' : ∀ {l : List (Nat × D)} {k : Nat} {d : D}, l.lookup k = some d → (k, d) ∈ l
  | [], _, _, h => by cases h
  | (a, x) :: l, k, d, h => by
    rw [List.lookup_cons] at h
    cases q : k == a with
    | true => rw [q] at h; cases h; rw [beq_iff_eq.mp q]; exact List.mem_cons_self
    | false => rw [q] at h; exact List.mem_cons_of_mem _ (lookup_mem' h)
theorem lookup_none' : ∀ {l : List (Nat × D)} {k : Nat}, l.lookup k = none → ∀ d, (k, d) ∉ l
  | [], _, _, _ => by simp
  | (a, x) :: l, k, h, d => by
    rw [List.lookup_cons] at h
    cases q : k == a with
    | true => rw [q] at h; cases h
    | false =>
      rw [q] at h
      intro hm
      rcases List.mem_cons.mp hm with hm | hm
      · cases hm; simp at q
      · exact lookup_none' h d hm
theorem putAll_len (l : List (Nat × D)) : ∀ (k : Nat) (e : DEnv), (putAll l k e).length = e.length
  | _, [] => rfl
  | k, x :: r => by unfold putAll; rw [List.length_cons, List.length_cons, putAll_len l (k + 1) r]
theorem putAll_get (l : List (Nat × D)) : ∀ (k : Nat) (e : DEnv) (j : Nat), (putAll l k e)[j]? = (e[j]?).map fun x => match l.lookup (k + j) with
    | some d => x.map fun b => b.re d
    | none => x
  | _, [], j => by simp [putAll]
  | k, x :: r, 0 => by simp [putAll]
  | k, x :: r, j + 1 => by
    unfold putAll
    rw [List.getElem?_cons_succ, List.getElem?_cons_succ, putAll_get l (k + 1) r j, show k + 1 + j = k + (j + 1) by omega]
theorem dropAll_len (l : List (Nat × D)) : ∀ (k : Nat) (e : DEnv), (dropAll l k e).length = e.length
  | _, [] => rfl
  | k, x :: r => by unfold dropAll; rw [List.length_cons, List.length_cons, dropAll_len l (k + 1) r]
theorem dropAll_get (l : List (Nat × D)) : ∀ (k : Nat) (e : DEnv) (j : Nat), (dropAll l k e)[j]? = (e[j]?).map fun x => match l.lookup (k + j) with
    | some d => none
    | none => x
  | _, [], j => by simp [dropAll]
  | k, x :: r, 0 => by simp [dropAll]
  | k, x :: r, j + 1 => by
    unfold dropAll
    rw [List.getElem?_cons_succ, List.getElem?_cons_succ, dropAll_get l (k + 1) r j, show k + 1 + j = k + (j + 1) by omega]
theorem sameB_get {bs qs : List B} (h : sameB bs qs = true) {i : Nat} {d : D} (g : bs[i]? = some (.br d)) : ∃ d', qs[i]? = some (.br d') := by
  have e : bs.map isBr = qs.map isBr := eq_of_beq h
  have h1 : (bs.map isBr)[i]? = some true := by rw [List.getElem?_map, g]; rfl
  rw [e, List.getElem?_map] at h1
  obtain ⟨b, h2, h3⟩ := omap h1
  cases b <;> cases h3
  exact ⟨_, h2⟩
theorem sameB_get' {bs qs : List B} (h : sameB bs qs = true) {i : Nat} {d : D} (g : qs[i]? = some (.br d)) : ∃ d', bs[i]? = some (.br d') := by
  have e : bs.map isBr = qs.map isBr := eq_of_beq h
  have h1 : (qs.map isBr)[i]? = some true := by rw [List.getElem?_map, g]; rfl
  rw [← e, List.getElem?_map] at h1
  obtain ⟨b, h2, h3⟩ := omap h1
  cases b <;> cases h3
  exact ⟨_, h2⟩
/-- the caller's frame behind the call -/
theorem I2.called {ts : List T} {bs qs : List B} {vs dvs : List V} {dds : List D} (I : I2 c z σ H F e) (h : TRs c z F H σ e ts vs) (l : argBs ts e = some bs) (nd : nodupT ts = true)
    (x : Ex F F') (y : Ex F' H') (kp : Kp H F H' F' (BrAt (bs ++ dds.map .sh) (vs ++ dvs))) (a : AR c F' H' qs (vs ++ dvs)) (sm : sameB (bs ++ dds.map .sh) qs = true) : I2 c z σ H' F' (putAll (upds ts qs) 0 e) := by
  obtain ⟨ll, k⟩ := argBs_get l
  have lv : bs.length = vs.length := ll.symm.trans h.len
  have brs : ∀ {i : Nat} {d : D}, (bs ++ dds.map .sh)[i]? = some (.br d) → bs[i]? = some (.br d) := fun {i d} g => by
    by_cases hi : i < bs.length
    · rwa [List.getElem?_append_left hi] at g
    · rw [List.getElem?_append_right (by omega), List.getElem?_map] at g
      obtain ⟨x, _, q⟩ := omap g
      cases q
  -- a lent place: its token and the name that owns it
  have lent : ∀ {i : Nat} {d : D}, bs[i]? = some (.br d) → ∃ j b0 p, ts[i]? = some (.sl j) ∧ e[j]? = some (some b0) ∧ b0.isRoot = true ∧ vs[i]? = some (.ref p) ∧ σ[j]? = some (some (.ref p)) := fun {i d} g => by
    obtain ⟨t, h1, h2⟩ := k i _ g
    obtain ⟨j, b0, rfl, h5, h6, _⟩ := argB_br h2
    obtain ⟨v, q1, r1⟩ := h.get h1
    obtain ⟨p, h7, _⟩ := I.own h5 h6
    have r1' : σ[j]? = some (some v) := r1
    rw [r1'] at h7; cases h7
    exact ⟨j, b0, p, h1, h5, h6, q1, r1⟩
  refine I.change (L := (upds ts qs).map (·.1)) (putAll_len _ _ _) x y (fun p o h1 h2 => kp.keep p o h1 fun ⟨i, d, g1, g2⟩ => ?_) kp.th kp.nf fun j b hb => ?_
  · obtain ⟨j, b0, p', t1, t2, t3, t4, t5⟩ := lent (brs g1)
    rw [List.getElem?_append_left (by have := get_lt t4; omega), t4] at g2
    cases g2
    obtain ⟨d', g3⟩ := sameB_get sm g1
    exact h2 j (List.mem_map.mpr ⟨(j, d'), mem_upds t1 g3, rfl⟩) ⟨b0, t2, t3, t5⟩
  · rw [putAll_get] at hb
    obtain ⟨xo, h1, h2⟩ := omap hb
    rw [Nat.zero_add] at h2
    cases hl : (upds ts qs).lookup j with
    | none =>
      rw [hl] at h2
      have h2' : xo = some b := h2
      subst h2'
      exact ⟨b, h1, .inl ⟨rfl, fun _ hm => by
        obtain ⟨⟨j', d⟩, m1, m2⟩ := List.mem_map.mp hm
        have m2' : j' = j := m2
        subst m2'
        exact lookup_none' hl d m1⟩⟩
    | some d =>
      rw [hl] at h2
      obtain ⟨i, g1, g2⟩ := upds_mem (lookup_mem' hl)
      obtain ⟨d0, g3⟩ := sameB_get' sm g2
      obtain ⟨j', b0, p, t1, t2, t3, t4, t5⟩ := lent (brs g3)
      rw [g1] at t1; cases t1
      rw [t2] at h1; cases h1
      have h2' : some (b0.re d) = some b := h2
      cases h2'
      obtain ⟨v, a1, a2⟩ := a.get i _ g2
      rw [List.getElem?_append_left (by have := get_lt t4; omega), t4] at a1
      cases a1
      obtain ⟨p', ep, o⟩ := a2
      cases ep
      exact ⟨b0, t2, .inr ⟨t3, d, p, rfl, t5, o⟩⟩
theorem I2.thrown {ts : List T} {bs : List B} {vs dvs : List V} {dds : List D} (I : I2 c z σ H F e) (h : TRs c z F H σ e ts vs) (l : argBs ts e = some bs)
    (x : Ex F F') (y : Ex F' H') (kp : Kp H F H' F' (BrAt (bs ++ dds.map .sh) (vs ++ dvs))) : I2 c z σ H' F' (dropAll (upds ts bs) 0 e) := by
  obtain ⟨ll, k⟩ := argBs_get l
  have lv : bs.length = vs.length := ll.symm.trans h.len
  have brs : ∀ {i : Nat} {d : D}, (bs ++ dds.map .sh)[i]? = some (.br d) → bs[i]? = some (.br d) := fun {i d} g => by
    by_cases hi : i < bs.length
    · rwa [List.getElem?_append_left hi] at g
    · rw [List.getElem?_append_right (by omega), List.getElem?_map] at g
      obtain ⟨x, _, q⟩ := omap g
      cases q
  refine I.change (L := (upds ts bs).map (·.1)) (dropAll_len _ _ _) x y (fun p o h1 h2 => kp.keep p o h1 fun ⟨i, d, g1, g2⟩ => ?_) kp.th kp.nf fun j b hb => ?_
  · have g3 := brs g1
    obtain ⟨t, h3, h4⟩ := k i _ g3
    obtain ⟨j, b0, rfl, h5, h6, _⟩ := argB_br h4
    obtain ⟨v, q1, r1⟩ := h.get h3
    rw [List.getElem?_append_left (by have := get_lt q1; omega), q1] at g2
    cases g2
    exact h2 j (List.mem_map.mpr ⟨(j, d), mem_upds h3 g3, rfl⟩) ⟨b0, h5, h6, r1⟩
  · rw [dropAll_get] at hb
    obtain ⟨xo, h1, h2⟩ := omap hb
    rw [Nat.zero_add] at h2
    cases hl : (upds ts bs).lookup j with
    | none =>
      rw [hl] at h2
      have h2' : xo = some b := h2
      subst h2'
      exact ⟨b, h1, .inl ⟨rfl, fun _ hm => by
        obtain ⟨⟨j', d⟩, m1, m2⟩ := List.mem_map.mp hm
        have m2' : j' = j := m2
        subst m2'
        exact lookup_none' hl d m1⟩⟩
    | some d =>
      rw [hl] at h2
      cases h2
/-- a call by its promise, its arguments' tokens at hand -/
theorem sp_call {n : Nat} {m : Fn} {ts : List T} {vs dvs : List V} {dds : List D} {Q : VK} (I : I2 c z σ H F e) (h : TRs c z F H σ e ts vs) (hn : (vs ++ dvs).length = n) (hd : RpL c F dds dvs)
    (k : Wp (callM dds m ts e) (fun r => ∀ v H' F', Ex F F' → I2 c z σ H' F' r.2 → TR c z F' H' σ r.2 r.1 v → Q v H') (Xp c z W σ F)) : spD c n m (vs ++ dvs) H Q (WE W σ) := by
  unfold callM at k
  rw [Wp.bind] at k
  obtain ⟨bs, l, k⟩ := Wp.of k
  split at k
  · rename_i nd
    refine ⟨hn, F, bs ++ dds.map .sh, I.fh, args_ar I h l nd hd, ?_⟩
    cases hm : m (bs ++ dds.map .sh) with
    | stuck => rw [hm] at k; exact k.elim
    | ok r =>
      rw [hm] at k
      obtain ⟨d, fr, qs⟩ := r
      dsimp only at k
      split at k
      · rename_i sm
        intro v H' F' x y kp a dr
        have J := I.called h l nd x y kp a sm
        refine k v H' F' x J ?_
        cases fr with
        | false => exact dr
        | true =>
          obtain ⟨p, rfl, o, hp⟩ := dr
          refine ⟨p, rfl, o, I.fresh0 hp, fun i ⟨b, h1, h2, h3⟩ => ?_⟩
          rw [putAll_get] at h1
          obtain ⟨xo, h4, h5⟩ := omap h1
          have : ∃ b0, xo = some b0 ∧ b0.isRoot = true := by
            cases hl : (upds ts qs).lookup (0 + i) with
            | none => rw [hl] at h5; exact ⟨b, h5, h2⟩
            | some d' =>
              rw [hl] at h5
              obtain ⟨b0, e1, e2⟩ := omap (show xo.map (fun b => b.re d') = some b from h5)
              exact ⟨b0, e1, by rw [← e2, B.re_root] at h2; exact h2⟩
          obtain ⟨b0, rfl, h6⟩ := this
          exact I.noroot hp i ⟨b0, h4, h6, h3⟩
      · exact k.elim
    | exc x e' =>
      rw [hm] at k
      intro cls dd H' F' x' y kp r
      exact k cls dd H' F' x' (I.thrown h l x' y kp) r
  · exact k.elim
theorem sn_call {n : Nat} {ms : List Bool} {m : Fn} {dvs : List V} {dds : List D} (hn : ∀ vs, (∃ e r, fa e = .ok r ∧ r.1.length = vs.length) → (vs ++ dvs).length = n) (hd : ∀ F, RpL c F dds dvs) (ha : SndA c W ta fa) :
    SndE c W (tCallSD (spD c n m) dvs (WE W) ta) (fCall ms dds m fa) := fun z σ H F e Q I h => by
  unfold fCall at h
  rw [Wp.bind] at h
  refine ha z σ H F e _ I (h.mono (fun r hr h vs H1 F1 x1 I1 t1 => ?_) fun _ _ h => h)
  rw [Wp.bind] at h
  obtain ⟨⟨ts, e2⟩, l, h⟩ := Wp.of h
  obtain ⟨G, x2, J, t2⟩ := t1.escN I1 l
  exact sp_call J t2 (hn vs ⟨e, r, hr, t1.len⟩) (hd G) (h.mono (fun r _ h v H' F' x' I' t' => h v H' F' ((x1.trans x2).trans x') I' t') fun _ _ h => h.mono (x1.trans x2))
end
end DL

/-! DL, part i: rules of calls, fields, methods, properties, new instances. -/
namespace DL
open PySem L2 Evl

def LenA (fa : FA) (k : Nat) : Prop := ∀ e r, fa e = .ok r → r.1.length = k
theorem lenA0 : LenA fA0 0 := fun e r h => by cases h; rfl
theorem lenA1 {fa : FE} {fr : FA} {k : Nat} (h : LenA fr k) : LenA (fA1 fa fr) (k + 1) := fun e r hr => by
  unfold fA1 at hr
  cases h1 : fa e with
  | stuck => rw [h1] at hr; cases hr
  | exc x e' => rw [h1] at hr; cases hr
  | ok q =>
    rw [h1] at hr
    cases h2 : fr q.2 with
    | stuck => simp only [Res.bind, h2] at hr; cases hr
    | exc x e' => simp only [Res.bind, h2] at hr; cases hr
    | ok q2 =>
      simp only [Res.bind, h2] at hr
      cases hr
      simp [h q.2 q2 h2]

section
variable {X : Cx} {c : Ct} {W : WX} {k n j : Nat} {f C : Addr} {fd : FuncData} {ps : List Str} {m : Fn} {x y : Str} {p pos apos : Pos} {a o : Expr} {es : List Expr} {ta to : TE} {tr : TA} {fa fo : FE} {fr : FA} {dvs : List V} {ds : List Value} {dds : List D} {ms : List Bool} {sp : Sp}
/-- f(a, ..) -/
theorem de_call (tk : Takes X W) (F : FnOk X.prog X.w X.K X.mg X.base (CX X.prog X.w) k f fd ps (spD c n m)) (hr : Room k X.A) (hg : Gl X x) (hm : X.mg x = some (.ref f)) (hk : PySem.W.keepIn X.K (.ref f) = true) (hb : Binds X.K fd ps ds) (hd : Vals dvs ds) (hdd : ∀ F, RpL c F dds dvs)
    (hlen : LenA fr j) (hn : j + dvs.length = n) (ha : DA X c W (a :: es) tr fr) (hdb : (x == ("__debug__" : Str)) = false := by decide) (he : starEach (a :: es) X.env = (false, eval a X.env) :: starEach es X.env := by rfl) (hpl : (backTo pos (starEach es X.env)).any (·.1) = false := by rfl) :
    DE X c W (.Call (.Name x p) (a :: es) [] pos) (tCallSD (spD c n m) dvs (WE W) tr) (fCall ms dds m fr) :=
  ⟨pe_callSD F hr hg hm hk hb hd (fun σ => passAt tk σ) ha.pa hdb he hpl, sn_call (fun vs ⟨e, r, h1, h2⟩ => by rw [List.length_append, ← h2, hlen e r h1]; exact hn) hdd ha.sn⟩
theorem de_call0 (tk : Takes X W) (F : FnOk X.prog X.w X.K X.mg X.base (CX X.prog X.w) k f fd ps (spD c n m)) (hr : Room k X.A) (hg : Gl X x) (hm : X.mg x = some (.ref f)) (hk : PySem.W.keepIn X.K (.ref f) = true) (hb : Binds X.K fd ps ds) (hd : Vals dvs ds) (hdd : ∀ F, RpL c F dds dvs)
    (hn : dvs.length = n) (hdb : (x == ("__debug__" : Str)) = false := by decide) : DE X c W (.Call (.Name x p) [] [] pos) (tCallSD (spD c n m) dvs (WE W) tNil) (fCall ms dds m fA0) := by
  refine ⟨⟨fun pins s σ H Q I h => ?_⟩, sn_call (fun vs ⟨e, r, h1, h2⟩ => by rw [List.length_append, ← h2, lenA0 e r h1, Nat.zero_add]; exact hn) hdd (da_nil (X := X)).sn⟩
  refine wpAny_Call_Name_kw (ld_glob I hg hm ?_ hdb)
  exact PySem.W.callWith_K0 I.kIn hk (run_fnSD (us := []) F hr hb hd (passAt tk σ) I .nil h)

/-! ### fields -/
def fldOf (ns : List Str) (f : Str) (ds : List D) : Option D := (ns.zip ds).lookup f
theorem zip_look {F : Hp} : ∀ {ns : List Str} {ds : List D} {vs : List V} {d : D}, RpL c F ds vs → (ns.zip ds).lookup x = some d → ∃ v, (ns.zip vs).lookup x = some v ∧ Rp c F d v
  | [], _, _, _, _, h => by simp at h
  | _ :: _, [], _, _, _, h => by simp at h
  | n0 :: ns, d0 :: ds, vs, d, ⟨v, r, e, h1, h2⟩, h => by
    subst e
    rw [List.zip_cons_cons, List.lookup_cons] at h
    rw [List.zip_cons_cons, List.lookup_cons]
    cases q : x == n0 with
    | true => rw [q] at h; cases h; exact ⟨v, rfl, h1⟩
    | false => rw [q] at h; exact zip_look h2 h
def fFld (ns : List Str) (k : Nat) (f : Str) (fo : FE) : FE := fun e => (fo e).bind fun r => Res.of ((lookT r.1 r.2).bind fun d => match d with
  | .ins k' ds => if k' = k then (fldOf ns f ds).map fun d => (.vl d, r.2) else none
  | _ => none)
theorem sn_fld {i : Nat} (cl : Cls c.K (c.cl i)) (na : NoAttr c.K (c.cl i) x) (ho : SndE c W to fo) : SndE c W (tFld c.K to x) (fFld (c.fn i) i x fo) := fun z σ H F e Q I h => by
  unfold fFld at h
  rw [Wp.bind] at h
  refine ho z σ H F e _ I (h.mono (fun r _ h v H1 F1 x1 I1 t1 => ?_) fun _ _ h => h)
  obtain ⟨q, ea, h⟩ := Wp.of h
  obtain ⟨d, l1, ea⟩ := obind ea
  cases d <;> try cases ea
  rename_i k' ds
  dsimp only at ea
  split at ea
  · rename_i ek
    subst ek
    obtain ⟨d, l2, rfl⟩ := omap ea
    obtain ⟨p, dx, vs, rfl, h2, r2⟩ := (t1.view I1 l1).ins I1.fh
    obtain ⟨v, h3, r3⟩ := zip_look r2 l2
    exact ⟨p, _, dx, _, v, rfl, h2, cl, na, h3, h _ H1 F1 x1 I1 r3⟩
  · cases ea
theorem de_fld {i : Nat} (hK : X.K = c.K) (cl : Cls c.K (c.cl i)) (na : NoAttr c.K (c.cl i) x) (ho : DE X c W o to fo) (hb : attributeBase o x X.env (eval o X.env) = eval o X.env := by rfl) : DE X c W (.Attribute o x pos) (tFld c.K to x) (fFld (c.fn i) i x fo) := ⟨hK ▸ pe_fld ho.pe hb, sn_fld cl na ho.sn⟩
/-- self.f = e -/
def putD (ns : List Str) (f : Str) (d : D) (ds : List D) : Option (List D) := match ns.idxOf? f with
  | some i => if i < ds.length then some (ds.set i d) else if i = ds.length then some (ds ++ [d]) else none
  | none => none
theorem putF_zip {f : Str} {y : V} : ∀ {ns : List Str} {vs : List V} {i : Nat}, ns.idxOf? f = some i → i ≤ vs.length → putF f y (ns.zip vs) = ns.zip (if i < vs.length then vs.set i y else vs ++ [y])
  | [], _, _, h, _ => by simp at h
  | n :: ns, vs, i, h, hl => by
    rw [List.idxOf?_cons] at h
    split at h
    · rename_i hn
      cases h
      have hn' : n = f := by simpa using hn
      cases vs with
      | nil =>
        rw [if_neg (by simp), List.zip_nil_right]
        show [(f, y)] = (n :: ns).zip ([] ++ [y])
        rw [hn']
        simp
      | cons v vs =>
        rw [if_pos (by simp), List.zip_cons_cons]
        show (if n = f then (n, y) :: ns.zip vs else (n, v) :: putF f y (ns.zip vs)) = (n :: ns).zip ((v :: vs).set 0 y)
        rw [if_pos hn']
        simp
    · rename_i hn
      obtain ⟨i', h1, rfl⟩ := omap h
      have hn' : ¬ n = f := by simpa using hn
      cases vs with
      | nil => simp at hl
      | cons v vs =>
        have ih := putF_zip (y := y) (vs := vs) h1 (by simpa using hl)
        rw [List.zip_cons_cons]
        show (if n = f then (n, y) :: ns.zip vs else (n, v) :: putF f y (ns.zip vs)) = _
        rw [if_neg hn', ih]
        by_cases hi : i' < vs.length
        · rw [if_pos hi, if_pos (by simpa using hi)]
          simp
        · rw [if_neg hi, if_neg (by simpa using hi)]
          simp
def rootIns (k : Nat) (e : DEnv) (j : Nat) : Option (List D) := match e[j]? with
  | some (some (.ow (.ins k' ds))) => if k' = k then some ds else none
  | some (some (.br (.ins k' ds))) => if k' = k then some ds else none
  | _ => none
def putIns (k : Nat) (e : DEnv) (j : Nat) (ds : List D) : DEnv := match e[j]? with
  | some (some b) => e.set j (some (b.re (.ins k ds)))
  | _ => e
theorem I2.rootIns {z : Zs} {σ : L2.St} {H F : Hp} {e : DEnv} {k j : Nat} {ds : List D} (I : I2 c z σ H F e) (h : rootIns k e j = some ds) : ∃ p dx vs, σ[j]? = some (some (.ref p)) ∧ H p = some (.ins (c.cl k) dx ((c.fn k).zip vs)) ∧ RpL c F ds vs ∧
    ∀ vs' ds', RpL c F ds' vs' → I2 c z σ (upd H p (.ins (c.cl k) dx ((c.fn k).zip vs'))) F (putIns k e j ds') := by
  unfold DL.rootIns at h
  split at h <;> try cases h
  · rename_i hb
    split at h
    · rename_i ek
      subst ek; cases h
      obtain ⟨v, hv, p, rfl, ⟨hF, dx, vs, h1, h2⟩, _⟩ := I.slot j _ hb
      refine ⟨p, dx, vs, hv, h1, h2, fun vs' ds' r => ?_⟩
      unfold putIns
      rw [hb]
      exact I.mut hb rfl hv ⟨hF, dx, vs', upd_same, r⟩
    · cases h
  · rename_i hb
    split at h
    · rename_i ek
      subst ek; cases h
      obtain ⟨v, hv, p, rfl, ⟨hF, dx, vs, h1, h2⟩, _⟩ := I.slot j _ hb
      refine ⟨p, dx, vs, hv, h1, h2, fun vs' ds' r => ?_⟩
      unfold putIns
      rw [hb]
      exact I.mut hb rfl hv ⟨hF, dx, vs', upd_same, r⟩
    · cases h
def fPutF (ns : List Str) (k j : Nat) (f : Str) (fv : FE) : FS := fun e => (fv e).bind fun r => Res.of ((escape r.1 r.2).bind fun q => (rootIns k q.2 j).bind fun ds => (putD ns f q.1 ds).bind fun ds' => if ds.length < 900 then some (.nx (putIns k q.2 j ds')) else none)
theorem sn_putF {i j : Nat} {tv : TE} {fv : FE} (cl : Cls c.K (c.cl i)) (na : NoAttr c.K (c.cl i) x) (hv : SndE c W tv fv) : SndS c W (sFld c.K (tVar j) tv x) (fPutF (c.fn i) i j x fv) := fun z σ H F e D I h => by
  unfold fPutF at h
  rw [Wp.bind] at h
  refine hv z σ H F e _ I (h.mono (fun r _ h v H1 F1 x1 I1 t1 => ?_) fun _ _ h => h σ)
  obtain ⟨q, ea, h⟩ := Wp.of h
  obtain ⟨⟨d, e1⟩, l1, ea⟩ := obind ea
  obtain ⟨ds, l2, ea⟩ := obind ea
  obtain ⟨ds', l3, ea⟩ := obind ea
  dsimp only at ea
  split at ea
  · rename_i hlen
    cases ea
    obtain ⟨G, x2, J, rr⟩ := t1.escape I1 l1
    obtain ⟨p, dx, vs, hp, h2, r2, kk⟩ := J.rootIns l2
    refine ⟨_, hp, p, _, dx, _, rfl, h2, cl, na, ?_, ?_⟩
    · rw [List.length_zip]
      have := r2.len
      omega
    · unfold putD at l3
      split at l3
      · rename_i ix hix
        split at l3
        · rename_i hi
          cases l3
          rw [putF_zip hix (by rw [← r2.len]; omega), if_pos (by rw [← r2.len]; exact hi)]
          exact h σ _ G (x1.trans x2) (kk _ _ (r2.set ix rr))
        · split at l3
          · rename_i hi hi2
            cases l3
            rw [putF_zip hix (by rw [← r2.len]; omega), if_neg (by rw [← r2.len]; exact hi)]
            exact h σ _ G (x1.trans x2) (kk _ _ (r2.app (RpL.one rr)))
          · cases l3
      · cases l3
  · cases ea
theorem ds_putF {i j : Nat} {v : Expr} {tv : TE} {fv : FE} {pos' : Pos} (hK : X.K = c.K) (cl : Cls c.K (c.cl i)) (na : NoAttr c.K (c.cl i) x) (ho : PE X (.Name y p) (tVar j)) (hv : DE X c W v tv fv) (hs : swapsWith v (some (.Attribute (.Name y p) x pos')) pos.line X.env = pure false := by rfl) :
    DS X c W (.Assign [.Attribute (.Name y p) x pos'] v pos) (sFld c.K (tVar j) tv x) (fPutF (c.fn i) i j x fv) := ⟨hK ▸ ps_fld ho hv.pe hs, sn_putF cl na hv.sn⟩

/-! ### methods, properties -/
/-- the object first, then the arguments -/
def fMeth (k : Nat) (ms : List Bool) (dds : List D) (m : Fn) (fo : FE) (fa : FA) : FE := fun e => (fo e).bind fun r0 => match lookT r0.1.seal r0.2 with
  | some (.ins k' _) => if k' = k then (fa r0.2).bind fun r => (Res.of (escN ms (r0.1.seal :: r.1) r.2)).bind fun q => callM dds m q.1 q.2 else .stuck
  | _ => .stuck
def tMethS (C : Addr) (m : Str) (sp : Sp) (dvs : List V) (E : L2.St → XK) (ta : TE) (t : TA) : TE := fun σ H Q => ta σ H fun x H1 => ∃ a dx fs, x = .ref a ∧ H1 a = some (.ins C dx fs) ∧ fs.lookup m = none ∧
  t σ H1 fun vs H2 => sp (x :: (vs ++ dvs)) H2 Q (E σ)
theorem zip_none {vs : List V} : ∀ {ns : List Str}, x ∉ ns → (ns.zip vs).lookup x = none := by
  induction vs with
  | nil => intro ns h; simp
  | cons v vs ih =>
    intro ns h
    cases ns with
    | nil => simp
    | cons n ns =>
      rw [List.zip_cons_cons, List.lookup_cons]
      have h1 : (x == n) = false := by simp; exact fun z => h (z ▸ List.mem_cons_self)
      rw [h1]
      exact ih fun z => h (List.mem_cons_of_mem _ z)
theorem lookT_seal {t : T} {e : DEnv} : lookT t.seal e = lookT t e := by cases t <;> rfl
theorem sn_meth {i : Nat} (hx : x ∉ c.fn i) (hn : ∀ vs : List V, (∃ e r, fr e = .ok r ∧ r.1.length = vs.length) → vs.length + dvs.length + 1 = n) (hd : ∀ F, RpL c F dds dvs) (ho : SndE c W to fo) (ha : SndA c W tr fr) :
    SndE c W (tMethS (c.cl i) x (spD c n m) dvs (WE W) to tr) (fMeth i ms dds m fo fr) := fun z σ H F e Q I h => by
  unfold fMeth at h
  rw [Wp.bind] at h
  refine ho z σ H F e _ I (h.mono (fun r0 _ g v H1 F1 x1 I1 t1 => ?_) fun _ _ h => h)
  clear h
  obtain ⟨F2, x2, J, t2⟩ := t1.seal I1
  split at g
  · rename_i k' ds hl
    split at g
    · rename_i ek
      subst ek
      obtain ⟨p, dx, vs, rfl, h2, r2⟩ := (t2.view J hl).ins J.fh
      refine ⟨p, dx, _, rfl, h2, zip_none hx, ?_⟩
      rw [Wp.bind] at g
      refine ha z σ H1 F2 _ _ J (g.mono (fun r hr h vs H3 F3 x3 I3 t3 => ?_) fun _ _ h => h.mono (x1.trans x2))
      rw [Wp.bind] at h
      obtain ⟨⟨ts, e3⟩, l, h⟩ := Wp.of h
      have t4 : TRs c z F3 H3 σ r.2 (r0.1.seal :: r.1) (V.ref p :: vs) := ⟨_, _, rfl, T.seal_seal _, t2.keep x3, t3⟩
      obtain ⟨G, x4, K, t5⟩ := t4.escN I3 l
      have sc := sp_call (n := n) (m := m) (dvs := dvs) (W := W) (Q := Q) K t5 (by
        have := hn vs ⟨_, r, hr, t3.len⟩
        simp; omega) (hd G) (h.mono (fun r _ h v H' F' x' I' t' => h v H' F' (((x1.trans x2).trans (x3.trans x4)).trans x') I' t') fun _ _ h => h.mono ((x1.trans x2).trans (x3.trans x4)))
      exact sc
    · exact g.elim
  · exact g.elim
theorem pe_methS {E : L2.St → XK} {CX : CXT} {pl : Sem Bool} {t : TA} (he : PE X o to) (cl : Cls X.K C) (hm : Meth X.K C x f) (F : FnOk X.prog X.w X.K X.mg X.base CX k f fd ps sp) (hr : Room k X.A) (hb : Binds X.K fd ps ds) (hd : Vals dvs ds) (hx : ∀ σ, PassesAt CX X σ (E σ)) (ha : PA X (a :: es) t)
    (hst : starEach (a :: es) X.env = (false, eval a X.env) :: starEach es X.env := by rfl) (hpl : (backTo pos (starEach es X.env)).any (·.1) = false := by rfl)
    (ht : eval (.Call (.Attribute o x apos) (a :: es) [] pos) X.env = (do
      let ov ← eval o X.env
      standAt apos.atName
      let (f, first) ← holding [ov] (getMethod ov x pl)
      callWith pos f first (backTo pos (starEach (a :: es) X.env)) (backToKw pos (keywordEach [] X.env))) := by rfl) :
    PE X (.Call (.Attribute o x apos) (a :: es) [] pos) (tMethS C x sp dvs E to t) := by
  refine ⟨fun pins s σ H Q I h => ?_⟩
  refine PySem.W.methodCall_KW (pl := pl) (thn (he.run pins s σ H _ I h) fun u s1 ⟨x, H1, I1, rx, a, dx, fs, ex, ea, l, q⟩ => ?_) ht
  subst ex
  obtain rfl : u = Value.ref a := rx
  refine getmeth_ok I1 ea cl hm l ?_
  refine PySem.W.callWith_K (first := [.ref a]) (h₀ := X.base) I.ok.mod.kin hm.kp (thn (ha.run pos pins s1 σ H1 _ I1 q) fun us s2 ⟨vs, H2, I2, r, q2⟩ => ⟨I2.kIn, ?_⟩) hst hpl
  exact run_fnSD (us := .ref a :: us) (vs := .ref a :: vs) F hr hb hd (hx σ) I2 (.cons rfl r) q2
theorem pe_methS0 {E : L2.St → XK} {CX : CXT} {pl : Sem Bool} (he : PE X o to) (cl : Cls X.K C) (hm : Meth X.K C x f) (F : FnOk X.prog X.w X.K X.mg X.base CX k f fd ps sp) (hr : Room k X.A) (hb : Binds X.K fd ps ds) (hd : Vals dvs ds) (hx : ∀ σ, PassesAt CX X σ (E σ))
    (ht : eval (.Call (.Attribute o x apos) [] [] pos) X.env = (do
      let ov ← eval o X.env
      standAt apos.atName
      let (f, first) ← holding [ov] (getMethod ov x pl)
      callWith pos f first (backTo pos (starEach [] X.env)) (backToKw pos (keywordEach [] X.env))) := by rfl) :
    PE X (.Call (.Attribute o x apos) [] [] pos) (tMethS C x sp dvs E to tNil) := by
  refine ⟨fun pins s σ H Q I h => ?_⟩
  refine PySem.W.methodCall_KW (pl := pl) (thn (he.run pins s σ H _ I h) fun u s1 ⟨x, H1, I1, rx, a, dx, fs, ex, ea, l, q⟩ => ?_) ht
  subst ex
  obtain rfl : u = Value.ref a := rx
  refine getmeth_ok I1 ea cl hm l ?_
  exact PySem.W.callWith_K0 (first := [.ref a]) I1.kIn hm.kp (run_fnSD (us := [.ref a]) (vs := [.ref a]) F hr hb hd (hx σ) I1 (.cons rfl .nil) q)
/-- o.m(a, ..) -/
theorem de_meth {i : Nat} {pl : Sem Bool} (tk : Takes X W) (hK : X.K = c.K) (hx : x ∉ c.fn i) (cl : Cls c.K (c.cl i)) (hm : Meth c.K (c.cl i) x f) (F : FnOk X.prog X.w X.K X.mg X.base (CX X.prog X.w) k f fd ps (spD c n m)) (hr : Room k X.A) (hb : Binds X.K fd ps ds) (hd : Vals dvs ds) (hdd : ∀ F, RpL c F dds dvs)
    (hlen : LenA fr j) (hn : j + dvs.length + 1 = n) (ho : DE X c W o to fo) (ha : DA X c W (a :: es) tr fr)
    (hst : starEach (a :: es) X.env = (false, eval a X.env) :: starEach es X.env := by rfl) (hpl : (backTo pos (starEach es X.env)).any (·.1) = false := by rfl)
    (ht : eval (.Call (.Attribute o x apos) (a :: es) [] pos) X.env = (do
      let ov ← eval o X.env
      standAt apos.atName
      let (f, first) ← holding [ov] (getMethod ov x pl)
      callWith pos f first (backTo pos (starEach (a :: es) X.env)) (backToKw pos (keywordEach [] X.env))) := by rfl) :
    DE X c W (.Call (.Attribute o x apos) (a :: es) [] pos) (tMethS (c.cl i) x (spD c n m) dvs (WE W) to tr) (fMeth i ms dds m fo fr) :=
  ⟨pe_methS (pl := pl) ho.pe (hK ▸ cl) (hK ▸ hm) F hr hb hd (fun σ => passAt tk σ) ha.pa hst hpl ht, sn_meth hx (fun vs ⟨e, r, h1, h2⟩ => by rw [← h2, hlen e r h1]; exact hn) hdd ho.sn ha.sn⟩
theorem de_meth0 {i : Nat} {pl : Sem Bool} (tk : Takes X W) (hK : X.K = c.K) (hx : x ∉ c.fn i) (cl : Cls c.K (c.cl i)) (hm : Meth c.K (c.cl i) x f) (F : FnOk X.prog X.w X.K X.mg X.base (CX X.prog X.w) k f fd ps (spD c n m)) (hr : Room k X.A) (hb : Binds X.K fd ps ds) (hd : Vals dvs ds) (hdd : ∀ F, RpL c F dds dvs)
    (hn : dvs.length + 1 = n) (ho : DE X c W o to fo)
    (ht : eval (.Call (.Attribute o x apos) [] [] pos) X.env = (do
      let ov ← eval o X.env
      standAt apos.atName
      let (f, first) ← holding [ov] (getMethod ov x pl)
      callWith pos f first (backTo pos (starEach [] X.env)) (backToKw pos (keywordEach [] X.env))) := by rfl) :
    DE X c W (.Call (.Attribute o x apos) [] [] pos) (tMethS (c.cl i) x (spD c n m) dvs (WE W) to tNil) (fMeth i ms dds m fo fA0) :=
  ⟨pe_methS0 (pl := pl) ho.pe (hK ▸ cl) (hK ▸ hm) F hr hb hd (fun σ => passAt tk σ) ht, sn_meth hx (fun vs ⟨e, r, h1, h2⟩ => by rw [← h2, lenA0 e r h1, Nat.zero_add]; exact hn) hdd ho.sn (da_nil (X := X)).sn⟩
/-- o.p, a property -/
def noExc (r : Res (T × DEnv)) : Res (T × DEnv) := match r with
  | .exc _ _ => .stuck
  | r => r
def fProp (k : Nat) (m : Fn) (fo : FE) : FE := fun e => (fo e).bind fun r0 => match lookT r0.1.seal r0.2 with
  | some (.ins k' _) => if k' = k then (Res.of (escN [false] [r0.1.seal] r0.2)).bind fun q => noExc (callM [] m q.1 q.2) else .stuck
  | _ => .stuck
theorem sn_prop {i : Nat} (ho : SndE c W to fo) : SndE c W (tProp (c.cl i) (spD c 1 m) [] E0 to) (fProp i m fo) := fun z σ H F e Q I h => by
  unfold fProp at h
  rw [Wp.bind] at h
  refine ho z σ H F e _ I (h.mono (fun r0 _ g v H1 F1 x1 I1 t1 => ?_) fun _ _ h => h)
  clear h
  obtain ⟨F2, x2, J, t2⟩ := t1.seal I1
  split at g
  · rename_i k' ds hl
    split at g
    · rename_i ek
      subst ek
      obtain ⟨p, dx, vs, rfl, h2, r2⟩ := (t2.view J hl).ins J.fh
      refine ⟨p, dx, _, rfl, h2, ?_⟩
      rw [Wp.bind] at g
      obtain ⟨⟨ts, e3⟩, l, h⟩ := Wp.of g
      have t4 : TRs c z F2 H1 σ r0.2 [r0.1.seal] [V.ref p] := ⟨_, _, rfl, T.seal_seal _, t2, rfl⟩
      obtain ⟨G, x4, K, t5⟩ := t4.escN J l
      have h' : Wp (callM [] m ts e3) (fun r => ∀ v H' F', Ex F F' → I2 c z σ H' F' r.2 → TR c z F' H' σ r.2 r.1 v → Q v H') (fun _ _ => False) := by
        unfold noExc at h
        cases hq : callM [] m ts e3 with
        | stuck => rw [hq] at h; exact h
        | ok r => rw [hq] at h; exact h
        | exc x e' => rw [hq] at h; exact h.elim
      have sc := sp_call (n := 1) (m := m) (dvs := []) (dds := []) (W := W0) (Q := Q) K t5 rfl rfl (h'.mono (fun r _ h v H' F' x' I' t' => h v H' F' (((x1.trans x2).trans x4).trans x') I' t') fun _ _ h => h.elim)
      exact sc
    · exact g.elim
  · exact g.elim
theorem de_prop {i : Nat} {pp g : Addr} (hK : X.K = c.K) (cl : Cls c.K (c.cl i)) (hp : PropOf c.K (c.cl i) x pp g) (F : FnOk X.prog X.w X.K X.mg X.base (CX X.prog X.w) k g fd ps (spD c 1 m)) (hr : Room (k + 1) X.A) (hb : Binds X.K fd ps []) (ho : DE X c W o to fo)
    (hab : attributeBase o x X.env (eval o X.env) = eval o X.env := by rfl) : DE X c W (.Attribute o x pos) (tProp (c.cl i) (spD c 1 m) [] E0 to) (fProp i m fo) :=
  ⟨pe_prop (E := E0) ho.pe (hK ▸ cl) (hK ▸ hp) F hr hb .nil passL hab, sn_prop ho.sn⟩
end
end DL

/-! DL, part j: new instances, isinstance, zip. -/
namespace DL
open PySem L2 Evl

section
variable {c : Ct} {z : Zs} {W : WX} {σ σ' : L2.St} {H H' F F' G : Hp} {e e' : DEnv}
/-! ### a frame with one more name -/
theorem get_app {α : Type} {l : List α} {x y : α} {i : Nat} (h : (l ++ [x])[i]? = some y) : (i < l.length ∧ l[i]? = some y) ∨ (i = l.length ∧ y = x) := by
  by_cases hi : i < l.length
  · rw [List.getElem?_append_left hi] at h; exact .inl ⟨hi, h⟩
  · rw [List.getElem?_append_right (by omega)] at h
    cases hk : i - l.length with
    | zero => rw [hk] at h; simp at h; exact .inr ⟨by omega, h.symm⟩
    | succ n => rw [hk] at h; simp at h
theorem I2.ext {x : Addr} {d : D} (I : I2 c z σ H F e) (w : Own c F H d x) (h0 : z.H0 x = none) (hn : ∀ i, ¬ RootAt σ e i x) : I2 c z (σ ++ [some (.ref x)]) H F (e ++ [some (.ow d)]) := by
  have key : ∀ (j : Nat) (q : Addr), RootAt (σ ++ [some (.ref x)]) (e ++ [some (.ow d)]) j q → (j = e.length ∧ q = x) ∨ RootAt σ e j q := fun j q ⟨b, h1, h2, h3⟩ => by
    rcases get_app h1 with ⟨l1, g1⟩ | ⟨l1, g1⟩
    · rcases get_app h3 with ⟨_, g3⟩ | ⟨l3, _⟩
      · exact .inr ⟨b, g1, h2, g3⟩
      · rw [← I.len] at l3; omega
    · rcases get_app h3 with ⟨l3, _⟩ | ⟨_, g3⟩
      · rw [← I.len] at l3; omega
      · cases g3; exact .inl ⟨l1, rfl⟩
  refine ⟨by simp [I.len], I.f0, I.fh, I.keep, fun i b h => ?_, fun i j p h1 h2 => ?_, I.bo, I.nf, fun i d' v h h' => ?_⟩
  · rcases get_app h with ⟨l1, g1⟩ | ⟨l1, g1⟩
    · obtain ⟨v, hv, r⟩ := I.slot i b g1
      exact ⟨v, by rw [List.getElem?_append_left (get_lt hv)]; exact hv, r⟩
    · cases g1
      exact ⟨.ref x, by rw [l1, I.len]; simp, x, rfl, w, h0⟩
  · rcases key i p h1 with ⟨rfl, rfl⟩ | r1
    · rcases key j _ h2 with ⟨rfl, _⟩ | r2
      · rfl
      · exact (hn j r2).elim
    · rcases key j p h2 with ⟨rfl, rfl⟩ | r2
      · exact (hn i r1).elim
      · exact I.dist i j p r1 r2
  · rcases get_app h with ⟨l1, g1⟩ | ⟨l1, g1⟩
    · rcases get_app h' with ⟨_, g2⟩ | ⟨l2, _⟩
      · exact I.brv i d' v g1 g2
      · rw [← I.len] at l2; omega
    · cases g1
theorem I2.unext {x : Option V} {b : Option B} (I : I2 c z (σ ++ [x]) H F (e ++ [b])) : I2 c z σ H F e := by
  have hl : e.length = σ.length := by have := I.len; simp at this; exact this
  have upe : ∀ {i : Nat} {y : Option B}, e[i]? = some y → (e ++ [b])[i]? = some y := fun {i y} h => by rw [List.getElem?_append_left (get_lt h)]; exact h
  have ups : ∀ {i : Nat} {y : Option V}, σ[i]? = some y → (σ ++ [x])[i]? = some y := fun {i y} h => by rw [List.getElem?_append_left (get_lt h)]; exact h
  have key : ∀ (i : Nat) (p : Addr), RootAt σ e i p → RootAt (σ ++ [x]) (e ++ [b]) i p := fun i p ⟨b', h1, h2, h3⟩ => ⟨b', upe h1, h2, ups h3⟩
  refine ⟨hl, I.f0, I.fh, I.keep, fun i b' h => ?_, fun i j p h1 h2 => I.dist i j p (key _ _ h1) (key _ _ h2), I.bo, I.nf, fun i d v h h' => I.brv i d v (upe h) (ups h')⟩
  obtain ⟨v, hv, r⟩ := I.slot i b' (upe h)
  rcases get_app hv with ⟨_, g⟩ | ⟨l, _⟩
  · exact ⟨v, g, r⟩
  · have := get_lt h; omega
/-- C(..): a new instance is laid behind the frame's names, handed to __init__, and taken back -/
def fMake (k : Nat) (ms : List Bool) (dds : List D) (m : Fn) (fa : FA) : FE := fun e => (fa e).bind fun r => (Res.of (escN ms r.1 r.2)).bind fun q => match callM dds m (.sl q.2.length :: q.1) (q.2 ++ [some (.ow (.ins k []))]) with
  | .stuck => .stuck
  | .exc x e' => .exc x e'.dropLast
  | .ok (.vl .non, e') => match e'.getLast? with
    | some (some (.ow (.ins k' ds))) => .ok (.nw (.ins k' ds), e'.dropLast)
    | _ => .stuck
  | .ok _ => .stuck
def tMakeS (C : Addr) (sp : Sp) (dvs : List V) (E : L2.St → XK) (t : TA) : TE := fun σ H Q => t σ H fun vs H1 => ∀ x dx, H1 x = none → H1 dx = none → dx ≠ x →
  sp (.ref x :: (vs ++ dvs)) (upd (upd H1 dx (.own x)) x (.ins C dx [])) (fun v H2 => v = .non ∧ Q (.ref x) H2) (E σ)
theorem TRs.ext {x : Option V} {b : Option B} : ∀ {ts : List T} {vs : List V}, TRs c z F H σ e ts vs → TRs c z F H' (σ ++ [x]) (e ++ [b]) ts vs
  | [], _, h => h
  | t :: ts, _, ⟨v, r, h1, h2, h3, h4⟩ => by
    have h5 : TR c z F H' (σ ++ [x]) (e ++ [b]) t v := by
      cases t with
      | sl i =>
        have h3' : σ[i]? = some (some v) := h3
        show (σ ++ [x])[i]? = some (some v)
        rw [List.getElem?_append_left (get_lt h3')]; exact h3'
      | vl d => exact h3
      | nw d => cases h2
    exact ⟨v, r, h1, h2, h5, TRs.ext h4⟩
theorem drop_last_of {e : DEnv} {n : Nat} (h : e.length = n + 1) : ∃ e0 b, e = e0 ++ [b] ∧ e0.length = n ∧ e.dropLast = e0 ∧ e.getLast? = some b := by
  have hne : e ≠ [] := fun z => by rw [z] at h; cases h
  refine ⟨e.dropLast, e.getLast hne, (List.dropLast_concat_getLast hne).symm, by simp [h], rfl, by rw [List.getLast?_eq_some_getLast hne]⟩
theorem sn_make {n k : Nat} {ms : List Bool} {m : Fn} {dvs : List V} {dds : List D} {ta : TA} {fa : FA} (hn : ∀ vs : List V, (∃ e r, fa e = .ok r ∧ r.1.length = vs.length) → vs.length + dvs.length + 1 = n) (hd : ∀ F, RpL c F dds dvs) (ha : SndA c W ta fa)
    (hW : ∀ cls dd σ H, W cls dd σ H → W cls dd σ H) : SndE c W (tMakeS (c.cl k) (spD c n m) dvs (WE W) ta) (fMake k ms dds m fa) := fun z σ H F e Q I h => by
  unfold fMake at h
  rw [Wp.bind] at h
  refine ha z σ H F e _ I (h.mono (fun r hr g vs H1 F1 x1 I1 t1 => ?_) fun _ _ h => h)
  clear h
  rw [Wp.bind] at g
  obtain ⟨⟨ts, e2⟩, l, g⟩ := Wp.of g
  obtain ⟨G, x2, J, t2⟩ := t1.escN I1 l
  intro x dx hx hdx hne
  -- the heap with the new instance
  have eH : Ex H1 (upd (upd H1 dx (.own x)) x (.ins (c.cl k) dx [])) := (Ex.new hdx).trans (Ex.new (by rw [upd_ne hne.symm]; exact hx))
  have J1 := J.alloc eH
  have hz : (c.fn k).zip ([] : List V) = [] := by simp
  have w : Own c G (upd (upd H1 dx (.own x)) x (.ins (c.cl k) dx [])) (.ins k []) x := ⟨fresh_back J.fh hx, dx, [], by rw [upd_same, hz], rfl⟩
  have J2 := J1.ext w (J.fresh0 hx) (J.noroot hx)
  have t3 : TRs c z G (upd (upd H1 dx (.own x)) x (.ins (c.cl k) dx [])) (σ ++ [some (.ref x)]) (e2 ++ [some (.ow (.ins k []))]) (.sl e2.length :: ts) (.ref x :: vs) :=
    ⟨_, _, rfl, rfl, by show (σ ++ [some (V.ref x)])[e2.length]? = _; rw [J.len]; simp, TRs.ext t2⟩
  have sc := sp_call (n := n) (m := m) (dvs := dvs) (dds := dds) (W := fun cls dd _ H => W cls dd σ H) (Q := fun v H2 => v = .non ∧ Q (.ref x) H2) J2 t3 (by
    have := hn vs ⟨_, r, hr, t1.len⟩
    simp; omega) (hd G) ?_
  · exact sc
  · have hln : ∀ {e' : DEnv} {H' F' : Hp}, I2 c z (σ ++ [some (V.ref x)]) H' F' e' → e'.length = e2.length + 1 := fun {e' H' F'} K => by rw [K.len]; simp [J.len]
    cases hq : callM dds m (.sl e2.length :: ts) (e2 ++ [some (.ow (.ins k []))]) with
    | stuck => rw [hq] at g; exact g.elim
    | exc xv e' =>
      rw [hq] at g
      intro cls dd H' F' x' K r'
      obtain ⟨e0, b, rfl, l0, ed, _⟩ := drop_last_of (hln K)
      have K0 := K.unext
      dsimp only at g
      rw [show List.dropLast (e0 ++ [b]) = e0 from ed] at g
      exact g cls dd H' F' ((x1.trans x2).trans x') K0 r'
    | ok r' =>
      rw [hq] at g
      obtain ⟨t, e'⟩ := r'
      intro v H' F' x' K t'
      obtain ⟨e0, b, rfl, l0, ed, eg⟩ := drop_last_of (hln K)
      cases t with
      | sl i => exact g.elim
      | nw d => exact g.elim
      | vl d =>
        cases d <;> try exact g.elim
        have ev : v = .non := t'
        refine ⟨ev, ?_⟩
        dsimp only at g
        rw [show List.getLast? (e0 ++ [b]) = some b from eg, show List.dropLast (e0 ++ [b]) = e0 from ed] at g
        cases b with
        | none => exact g.elim
        | some b =>
          cases b <;> try exact g.elim
          rename_i d
          cases d <;> try exact g.elim
          rename_i k' ds
          have K0 := K.unext
          have hs : (e0 ++ [some (B.ow (.ins k' ds))])[e0.length]? = some (some (.ow (.ins k' ds))) := by simp
          obtain ⟨v0, hv0, p, rfl, w', h0'⟩ := K.slot e0.length _ hs
          have hp : (σ ++ [some (V.ref x)])[e0.length]? = some (some (.ref x)) := by rw [l0, J.len]; simp
          rw [hp] at hv0; cases hv0
          refine g (.ref x) H' F' ((x1.trans x2).trans x') K0 ⟨x, rfl, w', h0', fun i ⟨b', q1, q2, q3⟩ => ?_⟩
          have := K.dist i e0.length x ⟨b', by rw [List.getElem?_append_left (get_lt q1)]; exact q1, q2, by rw [List.getElem?_append_left (get_lt q3)]; exact q3⟩ ⟨_, hs, rfl, hp⟩
          have hlt := get_lt q1
          dsimp only at hlt
          omega
end

section
variable {X : Cx} {c : Ct} {W : WX} {k n j : Nat} {f C : Addr} {fd : FuncData} {ps : List Str} {m : Fn} {x y : Str} {p pos apos : Pos} {a o : Expr} {es : List Expr} {ta to : TE} {tr : TA} {fa fo : FE} {fr : FA} {dvs : List V} {ds : List Value} {dds : List D} {ms : List Bool} {sp : Sp} {E : L2.St → XK} {CX : CXT}
theorem run_makeS {pins : List (Addr × Obj)} {σ : L2.St} {H : Hp} {s : Shared} {Q : VK} {us : List Value} {vs : List V} (M : Mk X.K C f) (F : FnOk X.prog X.w X.K X.mg X.base CX k f fd ps sp) (hr : Room (k + 1) X.A) (hb : Binds X.K fd ps ds) (hd : Vals dvs ds)
    (hx : PassesAt CX X σ (E σ)) (hx2 : ∀ (H : Hp) (s : Shared) (C : Addr) (e : Value) (s' : Shared), Inv X pins σ H s → CX X.stack H s (E σ) e s' → X.xe e s') (I : Inv X pins σ H s) (r : Vals vs us)
    (h : ∀ x dx, H x = none → H dx = none → dx ≠ x → sp (.ref x :: (vs ++ dvs)) (upd (upd H dx (.own x)) x (.ins C dx [])) (fun v H2 => v = .non ∧ Q (.ref x) H2) (E σ)) :
    wpAny (model X.prog X.w) X.A (call (.ref C) us) (EP X pins σ Q) X.xe s := by
  have hq := h (s.heap.objs.size + 1) s.heap.objs.size (I.hok.fresh (Nat.le_succ _)) (I.hok.fresh (Nat.le_refl _)) (Nat.ne_of_lt (Nat.lt_succ_self _))
  have I2 := Inv.made (C := C) I
  have r2 : Vals (V.ref (s.heap.objs.size + 1) :: (vs ++ dvs)) (Value.ref (s.heap.objs.size + 1) :: (us ++ ds)) := .cons rfl (r.append hd)
  have hl : (Value.ref (s.heap.objs.size + 1) :: us ++ ds).length = ps.length := by
    have e := r2.length
    rw [F.len _ _ _ _ hq] at e
    exact e.symm
  refine wpAny_call (make_map (f := f) I.kIn M.makes M.init (beq_iff_eq.mp M.fn) (codeAny_mono (F.run _ X.stack _ _ ⟨Value.ref (s.heap.objs.size + 1) :: us, []⟩ (Value.ref (s.heap.objs.size + 1) :: (us ++ ds)) _ _ (E σ) (hr.make C us [])
    (I2.env0.make C us []) (hb _ (Value.ref (s.heap.objs.size + 1) :: us) I2.kIn hl) r2 hq) fun r s' hq' => ?_))
  cases r with
  | error e => exact hx pins _ _ e s' I2 hq'
  | ok fl =>
    cases fl with
    | ret u =>
      obtain ⟨v, H', I3, rv, ev, q3⟩ := I2.after hq'
      subst ev
      exact ⟨rv, ⟨V.ref (s.heap.objs.size + 1), H', I3, rfl, q3⟩⟩
    | next => exact False.elim hq'
    | brk => exact False.elim hq'
    | cont => exact False.elim hq'
theorem pe_makeS (M : Mk X.K C f) (F : FnOk X.prog X.w X.K X.mg X.base CX k f fd ps sp) (hr : Room (k + 1) X.A) (hg : Gl X x) (hm : X.mg x = some (.ref C)) (hb : Binds X.K fd ps ds) (hd : Vals dvs ds) (hx : ∀ σ, PassesAt CX X σ (E σ))
    (ha : PA X (a :: es) tr) (hdb : (x == ("__debug__" : Str)) = false := by decide) (he : starEach (a :: es) X.env = (false, eval a X.env) :: starEach es X.env := by rfl) (hpl : (backTo pos (starEach es X.env)).any (·.1) = false := by rfl) :
    PE X (.Call (.Name x p) (a :: es) [] pos) (tMakeS C sp dvs E tr) := by
  refine ⟨fun pins s σ H Q I h => ?_⟩
  refine wpAny_Call_Name_kw (ld_glob I hg hm ?_ hdb)
  refine PySem.W.callWith_K (h₀ := X.base) I.ok.mod.kin M.kp (thn (ha.run pos pins s σ H _ I h) fun us s1 ⟨vs, H1, I1, r, q⟩ => ⟨I1.kIn, ?_⟩) he hpl
  exact run_makeS M F hr hb hd (hx σ) (fun H s _ e s' I h => hx σ pins H s e s' I h) I1 r q
/-- C(a, ..) -/
theorem de_make {i : Nat} (tk : Takes X W) (hK : X.K = c.K) (M : Mk c.K (c.cl i) f) (F : FnOk X.prog X.w X.K X.mg X.base (L2.CX X.prog X.w) k f fd ps (spD c n m)) (hr : Room (k + 1) X.A) (hg : Gl X x) (hm : X.mg x = some (.ref (c.cl i))) (hb : Binds X.K fd ps ds) (hd : Vals dvs ds) (hdd : ∀ F, RpL c F dds dvs)
    (hlen : LenA fr j) (hn : j + dvs.length + 1 = n) (ha : DA X c W (a :: es) tr fr) (hdb : (x == ("__debug__" : Str)) = false := by decide) (he : starEach (a :: es) X.env = (false, eval a X.env) :: starEach es X.env := by rfl) (hpl : (backTo pos (starEach es X.env)).any (·.1) = false := by rfl) :
    DE X c W (.Call (.Name x p) (a :: es) [] pos) (tMakeS (c.cl i) (spD c n m) dvs (WE W) tr) (fMake i ms dds m fr) :=
  ⟨pe_makeS (hK ▸ M) F hr hg hm hb hd (fun σ => passAt tk σ) ha.pa hdb he hpl, sn_make (fun vs ⟨e, r, h1, h2⟩ => by rw [← h2, hlen e r h1]; exact hn) hdd ha.sn fun _ _ _ _ h => h⟩

/-! ### isinstance -/
/-- of a class of one's own: what isinstance asks -/
structure InsT (K : PySem.W.Frag) (C : Addr) : Prop where
  cl : Cls K C
  ha : PySem.W.findIn K (.ref C) "__class__" = some (some (.builtin "object.__class__"))
  hn : PySem.W.specialIn K (.builtin "object.__class__") "__get__" = some (some (.builtin "getset_descriptor.__get__"))
  ht : PySem.W.takesIn K (.builtin "object.__class__") = some true
  hm : PySem.W.mroIn K C (.type "object") = some true
def isiP (tbl : Nat → Option Bool) (bt : String → Option Bool) : D → Option Bool
  | .non => bt "NoneType"
  | .bl _ => bt "bool"
  | .int _ => bt "int"
  | .str _ => bt "str"
  | .lst _ => bt "list"
  | .tup _ => bt "tuple"
  | .rol _ => none
  | .ins k _ => tbl k
def IsiOk (c : Ct) (u : Value) (tbl : Nat → Option Bool) (bt : String → Option Bool) : Prop := (∀ T b, bt T = some b → PySem.W.kitOne c.K (.type T) u = some b) ∧ ∀ k b, tbl k = some b → InsT c.K (c.cl k) ∧ PySem.W.kitOne c.K (.ref (c.cl k)) u = some b
theorem SqT.tyX {K : PySem.W.Frag} {H : Hp} {a : Addr} {xs : List V} (h : SqT K H a xs) : TyX K H (.ref a) (.type "tuple") := by
  rcases h with (h | ⟨o, h⟩) | h
  · exact .base (.tup h)
  · exact .fTuple h
  · obtain ⟨o, its, n, h1, h2, _⟩ := h
    exact .kTuple h1 h2
theorem isi_ty {u : Value} {tbl : Nat → Option Bool} {bt : String → Option Bool} (ok : IsiOk c u tbl bt) {F H : Hp} {d : D} {v : V} {b : Bool} (x : Ex F H) (k : View c F H d v) (h : isiP tbl bt d = some b) : ∃ t, TyX c.K H v t ∧ PySem.W.kitOne c.K t u = some b := by
  cases d with
  | non => rw [k.non]; exact ⟨_, .base .non, ok.1 _ _ h⟩
  | bl i => rw [k.bl]; exact ⟨_, .base (.bl i), ok.1 _ _ h⟩
  | int i => rw [k.int]; exact ⟨_, .base (.int i), ok.1 _ _ h⟩
  | str i => rw [k.str]; exact ⟨_, .base (.str i), ok.1 _ _ h⟩
  | lst ds => obtain ⟨p, vs, rfl, h1, _⟩ := k.lst x; exact ⟨_, .base (.lst h1), ok.1 _ _ h⟩
  | tup ds => obtain ⟨p, vs, rfl, h1, _⟩ := k.tup x; exact ⟨_, SqT.tyX h1, ok.1 _ _ h⟩
  | rol ds => cases h
  | ins j ds =>
    obtain ⟨p, dx, vs, rfl, h1, _⟩ := k.ins x
    obtain ⟨i, h2⟩ := ok.2 j b h
    exact ⟨_, .base (.ins h1 i.cl i.ha i.hn i.ht i.hm), h2⟩
def fIsi (P : D → Option Bool) (fa : FE) : FE := fun e => (fa e).bind fun r => Res.of ((lookT r.1 r.2).bind fun d => (P d).map fun b => (.vl (.bl b), r.2))
theorem sn_isi {cv : V} {u : Value} {tbl : Nat → Option Bool} {bt : String → Option Bool} (cu : ClsV cv u) (ok : IsiOk c u tbl bt) (ha : SndE c W ta fa) : SndE c W (tCB (rIsi c.K) (tCons ta (tCons (tC cv) tNil))) (fIsi (isiP tbl bt) fa) := fun z σ H F e Q I h => by
  unfold fIsi at h
  rw [Wp.bind] at h
  refine ha z σ H F e _ I (h.mono (fun r _ h v H1 F1 x1 I1 t1 => ?_) fun _ _ h => h)
  obtain ⟨q, ea, h⟩ := Wp.of h
  obtain ⟨d, l1, ea⟩ := obind ea
  obtain ⟨b, l2, rfl⟩ := omap ea
  obtain ⟨t, h1, h2⟩ := isi_ty ok I1.fh (t1.view I1 l1) l2
  exact ⟨v, cv, t, u, b, rfl, cu, h1, h2, h _ H1 F1 x1 I1 rfl⟩
theorem de_isi {cv : V} {u : Value} {tbl : Nat → Option Bool} {bt : String → Option Bool} {b : Expr} (hK : X.K = c.K) (cu : ClsV cv u) (ok : IsiOk c u tbl bt) (hg : Gl X "isinstance") (hm : X.mg "isinstance" = none) (ha : DE X c W a ta fa) (hb : PE X b (tC cv))
    (he : starEach [a, b] X.env = (false, eval a X.env) :: starEach [b] X.env := by rfl) (he2 : starEach [b] X.env = (false, eval b X.env) :: starEach [] X.env := by rfl) (hpl : (backTo pos (starEach [b] X.env)).any (·.1) = false := by rfl) :
    DE X c W (.Call (.Name "isinstance" p) [a, b] [] pos) (tCB (rIsi c.K) (tCons ta (tCons (tC cv) tNil))) (fIsi (isiP tbl bt) fa) :=
  ⟨pe_callB (hK ▸ call_isi) hg hm (by decide +kernel) (pa_cons ha.pe (pa_cons hb pa_nil he2) he) (by decide) (by decide) he hpl, sn_isi cu ok ha.sn⟩

/-! ### zip of two lists, of two tuples -/
def izip (xs ys : List D) : List D := (xs.zip ys).map fun p => .tup [p.1, p.2]
def fiZip (fr : FA) : FI := fun e => (fr e).bind fun r => Res.of ((escs r.1 r.2).bind fun q => match q.1 with
  | [.lst xs, .lst ys] => some (izip xs ys, q.2)
  | [.tup xs, .tup ys] => some (izip xs ys, q.2)
  | _ => none)
theorem zip_ix {xs ys : List D} {i : Nat} {d : D} (h : (izip xs ys)[i]? = some d) : ∃ x y, xs[i]? = some x ∧ ys[i]? = some y ∧ d = .tup [x, y] := by
  unfold izip at h
  rw [List.getElem?_map] at h
  obtain ⟨q, h1, rfl⟩ := omap h
  rw [List.getElem?_zip_eq_some] at h1
  exact ⟨q.1, q.2, h1.1, h1.2, rfl⟩
theorem itOk_zipT {F : Hp} {z' : Zs} {p q : Addr} {vs ws : List V} {xs ys : List D} (h : SqT c.K F p vs) (r : RpL c F xs vs) (h' : SqT c.K F q ws) (r' : RpL c F ys ws) : ItOk c z' (RZ.ItzT c.K p q) F (izip xs ys) := fun i σ H1 F1 e x I => by
  have h1 := ex_t (x.trans I.fh) h
  have h2 := ex_t (x.trans I.fh) h'
  refine ⟨fun d hd => ?_, fun hl => ⟨vs, ws, h1, h2, ?_⟩⟩
  · obtain ⟨a, b, hx, hy, rfl⟩ := zip_ix hd
    obtain ⟨v, hv, rv⟩ := r.get hx
    obtain ⟨w, hw, rw'⟩ := r'.get hy
    refine ⟨⟨vs, ws, v, w, h1, h2, hv, hw⟩, fun y H2 hy => ?_⟩
    obtain ⟨T, v', w', rfl, hT, rfl, k1, k2⟩ := hy
    have e1 := k1 vs h1
    have e2 := k2 ws h2
    rw [hv] at e1; cases e1
    rw [hw] at e2; cases e2
    have xn := Ex.new (o := HO.tup [v, w]) (fresh_back I.fh hT)
    exact ⟨_, xn, Ex.new hT, I.allocT hT, T, [v, w], rfl, st_of upd_same, v, [w], rfl, rv.mono (x.trans xn) _ _, w, [], rfl, rw'.mono (x.trans xn) _ _, rfl⟩
  · unfold izip at hl
    rw [List.length_map, List.length_zip, r.len, r'.len] at hl
    omega
theorem itOk_zipL {F : Hp} {z' : Zs} {p q : Addr} {vs ws : List V} {xs ys : List D} (h : SqL c.K F p vs) (r : RpL c F xs vs) (h' : SqL c.K F q ws) (r' : RpL c F ys ws) : ItOk c z' (Itz c.K p q) F (izip xs ys) := fun i σ H1 F1 e x I => by
  have h1 := ex_l (x.trans I.fh) h
  have h2 := ex_l (x.trans I.fh) h'
  refine ⟨fun d hd => ?_, fun hl => ⟨vs, ws, h1, h2, ?_⟩⟩
  · obtain ⟨a, b, hx, hy, rfl⟩ := zip_ix hd
    obtain ⟨v, hv, rv⟩ := r.get hx
    obtain ⟨w, hw, rw'⟩ := r'.get hy
    refine ⟨⟨vs, ws, v, w, h1, h2, hv, hw⟩, fun y H2 hy => ?_⟩
    obtain ⟨T, v', w', rfl, hT, rfl, k1, k2⟩ := hy
    have e1 := k1 vs h1
    have e2 := k2 ws h2
    rw [hv] at e1; cases e1
    rw [hw] at e2; cases e2
    have xn := Ex.new (o := HO.tup [v, w]) (fresh_back I.fh hT)
    exact ⟨_, xn, Ex.new hT, I.allocT hT, T, [v, w], rfl, st_of upd_same, v, [w], rfl, rv.mono (x.trans xn) _ _, w, [], rfl, rw'.mono (x.trans xn) _ _, rfl⟩
  · unfold izip at hl
    rw [List.length_map, List.length_zip, r.len, r'.len] at hl
    omega
theorem sn_iZip (ha : SndA c W tr fr) : SndI c W (RZ.iZipA c.K tr) (fiZip fr) := fun z σ H F e R I h => by
  unfold fiZip at h
  rw [Wp.bind] at h
  refine ha z σ H F e _ I (h.mono (fun r _ h vs H1 F1 x1 I1 t1 => ?_) fun _ _ h => h)
  obtain ⟨o, ea, h⟩ := Wp.of h
  obtain ⟨⟨ds, e1⟩, l1, ea⟩ := obind ea
  obtain ⟨G, x2, J, rr⟩ := t1.escs I1 l1
  dsimp only at ea
  split at ea <;> try cases ea
  · obtain ⟨v, r1, rfl, ⟨p, vs1, rfl, h1, q1⟩, w, r2, rfl, ⟨q, vs2, rfl, h2, q2⟩, rfl⟩ := rr
    exact ⟨p, q, vs1, vs2, rfl, .inl ⟨sq_of (J.fh _ _ h1), sq_of (J.fh _ _ h2), h _ _ G (x1.trans x2) J fun z' => itOk_zipL (sq_of h1) q1 (sq_of h2) q2⟩⟩
  · obtain ⟨v, r1, rfl, ⟨p, vs1, rfl, h1, q1⟩, w, r2, rfl, ⟨q, vs2, rfl, h2, q2⟩, rfl⟩ := rr
    exact ⟨p, q, vs1, vs2, rfl, .inr ⟨ex_t J.fh h1, ex_t J.fh h2, h _ _ G (x1.trans x2) J fun z' => itOk_zipT h1 q1 h2 q2⟩⟩
theorem di_zip {b : Expr} {elts : List Expr} {kk : Nat} {tpos : Pos} (hK : X.K = c.K) (hg : Gl X "zip") (hm : X.mg "zip" = none) (ha : DA X c W [a, b] tr fr)
    (hs : starEach [a, b] X.env = (false, eval a X.env) :: starEach [b] X.env := by rfl) (hpl : (backTo pos (starEach [b] X.env)).any (·.1) = false := by rfl) :
    DI X c W (.Tuple elts kk tpos) (.Call (.Name "zip" p) [a, b] [] pos) (RZ.iZipA c.K tr) (fiZip fr) := ⟨hK ▸ RZ.pi_zipA hg hm ha.pa hs hpl, sn_iZip ha.sn⟩
end
end DL

/-! DL, part k: operators that a class of one's own defines. -/
namespace PySem.W
open PySem PySem.Calls PyProof.Rows
section
variable {prog : Program} {w : World} {A : Around} {E : Value → Shared → Prop} {s : Shared} {K : Frag} {x C L f g : Addr} {h₀ : Heap} {m : Str → Option Value} {ox : Obj} {od : Option Obj}
/-- an int on the left, an own instance on the right: its reflected method -/
theorem dl_binR {op : Operator} {i : Int} {t : Tok} {id : String} {B : Builtin} {Q : Value → Shared → Prop} (F : Fr h₀ L s.heap m) (X₀ : K.In h₀) (I : InstAt s.heap x ox C od) (hc : selfFirst K C = true)
    (hs : findIn K (.ref C) (PySem.dunder op.info.2) = some (some (.ref f))) (hr : findIn K (.ref C) (dunderR op.info.2) = some (some (.ref g))) (hg : isFn K (.ref g) = true) (hsub : subIn K (.ref C) (.type "int") = some false)
    (fills : fillsNumberSlot (.type "int") op.info.2 = pure true) (slot : Slot "int" (PySem.dunder op.info.2) id) (entry : entryFor table id = some B) (args : argsOk id ⟨[.int i t, .ref x], []⟩)
    (dec : ∀ (A : Around) (E : Value → Shared → Prop) (Q : Fin → Shared → Prop), Q (.done (.ret .notImplemented)) s → wpAny (model prog w) A (B ⟨[.int i t, .ref x], []⟩) Q E s)
    (h : wpAny (model prog w) A (call (.ref g) [.ref x, .int i t]) (CmpBack Q) E s) : wpAny (model prog w) A (binaryOp op (.int i t) (.ref x)) Q E s := by
  have X := X₀.keeps F.keep
  obtain ⟨cd, rest, hcd, hm⟩ := ksp_first hc
  rcases hi : op.info with ⟨sym, nm'⟩
  rw [hi] at hs hr fills slot
  dsimp only at hs hr fills slot
  have one := ksp_try X I hr hg h
  have left : wpAny (model prog w) A (tryMethod (.int i t) (PySem.dunder nm') (.ref x)) (fun r s' => r = none ∧ s' = s) E s :=
    wpAny_tryMethod_declines (typeIs_int s i t) slot (wpAny_call (codeAny_call_builtin slot.plain entry (slot.check _ _ _ _ _ _ _ _ (typeIs_int s i t) args (dec _ _ _ ⟨rfl, rfl, rfl⟩))))
  have L1 : Looks (model prog w) s.heap (typeOf (.ref x)) (.ref C) := I.type
  have L2 : Looks (model prog w) s.heap (typeOf (.int i t)) (.type "int") := Looks.of_pure rfl
  have L3 : Looks (model prog w) s.heap (fillsNumberSlot (.ref C) nm') true := fills_K X hcd hm hs
  have L4 : Looks (model prog w) s.heap (fillsNumberSlot (.type "int") nm') true := Looks.of_pure fills
  have L5 : Looks (model prog w) s.heap (isSubtype (.ref C) (.type "int")) false := looks_subIn X hsub
  have L7 : Looks (model prog w) s.heap (numberSlotInPython (.type "int") nm') false := Looks.of_pure rfl
  have hne : (Value.type "int" == Value.ref C) = false := Bool.eq_false_iff.mpr fun q => by cases beq_iff_eq.mp q
  simp only [binaryOp, hi]
  refine wpAny_holding (wpAny_bind ?_)
  unfold binaryOp1
  refine wpAny_bind (L2.here (wpAny_bind (L1.here (wpAny_bind (L4.here ?_)))))
  simp only [hne, Bool.false_eq_true, if_false]
  refine wpAny_bind (L3.here ?_)
  simp only [Bool.and_self, if_true]
  refine wpAny_bind (L5.here ?_)
  simp only [Bool.false_eq_true, if_false, pure_bind, Bool.not_false, Bool.and_self, if_true]
  refine wpAny_bind (L7.here ?_)
  simp only [Bool.false_eq_true, if_false, pure_bind]
  refine wpAny_bind (wpAny_mono left (fun r s' hr' => ?_) fun _ _ e => e)
  obtain ⟨rfl, rfl⟩ := hr'
  dsimp only
  first
    | (refine wpAny_bind (wpAny_mono one (fun r s' hr' => ?_) fun _ _ e => e)
       obtain ⟨v, rfl, hq⟩ := hr'
       exact wpAny_bind (wpAny_rule (wpAny_pure (wpAny_pure hq))))
    | trace_state
theorem dl_decAdd {i : Int} {t : Tok} {dx : Addr} (hx : s.heap.get? x = some (instObj C dx)) (A : Around) (E : Value → Shared → Prop) (Q : Fin → Shared → Prop) (h : Q (.done (.ret .notImplemented)) s) : wpAny (model prog w) A (Builtin.«int.__add__» ⟨[.int i t, .ref x], []⟩) Q E s := by
  obtain ⟨hp, g, d, tk, os⟩ := s
  wp_walk using wpAny_load hx
  all_goals first | exact h | trace_state
theorem dl_decSub {i : Int} {t : Tok} {dx : Addr} (hx : s.heap.get? x = some (instObj C dx)) (A : Around) (E : Value → Shared → Prop) (Q : Fin → Shared → Prop) (h : Q (.done (.ret .notImplemented)) s) : wpAny (model prog w) A (Builtin.«int.__sub__» ⟨[.int i t, .ref x], []⟩) Q E s := by
  obtain ⟨hp, g, d, tk, os⟩ := s
  wp_walk using wpAny_load hx
  all_goals first | exact h | trace_state
theorem dl_decMul {i : Int} {t : Tok} {dx : Addr} (hx : s.heap.get? x = some (instObj C dx)) (A : Around) (E : Value → Shared → Prop) (Q : Fin → Shared → Prop) (h : Q (.done (.ret .notImplemented)) s) : wpAny (model prog w) A (Builtin.«int.__mul__» ⟨[.int i t, .ref x], []⟩) Q E s := by
  obtain ⟨hp, g, d, tk, os⟩ := s
  wp_walk using wpAny_load hx
  all_goals first | exact h | trace_state
end
end PySem.W

namespace DL
open PySem L2 Evl

section
variable {X : Cx} {c : Ct} {W : WX} {k n j : Nat} {f g C : Addr} {fd : FuncData} {ps : List Str} {m : Fn} {x y : Str} {p pos apos : Pos} {a b o : Expr} {es : List Expr} {ta tb to : TE} {tr : TA} {fa fb fo : FE} {fr : FA} {sp : Sp} {E : L2.St → XK} {CX : CXT} {op : Operator}

/-- a class's own operator: the def, and that it is asked first -/
structure Own2 (K : PySem.W.Frag) (C f : Addr) (op : Operator) : Prop where
  s : PySem.W.findIn K (.ref C) (PySem.dunder op.info.2) = some (some (.ref f))
  fn : PySem.W.isFn K (.ref f) = true
  fst : PySem.W.selfFirst K C = true
/-- .. with an int on the right -/
structure Own2I (K : PySem.W.Frag) (C : Addr) (op : Operator) : Prop where
  r : ∃ rc, PySem.W.findIn K (.ref C) (dunderR op.info.2) = some rc ∧ (rc = none ∨ ∃ g : Addr, rc = some (.ref g))
  h1 : ∃ fo, PySem.W.findIn K (.type "int") (PySem.dunder op.info.2) = some fo
  h2 : ∃ ro, PySem.W.findIn K (.type "int") (dunderR op.info.2) = some ro
  sub : PySem.W.subIn K (.type "int") (.ref C) = some false
/-- .. with an int on the left -/
structure Own2R (K : PySem.W.Frag) (C g : Addr) (op : Operator) : Prop where
  s : ∃ f : Addr, PySem.W.findIn K (.ref C) (PySem.dunder op.info.2) = some (some (.ref f))
  r : PySem.W.findIn K (.ref C) (dunderR op.info.2) = some (some (.ref g))
  fn : PySem.W.isFn K (.ref g) = true
  fst : PySem.W.selfFirst K C = true
  sub : PySem.W.subIn K (.ref C) (.type "int") = some false
theorem EP.back {pins : List (Addr × Obj)} {σ : L2.St} {Q : VK} {u : Value} {s' : Shared} (h : EP X pins σ Q u s') : PySem.W.CmpBack (EP X pins σ Q) u s' := by
  cases u <;> first | exact h | skip
  obtain ⟨v, H', _, r, _⟩ := h
  cases v with
  | non => cases r
  | bl _ => cases r
  | int _ => obtain ⟨_, r⟩ := r; cases r
  | str _ => obtain ⟨_, r⟩ := r; cases r
  | byt _ => obtain ⟨_, r⟩ := r; cases r
  | flt _ => obtain ⟨_, r⟩ := r; cases r
  | ref _ => cases r
  | ty _ => cases r
theorem Inv.inst {pins : List (Addr × Obj)} {σ : L2.St} {H : Hp} {s : Shared} {a dx : Addr} {fs : List (Str × V)} (I : Inv X pins σ H s) (h : H a = some (.ins C dx fs)) : s.heap.get? a = some (PySem.W.instObj C dx) ∧ ∃ od, PySem.W.InstAt s.heap a (PySem.W.instObj C dx) C (some od) := by
  obtain ⟨mA, O, _⟩ := ins_get I.hok h
  obtain ⟨od, J, _⟩ := O.look
  exact ⟨O.1, od, J⟩
def tOwnLL (C : Addr) (sp : Sp) (E : L2.St → XK) (ta tb : TE) : TE := fun σ H Q => ta σ H fun x H1 => tb σ H1 fun y H2 => ∃ a dx fs b dy gs, x = .ref a ∧ H2 a = some (.ins C dx fs) ∧ y = .ref b ∧ H2 b = some (.ins C dy gs) ∧ sp [x, y] H2 Q (E σ)
def tOwnLI (C : Addr) (sp : Sp) (E : L2.St → XK) (ta tb : TE) : TE := fun σ H Q => ta σ H fun x H1 => tb σ H1 fun y H2 => ∃ a dx fs i, x = .ref a ∧ H2 a = some (.ins C dx fs) ∧ y = .int i ∧ sp [x, y] H2 Q (E σ)
def tOwnIL (C : Addr) (sp : Sp) (E : L2.St → XK) (ta tb : TE) : TE := fun σ H Q => ta σ H fun x H1 => tb σ H1 fun y H2 => ∃ b dy gs i, x = .int i ∧ y = .ref b ∧ H2 b = some (.ins C dy gs) ∧ sp [y, x] H2 Q (E σ)
theorem binS {pins : List (Addr × Obj)} {s : Shared} {σ : L2.St} {H : Hp} {R : V → V → Hp → Prop} (ha : PE X a ta) (hb : PE X b tb) (I : Inv X pins σ H s) (h : ta σ H fun x H1 => tb σ H1 fun y H2 => R x y H2)
    {Q : Value → Shared → Prop} {fn : Value → Value → Sem Value}
    (hf : ∀ v u s2 x y H2, Inv X pins σ H2 s2 → RelV x v → RelV y u → R x y H2 → wpAny (model X.prog X.w) X.A (fn v u) Q X.xe s2) :
    wpAny (model X.prog X.w) X.A (eval a X.env) (fun v s₁ => wpAny (model X.prog X.w) X.A (eval b X.env) (fun u s₂ => wpAny (model X.prog X.w) X.A (fn v u) Q X.xe s₂) X.xe s₁) X.xe s := bin ha hb I h hf
theorem pe_ownLL (w2 : Own2 X.K C f op) (F : FnOk X.prog X.w X.K X.mg X.base CX k f fd ps sp) (hr : Room k X.A) (hb : Binds X.K fd ps []) (hx : ∀ σ, PassesAt CX X σ (E σ)) (ha : PE X a ta) (hb' : PE X b tb) : PE X (.BinOp a op b pos) (tOwnLL C sp E ta tb) := by
  refine ⟨fun pins s σ H Q I h => ?_⟩
  refine wpAny_BinOp (bin ha hb' I h fun v u s2 x y H2 I2 rx ry q => ?_)
  obtain ⟨p, dx, fs, q', dy, gs, rfl, h1, rfl, h2, hsp⟩ := q
  cases rx; cases ry
  obtain ⟨_, od, J⟩ := Inv.inst I2 h1
  obtain ⟨_, od', J'⟩ := Inv.inst I2 h2
  obtain ⟨m, hF⟩ := I2.fr
  refine PySem.W.binop_K hF I2.ok.mod.kin J J'.type w2.fst w2.s w2.fn (wpAny_mono (run_fnSD (us := [.ref p, .ref q']) (vs := [.ref p, .ref q']) F hr hb .nil (hx σ) I2 (.cons rfl (.cons rfl .nil)) hsp) (fun _ _ h => EP.back h) fun _ _ h => h)
theorem pe_ownLI (w2 : Own2 X.K C f op) (wi : Own2I X.K C op) (F : FnOk X.prog X.w X.K X.mg X.base CX k f fd ps sp) (hr : Room k X.A) (hb : Binds X.K fd ps []) (hx : ∀ σ, PassesAt CX X σ (E σ)) (ha : PE X a ta) (hb' : PE X b tb) : PE X (.BinOp a op b pos) (tOwnLI C sp E ta tb) := by
  refine ⟨fun pins s σ H Q I h => ?_⟩
  refine wpAny_BinOp (bin ha hb' I h fun v u s2 x y H2 I2 rx ry q => ?_)
  obtain ⟨p, dx, fs, i, rfl, h1, rfl, hsp⟩ := q
  cases rx
  obtain ⟨t, rfl⟩ := ry
  obtain ⟨_, od, J⟩ := Inv.inst I2 h1
  obtain ⟨m, hF⟩ := I2.fr
  obtain ⟨⟨rc, r1, r2⟩, ⟨fo, e1⟩, ⟨ro, e2⟩, hsub⟩ := wi
  refine PySem.W.ksp_binT hF I2.ok.mod.kin J (T := "int") rfl w2.fst w2.s w2.fn r1 r2 e1 e2 hsub (wpAny_mono (run_fnSD (us := [.ref p, .int i t]) (vs := [.ref p, .int i]) F hr hb .nil (hx σ) I2 (.cons rfl (.cons ⟨t, rfl⟩ .nil)) hsp) (fun _ _ h => EP.back h) fun _ _ h => h)
/-- the ints' own part in it: they decline -/
def Declines (op : Operator) : Prop := ∃ (id : String) (B : Builtin), fillsNumberSlot (.type "int") op.info.2 = pure true ∧ Nonempty (PLift (Slot "int" (PySem.dunder op.info.2) id)) ∧ entryFor table id = some B ∧ (∀ i t x, argsOk id ⟨[.int i t, .ref x], []⟩) ∧
  ∀ (prog : Program) (w : World) (s : Shared) (C x dx : Addr) (i : Int) (t : Tok), s.heap.get? x = some (PySem.W.instObj C dx) → ∀ (A : Around) (E : Value → Shared → Prop) (Q : Fin → Shared → Prop), Q (.done (.ret .notImplemented)) s → wpAny (model prog w) A (B ⟨[.int i t, .ref x], []⟩) Q E s
theorem decl_add : Declines .Add := ⟨_, _, F.fills_int_add, ⟨⟨F.slot_int_add⟩⟩, F.entry_int_add, fun _ _ _ => F.args_int_add_2 _ _, fun _ _ _ _ _ _ _ _ hx A E Q h => PySem.W.dl_decAdd hx A E Q h⟩
theorem decl_sub : Declines .Sub := ⟨_, _, F.fills_int_sub, ⟨⟨F.slot_int_sub⟩⟩, F.entry_int_sub, fun _ _ _ => F.args_int_sub_2 _ _, fun _ _ _ _ _ _ _ _ hx A E Q h => PySem.W.dl_decSub hx A E Q h⟩
theorem decl_mul : Declines .Mult := ⟨_, _, F.fills_int_mul, ⟨⟨F.slot_int_mul⟩⟩, F.entry_int_mul, fun _ _ _ => F.args_int_mul_2 _ _, fun _ _ _ _ _ _ _ _ hx A E Q h => PySem.W.dl_decMul hx A E Q h⟩
theorem pe_ownIL (d : Declines op) (w2 : Own2R X.K C g op) (F : FnOk X.prog X.w X.K X.mg X.base CX k g fd ps sp) (hr : Room k X.A) (hb : Binds X.K fd ps []) (hx : ∀ σ, PassesAt CX X σ (E σ)) (ha : PE X a ta) (hb' : PE X b tb) : PE X (.BinOp a op b pos) (tOwnIL C sp E ta tb) := by
  refine ⟨fun pins s σ H Q I h => ?_⟩
  refine wpAny_BinOp (bin ha hb' I h fun v u s2 x y H2 I2 rx ry q => ?_)
  obtain ⟨p, dx, fs, i, rfl, rfl, h1, hsp⟩ := q
  cases ry
  obtain ⟨t, rfl⟩ := rx
  obtain ⟨ho, od, J⟩ := Inv.inst I2 h1
  obtain ⟨m, hF⟩ := I2.fr
  obtain ⟨id, B, d1, ⟨⟨d2⟩⟩, d3, d4, d5⟩ := d
  obtain ⟨f0, hs⟩ := w2.s
  refine PySem.W.dl_binR hF I2.ok.mod.kin J w2.fst hs w2.r w2.fn w2.sub d1 d2 d3 (d4 _ _ _) (d5 X.prog X.w s2 C p dx i t ho) (wpAny_mono (run_fnSD (us := [.ref p, .int i t]) (vs := [.ref p, .int i]) F hr hb .nil (hx σ) I2 (.cons rfl (.cons ⟨t, rfl⟩ .nil)) hsp) (fun _ _ h => EP.back h) fun _ _ h => h)

def isIns (k : Nat) : D → Bool
  | .ins k' _ => k' == k
  | _ => false
def isInt : D → Bool
  | .int _ => true
  | _ => false
def fOwn2 (p1 p2 : D → Bool) (sw : Bool) (m : Fn) (fa fb : FE) : FE := fun e => (fa e).bind fun r => (fb r.2).bind fun q => match lookT r.1.seal q.2, lookT q.1.seal q.2 with
  | some d1, some d2 => if p1 d1 && p2 d2 then (Res.of (escN [] (if sw then [q.1.seal, r.1.seal] else [r.1.seal, q.1.seal]) q.2)).bind fun q => callM [] m q.1 q.2 else .stuck
  | _, _ => .stuck
theorem isIns_eq {d : D} (h : isIns k d = true) : ∃ ds, d = .ins k ds := by
  cases d <;> try cases h
  exact ⟨_, by rw [show _ = k from beq_iff_eq.mp h]⟩
theorem isInt_eq {d : D} (h : isInt d = true) : ∃ i, d = .int i := by
  cases d <;> try cases h
  exact ⟨_, rfl⟩
theorem sn_own2 {R : L2.St → V → V → Hp → VK → Prop} {p1 p2 : D → Bool} {sw : Bool} (hR : ∀ σ x y H2 Q F d1 d2, Ex F H2 → View c F H2 d1 x → View c F H2 d2 y → p1 d1 = true → p2 d2 = true → spD c 2 m (if sw then [y, x] else [x, y]) H2 Q (WE W σ) → R σ x y H2 Q)
    (ha : SndE c W ta fa) (hb : SndE c W tb fb) : SndE c W (fun σ H Q => ta σ H fun x H1 => tb σ H1 fun y H2 => R σ x y H2 Q) (fOwn2 p1 p2 sw m fa fb) := fun z σ H F e Q I h => by
  unfold fOwn2 at h
  rw [Wp.bind] at h
  refine ha z σ H F e _ I (h.mono (fun r _ h v H1 F1 x1 I1 t1 => ?_) fun _ _ h => h)
  obtain ⟨F2, x2, J, t2⟩ := t1.seal I1
  rw [Wp.bind] at h
  refine hb z σ H1 F2 _ _ J (h.mono (fun q _ h w H3 F3 x3 I3 t3 => ?_) fun _ _ h => h.mono (x1.trans x2))
  obtain ⟨F4, x4, K, t4⟩ := t3.seal I3
  have t2' : TR c z F4 H3 σ q.2 r.1.seal v := t2.keep (x3.trans x4)
  cases h1 : lookT r.1.seal q.2 with
  | none => rw [h1] at h; exact h.elim
  | some d1 =>
    cases h2 : lookT q.1.seal q.2 with
    | none => rw [h1, h2] at h; exact h.elim
    | some d2 =>
      rw [h1, h2] at h
      dsimp only at h
      split at h
      · rename_i hp
        obtain ⟨hp1, hp2⟩ := Bool.and_eq_true_iff.mp hp
        refine hR σ v w H3 Q F4 d1 d2 K.fh (t2'.view K h1) (t4.view K h2) hp1 hp2 ?_
        rw [Wp.bind] at h
        obtain ⟨⟨ts, e3⟩, l, g⟩ := Wp.of h
        have xx := (x1.trans x2).trans (x3.trans x4)
        cases sw with
        | false =>
          have t5 : TRs c z F4 H3 σ q.2 [r.1.seal, q.1.seal] [v, w] := ⟨v, [w], rfl, T.seal_seal _, t2', w, [], rfl, T.seal_seal _, t4, rfl⟩
          obtain ⟨G, x5, K2, t6⟩ := t5.escN K l
          have sc := sp_call (n := 2) (m := m) (dvs := []) (dds := []) (W := W) (Q := Q) K2 t6 rfl rfl (g.mono (fun r _ h v H' F' x' I' t' => h v H' F' ((xx.trans x5).trans x') I' t') fun _ _ h => h.mono (xx.trans x5))
          exact sc
        | true =>
          have t5 : TRs c z F4 H3 σ q.2 [q.1.seal, r.1.seal] [w, v] := ⟨w, [v], rfl, T.seal_seal _, t4, v, [], rfl, T.seal_seal _, t2', rfl⟩
          obtain ⟨G, x5, K2, t6⟩ := t5.escN K l
          have sc := sp_call (n := 2) (m := m) (dvs := []) (dds := []) (W := W) (Q := Q) K2 t6 rfl rfl (g.mono (fun r _ h v H' F' x' I' t' => h v H' F' ((xx.trans x5).trans x') I' t') fun _ _ h => h.mono (xx.trans x5))
          exact sc
      · exact h.elim
theorem de_ownLL {i : Nat} (tk : Takes X W) (hK : X.K = c.K) (w2 : Own2 c.K (c.cl i) f op) (F : FnOk X.prog X.w X.K X.mg X.base (L2.CX X.prog X.w) k f fd ps (spD c 2 m)) (hr : Room k X.A) (hb : Binds X.K fd ps []) (ha : DE X c W a ta fa) (hb' : DE X c W b tb fb) :
    DE X c W (.BinOp a op b pos) (tOwnLL (c.cl i) (spD c 2 m) (WE W) ta tb) (fOwn2 (isIns i) (isIns i) false m fa fb) :=
  ⟨pe_ownLL (hK ▸ w2) F hr hb (fun σ => passAt tk σ) ha.pe hb'.pe, sn_own2 (R := fun σ x y H2 Q => ∃ a dx fs b dy gs, x = .ref a ∧ H2 a = some (.ins (c.cl i) dx fs) ∧ y = .ref b ∧ H2 b = some (.ins (c.cl i) dy gs) ∧ spD c 2 m [x, y] H2 Q (WE W σ)) (fun σ x y H2 Q F d1 d2 e v1 v2 h1 h2 hs => by
    obtain ⟨ds, rfl⟩ := isIns_eq h1
    obtain ⟨es, rfl⟩ := isIns_eq h2
    obtain ⟨p, dx, vs, rfl, g1, _⟩ := v1.ins e
    obtain ⟨q, dy, ws, rfl, g2, _⟩ := v2.ins e
    exact ⟨p, dx, _, q, dy, _, rfl, g1, rfl, g2, hs⟩) ha.sn hb'.sn⟩
theorem de_ownLI {i : Nat} (tk : Takes X W) (hK : X.K = c.K) (w2 : Own2 c.K (c.cl i) f op) (wi : Own2I c.K (c.cl i) op) (F : FnOk X.prog X.w X.K X.mg X.base (L2.CX X.prog X.w) k f fd ps (spD c 2 m)) (hr : Room k X.A) (hb : Binds X.K fd ps []) (ha : DE X c W a ta fa) (hb' : DE X c W b tb fb) :
    DE X c W (.BinOp a op b pos) (tOwnLI (c.cl i) (spD c 2 m) (WE W) ta tb) (fOwn2 (isIns i) isInt false m fa fb) :=
  ⟨pe_ownLI (hK ▸ w2) (hK ▸ wi) F hr hb (fun σ => passAt tk σ) ha.pe hb'.pe, sn_own2 (R := fun σ x y H2 Q => ∃ a dx fs j, x = .ref a ∧ H2 a = some (.ins (c.cl i) dx fs) ∧ y = .int j ∧ spD c 2 m [x, y] H2 Q (WE W σ)) (fun σ x y H2 Q F d1 d2 e v1 v2 h1 h2 hs => by
    obtain ⟨ds, rfl⟩ := isIns_eq h1
    obtain ⟨j, rfl⟩ := isInt_eq h2
    obtain ⟨p, dx, vs, rfl, g1, _⟩ := v1.ins e
    exact ⟨p, dx, _, j, rfl, g1, v2.int, hs⟩) ha.sn hb'.sn⟩
theorem de_ownIL {i : Nat} (tk : Takes X W) (hK : X.K = c.K) (d : Declines op) (w2 : Own2R c.K (c.cl i) g op) (F : FnOk X.prog X.w X.K X.mg X.base (L2.CX X.prog X.w) k g fd ps (spD c 2 m)) (hr : Room k X.A) (hb : Binds X.K fd ps []) (ha : DE X c W a ta fa) (hb' : DE X c W b tb fb) :
    DE X c W (.BinOp a op b pos) (tOwnIL (c.cl i) (spD c 2 m) (WE W) ta tb) (fOwn2 isInt (isIns i) true m fa fb) :=
  ⟨pe_ownIL d (hK ▸ w2) F hr hb (fun σ => passAt tk σ) ha.pe hb'.pe, sn_own2 (R := fun σ x y H2 Q => ∃ b dy gs j, x = .int j ∧ y = .ref b ∧ H2 b = some (.ins (c.cl i) dy gs) ∧ spD c 2 m [y, x] H2 Q (WE W σ)) (fun σ x y H2 Q F d1 d2 e v1 v2 h1 h2 hs => by
    obtain ⟨j, rfl⟩ := isInt_eq h1
    obtain ⟨ds, rfl⟩ := isIns_eq h2
    obtain ⟨p, dx, vs, rfl, g1, _⟩ := v2.ins e
    exact ⟨p, dx, _, j, v1.int, rfl, g1, hs⟩) ha.sn hb'.sn⟩

/-! ### one operand -/
/-- the method of an operator of one operand -/
def un1 : UnaryOp → Str
  | .USub => "__neg__"
  | .UAdd => "__pos__"
  | .Invert => "__invert__"
  | .Not => "__bool__"
structure Own1 (K : PySem.W.Frag) (C f : Addr) (n : Str) : Prop where
  s : PySem.W.findIn K (.ref C) n = some (some (.ref f))
  fn : PySem.W.isFn K (.ref f) = true
def tOwn1 (C : Addr) (sp : Sp) (E : L2.St → XK) (ta : TE) : TE := fun σ H Q => ta σ H fun x H1 => ∃ a dx fs, x = .ref a ∧ H1 a = some (.ins C dx fs) ∧ sp [x] H1 Q (E σ)
theorem pe_own1 {o : UnaryOp} (ho : o = .USub ∨ o = .Invert) (w1 : Own1 X.K C f (un1 o)) (F : FnOk X.prog X.w X.K X.mg X.base CX k f fd ps sp) (hr : Room k X.A) (hb : Binds X.K fd ps []) (hx : ∀ σ, PassesAt CX X σ (E σ)) (ha : PE X a ta) : PE X (.UnaryOp o a pos) (tOwn1 C sp E ta) := by
  refine ⟨fun pins s σ H Q I h => ?_⟩
  refine PyProof.Rows.UnaryOp_ (thn (ha.run pins s σ H _ I h) fun v s1 ⟨x, H1, I1, r1, p, dx, fs, ex, h1, hsp⟩ => ?_)
  subst ex
  cases r1
  obtain ⟨_, od, J⟩ := Inv.inst I1 h1
  obtain ⟨m, hF⟩ := I1.fr
  have cl := run_fnSD (us := [.ref p]) (vs := [.ref p]) F hr hb .nil (hx σ) I1 (.cons rfl .nil) hsp
  rcases ho with rfl | rfl
  · exact PySem.W.ksp_neg hF I1.ok.mod.kin J w1.s w1.fn cl
  · exact PySem.W.ksp_inv hF I1.ok.mod.kin J w1.s w1.fn cl
def fOwn1 (i : Nat) (m : Fn) (fa : FE) : FE := fun e => (fa e).bind fun r => match lookT r.1.seal r.2 with
  | some d => if isIns i d then (Res.of (escN [] [r.1.seal] r.2)).bind fun q => callM [] m q.1 q.2 else .stuck
  | _ => .stuck
theorem sn_own1 {i : Nat} (ha : SndE c W ta fa) : SndE c W (tOwn1 (c.cl i) (spD c 1 m) (WE W) ta) (fOwn1 i m fa) := fun z σ H F e Q I h => by
  unfold fOwn1 at h
  rw [Wp.bind] at h
  refine ha z σ H F e _ I (h.mono (fun r _ h v H1 F1 x1 I1 t1 => ?_) fun _ _ h => h)
  obtain ⟨F2, x2, J, t2⟩ := t1.seal I1
  cases h1 : lookT r.1.seal r.2 with
  | none => rw [h1] at h; exact h.elim
  | some d =>
    rw [h1] at h
    dsimp only at h
    split at h
    · rename_i hp
      obtain ⟨ds, rfl⟩ := isIns_eq hp
      obtain ⟨p, dx, vs, rfl, g1, _⟩ := (t2.view J h1).ins J.fh
      refine ⟨p, dx, _, rfl, g1, ?_⟩
      rw [Wp.bind] at h
      obtain ⟨⟨ts, e3⟩, l, g⟩ := Wp.of h
      have t5 : TRs c z F2 H1 σ r.2 [r.1.seal] [V.ref p] := ⟨_, [], rfl, T.seal_seal _, t2, rfl⟩
      obtain ⟨G, x5, K2, t6⟩ := t5.escN J l
      have sc := sp_call (n := 1) (m := m) (dvs := []) (dds := []) (W := W) (Q := Q) K2 t6 rfl rfl (g.mono (fun r _ h v H' F' x' I' t' => h v H' F' (((x1.trans x2).trans x5).trans x') I' t') fun _ _ h => h.mono ((x1.trans x2).trans x5))
      exact sc
    · exact h.elim
theorem de_own1 {i : Nat} {o : UnaryOp} (ho : o = .USub ∨ o = .Invert) (tk : Takes X W) (hK : X.K = c.K) (w1 : Own1 c.K (c.cl i) f (un1 o)) (F : FnOk X.prog X.w X.K X.mg X.base (L2.CX X.prog X.w) k f fd ps (spD c 1 m)) (hr : Room k X.A) (hb : Binds X.K fd ps []) (ha : DE X c W a ta fa) :
    DE X c W (.UnaryOp o a pos) (tOwn1 (c.cl i) (spD c 1 m) (WE W) ta) (fOwn1 i m fa) := ⟨pe_own1 ho (hK ▸ w1) F hr hb (fun σ => passAt tk σ) ha.pe, sn_own1 ha.sn⟩
end
end DL

/-! DL, part l: == and != that a class of one's own defines (its != is the built-in one over its ==). -/
namespace PySem.W
open PySem PySem.Calls PyProof.Rows
section
variable {prog : Program} {w : World} {A : Around} {E : Value → Shared → Prop} {s : Shared} {K : Frag} {x C L f : Addr} {h₀ : Heap} {m : Str → Option Value} {ox : Obj} {od : Option Obj} {b tb : Value} {name : Str}
theorem dl_ifBoundB {M : Model} {id : String} {args : List Value} {Q : Option Value → Shared → Prop} (X : K.In s.heap) (I : InstAt s.heap x ox C od) (hs : findIn K (.ref C) name = some (some (.builtin id)))
    (hb : ∀ self, bindSpecial (.builtin id) self = pure (.builtin id, [self]))
    (h : wpAny M A (call (.builtin id) (.ref x :: args)) (fun v => Q (some v)) E s) : wpAny M A (callSpecialIfBound? (.ref x) name args) Q E s := by
  simp only [callSpecialIfBound?, bindSpecialIfBound?]
  refine wpAny_holding (wpAny_bind (wpAny_bind (wpAny_bind (I.type.here ((looks_findIn X hs).here ?_)))))
  refine wpAny_bind (wpAny_askSetting (wpAny_ite ?_))
  have fin : wpAny M A (call (.builtin id) ([.ref x] ++ args) >>= fun v => pure (some v)) Q E s := wpAny_bind (wpAny_mono h (fun v s' h' => wpAny_pure h') fun _ _ h' => h')
  split
  · exact wpAny_bind ((Looks.of_pure (hb _)).here (wpAny_pure (by exact fin)))
  · exact wpAny_tryCatch (wpAny_bind ((Looks.of_pure (hb _)).here (wpAny_pure (by exact fin))))
open Builtin in
theorem dl_ne {Q : Value → Shared → Prop} (hu : A.units < cLine) (hu1 : A.in1.units < cLine) (F : Fr h₀ L s.heap m) (X₀ : K.In h₀) (I : InstAt s.heap x ox C od) (hb : Looks (model prog w) s.heap (typeOf b) tb) (hn : notFirst K C tb = true)
    (hm : mroIn K C (.type "object") = some true) (hs : findIn K (.ref C) "__ne__" = some (some (.builtin "object.__ne__"))) (he : findIn K (.ref C) "__eq__" = some (some (.ref f))) (hf : isFn K (.ref f) = true)
    (h : wpAny (model prog w) A.in1 (call (.ref f) [.ref x, b]) (fun v s' => ∃ k, v = .bool k ∧ Q (.bool (!k)) s') E s) : wpAny (model prog w) A (richCompare .NotEq (.ref x) b) Q E s := by
  have X := X₀.keeps F.keep
  have one : wpAny (model prog w) A (tryCompare (.ref x) (cmpInfo .NotEq).2.1 b) (fun r s' => ∃ v, r = some v ∧ Q v s') E s := by
    unfold tryCompare
    refine wpAny_bind (dl_ifBoundB X I (name := (cmpInfo .NotEq).2.1) hs PySem.F.slot_object_ne.bind ?_)
    refine wpAny_call (codeAny_call_builtin PySem.F.slot_object_ne.plain PySem.F.entry_object_ne (check_slot (i := "object.__ne__") (owner := "object") (n := "__ne__") (by decide +kernel) (by decide +kernel) (I.type.andThen (looks_mroIn X hm)) (PySem.F.args_object_ne_2 _ _) ?_))
    unfold Builtin.«object.__ne__»
    refine wpAny_bind (m := slotArgs "__ne__" 1 _) (wpAny_pure ?_)
    refine wpAny_bind (m := cRoomFor _ _) (wpAny_cRoomFor hu1 ?_)
    refine wpAny_bind (m := callSpecialIfBound? (.ref x) (Str.ofString "__eq__") _) (ifBound_K X I he hf (wpAny_mono h (fun r s' hq => ?_) fun _ _ y => y))
    obtain ⟨k, rfl, hq⟩ := hq
    refine wpAny_bind (m := truthy (.bool k)) (wpAny_truthy_bool ?_)
    exact wpAny_pure (wpAny_pure ⟨_, rfl, hq⟩)
  unfold richCompare
  simp only [oneThing_ref]
  refine wpAny_holding (wpAny_bind (wpAny_cRoomFor hu ?_))
  refine wpAny_bind (I.type.here (wpAny_bind (hb.here ?_)))
  split
  · rename_i q
    have e : subIn K tb (.ref C) = some false := by
      rcases Bool.or_eq_true_iff.mp hn with e | e
      · rw [beq_iff_eq.mp e] at q; simp at q
      · exact beq_iff_eq.mp e
    refine wpAny_bind ((looks_subIn X e).here ?_)
    simp only [Bool.false_eq_true, if_false]
    refine wpAny_bind (wpAny_mono one (fun r s' z => ?_) fun _ _ e => e)
    obtain ⟨v, rfl, hq⟩ := z
    exact wpAny_pure hq
  · refine wpAny_bind (wpAny_pure ?_)
    simp only [Bool.false_eq_true, if_false]
    refine wpAny_bind (wpAny_mono one (fun r s' z => ?_) fun _ _ e => e)
    obtain ⟨v, rfl, hq⟩ := z
    exact wpAny_pure hq
end
end PySem.W

namespace DL
open PySem L2 Evl
section
variable {X : Cx} {c : Ct} {W : WX} {k n j : Nat} {f g C : Addr} {fd : FuncData} {ps : List Str} {m : Fn} {p pos apos : Pos} {a b o : Expr} {ta tb : TE} {fa fb : FE} {sp : Sp} {E : L2.St → XK} {CX : CXT}

/-- the class's own == -/
structure OwnE (K : PySem.W.Frag) (C f : Addr) : Prop where
  s : PySem.W.findIn K (.ref C) "__eq__" = some (some (.ref f))
  fn : PySem.W.isFn K (.ref f) = true
/-- .. and the != that is built in -/
structure OwnN (K : PySem.W.Frag) (C : Addr) : Prop where
  n : PySem.W.findIn K (.ref C) "__ne__" = some (some (.builtin "object.__ne__"))
  m : PySem.W.mroIn K C (.type "object") = some true
/-- what may stand on the right -/
def eqR (tbl : Nat → Bool) (bt : String → Bool) : D → Bool
  | .non => bt "NoneType"
  | .bl _ => bt "bool"
  | .int _ => bt "int"
  | .str _ => bt "str"
  | .lst _ => bt "list"
  | .tup _ => bt "tuple"
  | .rol _ => false
  | .ins k _ => tbl k
def EqROk (c : Ct) (C : Addr) (tbl : Nat → Bool) (bt : String → Bool) : Prop := (∀ T, bt T = true → PySem.W.notFirst c.K C (.type T) = true) ∧ ∀ k, tbl k = true → InsT c.K (c.cl k) ∧ PySem.W.notFirst c.K C (.ref (c.cl k)) = true
theorem eqR_ty {tbl : Nat → Bool} {bt : String → Bool} (ok : EqROk c C tbl bt) {F H : Hp} {d : D} {v : V} (x : Ex F H) (k : View c F H d v) (h : eqR tbl bt d = true) : ∃ t, TyX c.K H v t ∧ PySem.W.notFirst c.K C t = true := by
  cases d with
  | non => rw [k.non]; exact ⟨_, .base .non, ok.1 _ h⟩
  | bl i => rw [k.bl]; exact ⟨_, .base (.bl i), ok.1 _ h⟩
  | int i => rw [k.int]; exact ⟨_, .base (.int i), ok.1 _ h⟩
  | str i => rw [k.str]; exact ⟨_, .base (.str i), ok.1 _ h⟩
  | lst ds => obtain ⟨p, vs, rfl, h1, _⟩ := k.lst x; exact ⟨_, .base (.lst h1), ok.1 _ h⟩
  | tup ds => obtain ⟨p, vs, rfl, h1, _⟩ := k.tup x; exact ⟨_, SqT.tyX h1, ok.1 _ h⟩
  | rol ds => cases h
  | ins j ds =>
    obtain ⟨p, dx, vs, rfl, h1, _⟩ := k.ins x
    obtain ⟨i, h2⟩ := ok.2 j h
    exact ⟨_, .base (.ins h1 i.cl i.ha i.hn i.ht i.hm), h2⟩
/-- an operation of two operands, by the frame's slots -/
def OpS (X : Cx) (f : Value → Value → Sem Value) (r : L2.St → R2) : Prop :=
  ∀ (pins : List (Addr × Obj)) (s : Shared) (σ : L2.St) (H : Hp) (x y : V) (v u : Value) (Q : VK), Inv X pins σ H s → RelV x v → RelV y u → r σ x y H Q →
    wpAny (model X.prog X.w) X.A (f v u) (EP X pins σ Q) X.xe s
def tOpS (r : L2.St → R2) (ta tb : TE) : TE := fun σ H Q => ta σ H fun x H1 => tb σ H1 fun y H2 => r σ x y H2 Q
theorem pe_cmpS {op : CmpOp} {r : L2.St → R2} (ho : OpS X (compareOp op) r) (ha : PE X a ta) (hb : PE X b tb) (hm : behindInMarks op b = false) : PE X (.Compare a [op] [b] pos) (tOpS r ta tb) := by
  refine ⟨fun pins s σ H Q I h => ?_⟩
  exact wpAny_Compare1 (binT ha hb I h fun v u s2 x y H2 I2 rx ry q => ho pins s2 σ H2 x y v u Q I2 rx ry q) hm
theorem pt_cmpS {op : CmpOp} {r : L2.St → R2} (ho : OpS X (compareOp op) r) (ha : PE X a ta) (hb : PE X b tb) (hm : behindInMarks op b = false) : PT X (.Compare a [op] [b] pos) (tTest (tOpS r ta tb)) := by
  refine ⟨fun pins s σ H Q I h => ?_⟩
  refine wpAny_isTrue_Compare1 (thn (ha.run pins s σ H _ I h) fun v s1 ⟨x, H1, I1, r1, q1⟩ => thn (hb.run pins s1 σ H1 _ I1 q1) fun u s2 ⟨y, H2, I2, r2, q2⟩ =>
    thn (ho pins s2 σ H2 x y v u _ I2 r1 r2 q2) fun c s3 ⟨z, H3, I3, r3, k, e, q3⟩ => ?_) hm
  subst e
  cases r3
  exact wpAny_truthy_bool ⟨H3, I3, q3⟩
def rOwnE (K : PySem.W.Frag) (C : Addr) (sp : Sp) (E : L2.St → XK) : L2.St → R2 := fun σ x y H2 Q => ∃ a dx fs t, x = .ref a ∧ H2 a = some (.ins C dx fs) ∧ TyX K H2 y t ∧ PySem.W.notFirst K C t = true ∧ sp [x, y] H2 Q (E σ)
def rOwnN (K : PySem.W.Frag) (C : Addr) (sp : Sp) (E : L2.St → XK) : L2.St → R2 := fun σ x y H2 Q => ∃ a dx fs t, x = .ref a ∧ H2 a = some (.ins C dx fs) ∧ TyX K H2 y t ∧ PySem.W.notFirst K C t = true ∧ sp [x, y] H2 (fun v H3 => ∃ b, v = .bl b ∧ Q (.bl (!b)) H3) (E σ)
theorem ops_ownE (w : OwnE X.K C f) (F : FnOk X.prog X.w X.K X.mg X.base CX k f fd ps sp) (hr : Room k X.A) (hb : Binds X.K fd ps []) (hx : ∀ σ, PassesAt CX X σ (E σ)) : OpS X (compareOp .Eq) (rOwnE X.K C sp E) := by
  intro pins s σ H x y v u Q I rx ry q
  obtain ⟨p, dx, fs, t, rfl, h1, ty, nf, hsp⟩ := q
  cases rx
  obtain ⟨_, od, J⟩ := Inv.inst I h1
  obtain ⟨m, hF⟩ := I.fr
  obtain ⟨P, kit, hP, _⟩ := kit_of I ry ty
  have cl := run_fnSD (us := [.ref p, u]) (vs := [.ref p, y]) F hr hb .nil (hx σ) I (.cons rfl (.cons ry .nil)) hsp
  show wpAny _ _ (compareOp .Eq (.ref p) u) _ _ _
  unfold compareOp
  exact PySem.W.cmp_K hr.units0 hF I.ok.mod.kin J (kit.ty _ _ I.kIn hP) nf w.s w.fn (wpAny_mono cl (fun _ _ h => EP.back h) fun _ _ h => h)
theorem ops_ownN (w : OwnE X.K C f) (wn : OwnN X.K C) (F : FnOk X.prog X.w X.K X.mg X.base CX k f fd ps sp) (hr : Room (k + 1) X.A) (hb : Binds X.K fd ps []) (hx : ∀ σ, PassesAt CX X σ (E σ)) : OpS X (compareOp .NotEq) (rOwnN X.K C sp E) := by
  intro pins s σ H x y v u Q I rx ry q
  obtain ⟨p, dx, fs, t, rfl, h1, ty, nf, hsp⟩ := q
  cases rx
  obtain ⟨_, od, J⟩ := Inv.inst I h1
  obtain ⟨m, hF⟩ := I.fr
  obtain ⟨P, kit, hP, _⟩ := kit_of I ry ty
  have r2 : Vals [V.ref p, y] [Value.ref p, u] := .cons rfl (.cons ry .nil)
  have hl := F.len _ _ _ _ hsp
  show wpAny _ _ (compareOp .NotEq (.ref p) u) _ _ _
  unfold compareOp
  refine PySem.W.dl_ne hr.units0 hr.in1.units0 hF I.ok.mod.kin J (kit.ty _ _ I.kIn hP) nf wn.m wn.n w.s w.fn ?_
  refine wpAny_call (codeAny_mono (F.run X.A.in1 X.stack s H ⟨[.ref p, u], []⟩ [.ref p, u] [.ref p, y] _ (E σ) hr.in1 I.env0.in1 (by
    have := hb s [.ref p, u] I.kIn (by simpa using hl)
    simpa using this) r2 hsp) fun r s' hq => ?_)
  cases r with
  | error e => exact hx σ pins H s e s' I hq
  | ok fl =>
    cases fl with
    | ret u =>
      obtain ⟨v', H', I', rv, b, eb, q'⟩ := I.after hq
      subst eb
      cases rv
      exact ⟨b, rfl, V.bl (!b), H', I', rfl, q'⟩
    | next => exact False.elim hq
    | brk => exact False.elim hq
    | cont => exact False.elim hq
/-- .. on data -/
def fOwnE (i : Nat) (P : D → Bool) (m : Fn) (fa fb : FE) : FE := fOwn2 (isIns i) P false m fa fb
def fOwnN (i : Nat) (P : D → Bool) (m : Fn) (fa fb : FE) : FE := fun e => (fOwn2 (isIns i) P false m fa fb e).bind fun r => match r.1 with
  | .vl (.bl b) => .ok (.vl (.bl (!b)), r.2)
  | _ => .stuck
theorem sn_ownE {i : Nat} {tbl : Nat → Bool} {bt : String → Bool} (ok : EqROk c (c.cl i) tbl bt) (ha : SndE c W ta fa) (hb : SndE c W tb fb) : SndE c W (tOpS (rOwnE c.K (c.cl i) (spD c 2 m) (WE W)) ta tb) (fOwnE i (eqR tbl bt) m fa fb) :=
  sn_own2 (R := fun σ x y H2 Q => rOwnE c.K (c.cl i) (spD c 2 m) (WE W) σ x y H2 Q) (fun σ x y H2 Q F d1 d2 e v1 v2 h1 h2 hs => by
    obtain ⟨ds, rfl⟩ := isIns_eq h1
    obtain ⟨p, dx, vs, rfl, g1, _⟩ := v1.ins e
    obtain ⟨t, ty, nf⟩ := eqR_ty ok e v2 h2
    exact ⟨p, dx, _, t, rfl, g1, ty, nf, hs⟩) ha hb
theorem sn_ownN {i : Nat} {tbl : Nat → Bool} {bt : String → Bool} (ok : EqROk c (c.cl i) tbl bt) (ha : SndE c W ta fa) (hb : SndE c W tb fb) : SndE c W (tOpS (rOwnN c.K (c.cl i) (spD c 2 m) (WE W)) ta tb) (fOwnN i (eqR tbl bt) m fa fb) := fun z σ H F e Q I h => by
  unfold fOwnN at h
  rw [Wp.bind] at h
  exact sn_own2 (R := fun σ x y H2 Q => ∃ a dx fs t, x = .ref a ∧ H2 a = some (.ins (c.cl i) dx fs) ∧ TyX c.K H2 y t ∧ PySem.W.notFirst c.K (c.cl i) t = true ∧ spD c 2 m [x, y] H2 Q (WE W σ)) (fun σ x y H2 Q F d1 d2 e v1 v2 h1 h2 hs => by
    obtain ⟨ds, rfl⟩ := isIns_eq h1
    obtain ⟨p, dx, vs, rfl, g1, _⟩ := v1.ins e
    obtain ⟨t, ty, nf⟩ := eqR_ty ok e v2 h2
    exact ⟨p, dx, _, t, rfl, g1, ty, nf, hs⟩) ha hb z σ H F e (fun v H3 => ∃ b, v = .bl b ∧ Q (.bl (!b)) H3) I (h.mono (fun r _ h v H' F' x' I' t' => by
      obtain ⟨t, e1⟩ := r
      dsimp only at h
      split at h
      · rename_i b q
        exact ⟨b, t', h _ H' F' x' I' rfl⟩
      · exact h.elim) fun _ _ h => h)
theorem de_ownE {i : Nat} {tbl : Nat → Bool} {bt : String → Bool} (tk : Takes X W) (hK : X.K = c.K) (w : OwnE c.K (c.cl i) f) (ok : EqROk c (c.cl i) tbl bt) (F : FnOk X.prog X.w X.K X.mg X.base (L2.CX X.prog X.w) k f fd ps (spD c 2 m)) (hr : Room k X.A) (hb : Binds X.K fd ps []) (ha : DE X c W a ta fa) (hb' : DE X c W b tb fb) (hm : behindInMarks .Eq b = false := by rfl) :
    DE X c W (.Compare a [.Eq] [b] pos) (tOpS (rOwnE c.K (c.cl i) (spD c 2 m) (WE W)) ta tb) (fOwnE i (eqR tbl bt) m fa fb) :=
  ⟨pe_cmpS (hK ▸ ops_ownE (hK ▸ w) F hr hb fun σ => passAt tk σ) ha.pe hb'.pe hm, sn_ownE ok ha.sn hb'.sn⟩
theorem dt_ownE {i : Nat} {tbl : Nat → Bool} {bt : String → Bool} (tk : Takes X W) (hK : X.K = c.K) (w : OwnE c.K (c.cl i) f) (ok : EqROk c (c.cl i) tbl bt) (F : FnOk X.prog X.w X.K X.mg X.base (L2.CX X.prog X.w) k f fd ps (spD c 2 m)) (hr : Room k X.A) (hb : Binds X.K fd ps []) (ha : DE X c W a ta fa) (hb' : DE X c W b tb fb) (hm : behindInMarks .Eq b = false := by rfl) :
    DT X c W (.Compare a [.Eq] [b] pos) (tTest (tOpS (rOwnE c.K (c.cl i) (spD c 2 m) (WE W)) ta tb)) (fB (fOwnE i (eqR tbl bt) m fa fb)) :=
  ⟨pt_cmpS (hK ▸ ops_ownE (hK ▸ w) F hr hb fun σ => passAt tk σ) ha.pe hb'.pe hm, sn_B (fun _ _ _ h => h) (sn_ownE ok ha.sn hb'.sn)⟩
theorem de_ownN {i : Nat} {tbl : Nat → Bool} {bt : String → Bool} (tk : Takes X W) (hK : X.K = c.K) (w : OwnE c.K (c.cl i) f) (wn : OwnN c.K (c.cl i)) (ok : EqROk c (c.cl i) tbl bt) (F : FnOk X.prog X.w X.K X.mg X.base (L2.CX X.prog X.w) k f fd ps (spD c 2 m)) (hr : Room (k + 1) X.A) (hb : Binds X.K fd ps []) (ha : DE X c W a ta fa) (hb' : DE X c W b tb fb) (hm : behindInMarks .NotEq b = false := by rfl) :
    DE X c W (.Compare a [.NotEq] [b] pos) (tOpS (rOwnN c.K (c.cl i) (spD c 2 m) (WE W)) ta tb) (fOwnN i (eqR tbl bt) m fa fb) :=
  ⟨pe_cmpS (hK ▸ ops_ownN (hK ▸ w) (hK ▸ wn) F hr hb fun σ => passAt tk σ) ha.pe hb'.pe hm, sn_ownN ok ha.sn hb'.sn⟩
theorem dt_ownN {i : Nat} {tbl : Nat → Bool} {bt : String → Bool} (tk : Takes X W) (hK : X.K = c.K) (w : OwnE c.K (c.cl i) f) (wn : OwnN c.K (c.cl i)) (ok : EqROk c (c.cl i) tbl bt) (F : FnOk X.prog X.w X.K X.mg X.base (L2.CX X.prog X.w) k f fd ps (spD c 2 m)) (hr : Room (k + 1) X.A) (hb : Binds X.K fd ps []) (ha : DE X c W a ta fa) (hb' : DE X c W b tb fb) (hm : behindInMarks .NotEq b = false := by rfl) :
    DT X c W (.Compare a [.NotEq] [b] pos) (tTest (tOpS (rOwnN c.K (c.cl i) (spD c 2 m) (WE W)) ta tb)) (fB (fOwnN i (eqR tbl bt) m fa fb)) :=
  ⟨pt_cmpS (hK ▸ ops_ownN (hK ▸ w) (hK ▸ wn) F hr hb fun σ => passAt tk σ) ha.pe hb'.pe hm, sn_B (fun _ _ _ h => h) (sn_ownN ok ha.sn hb'.sn)⟩
end
end DL

/-! DL, part m: a call whose first argument is a new object that the callee may change; short names for the rules. -/
namespace DL
open PySem L2 Evl

section
variable {c : Ct} {z : Zs} {W : WX} {σ σ' : L2.St} {H H' F F' G : Hp} {e e' : DEnv} {p : Addr} {o : HO}
/-! ### an object put aside -/
def hideZ (z : Zs) (p : Addr) (o : HO) : Zs := ⟨upd z.H0 p o, z.F0, fun q => z.Bo q ∧ q ≠ p, z.V0⟩
theorem I2.hide (I : I2 c z σ H F e) (w : H p = some o) (hF : F p = none) (hr : ∀ i, ¬ RootAt σ e i p) : I2 c (hideZ z p o) σ H F e := by
  refine ⟨I.len, I.f0, I.fh, fun q u hq hb => ?_, fun i b h => ?_, I.dist, fun q h => I.bo q h.1, fun q h1 h2 => ?_, I.brv⟩
  · by_cases e : q = p
    · subst e
      have hq' : upd z.H0 q o q = some u := hq
      rw [upd_same] at hq'; cases hq'; exact w
    · have hq' : upd z.H0 p o q = some u := hq
      rw [upd_ne e] at hq'
      exact I.keep q u hq' fun hB => hb ⟨hB, e⟩
  · obtain ⟨v, hv, r⟩ := I.slot i b h
    refine ⟨v, hv, ?_⟩
    cases b with
    | sh d => exact r
    | ow d =>
      obtain ⟨q, rfl, w', h0⟩ := r
      have ne : q ≠ p := fun z => hr i ⟨_, h, rfl, z ▸ hv⟩
      exact ⟨q, rfl, w', by show upd z.H0 p o q = none; rw [upd_ne ne]; exact h0⟩
    | br d =>
      obtain ⟨q, rfl, w', hB⟩ := r
      have ne : q ≠ p := fun z => hr i ⟨_, h, rfl, z ▸ hv⟩
      exact ⟨q, rfl, w', hB, ne⟩
    | ex x => exact r
  · by_cases e : q = p
    · subst e; exact hF
    · have h1' : upd z.H0 p o q ≠ none := h1
      rw [upd_ne e] at h1'
      exact I.nf q h1' h2
theorem I2.unhide (I : I2 c (hideZ z p o) σ H F e) (h0 : z.H0 p = none) (hF : z.F0 p = none) : I2 c z σ H F e ∧ H p = some o ∧ F p = none ∧ ∀ i, ¬ RootAt σ e i p := by
  have hp : H p = some o := I.keep p o (by show upd z.H0 p o p = _; rw [upd_same]) fun h => h.2 rfl
  refine ⟨⟨I.len, I.f0, I.fh, fun q u hq hb => ?_, fun i b h => ?_, I.dist, fun q h => ?_, fun q h1 h2 => ?_, I.brv⟩, hp, I.nf p (by show upd z.H0 p o p ≠ none; rw [upd_same]; exact fun z => nomatch z) hF, fun i ⟨b, h1, h2, h3⟩ => ?_⟩
  · have e : q ≠ p := fun z => by rw [z, h0] at hq; cases hq
    exact I.keep q u (by show upd z.H0 p o q = _; rw [upd_ne e]; exact hq) fun h => hb h.1
  · obtain ⟨v, hv, r⟩ := I.slot i b h
    refine ⟨v, hv, ?_⟩
    cases b with
    | sh d => exact r
    | ow d =>
      obtain ⟨q, rfl, w', h1⟩ := r
      have h1' : upd z.H0 p o q = none := h1
      have ne : q ≠ p := fun z => by rw [z, upd_same] at h1'; cases h1'
      rw [upd_ne ne] at h1'
      exact ⟨q, rfl, w', h1'⟩
    | br d => obtain ⟨q, rfl, w', hB⟩ := r; exact ⟨q, rfl, w', hB.1⟩
    | ex x => exact r
  · by_cases e : q = p
    · subst e; exact ⟨o, hp⟩
    · exact I.bo q ⟨h, e⟩
  · have e : q ≠ p := fun z => h1 (by rw [z]; exact h0)
    exact I.nf q (by show upd z.H0 p o q ≠ none; rw [upd_ne e]; exact h1) h2
  · obtain ⟨v, hv, r⟩ := I.slot i b h1
    rw [h3] at hv; cases hv
    cases b with
    | sh d => cases h2
    | ow d =>
      obtain ⟨q, e, w', h1⟩ := r
      cases e
      have h1' : upd z.H0 p o p = none := h1
      rw [upd_same] at h1'; cases h1'
    | br d => obtain ⟨q, e, w', hB⟩ := r; cases e; exact hB.2 rfl
    | ex x => cases h2

def dropG (r : Res (T × DEnv)) : Res (T × DEnv) := match r with
  | .stuck => .stuck
  | .exc x e => .exc x e.dropLast
  | .ok (.sl _, _) => .stuck
  | .ok (.vl d, e) => .ok (.vl d, e.dropLast)
  | .ok (.nw d, e) => .ok (.nw d, e.dropLast)
/-- f(a new object, ..) -/
def fCallF (ms : List Bool) (dds : List D) (m : Fn) (f1 : FE) (fr : FA) : FE := fun e => (f1 e).bind fun r1 => match r1.1 with
  | .nw d => (fr r1.2).bind fun r => (Res.of (escN ms r.1 r.2)).bind fun q => dropG (callM dds m (.sl q.2.length :: q.1) (q.2 ++ [some (.ow d)]))
  | _ => .stuck
theorem sn_callF {n : Nat} {ms : List Bool} {m : Fn} {dvs : List V} {dds : List D} {t1 : TE} {f1 : FE} {ta : TA} {fa : FA} (hn : ∀ vs : List V, (∃ e r, fa e = .ok r ∧ r.1.length = vs.length) → vs.length + dvs.length + 1 = n) (hd : ∀ F, RpL c F dds dvs) (h1 : SndE c W t1 f1) (ha : SndA c W ta fa) :
    SndE c W (tCallSD (spD c n m) dvs (WE W) (tCons t1 ta)) (fCallF ms dds m f1 fa) := fun z σ H F e Q I h => by
  unfold fCallF at h
  rw [Wp.bind] at h
  refine h1 z σ H F e _ I (h.mono (fun r1 _ g v H1 F1 x1 I1 t1 => ?_) fun _ _ h => h)
  clear h
  obtain ⟨t, e1⟩ := r1
  cases t with
  | sl i => exact g.elim
  | vl d => exact g.elim
  | nw d =>
    obtain ⟨x, rfl, w, h0, hr⟩ := t1
    obtain ⟨o, ho⟩ := w.at
    have hF0 : z.F0 x = none := by
      cases q : z.F0 x with
      | none => rfl
      | some u => have := I1.f0 _ _ q; rw [w.1] at this; cases this
    dsimp only at g
    rw [Wp.bind] at g
    refine ha (hideZ z x o) σ H1 F1 e1 _ (I1.hide ho w.1 hr) (g.mono (fun r hrr g vs H2 F2 x2 K1 t2 => ?_) fun xv e' g cls dd H' F' x' K r => g cls dd H' F' (x1.trans x') (K.unhide h0 hF0).1 r)
    rw [Wp.bind] at g
    obtain ⟨⟨ts, e2⟩, l, g⟩ := Wp.of g
    obtain ⟨G, x3, J, t3⟩ := t2.escN K1 l
    obtain ⟨J0, hp, hG, nr⟩ := J.unhide h0 hF0
    have w2 : Own c G H2 d x := w.mono (x2.trans x3) hG fun u hu => by rw [ho] at hu; cases hu; exact hp
    have J2 := J0.ext w2 h0 nr
    have t3' : TRs c z G H2 σ e2 ts vs := by
      have key : ∀ {ts : List T} {vs : List V}, TRs c (hideZ z x o) G H2 σ e2 ts vs → TRs c z G H2 σ e2 ts vs := by
        intro ts
        induction ts with
        | nil => intro vs h; exact h
        | cons t ts ih =>
          intro vs ⟨v, r, q1, q2, q3, q4⟩
          refine ⟨v, r, q1, q2, ?_, ih q4⟩
          cases t with
          | sl i => exact q3
          | vl d => exact q3
          | nw d => cases q2
      exact key t3
    have t4 : TRs c z G H2 (σ ++ [some (.ref x)]) (e2 ++ [some (.ow d)]) (.sl e2.length :: ts) (.ref x :: vs) :=
      ⟨_, _, rfl, rfl, by show (σ ++ [some (V.ref x)])[e2.length]? = _; rw [J.len]; simp, TRs.ext t3'⟩
    have sc := sp_call (n := n) (m := m) (dvs := dvs) (dds := dds) (W := fun cls dd _ H => W cls dd σ H) (Q := Q) J2 t4 (by
      have := hn vs ⟨_, r, hrr, t2.len⟩
      simp; omega) (hd G) ?_
    · exact sc
    · have hln : ∀ {e' : DEnv} {H' F' : Hp}, I2 c z (σ ++ [some (V.ref x)]) H' F' e' → e'.length = e2.length + 1 := fun {e' H' F'} K => by rw [K.len]; simp [J.len]
      cases hq : callM dds m (.sl e2.length :: ts) (e2 ++ [some (.ow d)]) with
      | stuck => rw [hq] at g; exact g.elim
      | exc xv e' =>
        rw [hq] at g
        intro cls dd H' F' x' K r'
        obtain ⟨e0, b, rfl, l0, ed, _⟩ := drop_last_of (hln K)
        have K0 := K.unext
        have g' : Xp c z W σ F xv (List.dropLast (e0 ++ [b])) := g
        rw [ed] at g'
        exact g' cls dd H' F' (((x1.trans x2).trans x3).trans x') K0 r'
      | ok r' =>
        rw [hq] at g
        obtain ⟨t, e'⟩ := r'
        intro v H' F' x' K t'
        obtain ⟨e0, b, rfl, l0, ed, eg⟩ := drop_last_of (hln K)
        have K0 := K.unext
        cases t with
        | sl i => exact g.elim
        | nw d' =>
          have g' : ∀ v H' F', Ex F F' → I2 c z σ H' F' (List.dropLast (e0 ++ [b])) → TR c z F' H' σ (List.dropLast (e0 ++ [b])) (.nw d') v → Q v H' := g
          rw [ed] at g'
          obtain ⟨q, rfl, w', h0', hn'⟩ := t'
          refine g' _ H' F' (((x1.trans x2).trans x3).trans x') K0 ⟨q, rfl, w', h0', fun i ⟨b', q1, q2, q3⟩ => hn' i ⟨b', ?_, q2, ?_⟩⟩
          · show (e0 ++ [b])[i]? = _
            rw [List.getElem?_append_left (get_lt q1)]; exact q1
          · rw [List.getElem?_append_left (get_lt q3)]; exact q3
        | vl d' =>
          have g' : ∀ v H' F', Ex F F' → I2 c z σ H' F' (List.dropLast (e0 ++ [b])) → TR c z F' H' σ (List.dropLast (e0 ++ [b])) (.vl d') v → Q v H' := g
          rw [ed] at g'
          exact g' v H' F' (((x1.trans x2).trans x3).trans x') K0 t'
end

section
variable {X : Cx} {c : Ct} {W : WX} {k n j : Nat} {f C : Addr} {fd : FuncData} {ps : List Str} {m : Fn} {x y : Str} {p pos apos : Pos} {a b o : Expr} {es : List Expr} {ta tb to : TE} {tr : TA} {fa fb fo : FE} {fr : FA} {dvs : List V} {ds : List Value} {dds : List D} {ms : List Bool} {i : Nat}
theorem de_callF (tk : Takes X W) (F : FnOk X.prog X.w X.K X.mg X.base (CX X.prog X.w) k f fd ps (spD c n m)) (hr : Room k X.A) (hg : Gl X x) (hm : X.mg x = some (.ref f)) (hk : PySem.W.keepIn X.K (.ref f) = true) (hb : Binds X.K fd ps ds) (hd : Vals dvs ds) (hdd : ∀ F, RpL c F dds dvs)
    (hlen : LenA fr j) (hn : j + dvs.length + 1 = n) (h1 : DE X c W a ta fa) (ha : DA X c W es tr fr) (hs : starEach (a :: es) X.env = (false, eval a X.env) :: starEach es X.env := by rfl) (hdb : (x == ("__debug__" : Str)) = false := by decide) (hpl : (backTo pos (starEach es X.env)).any (·.1) = false := by rfl) :
    DE X c W (.Call (.Name x p) (a :: es) [] pos) (tCallSD (spD c n m) dvs (WE W) (tCons ta tr)) (fCallF ms dds m fa fr) :=
  ⟨pe_callSD F hr hg hm hk hb hd (fun σ => passAt tk σ) (pa_cons h1.pe ha.pa hs) hdb hs hpl, sn_callF (fun vs ⟨e, r, q1, q2⟩ => by rw [← q2, hlen e r q1]; exact hn) hdd h1.sn ha.sn⟩

/-! ### short names -/
theorem de_v (i : Nat) {x : Str} {pos : Pos} (hN : X.N[i]? = some x := by rfl) (hv : Vis X.env.scope x := by first | exact Or.inl rfl | exact Or.inr (Or.inl rfl) | exact Or.inr (Or.inr rfl)) (hd : (x == ("__debug__" : Str)) = false := by decide)
    (hcd : (x == ("__classdict__" : Str)) = false := by decide) : DE X c W (.Name x pos) (tVar i) (fVar i) := de_var i (pe_var hN hv hd hcd)
/-- xs.append(e) and kin, xs a name -/
theorem de_app {j : Nat} (ho : PE X o (tVar j)) (hK : X.K = c.K) (ha : DE X c W a ta fa)
    (hbase : attributeBase o "append" X.env (eval o X.env) = eval o X.env := by rfl)
    (hfew : ((backTo pos (starEach [a] X.env)).all (fun x => !x.1) && (backToKw pos (keywordEach [] X.env)).all (fun x => x.1.isSome)
      && decide (([a] : List Expr).length + ([] : List Keyword).length + (if ([] : List Keyword).isEmpty then 0 else 1) < 30)) = true := by rfl)
    (hline : (apos.endLine == pos.line) = true := by rfl) (hs : starEach [a] X.env = (false, eval a X.env) :: starEach [] X.env := by rfl) :
    DE X c W (.Call (.Attribute o "append" apos) [a] [] pos) (tBM c.K "list" rAppend (tVar j) (tCons ta tNil)) (fApp j fa) :=
  ⟨hK ▸ pe_bm PySem.F.plainAttrs_list PySem.F.slot_list_append PySem.F.type_list_append mt_append ho (pa_cons ha.pe pa_nil hs) hbase hfew hline hs, sn_app ha.sn⟩
theorem de_extend {j : Nat} (ho : PE X o (tVar j)) (hK : X.K = c.K) (ha : DE X c W a ta fa)
    (hbase : attributeBase o "extend" X.env (eval o X.env) = eval o X.env := by rfl)
    (hfew : ((backTo pos (starEach [a] X.env)).all (fun x => !x.1) && (backToKw pos (keywordEach [] X.env)).all (fun x => x.1.isSome)
      && decide (([a] : List Expr).length + ([] : List Keyword).length + (if ([] : List Keyword).isEmpty then 0 else 1) < 30)) = true := by rfl)
    (hline : (apos.endLine == pos.line) = true := by rfl) (hs : starEach [a] X.env = (false, eval a X.env) :: starEach [] X.env := by rfl) :
    DE X c W (.Call (.Attribute o "extend" apos) [a] [] pos) (tBM c.K "list" rExtend (tVar j) (tCons ta tNil)) (fExt j fa) :=
  ⟨hK ▸ pe_bm PySem.F.plainAttrs_list PySem.F.slot_list_extend PySem.F.type_list_extend mt_extend ho (pa_cons ha.pe pa_nil hs) hbase hfew hline hs, sn_ext ha.sn⟩
theorem de_pop {j : Nat} (ho : PE X o (tVar j)) (hK : X.K = c.K)
    (hbase : attributeBase o "pop" X.env (eval o X.env) = eval o X.env := by rfl) (hline : (apos.endLine == pos.line) = true := by rfl) :
    DE X c W (.Call (.Attribute o "pop" apos) [] [] pos) (tBM0 c.K "list" rPop (tVar j)) (fPop j) :=
  ⟨hK ▸ pe_bm0 PySem.F.plainAttrs_list PySem.F.slot_list_pop PySem.F.type_list_pop mt_pop ho hbase hline, sn_pop⟩
end
end DL

/-! DL, part n: what a text of facts needs. -/
namespace DL
open PySem L2 Evl
def AllT (K : PySem.W.Frag) (u : Value) : List (String × Bool) → Prop
  | [] => True
  | q :: r => PySem.W.kitOne K (.type q.1) u = some q.2 ∧ AllT K u r
def AllI (c : Ct) (u : Value) : List (Nat × Bool) → Prop
  | [] => True
  | q :: r => (InsT c.K (c.cl q.1) ∧ PySem.W.kitOne c.K (.ref (c.cl q.1)) u = some q.2) ∧ AllI c u r
def lkT (l : List (String × Bool)) (T : String) : Option Bool := l.lookup T
def lkI (l : List (Nat × Bool)) (k : Nat) : Option Bool := l.lookup k
theorem lkT_all {K : PySem.W.Frag} {u : Value} : ∀ {l : List (String × Bool)}, AllT K u l → ∀ T b, lkT l T = some b → PySem.W.kitOne K (.type T) u = some b
  | [], _, T, b, h => by cases h
  | (a, x) :: l, h, T, b, e => by
    unfold lkT at e
    rw [List.lookup_cons] at e
    cases q : T == a with
    | true => rw [q] at e; cases e; rw [beq_iff_eq.mp q]; exact h.1
    | false => rw [q] at e; exact lkT_all h.2 T b e
theorem lkI_all {c : Ct} {u : Value} : ∀ {l : List (Nat × Bool)}, AllI c u l → ∀ k b, lkI l k = some b → InsT c.K (c.cl k) ∧ PySem.W.kitOne c.K (.ref (c.cl k)) u = some b
  | [], _, T, b, h => by cases h
  | (a, x) :: l, h, T, b, e => by
    unfold lkI at e
    rw [List.lookup_cons] at e
    cases q : T == a with
    | true => rw [q] at e; cases e; rw [beq_iff_eq.mp q]; exact h.1
    | false => rw [q] at e; exact lkI_all h.2 T b e
theorem isi_mk {c : Ct} {u : Value} {lT : List (String × Bool)} {lI : List (Nat × Bool)} (h1 : AllT c.K u lT) (h2 : AllI c u lI) : IsiOk c u (lkI lI) (lkT lT) := ⟨fun T b h => lkT_all h1 T b h, fun k b h => lkI_all h2 k b h⟩
/-- what may stand right of an own == -/
def AllE (K : PySem.W.Frag) (C : Addr) : List String → Prop
  | [] => True
  | q :: r => PySem.W.notFirst K C (.type q) = true ∧ AllE K C r
def AllF (c : Ct) (C : Addr) : List Nat → Prop
  | [] => True
  | q :: r => (InsT c.K (c.cl q) ∧ PySem.W.notFirst c.K C (.ref (c.cl q)) = true) ∧ AllF c C r
def inT (l : List String) (T : String) : Bool := l.contains T
def inI (l : List Nat) (k : Nat) : Bool := l.contains k
theorem inT_all {K : PySem.W.Frag} {C : Addr} : ∀ {l : List String}, AllE K C l → ∀ T, T ∈ l → PySem.W.notFirst K C (.type T) = true
  | [], _, T, h => by cases h
  | a :: l, h, T, e => by
    rcases List.mem_cons.mp e with rfl | e
    · exact h.1
    · exact inT_all h.2 T e
theorem inI_all {c : Ct} {C : Addr} : ∀ {l : List Nat}, AllF c C l → ∀ k, k ∈ l → InsT c.K (c.cl k) ∧ PySem.W.notFirst c.K C (.ref (c.cl k)) = true
  | [], _, T, h => by cases h
  | a :: l, h, T, e => by
    rcases List.mem_cons.mp e with rfl | e
    · exact h.1
    · exact inI_all h.2 T e
theorem eqr_mk {c : Ct} {C : Addr} {lT : List String} {lI : List Nat} (h1 : AllE c.K C lT) (h2 : AllF c C lI) : EqROk c C (inI lI) (inT lT) := ⟨fun T h => inT_all h1 T (List.contains_iff_mem.mp h), fun k h => inI_all h2 k (List.contains_iff_mem.mp h)⟩
theorem takes0 {X : Cx} : Takes X W0 := fun u s' ⟨_, _, _, _, _, _, _, _, _, _, _, _, _, _, _, _, w⟩ => w.elim
/-- law's promise: a list of at most 63 ints is handed in, True comes out -/
def spLawD (K : PySem.W.Frag) : Sp := fun vs H Q _ => ∃ (a : Addr) (ns : List Int), vs = [.ref a] ∧ SqL K H a (ns.map V.int) ∧ ns.length ≤ 63 ∧ ∀ H', Q (.bl true) H'
theorem law_fn {P : Program} {w : World} {K : PySem.W.Frag} {mg : Str → Option Value} {base : Heap} {c : Ct} {CX : CXT} {k : Nat} {f : Addr} {fd : FuncData} {ps : List Str} {m : Fn} (hK : c.K = K) (F : FnOk P w K mg base CX k f fd ps (spD c 1 m))
    (hs : ∀ ns : List Int, ns.length ≤ 63 → ∃ q, m [.sh (.rol (ns.map .int))] = .ok (.bl true, false, q)) : FnOk P w K mg base CX k f fd ps (spLawD K) := by
  have key : ∀ vs H Q E, spLawD K vs H Q E → spD c 1 m vs H Q E := fun vs H Q E ⟨a, ns, e, hS, hl, hq⟩ => by
    subst e
    obtain ⟨q, hm⟩ := hs ns hl
    refine ⟨rfl, H, [.sh (.rol (ns.map .int))], Ex.refl H, ⟨rfl, fun i b hb => ?_, fun i j p d d' h1 => ?_⟩, ?_⟩
    · cases i with
      | zero => cases hb; exact ⟨_, rfl, a, ns.map V.int, rfl, hK ▸ hS, RpL.of_ints ns⟩
      | succ i => simp at hb
    · cases i with
      | zero => cases h1
      | succ i => simp at h1
    · rw [hm]
      intro v H' F' _ _ _ _ hd
      have e : v = .bl true := hd
      rw [e]
      exact hq H'
  exact F.imp key
/-- fields of a class by their order -/
def fieldsOf (l : List (List Str)) (k : Nat) : List Str := l.getD k []
def nthA (l : List Addr) (k : Nat) : Addr := l.getD k 0
end DL

/-! DL, part o: slices. -/
namespace DL
open PySem L2 Evl
abbrev FO := DEnv → Res (Option Int × DEnv)
def SndO (c : Ct) (W : WX) (to : TO) (f : FO) : Prop := ∀ (z : Zs) σ H F e (Q : Option Int → Hp → Prop), I2 c z σ H F e →
  Wp (f e) (fun r => ∀ H' F', Ex F F' → I2 c z σ H' F' r.2 → Q r.1 H') (Xp c z W σ F) → to σ H Q
structure DO (X : Cx) (c : Ct) (W : WX) (o : Option Expr) (to : TO) (f : FO) : Prop where
  po : PO X o to
  sn : SndO c W to f
def fNoP : FO := fun e => .ok (none, e)
def fPo (f : FE) : FO := fun e => (f e).bind fun r => match lookT r.1 r.2 with
  | some (.int i) => .ok (some i, r.2)
  | _ => .stuck
section
variable {X : Cx} {c : Ct} {W : WX} {a : Expr} {ta : TE} {fa : FE} {lo hi : Option Expr} {tl th : TO} {fl fh : FO} {pos p2 : Pos}
theorem do_none : DO X c W none tNoPart fNoP := ⟨po_none, fun z σ H F e Q I h => h H F (Ex.refl F) I⟩
theorem do_some (ha : DE X c W a ta fa) : DO X c W (some a) (tPart ta) (fPo fa) := ⟨po_some ha.pe, fun z σ H F e Q I h => by
  unfold fPo at h
  rw [Wp.bind] at h
  refine ha.sn z σ H F e _ I (h.mono (fun r _ h v H1 F1 x1 I1 t1 => ?_) fun _ _ h => h)
  cases hl : lookT r.1 r.2 with
  | none => rw [hl] at h; exact h.elim
  | some d =>
    rw [hl] at h
    cases d <;> first | exact h.elim | skip
    rename_i i
    exact ⟨i, (t1.view I1 hl).int, h H1 F1 x1 I1⟩⟩
def cutD (xs : List D) (lo hi : Option Int) : List D := (xs.drop (HT.sIx xs.length 0 lo)).take (HT.sIx xs.length xs.length hi - HT.sIx xs.length 0 lo)
def opSl (d : D) (lo hi : Option Int) : Option RV := match d with
  | .lst ds => some (.nl (cutD ds lo hi))
  | .rol ds => some (.nl (cutD ds lo hi))
  | .tup ds => if HT.sIx ds.length 0 lo = 0 ∧ HT.sIx ds.length ds.length hi = ds.length then some (.fl (.tup ds)) else some (.nt (cutD ds lo hi))
  | .str z => if z.length ≤ lim then some (.fl (.str (cutS z lo hi))) else none
  | _ => none
theorem RpL.cut {F : Hp} {ds : List D} {vs : List V} (h : RpL c F ds vs) (lo hi : Option Int) : RpL c F (cutD ds lo hi) (cutV vs lo hi) := by
  unfold cutD cutV
  rw [h.len]
  exact (h.drop _).take _
abbrev rSlAll (K : PySem.W.Frag) : V → Option Int → Option Int → Hp → VK → Prop := fun x lo hi H Q => rSlL K x lo hi H Q ∨ (rSlA K x lo hi H Q ∨ rSlS x lo hi H Q)
theorem sl_all : SlR X (rSlAll X.K) := sl_list.or (sl_tupA.or sl_str)
theorem ok_sl {F H : Hp} {d : D} {v : V} {lo hi : Option Int} {rv : RV} {Q : VK} (x : Ex F H) (k : View c F H d v) (l : opSl d lo hi = some rv) (q : rv.Post c F H Q) : rSlAll c.K v lo hi H Q := by
  cases d <;> try cases l
  · rename_i z
    unfold opSl at l
    dsimp only at l
    split at l
    · rename_i h
      cases l
      exact .inr (.inr ⟨z, k.str, lim_ok h, q _ rfl⟩)
    · cases l
  · rename_i ds
    obtain ⟨p, vs, rfl, h1, r⟩ := k.lst x
    exact .inl ⟨p, vs, rfl, sq_of h1, fun p hp => q p _ (r.cut lo hi) hp⟩
  · rename_i ds
    obtain ⟨p, vs, rfl, h1, r⟩ := k.tup x
    unfold opSl at l
    dsimp only at l
    refine .inr (.inl ⟨p, vs, rfl, h1, fun hw => ?_, fun hw p hp => ?_⟩)
    · rw [if_pos (by rw [r.len]; exact hw)] at l
      cases l
      rcases k with k | ⟨_, _, k⟩
      · exact q _ k
      · exact k.2.elim
    · rw [if_neg (by rw [r.len]; exact hw)] at l
      cases l
      exact q p _ (r.cut lo hi) hp
  · rename_i ds
    obtain ⟨p, vs, rfl, h1, r⟩ := k.rol x
    exact .inl ⟨p, vs, rfl, h1, fun p hp => q p _ (r.cut lo hi) hp⟩
def fSl (fa : FE) (fl fh : FO) : FE := fun e => (fa e).bind fun r => (fl r.2).bind fun l => (fh l.2).bind fun h => Res.of ((lookT r.1.seal h.2).bind fun d => (opSl d l.1 h.1).map fun rv => (rv.tok, h.2))
theorem sn_sl (ha : SndE c W ta fa) (hl : SndO c W tl fl) (hh : SndO c W th fh) : SndE c W (tSl (rSlAll c.K) ta tl th) (fSl fa fl fh) := fun z σ H F e Q I h => by
  unfold fSl at h
  rw [Wp.bind] at h
  refine ha z σ H F e _ I (h.mono (fun r _ h v H1 F1 x1 I1 t1 => ?_) fun _ _ h => h)
  obtain ⟨F2, x2, J, t2⟩ := t1.seal I1
  rw [Wp.bind] at h
  refine hl z σ H1 F2 _ _ J (h.mono (fun l _ h H3 F3 x3 I3 => ?_) fun _ _ h => h.mono (x1.trans x2))
  rw [Wp.bind] at h
  refine hh z σ H3 F3 _ _ I3 (h.mono (fun u _ h H4 F4 x4 I4 => ?_) fun _ _ h => h.mono ((x1.trans x2).trans x3))
  obtain ⟨a, ea, h⟩ := Wp.of h
  obtain ⟨d1, l1, ea⟩ := obind ea
  obtain ⟨rv, l3, rfl⟩ := omap ea
  exact ok_sl I4.fh ((t2.keep (H' := H4) (x3.trans x4)).view I4 l1) l3 (RV.post_of I4 fun v' H' F' x' I' t' => h v' H' F' ((((x1.trans x2).trans x3).trans x4).trans x') I' t')
theorem de_sl (hK : X.K = c.K) (ha : DE X c W a ta fa) (hl : DO X c W lo tl fl) (hh : DO X c W hi th fh) : DE X c W (.Subscript a (.Slice lo hi none p2) pos) (tSl (rSlAll c.K) ta tl th) (fSl fa fl fh) := ⟨hK ▸ pe_slice sl_all ha.pe hl.po hh.po, sn_sl ha.sn hl.sn hh.sn⟩
end
section
variable {X : Cx} {c : Ct} {W : WX} {a b o i : Expr} {ti tv : TE} {fi fv : FE} {tr : TA} {fr : FA} {pos tgp : Pos} {j : Nat}
theorem ds_setL (ho : PE X o (tVar j)) (hi : DE X c W i ti fi) (hv : DE X c W a tv fv)
    (ha : ∀ v, assign (.Subscript o i tgp) X.env v = (do
      let ov ← holding [v] (eval o X.env)
      let iv ← holding [v, ov] (eval i X.env)
      standAt tgp
      holding [v, ov, iv] (setItem ov iv v)
      release [v, ov, iv] []) := by intro _; rfl)
    (hs : swapsWithSole [.Subscript o i tgp] a pos.line X.env = pure false := by rfl) (hw : swappedStores [.Subscript o i tgp] a X.env = pure none := by rfl) (h1 : (assignEach [.Subscript o i tgp] X.env).map (·.2) = [assign (.Subscript o i tgp) X.env] := by rfl) :
    DS X c W (.Assign [.Subscript o i tgp] a pos) (tAsg tv (gSub (tVar j) ti rSetL)) (fSetIx j fi fv) := ds_setIx (ps_asg hv.pe (pg_sub ho hi.pe set_list ha) hs hw h1) hi.sn hv.sn
theorem ds_par2 {i j : Nat} {x y : Str} {px py pt : Pos} {kt k2 pt2} (hc : X.calm = true) (hN : X.N.Nodup) (hi : X.N[i]? = some x) (hj : X.N[j]? = some y) (hij : i ≠ j)
    (hx : X.env.scope.names.lookup x = some .local) (hy : X.env.scope.names.lookup y = some .local) (ha : DA X c W [a, b] tr fr)
    (hw : swappedStores [.Tuple [.Name x px, .Name y py] kt pt] (.Tuple [a, b] k2 pt2) X.env = pure (some [x, y]))
    (hs : swapsWithSole [.Tuple [.Name x px, .Name y py] kt pt] (.Tuple [a, b] k2 pt2) pos.line X.env = pure false := by rfl) :
    DS X c W (.Assign [.Tuple [.Name x px, .Name y py] kt pt] (.Tuple [a, b] k2 pt2) pos) (tPar i j tr) (fPar i j fr) := ds_par (ps_par hc hN hi hj hij hx hy ha.pa hw hs) ha
end
theorem u65 {A : Around} {k : Nat} (hr : Room k A) : A.units + 65 < cLine := by have := hr.un; omega
end DL

/-! DL, part p: try, except. -/
namespace DL
open PySem L2 Evl
/-- .. while an exception is handled -/
abbrev Ct.hd (c : Ct) (o : Option (Addr × Value × Option Addr)) : Ct := ⟨c.K, c.cl, c.fn, o⟩
section
variable {c : Ct} {o : Option (Addr × Value × Option Addr)} {F H : Hp}
mutual
theorem Rp.hd : ∀ (d : D) (v : V), Rp (c.hd o) F d v ↔ Rp c F d v
  | .non, v => Iff.rfl
  | .bl b, v => Iff.rfl
  | .int i, v => Iff.rfl
  | .str s, v => Iff.rfl
  | .lst ds, v => ⟨fun ⟨p, vs, h1, h2, h3⟩ => ⟨p, vs, h1, h2, (RpL.hd ds vs).mp h3⟩, fun ⟨p, vs, h1, h2, h3⟩ => ⟨p, vs, h1, h2, (RpL.hd ds vs).mpr h3⟩⟩
  | .tup ds, v => ⟨fun ⟨p, vs, h1, h2, h3⟩ => ⟨p, vs, h1, h2, (RpL.hd ds vs).mp h3⟩, fun ⟨p, vs, h1, h2, h3⟩ => ⟨p, vs, h1, h2, (RpL.hd ds vs).mpr h3⟩⟩
  | .rol ds, v => ⟨fun ⟨p, vs, h1, h2, h3⟩ => ⟨p, vs, h1, h2, (RpL.hd ds vs).mp h3⟩, fun ⟨p, vs, h1, h2, h3⟩ => ⟨p, vs, h1, h2, (RpL.hd ds vs).mpr h3⟩⟩
  | .ins k ds, v => ⟨fun ⟨p, dx, vs, h1, h2, h3⟩ => ⟨p, dx, vs, h1, h2, (RpL.hd ds vs).mp h3⟩, fun ⟨p, dx, vs, h1, h2, h3⟩ => ⟨p, dx, vs, h1, h2, (RpL.hd ds vs).mpr h3⟩⟩
theorem RpL.hd : ∀ (ds : List D) (vs : List V), RpL (c.hd o) F ds vs ↔ RpL c F ds vs
  | [], _ => Iff.rfl
  | d :: ds, _ => ⟨fun ⟨v, r, h1, h2, h3⟩ => ⟨v, r, h1, (Rp.hd d v).mp h2, (RpL.hd ds r).mp h3⟩, fun ⟨v, r, h1, h2, h3⟩ => ⟨v, r, h1, (Rp.hd d v).mpr h2, (RpL.hd ds r).mpr h3⟩⟩
end
theorem Own.hd {d : D} {p : Addr} : Own (c.hd o) F H d p ↔ Own c F H d p := by
  cases d with
  | lst ds => exact ⟨fun ⟨h, vs, h1, h2⟩ => ⟨h, vs, h1, (RpL.hd ds vs).mp h2⟩, fun ⟨h, vs, h1, h2⟩ => ⟨h, vs, h1, (RpL.hd ds vs).mpr h2⟩⟩
  | ins k ds => exact ⟨fun ⟨h, dx, vs, h1, h2⟩ => ⟨h, dx, vs, h1, (RpL.hd ds vs).mp h2⟩, fun ⟨h, dx, vs, h1, h2⟩ => ⟨h, dx, vs, h1, (RpL.hd ds vs).mpr h2⟩⟩
  | _ => exact ⟨fun h => h.2.elim, fun h => h.2.elim⟩
theorem XR.hd {x : XV} {cls : Value} {dd : Option Addr} : XR (c.hd o) F x cls dd ↔ XR c F x cls dd := by
  unfold XR
  refine ⟨fun ⟨h1, h2⟩ => ⟨h1, ?_⟩, fun ⟨h1, h2⟩ => ⟨h1, ?_⟩⟩
  · rcases h2 with h2 | ⟨a, fs, vs, h2, h3, h4, h5⟩
    · exact .inl h2
    · exact .inr ⟨a, fs, vs, h2, h3, (RpL.hd _ _).mp h4, h5⟩
  · rcases h2 with h2 | ⟨a, fs, vs, h2, h3, h4, h5⟩
    · exact .inl h2
    · exact .inr ⟨a, fs, vs, h2, h3, (RpL.hd _ _).mpr h4, h5⟩
theorem ArgR.hd {b : B} {v : V} : ArgR (c.hd o) F H b v ↔ ArgR c F H b v := by
  cases b with
  | sh d => exact Rp.hd d v
  | br d => exact ⟨fun ⟨p, h1, h2⟩ => ⟨p, h1, Own.hd.mp h2⟩, fun ⟨p, h1, h2⟩ => ⟨p, h1, Own.hd.mpr h2⟩⟩
  | ow d => exact Iff.rfl
  | ex x => exact Iff.rfl
theorem AR.hd {bs : List B} {vs : List V} : AR (c.hd o) F H bs vs ↔ AR c F H bs vs :=
  ⟨fun h => ⟨h.len, fun i b g => by obtain ⟨v, h1, h2⟩ := h.get i b g; exact ⟨v, h1, ArgR.hd.mp h2⟩, h.dist⟩, fun h => ⟨h.len, fun i b g => by obtain ⟨v, h1, h2⟩ := h.get i b g; exact ⟨v, h1, ArgR.hd.mpr h2⟩, h.dist⟩⟩
theorem DR.hd {F' H' : Hp} {d : D} {fr : Bool} {v : V} : DR (c.hd o) H F' H' d fr v ↔ DR c H F' H' d fr v := by
  cases fr with
  | false => exact Rp.hd d v
  | true => exact ⟨fun ⟨p, h1, h2, h3⟩ => ⟨p, h1, Own.hd.mp h2, h3⟩, fun ⟨p, h1, h2, h3⟩ => ⟨p, h1, Own.hd.mpr h2, h3⟩⟩
theorem spD_hd {n : Nat} {m : Fn} : spD (c.hd o) n m = spD c n m := by
  funext vs H Q E
  refine propext ⟨fun ⟨h0, F, bs, h1, h2, h3⟩ => ⟨h0, F, bs, h1, AR.hd.mp h2, ?_⟩, fun ⟨h0, F, bs, h1, h2, h3⟩ => ⟨h0, F, bs, h1, AR.hd.mpr h2, ?_⟩⟩
  · exact h3.mono (fun r _ h v H' F' a b k q d => h v H' F' a b k (AR.hd.mpr q) (DR.hd.mpr d)) fun x _ h cls dd H' F' a b k r => h cls dd H' F' a b k (XR.hd.mpr r)
  · exact h3.mono (fun r _ h v H' F' a b k q d => h v H' F' a b k (AR.hd.mp q) (DR.hd.mp d)) fun x _ h cls dd H' F' a b k r => h cls dd H' F' a b k (XR.hd.mp r)
/-- a callee's promise in a suite -/
theorem fn_hd {P : Program} {w : World} {K : PySem.W.Frag} {mg : Str → Option Value} {base : Heap} {CX : CXT} {k n : Nat} {f : Addr} {fd : FuncData} {ps : List Str} {m : Fn} (F : FnOk P w K mg base CX k f fd ps (spD c n m)) : FnOk P w K mg base CX k f fd ps (spD (c.hd o) n m) := by
  rw [spD_hd]; exact F
end
/-- no exception is bound -/
def noX (e : DEnv) : Bool := e.all fun b => match b with
  | some (.ex _) => false
  | _ => true
section
variable {c : Ct} {z : Zs} {W : WX} {σ σ' : L2.St} {H H' F F' G : Hp} {e e' : DEnv} {o : Option (Addr × Value × Option Addr)}
theorem noX_get {i : Nat} {x : XV} (h : noX e = true) (h1 : e[i]? = some (some (.ex x))) : False := by
  have := List.all_eq_true.mp h _ (List.mem_of_getElem? h1)
  cases this
theorem I2.hd (I : I2 c z σ H F e) (no : noX e = true) : I2 (c.hd o) z σ H F e := by
  refine ⟨I.len, I.f0, I.fh, I.keep, fun i b h => ?_, I.dist, I.bo, I.nf, I.brv⟩
  obtain ⟨v, hv, r⟩ := I.slot i b h
  refine ⟨v, hv, ?_⟩
  cases b with
  | sh d => exact (Rp.hd d v).mpr r
  | ow d => obtain ⟨p, h1, h2, h3⟩ := r; exact ⟨p, h1, Own.hd.mpr h2, h3⟩
  | br d => obtain ⟨p, h1, h2, h3⟩ := r; exact ⟨p, h1, Own.hd.mpr h2, h3⟩
  | ex x => exact (noX_get no h).elim
theorem I2.unhd (I : I2 (c.hd o) z σ H F e) (no : noX e = true) : I2 c z σ H F e := by
  refine ⟨I.len, I.f0, I.fh, I.keep, fun i b h => ?_, I.dist, I.bo, I.nf, I.brv⟩
  obtain ⟨v, hv, r⟩ := I.slot i b h
  refine ⟨v, hv, ?_⟩
  cases b with
  | sh d => exact (Rp.hd d v).mp r
  | ow d => obtain ⟨p, h1, h2, h3⟩ := r; exact ⟨p, h1, Own.hd.mp h2, h3⟩
  | br d => obtain ⟨p, h1, h2, h3⟩ := r; exact ⟨p, h1, Own.hd.mp h2, h3⟩
  | ex x => exact (noX_get no h).elim
theorem I2.storeX {i : Nat} {v : V} {x : XV} (I : I2 c z σ H F e) (hi : i < σ.length) (r : BR c z F H (.ex x) v) : I2 c z (σ.set i (some v)) H F (e.set i (some (.ex x))) := by
  have key : ∀ (j : Nat) (p : Addr), RootAt (σ.set i (some v)) (e.set i (some (.ex x))) j p → RootAt σ e j p := fun j p ⟨b, h1, h2, h3⟩ => by
    rcases get_set h1 with ⟨_, q⟩ | ⟨ne, q⟩
    · cases q; cases h2
    · rcases get_set h3 with ⟨q', _⟩ | ⟨_, q'⟩
      · exact absurd q' ne
      · exact ⟨b, q, h2, q'⟩
  refine ⟨by rw [List.length_set, List.length_set]; exact I.len, I.f0, I.fh, I.keep, fun j b h => ?_, fun j k p h1 h2 => I.dist j k p (key _ _ h1) (key _ _ h2), I.bo, I.nf, fun j d' v' h h' => ?_⟩
  · rcases get_set h with ⟨rfl, q⟩ | ⟨ne, q⟩
    · cases q; exact ⟨v, get_setS hi, r⟩
    · obtain ⟨w, h1, h2⟩ := I.slot j b q
      exact ⟨w, by rw [List.getElem?_set_ne (Ne.symm ne)]; exact h1, h2⟩
  · rcases get_set h with ⟨_, q⟩ | ⟨ne, q⟩
    · cases q
    · rw [List.getElem?_set_ne (Ne.symm ne)] at h'
      exact I.brv j d' v' q h'
/-- a token that does not name the slot i -/
def offT (i : Nat) : T → Bool
  | .sl j => j != i
  | _ => true
/-- the end of an except suite: its name goes -/
def goneO (i : Nat) : Out → Res Out
  | .nx e => if noX (e.set i none) then .ok (.nx (e.set i none)) else .stuck
  | .bk e => if noX (e.set i none) then .ok (.bk (e.set i none)) else .stuck
  | .ct e => if noX (e.set i none) then .ok (.ct (e.set i none)) else .stuck
  | .rt t e => if noX (e.set i none) && offT i t then .ok (.rt t (e.set i none)) else .stuck
/-- try: f, except X as i: g -/
def fTry (tbl : Nat → Option Bool) (i : Nat) (f : FS) (g : FS) : FS := fun e => match f e with
  | .exc x e' => (match tbl x.k with
    | some true => if noX e' && decide (i < e'.length) then (match g (e'.set i (some (.ex x))) with
        | .ok out => goneO i out
        | _ => .stuck) else .stuck
    | some false => .exc x e'
    | none => .stuck)
  | r => r
def TryOk (c : Ct) (cv : Value) (tbl : Nat → Option Bool) : Prop := ∀ k b, tbl k = some b → PySem.W.exmOne c.K (.ref (c.cl k)) cv = some b
theorem TR.unhd {t : T} {v : V} {i : Nat} (h : TR (c.hd o) z F H σ e t v) (ht : offT i t = true) : TR c z F H (σ.set i none) (e.set i none) t v := by
  cases t with
  | sl j =>
    have hj : j ≠ i := by simpa [offT] using ht
    have h' : σ[j]? = some (some v) := h
    show (σ.set i none)[j]? = some (some v)
    rw [List.getElem?_set_ne (Ne.symm hj)]
    exact h'
  | vl d => exact (Rp.hd d v).mp h
  | nw d =>
    obtain ⟨p, rfl, w, h0, hn⟩ := h
    refine ⟨p, rfl, Own.hd.mp w, h0, fun j ⟨b, h1, h2, h3⟩ => ?_⟩
    rcases get_set h1 with ⟨_, q⟩ | ⟨ne, q⟩
    · cases q
    · rw [List.getElem?_set_ne (Ne.symm ne)] at h3
      exact hn j ⟨b, q, h2, h3⟩
theorem Res.bind_wp {α β : Type} {r : Res α} {f : α → Res β} {ok : β → Prop} {ex : XV → DEnv → Prop} (h : Wp (r.bind f) ok ex) : Wp r (fun a => Wp (f a) ok ex) ex := by rw [← Wp.bind]; exact h
theorem sn_try {cv : Value} {tbl : Nat → Option Bool} {i : Nat} {tb : WX → TS} {ts : Addr → Value → Option Addr → TS} {f g : FS} (ok : TryOk c cv tbl) (hb : ∀ W', SndS c W' (tb W') f) (hg : ∀ a cls d, SndS (c.hd (some (a, cls, d))) W0 (ts a cls d) g) :
    SndS c W (fun D σ H => tb (wAs c.K cv i ts W D) D σ H) (fTry tbl i f g) := fun z σ H F e D I h => by
  refine hb (wAs c.K cv i ts W D) z σ H F e D I ?_
  unfold fTry at h
  cases hf : f e with
  | stuck => rw [hf] at h; exact h
  | ok r => rw [hf] at h; exact h
  | exc x e' =>
    rw [hf] at h
    dsimp only at h
    intro σ' cls dd H' F' x1 J r
    have hc : cls = .ref (c.cl x.k) := r.1
    cases ht : tbl x.k with
    | none => rw [ht] at h; exact h.elim
    | some b =>
      rw [ht] at h
      refine ⟨b, by rw [hc]; exact ok _ _ ht, fun hb1 a ha => ?_, fun hb0 => ?_⟩
      · subst hb1
        dsimp only at h
        split at h
        · rename_i hk
          obtain ⟨no, hi⟩ := Bool.and_eq_true_iff.mp hk
          have hi := of_decide_eq_true hi
          have J1 := (J.hd (o := some (a, cls, dd)) no).storeX (i := i) (v := .ref a) (x := x) (by rw [← J.len]; exact hi) ⟨a, cls, dd, rfl, rfl, XR.hd.mpr r⟩
          refine hg a cls dd z (σ'.set i (some (.ref a))) H' F' _ _ J1 ?_
          cases hq : g (e'.set i (some (.ex x))) with
          | stuck => rw [hq] at h; exact h
          | exc x2 e2 => rw [hq] at h; exact h.elim
          | ok out =>
            rw [hq] at h
            cases out with
            | nx e2 =>
              intro σ2 H2 F2 x2 K
              have h' : Wp (if noX (e2.set i none) then (Res.ok (Out.nx (e2.set i none))) else .stuck) (PoS c z F D) (XpS c z W F) := h
              split at h'
              · rename_i hn
                exact h' _ H2 F2 (x1.trans x2) (K.unbind.unhd hn)
              · exact h'.elim
            | bk e2 =>
              intro σ2 H2 F2 x2 K
              have h' : Wp (if noX (e2.set i none) then (Res.ok (Out.bk (e2.set i none))) else .stuck) (PoS c z F D) (XpS c z W F) := h
              split at h'
              · rename_i hn
                exact h' _ H2 F2 (x1.trans x2) (K.unbind.unhd hn)
              · exact h'.elim
            | ct e2 =>
              intro σ2 H2 F2 x2 K
              have h' : Wp (if noX (e2.set i none) then (Res.ok (Out.ct (e2.set i none))) else .stuck) (PoS c z F D) (XpS c z W F) := h
              split at h'
              · rename_i hn
                exact h' _ H2 F2 (x1.trans x2) (K.unbind.unhd hn)
              · exact h'.elim
            | rt t e2 =>
              intro v σ2 H2 F2 x2 K tr
              have h' : Wp (if noX (e2.set i none) && offT i t then (Res.ok (Out.rt t (e2.set i none))) else .stuck) (PoS c z F D) (XpS c z W F) := h
              split at h'
              · rename_i hn
                obtain ⟨hn, ho⟩ := Bool.and_eq_true_iff.mp hn
                exact h' v _ H2 F2 (x1.trans x2) (K.unbind.unhd hn) (tr.unhd ho)
              · exact h'.elim
        · exact h.elim
      · subst hb0
        exact h σ' cls dd H' F' x1 J r
/-- .. except X: g -/
def fTryO (tbl : Nat → Option Bool) (f : FS) (g : FS) : FS := fun e => match f e with
  | .exc x e' => (match tbl x.k with
    | some true => (match g e' with
        | .ok out => .ok out
        | _ => .stuck)
    | some false => .exc x e'
    | none => .stuck)
  | r => r
theorem sn_tryO {cv : Value} {tbl : Nat → Option Bool} {tb : WX → TS} {ts : Addr → Value → Option Addr → TS} {f g : FS} (ok : TryOk c cv tbl) (hb : ∀ W', SndS c W' (tb W') f) (hg : ∀ a cls d, SndS c W0 (ts a cls d) g) :
    SndS c W (fun D σ H => tb (wOnly c.K cv ts W D) D σ H) (fTryO tbl f g) := fun z σ H F e D I h => by
  refine hb (wOnly c.K cv ts W D) z σ H F e D I ?_
  unfold fTryO at h
  cases hf : f e with
  | stuck => rw [hf] at h; exact h
  | ok r => rw [hf] at h; exact h
  | exc x e' =>
    rw [hf] at h
    dsimp only at h
    intro σ' cls dd H' F' x1 J r
    have hc : cls = .ref (c.cl x.k) := r.1
    cases ht : tbl x.k with
    | none => rw [ht] at h; exact h.elim
    | some b =>
      rw [ht] at h
      refine ⟨b, by rw [hc]; exact ok _ _ ht, fun hb1 a ha => ?_, fun hb0 => ?_⟩
      · subst hb1
        dsimp only at h
        refine hg a cls dd z σ' H' F' _ _ J ?_
        cases hq : g e' with
        | stuck => rw [hq] at h; exact h
        | exc x2 e2 => rw [hq] at h; exact h.elim
        | ok out =>
          rw [hq] at h
          have h' : PoS c z F D out := h
          exact h'.mono x1
      · subst hb0
        exact h σ' cls dd H' F' x1 J r
end
/-! ### the rules -/
section
variable {X : Cx} {c : Ct} {W : WX}
def xeT (X : Cx) : Value → Shared → Prop := fun e s₁ => wpAny (model X.prog X.w) X.A (noteFrame e X.env) (fun _ s₂ => wpAny (model X.prog X.w) X.A (setFlight e none) (fun _ _ => True) (fun _ _ => True) s₂) (fun _ _ => True) s₁
theorem pass_T : PassesOwn (model X.prog X.w) X.A X.env (xeT X) := PassesOwn.looking (K := fun e s₂ => wpAny (model X.prog X.w) X.A (setFlight e none) (fun _ _ => True) (fun _ _ => True) s₂)
theorem takes_T {W' : WX} {pn : List (Addr × Obj)} (hs : X.stack = X.env :: X.outer) (hf : X.env.frame = some X.env.locals) : Takes (X.tr pn (xeT X)) W' := fun u s' ⟨a, B, sI, pins, σ, H, cls, d, e, J, nb, up, sky, na, os, ag, w⟩ => by
  subst e
  have hfr : X.A.frames = some (X.env :: X.outer) := by rw [← hs]; exact J.ok.frames
  have sky' : Sky B (X.env :: X.outer) a (Zc cls d) X.env.locals s'.heap := by rw [← hs]; exact sky
  exact Sky.land Zc.steady hfr hf sky' fun _ _ _ => trivial
theorem ds_try_as {x n : Str} {cv : Value} {i : Nat} {body suite : List Stmt} {b₀ : Stmt} {np pos pos' : Pos} {tb : WX → TS} {ts : Addr → Value → Option Addr → TS} {tbl : Nat → Option Bool} {f g : FS} (hs : X.stack = X.env :: X.outer) (hf : X.env.frame = some X.env.locals) (hN : X.N.Nodup) (hi : X.N[i]? = some n) (hln : X.env.kindOf n = some .local) (hc : Names X x cv) (tk : Takes X W) (hK : X.K = c.K) (ok : TryOk c cv tbl)
    (hb : ∀ (W' : WX) (pn : List (Addr × Obj)) (xe : Value → Shared → Prop), Takes (X.tr pn xe) W' → PassesOwn (model X.prog X.w) X.A X.env xe → DSs (X.tr pn xe) c W' body (tb W') f)
    (hsu : ∀ (a : Addr) (oe : Obj) (cls : Value) (d : Option Addr) (pn : List (Addr × Obj)), Zc cls d oe → (∃ vs, oe.data = .fields vs) → DSs (X.suite a ((a, oe) :: pn)) (c.hd (some (a, cls, d))) W0 (b₀ :: suite) (ts a cls d) g) :
    DS X c W (.Try body [.ExceptHandler (some (.Name x np)) (some n) (b₀ :: suite) pos'] [] [] pos) (fun D σ H => tb (wAs c.K cv i ts W D) D σ H) (fTry tbl i f g) :=
  ⟨hK ▸ ps_try_as hs hf hN hi hln hc tk (fun W' pn xe tk' pa => (hb W' pn xe tk' pa).ps) (fun a oe cls d pn hz hf => (hsu a oe cls d pn hz hf).ps),
    sn_try ok (fun W' => (hb W' [] (xeT X) (takes_T hs hf) pass_T).sn) fun a cls d => (hsu a ⟨cls, d, .fields #[], #[]⟩ cls d [] ⟨rfl, rfl⟩ ⟨_, rfl⟩).sn⟩
theorem ds_try_only {x : Str} {cv : Value} {body suite : List Stmt} {b₀ : Stmt} {np pos pos' : Pos} {tb : WX → TS} {ts : Addr → Value → Option Addr → TS} {tbl : Nat → Option Bool} {f g : FS} (hs : X.stack = X.env :: X.outer) (hf : X.env.frame = some X.env.locals) (hc : Names X x cv) (tk : Takes X W) (hK : X.K = c.K) (ok : TryOk c cv tbl)
    (hb : ∀ (W' : WX) (pn : List (Addr × Obj)) (xe : Value → Shared → Prop), Takes (X.tr pn xe) W' → PassesOwn (model X.prog X.w) X.A X.env xe → DSs (X.tr pn xe) c W' body (tb W') f)
    (hsu : ∀ (a : Addr) (oe : Obj) (cls : Value) (d : Option Addr) (pn : List (Addr × Obj)), Zc cls d oe → (∃ vs, oe.data = .fields vs) → DSs (X.suite a ((a, oe) :: pn)) c W0 (b₀ :: suite) (ts a cls d) g) :
    DS X c W (.Try body [.ExceptHandler (some (.Name x np)) none (b₀ :: suite) pos'] [] [] pos) (fun D σ H => tb (wOnly c.K cv ts W D) D σ H) (fTryO tbl f g) :=
  ⟨hK ▸ ps_try_only hs hf hc tk (fun W' pn xe tk' pa => (hb W' pn xe tk' pa).ps) (fun a oe cls d pn hz hf => (hsu a oe cls d pn hz hf).ps),
    sn_tryO ok (fun W' => (hb W' [] (xeT X) (takes_T hs hf) pass_T).sn) fun a cls d => (hsu a ⟨cls, d, .fields #[], #[]⟩ cls d [] ⟨rfl, rfl⟩ ⟨_, rfl⟩).sn⟩

/-! ### e.f, e the exception that is handled -/
def fXf (ns : List Str) (k i : Nat) (f : Str) : FE := fun e => match e[i]? with
  | some (some (.ex x)) => if x.k = k then (match (ns.zip x.ds).lookup f with
    | some d => .ok (.vl d, e)
    | none => .stuck) else .stuck
  | _ => .stuck
theorem idx_look {f : Str} {d : D} : ∀ {ns : List Str} {ds : List D}, (ns.zip ds).lookup f = some d → ∃ i : Nat, ns[i]? = some f ∧ ds[i]? = some d
  | [], _, h => by simp at h
  | _ :: _, [], h => by simp at h
  | n :: ns, d0 :: ds, h => by
    rw [List.zip_cons_cons, List.lookup_cons] at h
    cases q : f == n with
    | true => rw [q] at h; cases h; exact ⟨0, by rw [beq_iff_eq.mp q]; rfl, rfl⟩
    | false =>
      rw [q] at h
      obtain ⟨i, h1, h2⟩ := idx_look h
      exact ⟨i + 1, h1, h2⟩
theorem sn_xf {a : Addr} {cls : Value} {dd : Option Addr} {i k : Nat} {f : Str} : SndE (c.hd (some (a, cls, dd))) W (tXf a cls dd (c.cl k) f (tVar i)) (fXf (c.fn k) k i f) := fun z σ H F e Q I h => by
  unfold fXf at h
  split at h
  · rename_i x hx
    split at h
    · rename_i hk
      split at h
      · rename_i d hd
        obtain ⟨v, hv, a', cls', dd', ha, rfl, r⟩ := I.slot i _ hx
        cases ha
        subst hk
        refine ⟨_, hv, rfl, r.1, ?_⟩
        obtain ⟨j, h1, h2⟩ := idx_look hd
        rcases r.2 with ⟨h3, _⟩ | ⟨p, fs, vs, h3, h4, h5, h6⟩
        · rw [h3] at h2; simp at h2
        · obtain ⟨w, h7, h8⟩ := h5.get h2
          exact ⟨p, fs, w, h3, I.fh _ _ h4, h6 j f w h1 h7, h w H F (Ex.refl F) I h8⟩
      · exact h.elim
    · exact h.elim
  · exact h.elim
theorem de_xf {a : Addr} {oe : Obj} {cls : Value} {d : Option Addr} {pn : List (Addr × Obj)} {o : Expr} {pos : Pos} {f : Str} {i k : Nat} (hK : X.K = c.K) (T : XfC c.K (c.cl k)) (hno : PySem.W.findIn c.K (.ref (c.cl k)) f = some none)
    (hz : Zc cls d oe) (hf : ∃ vs, oe.data = .fields vs) (he : PE (X.suite a ((a, oe) :: pn)) o (tVar i)) (hb : attributeBase o f X.env (eval o X.env) = eval o X.env := by rfl) :
    DE (X.suite a ((a, oe) :: pn)) (c.hd (some (a, cls, d))) W (.Attribute o f pos) (tXf a cls d (c.cl k) f (tVar i)) (fXf (c.fn k) k i f) := ⟨pe_xf (hK ▸ T) (hK ▸ hno) hz hf he hb, sn_xf⟩
end
end DL

/-! DL, part q: raise C(..), C an error with an own __init__ that stores its arguments. -/
namespace DL
open PySem L2 Evl
/-- such an __init__'s promise: the attributes ns, by the arguments -/
def spXi (C : Addr) (ns : List Str) : Sp := fun vs H Q _ => ∃ (a : Addr) (ws : List V), vs = .ref a :: ws ∧ ws.length = ns.length ∧ H a = some (exo a C none) ∧
  ∀ (d : Addr) (fs : List (Str × V)) (H2 : Hp), H d = none → H2 a = some (exo a C (some d)) → H2 d = some (exd d fs) → (∀ b, b ≠ a → b ≠ d → H2 b = H b) → (∀ (i : Nat) (f : Str) (v : V), ns[i]? = some f → ws[i]? = some v → fs.lookup f = some v) → Q .non H2
/-- self.f = (a parameter), one after the other -/
def tOsts (K : PySem.W.Frag) : List (Nat × Str) → TS
  | [] => tNext
  | [q] => tOst K q.2 (tVar 0) (tVar q.1)
  | q :: r => tSeq (tOst K q.2 (tVar 0) (tVar q.1)) (tOsts K r)
section
variable {K : PySem.W.Frag} {C : Addr}
theorem tOsts_cons {D : Ends} {σ : L2.St} {H : Hp} {q : Nat × Str} {r : List (Nat × Str)} (h : tSeq (tOst K q.2 (tVar 0) (tVar q.1)) (tOsts K r) D σ H) : tOsts K (q :: r) D σ H := by
  cases r with
  | nil => exact h
  | cons _ _ => exact h
theorem osts_run (T : OexC K C) {σ : L2.St} {a dx : Addr} (ha : σ[0]? = some (some (.ref a))) {D : Ends} : ∀ (l : List (Nat × Str)) (H : Hp) (fs : List (Str × V)), (∀ q ∈ l, PySem.W.findIn K (.ref C) q.2 = some none) → (∀ q ∈ l, ∃ v, σ[q.1]? = some (some v)) →
    H a = some (exo a C (some dx)) → H dx = some (exd dx fs) → a ≠ dx → fs.length + l.length ≤ 900 → (l.map (·.2)).Nodup → (∀ q ∈ l, fs.lookup q.2 = none) →
    (∀ (H2 : Hp) (fs2 : List (Str × V)), H2 a = some (exo a C (some dx)) → H2 dx = some (exd dx fs2) → (∀ b, b ≠ dx → H2 b = H b) → (∀ g v, fs.lookup g = some v → fs2.lookup g = some v) → (∀ q ∈ l, ∀ v, σ[q.1]? = some (some v) → fs2.lookup q.2 = some v) → D.nx σ H2) →
    tOsts K l D σ H
  | [], H, fs, _, _, h1, h2, _, _, _, _, k => k H fs h1 h2 (fun _ _ => rfl) (fun _ _ h => h) fun q hq => nomatch hq
  | q :: r, H, fs, hn, hv, h1, h2, ne, hl, nd, hf, k => by
    refine tOsts_cons ?_
    obtain ⟨v, hv1⟩ := hv q List.mem_cons_self
    rw [List.map_cons, List.nodup_cons] at nd
    refine ⟨v, hv1, .ref a, ha, a, C, rfl, T, hn q List.mem_cons_self, .inr ⟨dx, fs, h1, h2, by simp at hl; omega, ?_⟩⟩
    refine osts_run T ha r _ ((q.2, v) :: fs) (fun x hx => hn x (List.mem_cons_of_mem _ hx)) (fun x hx => hv x (List.mem_cons_of_mem _ hx)) (by rw [upd_ne ne]; exact h1) upd_same ne (by simp at hl ⊢; omega) nd.2 (fun x hx => ?_) fun H2 fs2 g1 g2 g3 g4 g5 => ?_
    · rw [lookup_put]
      rw [if_neg fun z => nd.1 (by rw [← z]; exact List.mem_map.mpr ⟨x, hx, rfl⟩)]
      exact hf x (List.mem_cons_of_mem _ hx)
    · refine k H2 fs2 g1 g2 (fun b hb => by rw [g3 b hb, upd_ne hb]) (fun g w hw => g4 g w ?_) fun x hx w hw => ?_
      · rw [lookup_put]
        rw [if_neg fun z => by rw [z, hf q List.mem_cons_self] at hw; cases hw]
        exact hw
      · rcases List.mem_cons.mp hx with rfl | hx
        · rw [hv1] at hw; cases hw
          exact g4 _ _ (by rw [lookup_put, if_pos rfl])
        · exact g5 x hx w hw
/-- .. from the start -/
theorem osts_new (T : OexC K C) {σ : L2.St} {a : Addr} (ha : σ[0]? = some (some (.ref a))) {D : Ends} (q : Nat × Str) (r : List (Nat × Str)) (H : Hp) (hn : ∀ x ∈ q :: r, PySem.W.findIn K (.ref C) x.2 = some none) (hv : ∀ x ∈ q :: r, ∃ v, σ[x.1]? = some (some v))
    (h1 : H a = some (exo a C none)) (hl : r.length ≤ 800) (nd : ((q :: r).map (·.2)).Nodup)
    (k : ∀ (d : Addr) (H2 : Hp) (fs2 : List (Str × V)), H d = none → H2 a = some (exo a C (some d)) → H2 d = some (exd d fs2) → (∀ b, b ≠ a → b ≠ d → H2 b = H b) → (∀ x ∈ q :: r, ∀ v, σ[x.1]? = some (some v) → fs2.lookup x.2 = some v) → D.nx σ H2) :
    tOsts K (q :: r) D σ H := by
  refine tOsts_cons ?_
  obtain ⟨v, hv1⟩ := hv q List.mem_cons_self
  rw [List.map_cons, List.nodup_cons] at nd
  refine ⟨v, hv1, .ref a, ha, a, C, rfl, T, hn q List.mem_cons_self, .inl ⟨h1, fun dx hdx ne => ?_⟩⟩
  refine osts_run T ha r _ [(q.2, v)] (fun x hx => hn x (List.mem_cons_of_mem _ hx)) (fun x hx => hv x (List.mem_cons_of_mem _ hx)) upd_same (by rw [upd_ne ne]; exact upd_same) ne.symm (by simp; omega) nd.2 (fun x hx => ?_) fun H2 fs2 g1 g2 g3 g4 g5 => ?_
  · rw [lookup_put, if_neg fun z => nd.1 (by rw [← z]; exact List.mem_map.mpr ⟨x, hx, rfl⟩)]
    rfl
  · refine k dx H2 fs2 hdx g1 g2 (fun b hb hb2 => by rw [g3 b hb2, upd_ne hb, upd_ne hb2]) fun x hx w hw => ?_
    rcases List.mem_cons.mp hx with rfl | hx
    · rw [hv1] at hw; cases hw
      exact g4 _ _ (by rw [lookup_put, if_pos rfl])
    · exact g5 x hx w hw
end
/-- the slots and attributes of such an __init__: self in slot 0, then the arguments -/
def slotsX (ns : List Str) : List (Nat × Str) := (List.range ns.length).zip ns |>.map fun q => (q.1 + 1, q.2)
theorem slotsX_len (ns : List Str) : (slotsX ns).length = ns.length := by simp [slotsX]
theorem slotsX_mem {ns : List Str} {q : Nat × Str} (h : q ∈ slotsX ns) : ∃ i, i < ns.length ∧ q.1 = i + 1 ∧ ns[i]? = some q.2 := by
  obtain ⟨⟨i, f⟩, h1, rfl⟩ := List.mem_map.mp h
  obtain ⟨j, h2⟩ := List.getElem?_of_mem h1
  rw [List.getElem?_zip_eq_some] at h2
  have hj : j < ns.length := get_lt h2.2
  rw [List.getElem?_range hj] at h2
  have e : j = i := Option.some.inj h2.1
  subst e
  exact ⟨j, hj, rfl, h2.2⟩
theorem slotsX_get {ns : List Str} {i : Nat} {f : Str} (h : ns[i]? = some f) : (i + 1, f) ∈ slotsX ns := by
  refine List.mem_map.mpr ⟨(i, f), ?_, rfl⟩
  have hi := get_lt h
  refine List.mem_of_getElem? (i := i) ?_
  rw [List.getElem?_zip_eq_some]
  exact ⟨List.getElem?_range hi, h⟩
theorem slotsX_nd {ns : List Str} (h : ns.Nodup) : ((slotsX ns).map (·.2)).Nodup := by
  have e : (slotsX ns).map (·.2) = ns := by
    unfold slotsX
    rw [List.map_map]
    have : ((fun x : Nat × Str => x.2) ∘ fun q : Nat × Str => (q.1 + 1, q.2)) = Prod.snd := rfl
    rw [this, List.map_snd_zip]
    simp
  rw [e]; exact h
section
variable {P : Program} {w : World} {K : PySem.W.Frag} {mg : Str → Option Value} {base : Heap}
/-- THE RULE of such an __init__ -/
theorem fn_xinit {x qual : Str} {st : Stmt} {f C : Addr} {fd : FuncData} {ps ns : List Str} (F : Fun K x qual st f fd) (S : FnScope ps ps (defScope st)) (T : OexC K C) (hp : ps.length = ns.length + 1) (h0 : 0 < ns.length) (h9 : ns.length ≤ 800) (nd : ns.Nodup) (hn : ∀ g ∈ ns, PySem.W.findIn K (.ref C) g = some none)
    (hb : ∀ (cdv : Value) (A : Around) (outer : List Env) (s : Shared) (H : Hp) (E : XK), PSs (cxOf CX0 P w K mg base ps qual (defScope st) f cdv A outer s H E).nox (defBody st) (tOsts K (slotsX ns))) : FnOk P w K mg base CX0 1 f fd ps (spXi C ns) := by
  refine F.ok S (fun vs H Q E h => ?_) (fun cdv A outer s H vs Q E hr h => ?_)
  · obtain ⟨a, ws, rfl, hl, _⟩ := h
    simp [hl, hp]
  · obtain ⟨a, ws, rfl, hl, h1, k⟩ := h
    refine ⟨_, hb cdv A outer s H E, ?_⟩
    have hs : ∀ (i : Nat) (v : V), ws[i]? = some v → (start ps (.ref a :: ws))[i + 1]? = some (some v) := fun i v h => start_get (by simpa using h)
    have hs' : ∀ (i : Nat) (v : V), (start ps (.ref a :: ws))[i + 1]? = some (some v) → ws[i]? = some v := fun i v h => by simpa using start_get' h
    have hw : ∀ i, i < ns.length → ∃ v, ws[i]? = some v := fun i hi => ⟨_, List.getElem?_eq_getElem (by omega)⟩
    cases hq : slotsX ns with
    | nil =>
      have : (slotsX ns).length = 0 := by rw [hq]; rfl
      rw [slotsX_len] at this
      omega
    | cons q r =>
      have hr : r.length ≤ 800 := by
        have : (slotsX ns).length = r.length + 1 := by rw [hq]; rfl
        rw [slotsX_len] at this
        omega
      refine osts_new T (start_get rfl) q r H (fun x hx => ?_) (fun x hx => ?_) h1 hr (by rw [← hq]; exact slotsX_nd nd) fun d H2 fs g1 g2 g3 g4 g5 => ?_
      · rw [← hq] at hx
        obtain ⟨i, hi, _, h2⟩ := slotsX_mem hx
        exact hn _ (List.mem_of_getElem? h2)
      · rw [← hq] at hx
        obtain ⟨i, hi, e, _⟩ := slotsX_mem hx
        obtain ⟨v, hv⟩ := hw i hi
        exact ⟨v, by rw [e]; exact hs i v hv⟩
      · refine k d fs H2 g1 g2 g3 g4 fun i f v hf hv => ?_
        exact g5 (i + 1, f) (by rw [← hq]; exact slotsX_get hf) v (hs i v hv)
end
/-- raise C(..) -/
def fRaise (k n : Nat) (fa : FA) : FS := fun e => (fa e).bind fun r => (Res.of (escs r.1 r.2)).bind fun q => if q.1.length = n then .exc ⟨k, q.1⟩ q.2 else .stuck
section
variable {X : Cx} {c : Ct} {W : WX} {k j : Nat} {f : Addr} {fd : FuncData} {ps : List Str} {x : Str} {p pos rpos : Pos} {a : Expr} {es : List Expr} {tr : TA} {fr : FA}
theorem sn_raise {C : Addr} {n : Nat} (hC : C = c.cl k) (hn : (c.fn k).length = n) (h9 : n ≤ 800) (ha : SndA c W tr fr) : SndS c W (fun _ σ H => tMkO C (spXi C (c.fn k)) [] tr σ H fun cls d H' => W cls d σ H') (fRaise k n fr) := fun z σ H F e D I h => by
  unfold fRaise at h
  rw [Wp.bind] at h
  refine ha z σ H F e _ I (h.mono (fun r _ h vs H1 F1 x1 I1 t1 => ?_) fun _ _ h => h σ)
  rw [Wp.bind] at h
  obtain ⟨⟨ds, e1⟩, l1, h⟩ := Wp.of h
  obtain ⟨G, x2, J, rr⟩ := t1.escs I1 l1
  dsimp only at h
  split at h
  · rename_i hl
    have hlen : vs.length = n := by rw [← rr.len]; exact hl
    refine ⟨by omega, fun a ha => ⟨a, vs, by rw [List.append_nil], by rw [hlen, hn], upd_same, fun d fs H2 g1 g2 g3 g4 g5 => ?_⟩⟩
    have nda : d ≠ a := fun z => by rw [z, upd_same] at g1; cases g1
    have hd : H1 d = none := by rw [upd_ne nda] at g1; exact g1
    refine ⟨rfl, d, fs, g2, g3, hd, ?_⟩
    have e2 : upd (del H2 a) d (.xd fs) = upd H1 d (.xd fs) := by
      funext b
      by_cases hb : b = d
      · subst hb; rw [upd_same, upd_same]
      · rw [upd_ne hb, upd_ne hb]
        by_cases hba : b = a
        · subst hba; rw [del_same, ha]
        · rw [del_ne hba, g4 b hba hb, upd_ne hba]
    rw [e2]
    have xn := Ex.new (o := HO.xd fs) (fresh_back J.fh hd)
    refine h σ (.ref C) (some d) _ _ ((x1.trans x2).trans xn) (J.allocT hd) ⟨by rw [hC], .inr ⟨d, fs, vs, rfl, upd_same, rr.mono xn _ _, g5⟩⟩
  · exact h.elim
theorem ds_raise {n : Nat} (hc : X.calm = true) (tk : Takes X W) (hK : X.K = c.K) (T : OexC c.K (c.cl k)) (iC : PySem.W.findIn c.K (.ref (c.cl k)) "__init__" = some (some (.ref f))) (tI : PySem.W.typeIn c.K (.ref f) = some (.type "function"))
    (F : FnOk X.prog X.w X.K X.mg X.base CX0 j f fd ps (spXi (c.cl k) (c.fn k))) (hr : Room (j + 1) X.A) (hb : Binds X.K fd ps []) (hg : Gl X x) (hm : X.mg x = some (.ref (c.cl k))) (hn : (c.fn k).length = n) (h9 : n ≤ 800) (ha : DA X c W (a :: es) tr fr)
    (hdb : (x == ("__debug__" : Str)) = false := by decide) (he : starEach (a :: es) X.env = (false, eval a X.env) :: starEach es X.env := by rfl) (hpl : (backTo pos (starEach es X.env)).any (·.1) = false := by rfl) :
    DS X c W (.Raise (some (.Call (.Name x p) (a :: es) [] pos)) none rpos) (fun _ σ H => tMkO (c.cl k) (spXi (c.cl k) (c.fn k)) [] tr σ H fun cls d H' => W cls d σ H') (fRaise k n fr) :=
  ⟨ps_raise hc tk (pmk_oex (hK ▸ T) (hK ▸ iC) (hK ▸ tI) F hr hb .nil pass0 hg hm ha.pa hdb he hpl), sn_raise rfl hn h9 ha.sn⟩
/-- raise C(), C without own __init__ -/
theorem pmk_own0 {C : Addr} {bmB : List Value} {B newId initId : String} {x : Str} {p : Pos} (F : ExcBaseFacts B newId initId bmB) (q : PySem.W.excIn X.K C bmB newId = true) (gC : X.mg x = some (.ref C))
    (kC : PySem.W.keepIn X.K (.ref C) = true) (r : Raises X (.ref C)) (hg : Gl X x) (hdb : (x == ("__debug__" : Str)) = false := by decide) : PMk X (.Call (.Name x p) [] [] pos) (fun _ H Q => Q (.ref C) none H) := by
  intro pins s σ H Q I h
  refine wpAny_Call_Name_kw (ld_glob I hg gC ?_ hdb)
  refine PySem.W.callWith_K0 I.kIn kC ?_
  show wpAny _ _ (call (.ref C) []) _ _ _
  obtain ⟨bm, N, nm, qn, bs, hdct, sn, sub, ab, col, dd, k0, k1, k2, k3, k5, mN, hC, hN, hni, T⟩ := exc_obj I.kIn q
  refine wpAny_call_exc_subT F T hC hN hni (fun h' e hm => ?_) (Nat.zero_le _)
  exact mk_of I hm r h (I.hok.gone hm.new)
def fRaise0 (k : Nat) : FS := fun e => .exc ⟨k, []⟩ e
theorem sn_raise0 : SndS c W (fun _ σ H => W (.ref (c.cl k)) none σ H) (fRaise0 k) := fun z σ H F e D I h => by
  have h' : XpS c z W F ⟨k, []⟩ e := h
  exact h' σ (.ref (c.cl k)) none H F (Ex.refl F) I ⟨rfl, .inl ⟨rfl, rfl⟩⟩
theorem ds_raise0 {bmB : List Value} {B newId initId : String} (hc : X.calm = true) (tk : Takes X W) (hK : X.K = c.K) (F : ExcBaseFacts B newId initId bmB) (q : PySem.W.excIn c.K (c.cl k) bmB newId = true) (hm : X.mg x = some (.ref (c.cl k)))
    (kC : PySem.W.keepIn c.K (.ref (c.cl k)) = true) (r1 : PySem.W.subIn c.K (.ref (c.cl k)) (.type "BaseException") = some true) (r2 : PySem.W.typeIn c.K (.ref (c.cl k)) = some (.type "type")) (hg : Gl X x) (hdb : (x == ("__debug__" : Str)) = false := by decide) :
    DS X c W (.Raise (some (.Call (.Name x p) [] [] pos)) none rpos) (fun _ σ H => W (.ref (c.cl k)) none σ H) (fRaise0 k) :=
  ⟨ps_raise hc tk (pmk_own0 F (hK ▸ q) hm (hK ▸ kC) (raises_own (hK ▸ r1) (hK ▸ r2)) hg hdb), sn_raise0⟩
end
/-- an error class without own __init__ -/
structure XcC (K : PySem.W.Frag) (C : Addr) : Prop where
  q : PySem.W.excIn K C [.type "ValueError", .type "Exception", .type "BaseException", .type "object"] "ValueError.__new__" = true
  kC : PySem.W.keepIn K (.ref C) = true
  r1 : PySem.W.subIn K (.ref C) (.type "BaseException") = some true
  r2 : PySem.W.typeIn K (.ref C) = some (.type "type")
/-- .. with one -/
structure XiC (K : PySem.W.Frag) (C fI : Addr) : Prop where
  T : OexC K C
  iC : PySem.W.findIn K (.ref C) "__init__" = some (some (.ref fI))
  tI : PySem.W.typeIn K (.ref fI) = some (.type "function")
def AllY (c : Ct) (cv : Value) : List (Nat × Bool) → Prop
  | [] => True
  | q :: r => PySem.W.exmOne c.K (.ref (c.cl q.1)) cv = some q.2 ∧ AllY c cv r
theorem try_mk {c : Ct} {cv : Value} : ∀ {l : List (Nat × Bool)}, AllY c cv l → TryOk c cv (lkI l)
  | [], _, k, b, e => by cases e
  | q :: l, h, k, b, e => by
    unfold lkI at e
    rw [List.lookup_cons] at e
    cases hq : k == q.1 with
    | true => rw [hq] at e; cases e; rw [beq_iff_eq.mp hq]; exact h.1
    | false => rw [hq] at e; exact try_mk h.2 k b e
def AllN (K : PySem.W.Frag) (C : Addr) : List Str → Prop
  | [] => True
  | g :: r => NoAttr K C g ∧ AllN K C r
theorem xnone {K : PySem.W.Frag} {C : Addr} : ∀ {ns : List Str}, AllN K C ns → ∀ g ∈ ns, PySem.W.findIn K (.ref C) g = some none
  | [], _, g, h => by cases h
  | n :: ns, h, g, e => by
    rcases List.mem_cons.mp e with rfl | e
    · exact h.1
    · exact xnone h.2 g e
end DL

/-! DL, part r: operators in place, attributes changed in place, ranges with a step, lists of ranges. -/
namespace DL
open PySem L2 Evl
section
variable {X : Cx}
theorem ip_of {op : Operator} {C : Int → Int → Prop} {g : Int → Int → Int} (hf : ∀ (s : Shared) (i j : Int) (t u : Tok) (Q : Value → Shared → Prop), C i j → Q (.int (g i j) s.toks) { s with toks := s.toks + 1 } → wpAny (model X.prog X.w) X.A (inplaceOp op (.int i t) (.int j u)) Q X.xe s) : PIp X op (rI C fun i j => .int (g i j)) := by
  intro pins s σ H x y v u Q I r1 r2 h
  obtain ⟨i, j, e1, e2, c, q⟩ := h
  subst e1; subst e2
  obtain ⟨t, rfl⟩ := r1
  obtain ⟨t', rfl⟩ := r2
  exact hf _ _ _ _ _ _ c ⟨.int _, H, I.tok _, ⟨_, rfl⟩, q⟩
theorem ip_of0 {op : Operator} {g : Int → Int → Int} (hf : ∀ (s : Shared) (i j : Int) (t u : Tok) (Q : Value → Shared → Prop), Q (.int (g i j) s.toks) { s with toks := s.toks + 1 } → wpAny (model X.prog X.w) X.A (inplaceOp op (.int i t) (.int j u)) Q X.xe s) : PIp X op (rI0 fun i j => .int (g i j)) := by
  intro pins s σ H x y v u Q I r1 r2 h
  obtain ⟨i, j, e1, e2, q⟩ := h
  subst e1; subst e2
  obtain ⟨t, rfl⟩ := r1
  obtain ⟨t', rfl⟩ := r2
  exact hf _ _ _ _ _ _ ⟨.int _, H, I.tok _, ⟨_, rfl⟩, q⟩
theorem ipd_and : PIp X .BitAnd (rI0 fun i j => .int (Builtin.bitAnd i j)) := ip_of0 fun _ _ _ _ _ _ q => PyProof.Rows.iand_int q
theorem ipd_or : PIp X .BitOr (rI0 fun i j => .int (Builtin.bitOr i j)) := ip_of0 fun _ _ _ _ _ _ q => PyProof.Rows.ior_int q
theorem ipd_xor : PIp X .BitXor (rI0 fun i j => .int (Builtin.bitXor i j)) := ip_of0 fun _ _ _ _ _ _ q => PyProof.Rows.ixor_int q
theorem ipd_sub : PIp X .Sub (rI0 fun i j => .int (i - j)) := ip_of0 fun _ _ _ _ _ _ q => PyProof.Rows.isub_int q
theorem ipd_mul : PIp X .Mult (rI CMulW fun i j => .int (i * j)) := ip_of fun _ _ _ _ _ _ c q => PyProof.Rows.imul_int q c.ok
theorem ipd_mod : PIp X .Mod (rI (fun _ j => j ≠ 0) fun i j => .int (i.fmod j)) := ip_of fun _ _ _ _ _ _ c q => PyProof.Rows.imod_int c q
theorem ipd_div : PIp X .FloorDiv (rI CDivD fun i j => .int (i.fdiv j)) := ip_of fun _ _ _ _ _ _ c q => PyProof.Rows.ifloordiv_int c.1 q (.inl (PyProof.noPylong_of_log2 c.2))
theorem ipd_shl : PIp X .LShift (rI CShl fun i j => .int (i * 2 ^ j.toNat)) := ip_of fun _ _ _ _ _ _ c q => PyProof.Rows.ilshift_int c.1 c.2 q
/-- += of ints, of texts -/
def opAddIS (a b : D) : Option RV := match a, b with
  | .int i, .int j => some (.fl (.int (i + j)))
  | .str i, .str j => if i.length + j.length ≤ lim then some (.fl (.str (i ++ j))) else none
  | _, _ => none
theorem ipd_addI : PIp X .Add (rI0 fun i j => .int (i + j)) := ip_of0 fun _ _ _ _ _ _ q => PyProof.Rows.iadd_int q
theorem ipd_addS : PIp X .Add rAddS' := by
  intro pins s σ H x y v u Q I r1 r2 h
  obtain ⟨i, j, e1, e2, hl, q⟩ := h
  subst e1; subst e2
  obtain ⟨t, rfl⟩ := r1
  obtain ⟨t', rfl⟩ := r2
  exact PyProof.Rows.iadd_str (fun t' tk => ⟨.str _, H, I.tok tk, ⟨_, rfl⟩, q⟩) hl
theorem ipd_add : PIp X .Add (ROr (rI0 fun i j => .int (i + j)) rAddS') := by
  intro pins s σ H x y v u Q I r1 r2 h
  rcases h with h | h
  · exact ipd_addI pins s σ H x y v u Q I r1 r2 h
  · exact ipd_addS pins s σ H x y v u Q I r1 r2 h
theorem ok_addIS {c : Ct} : R2Ok c (ROr (rI0 fun i j => .int (i + j)) rAddS') opAddIS := by
  intro F H d1 d2 v1 v2 rv Q x k1 k2 l q
  cases d1 <;> cases d2 <;> try cases l
  · rename_i i j
    exact .inl ⟨i, j, k1.int, k2.int, q _ rfl⟩
  · rename_i i j
    unfold opAddIS at l
    dsimp only at l
    split at l
    · rename_i h
      cases l
      exact .inr ⟨i, j, k1.str, k2.str, lim_ok h, q _ rfl⟩
    · cases l
end
/-! ### range(i, j, c) -/
def rg3n (i j c : Int) : Nat := (Builtin.Range.rangeSize i j c).toNat
def rg3ok (i j c : Int) : Bool := decide (c ≠ 0) && decide (c.natAbs < 1073741824) && Builtin.Range.small i j c && decide (Builtin.Range.rangeSize i j c = (rg3n i j c : Int))
theorem rg3_ok {i j c : Int} (h : rg3ok i j c = true) : RgC i j c (rg3n i j c) := by
  obtain ⟨h, h4⟩ := Bool.and_eq_true_iff.mp h
  obtain ⟨h, h3⟩ := Bool.and_eq_true_iff.mp h
  obtain ⟨h1, h2⟩ := Bool.and_eq_true_iff.mp h
  exact ⟨of_decide_eq_true h1, of_decide_eq_true h2, h3, of_decide_eq_true h4⟩
def irange3 (lo c : Int) (n : Nat) : List D := (List.range n).map fun (i : Nat) => D.int (lo + (i : Int) * c)
section
variable {X : Cx} {c : Ct} {W : WX} {F : Hp} {ta : TA} {fr : FA} {a b d e : Expr} {pos : Pos}
theorem itOk_range3 {z' : Zs} {lo st : Int} {n : Nat} : ItOk c z' (Itc lo st n) F (irange3 lo st n) := fun i σ H1 F1 e x I => by
  refine ⟨fun d hd => ?_, fun hl => ?_⟩
  · unfold irange3 at hd
    rw [List.getElem?_map] at hd
    obtain ⟨k, hk, rfl⟩ := omap hd
    have hlt : i < n := by
      have := get_lt hk
      rwa [List.length_range] at this
    rw [List.getElem?_range hlt] at hk
    cases hk
    exact ⟨hlt, fun y H2 hy => ⟨F1, Ex.refl F1, by rw [hy.1]; exact Ex.refl _, by rw [hy.1]; exact I, hy.2⟩⟩
  · unfold irange3 at hl
    rw [List.length_map, List.length_range] at hl
    exact hl
def fiR3 (fr : FA) : FI := fun e => (fr e).bind fun r => Res.of ((lookTs r.1 r.2).bind fun ds => match ds with
  | [.int i, .int j, .int st] => if rg3ok i j st then some (irange3 i st (rg3n i j st), r.2) else none
  | _ => none)
theorem Views.three {F H : Hp} {d e g : D} {vs : List V} (h : Views c F H [d, e, g] vs) : ∃ v w u, vs = [v, w, u] ∧ View c F H d v ∧ View c F H e w ∧ View c F H g u := by
  obtain ⟨v, r, rfl, h1, h2⟩ := h
  obtain ⟨w, u, rfl, h3, h4⟩ := Views.two h2
  exact ⟨v, w, u, rfl, h1, h3, h4⟩
theorem sn_iR3 (ha : SndA c W ta fr) : SndI c W (iRng3 ta) (fiR3 fr) := fun z σ H F e R I h => by
  unfold fiR3 at h
  rw [Wp.bind] at h
  refine ha z σ H F e _ I (h.mono (fun r _ h vs H1 F1 x1 I1 t1 => ?_) fun _ _ h => h)
  obtain ⟨o, ea, h⟩ := Wp.of h
  obtain ⟨ds, l1, ea⟩ := obind ea
  have k := t1.views I1 l1
  split at ea
  · rename_i i j st
    split at ea
    · rename_i hk
      cases ea
      obtain ⟨v, w, u, rfl, k1, k2, k3⟩ := k.three
      exact ⟨i, j, st, _, by rw [k1.int, k2.int, k3.int], rg3_ok hk, h _ H1 F1 x1 I1 fun z' => itOk_range3⟩
    · cases ea
  · cases ea
theorem di_range3 {tg : Expr} {p : Pos} (hg : Gl X "range") (hm : X.mg "range" = none) (ha : DA X c W [a, b, d] ta fr)
    (hs : starEach [a, b, d] X.env = (false, eval a X.env) :: starEach [b, d] X.env := by rfl) (hpl : (backTo pos (starEach [b, d] X.env)).any (·.1) = false := by rfl) :
    DI X c W tg (.Call (.Name "range" p) [a, b, d] [] pos) (iRng3 ta) (fiR3 fr) := ⟨pi_range3 hg hm ha.pa hs hpl, sn_iR3 ha.sn⟩
/-! ### list(range(..)) -/
def ok24 (i j : Int) : Bool := ok62 i && ok62 j && decide ((j - i).toNat ≤ 1000000)
theorem rgOk_of {i j : Int} (h : ok24 i j = true) : RgOk i j := by
  obtain ⟨h, h3⟩ := Bool.and_eq_true_iff.mp h
  obtain ⟨h1, h2⟩ := Bool.and_eq_true_iff.mp h
  obtain ⟨a1, a2⟩ := Bool.and_eq_true_iff.mp h1
  obtain ⟨b1, b2⟩ := Bool.and_eq_true_iff.mp h2
  have h3 := of_decide_eq_true h3
  exact ⟨of_decide_eq_true a1, of_decide_eq_true a2, of_decide_eq_true b1, of_decide_eq_true b2, by omega⟩
theorem RpL.rg (i j : Int) : RpL c F (irange i (j - i).toNat) (rgV i j) := by
  have h := RpL.of_ints (c := c) (F := F) ((List.range (j - i).toNat).map fun (k : Nat) => i + (k : Int))
  rw [List.map_map, List.map_map] at h
  exact h
def fLR1 (fa : FE) : FE := fun e => (fa e).bind fun r => Res.of ((lookT r.1 r.2).bind fun d => match d with
  | .int n => if ok24 0 n then some (.nw (.lst (irange 0 (n - 0).toNat)), r.2) else none
  | _ => none)
def fLR2 (fa fb : FE) : FE := fun e => (fa e).bind fun r => (fb r.2).bind fun q => Res.of ((lookT r.1.seal q.2).bind fun d1 => (lookT q.1 q.2).bind fun d2 => match d1, d2 with
  | .int i, .int j => if ok24 i j then some (.nw (.lst (irange i (j - i).toNat)), q.2) else none
  | _, _ => none)
variable {ta1 tb1 : TE} {fa fb : FE}
theorem lay_new {z : Zs} {σ : L2.St} {H : Hp} {e : DEnv} {Q : VK} {ds : List D} {vs : List V} (I : I2 c z σ H F e) (r : RpL c F ds vs) (h : ∀ v H' F', Ex F F' → I2 c z σ H' F' e → TR c z F' H' σ e (.nw (.lst ds)) v → Q v H') : ∀ p, H p = none → Q (.ref p) (upd H p (.lst vs)) := fun p hp =>
  h _ _ F (Ex.refl F) (I.alloc (Ex.new hp)) ⟨p, rfl, ⟨fresh_back I.fh hp, vs, upd_same, r⟩, I.fresh0 hp, I.noroot hp⟩
theorem sn_lr1 (ha : SndE c W ta1 fa) : SndE c W (tLstRg (tRg1 ta1)) (fLR1 fa) := fun z σ H F e Q I h => by
  unfold fLR1 at h
  rw [Wp.bind] at h
  refine ha z σ H F e _ I (h.mono (fun r _ h v H1 F1 x1 I1 t1 => ?_) fun _ _ h => h)
  obtain ⟨o, ea, h⟩ := Wp.of h
  obtain ⟨d, l1, ea⟩ := obind ea
  cases d <;> try cases ea
  rename_i n
  dsimp only at ea
  split at ea
  · rename_i hk
    cases ea
    exact ⟨n, (t1.view I1 l1).int, rgOk_of hk, lay_new I1 (RpL.rg 0 n) fun v' H' F' x' I' t' => h v' H' F' (x1.trans x') I' t'⟩
  · cases ea
theorem sn_lr2 (ha : SndE c W ta1 fa) (hb : SndE c W tb1 fb) : SndE c W (tLstRg (tRg2 ta1 tb1)) (fLR2 fa fb) := fun z σ H F e Q I h => by
  unfold fLR2 at h
  rw [Wp.bind] at h
  refine ha z σ H F e _ I (h.mono (fun r _ h v H1 F1 x1 I1 t1 => ?_) fun _ _ h => h)
  obtain ⟨F2, x2, J, t2⟩ := t1.seal I1
  rw [Wp.bind] at h
  refine hb z σ H1 F2 _ _ J (h.mono (fun q _ h w H3 F3 x3 I3 t3 => ?_) fun _ _ h => h.mono (x1.trans x2))
  obtain ⟨o, ea, h⟩ := Wp.of h
  obtain ⟨d1, l1, ea⟩ := obind ea
  obtain ⟨d2, l2, ea⟩ := obind ea
  cases d1 <;> cases d2 <;> try cases ea
  rename_i i _ j
  dsimp only at ea
  split at ea
  · rename_i hk
    cases ea
    exact ⟨i, j, ((t2.keep (H' := H3) x3).view I3 l1).int, (t3.view I3 l2).int, rgOk_of hk, lay_new I3 (RpL.rg i j) fun v' H' F' x' I' t' => h v' H' F' (((x1.trans x2).trans x3).trans x') I' t'⟩
  · cases ea
theorem de_lr1 {p p2 pos2 : Pos} (hc : X.calm = true) (hg : Gl X "list") (hm : X.mg "list" = none) (hg2 : Gl X "range") (hm2 : X.mg "range" = none) (ha : DE X c W a ta1 fa)
    (na : starEach [.Call (.Name "range" p2) [a] [] pos2] X.env = (false, eval (.Call (.Name "range" p2) [a] [] pos2) X.env) :: starEach [] X.env := by rfl) (nb : starEach [a] X.env = (false, eval a X.env) :: starEach [] X.env := by rfl) :
    DE X c W (.Call (.Name "list" p) [.Call (.Name "range" p2) [a] [] pos2] [] pos) (tLstRg (tRg1 ta1)) (fLR1 fa) := ⟨pe_listRg hc hg hm (prg_1 hg2 hm2 ha.pe nb) na, sn_lr1 ha.sn⟩
theorem de_lr2 {p p2 pos2 : Pos} (hc : X.calm = true) (hg : Gl X "list") (hm : X.mg "list" = none) (hg2 : Gl X "range") (hm2 : X.mg "range" = none) (ha : DE X c W a ta1 fa) (hb : DE X c W b tb1 fb)
    (na : starEach [.Call (.Name "range" p2) [a, b] [] pos2] X.env = (false, eval (.Call (.Name "range" p2) [a, b] [] pos2) X.env) :: starEach [] X.env := by rfl) (nb : starEach [a, b] X.env = (false, eval a X.env) :: starEach [b] X.env := by rfl)
    (nc : starEach [b] X.env = (false, eval b X.env) :: starEach [] X.env := by rfl) (hp : (backTo pos2 (starEach [b] X.env)).any (·.1) = false := by rfl) :
    DE X c W (.Call (.Name "list" p) [.Call (.Name "range" p2) [a, b] [] pos2] [] pos) (tLstRg (tRg2 ta1 tb1)) (fLR2 fa fb) := ⟨pe_listRg hc hg hm (prg_2 hg2 hm2 ha.pe hb.pe nb nc hp) na, sn_lr2 ha.sn hb.sn⟩
/-! .. with a step -/
open PySem.Spec PyProof.Rows
def PRg3 (X : Cx) (e : Expr) (t : L2.St → Hp → (Int → Int → Int → Hp → Prop) → Prop) : Prop :=
  ∀ (pins : List (Addr × Obj)) (s : Shared) (σ : L2.St) (H : Hp) (Q : Int → Int → Int → Hp → Prop), Inv X pins σ H s → t σ H Q →
    wpAny (model X.prog X.w) X.A (eval e X.env) (fun x s' => ∃ r a b c t u v H', x = .ref r ∧ IsRange s'.heap r a b c t u v ∧ Inv X pins σ H' s' ∧ Q a b c H') X.xe s
def tRg3 (ta : TA) : L2.St → Hp → (Int → Int → Int → Hp → Prop) → Prop := fun σ H Q => ta σ H fun vs H1 => ∃ i j c : Int, vs = [.int i, .int j, .int c] ∧ c ≠ 0 ∧ c.natAbs < 1073741824 ∧ Q i j c H1
theorem prg_3 {p : Pos} (hg : Gl X "range") (hm : X.mg "range" = none) (ha : PA X [a, b, d] ta) (hs : starEach [a, b, d] X.env = (false, eval a X.env) :: starEach [b, d] X.env := by rfl) (hpl : (backTo pos (starEach [b, d] X.env)).any (·.1) = false := by rfl) :
    PRg3 X (.Call (.Name "range" p) [a, b, d] [] pos) (tRg3 ta) := by
  intro pins s σ H Q I h
  refine Call_ (ld_blt I hg hm boot_range (PyProof.Rows.callWith_type1 (thn (ha.run pos pins s σ H _ I h) fun us s1 ⟨vs, H1, I1, r1, q1⟩ => ?_) hs hpl))
  obtain ⟨i, j, k, e, c0, c1, q⟩ := q1
  subst e
  cases r1 with
  | cons r rr =>
    cases rr with
    | cons r' rr =>
      cases rr with
      | cons r'' rr =>
        cases rr
        obtain ⟨t, rfl⟩ := r
        obtain ⟨t', rfl⟩ := r'
        obtain ⟨t'', rfl⟩ := r''
        refine call_range_3 c0 ?_ (.inl (PyProof.noPylong_small c1))
        exact ⟨_, i, j, k, _, _, _, H1, rfl, IsRange.new _ _ _ _ _ _ _, I1.kept fun b u e => Heap.get?_push_of_some _ e, q⟩
def rg3V (i c : Int) (n : Nat) : List V := (List.range n).map fun k => V.int (i + (k : Nat) * c)
theorem vals_rg3 {a c : Int} {n : Nat} {acc : Array Value} (h : ItemsOf (fun i v => ∃ t, v = .int (a + i * c) t) acc n) : Vals (rg3V a c n) acc.toList := by
  have e : acc.toList.length = n := by rw [Array.length_toList]; exact h.1
  unfold rg3V
  rw [← e]
  refine vals_of_get acc.toList _ fun j u hj => ?_
  obtain ⟨t, rfl⟩ := h.2 j u (by rw [← hj, Array.getElem?_toList])
  exact ⟨t, rfl⟩
def tLstRg3 (te : L2.St → Hp → (Int → Int → Int → Hp → Prop) → Prop) : TE := fun σ H Q => te σ H fun a b c H1 => RgC a b c (rg3n a b c) ∧ rg3n a b c ≤ 2 ^ 24 ∧ ∀ q, H1 q = none → Q (.ref q) (upd H1 q (.lst (rg3V a c (rg3n a b c))))
theorem pe_listRg3 {te : L2.St → Hp → (Int → Int → Int → Hp → Prop) → Prop} {p : Pos} (hc : X.calm = true) (hg : Gl X "list") (hm : X.mg "list" = none) (he : PRg3 X e te) (na : starEach [e] X.env = (false, eval e X.env) :: starEach [] X.env := by rfl) : PE X (.Call (.Name "list" p) [e] [] pos) (tLstRg3 te) := by
  refine ⟨fun pins s σ H Q I h => ?_⟩
  refine Call_ (ld_blt I hg hm boot_list (PyProof.Rows.callWith_type1 (args_cons (thn (he pins s σ H _ I h) fun x s1 ⟨r, a, b, st, t, u, v, H1, ex, hr, I1, ok, h24, q⟩ => args_nil ?_) na) na))
  subst ex
  obtain ⟨b1, b2, b3, b4⟩ := ok
  refine call_list_range (n := rg3n a b st) (I1.ok.hd hc) hr b3 b4 h24 fun h' tk acc c' hk e' hi => ?_
  refine ⟨.ref s1.heap.objs.size, upd H1 s1.heap.objs.size (.lst (rg3V a st (rg3n a b st))), I1.laid hk (Nat.le_refl _) (show ObjOk X.prog X.w _ _ _ (.lst (rg3V a st (rg3n a b st))) from ⟨?_, acc.toList, c', vals_rg3 hi, ?_⟩), rfl, q _ (I1.hok.fresh (Nat.le_refl _))⟩
  · unfold rg3V
    rw [List.length_map, List.length_range, sizeLine_eq]
    omega
  · rw [Array.toArray_toList]; exact e'
theorem RpL.rg3 (i st : Int) (n : Nat) : RpL c F (irange3 i st n) (rg3V i st n) := by
  have h := RpL.of_ints (c := c) (F := F) ((List.range n).map fun (k : Nat) => i + (k : Int) * st)
  rw [List.map_map, List.map_map] at h
  exact h
def fLR3 (fr : FA) : FE := fun e => (fr e).bind fun r => Res.of ((lookTs r.1 r.2).bind fun ds => match ds with
  | [.int i, .int j, .int st] => if rg3ok i j st && decide (rg3n i j st ≤ 1000000) then some (.nw (.lst (irange3 i st (rg3n i j st))), r.2) else none
  | _ => none)
theorem sn_lr3 (ha : SndA c W ta fr) : SndE c W (tLstRg3 (tRg3 ta)) (fLR3 fr) := fun z σ H F e Q I h => by
  unfold fLR3 at h
  rw [Wp.bind] at h
  refine ha z σ H F e _ I (h.mono (fun r _ h vs H1 F1 x1 I1 t1 => ?_) fun _ _ h => h)
  obtain ⟨o, ea, h⟩ := Wp.of h
  obtain ⟨ds, l1, ea⟩ := obind ea
  have k := t1.views I1 l1
  split at ea
  · rename_i i j st
    split at ea
    · rename_i hk
      cases ea
      obtain ⟨hk, h24⟩ := Bool.and_eq_true_iff.mp hk
      have h24 := of_decide_eq_true h24
      obtain ⟨v, w, u, rfl, k1, k2, k3⟩ := k.three
      have rc := rg3_ok hk
      exact ⟨i, j, st, by rw [k1.int, k2.int, k3.int], rc.1, rc.2.1, rc, by omega, lay_new I1 (RpL.rg3 i st _) fun v' H' F' x' I' t' => h v' H' F' (x1.trans x') I' t'⟩
    · cases ea
  · cases ea
theorem de_lr3 {p p2 pos2 : Pos} (hc : X.calm = true) (hg : Gl X "list") (hm : X.mg "list" = none) (hg2 : Gl X "range") (hm2 : X.mg "range" = none) (ha : DA X c W [a, b, d] ta fr)
    (na : starEach [.Call (.Name "range" p2) [a, b, d] [] pos2] X.env = (false, eval (.Call (.Name "range" p2) [a, b, d] [] pos2) X.env) :: starEach [] X.env := by rfl) (hs : starEach [a, b, d] X.env = (false, eval a X.env) :: starEach [b, d] X.env := by rfl) (hpl : (backTo pos2 (starEach [b, d] X.env)).any (·.1) = false := by rfl) :
    DE X c W (.Call (.Name "list" p) [.Call (.Name "range" p2) [a, b, d] [] pos2] [] pos) (tLstRg3 (tRg3 ta)) (fLR3 fr) := ⟨pe_listRg3 hc hg hm (prg_3 hg2 hm2 ha.pa hs hpl) na, sn_lr3 ha.sn⟩
end
end DL

/-! DL, part u: xs[::-1]. -/
namespace DL
open PySem L2 Evl
theorem fm_congr {α β : Type} {f g : α → Option β} : ∀ {l : List α}, (∀ a ∈ l, f a = g a) → l.filterMap f = l.filterMap g
  | [], _ => rfl
  | a :: l, h => by rw [List.filterMap_cons, List.filterMap_cons, h a List.mem_cons_self, fm_congr fun b hb => h b (List.mem_cons_of_mem _ hb)]
theorem slicePick_rev (its : List Value) : slicePick its.toArray none none (some (-1)) = its.reverse.toArray := by
  have e : sliceBounds none none (some (-1)) its.toArray.size = ((its.length : Int) - 1, -1, -1) := by simp [sliceBounds]
  unfold slicePick
  rw [e]
  dsimp only
  have e2 : sliceRange ((its.length : Int) - 1) (-1) (-1) = (List.range its.length).map fun (k : Nat) => its.length - 1 - k := by
    unfold sliceRange
    have hc : ¬ ((-1 : Int) > 0) := by decide
    simp only [hc, if_false]
    by_cases h : (its.length : Int) - 1 > -1
    · rw [if_pos h]
      have e3 : (((its.length : Int) - 1 - -1 - -1 - 1) / (- -1)).toNat = its.length := by
        have : (its.length : Int) - 1 - -1 - -1 - 1 = its.length := by omega
        rw [this, show (- -1 : Int) = 1 by decide, Int.ediv_one]
        omega
      rw [e3]
      refine List.map_congr_left fun k _ => ?_
      omega
    · have h0 : its.length = 0 := by omega
      simp [h0]
  rw [e2]
  have e4 : ((List.range its.length).map fun (k : Nat) => its.length - 1 - k).filterMap (its.toArray[·]?) = ((List.range its.length).map (0 + ·)).filterMap (its.reverse.toArray[·]?) := by
    rw [List.filterMap_map, List.filterMap_map]
    refine fm_congr fun k hk => ?_
    have hk' : k < its.length := List.mem_range.mp hk
    show its.toArray[its.length - 1 - k]? = its.reverse.toArray[0 + k]?
    rw [List.getElem?_toArray, List.getElem?_toArray, Nat.zero_add, List.getElem?_reverse hk']
  rw [e4, pick_run]
  simp
  exact List.take_of_length_le (by simp)
section
variable {X : Cx} {c : Ct} {W : WX} {a : Expr} {ta : TE} {fa : FE} {pos p2 p3 p4 : Pos}
def rRevL (K : PySem.W.Frag) : V → Hp → VK → Prop := fun x H Q => ∃ a xs, x = .ref a ∧ SqL K H a xs ∧ ∀ p, H p = none → Q (.ref p) (upd H p (.lst xs.reverse))
open PySem.Spec PyProof.Rows in
theorem pe_rev {j : Nat} (he : PE X a ta) : PE X (.Subscript a (.Slice none none (some (.UnaryOp .USub (.Constant (.int 1) j p4) p3)) p2) pos) (tUn (rRevL X.K) ta) := by
  refine ⟨fun pins s σ H Q I h => ?_⟩
  refine Subscript_ (thn (he.run pins s σ H _ I h) fun v s1 ⟨x, H1, I1, r1, b, xs, ex, hx, q⟩ => ?_)
  subst ex
  cases r1
  refine wpAny_Slice ?_
  rw [evalPart_none]
  refine wpAny_pure ?_
  refine wpAny_pure ?_
  rw [evalPart_some]
  have e1 : PE X (.UnaryOp .USub (.Constant (.int 1) j p4) p3) (tUn (rU fun i => .int (-i)) (tC (.int 1))) := pe_un un_neg pe_int
  refine thn (e1.run pins s1 σ H1 (fun y H2 => y = .int (-1) ∧ H2 = H1) I1 ⟨1, rfl, rfl, rfl⟩) fun u s2 ⟨y, H2, I2, r2, ey, eH⟩ => ?_
  subst ey; subst eH
  obtain ⟨t, rfl⟩ := r2
  have I3 : Inv X pins σ H2 { s2 with heap := s2.heap.push { cls := .type "slice", data := .fields #[.none, .none, .int (-1) t] } } := I2.kept (t' := s2.toks) fun b ob q => Heap.get?_push_of_some _ q
  obtain ⟨its, r, ht, hz⟩ := I3.list hx
  have hlen := r.length
  show wpAny (model X.prog X.w) X.A (subscriptTail a (.Slice none none (some (.UnaryOp .USub (.Constant (.int 1) j p4) p3)) p2) (.ref b) (.ref s2.heap.objs.size)) (EP X pins σ Q) X.xe { s2 with heap := s2.heap.push { cls := .type "slice", data := .fields #[.none, .none, .int (-1) t] } }
  refine tail_any (ops := [.ref b, .ref s2.heap.objs.size]) ht.isList.typeIs slot_list_getitem.lookup ?_ (by with_unfolding_all rfl)
  refine wpAny_getItem_list_slice (st := some (-1)) ht.isList (Heap.IsSliceOf.new ..) .none .none (.int _ _) (by simp) ?_ (by rw [List.size_toArray] <;> omega)
  rw [slicePick_rev]
  have hr : Vals xs.reverse its.reverse := by
    have : ∀ {xs : List V} {its : List Value}, Vals xs its → Vals xs.reverse its.reverse := by
      intro xs its h
      induction h with
      | nil => exact .nil
      | cons a b ih => rw [List.reverse_cons, List.reverse_cons]; exact ih.append (.cons a .nil)
    exact this r
  refine ⟨.ref _, _, I3.laid (t' := s2.toks) (o := .lst xs.reverse) (fun b ob q => Heap.get?_push_of_some _ q) (Nat.le_refl _) ?_, rfl, q _ (I3.hok.fresh (Nat.le_refl _))⟩
  exact ⟨by rw [List.length_reverse]; exact hz, _, 0, hr, Heap.get?_push_size _ rfl⟩
def opRev (a : D) : Option RV := match a with
  | .lst ds => some (.nl ds.reverse)
  | .rol ds => some (.nl ds.reverse)
  | _ => none
theorem ok_rev : R1Ok c (rRevL c.K) opRev := by
  intro F H d1 v1 rv Q x k1 l q
  cases d1 <;> try cases l
  · obtain ⟨p, vs, rfl, h1, r⟩ := k1.lst x
    exact ⟨p, vs, rfl, sq_of h1, fun p hp => q p _ r.rev hp⟩
  · obtain ⟨p, vs, rfl, h1, r⟩ := k1.rol x
    exact ⟨p, vs, rfl, h1, fun p hp => q p _ r.rev hp⟩
theorem de_rev {j : Nat} (hK : X.K = c.K) (ha : DE X c W a ta fa) : DE X c W (.Subscript a (.Slice none none (some (.UnaryOp .USub (.Constant (.int 1) j p4) p3)) p2) pos) (tUn (rRevL c.K) ta) (fOp1 opRev fa) := ⟨hK ▸ pe_rev ha.pe, sn_op1 ok_rev ha.sn⟩
end
end DL

/-! DL, part v: a, *b = a tuple. -/
namespace PySem.W
open PySem PySem.Spec PySem.Calls PyProof.Rows
section
variable {prog : Program} {w : World} {A : Around} {E : Value → Shared → Prop} {s : Shared} {env : Env} {elts : List Expr} {k : Nat} {pos : Pos}
theorem dl_starT {l : Addr} {items : Array Value} {n i : Nat} {Q : List Value → Shared → Prop} (hl : IsTup s.heap l items) (hh : A.handled = none) (hi : i < n) (hn : n ≤ items.size + 1) (hz : items.size ≤ 16384)
    (h : ∀ h2 tk, Heap.ExtBut s.heap.objs.size s.heap h2 → Q (items.toList.take i ++ [.ref h2.objs.size] ++ (items.toList.drop i).drop (items.size + 1 - n)) { s with heap := h2.push { cls := .type "list", data := .seq ((items.toList.drop i).take (items.size + 1 - n)).toArray }, toks := tk }) :
    wpAny (model prog w) A (unpackItems (.ref l) n (some i)) Q E s := by
  have hlt : l ≠ s.heap.objs.size := by obtain ⟨o, ho, _⟩ := hl; exact Nat.ne_of_lt (Heap.lt_size ho)
  unfold unpackItems
  refine wpAny_bind ?_
  unfold notIterableAtAll
  refine wpAny_bind (wpAny_specialOf hl.typeIs slot_tuple_iter.lookup (wpAny_pure ?_))
  simp only [Bool.false_eq_true, if_false]
  refine wpAny_bind (wpAny_holding (iter_tuple hl ?_))
  refine wpAny_bind (wpAny_holding (draw_tuple hlt i 0 _ _ ⟨_, Heap.get?_push_size _ rfl, rfl, rfl⟩ (hl.push _) (by omega) fun h₁ hit₁ hs₁ => ?_))
  have hl₁ : IsTup h₁ l items := (hl.push _).extBut hs₁.extBut hlt
  rw [Nat.zero_add] at hit₁
  obtain ⟨oi, hoi, _⟩ := id hit₁
  obtain ⟨ol, hol, _⟩ := id hl₁
  rw [List.drop_zero]
  have hfl : (items.toList.take i).length = i := by rw [List.length_take, Array.length_toList]; omega
  rw [if_neg (show ¬ ((items.toList.take i).length < i) by rw [hfl]; omega)]
  refine wpAny_bind (wpAny_holding (kun_collect (s := { s with heap := h₁ }) (T := "tuple_iterator") (.inr (.inr (.inr rfl))) (Walks.tuple (A := A.in1) hh s.heap.objs.size l hlt items) (fun j u st => st.1.typeIs)
    (k := i) (by omega) ⟨hit₁, hl₁⟩ (Heap.lt_size hoi) (Heap.lt_size hol) (fun h₂ tk hk => ?_) (by rw [sizeLine_eq]; omega)))
  have hrl : (items.toList.drop i).length = items.size - i := by rw [List.length_drop, Array.length_toList]
  have hmid : (items.toList.drop i).length - (n - 1 - i) = items.size + 1 - n := by rw [hrl]; omega
  show wpAny _ _ (if (items.toList.drop i).length < n - 1 - i then _ else _) _ _ _
  rw [if_neg (by rw [hrl]; omega)]
  show wpAny _ _ (newList ((items.toList.drop i).take ((items.toList.drop i).length - (n - 1 - i))) >>= fun d => pure (items.toList.take i ++ [d] ++ (items.toList.drop i).drop ((items.toList.drop i).length - (n - 1 - i)))) _ _ _
  rw [hmid]
  have he : Heap.ExtBut s.heap.objs.size s.heap h₂ := fun b o hb e => hk b o hb (hs₁.extBut b o hb (Heap.get?_push_of_some _ e))
  unfold newList
  exact wpAny_bind (wpAny_newObj_type (wpAny_pure (h h₂ tk he)) (by show ((items.toList.drop i).take (items.size + 1 - n)).toArray.size ≤ sizeLine; rw [List.size_toArray, List.length_take, hrl, sizeLine_eq]; omega))
end
end PySem.W
namespace DL
open PySem L2 Evl
section
variable {X : Cx} {c : Ct} {W : WX} {a : Expr} {ta : TE} {fa : FE} {pos tpos : Pos} {es : List Expr} {gs : TGs} {fs : List D → DEnv → Option DEnv} {n i k : Nat}
def gStar (K : PySem.W.Frag) (n i : Nat) (t : TGs) : TG := fun v σ H Q => ∃ a xs, v = .ref a ∧ SqT K H a xs ∧ n ≤ xs.length + 1 ∧ xs.length ≤ 16384 ∧
  ∀ q, H q = none → t (xs.take i ++ [.ref q] ++ (xs.drop i).drop (xs.length + 1 - n)) σ (upd H q (.lst ((xs.drop i).take (xs.length + 1 - n)))) Q
open PySem.Spec PyProof.Rows in
theorem pg_star (hc : X.calm = true) (h : PGs X es gs) (hi : i < n) (hn : (assignEach es X.env).length = n := by rfl) (hst : (assignEach es X.env).findIdx? (·.1) = some i := by rfl) : PG X (.Tuple es k pos) (gStar X.K n i gs) := by
  refine ⟨fun pins s σ H v u Q I r hw => ?_⟩
  obtain ⟨a, xs, e1, hq, hl, hz, hw⟩ := hw
  subst e1
  cases r
  obtain ⟨its, rv, ht, hz'⟩ := I.tuple hq
  have hlen : xs.length = its.length := rv.length
  rw [assign_Tuple]
  refine wpAny_bind (wpAny_standAt ?_)
  unfold unpack
  rw [hn, hst]
  refine wpAny_bind (wpAny_holding (PySem.W.dl_starT ht (I.ok.hd hc) hi (by rw [List.size_toArray]; omega) (by rw [List.size_toArray]; omega) fun h2 tk hx => ?_))
  have es' : its.toArray.size = xs.length := by rw [List.size_toArray, hlen]
  rw [es']
  have I1 : L2.Inv X pins σ H { s with heap := h2, toks := tk } := I.kept (t' := tk) fun b o e => hx b o (Nat.ne_of_lt (Heap.lt_size e)) e
  have I2 : L2.Inv X pins σ (upd H h2.objs.size (.lst ((xs.drop i).take (xs.length + 1 - n)))) { s with heap := h2.push { cls := .type "list", data := .seq ((its.drop i).take (xs.length + 1 - n)).toArray }, toks := tk } :=
    I1.laid (t' := tk) (fun b ob q => Heap.get?_push_of_some _ q) (Nat.le_refl _) (show ObjOk X.prog X.w _ _ _ (.lst _) from ⟨by rw [List.length_take, List.length_drop, sizeLine_eq]; omega, _, 0, (rv.drop i).take (xs.length + 1 - n), Heap.get?_push_size _ rfl⟩)
  exact h.run pins _ σ _ _ _ Q I2 (((rv.take i).append (show Vals [V.ref h2.objs.size] [Value.ref h2.objs.size] from .cons rfl .nil)).append ((rv.drop i).drop (xs.length + 1 - n))) (hw _ (I1.hok.fresh (Nat.le_refl _)))
def fStar (n i : Nat) (fs : List D → DEnv → Option DEnv) (f : FE) : FS := fun e => (f e).bind fun r => Res.of ((escape r.1 r.2).bind fun q => match q.1 with
  | .tup ds => if decide (n ≤ ds.length + 1) && decide (ds.length ≤ 16384) then (fs (ds.take i ++ [.lst ((ds.drop i).take (ds.length + 1 - n))] ++ (ds.drop i).drop (ds.length + 1 - n)) q.2).map .nx else none
  | _ => none)
theorem sn_star (ha : SndE c W ta fa) (hg : ∀ (z : Zs) σ H F e ds vs e' (Q : L2.St → Hp → Prop), I2 c z σ H F e → RpL c F ds vs → fs ds e = some e' → (∀ σ', I2 c z σ' H F e' → Q σ' H) → gs vs σ H Q) : SndS c W (tAsg ta (gStar c.K n i gs)) (fStar n i fs fa) := fun z σ H F e D I h => by
  unfold fStar at h
  rw [Wp.bind] at h
  refine ha z σ H F e _ I (h.mono (fun r _ h v H1 F1 x1 I1 t1 => ?_) fun _ _ h => h σ)
  obtain ⟨o, ea, h⟩ := Wp.of h
  obtain ⟨⟨d, e1⟩, l1, ea⟩ := obind ea
  obtain ⟨G, x2, J, rr⟩ := t1.escape I1 l1
  cases d <;> try cases ea
  rename_i ds
  dsimp only at ea
  split at ea
  · rename_i hk
    obtain ⟨hk1, hk2⟩ := Bool.and_eq_true_iff.mp hk
    have hk1 := of_decide_eq_true hk1
    have hk2 := of_decide_eq_true hk2
    obtain ⟨e2, l2, rfl⟩ := omap ea
    obtain ⟨p, vs, rfl, h1, h2⟩ := rr
    have hlen := h2.len
    refine ⟨p, vs, rfl, ex_t J.fh h1, by omega, by omega, fun q hq => ?_⟩
    have xn := Ex.new (o := HO.lst ((vs.drop i).take (vs.length + 1 - n))) (fresh_back J.fh hq)
    have J2 := J.allocT (o := HO.lst ((vs.drop i).take (vs.length + 1 - n))) hq
    refine hg z σ _ _ e1 _ _ e2 _ J2 ?_ l2 fun σ' K => h σ' _ _ ((x1.trans x2).trans xn) K
    have r2 := RpL.mono xn ds vs h2
    rw [hlen]
    have r3 : Rp c (upd G q (HO.lst ((vs.drop i).take (vs.length + 1 - n)))) (.lst ((ds.drop i).take (vs.length + 1 - n))) (.ref q) := ⟨q, _, rfl, upd_same, (r2.drop i).take _⟩
    exact ((r2.take i).app (RpL.one r3)).app ((r2.drop i).drop _)
  · cases ea
theorem ds_star (hK : X.K = c.K) (hc : X.calm = true) (ha : DE X c W a ta fa) (hp : PGs X es gs) (hg : ∀ (z : Zs) σ H F e ds vs e' (Q : L2.St → Hp → Prop), I2 c z σ H F e → RpL c F ds vs → fs ds e = some e' → (∀ σ', I2 c z σ' H F e' → Q σ' H) → gs vs σ H Q) (hi : i < n)
    (hn : (assignEach es X.env).length = n := by rfl) (hst : (assignEach es X.env).findIdx? (·.1) = some i := by rfl)
    (hs : swapsWithSole [.Tuple es k tpos] a pos.line X.env = pure false := by rfl) (hw : swappedStores [.Tuple es k tpos] a X.env = pure none := by rfl) (h1 : (assignEach [.Tuple es k tpos] X.env).map (·.2) = [assign (.Tuple es k tpos) X.env] := by rfl) :
    DS X c W (.Assign [.Tuple es k tpos] a pos) (tAsg ta (gStar c.K n i gs)) (fStar n i fs fa) := ⟨hK ▸ ps_asg ha.pe (pg_star hc hp hi hn hst) hs hw h1, sn_star ha.sn hg⟩
/-- a, *b = e -/
theorem ds_star2 {i1 i2 : Nat} {x y : Str} {p1 p2 p3 : Pos} (hK : X.K = c.K) (hc : X.calm = true) (ha : DE X c W a ta fa) (h1 : DG X c (.Name x p1) (gName i1) (fgName i1)) (h2 : DG X c (.Name y p3) (gName i2) (fgName i2))
    (hn : (assignEach [.Name x p1, .Starred (.Name y p3) p2] X.env).length = 2 := by rfl) (hst : (assignEach [.Name x p1, .Starred (.Name y p3) p2] X.env).findIdx? (·.1) = some 1 := by rfl)
    (hs : swapsWithSole [.Tuple [.Name x p1, .Starred (.Name y p3) p2] k tpos] a pos.line X.env = pure false := by rfl) (hw : swappedStores [.Tuple [.Name x p1, .Starred (.Name y p3) p2] k tpos] a X.env = pure none := by rfl)
    (h3 : (assignEach [.Tuple [.Name x p1, .Starred (.Name y p3) p2] k tpos] X.env).map (·.2) = [assign (.Tuple [.Name x p1, .Starred (.Name y p3) p2] k tpos) X.env] := by rfl)
    (hm : (assignEach [.Name x p1, .Starred (.Name y p3) p2] X.env).map (·.2) = (assignEach [.Name x p1, .Name y p3] X.env).map (·.2) := by rfl) :
    DS X c W (.Assign [.Tuple [.Name x p1, .Starred (.Name y p3) p2] k tpos] a pos) (tAsg ta (gStar c.K 2 1 (gCons (gName i1) (gCons (gName i2) gNil)))) (fStar 2 1 (fgCons (fgName i1) (fgCons (fgName i2) fgNil)) fa) :=
  ds_star hK hc ha ⟨fun pins s σ H vs us Q I r h => by rw [hm]; exact (dgs_cons h1 (dgs_cons h2 dgs_nil)).pg.run pins s σ H vs us Q I r h⟩ (dgs_cons h1 (dgs_cons h2 dgs_nil)).sn (by decide) hn hst hs hw h3
end
end DL

/-! DL, part s: how functions on data are run by simp. Its first rows are printed by evs.py. -/
namespace DL
open PySem L2 Evl
@[simp ↓] theorem ev_bind {α β : Type} (r : Res α) (f : α → Res β) : r.bind f = (match r with | .stuck => .stuck | .ok a => f a | .exc x e => .exc x e) := rfl
@[simp ↓] theorem ev_obind {α β : Type} (r : Option α) (f : α → Option β) : r.bind f = (match r with | none => none | some a => f a) := by cases r <;> rfl
@[simp ↓] theorem ev_omap {α β : Type} (r : Option α) (f : α → β) : r.map f = (match r with | none => none | some a => some (f a)) := by cases r <;> rfl
@[simp] theorem Res.of_some {α : Type} {a : α} : Res.of (some a) = .ok a := rfl
@[simp] theorem Res.of_none {α : Type} : Res.of (none : Option α) = .stuck := rfl
@[simp ↓] theorem ev_fVar (i : Nat) (e : DEnv) : fVar i e = (match e[i]? with
  | some (some _) => .ok (.sl i, e)
  | _ => .stuck) := rfl
@[simp ↓] theorem ev_fC (d : D) (e : DEnv) : fC d e = (.ok (.vl d, e)) := rfl
@[simp ↓] theorem ev_fA0 (e : DEnv) : fA0 e = (.ok ([], e)) := rfl
@[simp ↓] theorem ev_fA1 (fa : FE) (fr : FA) (e : DEnv) : fA1 fa fr e = ((fa e).bind fun r => (fr r.2).bind fun q => .ok (r.1.seal :: q.1, q.2)) := rfl
@[simp ↓] theorem ev_fOp2 (op : D → D → Option RV) (fa fb : FE) (e : DEnv) : fOp2 op fa fb e = ((fa e).bind fun r => (fb r.2).bind fun q => Res.of ((lookT r.1.seal q.2).bind fun d1 => (lookT q.1 q.2).bind fun d2 => (op d1 d2).bind fun rv => some (rv.tok, q.2))) := rfl
@[simp ↓] theorem ev_fOp1 (op : D → Option RV) (fa : FE) (e : DEnv) : fOp1 op fa e = ((fa e).bind fun r => Res.of ((lookT r.1 r.2).bind fun d1 => (op d1).bind fun rv => some (rv.tok, r.2))) := rfl
@[simp ↓] theorem ev_fCB (op : List D → Option RV) (fr : FA) (e : DEnv) : fCB op fr e = ((fr e).bind fun r => Res.of ((lookTs r.1 r.2).bind fun ds => (op ds).bind fun rv => some (rv.tok, r.2))) := rfl
@[simp ↓] theorem ev_fB (f : FE) (e : DEnv) : fB f e = ((f e).bind fun r => match lookT r.1 r.2 with
  | some (.bl b) => .ok (b, r.2)
  | _ => .stuck) := rfl
@[simp ↓] theorem ev_fNot (f : FT) (e : DEnv) : fNot f e = ((f e).bind fun r => .ok (!r.1, r.2)) := rfl
@[simp ↓] theorem ev_fAnd (f g : FT) (e : DEnv) : fAnd f g e = ((f e).bind fun r => if r.1 = true then g r.2 else .ok (false, r.2)) := rfl
@[simp ↓] theorem ev_fOr (f g : FT) (e : DEnv) : fOr f g e = ((f e).bind fun r => if r.1 = true then .ok (true, r.2) else g r.2) := rfl
@[simp ↓] theorem ev_fNotV (f : FE) (e : DEnv) : fNotV f e = ((fB f e).bind fun r => .ok (.vl (.bl (!r.1)), r.2)) := rfl
@[simp ↓] theorem ev_fAndV (f g : FE) (e : DEnv) : fAndV f g e = ((fB f e).bind fun r => if r.1 = true then g r.2 else .ok (.vl (.bl false), r.2)) := rfl
@[simp ↓] theorem ev_fOrV (f g : FE) (e : DEnv) : fOrV f g e = ((fB f e).bind fun r => if r.1 = true then .ok (.vl (.bl true), r.2) else g r.2) := rfl
@[simp ↓] theorem ev_fIf (t : FT) (f g : FE) (e : DEnv) : fIf t f g e = ((t e).bind fun r => if r.1 = true then f r.2 else g r.2) := rfl
@[simp ↓] theorem ev_fLst (fa : FA) (e : DEnv) : fLst fa e = ((fa e).bind fun r => Res.of ((escs r.1 r.2).bind fun q => if q.1.length ≤ lim then some (.nw (.lst q.1), q.2) else none)) := rfl
@[simp ↓] theorem ev_fTup (fa : FA) (e : DEnv) : fTup fa e = ((fa e).bind fun r => Res.of ((escs r.1 r.2).bind fun q => if q.1.length ≤ lim then some (.vl (.tup q.1), q.2) else none)) := rfl
@[simp ↓] theorem ev_fSet (i : Nat) (f : FE) (e : DEnv) : fSet i f e = ((f e).bind fun r => Res.of ((storeT i r.1 r.2).map .nx)) := rfl
@[simp ↓] theorem ev_fNext (e : DEnv) : fNext e = (.ok (.nx e)) := rfl
@[simp ↓] theorem ev_fSeq (f g : FS) (e : DEnv) : fSeq f g e = ((f e).bind fun o => match o with
  | .nx e1 => g e1
  | .rt t e1 => .ok (.rt t e1)
  | .bk e1 => .ok (.bk e1)
  | .ct e1 => .ok (.ct e1)) := rfl
@[simp ↓] theorem ev_fBreak (e : DEnv) : fBreak e = (.ok (.bk e)) := rfl
@[simp ↓] theorem ev_fCont (e : DEnv) : fCont e = (.ok (.ct e)) := rfl
@[simp ↓] theorem ev_fDrop (f : FE) (e : DEnv) : fDrop f e = ((f e).bind fun r => .ok (.nx r.2)) := rfl
@[simp ↓] theorem ev_fRet (f : FE) (e : DEnv) : fRet f e = ((f e).bind fun r => .ok (.rt r.1 r.2)) := rfl
@[simp ↓] theorem ev_fRetN (e : DEnv) : fRetN e = (.ok (.rt (.vl .non) e)) := rfl
@[simp ↓] theorem ev_fIfS (t : FT) (f g : FS) (e : DEnv) : fIfS t f g e = ((t e).bind fun r => if r.1 = true then f r.2 else g r.2) := rfl
@[simp ↓] theorem ev_fAsg (fg : D → DEnv → Option DEnv) (f : FE) (e : DEnv) : fAsg fg f e = ((f e).bind fun r => Res.of ((escape r.1 r.2).bind fun q => (fg q.1 q.2).map .nx)) := rfl
@[simp ↓] theorem ev_fPar (i j : Nat) (fr : FA) (e : DEnv) : fPar i j fr e = ((fr e).bind fun r => Res.of (match r.1 with
  | [t, u] => (escape t r.2).bind fun q => (escape u q.2).bind fun q2 => if i < q2.2.length ∧ j < q2.2.length then some (.nx ((q2.2.set i (some (.sh q.1))).set j (some (.sh q2.1)))) else none
  | _ => none)) := rfl
@[simp ↓] theorem ev_fAug (i : Nat) (op : D → D → Option RV) (f : FE) (e : DEnv) : fAug i op f e = (match e[i]? with
  | some (some (.sh d1)) => (f e).bind fun r => Res.of ((lookT r.1 r.2).bind fun d2 => (op d1 d2).bind fun rv => (storeT i rv.tok r.2).map .nx)
  | _ => .stuck) := rfl
@[simp ↓] theorem ev_fApp (j : Nat) (f : FE) (e : DEnv) : fApp j f e = ((Res.of (rootLst e j)).bind fun _ => (f e).bind fun r => Res.of ((escape r.1 r.2).bind fun q => (rootLst q.2 j).bind fun ds => if ds.length < lim then some (.vl .non, putLst q.2 j (ds ++ [q.1])) else none)) := rfl
@[simp ↓] theorem ev_fPop (j : Nat) (e : DEnv) : fPop j e = (Res.of ((rootLst e j).bind fun ds => (ds[ds.length - 1]?).bind fun d => some (.vl d, putLst e j ds.dropLast))) := rfl
@[simp ↓] theorem ev_fExt (j : Nat) (f : FE) (e : DEnv) : fExt j f e = ((Res.of (rootLst e j)).bind fun _ => (f e).bind fun r => Res.of ((escape r.1 r.2).bind fun q => match q.1 with
  | .lst es => (rootLst q.2 j).bind fun ds => if ds.length + es.length ≤ lim then some (.vl .non, putLst q.2 j (ds ++ es)) else none
  | _ => none)) := rfl
@[simp ↓] theorem ev_fSetIx (j : Nat) (fi fv : FE) (e : DEnv) : fSetIx j fi fv e = ((fv e).bind fun r => (Res.of ((escape r.1 r.2).bind fun q => (rootLst q.2 j).map fun _ => q)).bind fun q => (fi q.2).bind fun s => Res.of ((lookT s.1 s.2).bind fun k => match k with
  | .int k => (rootLst s.2 j).bind fun ds => (ixN ds.length k).map fun n => .nx (putLst s.2 j (ds.set n q.1))
  | _ => none)) := rfl
@[simp ↓] theorem ev_fiL (f : FE) (e : DEnv) : fiL f e = ((f e).bind fun r => Res.of ((escape r.1 r.2).bind fun q => match q.1 with
  | .lst ds => some (ds, q.2)
  | .rol ds => some (ds, q.2)
  | _ => none)) := rfl
@[simp ↓] theorem ev_fiT (f : FE) (e : DEnv) : fiT f e = ((f e).bind fun r => Res.of ((escape r.1 r.2).bind fun q => match q.1 with
  | .tup ds => some (ds, q.2)
  | _ => none)) := rfl
@[simp ↓] theorem ev_fiR1 (fr : FA) (e : DEnv) : fiR1 fr e = ((fr e).bind fun r => Res.of ((lookTs r.1 r.2).bind fun ds => match ds with
  | [.int n] => if ok62 n then some (irange 0 n.toNat, r.2) else none
  | _ => none)) := rfl
@[simp ↓] theorem ev_fiR2 (fr : FA) (e : DEnv) : fiR2 fr e = ((fr e).bind fun r => Res.of ((lookTs r.1 r.2).bind fun ds => match ds with
  | [.int i, .int j] => if ok62 i && ok62 j then some (irange i (j - i).toNat, r.2) else none
  | _ => none)) := rfl
@[simp ↓] theorem ev_fFor (fi : FI) (fg : D → DEnv → Option DEnv) (fb : FS) (e : DEnv) : fFor fi fg fb e = ((fi e).bind fun r => loopF fg fb r.1 r.2) := rfl
@[simp ↓] theorem ev_fLc (fi : FI) (fg : D → DEnv → Option DEnv) (ft : FT) (fe : FE) (vs : List Nat) (e : DEnv) : fLc fi fg ft fe vs e = ((fi e).bind fun r => Res.of (if clearAt r.2 vs then (loopC fg ft fe vs r.1 [] (wipeE (lendE r.2) vs)).map fun q => (.nw (.lst q.1), backE r.2 q.2) else none)) := rfl
@[simp ↓] theorem ev_fYes (e : DEnv) : fYes e = (.ok (true, e)) := rfl
@[simp ↓] theorem ev_fFn (N : Nat) (body : FS) (bs : List B) : fFn N body bs = ((body (env0 N bs)).bind fun o => Res.of (match o with
  | .nx e => fnRet bs (.vl .non) e
  | .rt t e => fnRet bs t e
  | _ => none)) := rfl
@[simp ↓] theorem ev_fCall (ms : List Bool) (dds : List D) (m : Fn) (fa : FA) (e : DEnv) : fCall ms dds m fa e = ((fa e).bind fun r => (Res.of (escN ms r.1 r.2)).bind fun q => callM dds m q.1 q.2) := rfl
@[simp ↓] theorem ev_fFld (ns : List Str) (k : Nat) (f : Str) (fo : FE) (e : DEnv) : fFld ns k f fo e = ((fo e).bind fun r => Res.of ((lookT r.1 r.2).bind fun d => match d with
  | .ins k' ds => if k' = k then (fldOf ns f ds).map fun d => (.vl d, r.2) else none
  | _ => none)) := rfl
@[simp ↓] theorem ev_fPutF (ns : List Str) (k j : Nat) (f : Str) (fv : FE) (e : DEnv) : fPutF ns k j f fv e = ((fv e).bind fun r => Res.of ((escape r.1 r.2).bind fun q => (rootIns k q.2 j).bind fun ds => (putD ns f q.1 ds).bind fun ds' => if ds.length < 900 then some (.nx (putIns k q.2 j ds')) else none)) := rfl
@[simp ↓] theorem ev_fMeth (k : Nat) (ms : List Bool) (dds : List D) (m : Fn) (fo : FE) (fa : FA) (e : DEnv) : fMeth k ms dds m fo fa e = ((fo e).bind fun r0 => match lookT r0.1.seal r0.2 with
  | some (.ins k' _) => if k' = k then (fa r0.2).bind fun r => (Res.of (escN ms (r0.1.seal :: r.1) r.2)).bind fun q => callM dds m q.1 q.2 else .stuck
  | _ => .stuck) := rfl
@[simp ↓] theorem ev_fProp (k : Nat) (m : Fn) (fo : FE) (e : DEnv) : fProp k m fo e = ((fo e).bind fun r0 => match lookT r0.1.seal r0.2 with
  | some (.ins k' _) => if k' = k then (Res.of (escN [false] [r0.1.seal] r0.2)).bind fun q => noExc (callM [] m q.1 q.2) else .stuck
  | _ => .stuck) := rfl
@[simp ↓] theorem ev_fMake (k : Nat) (ms : List Bool) (dds : List D) (m : Fn) (fa : FA) (e : DEnv) : fMake k ms dds m fa e = ((fa e).bind fun r => (Res.of (escN ms r.1 r.2)).bind fun q => match callM dds m (.sl q.2.length :: q.1) (q.2 ++ [some (.ow (.ins k []))]) with
  | .stuck => .stuck
  | .exc x e' => .exc x e'.dropLast
  | .ok (.vl .non, e') => match e'.getLast? with
    | some (some (.ow (.ins k' ds))) => .ok (.nw (.ins k' ds), e'.dropLast)
    | _ => .stuck
  | .ok _ => .stuck) := rfl
@[simp ↓] theorem ev_fIsi (P : D → Option Bool) (fa : FE) (e : DEnv) : fIsi P fa e = ((fa e).bind fun r => Res.of ((lookT r.1 r.2).bind fun d => (P d).map fun b => (.vl (.bl b), r.2))) := rfl
@[simp ↓] theorem ev_fiZip (fr : FA) (e : DEnv) : fiZip fr e = ((fr e).bind fun r => Res.of ((escs r.1 r.2).bind fun q => match q.1 with
  | [.lst xs, .lst ys] => some (izip xs ys, q.2)
  | [.tup xs, .tup ys] => some (izip xs ys, q.2)
  | _ => none)) := rfl
@[simp ↓] theorem ev_fOwn2 (p1 p2 : D → Bool) (sw : Bool) (m : Fn) (fa fb : FE) (e : DEnv) : fOwn2 p1 p2 sw m fa fb e = ((fa e).bind fun r => (fb r.2).bind fun q => match lookT r.1.seal q.2, lookT q.1.seal q.2 with
  | some d1, some d2 => if p1 d1 && p2 d2 then (Res.of (escN [] (if sw then [q.1.seal, r.1.seal] else [r.1.seal, q.1.seal]) q.2)).bind fun q => callM [] m q.1 q.2 else .stuck
  | _, _ => .stuck) := rfl
@[simp ↓] theorem ev_fOwn1 (i : Nat) (m : Fn) (fa : FE) (e : DEnv) : fOwn1 i m fa e = ((fa e).bind fun r => match lookT r.1.seal r.2 with
  | some d => if isIns i d then (Res.of (escN [] [r.1.seal] r.2)).bind fun q => callM [] m q.1 q.2 else .stuck
  | _ => .stuck) := rfl
@[simp ↓] theorem ev_fOwnN (i : Nat) (P : D → Bool) (m : Fn) (fa fb : FE) (e : DEnv) : fOwnN i P m fa fb e = ((fOwn2 (isIns i) P false m fa fb e).bind fun r => match r.1 with
  | .vl (.bl b) => .ok (.vl (.bl (!b)), r.2)
  | _ => .stuck) := rfl
@[simp ↓] theorem ev_fCallF (ms : List Bool) (dds : List D) (m : Fn) (f1 : FE) (fr : FA) (e : DEnv) : fCallF ms dds m f1 fr e = ((f1 e).bind fun r1 => match r1.1 with
  | .nw d => (fr r1.2).bind fun r => (Res.of (escN ms r.1 r.2)).bind fun q => dropG (callM dds m (.sl q.2.length :: q.1) (q.2 ++ [some (.ow d)]))
  | _ => .stuck) := rfl
@[simp ↓] theorem ev_fNoP (e : DEnv) : fNoP e = (.ok (none, e)) := rfl
@[simp ↓] theorem ev_fPo (f : FE) (e : DEnv) : fPo f e = ((f e).bind fun r => match lookT r.1 r.2 with
  | some (.int i) => .ok (some i, r.2)
  | _ => .stuck) := rfl
@[simp ↓] theorem ev_fSl (fa : FE) (fl fh : FO) (e : DEnv) : fSl fa fl fh e = ((fa e).bind fun r => (fl r.2).bind fun l => (fh l.2).bind fun h => Res.of ((lookT r.1.seal h.2).bind fun d => (opSl d l.1 h.1).map fun rv => (rv.tok, h.2))) := rfl
@[simp ↓] theorem ev_fTry (tbl : Nat → Option Bool) (i : Nat) (f : FS) (g : FS) (e : DEnv) : fTry tbl i f g e = (match f e with
  | .exc x e' => (match tbl x.k with
    | some true => if noX e' && decide (i < e'.length) then (match g (e'.set i (some (.ex x))) with
        | .ok out => goneO i out
        | _ => .stuck) else .stuck
    | some false => .exc x e'
    | none => .stuck)
  | r => r) := rfl
@[simp ↓] theorem ev_fTryO (tbl : Nat → Option Bool) (f : FS) (g : FS) (e : DEnv) : fTryO tbl f g e = (match f e with
  | .exc x e' => (match tbl x.k with
    | some true => (match g e' with
        | .ok out => .ok out
        | _ => .stuck)
    | some false => .exc x e'
    | none => .stuck)
  | r => r) := rfl
@[simp ↓] theorem ev_fXf (ns : List Str) (k i : Nat) (f : Str) (e : DEnv) : fXf ns k i f e = (match e[i]? with
  | some (some (.ex x)) => if x.k = k then (match (ns.zip x.ds).lookup f with
    | some d => .ok (.vl d, e)
    | none => .stuck) else .stuck
  | _ => .stuck) := rfl
@[simp ↓] theorem ev_fRaise (k n : Nat) (fa : FA) (e : DEnv) : fRaise k n fa e = ((fa e).bind fun r => (Res.of (escs r.1 r.2)).bind fun q => if q.1.length = n then .exc ⟨k, q.1⟩ q.2 else .stuck) := rfl
@[simp ↓] theorem ev_fRaise0 (k : Nat) (e : DEnv) : fRaise0 k e = (.exc ⟨k, []⟩ e) := rfl
@[simp ↓] theorem ev_fiR3 (fr : FA) (e : DEnv) : fiR3 fr e = ((fr e).bind fun r => Res.of ((lookTs r.1 r.2).bind fun ds => match ds with
  | [.int i, .int j, .int st] => if rg3ok i j st then some (irange3 i st (rg3n i j st), r.2) else none
  | _ => none)) := rfl
@[simp ↓] theorem ev_fLR1 (fa : FE) (e : DEnv) : fLR1 fa e = ((fa e).bind fun r => Res.of ((lookT r.1 r.2).bind fun d => match d with
  | .int n => if ok24 0 n then some (.nw (.lst (irange 0 (n - 0).toNat)), r.2) else none
  | _ => none)) := rfl
@[simp ↓] theorem ev_fLR2 (fa fb : FE) (e : DEnv) : fLR2 fa fb e = ((fa e).bind fun r => (fb r.2).bind fun q => Res.of ((lookT r.1.seal q.2).bind fun d1 => (lookT q.1 q.2).bind fun d2 => match d1, d2 with
  | .int i, .int j => if ok24 i j then some (.nw (.lst (irange i (j - i).toNat)), q.2) else none
  | _, _ => none)) := rfl
@[simp ↓] theorem ev_fLR3 (fr : FA) (e : DEnv) : fLR3 fr e = ((fr e).bind fun r => Res.of ((lookTs r.1 r.2).bind fun ds => match ds with
  | [.int i, .int j, .int st] => if rg3ok i j st && decide (rg3n i j st ≤ 1000000) then some (.nw (.lst (irange3 i st (rg3n i j st))), r.2) else none
  | _ => none)) := rfl
@[simp ↓] theorem ev_fStar (n i : Nat) (fs : List D → DEnv → Option DEnv) (f : FE) (e : DEnv) : fStar n i fs f e = ((f e).bind fun r => Res.of ((escape r.1 r.2).bind fun q => match q.1 with
  | .tup ds => if decide (n ≤ ds.length + 1) && decide (ds.length ≤ 16384) then (fs (ds.take i ++ [.lst ((ds.drop i).take (ds.length + 1 - n))] ++ (ds.drop i).drop (ds.length + 1 - n)) q.2).map .nx else none
  | _ => none)) := rfl
@[simp] theorem ev_lookup {α β : Type} [BEq α] (a k : α) (b : β) (es : List (α × β)) : List.lookup a ((k, b) :: es) = (match a == k with | true => some b | false => List.lookup a es) := rfl
@[simp] theorem ev_lim : lim = 1000000 := rfl
@[simp] theorem ev_absI (i : Int) : opAbs [.int i] = some (.fl (.int (if i < 0 then -i else i))) := rfl
@[simp] theorem ev_intI (i : Int) : opInt [.int i] = some (.fl (.int i)) := rfl
@[simp] theorem ev_addI (i j : Int) : opAdd (.int i) (.int j) = some (.fl (.int (i + j))) := rfl
@[simp] theorem ev_addS (i j : Str) : opAdd (.str i) (.str j) = if i.length + j.length ≤ lim then some (.fl (.str (i ++ j))) else none := rfl
@[simp] theorem ev_addL (i j : List D) : opAdd (.lst i) (.lst j) = if i.length + j.length ≤ lim then some (.nl (i ++ j)) else none := rfl
@[simp] theorem ev_subI (i j : Int) : opSub (.int i) (.int j) = some (.fl (.int (i - j))) := rfl
@[simp] theorem ev_mulI (i j : Int) : opMul (.int i) (.int j) = if mulOk i j then some (.fl (.int (i * j))) else none := rfl
@[simp] theorem ev_divI (i j : Int) : opDiv (.int i) (.int j) = if divOk i j then some (.fl (.int (i.fdiv j))) else none := rfl
@[simp] theorem ev_modI (i j : Int) : opMod (.int i) (.int j) = if modOk i j then some (.fl (.int (i.fmod j))) else none := rfl
@[simp] theorem ev_powI (i j : Int) : opPow (.int i) (.int j) = if powOk i j then some (.fl (.int (i ^ j.toNat))) else none := rfl
@[simp] theorem ev_shlI (i j : Int) : opShl (.int i) (.int j) = if shlOk i j then some (.fl (.int (i * 2 ^ j.toNat))) else none := rfl
@[simp] theorem ev_shrI (i j : Int) : opShr (.int i) (.int j) = if shrOk i j then some (.fl (.int (i / 2 ^ j.toNat))) else none := rfl
@[simp] theorem ev_andI (i j : Int) : opAnd (.int i) (.int j) = some (.fl (.int (Builtin.bitAnd i j))) := rfl
@[simp] theorem ev_orI (i j : Int) : opOr (.int i) (.int j) = some (.fl (.int (Builtin.bitOr i j))) := rfl
@[simp] theorem ev_xorI (i j : Int) : opXor (.int i) (.int j) = some (.fl (.int (Builtin.bitXor i j))) := rfl
@[simp] theorem ev_ltI (i j : Int) : opLt (.int i) (.int j) = some (.fl (.bl (decide (i < j)))) := rfl
@[simp] theorem ev_leI (i j : Int) : opLe (.int i) (.int j) = some (.fl (.bl (decide (i ≤ j)))) := rfl
@[simp] theorem ev_gtI (i j : Int) : opGt (.int i) (.int j) = some (.fl (.bl (decide (j < i)))) := rfl
@[simp] theorem ev_geI (i j : Int) : opGe (.int i) (.int j) = some (.fl (.bl (decide (j ≤ i)))) := rfl
@[simp] theorem ev_negI (i : Int) : opNeg (.int i) = some (.fl (.int (-i))) := rfl
@[simp] theorem ev_invI (i : Int) : opInv (.int i) = some (.fl (.int (Builtin.bitNot i))) := rfl
@[simp] theorem ev_ixL (ds : List D) (i : Int) : opIx (.lst ds) (.int i) = (atI ds i).map .fl := rfl
@[simp] theorem ev_ixR (ds : List D) (i : Int) : opIx (.rol ds) (.int i) = (atI ds i).map .fl := rfl
@[simp] theorem ev_ixT (ds : List D) (i : Int) : opIx (.tup ds) (.int i) = (atI ds i).map .fl := rfl
@[simp] theorem ev_atI {α : Type} (xs : List α) (i : Int) : atI xs i = (ixN xs.length i).bind fun j => xs[j]? := rfl
@[simp] theorem ev_ixN (n : Nat) (i : Int) : ixN n i = if 0 ≤ i then (if i < n then some i.toNat else none) else if -(n : Int) ≤ i then some (i + n).toNat else none := rfl
@[simp] theorem ev_lenL (xs : List D) : opLen [.lst xs] = some (.fl (.int xs.length)) := rfl
@[simp] theorem ev_lenR (xs : List D) : opLen [.rol xs] = some (.fl (.int xs.length)) := rfl
@[simp] theorem ev_lenT (xs : List D) : opLen [.tup xs] = some (.fl (.int xs.length)) := rfl
@[simp] theorem ev_powOk (i j : Int) : powOk i j = (decide (0 ≤ j) && decide (j ≤ 1000000) && decide (i.natAbs < 2 ^ 64)) := rfl
@[simp] theorem ev_rootL1 (e : DEnv) (j : Nat) : rootLst e j = (match e[j]? with
  | some (some (.ow (.lst ds))) => some ds
  | some (some (.br (.lst ds))) => some ds
  | _ => none) := rfl
@[simp] theorem ev_putL (e : DEnv) (j : Nat) (ds : List D) : putLst e j ds = (match e[j]? with
  | some (some b) => e.set j (some (b.re (.lst ds)))
  | _ => e) := rfl
@[simp] theorem ev_rootI (k : Nat) (e : DEnv) (j : Nat) : rootIns k e j = (match e[j]? with
  | some (some (.ow (.ins k' ds))) => if k' = k then some ds else none
  | some (some (.br (.ins k' ds))) => if k' = k then some ds else none
  | _ => none) := rfl
@[simp] theorem ev_putI (k : Nat) (e : DEnv) (j : Nat) (ds : List D) : putIns k e j ds = (match e[j]? with
  | some (some b) => e.set j (some (b.re (.ins k ds)))
  | _ => e) := rfl
@[simp] theorem ev_fOwnE (i : Nat) (P : D → Bool) (m : Fn) (fa fb : FE) (e : DEnv) : fOwnE i P m fa fb e = fOwn2 (isIns i) P false m fa fb e := rfl
@[simp] theorem ev_seal1 (i : Nat) : T.seal (.sl i) = .sl i := rfl
@[simp] theorem ev_seal2 (d : D) : T.seal (.vl d) = .vl d := rfl
@[simp] theorem ev_seal3 (d : D) : T.seal (.nw d) = .vl d := rfl
@[simp] theorem ev_look1 (i : Nat) (e : DEnv) : lookT (.sl i) e = (match e[i]? with | some (some (.ex _)) => none | some (some b) => some b.d | _ => none) := rfl
@[simp] theorem ev_look2 (d : D) (e : DEnv) : lookT (.vl d) e = some d := rfl
@[simp] theorem ev_look3 (d : D) (e : DEnv) : lookT (.nw d) e = some d := rfl
@[simp] theorem ev_bd1 (d : D) : B.d (.sh d) = d := rfl
@[simp] theorem ev_bd2 (d : D) : B.d (.ow d) = d := rfl
@[simp] theorem ev_bd3 (d : D) : B.d (.br d) = d := rfl
@[simp] theorem ev_re1 (d x : D) : B.re (.sh d) x = .sh x := rfl
@[simp] theorem ev_re2 (d x : D) : B.re (.ow d) x = .ow x := rfl
@[simp] theorem ev_re3 (d x : D) : B.re (.br d) x = .br x := rfl
@[simp] theorem ev_esc1 (i : Nat) (e : DEnv) : escape (.sl i) e = (match e[i]? with | some (some (.sh d)) => some (d, e) | some (some (.ow d)) => some (d, e.set i (some (.sh d))) | _ => none) := rfl
@[simp] theorem ev_esc2 (d : D) (e : DEnv) : escape (.vl d) e = some (d, e) := rfl
@[simp] theorem ev_esc3 (d : D) (e : DEnv) : escape (.nw d) e = some (d, e) := rfl
@[simp] theorem ev_escs0 (e : DEnv) : escs [] e = some ([], e) := rfl
@[simp] theorem ev_escs1 (t : T) (ts : List T) (e : DEnv) : escs (t :: ts) e = (escape t e).bind fun r => (escs ts r.2).bind fun q => some (r.1 :: q.1, q.2) := rfl
@[simp] theorem ev_lookTs0 (e : DEnv) : lookTs [] e = some [] := rfl
@[simp] theorem ev_lookTs1 (t : T) (ts : List T) (e : DEnv) : lookTs (t :: ts) e = (lookT t e).bind fun d => (lookTs ts e).bind fun ds => some (d :: ds) := rfl
@[simp] theorem ev_tok1 (d : D) : RV.tok (.fl d) = .vl d := rfl
@[simp] theorem ev_tok2 (d : List D) : RV.tok (.nl d) = .nw (.lst d) := rfl
@[simp] theorem ev_tok3 (d : List D) : RV.tok (.nt d) = .vl (.tup d) := rfl
@[simp] theorem ev_store (i : Nat) (t : T) (e : DEnv) : storeT i t e = (if i < e.length then (match t with
  | .vl d => some (e.set i (some (.sh d)))
  | .nw d => some (e.set i (some (.ow d)))
  | .sl j => match e[j]? with
    | some (some (.sh d)) => some (e.set i (some (.sh d)))
    | some (some (.ow d)) => some ((e.set j (some (.sh d))).set i (some (.sh d)))
    | _ => none) else none) := rfl
theorem ev_rangeN (n : Nat) : irange 0 n = (List.range n).map fun (i : Nat) => D.int (i : Int) := by unfold irange; simp
@[simp] theorem ev_loopF0 (fg : D → DEnv → Option DEnv) (fb : FS) (e : DEnv) : loopF fg fb [] e = .ok (.nx e) := rfl
theorem ev_loopF1 (fg : D → DEnv → Option DEnv) (fb : FS) (d : D) (ds : List D) (e : DEnv) : loopF fg fb (d :: ds) e = (Res.of (fg d e)).bind fun e1 => (fb e1).bind fun o => match o with
    | .nx e2 => loopF fg fb ds e2
    | .ct e2 => loopF fg fb ds e2
    | .bk e2 => .ok (.nx e2)
    | .rt t e2 => .ok (.rt t e2) := rfl
@[simp] theorem ev_fgName (i : Nat) (d : D) (e : DEnv) : fgName i d e = if i < e.length then some (e.set i (some (.sh d))) else none := rfl
@[simp] theorem ev_fgNil (e : DEnv) : fgNil [] e = some e := rfl
@[simp] theorem ev_fgTup (n : Nat) (fg : List D → DEnv → Option DEnv) (ds : List D) (e : DEnv) : fgTup n fg (.tup ds) e = if ds.length = n then fg ds e else none := rfl
@[simp] theorem ev_lend0 : lendE [] = [] := rfl
@[simp] theorem ev_lend1 (b : Option B) (e : DEnv) : lendE (b :: e) = lendB b :: lendE e := rfl
@[simp] theorem ev_lendB1 (d : D) : lendB (some (.ow d)) = some (.br d) := rfl
@[simp] theorem ev_lendB2 (d : D) : lendB (some (.sh d)) = some (.sh d) := rfl
@[simp] theorem ev_lendB3 (d : D) : lendB (some (.br d)) = some (.br d) := rfl
@[simp] theorem ev_lendB4 : lendB none = none := rfl
@[simp] theorem ev_back0 (e : DEnv) : backE [] e = [] := rfl
@[simp] theorem ev_back1 (b x : Option B) (e e2 : DEnv) : backE (b :: e) (x :: e2) = backB b x :: backE e e2 := rfl
@[simp] theorem ev_backB1 (d : D) (x : Option B) : backB (some (.sh d)) x = some (.sh d) := rfl
@[simp] theorem ev_backB2 (d d' : D) : backB (some (.ow d)) (some (.br d')) = some (.ow d') := rfl
@[simp] theorem ev_backB3 (d d' : D) : backB (some (.br d)) (some (.br d')) = some (.br d') := rfl
@[simp] theorem ev_backB4 (x : Option B) : backB none x = none := rfl
@[simp] theorem ev_wipe0 (e : DEnv) : wipeE e [] = e := rfl
@[simp] theorem ev_wipe1 (e : DEnv) (v : Nat) (vs : List Nat) : wipeE e (v :: vs) = (wipeE e vs).set v none := rfl
@[simp] theorem ev_loopC0 (fg : D → DEnv → Option DEnv) (ft : FT) (fe : FE) (vs : List Nat) (acc : List D) (e : DEnv) : loopC fg ft fe vs [] acc e = some (acc, e) := rfl
theorem ev_loopC1 (fg : D → DEnv → Option DEnv) (ft : FT) (fe : FE) (vs : List Nat) (d : D) (ds acc : List D) (e : DEnv) : loopC fg ft fe vs (d :: ds) acc e = (if noOw e then (fg d e).bind fun e1 => match ft e1 with
    | .ok (true, e2) => match fe e2 with
      | .ok (t, e3) => (escape t e3).bind fun q => if noOw q.2 && decide (acc.length < lim) then loopC fg ft fe vs ds (acc ++ [q.1]) (wipeE q.2 vs) else none
      | _ => none
    | .ok (false, e2) => if noOw e2 then loopC fg ft fe vs ds acc (wipeE e2 vs) else none
    | _ => none
    else none) := rfl
@[simp] theorem ev_env0 (N : Nat) (bs : List B) : env0 N bs = bs.map some ++ List.replicate (N - bs.length) none := rfl
@[simp] theorem ev_outB0 (e : DEnv) : outB [] e = some [] := rfl
@[simp] theorem ev_outB1 (d : D) (bs : List B) (x : Option B) (e : DEnv) : outB (.sh d :: bs) (x :: e) = (outB bs e).map fun q => .sh d :: q := rfl
@[simp] theorem ev_outB2 (d d' : D) (bs : List B) (e : DEnv) : outB (.br d :: bs) (some (.br d') :: e) = (outB bs e).map fun q => .br d' :: q := rfl
@[simp] theorem ev_fnRet1 (bs : List B) (d : D) (e : DEnv) : fnRet bs (.vl d) e = (outB bs e).bind fun q => some (d, false, q) := rfl
@[simp] theorem ev_fnRet2 (bs : List B) (d : D) (e : DEnv) : fnRet bs (.nw d) e = (outB bs e).bind fun q => some (d, true, q) := rfl
@[simp] theorem ev_fnRet3 (bs : List B) (i : Nat) (e : DEnv) : fnRet bs (.sl i) e = (outB bs e).bind fun q => match e[i]? with
    | some (some (.sh d)) => some (d, false, q)
    | some (some (.ow d)) => some (d, true, q)
    | _ => none := rfl
@[simp] theorem ev_escN0 (ms : List Bool) (e : DEnv) : escN ms [] e = some ([], e) := by cases ms <;> rfl
@[simp] theorem ev_escNf (ms : List Bool) (t : T) (ts : List T) (e : DEnv) : escN (false :: ms) (t :: ts) e = (escape t e).bind fun r => (escN ms ts r.2).map fun q => (.vl r.1 :: q.1, q.2) := rfl
@[simp] theorem ev_escNt (ms : List Bool) (t : T) (ts : List T) (e : DEnv) : escN (true :: ms) (t :: ts) e = (escN ms ts e).map fun q => (t :: q.1, q.2) := rfl
@[simp] theorem ev_escNn (t : T) (ts : List T) (e : DEnv) : escN [] (t :: ts) e = (escape t e).bind fun r => (escN [] ts r.2).map fun q => (.vl r.1 :: q.1, q.2) := rfl
@[simp] theorem ev_argBs0 (e : DEnv) : argBs [] e = some [] := rfl
@[simp] theorem ev_argBs1 (t : T) (ts : List T) (e : DEnv) : argBs (t :: ts) e = (argB t e).bind fun b => (argBs ts e).map fun bs => b :: bs := rfl
@[simp] theorem ev_argB1 (d : D) (e : DEnv) : argB (.vl d) e = some (.sh d) := rfl
@[simp] theorem ev_argB2 (i : Nat) (e : DEnv) : argB (.sl i) e = (match e[i]? with
    | some (some (.sh d)) => some (.sh d)
    | some (some (.ow d)) => some (.br d)
    | some (some (.br d)) => some (.br d)
    | _ => none) := rfl
@[simp] theorem ev_nodup0 : nodupT [] = true := rfl
@[simp] theorem ev_nodup1 (d : D) (ts : List T) : nodupT (.vl d :: ts) = nodupT ts := by show (true && nodupT ts) = nodupT ts; simp
@[simp] theorem ev_nodup2 (i : Nat) (ts : List T) : nodupT (.sl i :: ts) = (!ts.any (isSl i) && nodupT ts) := rfl
@[simp] theorem ev_isSl1 (i j : Nat) : isSl i (.sl j) = (i == j) := rfl
@[simp] theorem ev_isSl2 (i : Nat) (d : D) : isSl i (.vl d) = false := rfl
@[simp] theorem ev_upds0 (bs : List B) : upds [] bs = [] := by cases bs <;> rfl
@[simp] theorem ev_upds1 (j : Nat) (d : D) (ts : List T) (bs : List B) : upds (.sl j :: ts) (.br d :: bs) = (j, d) :: upds ts bs := rfl
@[simp] theorem ev_upds2 (d : D) (b : B) (ts : List T) (bs : List B) : upds (.vl d :: ts) (b :: bs) = upds ts bs := rfl
@[simp] theorem ev_upds3 (j : Nat) (d : D) (ts : List T) (bs : List B) : upds (.sl j :: ts) (.sh d :: bs) = upds ts bs := rfl
@[simp] theorem ev_isBr1 (d : D) : isBr (.br d) = true := rfl
@[simp] theorem ev_isBr2 (d : D) : isBr (.sh d) = false := rfl
@[simp] theorem ev_isBr3 (d : D) : isBr (.ow d) = false := rfl
@[simp] theorem ev_sameB (bs qs : List B) : sameB bs qs = (bs.map isBr == qs.map isBr) := rfl
@[simp] theorem ev_putAll0 (l : List (Nat × D)) (k : Nat) : putAll l k [] = [] := rfl
@[simp] theorem ev_putAll1 (l : List (Nat × D)) (k : Nat) (x : Option B) (r : DEnv) : putAll l k (x :: r) = (match l.lookup k with
    | some d => x.map fun b => b.re d
    | none => x) :: putAll l (k + 1) r := rfl
@[simp ↓] theorem ev_callM (dds : List D) (m : Fn) (ts : List T) (e : DEnv) : callM dds m ts e = ((Res.of (argBs ts e)).bind fun bs => if nodupT ts then (match m (bs ++ dds.map .sh) with
    | .stuck => .stuck
    | .ok r => if sameB (bs ++ dds.map .sh) r.2.2 then .ok (if r.2.1 then .nw r.1 else .vl r.1, putAll (upds ts r.2.2) 0 e) else .stuck
    | .exc x _ => .exc x (dropAll (upds ts bs) 0 e)) else .stuck) := by unfold callM; rfl
@[simp] theorem ev_dropG1 (d : D) (e : DEnv) : dropG (.ok (.vl d, e)) = .ok (.vl d, e.dropLast) := rfl
@[simp] theorem ev_dropG2 (d : D) (e : DEnv) : dropG (.ok (.nw d, e)) = .ok (.nw d, e.dropLast) := rfl
@[simp] theorem ev_noExc (r : T × DEnv) : noExc (.ok r) = .ok r := rfl
@[simp] theorem ev_isIns (k k' : Nat) (ds : List D) : isIns k (.ins k' ds) = (k' == k) := rfl
@[simp] theorem ev_isInt (i : Int) : isInt (.int i) = true := rfl

/-! equality of data -/
mutual
def dGo : Nat → D → Bool
  | _, .non => true
  | _, .bl _ => true
  | _, .int _ => true
  | _, .str s => (PyData.str s).canLay0
  | 0, _ => false
  | n + 1, .lst ds => dGoL n ds
  | n + 1, .rol ds => dGoL n ds
  | n + 1, .tup ds => dGoL n ds
  | _, .ins _ _ => false
def dGoL : Nat → List D → Bool
  | _, [] => true
  | n, d :: ds => dGo n d && dGoL n ds
end
mutual
theorem dGo_ok : ∀ (n : Nat) (d : D), dGo n d = true → (toPy d).canLay0 = true ∧ (toPy d).depth ≤ n
  | _, .non, _ => ⟨rfl, Nat.zero_le _⟩
  | _, .bl _, _ => ⟨rfl, Nat.zero_le _⟩
  | _, .int _, _ => ⟨rfl, Nat.zero_le _⟩
  | n, .str s, h => by cases n <;> exact ⟨h, Nat.zero_le _⟩
  | 0, .lst ds, h => by cases h
  | 0, .rol ds, h => by cases h
  | 0, .tup ds, h => by cases h
  | n + 1, .lst ds, h => by obtain ⟨a, b⟩ := dGoL_ok n ds h; exact ⟨a, Nat.succ_le_succ b⟩
  | n + 1, .rol ds, h => by obtain ⟨a, b⟩ := dGoL_ok n ds h; exact ⟨a, Nat.succ_le_succ b⟩
  | n + 1, .tup ds, h => by obtain ⟨a, b⟩ := dGoL_ok n ds h; exact ⟨a, Nat.succ_le_succ b⟩
  | 0, .ins _ _, h => by cases h
  | n + 1, .ins _ _, h => by cases h
theorem dGoL_ok : ∀ (n : Nat) (ds : List D), dGoL n ds = true → PyData.canLayAll0 (toPyL ds) = true ∧ PyData.depthAll (toPyL ds) ≤ n
  | _, [], _ => ⟨rfl, Nat.zero_le _⟩
  | n, d :: ds, h => by
    have h' : (dGo n d && dGoL n ds) = true := by cases n <;> exact h
    obtain ⟨h1, h2⟩ := Bool.and_eq_true_iff.mp h'
    obtain ⟨a, b⟩ := dGo_ok n d h1
    obtain ⟨a', b'⟩ := dGoL_ok n ds h2
    exact ⟨Bool.and_eq_true_iff.mpr ⟨a, a'⟩, Nat.max_le.mpr ⟨b, b'⟩⟩
end
theorem dOk_go {d : D} (h : dGo 64 d = true) : dOk d = true := by
  obtain ⟨a, b⟩ := dGo_ok 64 d h
  exact Bool.and_eq_true_iff.mpr ⟨a, decide_eq_true b⟩
@[simp] theorem ok_non : dOk .non = true := rfl
@[simp] theorem ok_bl (b : Bool) : dOk (.bl b) = true := rfl
@[simp] theorem ok_i (i : Int) : dOk (.int i) = true := rfl
theorem dGo_ints : ∀ (n : Nat) (ns : List Int), dGoL n (ns.map .int) = true
  | n, [] => by cases n <;> rfl
  | n, i :: ns => by
    show (dGo n (.int i) && dGoL n (ns.map .int)) = true
    rw [dGo_ints n ns]
    cases n <;> rfl
@[simp] theorem ok_ints (ns : List Int) : dOk (.lst (ns.map .int)) = true := dOk_go (dGo_ints 63 ns)
@[simp] theorem ok_intsR (ns : List Int) : dOk (.rol (ns.map .int)) = true := dOk_go (dGo_ints 63 ns)
@[simp] theorem ok_intsT (ns : List Int) : dOk (.tup (ns.map .int)) = true := dOk_go (dGo_ints 63 ns)
def deqL : List D → List D → Bool
  | [], [] => true
  | x :: xs, y :: ys => deq x y && deqL xs ys
  | _, _ => false
theorem deqL_eq : ∀ xs ys : List D, PyData.eqvAll (toPyL xs) (toPyL ys) = deqL xs ys
  | [], [] => by simp [toPyL, PyData.eqvAll, deqL]
  | [], _ :: _ => by simp [toPyL, PyData.eqvAll, deqL]
  | _ :: _, [] => by simp [toPyL, PyData.eqvAll, deqL]
  | x :: xs, y :: ys => by simp [toPyL, PyData.eqvAll, deqL, deqL_eq xs ys, deq]
@[simp] theorem deq_II (i j : Int) : deq (.int i) (.int j) = decide (i = j) := by simp [deq, toPy, PyData.eqv, BEq.beq]
@[simp] theorem deq_BB (i j : Bool) : deq (.bl i) (.bl j) = (i == j) := by simp [deq, toPy, PyData.eqv]
@[simp] theorem deq_SS (i j : Str) : deq (.str i) (.str j) = (i == j) := by simp [deq, toPy, PyData.eqv]
@[simp] theorem deq_NN : deq .non .non = true := by simp [deq, toPy, PyData.eqv]
@[simp] theorem deq_LL (i j : List D) : deq (.lst i) (.lst j) = deqL i j := by simp [deq, toPy, PyData.eqv, deqL_eq]
@[simp] theorem deq_LR (i j : List D) : deq (.lst i) (.rol j) = deqL i j := by simp [deq, toPy, PyData.eqv, deqL_eq]
@[simp] theorem deq_RL (i j : List D) : deq (.rol i) (.lst j) = deqL i j := by simp [deq, toPy, PyData.eqv, deqL_eq]
@[simp] theorem deq_TT (i j : List D) : deq (.tup i) (.tup j) = deqL i j := by simp [deq, toPy, PyData.eqv, deqL_eq]
@[simp] theorem deqL_nil : deqL [] [] = true := rfl
@[simp] theorem deqL_cons (x y : D) (xs ys : List D) : deqL (x :: xs) (y :: ys) = (deq x y && deqL xs ys) := rfl
@[simp] theorem deqL_nc (y : D) (ys : List D) : deqL [] (y :: ys) = false := rfl
@[simp] theorem deqL_cn (y : D) (ys : List D) : deqL (y :: ys) [] = false := rfl
@[simp] theorem ev_opEq (a b : D) : opEq a b = if dOk a && dOk b then some (.fl (.bl (deq a b))) else none := rfl
@[simp] theorem ev_opNe (a b : D) : opNe a b = if dOk a && dOk b then some (.fl (.bl (!deq a b))) else none := rfl
/-! kinds -/
@[simp] theorem ev_isi1 (tbl : Nat → Option Bool) (bt : String → Option Bool) (i : Int) : isiP tbl bt (.int i) = bt "int" := rfl
@[simp] theorem ev_isi2 (tbl : Nat → Option Bool) (bt : String → Option Bool) (i : Str) : isiP tbl bt (.str i) = bt "str" := rfl
@[simp] theorem ev_isi3 (tbl : Nat → Option Bool) (bt : String → Option Bool) (i : Bool) : isiP tbl bt (.bl i) = bt "bool" := rfl
@[simp] theorem ev_isi4 (tbl : Nat → Option Bool) (bt : String → Option Bool) : isiP tbl bt .non = bt "NoneType" := rfl
@[simp] theorem ev_isi5 (tbl : Nat → Option Bool) (bt : String → Option Bool) (i : List D) : isiP tbl bt (.lst i) = bt "list" := rfl
@[simp] theorem ev_isi6 (tbl : Nat → Option Bool) (bt : String → Option Bool) (i : List D) : isiP tbl bt (.tup i) = bt "tuple" := rfl
@[simp] theorem ev_isi7 (tbl : Nat → Option Bool) (bt : String → Option Bool) (k : Nat) (i : List D) : isiP tbl bt (.ins k i) = tbl k := rfl
@[simp] theorem ev_eqr1 (tbl : Nat → Bool) (bt : String → Bool) (i : Int) : eqR tbl bt (.int i) = bt "int" := rfl
@[simp] theorem ev_eqr2 (tbl : Nat → Bool) (bt : String → Bool) (i : Str) : eqR tbl bt (.str i) = bt "str" := rfl
@[simp] theorem ev_eqr4 (tbl : Nat → Bool) (bt : String → Bool) : eqR tbl bt .non = bt "NoneType" := rfl
@[simp] theorem ev_eqr5 (tbl : Nat → Bool) (bt : String → Bool) (i : List D) : eqR tbl bt (.lst i) = bt "list" := rfl
@[simp] theorem ev_eqr6 (tbl : Nat → Bool) (bt : String → Bool) (i : List D) : eqR tbl bt (.tup i) = bt "tuple" := rfl
@[simp] theorem ev_eqr7 (tbl : Nat → Bool) (bt : String → Bool) (k : Nat) (i : List D) : eqR tbl bt (.ins k i) = tbl k := rfl
@[simp] theorem ev_lkT (l : List (String × Bool)) (T : String) : lkT l T = l.lookup T := rfl
@[simp] theorem ev_lkI (l : List (Nat × Bool)) (k : Nat) : lkI l k = l.lookup k := rfl
@[simp] theorem ev_inT (l : List String) (T : String) : inT l T = l.contains T := rfl
@[simp] theorem ev_inI (l : List Nat) (k : Nat) : inI l k = l.contains k := rfl
@[simp] theorem ev_fldOf (ns : List Str) (f : Str) (ds : List D) : fldOf ns f ds = (ns.zip ds).lookup f := rfl
@[simp] theorem ev_izip (xs ys : List D) : izip xs ys = (xs.zip ys).map fun p => .tup [p.1, p.2] := rfl
@[simp] theorem ev_irange0 (lo : Int) : irange lo 0 = [] := rfl
@[simp] theorem ev_ok62 (i : Int) : ok62 i = (decide (-(2 ^ 62) ≤ i) && decide (i < 2 ^ 62)) := rfl
@[simp] theorem ev_noOw (e : DEnv) : noOw e = e.all fun b => match b with
  | some (.ow _) => false
  | _ => true := rfl
@[simp] theorem ev_clearAt (e : DEnv) (vs : List Nat) : clearAt e vs = vs.all fun i => match e[i]? with
  | some (some (.ow _)) => false
  | some (some (.br _)) => false
  | _ => true := rfl
@[simp] theorem ev_fgCons (f : D → DEnv → Option DEnv) (g : List D → DEnv → Option DEnv) (d : D) (ds : List D) (e : DEnv) : fgCons f g (d :: ds) e = (f d e).bind fun e1 => g ds e1 := rfl
@[simp] theorem ev_cutD (xs : List D) (lo hi : Option Int) : cutD xs lo hi = (xs.drop (HT.sIx xs.length 0 lo)).take (HT.sIx xs.length xs.length hi - HT.sIx xs.length 0 lo) := rfl
@[simp] theorem ev_opSlL (ds : List D) (lo hi : Option Int) : opSl (.lst ds) lo hi = some (.nl (cutD ds lo hi)) := rfl
@[simp] theorem ev_opSlR (ds : List D) (lo hi : Option Int) : opSl (.rol ds) lo hi = some (.nl (cutD ds lo hi)) := rfl
@[simp] theorem ev_opSlT (ds : List D) (lo hi : Option Int) : opSl (.tup ds) lo hi = if HT.sIx ds.length 0 lo = 0 ∧ HT.sIx ds.length ds.length hi = ds.length then some (.fl (.tup ds)) else some (.nt (cutD ds lo hi)) := rfl
@[simp] theorem ev_sIx0 (n d : Nat) : HT.sIx n d none = d := rfl
@[simp] theorem ev_sIx1 (n d : Nat) (v : Int) : HT.sIx n d (some v) = if v < 0 then (v + (n : Int)).toNat else min v.toNat n := rfl
end DL

/-! DL, part t: bounds of products; the tape that all laws draw from. -/
namespace DL
open PySem L2 Evl
theorem log2_of_lt {n k : Nat} (h : n < 2 ^ k) (hk : 0 < k) : n.log2 < k := by
  by_cases h0 : n = 0
  · subst h0; simpa using hk
  · exact (Nat.log2_lt h0).mpr h
theorem mulOk_of {i j : Int} (h1 : -(10 ^ 200) ≤ i ∧ i ≤ 10 ^ 200) (h2 : -(10 ^ 200) ≤ j ∧ j ≤ 10 ^ 200) : mulOk i j = true := by
  have a : i.natAbs < 2 ^ 665 := by
    have : (2 : Nat) ^ 665 > 10 ^ 200 := by decide +kernel
    omega
  have b : j.natAbs < 2 ^ 665 := by
    have : (2 : Nat) ^ 665 > 10 ^ 200 := by decide +kernel
    omega
  have a' := log2_of_lt a (by decide)
  have b' := log2_of_lt b (by decide)
  unfold mulOk
  exact decide_eq_true (by omega)
theorem divOk_of {i j : Int} (h : 0 < j) (h2 : j ≤ 10 ^ 200) : divOk i j = true := by
  have b : j.natAbs < 2 ^ 665 := by
    have : (2 : Nat) ^ 665 > 10 ^ 200 := by decide +kernel
    omega
  have b' := log2_of_lt b (by decide)
  unfold divOk
  rw [decide_eq_true (show j ≠ 0 by omega), decide_eq_true (show j.natAbs.log2 < 9000 by omega)]
  rfl
theorem modOk_of {i j : Int} (h : 0 < j) : modOk i j = true := decide_eq_true (show j ≠ 0 by omega)
theorem mul_bound {a b A B : Int} (h1 : -A ≤ a ∧ a ≤ A) (h2 : -B ≤ b ∧ b ≤ B) : -(A * B) ≤ a * b ∧ a * b ≤ A * B := by
  have hA : 0 ≤ A := by omega
  have hB : 0 ≤ B := by omega
  have k1 : (a * b).natAbs ≤ (A * B).natAbs := by
    rw [Int.natAbs_mul, Int.natAbs_mul]
    exact Nat.mul_le_mul (by omega) (by omega)
  have k2 : 0 ≤ A * B := Int.mul_nonneg hA hB
  omega
theorem fn_rt {N : Nat} {body : FS} {bs : List B} {t : T} {e : DEnv} {r : FnR} (h : body (env0 N bs) = .ok (.rt t e)) (k : fnRet bs t e = some r) : fFn N body bs = .ok r := by
  unfold fFn
  rw [h]
  exact congrArg Res.of k
theorem fn_nx {N : Nat} {body : FS} {bs : List B} {e : DEnv} {r : FnR} (h : body (env0 N bs) = .ok (.nx e)) (k : fnRet bs (.vl .non) e = some r) : fFn N body bs = .ok r := by
  unfold fFn
  rw [h]
  exact congrArg Res.of k
theorem seq_nx {f g : FS} {e e' : DEnv} {r : Res Out} (h : f e = .ok (.nx e')) (k : g e' = r) : fSeq f g e = r := by
  unfold fSeq
  rw [h]
  exact k
/-- a comprehension of one item each -/
theorem loopC_map {fg : D → DEnv → Option DEnv} {fe : FE} {vs : List Nat} {e : DEnv} (f : D → D) (no : noOw e = true) : ∀ (ds acc : List D),
    (∀ d ∈ ds, ∃ e1 t e3 e4, fg d e = some e1 ∧ fe e1 = .ok (t, e3) ∧ escape t e3 = some (f d, e4) ∧ noOw e4 = true ∧ wipeE e4 vs = e) → acc.length + ds.length ≤ lim → loopC fg fYes fe vs ds acc e = some (acc ++ ds.map f, e)
  | [], acc, _, _ => by simp
  | d :: ds, acc, h, hl => by
    obtain ⟨e1, t, e3, e4, h1, h2, h3, h4, h5⟩ := h d List.mem_cons_self
    have hl' : acc.length < lim := by simp at hl ⊢; omega
    have ih := loopC_map (fg := fg) (fe := fe) (vs := vs) f no ds (acc ++ [f d]) (fun d hd => h d (List.mem_cons_of_mem _ hd)) (by simp at hl ⊢; omega)
    rw [ev_loopC1, if_pos no, h1]
    show (match fYes e1 with
      | .ok (true, e2) => match fe e2 with
        | .ok (t, e3) => (escape t e3).bind fun q => if noOw q.2 && decide (acc.length < lim) then loopC fg fYes fe vs ds (acc ++ [q.1]) (wipeE q.2 vs) else none
        | _ => none
      | .ok (false, e2) => if noOw e2 then loopC fg fYes fe vs ds acc (wipeE e2 vs) else none
      | _ => none) = _
    unfold fYes
    dsimp only
    rw [h2]
    dsimp only
    rw [h3]
    show (if noOw e4 && decide (acc.length < lim) then loopC fg fYes fe vs ds (acc ++ [f d]) (wipeE e4 vs) else none) = _
    rw [h4, decide_eq_true hl', h5, Bool.and_self, if_pos rfl, ih, List.map_cons, List.append_assoc, List.singleton_append]
/-- a for loop by an invariant over its items -/
theorem loopF_inv {fg : D → DEnv → Option DEnv} {fb : FS} (P : Nat → DEnv → Prop) : ∀ (ds : List D) (k : Nat) (e : DEnv), P k e →
    (∀ (i : Nat) (d : D) (e : DEnv), ds[i]? = some d → P (k + i) e → ∃ e1 e2, fg d e = some e1 ∧ (fb e1 = .ok (.nx e2) ∨ fb e1 = .ok (.ct e2)) ∧ P (k + i + 1) e2) → ∃ e', loopF fg fb ds e = .ok (.nx e') ∧ P (k + ds.length) e'
  | [], k, e, h, _ => ⟨e, rfl, h⟩
  | d :: ds, k, e, h, st => by
    obtain ⟨e1, e2, h1, h2, h3⟩ := st 0 d e rfl h
    obtain ⟨e', h4, h5⟩ := loopF_inv P ds (k + 1) e2 h3 fun i d' e hd hp => by
      have := st (i + 1) d' e (by simpa using hd) (by rw [show k + (i + 1) = k + 1 + i by omega]; exact hp)
      rw [show k + (i + 1) + 1 = k + 1 + i + 1 by omega] at this
      exact this
    refine ⟨e', ?_, by rw [List.length_cons, show k + (ds.length + 1) = k + 1 + ds.length by omega]; exact h5⟩
    rw [ev_loopF1, h1]
    show ((fb e1).bind fun o => match o with
      | .nx e2 => loopF fg fb ds e2
      | .ct e2 => loopF fg fb ds e2
      | .bk e2 => .ok (.nx e2)
      | .rt t e2 => .ok (.rt t e2)) = _
    rcases h2 with h2 | h2 <;> (rw [h2]; exact h4)
/-! ### texts -/
theorem toNat_inj {a b : Char} (h : a.toNat = b.toNat) : a = b := by
  apply Char.ext
  exact UInt32.toNat_inj.mp h
theorem ofS_inj {a b : String} (h : Str.ofString a = Str.ofString b) : a = b := by
  rw [Str.ofString_eq_toList, Str.ofString_eq_toList] at h
  have h1 := congrArg Str.cps h
  have h2 : a.toList.map Char.toNat = b.toList.map Char.toNat := by simpa using h1
  have h3 : a.toList = b.toList := List.map_inj_right (fun x y e => toNat_inj e) |>.mp h2
  exact String.toList_inj.mp h3
@[simp] theorem str_beq (a b : String) : (Str.ofString a == Str.ofString b) = (a == b) := by
  by_cases h : a = b
  · subst h; simp
  · have : Str.ofString a ≠ Str.ofString b := fun z => h (ofS_inj z)
    rw [beq_eq_false_iff_ne.mpr h, beq_eq_false_iff_ne.mpr this]
@[simp] theorem ok_strL (a : String) : dOk (.str (Str.ofString a)) = true := by
  refine dOk_go ?_
  show (PyData.str (Str.ofString a)).canLay0 = true
  rw [Str.ofString_eq_toList]
  simp only [PyData.canLay0]
  unfold PyData.strOk
  simp
  intro c _
  have := c.valid
  unfold UInt32.isValidChar Nat.isValidChar at this
  show c.val.toNat < 1114112
  omega
/-! ### the tape -/
/-- a tape: the cell's rest, the seed -/
abbrev TP (c s : Int) : D := .lst [.int c, .int s]
structure TpOk (c s : Int) : Prop where
  c0 : 0 ≤ c
  s0 : 0 ≤ s
  s1 : s < 10 ^ 12
/-- what _law_pick hands back, and the tape behind it -/
structure PickR (n r c' s' : Int) : Prop where
  lo : 0 ≤ r
  hi : r < n
  tp : TpOk c' s'
/-- a def that picks from a tape -/
def Picks (m : Fn) : Prop := ∀ c s n : Int, TpOk c s → 0 < n → n ≤ 10 ^ 100 → ∃ r c' s', m [.br (TP c s), .sh (.int n)] = .ok (.int r, false, [.br (TP c' s'), .sh (.int n)]) ∧ PickR n r c' s'
end DL

/-! DL, part w: bits of natural numbers. -/
namespace DL
/-- a number by its bits, the lowest first -/
def bsum : List Bool → Nat
  | [] => 0
  | b :: l => 2 * bsum l + (if b then 1 else 0)
theorem bsum_bit : ∀ (l : List Bool) (i : Nat), (bsum l).testBit i = l.getD i false
  | [], i => by simp [bsum]
  | b :: l, 0 => by
    cases b <;> simp [bsum, Nat.testBit_zero] <;> omega
  | b :: l, i + 1 => by
    have e : bsum (b :: l) / 2 = bsum l := by
      show (2 * bsum l + (if b then 1 else 0)) / 2 = bsum l
      split <;> omega
    rw [Nat.testBit_succ, e, bsum_bit l i]
    simp
theorem bsum_lt : ∀ l : List Bool, bsum l < 2 ^ l.length
  | [] => by simp [bsum]
  | b :: l => by
    have := bsum_lt l
    rw [List.length_cons, Nat.pow_succ]
    show 2 * bsum l + (if b then 1 else 0) < _
    split <;> omega
/-- a pattern, many times -/
def rep (p w : Nat) : Nat → Nat
  | 0 => 0
  | m + 1 => 2 ^ (w * m) * p + rep p w m
theorem rep_lt {p w : Nat} (hp : p < 2 ^ w) : ∀ m, rep p w m < 2 ^ (w * m)
  | 0 => by simp [rep]
  | m + 1 => by
    have ih := rep_lt hp m
    unfold rep
    rw [Nat.mul_add, Nat.mul_one, Nat.pow_add]
    have h1 : 2 ^ (w * m) * (p + 1) ≤ 2 ^ (w * m) * 2 ^ w := Nat.mul_le_mul_left _ hp
    rw [Nat.mul_add, Nat.mul_one] at h1
    omega
theorem rep_bit {p w : Nat} (hw : 0 < w) (hp : p < 2 ^ w) : ∀ (m i : Nat), (rep p w m).testBit i = (decide (i < w * m) && p.testBit (i % w))
  | 0, i => by simp [rep]
  | m + 1, i => by
    unfold rep
    rw [Nat.testBit_two_pow_mul_add _ (rep_lt hp m)]
    have e : w * (m + 1) = w * m + w := by rw [Nat.mul_add, Nat.mul_one]
    by_cases h : i < w * m
    · rw [if_pos h, rep_bit hw hp m i]
      simp [h, e]
      intro _
      omega
    · rw [if_neg h]
      by_cases h2 : i < w * (m + 1)
      · have e2 : i % w = i - w * m := by
          have e3 : i = (i - w * m) + w * m := by omega
          rw [e3, Nat.add_mul_mod_self_left, Nat.mod_eq_of_lt (by omega)]
          omega
        simp [h2, e2]
      · simp only [h2, decide_false, Bool.false_and]
        exact Nat.testBit_lt_two_pow (Nat.lt_of_lt_of_le hp (Nat.pow_le_pow_right (by decide) (by omega)))
theorem rep_mul (p w : Nat) : ∀ m, rep p w m = p * rep 1 w m
  | 0 => by simp [rep]
  | m + 1 => by
    unfold rep
    rw [rep_mul p w m, Nat.mul_add, Nat.mul_one, Nat.mul_comm]
theorem rep_one {w : Nat} : ∀ m, rep 1 w m * (2 ^ w - 1) + 1 = 2 ^ (w * m)
  | 0 => by simp [rep]
  | m + 1 => by
    have ih := rep_one (w := w) m
    have hp : 1 ≤ 2 ^ w := Nat.one_le_two_pow
    unfold rep
    rw [Nat.mul_one, Nat.add_mul, Nat.mul_add w m 1, Nat.mul_one, Nat.pow_add, Nat.add_assoc, ih, Nat.mul_sub, Nat.mul_one]
    have : 2 ^ (w * m) * 1 ≤ 2 ^ (w * m) * 2 ^ w := Nat.mul_le_mul_left _ hp
    omega
/-- pattern * ((2^(w m) - 1) / (2^w - 1)) -/
theorem rep_div {w m : Nat} (hw : 0 < w) : (2 ^ (w * m) - 1) / (2 ^ w - 1) = rep 1 w m := by
  have h := rep_one (w := w) m
  have h2 : 2 ≤ 2 ^ w := by
    calc 2 = 2 ^ 1 := rfl
      _ ≤ 2 ^ w := Nat.pow_le_pow_right (by decide) hw
  rw [← h, Nat.add_sub_cancel]
  exact Nat.mul_div_cancel _ (by omega)
end DL

/-! DL, part x: rows with hypotheses (no `if` on a number that is not known: such a check would count in unary). -/
namespace DL
open PySem L2 Evl
theorem fiR1_ok {fr : FA} {e e' : DEnv} {ts : List T} {n : Int} (h : fr e = .ok (ts, e')) (l : lookTs ts e' = some [.int n]) (o : ok62 n = true) : fiR1 fr e = .ok (irange 0 n.toNat, e') := by
  unfold fiR1
  rw [h]
  show Res.of ((lookTs ts e').bind _) = _
  rw [l]
  show Res.of (if ok62 n = true then _ else _) = _
  rw [if_pos o]
  rfl
theorem fOp2_ok {op : D → D → Option RV} {fa fb : FE} {e e1 e2 : DEnv} {t u : T} {a b : D} {rv : RV} (h : fa e = .ok (t, e1)) (h2 : fb e1 = .ok (u, e2)) (l : lookT t.seal e2 = some a) (l2 : lookT u e2 = some b) (o : op a b = some rv) : fOp2 op fa fb e = .ok (rv.tok, e2) := by
  unfold fOp2
  rw [h]
  show ((fb e1).bind _) = _
  rw [h2]
  show Res.of ((lookT t.seal e2).bind _) = _
  rw [l]
  show Res.of ((lookT u e2).bind _) = _
  rw [l2]
  show Res.of ((op a b).bind _) = _
  rw [o]
  rfl
theorem fSet_ok {i : Nat} {f : FE} {e e1 e2 : DEnv} {t : T} (h : f e = .ok (t, e1)) (s : storeT i t e1 = some e2) : fSet i f e = .ok (.nx e2) := by
  unfold fSet
  rw [h]
  show Res.of ((storeT i t e1).map Out.nx) = _
  rw [s]
  rfl
theorem ok62_n {w : Nat} (h : w ≤ 1000000) : ok62 (w : Int) = true := by
  unfold ok62
  rw [decide_eq_true (by omega), decide_eq_true (by omega)]
  rfl
theorem fFor_ok {fi : FI} {fg : D → DEnv → Option DEnv} {fb : FS} {e e1 : DEnv} {ds : List D} {r : Res Out} (h : fi e = .ok (ds, e1)) (l : loopF fg fb ds e1 = r) : fFor fi fg fb e = r := by
  unfold fFor
  rw [h]
  exact l
end DL

/-! DL, part y: what a run asks (weakest preconditions), rule by rule; `walk_at "vc"` (DLz) applies them. -/
namespace DL
open PySem L2 Evl
abbrev XQ := XV → DEnv → Prop
/-- what a run promises, as a structure: nothing runs it by mistake -/
structure Wq {α : Type} (r : Res α) (ok : α → Prop) (ex : XV → DEnv → Prop) : Prop where
  un : Wp r ok ex
def YE (f : FE) (e : DEnv) (Q : T → DEnv → Prop) (X : XQ) : Prop := Wq (f e) (fun r => Q r.1 r.2) X
def YT (f : FT) (e : DEnv) (Q : Bool → DEnv → Prop) (X : XQ) : Prop := Wq (f e) (fun r => Q r.1 r.2) X
def YA (f : FA) (e : DEnv) (Q : List T → DEnv → Prop) (X : XQ) : Prop := Wq (f e) (fun r => Q r.1 r.2) X
def YI (f : FI) (e : DEnv) (Q : List D → DEnv → Prop) (X : XQ) : Prop := Wq (f e) (fun r => Q r.1 r.2) X
def YO (f : FO) (e : DEnv) (Q : Option Int → DEnv → Prop) (X : XQ) : Prop := Wq (f e) (fun r => Q r.1 r.2) X
def OutQ (N : DEnv → Prop) (R : T → DEnv → Prop) (K C : DEnv → Prop) : Out → Prop
  | .nx e => N e | .rt t e => R t e | .bk e => K e | .ct e => C e
def YS (f : FS) (e : DEnv) (N : DEnv → Prop) (R : T → DEnv → Prop) (K C : DEnv → Prop) (X : XQ) : Prop := Wq (f e) (OutQ N R K C) X
def YF (m : Fn) (bs : List B) (Q : D → Bool → List B → Prop) (X : XV → Prop) : Prop := Wq (m bs) (fun r => Q r.1 r.2.1 r.2.2) (fun x _ => X x)
/-- read a token's data -/
def Lk (t : T) (e : DEnv) (Q : D → Prop) : Prop := ∃ d, lookT t e = some d ∧ Q d
def Lz (t : T) (e : DEnv) (Q : D → Prop) : Prop := Lk t.seal e Q
def Ls (ts : List T) (e : DEnv) (Q : List D → Prop) : Prop := ∃ ds, lookTs ts e = some ds ∧ Q ds
/-- a token's data, shared from here on -/
def Es (t : T) (e : DEnv) (Q : D → DEnv → Prop) : Prop := ∃ r, escape t e = some r ∧ Q r.1 r.2
def EsA (ts : List T) (e : DEnv) (Q : List D → DEnv → Prop) : Prop := ∃ r, escs ts e = some r ∧ Q r.1 r.2
def OpQ (o : Option RV) (Q : T → Prop) : Prop := ∃ rv, o = some rv ∧ Q rv.tok
def StQ (i : Nat) (t : T) (e : DEnv) (Q : DEnv → Prop) : Prop := ∃ e', storeT i t e = some e' ∧ Q e'
def GQ (fg : D → DEnv → Option DEnv) (d : D) (e : DEnv) (Q : DEnv → Prop) : Prop := ∃ e', fg d e = some e' ∧ Q e'
def GsQ (fg : List D → DEnv → Option DEnv) (ds : List D) (e : DEnv) (Q : DEnv → Prop) : Prop := ∃ e', fg ds e = some e' ∧ Q e'
def IsB (d : D) (Q : Bool → Prop) : Prop := ∃ b, d = .bl b ∧ Q b
def IfQ (b : Bool) (A B : Prop) : Prop := (b = true → A) ∧ (b = false → B)
inductive SetAt : DEnv → Nat → Option B → DEnv → Prop
  | z {a b : Option B} {l : DEnv} : SetAt (a :: l) 0 b (b :: l)
  | s {a b : Option B} {l l' : DEnv} {i : Nat} : SetAt l i b l' → SetAt (a :: l) (i + 1) b (a :: l')
theorem SetAt.eq {l l' : DEnv} {i : Nat} {b : Option B} (h : SetAt l i b l') : i < l.length ∧ l.set i b = l' := by
  induction h with
  | z => exact ⟨Nat.succ_pos _, rfl⟩
  | s h ih => exact ⟨Nat.succ_lt_succ ih.1, by rw [List.set_cons_succ, ih.2]⟩
inductive EnvOf : Nat → List B → DEnv → Prop
  | z : EnvOf 0 [] []
  | n {n : Nat} {e : DEnv} : EnvOf n [] e → EnvOf (n + 1) [] (none :: e)
  | c {n : Nat} {b : B} {bs : List B} {e : DEnv} : EnvOf n bs e → EnvOf (n + 1) (b :: bs) (some b :: e)
theorem EnvOf.eq {n : Nat} {bs : List B} {e : DEnv} (h : EnvOf n bs e) : env0 n bs = e := by
  induction h with
  | z => rfl
  | @n n e h ih =>
    show [] ++ List.replicate (n + 1) none = _
    rw [List.nil_append, List.replicate_succ, ← ih]
    rfl
  | @c n b bs e h ih =>
    rw [← ih]
    show some b :: bs.map some ++ List.replicate (n + 1 - (bs.length + 1)) none = _
    rw [Nat.add_sub_add_right]
    rfl
section
variable {e e1 e2 : DEnv} {X : XQ} {d d1 d2 : D} {i j : Nat} {t : T} {ts : List T}
theorem Wq.bnd {α β : Type} {r : Res α} {f : α → Res β} {ok : β → Prop} {ex : XV → DEnv → Prop} (h : Wq r (fun a => Wq (f a) ok ex) ex) : Wq (r.bind f) ok ex := ⟨Wp.bind ▸ h.un.mono (fun a _ k => k.un) fun _ _ h => h⟩
theorem Wq.sm {α : Type} {o : Option α} {a : α} {ok : α → Prop} {ex : XV → DEnv → Prop} (h : o = some a) (k : ok a) : Wq (Res.of o) ok ex := by subst h; exact ⟨k⟩
theorem Wq.im {α : Type} {r : Res α} {ok ok' : α → Prop} {ex : XV → DEnv → Prop} (h : Wq r ok ex) (k : ∀ a, ok a → ok' a) : Wq r ok' ex := ⟨h.un.mono (fun a _ => k a) fun _ _ h => h⟩
theorem Wq.ok {α : Type} {a : α} {ok : α → Prop} {ex : XV → DEnv → Prop} (k : ok a) : Wq (.ok a) ok ex := ⟨k⟩
/-! tokens -/
theorem lk_vl {Q : D → Prop} (k : Q d) : Lk (.vl d) e Q := ⟨d, rfl, k⟩
theorem lk_nw {Q : D → Prop} (k : Q d) : Lk (.nw d) e Q := ⟨d, rfl, k⟩
theorem lk_sh {Q : D → Prop} (h : e[i]? = some (some (.sh d))) (k : Q d) : Lk (.sl i) e Q := ⟨d, by unfold lookT; dsimp only; rw [h]; rfl, k⟩
theorem lk_ow {Q : D → Prop} (h : e[i]? = some (some (.ow d))) (k : Q d) : Lk (.sl i) e Q := ⟨d, by unfold lookT; dsimp only; rw [h]; rfl, k⟩
theorem lk_br {Q : D → Prop} (h : e[i]? = some (some (.br d))) (k : Q d) : Lk (.sl i) e Q := ⟨d, by unfold lookT; dsimp only; rw [h]; rfl, k⟩
theorem lz_vl {Q : D → Prop} (k : Q d) : Lz (.vl d) e Q := ⟨d, rfl, k⟩
theorem lz_nw {Q : D → Prop} (k : Q d) : Lz (.nw d) e Q := ⟨d, rfl, k⟩
theorem lz_sl {Q : D → Prop} (k : Lk (.sl i) e Q) : Lz (.sl i) e Q := k
theorem ls_nil {Q : List D → Prop} (k : Q []) : Ls [] e Q := ⟨[], rfl, k⟩
theorem ls_cons {Q : List D → Prop} (k : Lz t e fun d => Ls ts e fun ds => Q (d :: ds)) : Ls (t.seal :: ts) e Q := by
  obtain ⟨d, h1, ds, h2, k⟩ := k
  exact ⟨d :: ds, by unfold lookTs; rw [h1, Option.bind_some, h2, Option.bind_some], k⟩
theorem ls_cons' {Q : List D → Prop} (k : Lk t e fun d => Ls ts e fun ds => Q (d :: ds)) : Ls (t :: ts) e Q := by
  obtain ⟨d, h1, ds, h2, k⟩ := k
  exact ⟨d :: ds, by unfold lookTs; rw [h1, Option.bind_some, h2, Option.bind_some], k⟩
theorem es_vl {Q : D → DEnv → Prop} (k : Q d e) : Es (.vl d) e Q := ⟨(d, e), rfl, k⟩
theorem es_nw {Q : D → DEnv → Prop} (k : Q d e) : Es (.nw d) e Q := ⟨(d, e), rfl, k⟩
theorem es_sh {Q : D → DEnv → Prop} (h : e[i]? = some (some (.sh d))) (k : Q d e) : Es (.sl i) e Q := ⟨(d, e), by unfold escape; dsimp only; rw [h], k⟩
theorem es_ow {Q : D → DEnv → Prop} (h : e[i]? = some (some (.ow d))) (s : SetAt e i (some (.sh d)) e1) (k : Q d e1) : Es (.sl i) e Q := ⟨(d, e1), by unfold escape; dsimp only; rw [h, ← s.eq.2], k⟩
theorem ez_sl {Q : D → DEnv → Prop} (k : Es (.sl i) e Q) : Es (T.sl i).seal e Q := k
theorem ez_vl {Q : D → DEnv → Prop} (k : Q d e) : Es (T.vl d).seal e Q := ⟨(d, e), rfl, k⟩
theorem ez_nw {Q : D → DEnv → Prop} (k : Q d e) : Es (T.nw d).seal e Q := ⟨(d, e), rfl, k⟩
theorem esa_nil {Q : List D → DEnv → Prop} (k : Q [] e) : EsA [] e Q := ⟨([], e), rfl, k⟩
theorem esa_cons {Q : List D → DEnv → Prop} (k : Es t e fun d e1 => EsA ts e1 fun ds e2 => Q (d :: ds) e2) : EsA (t :: ts) e Q := by
  obtain ⟨r, h1, r2, h2, k⟩ := k
  exact ⟨(r.1 :: r2.1, r2.2), by unfold escs; rw [h1, Option.bind_some, h2, Option.bind_some], k⟩
theorem st_vl {Q : DEnv → Prop} (s : SetAt e i (some (.sh d)) e1) (k : Q e1) : StQ i (.vl d) e Q := ⟨e1, by unfold storeT; rw [if_pos s.eq.1, ← s.eq.2], k⟩
theorem st_nw {Q : DEnv → Prop} (s : SetAt e i (some (.ow d)) e1) (k : Q e1) : StQ i (.nw d) e Q := ⟨e1, by unfold storeT; rw [if_pos s.eq.1, ← s.eq.2], k⟩
theorem st_sh {Q : DEnv → Prop} (h : e[j]? = some (some (.sh d))) (s : SetAt e i (some (.sh d)) e1) (k : Q e1) : StQ i (.sl j) e Q := ⟨e1, by unfold storeT; rw [if_pos s.eq.1]; dsimp only; rw [h, ← s.eq.2], k⟩
theorem st_ow {Q : DEnv → Prop} (h : e[j]? = some (some (.ow d))) (s : SetAt e j (some (.sh d)) e1) (s2 : SetAt e1 i (some (.sh d)) e2) (k : Q e2) : StQ i (.sl j) e Q := by
  have hl : e1.length = e.length := by rw [← s.eq.2, List.length_set]
  exact ⟨e2, by unfold storeT; rw [if_pos (hl ▸ s2.eq.1)]; dsimp only; rw [h, ← s2.eq.2, ← s.eq.2], k⟩
theorem g_name {Q : DEnv → Prop} (s : SetAt e i (some (.sh d)) e1) (k : Q e1) : GQ (fgName i) d e Q := ⟨e1, by unfold fgName; rw [if_pos s.eq.1, ← s.eq.2], k⟩
theorem g_tup {Q : DEnv → Prop} {n : Nat} {fg : List D → DEnv → Option DEnv} {ds : List D} (h : ds.length = n) (k : GsQ fg ds e Q) : GQ (fgTup n fg) (.tup ds) e Q := by
  obtain ⟨e1, h1, k⟩ := k
  exact ⟨e1, by rw [ev_fgTup, if_pos h, h1], k⟩
theorem gs_nil {Q : DEnv → Prop} (k : Q e) : GsQ fgNil [] e Q := ⟨e, rfl, k⟩
theorem gs_cons {Q : DEnv → Prop} {f : D → DEnv → Option DEnv} {g : List D → DEnv → Option DEnv} {ds : List D} (k : GQ f d e fun e1 => GsQ g ds e1 Q) : GsQ (fgCons f g) (d :: ds) e Q := by
  obtain ⟨e1, h1, e2, h2, k⟩ := k
  exact ⟨e2, by rw [ev_fgCons, h1, Option.bind_some, h2], k⟩
theorem isb {Q : Bool → Prop} {b : Bool} (k : Q b) : IsB (.bl b) Q := ⟨b, rfl, k⟩
/-! tests -/
theorem ifq_t {A B : Prop} (k : A) : IfQ true A B := ⟨fun _ => k, fun h => nomatch h⟩
theorem ifq_f {A B : Prop} (k : B) : IfQ false A B := ⟨(fun h => nomatch h), fun _ => k⟩
theorem ifq_dt {A B p : Prop} [Decidable p] (h : p) (k : A) : IfQ (decide p) A B := ⟨fun _ => k, fun z => absurd h (of_decide_eq_false z)⟩
theorem ifq_df {A B p : Prop} [Decidable p] (h : ¬ p) (k : B) : IfQ (decide p) A B := ⟨fun z => absurd (of_decide_eq_true z) h, fun _ => k⟩
theorem ifq_sdt {A B : Prop} {a b : String} (h : decide (a = b) = true) (k : A) : IfQ (decide (a = b)) A B := h ▸ ifq_t k
theorem ifq_sdf {A B : Prop} {a b : String} (h : decide (a = b) = false) (k : B) : IfQ (decide (a = b)) A B := h ▸ ifq_f k
theorem ifq_d {A B p : Prop} [Decidable p] (k : p → A) (k2 : ¬ p → B) : IfQ (decide p) A B := ⟨fun z => k (of_decide_eq_true z), fun z => k2 (of_decide_eq_false z)⟩
theorem ifq_n {A B : Prop} {b : Bool} (k : IfQ b B A) : IfQ (!b) A B := ⟨fun z => k.2 (by simpa using z), fun z => k.1 (by simpa using z)⟩
theorem ifq_and {A B : Prop} {a b : Bool} (k : IfQ a (IfQ b A B) B) : IfQ (a && b) A B := by cases a <;> cases b <;> simp_all [IfQ]
theorem ifq_or {A B : Prop} {a b : Bool} (k : IfQ a A (IfQ b A B)) : IfQ (a || b) A B := by cases a <;> cases b <;> simp_all [IfQ]
theorem ifq_eqt {A B : Prop} {b : Bool} (h : b = true) (k : A) : IfQ b A B := h ▸ ifq_t k
theorem ifq_eqf {A B : Prop} {b : Bool} (h : b = false) (k : B) : IfQ b A B := h ▸ ifq_f k
theorem ifq_c {A B : Prop} {b : Bool} (k : b = true → A) (k2 : b = false → B) : IfQ b A B := ⟨k, k2⟩
/-! expressions -/
theorem y_var {Q : T → DEnv → Prop} {b : B} (h : e[i]? = some (some b)) (k : Q (.sl i) e) : YE (fVar i) e Q X := by
  unfold YE fVar
  rw [h]
  exact ⟨k⟩
theorem y_c {Q : T → DEnv → Prop} (k : Q (.vl d) e) : YE (fC d) e Q X := ⟨k⟩
theorem y_a0 {Q : List T → DEnv → Prop} (k : Q [] e) : YA fA0 e Q X := ⟨k⟩
theorem y_a1 {Q : List T → DEnv → Prop} {fa : FE} {fr : FA} (k : YE fa e (fun t e1 => YA fr e1 (fun ts e2 => Q (t.seal :: ts) e2) X) X) : YA (fA1 fa fr) e Q X :=
  Wq.bnd (k.im fun r h => Wq.bnd (h.im fun q h => ⟨h⟩))
theorem y_op2 {Q : T → DEnv → Prop} {op : D → D → Option RV} {fa fb : FE} (k : YE fa e (fun t e1 => YE fb e1 (fun u e2 => Lz t e2 fun a => Lk u e2 fun b => OpQ (op a b) fun t => Q t e2) X) X) : YE (fOp2 op fa fb) e Q X :=
  Wq.bnd (k.im fun r h => Wq.bnd (h.im fun q ⟨a, h1, b, h2, rv, h3, h⟩ => Wq.sm (a := (rv.tok, q.2)) (by rw [h1, Option.bind_some, h2, Option.bind_some, h3, Option.bind_some]) h))
theorem y_op1 {Q : T → DEnv → Prop} {op : D → Option RV} {fa : FE} (k : YE fa e (fun t e1 => Lk t e1 fun a => OpQ (op a) fun t => Q t e1) X) : YE (fOp1 op fa) e Q X :=
  Wq.bnd (k.im fun r ⟨a, h1, rv, h3, h⟩ => Wq.sm (a := (rv.tok, r.2)) (by rw [h1, Option.bind_some, h3, Option.bind_some]) h)
theorem y_cb {Q : T → DEnv → Prop} {op : List D → Option RV} {fr : FA} (k : YA fr e (fun ts e1 => Ls ts e1 fun ds => OpQ (op ds) fun t => Q t e1) X) : YE (fCB op fr) e Q X :=
  Wq.bnd (k.im fun r ⟨a, h1, rv, h3, h⟩ => Wq.sm (a := (rv.tok, r.2)) (by rw [h1, Option.bind_some, h3, Option.bind_some]) h)
theorem y_b {Q : Bool → DEnv → Prop} {f : FE} (k : YE f e (fun t e1 => Lk t e1 fun d => IsB d fun b => Q b e1) X) : YT (fB f) e Q X :=
  Wq.bnd (k.im fun r ⟨d, h1, b, h2, h⟩ => by rw [h1, h2]; exact ⟨h⟩)
theorem y_not {Q : Bool → DEnv → Prop} {f : FT} (k : YT f e (fun b e1 => Q (!b) e1) X) : YT (fNot f) e Q X := Wq.bnd (k.im fun r h => ⟨h⟩)
theorem ifq_wp {α : Type} {b : Bool} {A B : Res α} {P : α → Prop} (h : IfQ b (Wq A P X) (Wq B P X)) : Wq (if b = true then A else B) P X := by
  cases b with
  | true => exact h.1 rfl
  | false => exact h.2 rfl
theorem y_and {Q : Bool → DEnv → Prop} {f g : FT} (k : YT f e (fun b e1 => IfQ b (YT g e1 Q X) (Q false e1)) X) : YT (fAnd f g) e Q X := Wq.bnd (k.im fun r h => ifq_wp ⟨fun b => h.1 b, fun b => ⟨h.2 b⟩⟩)
theorem y_or {Q : Bool → DEnv → Prop} {f g : FT} (k : YT f e (fun b e1 => IfQ b (Q true e1) (YT g e1 Q X)) X) : YT (fOr f g) e Q X := Wq.bnd (k.im fun r h => ifq_wp ⟨fun b => ⟨h.1 b⟩, fun b => h.2 b⟩)
theorem y_notV {Q : T → DEnv → Prop} {f : FE} (k : YT (fB f) e (fun b e1 => Q (.vl (.bl (!b))) e1) X) : YE (fNotV f) e Q X := Wq.bnd (k.im fun r h => ⟨h⟩)
theorem y_andV {Q : T → DEnv → Prop} {f g : FE} (k : YT (fB f) e (fun b e1 => IfQ b (YE g e1 Q X) (Q (.vl (.bl false)) e1)) X) : YE (fAndV f g) e Q X := Wq.bnd (k.im fun r h => ifq_wp ⟨fun b => h.1 b, fun b => ⟨h.2 b⟩⟩)
theorem y_orV {Q : T → DEnv → Prop} {f g : FE} (k : YT (fB f) e (fun b e1 => IfQ b (Q (.vl (.bl true)) e1) (YE g e1 Q X)) X) : YE (fOrV f g) e Q X := Wq.bnd (k.im fun r h => ifq_wp ⟨fun b => ⟨h.1 b⟩, fun b => h.2 b⟩)
theorem y_if {Q : T → DEnv → Prop} {t : FT} {f g : FE} (k : YT t e (fun b e1 => IfQ b (YE f e1 Q X) (YE g e1 Q X)) X) : YE (fIf t f g) e Q X := Wq.bnd (k.im fun r h => ifq_wp h)
theorem y_yes {Q : Bool → DEnv → Prop} (k : Q true e) : YT fYes e Q X := ⟨k⟩
theorem y_lst {Q : T → DEnv → Prop} {fa : FA} (k : YA fa e (fun ts e1 => EsA ts e1 fun ds e2 => ds.length ≤ lim ∧ Q (.nw (.lst ds)) e2) X) : YE (fLst fa) e Q X :=
  Wq.bnd (k.im fun r ⟨q, h1, h2, h⟩ => Wq.sm (a := (.nw (.lst q.1), q.2)) (by rw [h1, Option.bind_some, if_pos h2]) h)
theorem y_tup {Q : T → DEnv → Prop} {fa : FA} (k : YA fa e (fun ts e1 => EsA ts e1 fun ds e2 => ds.length ≤ lim ∧ Q (.vl (.tup ds)) e2) X) : YE (fTup fa) e Q X :=
  Wq.bnd (k.im fun r ⟨q, h1, h2, h⟩ => Wq.sm (a := (.vl (.tup q.1), q.2)) (by rw [h1, Option.bind_some, if_pos h2]) h)
theorem lenLim {n : Nat} (h : n ≤ 1000) : n ≤ lim := Nat.le_trans h (by decide)
theorem y_lr1 {Q : T → DEnv → Prop} {fa : FE} (k : YE fa e (fun t e1 => Lk t e1 fun d => ∃ n : Int, d = .int n ∧ ok24 0 n = true ∧ Q (.nw (.lst (irange 0 n.toNat))) e1) X) : YE (fLR1 fa) e Q X :=
  Wq.bnd (k.im fun r ⟨d, h1, n, h2, h3, h⟩ => Wq.sm (a := (.nw (.lst (irange 0 (n - 0).toNat)), r.2)) (by rw [h1, Option.bind_some, h2]; exact if_pos h3) (by rw [Int.sub_zero]; exact h))
theorem y_lr2 {Q : T → DEnv → Prop} {fa fb : FE} (k : YE fa e (fun t e1 => YE fb e1 (fun u e2 => Lz t e2 fun a => Lk u e2 fun b => ∃ i j : Int, a = .int i ∧ b = .int j ∧ ok24 i j = true ∧ Q (.nw (.lst (irange i (j - i).toNat))) e2) X) X) : YE (fLR2 fa fb) e Q X :=
  Wq.bnd (k.im fun r h => Wq.bnd (h.im fun q ⟨a, h1, b, h2, i, j, h3, h4, h5, h⟩ => Wq.sm (a := (.nw (.lst (irange i (j - i).toNat)), q.2)) (by rw [h1, Option.bind_some, h2, Option.bind_some, h3, h4]; exact if_pos h5) h))
theorem y_lr3 {Q : T → DEnv → Prop} {fr : FA} (k : YA fr e (fun ts e1 => Ls ts e1 fun ds => ∃ i j c : Int, ds = [.int i, .int j, .int c] ∧ rg3ok i j c = true ∧ rg3n i j c ≤ 1000000 ∧ Q (.nw (.lst (irange3 i c (rg3n i j c)))) e1) X) : YE (fLR3 fr) e Q X :=
  Wq.bnd (k.im fun r ⟨ds, h1, i, j, c, h2, h3, h4, h⟩ => Wq.sm (a := (.nw (.lst (irange3 i c (rg3n i j c))), r.2)) (by rw [h1, Option.bind_some, h2]; exact if_pos (by rw [h3, decide_eq_true h4]; rfl)) h)
theorem y_isi {Q : T → DEnv → Prop} {P : D → Option Bool} {fa : FE} (k : YE fa e (fun t e1 => Lk t e1 fun d => ∃ b, P d = some b ∧ Q (.vl (.bl b)) e1) X) : YE (fIsi P fa) e Q X :=
  Wq.bnd (k.im fun r ⟨d, h1, b, h2, h⟩ => Wq.sm (a := (.vl (.bl b), r.2)) (by rw [h1, Option.bind_some, h2]; rfl) h)
theorem y_fld {Q : T → DEnv → Prop} {ns : List Str} {k : Nat} {f : Str} {fo : FE} (h : YE fo e (fun t e1 => Lk t e1 fun d => ∃ ds a, d = .ins k ds ∧ fldOf ns f ds = some a ∧ Q (.vl a) e1) X) : YE (fFld ns k f fo) e Q X :=
  Wq.bnd (h.im fun r ⟨d, h1, ds, a, h2, h3, h⟩ => Wq.sm (a := (.vl a, r.2)) (by rw [h1, Option.bind_some, h2]; dsimp only; rw [if_pos rfl, h3]; rfl) h)
theorem y_noP {Q : Option Int → DEnv → Prop} (k : Q none e) : YO fNoP e Q X := ⟨k⟩
theorem y_po {Q : Option Int → DEnv → Prop} {f : FE} (k : YE f e (fun t e1 => Lk t e1 fun d => ∃ i, d = .int i ∧ Q (some i) e1) X) : YO (fPo f) e Q X :=
  Wq.bnd (k.im fun r ⟨d, h1, b, h2, h⟩ => by rw [h1, h2]; exact ⟨h⟩)
theorem y_sl {Q : T → DEnv → Prop} {fa : FE} {fl fh : FO} (k : YE fa e (fun t e1 => YO fl e1 (fun lo e2 => YO fh e2 (fun hi e3 => Lz t e3 fun d => OpQ (opSl d lo hi) fun t => Q t e3) X) X) X) : YE (fSl fa fl fh) e Q X :=
  Wq.bnd (k.im fun r h => Wq.bnd (h.im fun l h => Wq.bnd (h.im fun hh ⟨d, h1, rv, h2, h⟩ => Wq.sm (a := (rv.tok, hh.2)) (by rw [h1, Option.bind_some, h2]; rfl) h)))
/-! calls -/
@[reducible] def tokOf : Bool → D → T
  | true, d => .nw d
  | false, d => .vl d
def CQ (dds : List D) (m : Fn) (ts : List T) (e : DEnv) (Q : T → DEnv → Prop) (X : XQ) : Prop := ∃ bs, argBs ts e = some bs ∧ nodupT ts = true ∧
  YF m (bs ++ dds.map .sh) (fun d nw qs => sameB (bs ++ dds.map .sh) qs = true ∧ Q (tokOf nw d) (putAll (upds ts qs) 0 e)) fun x => X x (dropAll (upds ts bs) 0 e)
theorem cq_callM {dds : List D} {m : Fn} {Q : T → DEnv → Prop} (h : CQ dds m ts e Q X) : Wq (callM dds m ts e) (fun r => Q r.1 r.2) X := by
  obtain ⟨bs, h1, h2, h⟩ := h
  unfold callM
  refine Wq.bnd (Wq.sm h1 ?_)
  rw [if_pos h2]
  unfold YF at h
  cases hm : m (bs ++ dds.map .sh) with
  | stuck => rw [hm] at h; exact h.un.elim
  | exc x e' => rw [hm] at h; exact ⟨h.un⟩
  | ok r =>
    rw [hm] at h
    have h := h.un
    obtain ⟨h3, h4⟩ := h
    dsimp only at h3 h4 ⊢
    rw [if_pos h3]
    obtain ⟨d, nw, qs⟩ := r
    cases nw <;> exact ⟨h4⟩
/-- arguments: those that are not lent are shared from here on -/
def EnQ (ms : List Bool) (ts : List T) (e : DEnv) (Q : List T → DEnv → Prop) : Prop := ∃ r, escN ms ts e = some r ∧ Q r.1 r.2
theorem en_nil {ms : List Bool} {Q : List T → DEnv → Prop} (k : Q [] e) : EnQ ms [] e Q := ⟨([], e), by cases ms <;> rfl, k⟩
theorem en_f {ms : List Bool} {Q : List T → DEnv → Prop} (k : Es t e fun d e1 => EnQ ms ts e1 fun us e2 => Q (.vl d :: us) e2) : EnQ (false :: ms) (t :: ts) e Q := by
  obtain ⟨r, h1, r2, h2, k⟩ := k
  exact ⟨(.vl r.1 :: r2.1, r2.2), by rw [ev_escNf, h1, Option.bind_some, h2]; rfl, k⟩
theorem en_t {ms : List Bool} {Q : List T → DEnv → Prop} (k : EnQ ms ts e fun us e2 => Q (t :: us) e2) : EnQ (true :: ms) (t :: ts) e Q := by
  obtain ⟨r2, h2, k⟩ := k
  exact ⟨(t :: r2.1, r2.2), by rw [ev_escNt, h2]; rfl, k⟩
theorem en_fz {ms : List Bool} {Q : List T → DEnv → Prop} (k : Es t.seal e fun d e1 => EnQ ms ts e1 fun us e2 => Q (.vl d :: us) e2) : EnQ (false :: ms) (t.seal :: ts) e Q := en_f k
theorem en_n {Q : List T → DEnv → Prop} (k : Es t e fun d e1 => EnQ [] ts e1 fun us e2 => Q (.vl d :: us) e2) : EnQ [] (t :: ts) e Q := by
  obtain ⟨r, h1, r2, h2, k⟩ := k
  exact ⟨(.vl r.1 :: r2.1, r2.2), by rw [ev_escNn, h1, Option.bind_some, h2]; rfl, k⟩
theorem y_call {ms : List Bool} {dds : List D} {m : Fn} {fa : FA} {Q : T → DEnv → Prop} (k : YA fa e (fun ts e1 => EnQ ms ts e1 fun us e2 => CQ dds m us e2 Q X) X) : YE (fCall ms dds m fa) e Q X :=
  Wq.bnd (k.im fun r ⟨q, h1, h⟩ => Wq.bnd (Wq.sm h1 (cq_callM h)))
def allVl : List T → Bool
  | [] => true
  | .vl _ :: ts => allVl ts
  | _ :: _ => false
theorem putAll_nil : ∀ (k : Nat) (e : DEnv), putAll [] k e = e
  | _, [] => rfl
  | k, x :: r => by show x :: putAll [] (k + 1) r = _; rw [putAll_nil]
theorem dropAll_nil : ∀ (k : Nat) (e : DEnv), dropAll [] k e = e
  | _, [] => rfl
  | k, x :: r => by show x :: dropAll [] (k + 1) r = _; rw [dropAll_nil]
theorem upds_vl : ∀ {ts : List T} {bs : List B}, allVl ts = true → upds ts bs = []
  | [], _, _ => by cases ‹List B› <;> rfl
  | .vl d :: ts, [], _ => rfl
  | .vl d :: ts, b :: bs, h => by show upds ts bs = []; exact upds_vl h
  | .sl _ :: _, _, h => by cases h
  | .nw _ :: _, _, h => by cases h
def vlBs : List T → List B
  | [] => []
  | .vl d :: ts => .sh d :: vlBs ts
  | _ :: ts => vlBs ts
theorem argBs_vl : ∀ {ts : List T}, allVl ts = true → argBs ts e = some (vlBs ts)
  | [], _ => rfl
  | .vl d :: ts, h => by
    have ih := argBs_vl (ts := ts) h
    show (argB (.vl d) e).bind _ = _
    rw [show argB (.vl d) e = some (.sh d) from rfl, Option.bind_some, ih]
    rfl
  | .sl _ :: _, h => by cases h
  | .nw _ :: _, h => by cases h
theorem nodup_vl : ∀ {ts : List T}, allVl ts = true → nodupT ts = true
  | [], _ => rfl
  | .vl d :: ts, h => by rw [ev_nodup1]; exact nodup_vl (ts := ts) h
  | .sl _ :: _, h => by cases h
  | .nw _ :: _, h => by cases h
theorem sameB_refl (bs : List B) : sameB bs bs = true := by unfold sameB; simp
/-- a call whose callee is known by an equation; arguments all shared; the result shared, new -/
theorem cq_f {dds : List D} {m : Fn} {Q : T → DEnv → Prop} {bs : List B} (hm : m bs = .ok (d, false, bs)) (hv : allVl ts = true) (hb : vlBs ts ++ dds.map .sh = bs) (k : Q (.vl d) e) : CQ dds m ts e Q X :=
  ⟨vlBs ts, argBs_vl hv, nodup_vl hv, by unfold YF; rw [hb, hm]; exact ⟨⟨sameB_refl _, by rw [upds_vl hv, putAll_nil]; exact k⟩⟩⟩
theorem cq_n {dds : List D} {m : Fn} {Q : T → DEnv → Prop} {bs : List B} (hm : m bs = .ok (d, true, bs)) (hv : allVl ts = true) (hb : vlBs ts ++ dds.map .sh = bs) (k : Q (.nw d) e) : CQ dds m ts e Q X :=
  ⟨vlBs ts, argBs_vl hv, nodup_vl hv, by unfold YF; rw [hb, hm]; exact ⟨⟨sameB_refl _, by rw [upds_vl hv, putAll_nil]; exact k⟩⟩⟩
/-- .. an object is lent -/
theorem cq_l {dds : List D} {m : Fn} {Q : T → DEnv → Prop} {bs qs : List B} {nw : Bool} {e' : DEnv} (hm : m (bs ++ dds.map .sh) = .ok (d, nw, qs)) (ha : argBs ts e = some bs) (hn : nodupT ts = true) (hs : sameB (bs ++ dds.map .sh) qs = true) (hp : putAll (upds ts qs) 0 e = e') (k : Q (tokOf nw d) e') : CQ dds m ts e Q X :=
  ⟨bs, ha, hn, by unfold YF; rw [hm]; exact ⟨⟨hs, by rw [hp]; exact k⟩⟩⟩
/-- .. an error -/
theorem cq_x {dds : List D} {m : Fn} {Q : T → DEnv → Prop} {bs : List B} {x : XV} {e' : DEnv} (hm : m bs = .exc x e') (hv : allVl ts = true) (hb : vlBs ts ++ dds.map .sh = bs) (k : X x e) : CQ dds m ts e Q X :=
  ⟨vlBs ts, argBs_vl hv, nodup_vl hv, by unfold YF; rw [hb, hm]; exact ⟨by show X x _; rw [upds_vl hv, dropAll_nil]; exact k⟩⟩
/-- .. by what it promises -/
theorem cq_w {dds : List D} {m : Fn} {Q : T → DEnv → Prop} {bs : List B} {P : D → Bool → List B → Prop} {Y : XV → Prop} (hm : YF m bs P Y) (hv : allVl ts = true) (hb : vlBs ts ++ dds.map .sh = bs) (hs : ∀ d nw qs, P d nw qs → qs = bs) (k : ∀ d nw, P d nw bs → Q (tokOf nw d) e) (x : ∀ x, Y x → X x e) : CQ dds m ts e Q X :=
  ⟨vlBs ts, argBs_vl hv, nodup_vl hv, by
    rw [hb]
    unfold YF at hm ⊢
    refine ⟨hm.un.mono (fun r _ h => ?_) fun y _ h => ?_⟩
    · have q := hs _ _ _ h
      rw [q] at h ⊢
      exact ⟨sameB_refl _, by rw [upds_vl hv, putAll_nil]; exact k _ _ h⟩
    · rw [upds_vl hv, dropAll_nil]; exact x y h⟩
theorem y_meth {k : Nat} {ms : List Bool} {dds : List D} {m : Fn} {fo : FE} {fa : FA} {Q : T → DEnv → Prop} (h : YE fo e (fun t e1 => Lz t e1 fun d => ∃ ds, d = .ins k ds ∧ YA fa e1 (fun ts e2 => EnQ ms (t.seal :: ts) e2 fun us e3 => CQ dds m us e3 Q X) X) X) : YE (fMeth k ms dds m fo fa) e Q X :=
  Wq.bnd (h.im fun r ⟨d, h1, ds, h2, h⟩ => by
    rw [h1, h2]
    dsimp only
    rw [if_pos rfl]
    exact Wq.bnd (h.im fun r ⟨q, h1, h⟩ => Wq.bnd (Wq.sm h1 (cq_callM h))))
theorem cq_noExc {dds : List D} {m : Fn} {Q : T → DEnv → Prop} (h : CQ dds m ts e Q fun _ _ => False) : Wq (noExc (callM dds m ts e)) (fun r => Q r.1 r.2) X := by
  have := cq_callM h
  cases hm : callM dds m ts e with
  | stuck => rw [hm] at this; exact this.un.elim
  | exc x e' => rw [hm] at this; exact this.un.elim
  | ok r => rw [hm] at this; exact ⟨this.un⟩
theorem y_prop {k : Nat} {m : Fn} {fo : FE} {Q : T → DEnv → Prop} (h : YE fo e (fun t e1 => Lz t e1 fun d => ∃ ds, d = .ins k ds ∧ EnQ [false] [t.seal] e1 fun us e3 => CQ [] m us e3 Q fun _ _ => False) X) : YE (fProp k m fo) e Q X :=
  Wq.bnd (h.im fun r ⟨d, h1, ds, h2, q, h3, h⟩ => by
    rw [h1, h2]
    dsimp only
    rw [if_pos rfl]
    exact Wq.bnd (Wq.sm h3 (cq_noExc h)))
theorem y_own2 {p1 p2 : D → Bool} {sw : Bool} {m : Fn} {fa fb : FE} {Q : T → DEnv → Prop} (k : YE fa e (fun t e1 => YE fb e1 (fun u e2 => Lz t e2 fun a => Lz u e2 fun b => p1 a = true ∧ p2 b = true ∧ EnQ [] (if sw then [u.seal, t.seal] else [t.seal, u.seal]) e2 fun us e3 => CQ [] m us e3 Q X) X) X) : YE (fOwn2 p1 p2 sw m fa fb) e Q X :=
  Wq.bnd (k.im fun r h => Wq.bnd (h.im fun q ⟨a, h1, b, h2, h3, h4, q, h5, h⟩ => by
    rw [h1, h2]
    dsimp only
    rw [if_pos (by rw [h3, h4]; rfl)]
    exact Wq.bnd (Wq.sm h5 (cq_callM h))))
theorem y_own1 {i : Nat} {m : Fn} {fa : FE} {Q : T → DEnv → Prop} (k : YE fa e (fun t e1 => Lz t e1 fun a => isIns i a = true ∧ EnQ [] [t.seal] e1 fun us e3 => CQ [] m us e3 Q X) X) : YE (fOwn1 i m fa) e Q X :=
  Wq.bnd (k.im fun r ⟨a, h1, h2, q, h5, h⟩ => by
    rw [h1]
    dsimp only
    rw [if_pos h2]
    exact Wq.bnd (Wq.sm h5 (cq_callM h)))
theorem cq_dropG {dds : List D} {m : Fn} {Q : T → DEnv → Prop} (h : CQ dds m ts e (fun t e4 => Q t e4.dropLast) fun x e4 => X x e4.dropLast) : Wq (dropG (callM dds m ts e)) (fun r => Q r.1 r.2) X := by
  obtain ⟨bs, h1, h2, h⟩ := h
  have e1 : callM dds m ts e = (match m (bs ++ dds.map .sh) with
    | .stuck => .stuck
    | .ok r => if sameB (bs ++ dds.map .sh) r.2.2 then .ok (if r.2.1 then .nw r.1 else .vl r.1, putAll (upds ts r.2.2) 0 e) else .stuck
    | .exc x _ => .exc x (dropAll (upds ts bs) 0 e)) := by
    unfold callM
    rw [h1]
    show (if nodupT ts = true then _ else _) = _
    rw [if_pos h2]
    try rfl
  rw [e1]
  unfold YF at h
  cases hm : m (bs ++ dds.map .sh) with
  | stuck => rw [hm] at h; exact h.un.elim
  | exc x e' => rw [hm] at h; exact ⟨h.un⟩
  | ok r =>
    rw [hm] at h
    have h := h.un
    obtain ⟨h3, h4⟩ := h
    dsimp only at h3 h4 ⊢
    rw [if_pos h3]
    obtain ⟨d, nw, qs⟩ := r
    cases nw <;> exact ⟨h4⟩
theorem y_callF {ms : List Bool} {dds : List D} {m : Fn} {f1 : FE} {fr : FA} {Q : T → DEnv → Prop} (k : YE f1 e (fun t e1 => ∃ d, t = .nw d ∧ YA fr e1 (fun ts e2 => EnQ ms ts e2 fun us e3 => CQ dds m (.sl e3.length :: us) (e3 ++ [some (.ow d)]) (fun t e4 => Q t e4.dropLast) fun x e4 => X x e4.dropLast) X) X) : YE (fCallF ms dds m f1 fr) e Q X :=
  Wq.bnd (k.im fun r ⟨d, h1, h⟩ => by
    rw [h1]
    exact Wq.bnd (h.im fun r ⟨q, h1, h⟩ => Wq.bnd (Wq.sm h1 (cq_dropG h))))
end
end DL

/-! DL, part z: what a run asks: operators, statements, loops; the driver. -/
namespace DL
open PySem L2 Evl
section
variable {e e1 e2 : DEnv} {X : XQ} {d d1 d2 : D} {i j : Nat} {t : T} {ts : List T} {N K C : DEnv → Prop} {R : T → DEnv → Prop} {Q : T → Prop}
/-! operators -/
theorem o_some {rv : RV} {o : Option RV} (h : o = some rv) (k : Q rv.tok) : OpQ o Q := ⟨rv, h, k⟩
theorem o_addI {a b : Int} (k : Q (.vl (.int (a + b)))) : OpQ (opAdd (.int a) (.int b)) Q := ⟨_, rfl, k⟩
theorem o_addS {a b : Str} (h : a.length + b.length ≤ lim) (k : Q (.vl (.str (a ++ b)))) : OpQ (opAdd (.str a) (.str b)) Q := ⟨_, (ev_addS a b).trans (if_pos h), k⟩
theorem o_addL {a b : List D} (h : a.length + b.length ≤ lim) (k : Q (.nw (.lst (a ++ b)))) : OpQ (opAdd (.lst a) (.lst b)) Q := ⟨_, (ev_addL a b).trans (if_pos h), k⟩
theorem o_addIS {a b : Int} (k : Q (.vl (.int (a + b)))) : OpQ (opAddIS (.int a) (.int b)) Q := ⟨_, rfl, k⟩
theorem o_subI {a b : Int} (k : Q (.vl (.int (a - b)))) : OpQ (opSub (.int a) (.int b)) Q := ⟨_, rfl, k⟩
theorem o_mulI {a b : Int} (h : mulOk a b = true) (k : Q (.vl (.int (a * b)))) : OpQ (opMul (.int a) (.int b)) Q := ⟨_, (ev_mulI a b).trans (if_pos h), k⟩
theorem o_divI {a b : Int} (h : divOk a b = true) (k : Q (.vl (.int (a.fdiv b)))) : OpQ (opDiv (.int a) (.int b)) Q := ⟨_, (ev_divI a b).trans (if_pos h), k⟩
theorem o_modI {a b : Int} (h : modOk a b = true) (k : Q (.vl (.int (a.fmod b)))) : OpQ (opMod (.int a) (.int b)) Q := ⟨_, (ev_modI a b).trans (if_pos h), k⟩
theorem o_powI {a b : Int} (h : powOk a b = true) (k : Q (.vl (.int (a ^ b.toNat)))) : OpQ (opPow (.int a) (.int b)) Q := ⟨_, (ev_powI a b).trans (if_pos h), k⟩
theorem o_shlI {a b : Int} (h : shlOk a b = true) (k : Q (.vl (.int (a * 2 ^ b.toNat)))) : OpQ (opShl (.int a) (.int b)) Q := ⟨_, (ev_shlI a b).trans (if_pos h), k⟩
theorem o_shrI {a b : Int} (h : shrOk a b = true) (k : Q (.vl (.int (a / 2 ^ b.toNat)))) : OpQ (opShr (.int a) (.int b)) Q := ⟨_, (ev_shrI a b).trans (if_pos h), k⟩
theorem o_andI {a b : Int} (k : Q (.vl (.int (Builtin.bitAnd a b)))) : OpQ (opAnd (.int a) (.int b)) Q := ⟨_, rfl, k⟩
theorem o_orI {a b : Int} (k : Q (.vl (.int (Builtin.bitOr a b)))) : OpQ (opOr (.int a) (.int b)) Q := ⟨_, rfl, k⟩
theorem o_xorI {a b : Int} (k : Q (.vl (.int (Builtin.bitXor a b)))) : OpQ (opXor (.int a) (.int b)) Q := ⟨_, rfl, k⟩
theorem o_ltI {a b : Int} (k : Q (.vl (.bl (decide (a < b))))) : OpQ (opLt (.int a) (.int b)) Q := ⟨_, rfl, k⟩
theorem o_leI {a b : Int} (k : Q (.vl (.bl (decide (a ≤ b))))) : OpQ (opLe (.int a) (.int b)) Q := ⟨_, rfl, k⟩
theorem o_gtI {a b : Int} (k : Q (.vl (.bl (decide (b < a))))) : OpQ (opGt (.int a) (.int b)) Q := ⟨_, rfl, k⟩
theorem o_geI {a b : Int} (k : Q (.vl (.bl (decide (b ≤ a))))) : OpQ (opGe (.int a) (.int b)) Q := ⟨_, rfl, k⟩
theorem o_negI {a : Int} (k : Q (.vl (.int (-a)))) : OpQ (opNeg (.int a)) Q := ⟨_, rfl, k⟩
theorem o_invI {a : Int} (k : Q (.vl (.int (Builtin.bitNot a)))) : OpQ (opInv (.int a)) Q := ⟨_, rfl, k⟩
theorem o_lenL {a : List D} (k : Q (.vl (.int a.length))) : OpQ (opLen [.lst a]) Q := ⟨_, rfl, k⟩
theorem o_lenR {a : List D} (k : Q (.vl (.int a.length))) : OpQ (opLen [.rol a]) Q := ⟨_, rfl, k⟩
theorem o_lenT {a : List D} (k : Q (.vl (.int a.length))) : OpQ (opLen [.tup a]) Q := ⟨_, rfl, k⟩
theorem o_absI {a : Int} (k : Q (.vl (.int (if a < 0 then -a else a)))) : OpQ (opAbs [.int a]) Q := ⟨_, rfl, k⟩
theorem o_intI {a : Int} (k : Q (.vl (.int a))) : OpQ (opInt [.int a]) Q := ⟨_, rfl, k⟩
theorem o_intB {a : Bool} (k : Q (.vl (.int (if a then 1 else 0)))) : OpQ (opInt [.bl a]) Q := ⟨_, rfl, k⟩
theorem o_max {a b : Int} (k : Q (.vl (.int (max a b)))) : OpQ (opMax2 [.int a, .int b]) Q := by
  refine ⟨_, rfl, ?_⟩
  have e : (if b > a then b else a) = max a b := by split <;> omega
  show Q (.vl (.int (if b > a then b else a)))
  rw [e]; exact k
theorem o_min {a b : Int} (k : Q (.vl (.int (min a b)))) : OpQ (opMin2 [.int a, .int b]) Q := by
  refine ⟨_, rfl, ?_⟩
  have e : (if b < a then b else a) = min a b := by split <;> omega
  show Q (.vl (.int (if b < a then b else a)))
  rw [e]; exact k
theorem o_eqI {a b : Int} (k : Q (.vl (.bl (decide (a = b))))) : OpQ (opEq (.int a) (.int b)) Q := ⟨RV.fl (.bl (decide (a = b))), by rw [ev_opEq, deq_II]; rfl, k⟩
theorem o_neI {a b : Int} (k : Q (.vl (.bl (!decide (a = b))))) : OpQ (opNe (.int a) (.int b)) Q := ⟨RV.fl (.bl (!decide (a = b))), by rw [ev_opNe, deq_II]; rfl, k⟩
theorem o_eqB {a b : Bool} (k : Q (.vl (.bl (decide (a = b))))) : OpQ (opEq (.bl a) (.bl b)) Q := ⟨.fl (.bl (decide (a = b))), by rw [ev_opEq, deq_BB]; cases a <;> cases b <;> rfl, k⟩
theorem o_neB {a b : Bool} (k : Q (.vl (.bl (!decide (a = b))))) : OpQ (opNe (.bl a) (.bl b)) Q := ⟨.fl (.bl (!decide (a = b))), by rw [ev_opNe, deq_BB]; cases a <;> cases b <;> rfl, k⟩
theorem o_eqW {a b : String} (k : Q (.vl (.bl (decide (a = b))))) : OpQ (opEq (.str (Str.ofString a)) (.str (Str.ofString b))) Q := ⟨.fl (.bl (decide (a = b))), by rw [ev_opEq, deq_SS, ok_strL, ok_strL, str_beq]; rfl, k⟩
theorem o_neW {a b : String} (k : Q (.vl (.bl (!decide (a = b))))) : OpQ (opNe (.str (Str.ofString a)) (.str (Str.ofString b))) Q := ⟨.fl (.bl (!decide (a = b))), by rw [ev_opNe, deq_SS, ok_strL, ok_strL, str_beq]; rfl, k⟩
theorem o_eq {a b : D} (h : dOk a = true) (h2 : dOk b = true) (k : Q (.vl (.bl (deq a b)))) : OpQ (opEq a b) Q := ⟨RV.fl (.bl (deq a b)), by rw [ev_opEq, h, h2]; rfl, k⟩
theorem o_ne {a b : D} (h : dOk a = true) (h2 : dOk b = true) (k : Q (.vl (.bl (!deq a b)))) : OpQ (opNe a b) Q := ⟨RV.fl (.bl (!deq a b)), by rw [ev_opNe, h, h2]; rfl, k⟩
theorem atI_nat {α : Type} {xs : List α} {n : Nat} {a : α} (h : xs[n]? = some a) : atI xs (n : Int) = some a := by
  have hl := get_lt h
  rw [ev_atI, ev_ixN, if_pos (by omega), if_pos (by omega)]
  show xs[((n : Nat) : Int).toNat]? = _
  rw [Int.toNat_natCast]
  exact h
theorem atI_lit {α : Type} {xs : List α} {n : Nat} {a : α} {k : Int} (hk : k = (n : Int)) (h : xs[n]? = some a) : atI xs k = some a := hk ▸ atI_nat h
theorem o_ixL {a : List D} {k : Int} {d : D} (h : atI a k = some d) (q : Q (.vl d)) : OpQ (opIx (.lst a) (.int k)) Q := ⟨RV.fl d, by rw [ev_ixL, h]; rfl, q⟩
theorem o_ixR {a : List D} {k : Int} {d : D} (h : atI a k = some d) (q : Q (.vl d)) : OpQ (opIx (.rol a) (.int k)) Q := ⟨RV.fl d, by rw [ev_ixR, h]; rfl, q⟩
theorem o_ixT {a : List D} {k : Int} {d : D} (h : atI a k = some d) (q : Q (.vl d)) : OpQ (opIx (.tup a) (.int k)) Q := ⟨RV.fl d, by rw [ev_ixT, h]; rfl, q⟩
theorem o_ixL0 {x0 : D} {l : List D} (q : Q (.vl x0)) : OpQ (opIx (.lst (x0 :: l)) (.int 0)) Q := o_ixL (atI_lit (n := 0) rfl rfl) q
theorem o_ixL1 {x0 x1 : D} {l : List D} (q : Q (.vl x1)) : OpQ (opIx (.lst (x0 :: x1 :: l)) (.int 1)) Q := o_ixL (atI_lit (n := 1) rfl rfl) q
theorem o_ixL2 {x0 x1 x2 : D} {l : List D} (q : Q (.vl x2)) : OpQ (opIx (.lst (x0 :: x1 :: x2 :: l)) (.int 2)) Q := o_ixL (atI_lit (n := 2) rfl rfl) q
theorem o_ixL3 {x0 x1 x2 x3 : D} {l : List D} (q : Q (.vl x3)) : OpQ (opIx (.lst (x0 :: x1 :: x2 :: x3 :: l)) (.int 3)) Q := o_ixL (atI_lit (n := 3) rfl rfl) q
theorem o_ixL4 {x0 x1 x2 x3 x4 : D} {l : List D} (q : Q (.vl x4)) : OpQ (opIx (.lst (x0 :: x1 :: x2 :: x3 :: x4 :: l)) (.int 4)) Q := o_ixL (atI_lit (n := 4) rfl rfl) q
theorem o_ixL5 {x0 x1 x2 x3 x4 x5 : D} {l : List D} (q : Q (.vl x5)) : OpQ (opIx (.lst (x0 :: x1 :: x2 :: x3 :: x4 :: x5 :: l)) (.int 5)) Q := o_ixL (atI_lit (n := 5) rfl rfl) q
theorem o_ixL6 {x0 x1 x2 x3 x4 x5 x6 : D} {l : List D} (q : Q (.vl x6)) : OpQ (opIx (.lst (x0 :: x1 :: x2 :: x3 :: x4 :: x5 :: x6 :: l)) (.int 6)) Q := o_ixL (atI_lit (n := 6) rfl rfl) q
theorem o_ixL7 {x0 x1 x2 x3 x4 x5 x6 x7 : D} {l : List D} (q : Q (.vl x7)) : OpQ (opIx (.lst (x0 :: x1 :: x2 :: x3 :: x4 :: x5 :: x6 :: x7 :: l)) (.int 7)) Q := o_ixL (atI_lit (n := 7) rfl rfl) q
theorem o_ixT0 {x0 : D} {l : List D} (q : Q (.vl x0)) : OpQ (opIx (.tup (x0 :: l)) (.int 0)) Q := o_ixT (atI_lit (n := 0) rfl rfl) q
theorem o_ixT1 {x0 x1 : D} {l : List D} (q : Q (.vl x1)) : OpQ (opIx (.tup (x0 :: x1 :: l)) (.int 1)) Q := o_ixT (atI_lit (n := 1) rfl rfl) q
theorem o_ixT2 {x0 x1 x2 : D} {l : List D} (q : Q (.vl x2)) : OpQ (opIx (.tup (x0 :: x1 :: x2 :: l)) (.int 2)) Q := o_ixT (atI_lit (n := 2) rfl rfl) q
theorem o_ixT3 {x0 x1 x2 x3 : D} {l : List D} (q : Q (.vl x3)) : OpQ (opIx (.tup (x0 :: x1 :: x2 :: x3 :: l)) (.int 3)) Q := o_ixT (atI_lit (n := 3) rfl rfl) q
theorem o_ixT4 {x0 x1 x2 x3 x4 : D} {l : List D} (q : Q (.vl x4)) : OpQ (opIx (.tup (x0 :: x1 :: x2 :: x3 :: x4 :: l)) (.int 4)) Q := o_ixT (atI_lit (n := 4) rfl rfl) q
theorem o_ixT5 {x0 x1 x2 x3 x4 x5 : D} {l : List D} (q : Q (.vl x5)) : OpQ (opIx (.tup (x0 :: x1 :: x2 :: x3 :: x4 :: x5 :: l)) (.int 5)) Q := o_ixT (atI_lit (n := 5) rfl rfl) q
theorem o_ixT6 {x0 x1 x2 x3 x4 x5 x6 : D} {l : List D} (q : Q (.vl x6)) : OpQ (opIx (.tup (x0 :: x1 :: x2 :: x3 :: x4 :: x5 :: x6 :: l)) (.int 6)) Q := o_ixT (atI_lit (n := 6) rfl rfl) q
theorem o_ixT7 {x0 x1 x2 x3 x4 x5 x6 x7 : D} {l : List D} (q : Q (.vl x7)) : OpQ (opIx (.tup (x0 :: x1 :: x2 :: x3 :: x4 :: x5 :: x6 :: x7 :: l)) (.int 7)) Q := o_ixT (atI_lit (n := 7) rfl rfl) q
theorem o_ixR0 {x0 : D} {l : List D} (q : Q (.vl x0)) : OpQ (opIx (.rol (x0 :: l)) (.int 0)) Q := o_ixR (atI_lit (n := 0) rfl rfl) q
theorem o_ixR1 {x0 x1 : D} {l : List D} (q : Q (.vl x1)) : OpQ (opIx (.rol (x0 :: x1 :: l)) (.int 1)) Q := o_ixR (atI_lit (n := 1) rfl rfl) q
theorem o_ixR2 {x0 x1 x2 : D} {l : List D} (q : Q (.vl x2)) : OpQ (opIx (.rol (x0 :: x1 :: x2 :: l)) (.int 2)) Q := o_ixR (atI_lit (n := 2) rfl rfl) q
theorem o_ixR3 {x0 x1 x2 x3 : D} {l : List D} (q : Q (.vl x3)) : OpQ (opIx (.rol (x0 :: x1 :: x2 :: x3 :: l)) (.int 3)) Q := o_ixR (atI_lit (n := 3) rfl rfl) q
theorem o_ixR4 {x0 x1 x2 x3 x4 : D} {l : List D} (q : Q (.vl x4)) : OpQ (opIx (.rol (x0 :: x1 :: x2 :: x3 :: x4 :: l)) (.int 4)) Q := o_ixR (atI_lit (n := 4) rfl rfl) q
theorem o_ixR5 {x0 x1 x2 x3 x4 x5 : D} {l : List D} (q : Q (.vl x5)) : OpQ (opIx (.rol (x0 :: x1 :: x2 :: x3 :: x4 :: x5 :: l)) (.int 5)) Q := o_ixR (atI_lit (n := 5) rfl rfl) q
theorem o_ixR6 {x0 x1 x2 x3 x4 x5 x6 : D} {l : List D} (q : Q (.vl x6)) : OpQ (opIx (.rol (x0 :: x1 :: x2 :: x3 :: x4 :: x5 :: x6 :: l)) (.int 6)) Q := o_ixR (atI_lit (n := 6) rfl rfl) q
theorem o_ixR7 {x0 x1 x2 x3 x4 x5 x6 x7 : D} {l : List D} (q : Q (.vl x7)) : OpQ (opIx (.rol (x0 :: x1 :: x2 :: x3 :: x4 :: x5 :: x6 :: x7 :: l)) (.int 7)) Q := o_ixR (atI_lit (n := 7) rfl rfl) q
theorem o_ixL0e {x0 : D} {l : List D} {i : Int} (hi : i = 0) (q : Q (.vl x0)) : OpQ (opIx (.lst (x0 :: l)) (.int i)) Q := by subst hi; exact o_ixL0 q
theorem o_ixL1e {x0 x1 : D} {l : List D} {i : Int} (hi : i = 1) (q : Q (.vl x1)) : OpQ (opIx (.lst (x0 :: x1 :: l)) (.int i)) Q := by subst hi; exact o_ixL1 q
theorem o_ixL2e {x0 x1 x2 : D} {l : List D} {i : Int} (hi : i = 2) (q : Q (.vl x2)) : OpQ (opIx (.lst (x0 :: x1 :: x2 :: l)) (.int i)) Q := by subst hi; exact o_ixL2 q
theorem o_ixL3e {x0 x1 x2 x3 : D} {l : List D} {i : Int} (hi : i = 3) (q : Q (.vl x3)) : OpQ (opIx (.lst (x0 :: x1 :: x2 :: x3 :: l)) (.int i)) Q := by subst hi; exact o_ixL3 q
theorem o_ixL4e {x0 x1 x2 x3 x4 : D} {l : List D} {i : Int} (hi : i = 4) (q : Q (.vl x4)) : OpQ (opIx (.lst (x0 :: x1 :: x2 :: x3 :: x4 :: l)) (.int i)) Q := by subst hi; exact o_ixL4 q
theorem o_ixL5e {x0 x1 x2 x3 x4 x5 : D} {l : List D} {i : Int} (hi : i = 5) (q : Q (.vl x5)) : OpQ (opIx (.lst (x0 :: x1 :: x2 :: x3 :: x4 :: x5 :: l)) (.int i)) Q := by subst hi; exact o_ixL5 q
theorem o_ixL6e {x0 x1 x2 x3 x4 x5 x6 : D} {l : List D} {i : Int} (hi : i = 6) (q : Q (.vl x6)) : OpQ (opIx (.lst (x0 :: x1 :: x2 :: x3 :: x4 :: x5 :: x6 :: l)) (.int i)) Q := by subst hi; exact o_ixL6 q
theorem o_ixL7e {x0 x1 x2 x3 x4 x5 x6 x7 : D} {l : List D} {i : Int} (hi : i = 7) (q : Q (.vl x7)) : OpQ (opIx (.lst (x0 :: x1 :: x2 :: x3 :: x4 :: x5 :: x6 :: x7 :: l)) (.int i)) Q := by subst hi; exact o_ixL7 q
theorem o_ixT0e {x0 : D} {l : List D} {i : Int} (hi : i = 0) (q : Q (.vl x0)) : OpQ (opIx (.tup (x0 :: l)) (.int i)) Q := by subst hi; exact o_ixT0 q
theorem o_ixT1e {x0 x1 : D} {l : List D} {i : Int} (hi : i = 1) (q : Q (.vl x1)) : OpQ (opIx (.tup (x0 :: x1 :: l)) (.int i)) Q := by subst hi; exact o_ixT1 q
theorem o_ixT2e {x0 x1 x2 : D} {l : List D} {i : Int} (hi : i = 2) (q : Q (.vl x2)) : OpQ (opIx (.tup (x0 :: x1 :: x2 :: l)) (.int i)) Q := by subst hi; exact o_ixT2 q
theorem o_ixT3e {x0 x1 x2 x3 : D} {l : List D} {i : Int} (hi : i = 3) (q : Q (.vl x3)) : OpQ (opIx (.tup (x0 :: x1 :: x2 :: x3 :: l)) (.int i)) Q := by subst hi; exact o_ixT3 q
theorem o_ixT4e {x0 x1 x2 x3 x4 : D} {l : List D} {i : Int} (hi : i = 4) (q : Q (.vl x4)) : OpQ (opIx (.tup (x0 :: x1 :: x2 :: x3 :: x4 :: l)) (.int i)) Q := by subst hi; exact o_ixT4 q
theorem o_ixT5e {x0 x1 x2 x3 x4 x5 : D} {l : List D} {i : Int} (hi : i = 5) (q : Q (.vl x5)) : OpQ (opIx (.tup (x0 :: x1 :: x2 :: x3 :: x4 :: x5 :: l)) (.int i)) Q := by subst hi; exact o_ixT5 q
theorem o_ixT6e {x0 x1 x2 x3 x4 x5 x6 : D} {l : List D} {i : Int} (hi : i = 6) (q : Q (.vl x6)) : OpQ (opIx (.tup (x0 :: x1 :: x2 :: x3 :: x4 :: x5 :: x6 :: l)) (.int i)) Q := by subst hi; exact o_ixT6 q
theorem o_ixT7e {x0 x1 x2 x3 x4 x5 x6 x7 : D} {l : List D} {i : Int} (hi : i = 7) (q : Q (.vl x7)) : OpQ (opIx (.tup (x0 :: x1 :: x2 :: x3 :: x4 :: x5 :: x6 :: x7 :: l)) (.int i)) Q := by subst hi; exact o_ixT7 q
theorem o_ixR0e {x0 : D} {l : List D} {i : Int} (hi : i = 0) (q : Q (.vl x0)) : OpQ (opIx (.rol (x0 :: l)) (.int i)) Q := by subst hi; exact o_ixR0 q
theorem o_ixR1e {x0 x1 : D} {l : List D} {i : Int} (hi : i = 1) (q : Q (.vl x1)) : OpQ (opIx (.rol (x0 :: x1 :: l)) (.int i)) Q := by subst hi; exact o_ixR1 q
theorem o_ixR2e {x0 x1 x2 : D} {l : List D} {i : Int} (hi : i = 2) (q : Q (.vl x2)) : OpQ (opIx (.rol (x0 :: x1 :: x2 :: l)) (.int i)) Q := by subst hi; exact o_ixR2 q
theorem o_ixR3e {x0 x1 x2 x3 : D} {l : List D} {i : Int} (hi : i = 3) (q : Q (.vl x3)) : OpQ (opIx (.rol (x0 :: x1 :: x2 :: x3 :: l)) (.int i)) Q := by subst hi; exact o_ixR3 q
theorem o_ixR4e {x0 x1 x2 x3 x4 : D} {l : List D} {i : Int} (hi : i = 4) (q : Q (.vl x4)) : OpQ (opIx (.rol (x0 :: x1 :: x2 :: x3 :: x4 :: l)) (.int i)) Q := by subst hi; exact o_ixR4 q
theorem o_ixR5e {x0 x1 x2 x3 x4 x5 : D} {l : List D} {i : Int} (hi : i = 5) (q : Q (.vl x5)) : OpQ (opIx (.rol (x0 :: x1 :: x2 :: x3 :: x4 :: x5 :: l)) (.int i)) Q := by subst hi; exact o_ixR5 q
theorem o_ixR6e {x0 x1 x2 x3 x4 x5 x6 : D} {l : List D} {i : Int} (hi : i = 6) (q : Q (.vl x6)) : OpQ (opIx (.rol (x0 :: x1 :: x2 :: x3 :: x4 :: x5 :: x6 :: l)) (.int i)) Q := by subst hi; exact o_ixR6 q
theorem o_ixR7e {x0 x1 x2 x3 x4 x5 x6 x7 : D} {l : List D} {i : Int} (hi : i = 7) (q : Q (.vl x7)) : OpQ (opIx (.rol (x0 :: x1 :: x2 :: x3 :: x4 :: x5 :: x6 :: x7 :: l)) (.int i)) Q := by subst hi; exact o_ixR7 q
theorem o_slL {a : List D} {lo hi : Option Int} (q : Q (.nw (.lst (cutD a lo hi)))) : OpQ (opSl (.lst a) lo hi) Q := ⟨_, rfl, q⟩
theorem o_slR {a : List D} {lo hi : Option Int} (q : Q (.nw (.lst (cutD a lo hi)))) : OpQ (opSl (.rol a) lo hi) Q := ⟨_, rfl, q⟩
theorem o_slT {a : List D} {lo hi : Option Int} (q : Q (.vl (.tup (cutD a lo hi)))) : OpQ (opSl (.tup a) lo hi) Q := by
  by_cases h : HT.sIx a.length 0 lo = 0 ∧ HT.sIx a.length a.length hi = a.length
  · refine ⟨_, (ev_opSlT a lo hi).trans (if_pos h), ?_⟩
    have e : cutD a lo hi = a := by
      rw [ev_cutD, h.1, h.2, List.drop_zero, Nat.sub_zero, List.take_length]
    rw [e] at q
    exact q
  · exact ⟨_, (ev_opSlT a lo hi).trans (if_neg h), q⟩
theorem o_rev {a : List D} (q : Q (.nw (.lst a.reverse))) : OpQ (opRev (.lst a)) Q := ⟨_, rfl, q⟩
/-! statements -/
theorem y_next (k : N e) : YS fNext e N R K C X := ⟨k⟩
theorem y_break (k : K e) : YS fBreak e N R K C X := ⟨k⟩
theorem y_cont (k : C e) : YS fCont e N R K C X := ⟨k⟩
theorem y_retN (k : R (.vl .non) e) : YS fRetN e N R K C X := ⟨k⟩
theorem y_seq {f g : FS} (k : YS f e (fun e1 => YS g e1 N R K C X) R K C X) : YS (fSeq f g) e N R K C X := Wq.bnd (k.im fun o h => by cases o <;> first | exact h | exact ⟨h⟩)
theorem y_set {f : FE} (k : YE f e (fun t e1 => StQ i t e1 N) X) : YS (fSet i f) e N R K C X := Wq.bnd (k.im fun r ⟨e2, h1, h⟩ => Wq.sm (a := Out.nx e2) (by rw [h1]; rfl) h)
theorem y_drop {f : FE} (k : YE f e (fun _ e1 => N e1) X) : YS (fDrop f) e N R K C X := Wq.bnd (k.im fun r h => ⟨h⟩)
theorem y_ret {f : FE} (k : YE f e R X) : YS (fRet f) e N R K C X := Wq.bnd (k.im fun r h => ⟨h⟩)
theorem y_ifS {t : FT} {f g : FS} (k : YT t e (fun b e1 => IfQ b (YS f e1 N R K C X) (YS g e1 N R K C X)) X) : YS (fIfS t f g) e N R K C X := Wq.bnd (k.im fun r h => ifq_wp h)
theorem y_asg {f : FE} {fg : D → DEnv → Option DEnv} (k : YE f e (fun t e1 => Es t e1 fun d e2 => GQ fg d e2 N) X) : YS (fAsg fg f) e N R K C X :=
  Wq.bnd (k.im fun r ⟨q, h1, e2, h2, h⟩ => Wq.sm (a := Out.nx e2) (by rw [h1, Option.bind_some, h2]; rfl) h)
theorem y_par {fr : FA} (k : YA fr e (fun ts e1 => ∃ t u, ts = [t, u] ∧ Es t e1 fun a e2 => Es u e2 fun b e3 => ∃ e4 e5, SetAt e3 i (some (.sh a)) e4 ∧ SetAt e4 j (some (.sh b)) e5 ∧ N e5) X) : YS (fPar i j fr) e N R K C X :=
  Wq.bnd (k.im fun r ⟨t, u, h1, q, h2, q2, h3, e4, e5, s1, s2, h⟩ => Wq.sm (a := Out.nx e5) (by
    rw [h1]
    dsimp only
    have hl : e4.length = q2.2.length := by rw [← s1.eq.2, List.length_set]
    rw [h2, Option.bind_some, h3, Option.bind_some, if_pos ⟨s1.eq.1, hl ▸ s2.eq.1⟩, s1.eq.2, s2.eq.2]) h)
theorem y_aug {op : D → D → Option RV} {f : FE} (h : e[i]? = some (some (.sh d1))) (k : YE f e (fun t e1 => Lk t e1 fun d2 => OpQ (op d1 d2) fun t => StQ i t e1 N) X) : YS (fAug i op f) e N R K C X := by
  unfold YS fAug
  rw [h]
  exact Wq.bnd (k.im fun r ⟨d2, h1, rv, h2, e2, h3, h⟩ => Wq.sm (a := Out.nx e2) (by rw [h1, Option.bind_some, h2, Option.bind_some, h3]; rfl) h)
/-- a name's own or lent list -/
def RtQ (e : DEnv) (j : Nat) (Q : List D → Prop) : Prop := ∃ ds, rootLst e j = some ds ∧ Q ds
theorem rt_ow {Q : List D → Prop} {ds : List D} (h : e[j]? = some (some (.ow (.lst ds)))) (k : Q ds) : RtQ e j Q := ⟨ds, by rw [ev_rootL1, h], k⟩
theorem rt_br {Q : List D → Prop} {ds : List D} (h : e[j]? = some (some (.br (.lst ds)))) (k : Q ds) : RtQ e j Q := ⟨ds, by rw [ev_rootL1, h], k⟩
def PlQ (e : DEnv) (j : Nat) (ds : List D) (N : DEnv → Prop) : Prop := N (putLst e j ds)
theorem pl_ow {d : D} {ds : List D} (h : e[j]? = some (some (.ow d))) (s : SetAt e j (some (.ow (.lst ds))) e1) (k : N e1) : PlQ e j ds N := by
  unfold PlQ
  rw [ev_putL, h]
  dsimp only
  rw [show B.re (.ow d) (.lst ds) = .ow (.lst ds) from rfl, s.eq.2]
  exact k
theorem pl_br {d : D} {ds : List D} (h : e[j]? = some (some (.br d))) (s : SetAt e j (some (.br (.lst ds))) e1) (k : N e1) : PlQ e j ds N := by
  unfold PlQ
  rw [ev_putL, h]
  dsimp only
  rw [show B.re (.br d) (.lst ds) = .br (.lst ds) from rfl, s.eq.2]
  exact k
theorem y_app {f : FE} {Q : T → DEnv → Prop} (k : RtQ e j fun _ => YE f e (fun t e1 => Es t e1 fun d e2 => RtQ e2 j fun ds => ds.length < lim ∧ PlQ e2 j (ds ++ [d]) fun e3 => Q (.vl .non) e3) X) : YE (fApp j f) e Q X := by
  obtain ⟨_, h0, k⟩ := k
  exact Wq.bnd (Wq.sm h0 (Wq.bnd (k.im fun r ⟨q, h1, ds, h2, h3, h⟩ => Wq.sm (a := (T.vl D.non, putLst q.2 j (ds ++ [q.1]))) (by rw [h1, Option.bind_some, h2, Option.bind_some, if_pos h3]) h)))
theorem y_ext {f : FE} {Q : T → DEnv → Prop} (k : RtQ e j fun _ => YE f e (fun t e1 => Es t e1 fun d e2 => ∃ es, d = .lst es ∧ RtQ e2 j fun ds => ds.length + es.length ≤ lim ∧ PlQ e2 j (ds ++ es) fun e3 => Q (.vl .non) e3) X) : YE (fExt j f) e Q X := by
  obtain ⟨_, h0, k⟩ := k
  refine Wq.bnd (Wq.sm h0 (Wq.bnd (k.im fun r ⟨q, h1, es, h2, ds, h3, h4, h⟩ => Wq.sm (a := (T.vl D.non, putLst q.2 j (ds ++ es))) ?_ h)))
  rw [h1, Option.bind_some, h2]
  dsimp only
  rw [h3, Option.bind_some, if_pos h4]
theorem y_pop {Q : T → DEnv → Prop} (k : RtQ e j fun ds => ∃ d, ds[ds.length - 1]? = some d ∧ PlQ e j ds.dropLast fun e3 => Q (.vl d) e3) : YE (fPop j) e Q X := by
  obtain ⟨ds, h0, d, h1, k⟩ := k
  exact Wq.sm (a := (T.vl d, putLst e j ds.dropLast)) (by rw [h0, Option.bind_some, h1, Option.bind_some]) k
theorem y_setIx {fi fv : FE} (k : YE fv e (fun t e1 => Es t e1 fun v e2 => RtQ e2 j fun _ => YE fi e2 (fun u e3 => Lk u e3 fun k => ∃ i : Int, k = .int i ∧ RtQ e3 j fun ds => ∃ n, ixN ds.length i = some n ∧ PlQ e3 j (ds.set n v) N) X) X) : YS (fSetIx j fi fv) e N R K C X :=
  Wq.bnd (k.im fun r ⟨q, h1, ds, h2, h⟩ => Wq.bnd (Wq.sm (a := q) (by rw [h1, Option.bind_some, h2]; rfl) (Wq.bnd (h.im fun r ⟨k, h3, i, h4, ds, h5, n, h6, h⟩ => Wq.sm (a := Out.nx (putLst r.2 j (ds.set n q.1))) (by
    rw [h3, Option.bind_some, h4]
    dsimp only
    rw [h5, Option.bind_some, h6]
    rfl) h))))
theorem y_raise {k n : Nat} {fa : FA} (h : YA fa e (fun ts e1 => EsA ts e1 fun ds e2 => ds.length = n ∧ X ⟨k, ds⟩ e2) X) : YS (fRaise k n fa) e N R K C X :=
  Wq.bnd (h.im fun r ⟨q, h1, h2, h⟩ => Wq.bnd (Wq.sm h1 (by rw [if_pos h2]; exact ⟨h⟩)))
theorem y_raise0 {k : Nat} (h : X ⟨k, []⟩ e) : YS (fRaise0 k) e N R K C X := ⟨h⟩
theorem y_star {n i : Nat} {fs : List D → DEnv → Option DEnv} {f : FE} (k : YE f e (fun t e1 => Es t e1 fun d e2 => ∃ ds, d = .tup ds ∧ n ≤ ds.length + 1 ∧ ds.length ≤ 16384 ∧ GsQ fs (ds.take i ++ [.lst ((ds.drop i).take (ds.length + 1 - n))] ++ (ds.drop i).drop (ds.length + 1 - n)) e2 N) X) : YS (fStar n i fs f) e N R K C X :=
  Wq.bnd (k.im fun r ⟨q, h1, ds, h2, h3, h4, e3, h5, h⟩ => Wq.sm (a := Out.nx e3) (by
    rw [h1, Option.bind_some, h2]
    dsimp only
    rw [decide_eq_true h3, decide_eq_true h4, Bool.and_self, if_pos rfl, h5]
    rfl) h)
theorem y_star2 {fs : List D → DEnv → Option DEnv} {f : FE} (k : YE f e (fun t e1 => Es t e1 fun d e2 => ∃ a r, d = .tup (a :: r) ∧ r.length ≤ 1000 ∧ GsQ fs [a, .lst r] e2 N) X) : YS (fStar 2 1 fs f) e N R K C X :=
  y_star (Wq.im k fun r ⟨q, h1, a, ds, h2, h3, h4⟩ => ⟨q, h1, a :: ds, h2, by rw [List.length_cons]; omega, by rw [List.length_cons]; omega, by
    have e1 : (a :: ds).length + 1 - 2 = ds.length := by rw [List.length_cons]; omega
    rw [e1]
    show GsQ fs ([a] ++ [.lst (ds.take ds.length)] ++ ds.drop ds.length) q.2 N
    rw [List.take_length, List.drop_length]
    exact h4⟩)
/-- an attribute is stored -/
def RiQ (k : Nat) (e : DEnv) (j : Nat) (Q : List D → Prop) : Prop := ∃ ds, rootIns k e j = some ds ∧ Q ds
theorem ri_ow {k : Nat} {Q : List D → Prop} {ds : List D} (h : e[j]? = some (some (.ow (.ins k ds)))) (q : Q ds) : RiQ k e j Q := ⟨ds, by rw [ev_rootI, h]; exact if_pos rfl, q⟩
theorem ri_br {k : Nat} {Q : List D → Prop} {ds : List D} (h : e[j]? = some (some (.br (.ins k ds)))) (q : Q ds) : RiQ k e j Q := ⟨ds, by rw [ev_rootI, h]; exact if_pos rfl, q⟩
def PiQ (k : Nat) (e : DEnv) (j : Nat) (ds : List D) (N : DEnv → Prop) : Prop := N (putIns k e j ds)
theorem pi_ow {k : Nat} {d : D} {ds : List D} (h : e[j]? = some (some (.ow d))) (s : SetAt e j (some (.ow (.ins k ds))) e1) (q : N e1) : PiQ k e j ds N := by
  unfold PiQ
  rw [ev_putI, h]
  dsimp only
  rw [show B.re (.ow d) (.ins k ds) = .ow (.ins k ds) from rfl, s.eq.2]
  exact q
theorem pi_br {k : Nat} {d : D} {ds : List D} (h : e[j]? = some (some (.br d))) (s : SetAt e j (some (.br (.ins k ds))) e1) (q : N e1) : PiQ k e j ds N := by
  unfold PiQ
  rw [ev_putI, h]
  dsimp only
  rw [show B.re (.br d) (.ins k ds) = .br (.ins k ds) from rfl, s.eq.2]
  exact q
theorem y_putF {ns : List Str} {k : Nat} {f : Str} {fv : FE} (h : YE fv e (fun t e1 => Es t e1 fun v e2 => RiQ k e2 j fun ds => ∃ ds', putD ns f v ds = some ds' ∧ ds.length < 900 ∧ PiQ k e2 j ds' N) X) : YS (fPutF ns k j f fv) e N R K C X :=
  Wq.bnd (h.im fun r ⟨q, h1, ds, h2, ds', h3, h4, h⟩ => Wq.sm (a := Out.nx (putIns k q.2 j ds')) (by rw [h1, Option.bind_some, h2, Option.bind_some, h3, Option.bind_some, if_pos h4]) h)
/-! try -/
def GoneQ (i : Nat) (P : Out → Prop) (o : Out) : Prop := ∃ o', goneO i o = .ok o' ∧ P o'
theorem y_try {tbl : Nat → Option Bool} {f g : FS} (k : YS f e N R K C fun x e1 => (tbl x.k = some true ∧ noX e1 = true ∧ i < e1.length ∧ YS g (e1.set i (some (.ex x))) (fun e => noX (e.set i none) = true ∧ N (e.set i none)) (fun t e => noX (e.set i none) = true ∧ offT i t = true ∧ R t (e.set i none)) (fun e => noX (e.set i none) = true ∧ K (e.set i none)) (fun e => noX (e.set i none) = true ∧ C (e.set i none)) fun _ _ => False) ∨ tbl x.k = some false ∧ X x e1) : YS (fTry tbl i f g) e N R K C X := by
  unfold YS fTry
  unfold YS at k
  cases hf : f e with
  | stuck => rw [hf] at k; exact k.un.elim
  | ok o => rw [hf] at k; exact ⟨k.un⟩
  | exc x e1 =>
    rw [hf] at k
    dsimp only
    rcases k.un with ⟨h1, h2, h3, k⟩ | ⟨h1, k⟩
    · rw [h1]
      dsimp only
      rw [if_pos (by rw [h2, decide_eq_true h3]; rfl)]
      cases hg : g (e1.set i (some (.ex x))) with
      | stuck => rw [hg] at k; exact k.un.elim
      | exc _ _ => rw [hg] at k; exact k.un.elim
      | ok o =>
        rw [hg] at k
        have k := k.un
        dsimp only
        cases o with
        | nx e => obtain ⟨a, b⟩ := k; show Wq (if _ then _ else _) _ _; rw [if_pos a]; exact ⟨b⟩
        | bk e => obtain ⟨a, b⟩ := k; show Wq (if _ then _ else _) _ _; rw [if_pos a]; exact ⟨b⟩
        | ct e => obtain ⟨a, b⟩ := k; show Wq (if _ then _ else _) _ _; rw [if_pos a]; exact ⟨b⟩
        | rt t e => obtain ⟨a, c, b⟩ := k; show Wq (if _ then _ else _) _ _; rw [if_pos (by rw [a, c]; rfl)]; exact ⟨b⟩
    · rw [h1]
      exact ⟨k⟩
theorem y_tryO {tbl : Nat → Option Bool} {f g : FS} (k : YS f e N R K C fun x e1 => (tbl x.k = some true ∧ YS g e1 N R K C fun _ _ => False) ∨ tbl x.k = some false ∧ X x e1) : YS (fTryO tbl f g) e N R K C X := by
  unfold YS fTryO
  unfold YS at k
  cases hf : f e with
  | stuck => rw [hf] at k; exact k.un.elim
  | ok o => rw [hf] at k; exact ⟨k.un⟩
  | exc x e1 =>
    rw [hf] at k
    dsimp only
    rcases k.un with ⟨h1, k⟩ | ⟨h1, k⟩
    · rw [h1]
      dsimp only
      cases hg : g e1 with
      | stuck => rw [hg] at k; exact k.un.elim
      | exc _ _ => rw [hg] at k; exact k.un.elim
      | ok o => rw [hg] at k; exact ⟨k.un⟩
    · rw [h1]
      exact ⟨k⟩
theorem y_xf {ns : List Str} {k : Nat} {f : Str} {x : XV} {Q : T → DEnv → Prop} (h : e[i]? = some (some (.ex x))) (h1 : x.k = k) (h2 : (ns.zip x.ds).lookup f = some d) (q : Q (.vl d) e) : YE (fXf ns k i f) e Q X := by
  unfold YE fXf
  rw [h]
  dsimp only
  rw [if_pos h1, h2]
  exact ⟨q⟩
/-! loops -/
def FrQ (fg : D → DEnv → Option DEnv) (fb : FS) (ds : List D) (e : DEnv) (N : DEnv → Prop) (R : T → DEnv → Prop) (X : XQ) : Prop := Wq (loopF fg fb ds e) (OutQ N R (fun _ => False) fun _ => False) X
theorem y_for {fi : FI} {fg : D → DEnv → Option DEnv} {fb : FS} (k : YI fi e (fun ds e1 => FrQ fg fb ds e1 N R X) X) : YS (fFor fi fg fb) e N R K C X :=
  Wq.bnd (k.im fun r h => Wq.im h fun o h => by cases o <;> first | exact h | exact h.elim)
theorem frq_nil {fg : D → DEnv → Option DEnv} {fb : FS} (k : N e) : FrQ fg fb [] e N R X := ⟨k⟩
theorem frq_cons {fg : D → DEnv → Option DEnv} {fb : FS} {ds : List D} (k : GQ fg d e fun e1 => YS fb e1 (fun e2 => FrQ fg fb ds e2 N R X) R N (fun e2 => FrQ fg fb ds e2 N R X) X) : FrQ fg fb (d :: ds) e N R X := by
  obtain ⟨e1, h1, k⟩ := k
  unfold FrQ
  rw [ev_loopF1]
  refine Wq.bnd (Wq.sm h1 (Wq.bnd (Wq.im k fun o h => ?_)))
  cases o <;> first | exact h | exact ⟨h⟩
/-- by an invariant over the items -/
theorem frq_inv {α : Type} {fg : D → DEnv → Option DEnv} {fb : FS} (f : α → D) (I : Nat → DEnv → Prop) : ∀ (l : List α) (k : Nat) {e : DEnv}, I k e →
    (∀ (i : Nat) (a : α) (e : DEnv), l[i]? = some a → I (k + i) e → GQ fg (f a) e fun e1 => YS fb e1 (I (k + i + 1)) R N (I (k + i + 1)) X) → (∀ e, I (k + l.length) e → N e) → FrQ fg fb (l.map f) e N R X
  | [], k, e, h, _, fin => frq_nil (fin e h)
  | a :: l, k, e, h, st, fin => by
    have h0 := st 0 a e rfl h
    have step : ∀ e2, I (k + 1) e2 → FrQ fg fb (l.map f) e2 N R X := fun e2 h2 => by
      refine frq_inv f I l (k + 1) h2 (fun i b e hb hi => ?_) fun e he => fin e (by rw [List.length_cons]; rw [show k + (l.length + 1) = k + 1 + l.length by omega]; exact he)
      have := st (i + 1) b e (by simpa using hb) (by rw [show k + (i + 1) = k + 1 + i by omega]; exact hi)
      rw [show k + (i + 1) + 1 = k + 1 + i + 1 by omega] at this
      exact this
    rw [List.map_cons]
    obtain ⟨e1, h1, h2⟩ := h0
    refine frq_cons ⟨e1, h1, ?_⟩
    refine Wq.im h2 fun o h => ?_
    cases o with
    | nx e2 => exact step e2 h
    | ct e2 => exact step e2 h
    | rt t e2 => exact h
    | bk e2 => exact h
theorem frq_map {α : Type} {fg : D → DEnv → Option DEnv} {fb : FS} (f : α → D) (I : Nat → DEnv → Prop) (l : List α) {e : DEnv} (h : I 0 e)
    (st : ∀ (i : Nat) (a : α) (e : DEnv), l[i]? = some a → I i e → GQ fg (f a) e fun e1 => YS fb e1 (I (i + 1)) R N (I (i + 1)) X) (fin : ∀ e, I l.length e → N e) : FrQ fg fb (l.map f) e N R X :=
  frq_inv f I l 0 h (fun i a e h1 h2 => by rw [Nat.zero_add] at h2 ⊢; exact st i a e h1 h2) fun e h => fin e (by rw [Nat.zero_add] at h; exact h)
/-- .. of a range -/
theorem frq_rng {fg : D → DEnv → Option DEnv} {fb : FS} (I : Nat → DEnv → Prop) (lo : Int) (n : Nat) {e : DEnv} (h : I 0 e)
    (st : ∀ (i : Nat) (e : DEnv), i < n → I i e → GQ fg (.int (lo + i)) e fun e1 => YS fb e1 (I (i + 1)) R N (I (i + 1)) X) (fin : ∀ e, I n e → N e) : FrQ fg fb (irange lo n) e N R X := by
  unfold irange
  refine frq_map _ I _ h (fun i a e h1 h2 => ?_) fun e h => fin e (by rw [List.length_range] at h; exact h)
  have hi : i < n := by have := get_lt h1; rwa [List.length_range] at this
  rw [List.getElem?_range hi] at h1
  cases h1
  exact st i e hi h2
/-- .. of any list -/
theorem frq_lst {fg : D → DEnv → Option DEnv} {fb : FS} (I : Nat → DEnv → Prop) (l : List D) {e : DEnv} (h : I 0 e)
    (st : ∀ (i : Nat) (a : D) (e : DEnv), l[i]? = some a → I i e → GQ fg a e fun e1 => YS fb e1 (I (i + 1)) R N (I (i + 1)) X) (fin : ∀ e, I l.length e → N e) : FrQ fg fb l e N R X := by
  have := frq_map (fg := fg) (fb := fb) (N := N) (R := R) (X := X) id I l h st fin
  rwa [List.map_id] at this
theorem y_iL {f : FE} {Q : List D → DEnv → Prop} (k : YE f e (fun t e1 => Es t e1 fun d e2 => ∃ ds, (d = .lst ds ∨ d = .rol ds) ∧ Q ds e2) X) : YI (fiL f) e Q X :=
  Wq.bnd (k.im fun r ⟨q, h1, ds, h2, h⟩ => Wq.sm (a := (ds, q.2)) (by rw [h1, Option.bind_some]; rcases h2 with h2 | h2 <;> rw [h2]) h)
theorem y_iT {f : FE} {Q : List D → DEnv → Prop} (k : YE f e (fun t e1 => Es t e1 fun d e2 => ∃ ds, d = .tup ds ∧ Q ds e2) X) : YI (fiT f) e Q X :=
  Wq.bnd (k.im fun r ⟨q, h1, ds, h2, h⟩ => Wq.sm (a := (ds, q.2)) (by rw [h1, Option.bind_some, h2]) h)
theorem y_iR1 {fr : FA} {Q : List D → DEnv → Prop} (k : YA fr e (fun ts e1 => Ls ts e1 fun ds => ∃ n : Int, ds = [.int n] ∧ ok62 n = true ∧ Q (irange 0 n.toNat) e1) X) : YI (fiR1 fr) e Q X :=
  Wq.bnd (k.im fun r ⟨ds, h1, n, h2, h3, h⟩ => Wq.sm (a := (irange 0 n.toNat, r.2)) (by rw [h1, Option.bind_some, h2]; exact if_pos h3) h)
theorem y_iR2 {fr : FA} {Q : List D → DEnv → Prop} (k : YA fr e (fun ts e1 => Ls ts e1 fun ds => ∃ i j : Int, ds = [.int i, .int j] ∧ ok62 i = true ∧ ok62 j = true ∧ Q (irange i (j - i).toNat) e1) X) : YI (fiR2 fr) e Q X :=
  Wq.bnd (k.im fun r ⟨ds, h1, i, j, h2, h3, h4, h⟩ => Wq.sm (a := (irange i (j - i).toNat, r.2)) (by rw [h1, Option.bind_some, h2]; exact if_pos (by rw [h3, h4]; rfl)) h)
theorem y_iR3 {fr : FA} {Q : List D → DEnv → Prop} (k : YA fr e (fun ts e1 => Ls ts e1 fun ds => ∃ i j c : Int, ds = [.int i, .int j, .int c] ∧ rg3ok i j c = true ∧ Q (irange3 i c (rg3n i j c)) e1) X) : YI (fiR3 fr) e Q X :=
  Wq.bnd (k.im fun r ⟨ds, h1, i, j, c, h2, h3, h⟩ => Wq.sm (a := (irange3 i c (rg3n i j c), r.2)) (by rw [h1, Option.bind_some, h2]; exact if_pos h3) h)
theorem y_iZip {fr : FA} {Q : List D → DEnv → Prop} (k : YA fr e (fun ts e1 => EsA ts e1 fun ds e2 => ∃ xs ys, (ds = [.lst xs, .lst ys] ∨ ds = [.tup xs, .tup ys]) ∧ Q (izip xs ys) e2) X) : YI (fiZip fr) e Q X :=
  Wq.bnd (k.im fun r ⟨q, h1, xs, ys, h2, h⟩ => Wq.sm (a := (izip xs ys, q.2)) (by rw [h1, Option.bind_some]; rcases h2 with h2 | h2 <;> rw [h2]) h)
/-- while, by an invariant over what is left of the fuel -/
theorem y_while {fc : FT} {fb : FS} (I : Nat → DEnv → Prop) (st : ∀ (n : Nat) (e : DEnv), I (n + 1) e → YT fc e (fun b e1 => IfQ b (YS fb e1 (I n) R N (I n) X) (N e1)) X) (nz : ∀ e, ¬ I 0 e) : ∀ (n : Nat) {e : DEnv}, I n e → YS (loopW fc fb n) e N R K C X
  | 0, e, h => (nz e h).elim
  | n + 1, e, h => by
    unfold YS loopW
    refine Wq.bnd ((st n e h).im fun r h => ifq_wp ⟨fun hb => ?_, fun hb => ?_⟩)
    · refine Wq.bnd (Wq.im (h.1 hb) fun o h => ?_)
      cases o with
      | nx e2 => exact (y_while I st nz n h).im fun o h => by cases o <;> exact h
      | ct e2 => exact (y_while I st nz n h).im fun o h => by cases o <;> exact h
      | bk e2 => exact ⟨h⟩
      | rt t e2 => exact ⟨h⟩
    · exact ⟨h.2 hb⟩
/-! comprehensions -/
/-- one item: its target, its tests, its element -/
def LcQ (fg : D → DEnv → Option DEnv) (ft : FT) (fe : FE) (vs : List Nat) (e : DEnv) (d : D) (o : Option D) : Prop :=
  GQ fg d e fun e1 => YT ft e1 (fun b e2 => IfQ b (YE fe e2 (fun t e3 => Es t e3 fun a e4 => noOw e4 = true ∧ wipeE e4 vs = e ∧ o = some a) fun _ _ => False) (noOw e2 = true ∧ wipeE e2 vs = e ∧ o = none)) fun _ _ => False
theorem loopC_of {α : Type} {fg : D → DEnv → Option DEnv} {ft : FT} {fe : FE} {vs : List Nat} (f : α → D) (g : α → Option D) (no : noOw e = true) : ∀ (l : List α) (acc : List D), (∀ a ∈ l, LcQ fg ft fe vs e (f a) (g a)) → acc.length + l.length ≤ lim → loopC fg ft fe vs (l.map f) acc e = some (acc ++ l.filterMap g, e)
  | [], acc, _, _ => by simp
  | a :: l, acc, h, hl => by
    rw [List.length_cons] at hl
    obtain ⟨e1, h1, h2⟩ := h a List.mem_cons_self
    have rest := fun b hb => h b (List.mem_cons_of_mem _ hb)
    rw [List.map_cons, ev_loopC1, if_pos no, h1, Option.bind_some]
    unfold YT at h2
    cases ht : ft e1 with
    | stuck => rw [ht] at h2; exact h2.un.elim
    | exc _ _ => rw [ht] at h2; exact h2.un.elim
    | ok r =>
      rw [ht] at h2
      have h2 := h2.un
      obtain ⟨b, e2⟩ := r
      cases b with
      | true =>
        have h3 := h2.1 rfl
        unfold YE at h3
        dsimp only at h3 ⊢
        cases hf : fe e2 with
        | stuck => rw [hf] at h3; exact h3.un.elim
        | exc _ _ => rw [hf] at h3; exact h3.un.elim
        | ok r =>
          rw [hf] at h3
          have h3 := h3.un
          obtain ⟨t, e3⟩ := r
          obtain ⟨q, h4, h5, h6, h7⟩ := h3
          dsimp only at h4 h5 h6 h7 ⊢
          rw [h4, Option.bind_some, h5, decide_eq_true (show acc.length < lim by omega), Bool.and_self, if_pos rfl, h6]
          have := loopC_of (fg := fg) (ft := ft) (fe := fe) f g no l (acc ++ [q.1]) rest (by rw [List.length_append, List.length_singleton]; omega)
          rw [this, List.filterMap_cons_some h7, List.append_assoc, List.singleton_append]
      | false =>
        obtain ⟨h5, h6, h7⟩ := h2.2 rfl
        dsimp only at h5 h6 ⊢
        rw [if_pos h5, h6, loopC_of (fg := fg) (ft := ft) (fe := fe) f g no l acc rest (by omega), List.filterMap_cons_none h7]
def LsQ (fg : D → DEnv → Option DEnv) (ft : FT) (fe : FE) (vs : List Nat) (ds : List D) (e : DEnv) (Q : List D → Prop) : Prop :=
  ∃ e', wipeE (lendE e) vs = e' ∧ clearAt e vs = true ∧ backE e e' = e ∧ ∃ out, loopC fg ft fe vs ds [] e' = some (out, e') ∧ Q out
theorem y_lc {fi : FI} {fg : D → DEnv → Option DEnv} {ft : FT} {fe : FE} {vs : List Nat} {Q : T → DEnv → Prop} (k : YI fi e (fun ds e1 => LsQ fg ft fe vs ds e1 fun out => Q (.nw (.lst out)) e1) X) : YE (fLc fi fg ft fe vs) e Q X :=
  Wq.bnd (k.im fun r ⟨e', h1, h2, h3, out, h4, h⟩ => Wq.sm (a := (T.nw (D.lst out), r.2)) (by rw [if_pos h2, h1, h4]; show some (T.nw (D.lst out), backE r.2 e') = _; rw [h3]) h)
theorem lsq_map {α : Type} {fg : D → DEnv → Option DEnv} {ft : FT} {fe : FE} {vs : List Nat} {Q : List D → Prop} (f : α → D) (g : α → Option D) (l : List α) {e e' : DEnv} (hw : wipeE (lendE e) vs = e') (hc : clearAt e vs = true) (hb : backE e e' = e) (no : noOw e' = true) (hl : l.length ≤ lim)
    (st : ∀ a ∈ l, LcQ fg ft fe vs e' (f a) (g a)) (k : Q (l.filterMap g)) : LsQ fg ft fe vs (l.map f) e Q :=
  ⟨e', hw, hc, hb, _, loopC_of f g no l [] st (by rw [List.length_nil, Nat.zero_add]; exact hl), by rw [List.nil_append]; exact k⟩
/-! functions -/
def RetQ (bs : List B) (t : T) (e : DEnv) (Q : D → Bool → List B → Prop) : Prop := ∃ r, fnRet bs t e = some r ∧ Q r.1 r.2.1 r.2.2
theorem y_fn {n : Nat} {b : FS} {bs : List B} {Q : D → Bool → List B → Prop} {X : XV → Prop} (h : EnvOf n bs e) (k : YS b e (fun e => RetQ bs (.vl .non) e Q) (fun t e => RetQ bs t e Q) (fun _ => False) (fun _ => False) fun x _ => X x) : YF (fFn n b) bs Q X := by
  unfold YF fFn
  rw [h.eq]
  refine Wq.bnd (Wq.im k fun o h => ?_)
  cases o with
  | nx e => obtain ⟨r, h1, h2⟩ := h; exact Wq.sm h1 h2
  | rt t e => obtain ⟨r, h1, h2⟩ := h; exact Wq.sm h1 h2
  | bk e => exact h.elim
  | ct e => exact h.elim
inductive OutB : List B → DEnv → List B → Prop
  | z {e : DEnv} : OutB [] e []
  | s {d : D} {bs qs : List B} {x : Option B} {e : DEnv} : OutB bs e qs → OutB (.sh d :: bs) (x :: e) (.sh d :: qs)
  | b {d d' : D} {bs qs : List B} {e : DEnv} : OutB bs e qs → OutB (.br d :: bs) (some (.br d') :: e) (.br d' :: qs)
theorem OutB.eq {bs qs : List B} {e : DEnv} (h : OutB bs e qs) : outB bs e = some qs := by
  induction h with
  | z => rfl
  | s h ih => rw [ev_outB1, ih]; rfl
  | b h ih => rw [ev_outB2, ih]; rfl
theorem ret_vl {bs qs : List B} {Q : D → Bool → List B → Prop} (h : OutB bs e qs) (k : Q d false qs) : RetQ bs (.vl d) e Q := ⟨(d, false, qs), by rw [ev_fnRet1, h.eq]; rfl, k⟩
theorem ret_nw {bs qs : List B} {Q : D → Bool → List B → Prop} (h : OutB bs e qs) (k : Q d true qs) : RetQ bs (.nw d) e Q := ⟨(d, true, qs), by rw [ev_fnRet2, h.eq]; rfl, k⟩
theorem ret_sh {bs qs : List B} {Q : D → Bool → List B → Prop} (hs : e[i]? = some (some (.sh d))) (h : OutB bs e qs) (k : Q d false qs) : RetQ bs (.sl i) e Q := ⟨(d, false, qs), by rw [ev_fnRet3, h.eq, hs]; rfl, k⟩
theorem ret_ow {bs qs : List B} {Q : D → Bool → List B → Prop} (hs : e[i]? = some (some (.ow d))) (h : OutB bs e qs) (k : Q d true qs) : RetQ bs (.sl i) e Q := ⟨(d, true, qs), by rw [ev_fnRet3, h.eq, hs]; rfl, k⟩
theorem yf_eq {m : Fn} {bs qs : List B} {d : D} {nw : Bool} (h : YF m bs (fun d' nw' qs' => d' = d ∧ nw' = nw ∧ qs' = qs) fun _ => False) : m bs = .ok (d, nw, qs) := by
  unfold YF at h
  have h := h.un
  cases hm : m bs with
  | stuck => rw [hm] at h; exact h.elim
  | exc _ _ => rw [hm] at h; exact h.elim
  | ok r => rw [hm] at h; obtain ⟨h1, h2, h3⟩ := h; obtain ⟨a, b, c⟩ := r; cases h1; cases h2; cases h3; rfl
theorem yf_x {m : Fn} {bs : List B} {x : XV} (h : YF m bs (fun _ _ _ => False) fun y => y = x) : ∃ e, m bs = .exc x e := by
  unfold YF at h
  have h := h.un
  cases hm : m bs with
  | stuck => rw [hm] at h; exact h.elim
  | exc y e => rw [hm] at h; cases h; exact ⟨e, rfl⟩
  | ok r => rw [hm] at h; exact h.elim
theorem yf_ex {m : Fn} {bs qs : List B} {nw : Bool} {P : D → Prop} (h : YF m bs (fun d' nw' qs' => P d' ∧ nw' = nw ∧ qs' = qs) fun _ => False) : ∃ d, m bs = .ok (d, nw, qs) ∧ P d := by
  unfold YF at h
  have h := h.un
  cases hm : m bs with
  | stuck => rw [hm] at h; exact h.elim
  | exc _ _ => rw [hm] at h; exact h.elim
  | ok r => rw [hm] at h; obtain ⟨h1, h2, h3⟩ := h; obtain ⟨a, b, c⟩ := r; cases h2; cases h3; exact ⟨a, rfl, h1⟩
/-! calls that are lent a tape -/
def TapeFn (m : Fn) (args : List B) (nw : Bool) (P : D → Prop) : Prop := ∀ c s : Int, TpOk c s → ∃ d c' s', m (.br (TP c s) :: args) = .ok (d, nw, .br (TP c' s') :: args) ∧ TpOk c' s' ∧ P d
theorem putAll_set {d d0 : D} {e' : DEnv} (h : SetAt e i (some (.ow d)) e') : ∀ (k : Nat), e[i]? = some (some (.ow d0)) → putAll [(k + i, d)] k e = e' := by
  generalize hb : some (B.ow d) = b at h
  induction h with
  | @z a b l =>
    intro k he
    subst hb
    simp at he
    subst he
    have rest : ∀ (l : DEnv) (q : Nat), k < q → putAll [(k, d)] q l = l := fun l => by
      induction l with
      | nil => intro q _; rfl
      | cons x l ih =>
        intro q hq
        have : (q == k) = false := by simp; omega
        rw [ev_putAll1, List.lookup_cons, this, ih (q + 1) (by omega)]
        rfl
    rw [Nat.add_zero, ev_putAll1, List.lookup_cons, show (k == k) = true by simp, rest l (k + 1) (by omega)]
    rfl
  | @s a b l l' i h ih =>
    intro k he
    have he' : l[i]? = some (some (.ow d0)) := by simpa using he
    have : (k == k + (i + 1)) = false := by simp
    rw [ev_putAll1, List.lookup_cons, this, show k + (i + 1) = k + 1 + i by omega, ih hb (k + 1) he']
    rfl
theorem putAll_setB {d d0 : D} {e' : DEnv} (h : SetAt e i (some (.br d)) e') : ∀ (k : Nat), e[i]? = some (some (.br d0)) → putAll [(k + i, d)] k e = e' := by
  generalize hb : some (B.br d) = b at h
  induction h with
  | @z a b l =>
    intro k he
    subst hb
    simp at he
    subst he
    have rest : ∀ (l : DEnv) (q : Nat), k < q → putAll [(k, d)] q l = l := fun l => by
      induction l with
      | nil => intro q _; rfl
      | cons x l ih =>
        intro q hq
        have : (q == k) = false := by simp; omega
        rw [ev_putAll1, List.lookup_cons, this, ih (q + 1) (by omega)]
        rfl
    rw [Nat.add_zero, ev_putAll1, List.lookup_cons, show (k == k) = true by simp, rest l (k + 1) (by omega)]
    rfl
  | @s a b l l' i h ih =>
    intro k he
    have he' : l[i]? = some (some (.br d0)) := by simpa using he
    have : (k == k + (i + 1)) = false := by simp
    rw [ev_putAll1, List.lookup_cons, this, show k + (i + 1) = k + 1 + i by omega, ih hb (k + 1) he']
    rfl
theorem nodup_sl : ∀ {us : List T}, allVl us = true → nodupT (.sl i :: us) = true := fun {us} h => by
  have h2 : us.any (isSl i) = false := by
    induction us with
    | nil => rfl
    | cons t us ih =>
      cases t with
      | vl d => rw [List.any_cons, ih h]; rfl
      | sl _ => cases h
      | nw _ => cases h
  rw [ev_nodup2, h2, nodup_vl h]
  rfl
theorem upds_sl {us : List T} {bs : List B} (h : allVl us = true) : upds (.sl i :: us) (.br d :: bs) = [(i, d)] := by
  rw [ev_upds1, upds_vl h]
/-- one object lent, the others shared: the callee's equation -/
theorem cq_lo {dds : List D} {m : Fn} {args : List B} {nw : Bool} {us : List T} {Q : T → DEnv → Prop} {d0 d1 : D} (hm : m (.br d0 :: args) = .ok (d, nw, .br d1 :: args)) (he : e[i]? = some (some (.ow d0))) (hv : allVl us = true) (hb : vlBs us ++ dds.map .sh = args) (hs : SetAt e i (some (.ow d1)) e1) (k : Q (tokOf nw d) e1) : CQ dds m (.sl i :: us) e Q X := by
  refine ⟨.br d0 :: vlBs us, ?_, nodup_sl hv, ?_⟩
  · rw [ev_argBs1, ev_argB2, he]
    dsimp only
    rw [argBs_vl hv]
    rfl
  · rw [List.cons_append, hb]
    unfold YF
    rw [hm]
    exact ⟨by show sameB (.br d0 :: args) (.br d1 :: args) = true; simp [sameB, isBr], by rw [upds_sl hv, ← Nat.zero_add i, putAll_set hs 0 he]; exact k⟩
theorem cq_lb {dds : List D} {m : Fn} {args : List B} {nw : Bool} {us : List T} {Q : T → DEnv → Prop} {d0 d1 : D} (hm : m (.br d0 :: args) = .ok (d, nw, .br d1 :: args)) (he : e[i]? = some (some (.br d0))) (hv : allVl us = true) (hb : vlBs us ++ dds.map .sh = args) (hs : SetAt e i (some (.br d1)) e1) (k : Q (tokOf nw d) e1) : CQ dds m (.sl i :: us) e Q X := by
  refine ⟨.br d0 :: vlBs us, ?_, nodup_sl hv, ?_⟩
  · rw [ev_argBs1, ev_argB2, he]
    dsimp only
    rw [argBs_vl hv]
    rfl
  · rw [List.cons_append, hb]
    unfold YF
    rw [hm]
    exact ⟨by show sameB (.br d0 :: args) (.br d1 :: args) = true; simp [sameB, isBr], by rw [upds_sl hv, ← Nat.zero_add i, putAll_setB hs 0 he]; exact k⟩
theorem cq_tape {dds : List D} {m : Fn} {args : List B} {nw : Bool} {P : D → Prop} {us : List T} {Q : T → DEnv → Prop} {c s : Int} {e1 : D → DEnv} (S : TapeFn m args nw P) (he : e[i]? = some (some (.ow (TP c s)))) (tp : TpOk c s) (hv : allVl us = true) (hb : vlBs us ++ dds.map .sh = args) (hs : ∀ d, SetAt e i (some (.ow d)) (e1 d))
    (k : ∀ d c' s', TpOk c' s' → P d → Q (tokOf nw d) (e1 (TP c' s'))) : CQ dds m (.sl i :: us) e Q X := by
  obtain ⟨d, c', s', h1, h2, h3⟩ := S c s tp
  exact cq_lo h1 he hv hb (hs _) (k d c' s' h2 h3)
theorem cq_tapeB {dds : List D} {m : Fn} {args : List B} {nw : Bool} {P : D → Prop} {us : List T} {Q : T → DEnv → Prop} {c s : Int} {e1 : D → DEnv} (S : TapeFn m args nw P) (he : e[i]? = some (some (.br (TP c s)))) (tp : TpOk c s) (hv : allVl us = true) (hb : vlBs us ++ dds.map .sh = args) (hs : ∀ d, SetAt e i (some (.br d)) (e1 d))
    (k : ∀ d c' s', TpOk c' s' → P d → Q (tokOf nw d) (e1 (TP c' s'))) : CQ dds m (.sl i :: us) e Q X := by
  obtain ⟨d, c', s', h1, h2, h3⟩ := S c s tp
  exact cq_lb h1 he hv hb (hs _) (k d c' s' h2 h3)
/-- _law_pick(tape, n) -/
theorem cq_pick {m : Fn} {Q : T → DEnv → Prop} {c s n : Int} {e1 : D → DEnv} (P : Picks m) (he : e[i]? = some (some (.ow (TP c s)))) (tp : TpOk c s) (hn : 0 < n) (hn2 : n ≤ 10 ^ 100) (hs : ∀ d, SetAt e i (some (.ow d)) (e1 d))
    (k : ∀ (r : Nat) c' s', (r : Int) < n → TpOk c' s' → Q (.vl (.int r)) (e1 (TP c' s'))) : CQ [] m [.sl i, .vl (.int n)] e Q X := by
  obtain ⟨r, c', s', h1, h2⟩ := P c s n tp hn hn2
  obtain ⟨r, rfl⟩ := Int.eq_ofNat_of_zero_le h2.lo
  exact cq_lo h1 he rfl rfl (hs _) (k r c' s' h2.hi h2.tp)
theorem cq_pickB {m : Fn} {Q : T → DEnv → Prop} {c s n : Int} {e1 : D → DEnv} (P : Picks m) (he : e[i]? = some (some (.br (TP c s)))) (tp : TpOk c s) (hn : 0 < n) (hn2 : n ≤ 10 ^ 100) (hs : ∀ d, SetAt e i (some (.br d)) (e1 d))
    (k : ∀ (r : Nat) c' s', (r : Int) < n → TpOk c' s' → Q (.vl (.int r)) (e1 (TP c' s'))) : CQ [] m [.sl i, .vl (.int n)] e Q X := by
  obtain ⟨r, c', s', h1, h2⟩ := P c s n tp hn hn2
  obtain ⟨r, rfl⟩ := Int.eq_ofNat_of_zero_le h2.lo
  exact cq_lb h1 he rfl rfl (hs _) (k r c' s' h2.hi h2.tp)
theorem cq_pickI {m : Fn} {Q : T → DEnv → Prop} {c s n : Int} {e1 : D → DEnv} (P : Picks m) (he : e[i]? = some (some (.ow (TP c s)))) (tp : TpOk c s) (hn : 0 < n) (hn2 : n ≤ 10 ^ 100) (hs : ∀ d, SetAt e i (some (.ow d)) (e1 d))
    (k : ∀ r c' s' : Int, 0 ≤ r → r < n → TpOk c' s' → Q (.vl (.int r)) (e1 (TP c' s'))) : CQ [] m [.sl i, .vl (.int n)] e Q X := by
  obtain ⟨r, c', s', h1, h2⟩ := P c s n tp hn hn2
  exact cq_lo h1 he rfl rfl (hs _) (k r c' s' h2.lo h2.hi h2.tp)
theorem cq_pickBI {m : Fn} {Q : T → DEnv → Prop} {c s n : Int} {e1 : D → DEnv} (P : Picks m) (he : e[i]? = some (some (.br (TP c s)))) (tp : TpOk c s) (hn : 0 < n) (hn2 : n ≤ 10 ^ 100) (hs : ∀ d, SetAt e i (some (.br d)) (e1 d))
    (k : ∀ r c' s' : Int, 0 ≤ r → r < n → TpOk c' s' → Q (.vl (.int r)) (e1 (TP c' s'))) : CQ [] m [.sl i, .vl (.int n)] e Q X := by
  obtain ⟨r, c', s', h1, h2⟩ := P c s n tp hn hn2
  exact cq_lb h1 he rfl rfl (hs _) (k r c' s' h2.lo h2.hi h2.tp)
theorem pickN {m : Fn} {c s n : Int} (P : Picks m) (tp : TpOk c s) (hn : 0 < n) (hn2 : n ≤ 10 ^ 100) : ∃ (r : Nat) (c' s' : Int), m [.br (TP c s), .sh (.int n)] = .ok (.int r, false, [.br (TP c' s'), .sh (.int n)]) ∧ (r : Int) < n ∧ TpOk c' s' := by
  obtain ⟨r, c', s', h1, h2⟩ := P c s n tp hn hn2
  obtain ⟨r, rfl⟩ := Int.eq_ofNat_of_zero_le h2.lo
  exact ⟨r, c', s', h1, h2.hi, h2.tp⟩
theorem tapeFn_of {m : Fn} {args : List B} {nw : Bool} {P : D → Prop} (h : ∀ c s, TpOk c s → YF m (.br (TP c s) :: args) (fun d nw' qs => nw' = nw ∧ ∃ c' s', qs = .br (TP c' s') :: args ∧ TpOk c' s' ∧ P d) fun _ => False) : TapeFn m args nw P := fun c s tp => by
  have h := h c s tp
  unfold YF at h
  have h := h.un
  cases hm : m (.br (TP c s) :: args) with
  | stuck => rw [hm] at h; exact h.elim
  | exc _ _ => rw [hm] at h; exact h.elim
  | ok r =>
    rw [hm] at h
    obtain ⟨h1, c', s', h2, h3, h4⟩ := h
    obtain ⟨a, b, q⟩ := r
    cases h1; cases h2
    exact ⟨a, c', s', rfl, h3, h4⟩
theorem ok62_of {i : Int} (h : -4611686018427387904 ≤ i) (h2 : i < 4611686018427387904) : ok62 i = true := by
  unfold ok62
  rw [decide_eq_true (by omega), decide_eq_true (by omega)]
  rfl
theorem ok24_of {i j : Int} (h : -1000000000 ≤ i) (h2 : i ≤ 1000000000) (h3 : -1000000000 ≤ j) (h4 : j ≤ 1000000000) (h5 : j - i ≤ 1000000) : ok24 i j = true := by
  unfold ok24
  rw [ok62_of (by omega) (by omega), ok62_of (by omega) (by omega), decide_eq_true (by omega)]
  rfl
theorem powOk_of {i j : Int} (h : 0 ≤ j) (h2 : j ≤ 1000000) (h3 : -1000000000 ≤ i) (h4 : i ≤ 1000000000) : powOk i j = true := by
  rw [ev_powOk, decide_eq_true h, decide_eq_true h2, decide_eq_true (by omega)]
  rfl
theorem shrOk_of {i j : Int} (h : 0 ≤ j) : shrOk i j = true := decide_eq_true h
/-! what kind of question: for the driver -/
theorem hd_eq {α : Type} {a b : α} (h : a = b) : a = b := h
theorem hd_nle {a b : Nat} (h : a ≤ b) : a ≤ b := h
theorem hd_nlt {a b : Nat} (h : a < b) : a < b := h
theorem hd_ile {a b : Int} (h : a ≤ b) : a ≤ b := h
theorem hd_ilt {a b : Int} (h : a < b) : a < b := h
theorem hd_YS {f : FS} (k : YS f e N R K C X) : YS f e N R K C X := k
theorem hd_YE {f : FE} {Q : T → DEnv → Prop} (k : YE f e Q X) : YE f e Q X := k
theorem hd_YT {f : FT} {Q : Bool → DEnv → Prop} (k : YT f e Q X) : YT f e Q X := k
theorem hd_YA {f : FA} {Q : List T → DEnv → Prop} (k : YA f e Q X) : YA f e Q X := k
theorem hd_YI {f : FI} {Q : List D → DEnv → Prop} (k : YI f e Q X) : YI f e Q X := k
theorem hd_YO {f : FO} {Q : Option Int → DEnv → Prop} (k : YO f e Q X) : YO f e Q X := k
theorem hd_Lk {Q : D → Prop} (k : Lk t e Q) : Lk t e Q := k
theorem hd_Lz {Q : D → Prop} (k : Lz t e Q) : Lz t e Q := k
theorem hd_Ls {Q : List D → Prop} (k : Ls ts e Q) : Ls ts e Q := k
theorem hd_Es {Q : D → DEnv → Prop} (k : Es t e Q) : Es t e Q := k
theorem hd_EsA {Q : List D → DEnv → Prop} (k : EsA ts e Q) : EsA ts e Q := k
theorem hd_OpQ {o : Option RV} (k : OpQ o Q) : OpQ o Q := k
theorem hd_StQ {Q : DEnv → Prop} (k : StQ i t e Q) : StQ i t e Q := k
theorem hd_GQ {fg : D → DEnv → Option DEnv} {Q : DEnv → Prop} (k : GQ fg d e Q) : GQ fg d e Q := k
theorem hd_GsQ {fg : List D → DEnv → Option DEnv} {ds : List D} {Q : DEnv → Prop} (k : GsQ fg ds e Q) : GsQ fg ds e Q := k
theorem hd_IfQ {b : Bool} {A B : Prop} (k : IfQ b A B) : IfQ b A B := k
theorem hd_EnQ {ms : List Bool} {Q : List T → DEnv → Prop} (k : EnQ ms ts e Q) : EnQ ms ts e Q := k
theorem hd_RetQ {bs : List B} {Q : D → Bool → List B → Prop} (k : RetQ bs t e Q) : RetQ bs t e Q := k
theorem hd_RtQ {Q : List D → Prop} (k : RtQ e j Q) : RtQ e j Q := k
theorem hd_PlQ {ds : List D} (k : PlQ e j ds N) : PlQ e j ds N := k
theorem hd_RiQ {k : Nat} {Q : List D → Prop} (h : RiQ k e j Q) : RiQ k e j Q := h
theorem hd_PiQ {k : Nat} {ds : List D} (h : PiQ k e j ds N) : PiQ k e j ds N := h
end
end DL

/-! DL, part ra: ranges of natural numbers. -/
namespace DL
open PySem L2 Evl
abbrev nD (c : Nat) : D := .int (c : Int)
theorem irange_nat (lo n : Nat) : irange (lo : Int) n = ((List.range n).map (lo + ·)).map nD := by
  unfold irange
  rw [List.map_map]
  apply List.map_congr_left
  intro i _
  simp
theorem irange_zero (n : Nat) : irange 0 n = (List.range n).map nD := ev_rangeN n
def stepsN (a w c : Nat) : List Nat := (List.range (if a < w then (w - a - 1) / c + 1 else 0)).map fun i => a + i * c
theorem rg3n_nat {a w c : Nat} (hc : 0 < c) : rg3n a w c = if a < w then (w - a - 1) / c + 1 else 0 := by
  unfold rg3n Builtin.Range.rangeSize
  rw [if_pos (by omega)]
  by_cases h : a < w
  · rw [if_pos (by omega), if_pos h]
    have : ((w : Int) - a - 1) = ((w - a - 1 : Nat) : Int) := by omega
    rw [this, ← Int.natCast_ediv]
    generalize (w - a - 1) / c = q
    omega
  · rw [if_neg (by omega), if_neg h]; rfl
theorem irange3_nat {a w c : Nat} (hc : 0 < c) : irange3 (a : Int) (c : Int) (rg3n a w c) = (stepsN a w c).map nD := by
  unfold irange3 stepsN
  rw [rg3n_nat hc, List.map_map]
  apply List.map_congr_left
  intro i _
  simp
theorem mem_steps {a w c x : Nat} (hc : 0 < c) : x ∈ stepsN a w c ↔ a ≤ x ∧ x < w ∧ (x - a) % c = 0 := by
  unfold stepsN
  rw [List.mem_map]
  constructor
  · rintro ⟨i, hi, rfl⟩
    rw [List.mem_range] at hi
    split at hi
    · rename_i h
      have h1 : i ≤ (w - a - 1) / c := by omega
      have h2 : i * c ≤ w - a - 1 := (Nat.le_div_iff_mul_le hc).mp h1
      refine ⟨by omega, by omega, ?_⟩
      rw [Nat.add_sub_cancel_left]
      exact Nat.mul_mod_left i c
    · omega
  · rintro ⟨h1, h2, h3⟩
    have e := Nat.div_add_mod (x - a) c
    have e2 : c * ((x - a) / c) = (x - a) / c * c := Nat.mul_comm _ _
    refine ⟨(x - a) / c, ?_, by omega⟩
    rw [List.mem_range, if_pos (by omega)]
    have : (x - a) / c ≤ (w - a - 1) / c := Nat.div_le_div_right (by omega)
    omega
theorem rg3ok_nat {a w c : Nat} (hc : 0 < c) (hc2 : c < 1000000) (ha : a ≤ 1000000) (hw : w ≤ 1000000) : rg3ok a w c = true := by
  unfold rg3ok
  have h1 : Builtin.Range.rangeSize (a : Int) w c = (rg3n a w c : Int) := by
    unfold rg3n
    rw [Int.toNat_of_nonneg]
    unfold Builtin.Range.rangeSize
    rw [if_pos (by omega)]
    split
    · have : 0 ≤ ((w : Int) - a - 1) / c := Int.ediv_nonneg (by omega) (by omega)
      omega
    · omega
  have h2 : (rg3n a w c) ≤ 1000000 := by
    rw [rg3n_nat hc]
    split
    · have : (w - a - 1) / c ≤ w - a - 1 := Nat.div_le_self _ _
      omega
    · omega
  rw [decide_eq_true (show (c : Int) ≠ 0 by omega), decide_eq_true (show (c : Int).natAbs < 1073741824 by omega), decide_eq_true h1]
  have h3 : Builtin.Range.small (a : Int) w c = true := by
    unfold Builtin.Range.small
    rw [h1]
    have hp : ((rg3n a w c : Nat) : Int) * c ≤ 1000000 * 1000000 := Int.mul_le_mul (by omega) (by omega) (by omega) (by omega)
    have hp0 : 0 ≤ ((rg3n a w c : Nat) : Int) * c := Int.mul_nonneg (by omega) (by omega)
    have hq : (((rg3n a w c : Nat) : Int) - 1) * c = ((rg3n a w c : Nat) : Int) * c - c := by rw [Int.sub_mul, Int.one_mul]
    unfold Builtin.Range.rangeFitsLong
    simp
    rw [if_pos hc]
    omega
  rw [h3]
  rfl
theorem stepsN_len {a w c : Nat} (hc : 0 < c) : (stepsN a w c).length ≤ w := by
  unfold stepsN
  rw [List.length_map, List.length_range]
  split
  · have : (w - a - 1) / c ≤ w - a - 1 := Nat.div_le_self _ _
    omega
  · omega
end DL

/-! The text by places, what each def does on data. Printed by emit.py. -/
namespace K32
open PySem L2 Evl DL
def top (i : Nat) : Stmt := PySem.Challenge.pw_boardbits_k32_masks.main.body.getD i (.Pass ⟨0, 0, 0, 0⟩)
abbrev s0 : Stmt := inClass (top 2) 0
abbrev N0 : List Str := ["self", "width", "height"]
abbrev s1 : Stmt := top 4
abbrev N1 : List Str := ["value", "least"]
abbrev s2 : Stmt := top 5
abbrev N2 : List Str := ["width", "height"]
abbrev s3 : Stmt := top 6
abbrev N3 : List Str := ["pattern", "width", "many"]
abbrev s4 : Stmt := top 7
abbrev N4 : List Str := ["columns", "found", "column"]
abbrev s5 : Stmt := top 8
abbrev N5 : List Str := ["mask", "width", "height", "kind", "numbers", "every", "many", "found", "row"]
abbrev s6 : Stmt := top 10
abbrev N6 : List Str := ["_law_script", "_law_k", "_law_cell"]
abbrev s7 : Stmt := top 11
abbrev N7 : List Str := ["_law_tape_here", "_law_many", "_law_mixed", "_law_digit"]
abbrev s8 : Stmt := top 12
abbrev N8 : List Str := ["_law_mask", "_law_row", "_law_column", "_law_wide", "_law_high", "_law_kind"]
abbrev s9 : Stmt := top 13
abbrev N9 : List Str := ["_law_mask", "_law_wide", "_law_high", "_law_found", "_law_row", "_law_column"]
abbrev s10 : Stmt := top 14
abbrev N10 : List Str := ["_law_tape_here", "_law_choice", "_law_period"]
abbrev s11 : Stmt := top 15
abbrev N11 : List Str := ["_law_bits", "_law_number_here", "_law_bit"]
abbrev s12 : Stmt := top 16
abbrev N12 : List Str := ["_law_mask", "_law_wide", "_law_high", "e"]
abbrev s13 : Stmt := top 17
abbrev N13 : List Str := ["_law_script", "_law_k", "_law_tape_here", "_law_mask", "_law_wide", "_law_high", "_law_due", "_law_less"]
def fnT (k : Nat) : List Str := fieldsOf [[], ["width", "height"]] k
abbrev ct (K : PySem.W.Frag) (cl : Nat → Addr) : Ct := ⟨K, cl, fnT, none⟩
/-! is_integer -/
abbrev b1 : FS := (fRet (fAndV (fIsi (isiP (lkI []) (lkT [("int", true)])) (fVar 0)) (fAndV (fNotV (fIsi (isiP (lkI []) (lkT [("int", false)])) (fVar 0))) (fOp2 opGe (fVar 0) (fVar 1)))))
def m1 : Fn := fFn 2 b1
/-! check_size -/
abbrev b2 : FS := (fIfS (fOr (fNot (fB (fCall [false, false] [] m1 (fA1 (fVar 0) (fA1 (fC (.int 1)) fA0))))) (fNot (fB (fCall [false, false] [] m1 (fA1 (fVar 1) (fA1 (fC (.int 1)) fA0))))))
  (fRaise 1 2 (fA1 (fVar 0) (fA1 (fVar 1) fA0))) fNext)
def m2 : Fn := fFn 2 b2
/-! repeated -/
abbrev b3 : FS := (fRet (fOp2 opMul (fVar 0) (fOp2 opDiv (fOp2 opSub (fOp2 opShl (fC (.int 1)) (fOp2 opMul (fVar 1) (fVar 2))) (fC (.int 1))) (fOp2 opSub (fOp2 opShl (fC (.int 1)) (fVar 1)) (fC (.int 1))))))
def m3 : Fn := fFn 3 b3
/-! row_of -/
def b4_0 : FS := (fAug 1 opOr (fOp2 opShl (fC (.int 1)) (fVar 2)))
abbrev b4 : FS := (fSeq (fSet 1 (fC (.int 0)))
  (fSeq (fFor (fiL (fVar 0)) (fgName 2) b4_0)
  (fRet (fVar 1))))
def m4 : Fn := fFn 3 b4
/-! mask_board -/
def b5_0 : FS := (fAug 7 opOr (fOp2 opShl (fVar 5) (fOp2 opMul (fVar 1) (fVar 8))))
def b5_1 : FS := (fAug 7 opOr (fOp2 opShl (fCall [false] [] m4 (fA1 (fLR3 (fA1 (fOp2 opMod (fVar 8) (fC (.int 2))) (fA1 (fVar 1) (fA1 (fC (.int 2)) fA0)))) fA0)) (fOp2 opMul (fVar 1) (fVar 8))))
abbrev q5_0 : FS := (fDrop (fCall [false, false] [] m2 (fA1 (fVar 1) (fA1 (fVar 2) fA0))))
abbrev q5_1 : FS := (fStar 2 1 (fgCons (fgName 3) (fgCons (fgName 4) fgNil)) (fVar 0))
abbrev q5_2 : FS := (fSet 5 (fOp2 opSub (fOp2 opShl (fC (.int 1)) (fVar 1)) (fC (.int 1))))
abbrev q5_3 : FS := (fIfS (fB (fOp2 opEq (fVar 3) (fC (.str "left"))))
  (fRet (fCall [false, false, false] [] m3 (fA1 (fCall [false] [] m4 (fA1 (fLR1 (fCB opMin2 (fA1 (fOp2 opIx (fVar 4) (fC (.int 0))) (fA1 (fVar 1) fA0)))) fA0)) (fA1 (fVar 1) (fA1 (fVar 2) fA0))))) fNext)
abbrev q5_4 : FS := (fIfS (fB (fOp2 opEq (fVar 3) (fC (.str "right"))))
  (fRet (fCall [false, false, false] [] m3 (fA1 (fCall [false] [] m4 (fA1 (fLR2 (fCB opMax2 (fA1 (fC (.int 0)) (fA1 (fOp2 opSub (fVar 1) (fOp2 opIx (fVar 4) (fC (.int 0)))) fA0))) (fVar 1)) fA0)) (fA1 (fVar 1) (fA1 (fVar 2) fA0))))) fNext)
abbrev q5_5 : FS := (fIfS (fB (fOp2 opEq (fVar 3) (fC (.str "columns"))))
  (fRet (fCall [false, false, false] [] m3 (fA1 (fCall [false] [] m4 (fA1 (fLR3 (fA1 (fOp2 opIx (fVar 4) (fC (.int 0))) (fA1 (fVar 1) (fA1 (fOp2 opIx (fVar 4) (fC (.int 1))) fA0)))) fA0)) (fA1 (fVar 1) (fA1 (fVar 2) fA0))))) fNext)
abbrev q5_6 : FS := (fIfS (fB (fOp2 opEq (fVar 3) (fC (.str "top"))))
  (fRet (fCall [false, false, false] [] m3 (fA1 (fVar 5) (fA1 (fVar 1) (fA1 (fCB opMin2 (fA1 (fOp2 opIx (fVar 4) (fC (.int 0))) (fA1 (fVar 2) fA0))) fA0))))) fNext)
abbrev q5_7 : FS := (fIfS (fB (fOp2 opEq (fVar 3) (fC (.str "bottom"))))
  (fSeq (fSet 6 (fCB opMin2 (fA1 (fOp2 opIx (fVar 4) (fC (.int 0))) (fA1 (fVar 2) fA0))))
  (fRet (fOp2 opShl (fCall [false, false, false] [] m3 (fA1 (fVar 5) (fA1 (fVar 1) (fA1 (fVar 6) fA0)))) (fOp2 opMul (fVar 1) (fOp2 opSub (fVar 2) (fVar 6)))))) fNext)
abbrev q5_8 : FS := (fIfS (fB (fOp2 opEq (fVar 3) (fC (.str "rows"))))
  (fSeq (fSet 7 (fC (.int 0)))
  (fSeq (fFor (fiR3 (fA1 (fOp2 opIx (fVar 4) (fC (.int 0))) (fA1 (fVar 2) (fA1 (fOp2 opIx (fVar 4) (fC (.int 1))) fA0)))) (fgName 8) b5_0)
  (fRet (fVar 7)))) fNext)
abbrev q5_9 : FS := (fIfS (fB (fOp2 opEq (fVar 3) (fC (.str "light"))))
  (fSeq (fSet 7 (fC (.int 0)))
  (fSeq (fFor (fiR1 (fA1 (fVar 2) fA0)) (fgName 8) b5_1)
  (fRet (fVar 7)))) fNext)
abbrev q5_10 : FS := (fRet (fCall [false, false, false] [] m3 (fA1 (fVar 5) (fA1 (fVar 1) (fA1 (fVar 2) fA0)))))
abbrev k5_10 : FS := q5_10
abbrev k5_9 : FS := fSeq q5_9 k5_10
abbrev k5_8 : FS := fSeq q5_8 k5_9
abbrev k5_7 : FS := fSeq q5_7 k5_8
abbrev k5_6 : FS := fSeq q5_6 k5_7
abbrev k5_5 : FS := fSeq q5_5 k5_6
abbrev k5_4 : FS := fSeq q5_4 k5_5
abbrev k5_3 : FS := fSeq q5_3 k5_4
abbrev k5_2 : FS := fSeq q5_2 k5_3
abbrev k5_1 : FS := fSeq q5_1 k5_2
abbrev k5_0 : FS := fSeq q5_0 k5_1
abbrev b5 : FS := k5_0
def m5 : Fn := fFn 9 b5
/-! _law_tape -/
abbrev b6 : FS := (fSeq (fSet 2 (fIf (fB (fOp2 opLt (fVar 1) (fCB opLen (fA1 (fVar 0) fA0)))) (fOp2 opIx (fVar 0) (fVar 1)) (fC (.int 0))))
  (fRet (fLst (fA1 (fCB opAbs (fA1 (fVar 2) fA0)) (fA1 (fOp2 opAdd (fOp2 opMul (fC (.int 7919)) (fVar 1)) (fC (.int 104729))) fA0)))))
def m6 : Fn := fFn 3 b6
/-! _law_pick -/
abbrev q7_0 : FS := (fIfS (fB (fOp2 opGe (fOp2 opIx (fVar 0) (fC (.int 0))) (fOp2 opPow (fC (.int 10)) (fC (.int 18)))))
  (fSeq (fSet 3 (fOp2 opMod (fCB opInt (fA1 (fOp2 opIx (fVar 0) (fC (.int 0))) fA0)) (fVar 1)))
  (fSeq (fSetIx 0 (fC (.int 0)) (fOp2 opDiv (fOp2 opIx (fVar 0) (fC (.int 0))) (fVar 1)))
  (fRet (fVar 3)))) fNext)
abbrev q7_1 : FS := (fSetIx 0 (fC (.int 1)) (fOp2 opMod (fCB opInt (fA1 (fOp2 opAdd (fOp2 opAdd (fOp2 opMul (fOp2 opIx (fVar 0) (fC (.int 1))) (fC (.int 48271))) (fOp2 opMul (fOp2 opIx (fVar 0) (fC (.int 0))) (fC (.int 69621)))) (fC (.int 11))) fA0)) (fC (.int 2147483647))))
abbrev q7_2 : FS := (fSet 2 (fOp2 opMod (fCB opInt (fA1 (fOp2 opAdd (fOp2 opAdd (fOp2 opMul (fOp2 opIx (fVar 0) (fC (.int 1))) (fOp2 opIx (fVar 0) (fC (.int 1)))) (fOp2 opMul (fOp2 opIx (fVar 0) (fC (.int 1))) (fC (.int 40692)))) (fC (.int 7))) fA0)) (fC (.int 2147483399))))
abbrev q7_3 : FS := (fRet (fOp2 opMod (fCB opInt (fA1 (fOp2 opDiv (fVar 2) (fC (.int 64))) fA0)) (fVar 1)))
abbrev k7_3 : FS := q7_3
abbrev k7_2 : FS := fSeq q7_2 k7_3
abbrev k7_1 : FS := fSeq q7_1 k7_2
abbrev k7_0 : FS := fSeq q7_0 k7_1
abbrev b7 : FS := k7_0
def m7 : Fn := fFn 4 b7
/-! _law_in_mask -/
abbrev q8_0 : FS := (fSet 5 (fOp2 opIx (fVar 0) (fC (.int 0))))
abbrev q8_1 : FS := (fIfS (fB (fOp2 opEq (fVar 5) (fC (.str "left"))))
  (fRet (fOp2 opLt (fVar 2) (fOp2 opIx (fVar 0) (fC (.int 1))))) fNext)
abbrev q8_2 : FS := (fIfS (fB (fOp2 opEq (fVar 5) (fC (.str "right"))))
  (fRet (fOp2 opGe (fVar 2) (fOp2 opSub (fVar 3) (fOp2 opIx (fVar 0) (fC (.int 1)))))) fNext)
abbrev q8_3 : FS := (fIfS (fB (fOp2 opEq (fVar 5) (fC (.str "top"))))
  (fRet (fOp2 opLt (fVar 1) (fOp2 opIx (fVar 0) (fC (.int 1))))) fNext)
abbrev q8_4 : FS := (fIfS (fB (fOp2 opEq (fVar 5) (fC (.str "bottom"))))
  (fRet (fOp2 opGe (fVar 1) (fOp2 opSub (fVar 4) (fOp2 opIx (fVar 0) (fC (.int 1)))))) fNext)
abbrev q8_5 : FS := (fIfS (fB (fOp2 opEq (fVar 5) (fC (.str "columns"))))
  (fRet (fOp2 opEq (fOp2 opMod (fCB opInt (fA1 (fVar 2) fA0)) (fOp2 opIx (fVar 0) (fC (.int 2)))) (fOp2 opIx (fVar 0) (fC (.int 1))))) fNext)
abbrev q8_6 : FS := (fIfS (fB (fOp2 opEq (fVar 5) (fC (.str "rows"))))
  (fRet (fOp2 opEq (fOp2 opMod (fCB opInt (fA1 (fVar 1) fA0)) (fOp2 opIx (fVar 0) (fC (.int 2)))) (fOp2 opIx (fVar 0) (fC (.int 1))))) fNext)
abbrev q8_7 : FS := (fRet (fOrV (fOp2 opEq (fVar 5) (fC (.str "full"))) (fOp2 opEq (fOp2 opMod (fCB opInt (fA1 (fOp2 opAdd (fVar 1) (fVar 2)) fA0)) (fC (.int 2))) (fC (.int 0)))))
abbrev k8_7 : FS := q8_7
abbrev k8_6 : FS := fSeq q8_6 k8_7
abbrev k8_5 : FS := fSeq q8_5 k8_6
abbrev k8_4 : FS := fSeq q8_4 k8_5
abbrev k8_3 : FS := fSeq q8_3 k8_4
abbrev k8_2 : FS := fSeq q8_2 k8_3
abbrev k8_1 : FS := fSeq q8_1 k8_2
abbrev k8_0 : FS := fSeq q8_0 k8_1
abbrev b8 : FS := k8_0
def m8 : Fn := fFn 6 b8
/-! _law_mask_bits -/
def c9_0 : FE := (fCall [false, false, false, false, false] [] m8 (fA1 (fVar 0) (fA1 (fVar 4) (fA1 (fVar 5) (fA1 (fVar 1) (fA1 (fVar 2) fA0))))))
def b9_1 : FS := (fSet 3 (fOp2 opAdd (fVar 3) (fLc (fiR1 (fA1 (fVar 1) fA0)) (fgName 5) fYes c9_0 [5])))
abbrev b9 : FS := (fSeq (fSet 3 (fLst fA0))
  (fSeq (fFor (fiR1 (fA1 (fVar 2) fA0)) (fgName 4) b9_1)
  (fRet (fVar 3))))
def m9 : Fn := fFn 6 b9
/-! _law_any_mask -/
abbrev q10_0 : FS := (fSet 1 (fCall [true, false] [] m7 (fA1 (fVar 0) (fA1 (fC (.int 8)) fA0))))
abbrev q10_1 : FS := (fIfS (fB (fOp2 opLt (fVar 1) (fC (.int 4))))
  (fRet (fTup (fA1 (fOp2 opIx (fLst (fA1 (fC (.str "left")) (fA1 (fC (.str "right")) (fA1 (fC (.str "top")) (fA1 (fC (.str "bottom")) fA0))))) (fVar 1)) (fA1 (fOp2 opAdd (fC (.int 1)) (fCall [true, false] [] m7 (fA1 (fVar 0) (fA1 (fC (.int 6)) fA0)))) fA0)))) fNext)
abbrev q10_2 : FS := (fIfS (fB (fOp2 opLt (fVar 1) (fC (.int 6))))
  (fSeq (fSet 2 (fOp2 opAdd (fC (.int 2)) (fCall [true, false] [] m7 (fA1 (fVar 0) (fA1 (fC (.int 2)) fA0)))))
  (fRet (fTup (fA1 (fOp2 opIx (fLst (fA1 (fC (.str "columns")) (fA1 (fC (.str "rows")) fA0))) (fOp2 opSub (fVar 1) (fC (.int 4)))) (fA1 (fCall [true, false] [] m7 (fA1 (fVar 0) (fA1 (fVar 2) fA0))) (fA1 (fVar 2) fA0)))))) fNext)
abbrev q10_3 : FS := (fRet (fIf (fB (fOp2 opEq (fVar 1) (fC (.int 6)))) (fTup (fA1 (fC (.str "full")) fA0)) (fTup (fA1 (fC (.str "light")) fA0))))
abbrev k10_3 : FS := q10_3
abbrev k10_2 : FS := fSeq q10_2 k10_3
abbrev k10_1 : FS := fSeq q10_1 k10_2
abbrev k10_0 : FS := fSeq q10_0 k10_1
abbrev b10 : FS := k10_0
def m10 : Fn := fFn 3 b10
/-! _law_number -/
def b11_0 : FS := (fSet 1 (fOp2 opAdd (fOp2 opMul (fC (.int 2)) (fVar 1)) (fCB opInt (fA1 (fVar 2) fA0))))
abbrev b11 : FS := (fSeq (fSet 1 (fC (.int 0)))
  (fSeq (fFor (fiL (fOp1 opRev (fVar 0))) (fgName 2) b11_0)
  (fRet (fVar 1))))
def m11 : Fn := fFn 3 b11
/-! _law_refused -/
abbrev b12 : FS := (fSeq (fTry (lkI [(0, false), (1, true)]) 3 (fDrop (fCall [false, false, false] [] m5 (fA1 (fVar 0) (fA1 (fVar 1) (fA1 (fVar 2) fA0))))) (fRet (fOp2 opEq (fLst (fA1 (fXf ["width", "height"] 1 3 "width") (fA1 (fXf ["width", "height"] 1 3 "height") fA0))) (fLst (fA1 (fVar 1) (fA1 (fVar 2) fA0))))))
  (fRet (fC (.bl false))))
def m12 : Fn := fFn 4 b12
/-! law -/
def b13_0 : FS := (fSeq (fSet 2 (fCall [false, false] [] m6 (fA1 (fVar 0) (fA1 (fVar 1) fA0))))
  (fSeq (fSet 3 (fCall [true] [] m10 (fA1 (fVar 2) fA0)))
  (fSeq (fSet 4 (fOp2 opAdd (fC (.int 1)) (fCall [true, false] [] m7 (fA1 (fVar 2) (fA1 (fC (.int 9)) fA0)))))
  (fSeq (fSet 5 (fOp2 opAdd (fC (.int 1)) (fCall [true, false] [] m7 (fA1 (fVar 2) (fA1 (fC (.int 9)) fA0)))))
  (fSeq (fIfS (fB (fOp2 opEq (fCall [true, false] [] m7 (fA1 (fVar 2) (fA1 (fC (.int 8)) fA0))) (fC (.int 1))))
  (fSeq (fSet 4 (fOp2 opAdd (fC (.int 1)) (fCall [true, false] [] m7 (fA1 (fVar 2) (fA1 (fC (.int 60)) fA0)))))
  (fSet 5 (fOp2 opAdd (fC (.int 1)) (fCall [true, false] [] m7 (fA1 (fVar 2) (fA1 (fC (.int 30)) fA0)))))) fNext)
  (fSeq (fSet 6 (fCall [false] [] m11 (fA1 (fCall [false, false, false] [] m9 (fA1 (fVar 3) (fA1 (fVar 4) (fA1 (fVar 5) fA0)))) fA0)))
  (fSeq (fIfS (fOr (fB (fOp2 opNe (fCall [false, false, false] [] m5 (fA1 (fVar 3) (fA1 (fVar 4) (fA1 (fVar 5) fA0)))) (fVar 6))) (fB (fOp2 opNe (fCall [false, false, false] [] m5 (fA1 (fVar 3) (fA1 (fVar 4) (fA1 (fVar 5) fA0)))) (fVar 6))))
  (fRet (fC (.bl false))) fNext)
  (fSeq (fSet 7 (fOp2 opSub (fC (.int 0)) (fCall [true, false] [] m7 (fA1 (fVar 2) (fA1 (fC (.int 3)) fA0)))))
  (fIfS (fOr (fNot (fB (fCall [false, false, false] [] m12 (fA1 (fVar 3) (fA1 (fVar 7) (fA1 (fVar 5) fA0)))))) (fNot (fB (fCall [false, false, false] [] m12 (fA1 (fVar 3) (fA1 (fVar 4) (fA1 (fVar 7) fA0)))))))
  (fRet (fC (.bl false))) fNext)))))))))
abbrev b13 : FS := (fSeq (fFor (fiR1 (fA1 (fCB opMax2 (fA1 (fC (.int 1)) (fA1 (fCB opMin2 (fA1 (fC (.int 4)) (fA1 (fCB opLen (fA1 (fVar 0) fA0)) fA0))) fA0))) fA0)) (fgName 1) b13_0)
  (fRet (fC (.bl true))))
def m13 : Fn := fFn 8 b13
end K32

/-! What the defs do, in plain terms. -/
namespace K32
open PySem DL
theorem pick_hi {c s n : Int} (hn : 0 < n) (hn2 : n ≤ 10 ^ 100) (hc : 1000000000000000000 ≤ c) : m7 [.br (TP c s), .sh (.int n)] = .ok (.int (c.fmod n), false, [.br (TP (c.fdiv n) s), .sh (.int n)]) := by
  have h1 := modOk_of (i := c) hn
  have h2 := divOk_of (i := c) hn (by omega)
  simp [m7, b7, k7_0, k7_1, k7_2, k7_3, q7_0, q7_1, q7_2, q7_3, opInt, h1, h2, hc]
theorem pick_lo {c s n : Int} (h : TpOk c s) (hn : 0 < n) (hc : c < 1000000000000000000) : ∃ r s' : Int, m7 [.br (TP c s), .sh (.int n)] = .ok (.int (r.fmod n), false, [.br (TP c s'), .sh (.int n)]) ∧ 0 ≤ s' ∧ s' < 10 ^ 12 := by
  obtain ⟨c0, s0, s1⟩ := h
  have hc' : ¬ (1000000000000000000 ≤ c) := by omega
  have e1 := mulOk_of (i := s) (j := 48271) (by omega) (by omega)
  have e2 := mulOk_of (i := c) (j := 69621) (by omega) (by omega)
  have e3 := fun i => modOk_of (i := i) (j := 2147483647) (by omega)
  have e4 := fun i => modOk_of (i := i) (j := 2147483399) (by omega)
  have e5 := fun i => modOk_of (i := i) hn
  have e6 := fun i => divOk_of (i := i) (j := 64) (by omega) (by omega)
  have b0 : 0 ≤ (s * 48271 + c * 69621 + 11).fmod 2147483647 := Int.fmod_nonneg_of_pos _ (by omega)
  have b1 : (s * 48271 + c * 69621 + 11).fmod 2147483647 < 2147483647 := Int.fmod_lt_of_pos _ (by omega)
  generalize hx : (s * 48271 + c * 69621 + 11).fmod 2147483647 = x at b0 b1
  have e7 := mulOk_of (i := x) (j := x) (by omega) (by omega)
  have e8 := mulOk_of (i := x) (j := 40692) (by omega) (by omega)
  refine ⟨((x * x + x * 40692 + 7).fmod 2147483399).fdiv 64, x, ?_, b0, by omega⟩
  simp [m7, b7, k7_0, k7_1, k7_2, k7_3, q7_0, q7_1, q7_2, q7_3, opInt, hc', e1, e2, e3, e4, e5, e6, e7, e8, hx]
theorem picks : Picks m7 := fun c s n h hn hn2 => by
  by_cases hc : 1000000000000000000 ≤ c
  · refine ⟨_, _, _, pick_hi hn hn2 hc, Int.fmod_nonneg_of_pos _ hn, Int.fmod_lt_of_pos _ hn, Int.fdiv_nonneg h.c0 (by omega), h.s0, h.s1⟩
  · obtain ⟨r, s', e, h1, h2⟩ := pick_lo h hn (by omega)
    exact ⟨_, _, _, e, Int.fmod_nonneg_of_pos _ hn, Int.fmod_lt_of_pos _ hn, h.c0, h1, h2⟩
/-- a cell's tape -/
theorem tape_ok (ns : List Int) (k : Int) (hk : 0 ≤ k) (hk2 : k ≤ 10 ^ 6) : ∃ c s, m6 [.sh (.rol (ns.map .int)), .sh (.int k)] = .ok (TP c s, true, [.sh (.rol (ns.map .int)), .sh (.int k)]) ∧ TpOk c s := by
  have e1 := mulOk_of (i := 7919) (j := k) (by omega) (by omega)
  by_cases h : k < (ns.length : Int)
  · have hn : k.toNat < ns.length := by omega
    refine ⟨if ns[k.toNat] < 0 then -ns[k.toNat] else ns[k.toNat], 7919 * k + 104729, ?_, ?_, by omega, by omega⟩
    · simp [m6, b6, h, hk, e1, List.getElem?_eq_getElem hn]
    · split <;> omega
  · refine ⟨0, 7919 * k + 104729, ?_, by omega, by omega, by omega⟩
    simp [m6, b6, h, hk, e1]
/-! ### sizes -/
theorem integer_ok (v least : Int) : m1 [.sh (.int v), .sh (.int least)] = .ok (.bl (decide (least ≤ v)), false, [.sh (.int v), .sh (.int least)]) := rfl
theorem size_ok (w h : Int) (hw : 1 ≤ w) (hh : 1 ≤ h) : m2 [.sh (.int w), .sh (.int h)] = .ok (.non, false, [.sh (.int w), .sh (.int h)]) := by
  simp [m2, b2, integer_ok, hw, hh]
theorem size_bad (w h : Int) (hb : w < 1 ∨ h < 1) : ∃ e, m2 [.sh (.int w), .sh (.int h)] = .exc ⟨1, [.int w, .int h]⟩ e := by
  by_cases hw : 1 ≤ w
  · have hh : ¬ 1 ≤ h := by omega
    exact ⟨_, by simp [m2, b2, integer_ok, hw, hh]; rfl⟩
  · exact ⟨_, by simp [m2, b2, integer_ok, hw]; rfl⟩
theorem mulOk_pow {i j : Int} {a b : Nat} (h1 : i.natAbs < 2 ^ a) (h2 : j.natAbs < 2 ^ b) (ha : 0 < a) (hb : 0 < b) (h : a + b ≤ 1000000) : mulOk i j = true := by
  have a' := log2_of_lt h1 ha
  have b' := log2_of_lt h2 hb
  unfold mulOk
  exact decide_eq_true (by omega)
theorem one_shl {j : Int} (h0 : 0 ≤ j) (h1 : j ≤ 10 ^ 6) : shlOk 1 j = true := by
  have e : Builtin.Int.intBits 1 = 1 := by decide +kernel
  unfold shlOk
  rw [e, decide_eq_true h0, decide_eq_true (by omega)]
  rfl
theorem repeated_ok (p w m : Nat) (hw : 0 < w) (hw2 : w ≤ 100) (hm : m ≤ 100) (hp : p < 2 ^ w) : m3 [.sh (.int p), .sh (.int w), .sh (.int m)] = .ok (.int (rep p w m : Nat), false, [.sh (.int p), .sh (.int w), .sh (.int m)]) := by
  have h10 : w * m ≤ 100 * 100 := Nat.mul_le_mul hw2 hm
  have e1 : mulOk (w : Int) (m : Int) = true := mulOk_of (by omega) (by omega)
  have e2 : shlOk 1 ((w : Int) * (m : Int)) = true := one_shl (by omega) (by omega)
  have e3 : shlOk 1 (w : Int) = true := one_shl (by omega) (by omega)
  have t1 : ((w : Int) * (m : Int)).toNat = w * m := by omega
  have p1 : 1 ≤ 2 ^ (w * m) := Nat.one_le_two_pow
  have p2 : 2 ≤ 2 ^ w := by
    calc 2 = 2 ^ 1 := rfl
      _ ≤ 2 ^ w := Nat.pow_le_pow_right (by decide) hw
  have c1 : (1 : Int) * 2 ^ ((w : Int) * (m : Int)).toNat - 1 = ((2 ^ (w * m) - 1 : Nat) : Int) := by rw [t1]; push_cast [p1]; omega
  have c2 : (1 : Int) * 2 ^ (w : Int).toNat - 1 = ((2 ^ w - 1 : Nat) : Int) := by
    have : 1 ≤ 2 ^ w := by omega
    rw [Int.toNat_natCast]; push_cast [this]; omega
  have b1 : (2 ^ w - 1 : Nat) < 2 ^ w := by omega
  have e4 : divOk ((2 ^ (w * m) - 1 : Nat) : Int) ((2 ^ w - 1 : Nat) : Int) = true := by
    have hlog := log2_of_lt (k := w) (n := 2 ^ w - 1) b1 hw
    unfold divOk
    rw [decide_eq_true (by omega), decide_eq_true (by rw [Int.natAbs_natCast]; omega)]
    rfl
  have c3 : ((2 ^ (w * m) - 1 : Nat) : Int).fdiv ((2 ^ w - 1 : Nat) : Int) = ((rep 1 w m : Nat) : Int) := by
    rw [Int.fdiv_eq_ediv_of_nonneg _ (by omega), ← Int.natCast_ediv, rep_div hw]
  have b3 : rep 1 w m < 2 ^ (w * m) := rep_lt (by omega) m
  have e5 : mulOk (p : Int) ((rep 1 w m : Nat) : Int) = true := mulOk_pow (a := w) (b := w * m + 1) (by rw [Int.natAbs_natCast]; exact hp) (by rw [Int.natAbs_natCast, Nat.pow_succ]; omega) hw (by omega) (by omega)
  have c4 : (p : Int) * ((rep 1 w m : Nat) : Int) = ((rep p w m : Nat) : Int) := by rw [rep_mul p w m]; push_cast; rfl
  simp only [Int.one_mul, Int.toNat_natCast] at c1 c2
  simp [m3, b3, e1, e2, e3, c1, c2, e4, c3, e5, c4]
/-! ### a row's columns -/
def orAll (cols : List Nat) (r : Nat) : Nat := cols.foldl (fun r c => r ||| 2 ^ c) r
theorem or_pow (r c : Nat) : Builtin.bitOr (r : Int) ((2 : Int) ^ c) = ((r ||| 2 ^ c : Nat) : Int) := by
  have e : (2 : Int) ^ c = ((2 ^ c : Nat) : Int) := by push_cast; rfl
  rw [e, L2.bitOr_nn (Int.natCast_nonneg _) (Int.natCast_nonneg _), Int.toNat_natCast, Int.toNat_natCast]
theorem row_step (L : D) (r c : Nat) (hc : c < 1000) : b4_0 [some (.sh L), some (.sh (.int r)), some (.sh (.int c))] = .ok (.nx [some (.sh L), some (.sh (.int (r ||| 2 ^ c : Nat))), some (.sh (.int c))]) := by
  have e : shlOk 1 (c : Int) = true := one_shl (by omega) (by omega)
  simp [b4_0, e, or_pow]
theorem row_loop (L : D) : ∀ (cols : List Nat) (r : Nat) (x : Option B), (∀ c ∈ cols, c < 1000) → ∃ x', loopF (fgName 2) b4_0 (cols.map fun (c : Nat) => D.int c) [some (.sh L), some (.sh (.int r)), x] = .ok (.nx [some (.sh L), some (.sh (.int (orAll cols r : Nat))), x'])
  | [], r, x, _ => ⟨x, rfl⟩
  | c :: cols, r, x, h => by
    obtain ⟨x', e⟩ := row_loop L cols (r ||| 2 ^ c) (some (.sh (.int c))) fun d hd => h d (List.mem_cons_of_mem _ hd)
    refine ⟨x', ?_⟩
    have e1 := row_step L r c (h c List.mem_cons_self)
    rw [List.map_cons, ev_loopF1]
    simp [e1]
    exact e
theorem row_ok (cols : List Nat) (h : ∀ c ∈ cols, c < 1000) : m4 [.sh (.lst (cols.map fun (c : Nat) => D.int c))] = .ok (.int (orAll cols 0 : Nat), false, [.sh (.lst (cols.map fun (c : Nat) => D.int c))]) := by
  obtain ⟨x', e⟩ := row_loop (.lst (cols.map fun (c : Nat) => D.int c)) cols 0 none h
  have e' : loopF (fgName 2) b4_0 (cols.map fun (c : Nat) => D.int c) [some (.sh (.lst (cols.map fun (c : Nat) => D.int c))), some (.sh (.int 0)), none] = _ := e
  simp [m4, b4, e']
theorem or_bit : ∀ (cols : List Nat) (r i : Nat), (orAll cols r).testBit i = (r.testBit i || decide (i ∈ cols))
  | [], r, i => by simp [orAll]
  | c :: cols, r, i => by
    have ih := or_bit cols (r ||| 2 ^ c) i
    show (orAll cols (r ||| 2 ^ c)).testBit i = _
    rw [ih, Nat.testBit_or, Nat.testBit_two_pow]
    by_cases h : c = i <;> simp [h, Bool.or_assoc, eq_comm]
/-! ### masks -/
inductive Mk where
  | left (n : Nat) | right (n : Nat) | top (n : Nat) | bottom (n : Nat) | cols (a p : Nat) | rows (a p : Nat) | full | light
def Mk.d : Mk → D
  | .left n => .tup [.str "left", .int n] | .right n => .tup [.str "right", .int n] | .top n => .tup [.str "top", .int n] | .bottom n => .tup [.str "bottom", .int n]
  | .cols a p => .tup [.str "columns", .int a, .int p] | .rows a p => .tup [.str "rows", .int a, .int p] | .full => .tup [.str "full"] | .light => .tup [.str "light"]
def Mk.Ok : Mk → Prop
  | .left n => 1 ≤ n ∧ n ≤ 6 | .right n => 1 ≤ n ∧ n ≤ 6 | .top n => 1 ≤ n ∧ n ≤ 6 | .bottom n => 1 ≤ n ∧ n ≤ 6
  | .cols a p => a < p ∧ p ≤ 3 | .rows a p => a < p ∧ p ≤ 3 | .full => True | .light => True
def Mk.at (w h r c : Nat) : Mk → Bool
  | .left n => decide (c < n) | .right n => decide (w ≤ c + n) | .top n => decide (r < n) | .bottom n => decide (h ≤ r + n)
  | .cols a p => decide (c % p = a) | .rows a p => decide (r % p = a) | .full => true | .light => decide ((r + c) % 2 = 0)
theorem in_mask (k : Mk) (hk : k.Ok) (w h r c : Nat) : m8 [.sh k.d, .sh (.int r), .sh (.int c), .sh (.int w), .sh (.int h)] = .ok (.bl (k.at w h r c), false, [.sh k.d, .sh (.int r), .sh (.int c), .sh (.int w), .sh (.int h)]) := by
  have fm : ∀ (a b : Nat), ((a : Int)).fmod (b : Int) = ((a % b : Nat) : Int) := fun a b => by
    rw [Int.fmod_eq_emod_of_nonneg _ (by omega)]; omega
  cases k with
  | left n => simp [m8, b8, k8_0, k8_1, q8_0, q8_1, Mk.d, Mk.at]
  | right n =>
    have e : ((w : Int) - n ≤ c) ↔ w ≤ c + n := by omega
    simp [m8, b8, k8_0, k8_1, k8_2, q8_0, q8_1, q8_2, Mk.d, Mk.at, e]
  | top n => simp [m8, b8, k8_0, k8_1, k8_2, k8_3, q8_0, q8_1, q8_2, q8_3, Mk.d, Mk.at]
  | bottom n =>
    have e : ((h : Int) - n ≤ r) ↔ h ≤ r + n := by omega
    simp [m8, b8, k8_0, k8_1, k8_2, k8_3, k8_4, q8_0, q8_1, q8_2, q8_3, q8_4, Mk.d, Mk.at, e]
  | cols a p =>
    have hp : modOk (c : Int) (p : Int) = true := modOk_of (by have := hk.1; omega)
    simp [m8, b8, k8_0, k8_1, k8_2, k8_3, k8_4, k8_5, q8_0, q8_1, q8_2, q8_3, q8_4, q8_5, Mk.d, Mk.at, hp, fm]
    omega
  | rows a p =>
    have hp : modOk (r : Int) (p : Int) = true := modOk_of (by have := hk.1; omega)
    simp [m8, b8, k8_0, k8_1, k8_2, k8_3, k8_4, k8_5, k8_6, q8_0, q8_1, q8_2, q8_3, q8_4, q8_5, q8_6, Mk.d, Mk.at, hp, fm]
    omega
  | full => simp [m8, b8, k8_0, k8_1, k8_2, k8_3, k8_4, k8_5, k8_6, k8_7, q8_0, q8_1, q8_2, q8_3, q8_4, q8_5, q8_6, q8_7, Mk.d, Mk.at]
  | light =>
    have hp : modOk ((r : Int) + (c : Int)) 2 = true := modOk_of (by omega)
    have e : ((r : Int) + (c : Int)).fmod 2 = (((r + c) % 2 : Nat) : Int) := by have := fm (r + c) 2; push_cast at this ⊢; exact this
    simp [m8, b8, k8_0, k8_1, k8_2, k8_3, k8_4, k8_5, k8_6, k8_7, q8_0, q8_1, q8_2, q8_3, q8_4, q8_5, q8_6, q8_7, Mk.d, Mk.at, hp, e]
    omega
def rowB (k : Mk) (w h r : Nat) : List Bool := (List.range w).map fun c => k.at w h r c
def rowsB (k : Mk) (w h n : Nat) : List Bool := (List.range n).flatMap (rowB k w h)
theorem rowsB_len (k : Mk) (w h : Nat) : ∀ n, (rowsB k w h n).length = w * n
  | 0 => by simp [rowsB]
  | n + 1 => by
    have ih := rowsB_len k w h n
    unfold rowsB at ih ⊢
    rw [List.range_succ, List.flatMap_append, List.length_append, ih]
    simp [rowB, Nat.mul_add]
theorem bits_lc (k : Mk) (hk : k.Ok) (w h r : Nat) (acc : List D) (hw : w ≤ 100) :
  loopC (fgName 5) fYes c9_0 [5] ((List.range w).map fun (i : Nat) => D.int (i : Int)) [] [some (.sh k.d), some (.sh (.int w)), some (.sh (.int h)), some (.br (.lst acc)), some (.sh (.int r)), none] = some ((rowB k w h r).map .bl, [some (.sh k.d), some (.sh (.int w)), some (.sh (.int h)), some (.br (.lst acc)), some (.sh (.int r)), none]) := by
    have no : noOw [some (.sh k.d), some (.sh (.int w)), some (.sh (.int h)), some (.br (.lst acc)), some (.sh (.int r)), none] = true := by simp [noOw]
    have hl : ([] : List D).length + ((List.range w).map fun (i : Nat) => D.int (i : Int)).length ≤ lim := by
      rw [List.length_map, List.length_range]
      show 0 + w ≤ 1000000
      omega
    have := loopC_map (fg := fgName 5) (fe := c9_0) (vs := [5]) (e := [some (.sh k.d), some (.sh (.int w)), some (.sh (.int h)), some (.br (.lst acc)), some (.sh (.int r)), none])
      (fun d => match d with | .int i => .bl (k.at w h r i.toNat) | d => d) no ((List.range w).map fun (i : Nat) => D.int (i : Int)) [] (fun d hd => by
        obtain ⟨c, _, rfl⟩ := List.mem_map.mp hd
        have e1 : c9_0 [some (.sh k.d), some (.sh (.int w)), some (.sh (.int h)), some (.br (.lst acc)), some (.sh (.int r)), some (.sh (.int c))] = .ok (.vl (.bl (k.at w h r c)), [some (.sh k.d), some (.sh (.int w)), some (.sh (.int h)), some (.br (.lst acc)), some (.sh (.int r)), some (.sh (.int c))]) := by
          simp [c9_0, in_mask k hk w h r c]
        exact ⟨_, _, _, _, rfl, e1, rfl, by simp [noOw], rfl⟩) hl
    rw [this]
    simp [rowB, List.map_map, Function.comp_def]
theorem rowB_len (k : Mk) (w h r : Nat) : (rowB k w h r).length = w := by simp [rowB]
theorem A1 (k : Mk) (w h r : Nat) (acc : List D) (hw : w ≤ 100) :
    fiR1 (fA1 (fVar 1) fA0) [some (.sh k.d), some (.sh (.int w)), some (.sh (.int h)), some (.ow (.lst acc)), some (.sh (.int r)), none] = .ok ((List.range w).map fun (i : Nat) => D.int (i : Int), [some (.sh k.d), some (.sh (.int w)), some (.sh (.int h)), some (.ow (.lst acc)), some (.sh (.int r)), none]) := by
  have a : fA1 (fVar 1) fA0 [some (.sh k.d), some (.sh (.int w)), some (.sh (.int h)), some (.ow (.lst acc)), some (.sh (.int r)), none] = .ok ([.sl 1], [some (.sh k.d), some (.sh (.int w)), some (.sh (.int h)), some (.ow (.lst acc)), some (.sh (.int r)), none]) := rfl
  have b : lookTs [.sl 1] [some (.sh k.d), some (.sh (.int w)), some (.sh (.int h)), some (.ow (.lst acc)), some (.sh (.int r)), none] = some [.int w] := rfl
  rw [fiR1_ok a b (ok62_n (by omega)), Int.toNat_natCast, ev_rangeN]
theorem bits_step (k : Mk) (hk : k.Ok) (w h r : Nat) (acc : List D) (hw : w ≤ 100) (ha : acc.length ≤ 10000) :
    b9_1 [some (.sh k.d), some (.sh (.int w)), some (.sh (.int h)), some (.ow (.lst acc)), some (.sh (.int r)), none] = .ok (.nx [some (.sh k.d), some (.sh (.int w)), some (.sh (.int h)), some (.ow (.lst (acc ++ (rowB k w h r).map .bl))), some (.sh (.int r)), none]) := by
  have hl : acc.length + ((rowB k w h r).map D.bl).length ≤ lim := by
    rw [List.length_map, rowB_len]
    show acc.length + w ≤ 1000000
    omega
  have e : opAdd (.lst acc) (.lst ((rowB k w h r).map .bl)) = some (.nl (acc ++ (rowB k w h r).map .bl)) := (ev_addL _ _).trans (if_pos hl)
  have f : fLc (fiR1 (fA1 (fVar 1) fA0)) (fgName 5) fYes c9_0 [5] [some (.sh k.d), some (.sh (.int w)), some (.sh (.int h)), some (.ow (.lst acc)), some (.sh (.int r)), none] = .ok (.nw (.lst ((rowB k w h r).map .bl)), [some (.sh k.d), some (.sh (.int w)), some (.sh (.int h)), some (.ow (.lst acc)), some (.sh (.int r)), none]) := by
    have lc := bits_lc k hk w h r acc hw
    unfold fLc
    rw [A1 k w h r acc hw]
    simp
    rw [lc]
    rfl
  have a : fVar 3 [some (.sh k.d), some (.sh (.int w)), some (.sh (.int h)), some (.ow (.lst acc)), some (.sh (.int r)), none] = .ok (.sl 3, [some (.sh k.d), some (.sh (.int w)), some (.sh (.int h)), some (.ow (.lst acc)), some (.sh (.int r)), none]) := rfl
  exact fSet_ok (fOp2_ok a f rfl rfl e) rfl
end K32

namespace K32
open PySem DL
theorem bits_ok (k : Mk) (hk : k.Ok) (w h : Nat) (hw : w ≤ 100) (hh : h ≤ 100) : m9 [.sh k.d, .sh (.int w), .sh (.int h)] = .ok (.lst ((rowsB k w h h).map .bl), true, [.sh k.d, .sh (.int w), .sh (.int h)]) := by
  have lp := loopF_inv (fg := fgName 4) (fb := b9_1) (fun i e => i ≤ h ∧ ∃ x, e = [some (.sh k.d), some (.sh (.int w)), some (.sh (.int h)), some (.ow (.lst ((rowsB k w h i).map .bl))), x, none])
    ((List.range h).map fun (i : Nat) => D.int (i : Int)) 0 [some (.sh k.d), some (.sh (.int w)), some (.sh (.int h)), some (.ow (.lst [])), none, none] ⟨Nat.zero_le _, none, rfl⟩ (fun i d e hd ⟨_, x, he⟩ => by
      subst he
      rw [List.getElem?_map] at hd
      obtain ⟨r, hr, rfl⟩ := omap hd
      have hi : i < h := by
        have := get_lt hr
        rwa [List.length_range] at this
      rw [List.getElem?_range hi] at hr
      cases hr
      rw [Nat.zero_add]
      have hlen : ((rowsB k w h i).map D.bl).length ≤ 10000 := by
        rw [List.length_map, rowsB_len]
        exact Nat.le_trans (Nat.mul_le_mul hw (show i ≤ 100 by omega)) (by decide)
      refine ⟨_, _, rfl, .inl (bits_step k hk w h i _ hw hlen), by omega, some (.sh (.int i)), ?_⟩
      rw [← List.map_append]
      have e : rowsB k w h (i + 1) = rowsB k w h i ++ rowB k w h i := by
        unfold rowsB
        rw [List.range_succ, List.flatMap_append]
        simp
      rw [e])
  obtain ⟨e', h1, _, x, rfl⟩ := lp
  rw [List.length_map, List.length_range, Nat.zero_add] at h1
  have a : fiR1 (fA1 (fVar 2) fA0) [some (.sh k.d), some (.sh (.int w)), some (.sh (.int h)), some (.ow (.lst [])), none, none] = .ok ((List.range h).map fun (i : Nat) => D.int (i : Int), [some (.sh k.d), some (.sh (.int w)), some (.sh (.int h)), some (.ow (.lst [])), none, none]) := by
    have a : fA1 (fVar 2) fA0 [some (.sh k.d), some (.sh (.int w)), some (.sh (.int h)), some (.ow (.lst [])), none, none] = .ok ([.sl 2], [some (.sh k.d), some (.sh (.int w)), some (.sh (.int h)), some (.ow (.lst [])), none, none]) := rfl
    have b : lookTs [.sl 2] [some (.sh k.d), some (.sh (.int w)), some (.sh (.int h)), some (.ow (.lst [])), none, none] = some [.int h] := rfl
    rw [fiR1_ok a b (ok62_n (by omega)), Int.toNat_natCast, ev_rangeN]
  have z : fSet 3 (fLst fA0) (env0 6 [.sh k.d, .sh (.int w), .sh (.int h)]) = .ok (.nx [some (.sh k.d), some (.sh (.int w)), some (.sh (.int h)), some (.ow (.lst [])), none, none]) := by simp
  exact fn_rt (seq_nx z (seq_nx (fFor_ok a h1) rfl)) rfl
end K32

--VC
/-! the driver of the rules; printed by vc.py -/
local macro_rules | `(tactic| trace "vset") => `(tactic| repeat (first | exact DL.SetAt.z | apply DL.SetAt.s))
local macro_rules | `(tactic| trace "venv") => `(tactic| repeat (first | exact DL.EnvOf.z | apply DL.EnvOf.c | apply DL.EnvOf.n))
local macro_rules | `(tactic| trace "vc") => `(tactic| repeat' (first
    | ((with_reducible refine DL.hd_YS ?_); first
      | with_reducible refine DL.y_seq ?_
      | with_reducible refine DL.y_set ?_
      | with_reducible refine DL.y_ret ?_
      | with_reducible refine DL.y_ifS ?_
      | with_reducible refine DL.y_next ?_
      | with_reducible refine DL.y_drop ?_
      | ((with_reducible apply DL.y_aug); (· exact rfl))
      | with_reducible refine DL.y_for ?_
      | with_reducible refine DL.y_asg ?_
      | with_reducible refine DL.y_par ?_
      | with_reducible refine DL.y_setIx ?_
      | with_reducible refine DL.y_putF ?_
      | with_reducible refine DL.y_raise ?_
      | with_reducible refine DL.y_raise0 ?_
      | with_reducible refine DL.y_star2 ?_
      | with_reducible refine DL.y_break ?_
      | with_reducible refine DL.y_cont ?_
      | with_reducible refine DL.y_retN ?_
      | with_reducible refine DL.y_try ?_
      | with_reducible refine DL.y_tryO ?_)
    | ((with_reducible refine DL.hd_YE ?_); first
      | ((with_reducible apply DL.y_var); (· exact rfl))
      | with_reducible refine DL.y_c ?_
      | with_reducible refine DL.y_op2 ?_
      | with_reducible refine DL.y_call ?_
      | with_reducible refine DL.y_cb ?_
      | with_reducible refine DL.y_op1 ?_
      | with_reducible refine DL.y_lst ?_
      | with_reducible refine DL.y_tup ?_
      | with_reducible refine DL.y_fld ?_
      | with_reducible refine DL.y_meth ?_
      | with_reducible refine DL.y_if ?_
      | with_reducible refine DL.y_notV ?_
      | with_reducible refine DL.y_andV ?_
      | with_reducible refine DL.y_orV ?_
      | with_reducible refine DL.y_isi ?_
      | with_reducible refine DL.y_app ?_
      | with_reducible refine DL.y_ext ?_
      | with_reducible refine DL.y_pop ?_
      | with_reducible refine DL.y_lc ?_
      | with_reducible refine DL.y_sl ?_
      | with_reducible refine DL.y_lr1 ?_
      | with_reducible refine DL.y_lr2 ?_
      | with_reducible refine DL.y_lr3 ?_
      | with_reducible refine DL.y_prop ?_
      | with_reducible refine DL.y_own2 ?_
      | with_reducible refine DL.y_own1 ?_
      | with_reducible refine DL.y_callF ?_
      | ((with_reducible apply DL.y_xf); (· exact rfl); (· exact rfl); (· exact rfl)))
    | ((with_reducible refine DL.hd_Lk ?_); first
      | with_reducible refine DL.lk_vl ?_
      | ((with_reducible apply DL.lk_sh); (· exact rfl))
      | ((with_reducible apply DL.lk_ow); (· exact rfl))
      | ((with_reducible apply DL.lk_br); (· exact rfl))
      | with_reducible refine DL.lk_nw ?_)
    | ((with_reducible refine DL.hd_Lz ?_); first
      | with_reducible refine DL.lz_vl ?_
      | with_reducible refine DL.lz_sl ?_
      | with_reducible refine DL.lz_nw ?_)
    | ((with_reducible refine DL.hd_OpQ ?_); first
      | with_reducible refine DL.o_addI ?_
      | with_reducible refine DL.o_subI ?_
      | ((with_reducible refine DL.o_mulI ?_ ?_); (first | (with_reducible assumption) | ((with_reducible refine DL.hd_eq ?_); with_reducible exact rfl) | ((with_reducible refine DL.hd_nle ?_); omega) | ((with_reducible refine DL.hd_nlt ?_); omega) | ((with_reducible refine DL.hd_ile ?_); omega) | ((with_reducible refine DL.hd_ilt ?_); omega) | ((with_reducible refine DL.ok62_of ?_ ?_) <;> omega) | ((with_reducible refine DL.ok24_of ?_ ?_ ?_ ?_ ?_) <;> omega) | ((with_reducible refine DL.modOk_of ?_); omega) | ((with_reducible refine DL.divOk_of ?_ ?_) <;> omega) | ((with_reducible refine DL.powOk_of ?_ ?_ ?_ ?_) <;> omega) | ((with_reducible refine DL.shrOk_of ?_); omega) | ((with_reducible refine DL.mulOk_of ?_ ?_) <;> constructor <;> omega) | ((with_reducible refine DL.lenLim ?_); simp only [List.length_cons, List.length_nil] <;> omega) | ((with_reducible refine DL.hd_nle ?_); simp only [List.length_cons, List.length_nil] <;> omega) | skip))
      | with_reducible refine DL.o_eqI ?_
      | with_reducible refine DL.o_eqW ?_
      | with_reducible refine DL.o_ltI ?_
      | with_reducible refine DL.o_leI ?_
      | with_reducible refine DL.o_gtI ?_
      | with_reducible refine DL.o_geI ?_
      | with_reducible refine DL.o_neI ?_
      | with_reducible refine DL.o_neW ?_
      | with_reducible refine DL.o_ixT0 ?_
      | with_reducible refine DL.o_ixT1 ?_
      | with_reducible refine DL.o_ixT2 ?_
      | with_reducible refine DL.o_ixT3 ?_
      | with_reducible refine DL.o_ixT4 ?_
      | with_reducible refine DL.o_ixT5 ?_
      | with_reducible refine DL.o_ixT6 ?_
      | with_reducible refine DL.o_ixT7 ?_
      | with_reducible refine DL.o_ixL0 ?_
      | with_reducible refine DL.o_ixL1 ?_
      | with_reducible refine DL.o_ixL2 ?_
      | with_reducible refine DL.o_ixL3 ?_
      | with_reducible refine DL.o_ixL4 ?_
      | with_reducible refine DL.o_ixL5 ?_
      | with_reducible refine DL.o_ixL6 ?_
      | with_reducible refine DL.o_ixL7 ?_
      | with_reducible refine DL.o_ixR0 ?_
      | with_reducible refine DL.o_ixR1 ?_
      | with_reducible refine DL.o_ixR2 ?_
      | with_reducible refine DL.o_ixR3 ?_
      | with_reducible refine DL.o_ixR4 ?_
      | with_reducible refine DL.o_ixR5 ?_
      | with_reducible refine DL.o_ixR6 ?_
      | with_reducible refine DL.o_ixR7 ?_
      | ((with_reducible refine DL.o_ixT0e ?_ ?_); · omega)
      | ((with_reducible refine DL.o_ixT1e ?_ ?_); · omega)
      | ((with_reducible refine DL.o_ixT2e ?_ ?_); · omega)
      | ((with_reducible refine DL.o_ixT3e ?_ ?_); · omega)
      | ((with_reducible refine DL.o_ixT4e ?_ ?_); · omega)
      | ((with_reducible refine DL.o_ixT5e ?_ ?_); · omega)
      | ((with_reducible refine DL.o_ixT6e ?_ ?_); · omega)
      | ((with_reducible refine DL.o_ixT7e ?_ ?_); · omega)
      | ((with_reducible refine DL.o_ixL0e ?_ ?_); · omega)
      | ((with_reducible refine DL.o_ixL1e ?_ ?_); · omega)
      | ((with_reducible refine DL.o_ixL2e ?_ ?_); · omega)
      | ((with_reducible refine DL.o_ixL3e ?_ ?_); · omega)
      | ((with_reducible refine DL.o_ixL4e ?_ ?_); · omega)
      | ((with_reducible refine DL.o_ixL5e ?_ ?_); · omega)
      | ((with_reducible refine DL.o_ixL6e ?_ ?_); · omega)
      | ((with_reducible refine DL.o_ixL7e ?_ ?_); · omega)
      | ((with_reducible refine DL.o_ixR0e ?_ ?_); · omega)
      | ((with_reducible refine DL.o_ixR1e ?_ ?_); · omega)
      | ((with_reducible refine DL.o_ixR2e ?_ ?_); · omega)
      | ((with_reducible refine DL.o_ixR3e ?_ ?_); · omega)
      | ((with_reducible refine DL.o_ixR4e ?_ ?_); · omega)
      | ((with_reducible refine DL.o_ixR5e ?_ ?_); · omega)
      | ((with_reducible refine DL.o_ixR6e ?_ ?_); · omega)
      | ((with_reducible refine DL.o_ixR7e ?_ ?_); · omega)
      | (with_reducible apply DL.o_ixT)
      | (with_reducible apply DL.o_ixL)
      | (with_reducible apply DL.o_ixR)
      | ((with_reducible refine DL.o_modI ?_ ?_); (first | (with_reducible assumption) | ((with_reducible refine DL.hd_eq ?_); with_reducible exact rfl) | ((with_reducible refine DL.hd_nle ?_); omega) | ((with_reducible refine DL.hd_nlt ?_); omega) | ((with_reducible refine DL.hd_ile ?_); omega) | ((with_reducible refine DL.hd_ilt ?_); omega) | ((with_reducible refine DL.ok62_of ?_ ?_) <;> omega) | ((with_reducible refine DL.ok24_of ?_ ?_ ?_ ?_ ?_) <;> omega) | ((with_reducible refine DL.modOk_of ?_); omega) | ((with_reducible refine DL.divOk_of ?_ ?_) <;> omega) | ((with_reducible refine DL.powOk_of ?_ ?_ ?_ ?_) <;> omega) | ((with_reducible refine DL.shrOk_of ?_); omega) | ((with_reducible refine DL.mulOk_of ?_ ?_) <;> constructor <;> omega) | ((with_reducible refine DL.lenLim ?_); simp only [List.length_cons, List.length_nil] <;> omega) | ((with_reducible refine DL.hd_nle ?_); simp only [List.length_cons, List.length_nil] <;> omega) | skip))
      | ((with_reducible refine DL.o_divI ?_ ?_); (first | (with_reducible assumption) | ((with_reducible refine DL.hd_eq ?_); with_reducible exact rfl) | ((with_reducible refine DL.hd_nle ?_); omega) | ((with_reducible refine DL.hd_nlt ?_); omega) | ((with_reducible refine DL.hd_ile ?_); omega) | ((with_reducible refine DL.hd_ilt ?_); omega) | ((with_reducible refine DL.ok62_of ?_ ?_) <;> omega) | ((with_reducible refine DL.ok24_of ?_ ?_ ?_ ?_ ?_) <;> omega) | ((with_reducible refine DL.modOk_of ?_); omega) | ((with_reducible refine DL.divOk_of ?_ ?_) <;> omega) | ((with_reducible refine DL.powOk_of ?_ ?_ ?_ ?_) <;> omega) | ((with_reducible refine DL.shrOk_of ?_); omega) | ((with_reducible refine DL.mulOk_of ?_ ?_) <;> constructor <;> omega) | ((with_reducible refine DL.lenLim ?_); simp only [List.length_cons, List.length_nil] <;> omega) | ((with_reducible refine DL.hd_nle ?_); simp only [List.length_cons, List.length_nil] <;> omega) | skip))
      | ((with_reducible refine DL.o_shlI ?_ ?_); (first | (with_reducible assumption) | ((with_reducible refine DL.hd_eq ?_); with_reducible exact rfl) | ((with_reducible refine DL.hd_nle ?_); omega) | ((with_reducible refine DL.hd_nlt ?_); omega) | ((with_reducible refine DL.hd_ile ?_); omega) | ((with_reducible refine DL.hd_ilt ?_); omega) | ((with_reducible refine DL.ok62_of ?_ ?_) <;> omega) | ((with_reducible refine DL.ok24_of ?_ ?_ ?_ ?_ ?_) <;> omega) | ((with_reducible refine DL.modOk_of ?_); omega) | ((with_reducible refine DL.divOk_of ?_ ?_) <;> omega) | ((with_reducible refine DL.powOk_of ?_ ?_ ?_ ?_) <;> omega) | ((with_reducible refine DL.shrOk_of ?_); omega) | ((with_reducible refine DL.mulOk_of ?_ ?_) <;> constructor <;> omega) | ((with_reducible refine DL.lenLim ?_); simp only [List.length_cons, List.length_nil] <;> omega) | ((with_reducible refine DL.hd_nle ?_); simp only [List.length_cons, List.length_nil] <;> omega) | skip))
      | ((with_reducible refine DL.o_shrI ?_ ?_); (first | (with_reducible assumption) | ((with_reducible refine DL.hd_eq ?_); with_reducible exact rfl) | ((with_reducible refine DL.hd_nle ?_); omega) | ((with_reducible refine DL.hd_nlt ?_); omega) | ((with_reducible refine DL.hd_ile ?_); omega) | ((with_reducible refine DL.hd_ilt ?_); omega) | ((with_reducible refine DL.ok62_of ?_ ?_) <;> omega) | ((with_reducible refine DL.ok24_of ?_ ?_ ?_ ?_ ?_) <;> omega) | ((with_reducible refine DL.modOk_of ?_); omega) | ((with_reducible refine DL.divOk_of ?_ ?_) <;> omega) | ((with_reducible refine DL.powOk_of ?_ ?_ ?_ ?_) <;> omega) | ((with_reducible refine DL.shrOk_of ?_); omega) | ((with_reducible refine DL.mulOk_of ?_ ?_) <;> constructor <;> omega) | ((with_reducible refine DL.lenLim ?_); simp only [List.length_cons, List.length_nil] <;> omega) | ((with_reducible refine DL.hd_nle ?_); simp only [List.length_cons, List.length_nil] <;> omega) | skip))
      | ((with_reducible refine DL.o_powI ?_ ?_); (first | (with_reducible assumption) | ((with_reducible refine DL.hd_eq ?_); with_reducible exact rfl) | ((with_reducible refine DL.hd_nle ?_); omega) | ((with_reducible refine DL.hd_nlt ?_); omega) | ((with_reducible refine DL.hd_ile ?_); omega) | ((with_reducible refine DL.hd_ilt ?_); omega) | ((with_reducible refine DL.ok62_of ?_ ?_) <;> omega) | ((with_reducible refine DL.ok24_of ?_ ?_ ?_ ?_ ?_) <;> omega) | ((with_reducible refine DL.modOk_of ?_); omega) | ((with_reducible refine DL.divOk_of ?_ ?_) <;> omega) | ((with_reducible refine DL.powOk_of ?_ ?_ ?_ ?_) <;> omega) | ((with_reducible refine DL.shrOk_of ?_); omega) | ((with_reducible refine DL.mulOk_of ?_ ?_) <;> constructor <;> omega) | ((with_reducible refine DL.lenLim ?_); simp only [List.length_cons, List.length_nil] <;> omega) | ((with_reducible refine DL.hd_nle ?_); simp only [List.length_cons, List.length_nil] <;> omega) | skip))
      | with_reducible refine DL.o_andI ?_
      | with_reducible refine DL.o_orI ?_
      | with_reducible refine DL.o_xorI ?_
      | with_reducible refine DL.o_negI ?_
      | with_reducible refine DL.o_invI ?_
      | with_reducible refine DL.o_addIS ?_
      | ((with_reducible refine DL.o_addS ?_ ?_); (first | (with_reducible assumption) | ((with_reducible refine DL.hd_eq ?_); with_reducible exact rfl) | ((with_reducible refine DL.hd_nle ?_); omega) | ((with_reducible refine DL.hd_nlt ?_); omega) | ((with_reducible refine DL.hd_ile ?_); omega) | ((with_reducible refine DL.hd_ilt ?_); omega) | ((with_reducible refine DL.ok62_of ?_ ?_) <;> omega) | ((with_reducible refine DL.ok24_of ?_ ?_ ?_ ?_ ?_) <;> omega) | ((with_reducible refine DL.modOk_of ?_); omega) | ((with_reducible refine DL.divOk_of ?_ ?_) <;> omega) | ((with_reducible refine DL.powOk_of ?_ ?_ ?_ ?_) <;> omega) | ((with_reducible refine DL.shrOk_of ?_); omega) | ((with_reducible refine DL.mulOk_of ?_ ?_) <;> constructor <;> omega) | ((with_reducible refine DL.lenLim ?_); simp only [List.length_cons, List.length_nil] <;> omega) | ((with_reducible refine DL.hd_nle ?_); simp only [List.length_cons, List.length_nil] <;> omega) | skip))
      | ((with_reducible refine DL.o_addL ?_ ?_); (first | (with_reducible assumption) | ((with_reducible refine DL.hd_eq ?_); with_reducible exact rfl) | ((with_reducible refine DL.hd_nle ?_); omega) | ((with_reducible refine DL.hd_nlt ?_); omega) | ((with_reducible refine DL.hd_ile ?_); omega) | ((with_reducible refine DL.hd_ilt ?_); omega) | ((with_reducible refine DL.ok62_of ?_ ?_) <;> omega) | ((with_reducible refine DL.ok24_of ?_ ?_ ?_ ?_ ?_) <;> omega) | ((with_reducible refine DL.modOk_of ?_); omega) | ((with_reducible refine DL.divOk_of ?_ ?_) <;> omega) | ((with_reducible refine DL.powOk_of ?_ ?_ ?_ ?_) <;> omega) | ((with_reducible refine DL.shrOk_of ?_); omega) | ((with_reducible refine DL.mulOk_of ?_ ?_) <;> constructor <;> omega) | ((with_reducible refine DL.lenLim ?_); simp only [List.length_cons, List.length_nil] <;> omega) | ((with_reducible refine DL.hd_nle ?_); simp only [List.length_cons, List.length_nil] <;> omega) | skip))
      | with_reducible refine DL.o_lenL ?_
      | with_reducible refine DL.o_lenR ?_
      | with_reducible refine DL.o_lenT ?_
      | with_reducible refine DL.o_absI ?_
      | with_reducible refine DL.o_intI ?_
      | with_reducible refine DL.o_intB ?_
      | with_reducible refine DL.o_max ?_
      | with_reducible refine DL.o_min ?_
      | with_reducible refine DL.o_eqB ?_
      | with_reducible refine DL.o_neB ?_
      | ((with_reducible refine DL.o_eq ?_ ?_ ?_); (first | (with_reducible assumption) | ((with_reducible refine DL.hd_eq ?_); with_reducible exact rfl) | ((with_reducible refine DL.hd_nle ?_); omega) | ((with_reducible refine DL.hd_nlt ?_); omega) | ((with_reducible refine DL.hd_ile ?_); omega) | ((with_reducible refine DL.hd_ilt ?_); omega) | ((with_reducible refine DL.ok62_of ?_ ?_) <;> omega) | ((with_reducible refine DL.ok24_of ?_ ?_ ?_ ?_ ?_) <;> omega) | ((with_reducible refine DL.modOk_of ?_); omega) | ((with_reducible refine DL.divOk_of ?_ ?_) <;> omega) | ((with_reducible refine DL.powOk_of ?_ ?_ ?_ ?_) <;> omega) | ((with_reducible refine DL.shrOk_of ?_); omega) | ((with_reducible refine DL.mulOk_of ?_ ?_) <;> constructor <;> omega) | ((with_reducible refine DL.lenLim ?_); simp only [List.length_cons, List.length_nil] <;> omega) | ((with_reducible refine DL.hd_nle ?_); simp only [List.length_cons, List.length_nil] <;> omega) | skip))
      | ((with_reducible refine DL.o_ne ?_ ?_ ?_); (first | (with_reducible assumption) | ((with_reducible refine DL.hd_eq ?_); with_reducible exact rfl) | ((with_reducible refine DL.hd_nle ?_); omega) | ((with_reducible refine DL.hd_nlt ?_); omega) | ((with_reducible refine DL.hd_ile ?_); omega) | ((with_reducible refine DL.hd_ilt ?_); omega) | ((with_reducible refine DL.ok62_of ?_ ?_) <;> omega) | ((with_reducible refine DL.ok24_of ?_ ?_ ?_ ?_ ?_) <;> omega) | ((with_reducible refine DL.modOk_of ?_); omega) | ((with_reducible refine DL.divOk_of ?_ ?_) <;> omega) | ((with_reducible refine DL.powOk_of ?_ ?_ ?_ ?_) <;> omega) | ((with_reducible refine DL.shrOk_of ?_); omega) | ((with_reducible refine DL.mulOk_of ?_ ?_) <;> constructor <;> omega) | ((with_reducible refine DL.lenLim ?_); simp only [List.length_cons, List.length_nil] <;> omega) | ((with_reducible refine DL.hd_nle ?_); simp only [List.length_cons, List.length_nil] <;> omega) | skip))
      | with_reducible refine DL.o_slL ?_
      | with_reducible refine DL.o_slT ?_
      | with_reducible refine DL.o_slR ?_
      | with_reducible refine DL.o_rev ?_)
    | ((with_reducible refine DL.hd_YA ?_); first
      | with_reducible refine DL.y_a1 ?_
      | with_reducible refine DL.y_a0 ?_)
    | ((with_reducible refine DL.hd_YT ?_); first
      | with_reducible refine DL.y_b ?_
      | with_reducible refine DL.y_not ?_
      | with_reducible refine DL.y_and ?_
      | with_reducible refine DL.y_or ?_
      | with_reducible refine DL.y_yes ?_)
    | ((with_reducible refine DL.hd_Es ?_); first
      | with_reducible refine DL.ez_sl ?_
      | with_reducible refine DL.ez_vl ?_
      | with_reducible refine DL.ez_nw ?_
      | with_reducible refine DL.es_vl ?_
      | with_reducible refine DL.es_nw ?_
      | ((with_reducible apply DL.es_sh); (· exact rfl))
      | ((with_reducible apply DL.es_ow); (· exact rfl); (· repeat (first | exact DL.SetAt.z | apply DL.SetAt.s))))
    | ((with_reducible refine DL.hd_StQ ?_); first
      | ((with_reducible apply DL.st_vl); (· repeat (first | exact DL.SetAt.z | apply DL.SetAt.s)))
      | ((with_reducible apply DL.st_nw); (· repeat (first | exact DL.SetAt.z | apply DL.SetAt.s)))
      | ((with_reducible apply DL.st_sh); (· exact rfl); (· repeat (first | exact DL.SetAt.z | apply DL.SetAt.s)))
      | ((with_reducible apply DL.st_ow); (· exact rfl); (· repeat (first | exact DL.SetAt.z | apply DL.SetAt.s)); (· repeat (first | exact DL.SetAt.z | apply DL.SetAt.s))))
    | with_reducible refine DL.isb ?_
    | ((with_reducible refine DL.hd_IfQ ?_); first
      | with_reducible refine DL.ifq_t ?_
      | with_reducible refine DL.ifq_f ?_
      | with_reducible refine DL.ifq_n ?_
      | with_reducible refine DL.ifq_and ?_
      | with_reducible refine DL.ifq_or ?_
      | ((with_reducible apply DL.ifq_dt); · first | (with_reducible assumption) | omega)
      | ((with_reducible apply DL.ifq_df); · first | (with_reducible assumption) | omega)
      | ((with_reducible apply DL.ifq_sdt); (· exact rfl))
      | ((with_reducible apply DL.ifq_sdf); (· exact rfl))
      | (with_reducible refine DL.ifq_d (fun _ => ?_) (fun _ => ?_))
      | ((with_reducible apply DL.ifq_eqt); (· with_reducible assumption))
      | ((with_reducible apply DL.ifq_eqf); (· with_reducible assumption)))
    | ((with_reducible refine DL.hd_Ls ?_); first
      | with_reducible refine DL.ls_cons ?_
      | with_reducible refine DL.ls_cons' ?_
      | with_reducible refine DL.ls_nil ?_)
    | ((with_reducible refine DL.hd_EnQ ?_); first
      | with_reducible refine DL.en_fz ?_
      | with_reducible refine DL.en_f ?_
      | with_reducible refine DL.en_t ?_
      | with_reducible refine DL.en_nil ?_
      | with_reducible refine DL.en_n ?_)
    | ((with_reducible refine DL.hd_GQ ?_); first
      | ((with_reducible apply DL.g_name); (· repeat (first | exact DL.SetAt.z | apply DL.SetAt.s)))
      | ((with_reducible apply DL.g_tup); (· exact rfl)))
    | ((with_reducible refine DL.hd_RetQ ?_); first
      | ((with_reducible apply DL.ret_vl); (· repeat (first | exact DL.OutB.z | apply DL.OutB.s | apply DL.OutB.b)))
      | ((with_reducible apply DL.ret_sh); (· exact rfl); (· repeat (first | exact DL.OutB.z | apply DL.OutB.s | apply DL.OutB.b)))
      | ((with_reducible apply DL.ret_nw); (· repeat (first | exact DL.OutB.z | apply DL.OutB.s | apply DL.OutB.b)))
      | ((with_reducible apply DL.ret_ow); (· exact rfl); (· repeat (first | exact DL.OutB.z | apply DL.OutB.s | apply DL.OutB.b))))
    | ((with_reducible refine DL.hd_EsA ?_); first
      | with_reducible refine DL.esa_cons ?_
      | with_reducible refine DL.esa_nil ?_)
    | ((with_reducible refine DL.hd_GsQ ?_); first
      | with_reducible refine DL.gs_cons ?_
      | with_reducible refine DL.gs_nil ?_)
    | ((with_reducible refine DL.hd_YI ?_); first
      | with_reducible refine DL.y_iR1 ?_
      | with_reducible refine DL.y_iL ?_
      | with_reducible refine DL.y_iR2 ?_
      | with_reducible refine DL.y_iR3 ?_
      | with_reducible refine DL.y_iT ?_
      | with_reducible refine DL.y_iZip ?_)
    | ((with_reducible refine DL.hd_RtQ ?_); first
      | ((with_reducible apply DL.rt_ow); (· exact rfl))
      | ((with_reducible apply DL.rt_br); (· exact rfl)))
    | ((with_reducible refine DL.hd_PlQ ?_); first
      | ((with_reducible apply DL.pl_ow); (· exact rfl); (· repeat (first | exact DL.SetAt.z | apply DL.SetAt.s)))
      | ((with_reducible apply DL.pl_br); (· exact rfl); (· repeat (first | exact DL.SetAt.z | apply DL.SetAt.s))))
    | ((with_reducible refine DL.hd_RiQ ?_); first
      | ((with_reducible apply DL.ri_ow); (· exact rfl))
      | ((with_reducible apply DL.ri_br); (· exact rfl)))
    | ((with_reducible refine DL.hd_PiQ ?_); first
      | ((with_reducible apply DL.pi_ow); (· exact rfl); (· repeat (first | exact DL.SetAt.z | apply DL.SetAt.s)))
      | ((with_reducible apply DL.pi_br); (· exact rfl); (· repeat (first | exact DL.SetAt.z | apply DL.SetAt.s))))
    | ((with_reducible refine DL.hd_YO ?_); first
      | with_reducible refine DL.y_noP ?_
      | with_reducible refine DL.y_po ?_)
    | with_reducible refine DL.frq_nil ?_
    | ((with_reducible apply Exists.intro); first | ((with_reducible refine And.intro ?_ ?_); · exact rfl) | ((with_reducible refine And.intro ?_ ?_); (· first | exact Or.inl rfl | exact Or.inr rfl)) | ((with_reducible apply Exists.intro); first | ((with_reducible refine And.intro ?_ ?_); · exact rfl) | ((with_reducible refine And.intro ?_ ?_); (· first | exact Or.inl rfl | exact Or.inr rfl)) | ((with_reducible apply Exists.intro); (with_reducible refine And.intro ?_ ?_); · exact rfl)))
    | ((with_reducible refine And.intro ?_ ?_); (first | (with_reducible assumption) | ((with_reducible refine DL.hd_eq ?_); with_reducible exact rfl) | ((with_reducible refine DL.hd_nle ?_); omega) | ((with_reducible refine DL.hd_nlt ?_); omega) | ((with_reducible refine DL.hd_ile ?_); omega) | ((with_reducible refine DL.hd_ilt ?_); omega) | ((with_reducible refine DL.ok62_of ?_ ?_) <;> omega) | ((with_reducible refine DL.ok24_of ?_ ?_ ?_ ?_ ?_) <;> omega) | ((with_reducible refine DL.modOk_of ?_); omega) | ((with_reducible refine DL.divOk_of ?_ ?_) <;> omega) | ((with_reducible refine DL.powOk_of ?_ ?_ ?_ ?_) <;> omega) | ((with_reducible refine DL.shrOk_of ?_); omega) | ((with_reducible refine DL.mulOk_of ?_ ?_) <;> constructor <;> omega) | ((with_reducible refine DL.lenLim ?_); simp only [List.length_cons, List.length_nil] <;> omega) | ((with_reducible refine DL.hd_nle ?_); simp only [List.length_cons, List.length_nil] <;> omega) | skip))
    | ((with_reducible refine DL.hd_eq ?_); with_reducible exact rfl)))
local macro_rules | `(tactic| trace "v1") => `(tactic| (first
    | ((with_reducible refine DL.hd_YS ?_); first
      | with_reducible refine DL.y_seq ?_
      | with_reducible refine DL.y_set ?_
      | with_reducible refine DL.y_ret ?_
      | with_reducible refine DL.y_ifS ?_
      | with_reducible refine DL.y_next ?_
      | with_reducible refine DL.y_drop ?_
      | ((with_reducible apply DL.y_aug); (· exact rfl))
      | with_reducible refine DL.y_for ?_
      | with_reducible refine DL.y_asg ?_
      | with_reducible refine DL.y_par ?_
      | with_reducible refine DL.y_setIx ?_
      | with_reducible refine DL.y_putF ?_
      | with_reducible refine DL.y_raise ?_
      | with_reducible refine DL.y_raise0 ?_
      | with_reducible refine DL.y_star2 ?_
      | with_reducible refine DL.y_break ?_
      | with_reducible refine DL.y_cont ?_
      | with_reducible refine DL.y_retN ?_
      | with_reducible refine DL.y_try ?_
      | with_reducible refine DL.y_tryO ?_)
    | ((with_reducible refine DL.hd_YE ?_); first
      | ((with_reducible apply DL.y_var); (· exact rfl))
      | with_reducible refine DL.y_c ?_
      | with_reducible refine DL.y_op2 ?_
      | with_reducible refine DL.y_call ?_
      | with_reducible refine DL.y_cb ?_
      | with_reducible refine DL.y_op1 ?_
      | with_reducible refine DL.y_lst ?_
      | with_reducible refine DL.y_tup ?_
      | with_reducible refine DL.y_fld ?_
      | with_reducible refine DL.y_meth ?_
      | with_reducible refine DL.y_if ?_
      | with_reducible refine DL.y_notV ?_
      | with_reducible refine DL.y_andV ?_
      | with_reducible refine DL.y_orV ?_
      | with_reducible refine DL.y_isi ?_
      | with_reducible refine DL.y_app ?_
      | with_reducible refine DL.y_ext ?_
      | with_reducible refine DL.y_pop ?_
      | with_reducible refine DL.y_lc ?_
      | with_reducible refine DL.y_sl ?_
      | with_reducible refine DL.y_lr1 ?_
      | with_reducible refine DL.y_lr2 ?_
      | with_reducible refine DL.y_lr3 ?_
      | with_reducible refine DL.y_prop ?_
      | with_reducible refine DL.y_own2 ?_
      | with_reducible refine DL.y_own1 ?_
      | with_reducible refine DL.y_callF ?_
      | ((with_reducible apply DL.y_xf); (· exact rfl); (· exact rfl); (· exact rfl)))
    | ((with_reducible refine DL.hd_Lk ?_); first
      | with_reducible refine DL.lk_vl ?_
      | ((with_reducible apply DL.lk_sh); (· exact rfl))
      | ((with_reducible apply DL.lk_ow); (· exact rfl))
      | ((with_reducible apply DL.lk_br); (· exact rfl))
      | with_reducible refine DL.lk_nw ?_)
    | ((with_reducible refine DL.hd_Lz ?_); first
      | with_reducible refine DL.lz_vl ?_
      | with_reducible refine DL.lz_sl ?_
      | with_reducible refine DL.lz_nw ?_)
    | ((with_reducible refine DL.hd_OpQ ?_); first
      | with_reducible refine DL.o_addI ?_
      | with_reducible refine DL.o_subI ?_
      | ((with_reducible refine DL.o_mulI ?_ ?_); (first | (with_reducible assumption) | ((with_reducible refine DL.hd_eq ?_); with_reducible exact rfl) | ((with_reducible refine DL.hd_nle ?_); omega) | ((with_reducible refine DL.hd_nlt ?_); omega) | ((with_reducible refine DL.hd_ile ?_); omega) | ((with_reducible refine DL.hd_ilt ?_); omega) | ((with_reducible refine DL.ok62_of ?_ ?_) <;> omega) | ((with_reducible refine DL.ok24_of ?_ ?_ ?_ ?_ ?_) <;> omega) | ((with_reducible refine DL.modOk_of ?_); omega) | ((with_reducible refine DL.divOk_of ?_ ?_) <;> omega) | ((with_reducible refine DL.powOk_of ?_ ?_ ?_ ?_) <;> omega) | ((with_reducible refine DL.shrOk_of ?_); omega) | ((with_reducible refine DL.mulOk_of ?_ ?_) <;> constructor <;> omega) | ((with_reducible refine DL.lenLim ?_); simp only [List.length_cons, List.length_nil] <;> omega) | ((with_reducible refine DL.hd_nle ?_); simp only [List.length_cons, List.length_nil] <;> omega) | skip))
      | with_reducible refine DL.o_eqI ?_
      | with_reducible refine DL.o_eqW ?_
      | with_reducible refine DL.o_ltI ?_
      | with_reducible refine DL.o_leI ?_
      | with_reducible refine DL.o_gtI ?_
      | with_reducible refine DL.o_geI ?_
      | with_reducible refine DL.o_neI ?_
      | with_reducible refine DL.o_neW ?_
      | with_reducible refine DL.o_ixT0 ?_
      | with_reducible refine DL.o_ixT1 ?_
      | with_reducible refine DL.o_ixT2 ?_
      | with_reducible refine DL.o_ixT3 ?_
      | with_reducible refine DL.o_ixT4 ?_
      | with_reducible refine DL.o_ixT5 ?_
      | with_reducible refine DL.o_ixT6 ?_
      | with_reducible refine DL.o_ixT7 ?_
      | with_reducible refine DL.o_ixL0 ?_
      | with_reducible refine DL.o_ixL1 ?_
      | with_reducible refine DL.o_ixL2 ?_
      | with_reducible refine DL.o_ixL3 ?_
      | with_reducible refine DL.o_ixL4 ?_
      | with_reducible refine DL.o_ixL5 ?_
      | with_reducible refine DL.o_ixL6 ?_
      | with_reducible refine DL.o_ixL7 ?_
      | with_reducible refine DL.o_ixR0 ?_
      | with_reducible refine DL.o_ixR1 ?_
      | with_reducible refine DL.o_ixR2 ?_
      | with_reducible refine DL.o_ixR3 ?_
      | with_reducible refine DL.o_ixR4 ?_
      | with_reducible refine DL.o_ixR5 ?_
      | with_reducible refine DL.o_ixR6 ?_
      | with_reducible refine DL.o_ixR7 ?_
      | ((with_reducible refine DL.o_ixT0e ?_ ?_); · omega)
      | ((with_reducible refine DL.o_ixT1e ?_ ?_); · omega)
      | ((with_reducible refine DL.o_ixT2e ?_ ?_); · omega)
      | ((with_reducible refine DL.o_ixT3e ?_ ?_); · omega)
      | ((with_reducible refine DL.o_ixT4e ?_ ?_); · omega)
      | ((with_reducible refine DL.o_ixT5e ?_ ?_); · omega)
      | ((with_reducible refine DL.o_ixT6e ?_ ?_); · omega)
      | ((with_reducible refine DL.o_ixT7e ?_ ?_); · omega)
      | ((with_reducible refine DL.o_ixL0e ?_ ?_); · omega)
      | ((with_reducible refine DL.o_ixL1e ?_ ?_); · omega)
      | ((with_reducible refine DL.o_ixL2e ?_ ?_); · omega)
      | ((with_reducible refine DL.o_ixL3e ?_ ?_); · omega)
      | ((with_reducible refine DL.o_ixL4e ?_ ?_); · omega)
      | ((with_reducible refine DL.o_ixL5e ?_ ?_); · omega)
      | ((with_reducible refine DL.o_ixL6e ?_ ?_); · omega)
      | ((with_reducible refine DL.o_ixL7e ?_ ?_); · omega)
      | ((with_reducible refine DL.o_ixR0e ?_ ?_); · omega)
      | ((with_reducible refine DL.o_ixR1e ?_ ?_); · omega)
      | ((with_reducible refine DL.o_ixR2e ?_ ?_); · omega)
      | ((with_reducible refine DL.o_ixR3e ?_ ?_); · omega)
      | ((with_reducible refine DL.o_ixR4e ?_ ?_); · omega)
      | ((with_reducible refine DL.o_ixR5e ?_ ?_); · omega)
      | ((with_reducible refine DL.o_ixR6e ?_ ?_); · omega)
      | ((with_reducible refine DL.o_ixR7e ?_ ?_); · omega)
      | (with_reducible apply DL.o_ixT)
      | (with_reducible apply DL.o_ixL)
      | (with_reducible apply DL.o_ixR)
      | ((with_reducible refine DL.o_modI ?_ ?_); (first | (with_reducible assumption) | ((with_reducible refine DL.hd_eq ?_); with_reducible exact rfl) | ((with_reducible refine DL.hd_nle ?_); omega) | ((with_reducible refine DL.hd_nlt ?_); omega) | ((with_reducible refine DL.hd_ile ?_); omega) | ((with_reducible refine DL.hd_ilt ?_); omega) | ((with_reducible refine DL.ok62_of ?_ ?_) <;> omega) | ((with_reducible refine DL.ok24_of ?_ ?_ ?_ ?_ ?_) <;> omega) | ((with_reducible refine DL.modOk_of ?_); omega) | ((with_reducible refine DL.divOk_of ?_ ?_) <;> omega) | ((with_reducible refine DL.powOk_of ?_ ?_ ?_ ?_) <;> omega) | ((with_reducible refine DL.shrOk_of ?_); omega) | ((with_reducible refine DL.mulOk_of ?_ ?_) <;> constructor <;> omega) | ((with_reducible refine DL.lenLim ?_); simp only [List.length_cons, List.length_nil] <;> omega) | ((with_reducible refine DL.hd_nle ?_); simp only [List.length_cons, List.length_nil] <;> omega) | skip))
      | ((with_reducible refine DL.o_divI ?_ ?_); (first | (with_reducible assumption) | ((with_reducible refine DL.hd_eq ?_); with_reducible exact rfl) | ((with_reducible refine DL.hd_nle ?_); omega) | ((with_reducible refine DL.hd_nlt ?_); omega) | ((with_reducible refine DL.hd_ile ?_); omega) | ((with_reducible refine DL.hd_ilt ?_); omega) | ((with_reducible refine DL.ok62_of ?_ ?_) <;> omega) | ((with_reducible refine DL.ok24_of ?_ ?_ ?_ ?_ ?_) <;> omega) | ((with_reducible refine DL.modOk_of ?_); omega) | ((with_reducible refine DL.divOk_of ?_ ?_) <;> omega) | ((with_reducible refine DL.powOk_of ?_ ?_ ?_ ?_) <;> omega) | ((with_reducible refine DL.shrOk_of ?_); omega) | ((with_reducible refine DL.mulOk_of ?_ ?_) <;> constructor <;> omega) | ((with_reducible refine DL.lenLim ?_); simp only [List.length_cons, List.length_nil] <;> omega) | ((with_reducible refine DL.hd_nle ?_); simp only [List.length_cons, List.length_nil] <;> omega) | skip))
      | ((with_reducible refine DL.o_shlI ?_ ?_); (first | (with_reducible assumption) | ((with_reducible refine DL.hd_eq ?_); with_reducible exact rfl) | ((with_reducible refine DL.hd_nle ?_); omega) | ((with_reducible refine DL.hd_nlt ?_); omega) | ((with_reducible refine DL.hd_ile ?_); omega) | ((with_reducible refine DL.hd_ilt ?_); omega) | ((with_reducible refine DL.ok62_of ?_ ?_) <;> omega) | ((with_reducible refine DL.ok24_of ?_ ?_ ?_ ?_ ?_) <;> omega) | ((with_reducible refine DL.modOk_of ?_); omega) | ((with_reducible refine DL.divOk_of ?_ ?_) <;> omega) | ((with_reducible refine DL.powOk_of ?_ ?_ ?_ ?_) <;> omega) | ((with_reducible refine DL.shrOk_of ?_); omega) | ((with_reducible refine DL.mulOk_of ?_ ?_) <;> constructor <;> omega) | ((with_reducible refine DL.lenLim ?_); simp only [List.length_cons, List.length_nil] <;> omega) | ((with_reducible refine DL.hd_nle ?_); simp only [List.length_cons, List.length_nil] <;> omega) | skip))
      | ((with_reducible refine DL.o_shrI ?_ ?_); (first | (with_reducible assumption) | ((with_reducible refine DL.hd_eq ?_); with_reducible exact rfl) | ((with_reducible refine DL.hd_nle ?_); omega) | ((with_reducible refine DL.hd_nlt ?_); omega) | ((with_reducible refine DL.hd_ile ?_); omega) | ((with_reducible refine DL.hd_ilt ?_); omega) | ((with_reducible refine DL.ok62_of ?_ ?_) <;> omega) | ((with_reducible refine DL.ok24_of ?_ ?_ ?_ ?_ ?_) <;> omega) | ((with_reducible refine DL.modOk_of ?_); omega) | ((with_reducible refine DL.divOk_of ?_ ?_) <;> omega) | ((with_reducible refine DL.powOk_of ?_ ?_ ?_ ?_) <;> omega) | ((with_reducible refine DL.shrOk_of ?_); omega) | ((with_reducible refine DL.mulOk_of ?_ ?_) <;> constructor <;> omega) | ((with_reducible refine DL.lenLim ?_); simp only [List.length_cons, List.length_nil] <;> omega) | ((with_reducible refine DL.hd_nle ?_); simp only [List.length_cons, List.length_nil] <;> omega) | skip))
      | ((with_reducible refine DL.o_powI ?_ ?_); (first | (with_reducible assumption) | ((with_reducible refine DL.hd_eq ?_); with_reducible exact rfl) | ((with_reducible refine DL.hd_nle ?_); omega) | ((with_reducible refine DL.hd_nlt ?_); omega) | ((with_reducible refine DL.hd_ile ?_); omega) | ((with_reducible refine DL.hd_ilt ?_); omega) | ((with_reducible refine DL.ok62_of ?_ ?_) <;> omega) | ((with_reducible refine DL.ok24_of ?_ ?_ ?_ ?_ ?_) <;> omega) | ((with_reducible refine DL.modOk_of ?_); omega) | ((with_reducible refine DL.divOk_of ?_ ?_) <;> omega) | ((with_reducible refine DL.powOk_of ?_ ?_ ?_ ?_) <;> omega) | ((with_reducible refine DL.shrOk_of ?_); omega) | ((with_reducible refine DL.mulOk_of ?_ ?_) <;> constructor <;> omega) | ((with_reducible refine DL.lenLim ?_); simp only [List.length_cons, List.length_nil] <;> omega) | ((with_reducible refine DL.hd_nle ?_); simp only [List.length_cons, List.length_nil] <;> omega) | skip))
      | with_reducible refine DL.o_andI ?_
      | with_reducible refine DL.o_orI ?_
      | with_reducible refine DL.o_xorI ?_
      | with_reducible refine DL.o_negI ?_
      | with_reducible refine DL.o_invI ?_
      | with_reducible refine DL.o_addIS ?_
      | ((with_reducible refine DL.o_addS ?_ ?_); (first | (with_reducible assumption) | ((with_reducible refine DL.hd_eq ?_); with_reducible exact rfl) | ((with_reducible refine DL.hd_nle ?_); omega) | ((with_reducible refine DL.hd_nlt ?_); omega) | ((with_reducible refine DL.hd_ile ?_); omega) | ((with_reducible refine DL.hd_ilt ?_); omega) | ((with_reducible refine DL.ok62_of ?_ ?_) <;> omega) | ((with_reducible refine DL.ok24_of ?_ ?_ ?_ ?_ ?_) <;> omega) | ((with_reducible refine DL.modOk_of ?_); omega) | ((with_reducible refine DL.divOk_of ?_ ?_) <;> omega) | ((with_reducible refine DL.powOk_of ?_ ?_ ?_ ?_) <;> omega) | ((with_reducible refine DL.shrOk_of ?_); omega) | ((with_reducible refine DL.mulOk_of ?_ ?_) <;> constructor <;> omega) | ((with_reducible refine DL.lenLim ?_); simp only [List.length_cons, List.length_nil] <;> omega) | ((with_reducible refine DL.hd_nle ?_); simp only [List.length_cons, List.length_nil] <;> omega) | skip))
      | ((with_reducible refine DL.o_addL ?_ ?_); (first | (with_reducible assumption) | ((with_reducible refine DL.hd_eq ?_); with_reducible exact rfl) | ((with_reducible refine DL.hd_nle ?_); omega) | ((with_reducible refine DL.hd_nlt ?_); omega) | ((with_reducible refine DL.hd_ile ?_); omega) | ((with_reducible refine DL.hd_ilt ?_); omega) | ((with_reducible refine DL.ok62_of ?_ ?_) <;> omega) | ((with_reducible refine DL.ok24_of ?_ ?_ ?_ ?_ ?_) <;> omega) | ((with_reducible refine DL.modOk_of ?_); omega) | ((with_reducible refine DL.divOk_of ?_ ?_) <;> omega) | ((with_reducible refine DL.powOk_of ?_ ?_ ?_ ?_) <;> omega) | ((with_reducible refine DL.shrOk_of ?_); omega) | ((with_reducible refine DL.mulOk_of ?_ ?_) <;> constructor <;> omega) | ((with_reducible refine DL.lenLim ?_); simp only [List.length_cons, List.length_nil] <;> omega) | ((with_reducible refine DL.hd_nle ?_); simp only [List.length_cons, List.length_nil] <;> omega) | skip))
      | with_reducible refine DL.o_lenL ?_
      | with_reducible refine DL.o_lenR ?_
      | with_reducible refine DL.o_lenT ?_
      | with_reducible refine DL.o_absI ?_
      | with_reducible refine DL.o_intI ?_
      | with_reducible refine DL.o_intB ?_
      | with_reducible refine DL.o_max ?_
      | with_reducible refine DL.o_min ?_
      | with_reducible refine DL.o_eqB ?_
      | with_reducible refine DL.o_neB ?_
      | ((with_reducible refine DL.o_eq ?_ ?_ ?_); (first | (with_reducible assumption) | ((with_reducible refine DL.hd_eq ?_); with_reducible exact rfl) | ((with_reducible refine DL.hd_nle ?_); omega) | ((with_reducible refine DL.hd_nlt ?_); omega) | ((with_reducible refine DL.hd_ile ?_); omega) | ((with_reducible refine DL.hd_ilt ?_); omega) | ((with_reducible refine DL.ok62_of ?_ ?_) <;> omega) | ((with_reducible refine DL.ok24_of ?_ ?_ ?_ ?_ ?_) <;> omega) | ((with_reducible refine DL.modOk_of ?_); omega) | ((with_reducible refine DL.divOk_of ?_ ?_) <;> omega) | ((with_reducible refine DL.powOk_of ?_ ?_ ?_ ?_) <;> omega) | ((with_reducible refine DL.shrOk_of ?_); omega) | ((with_reducible refine DL.mulOk_of ?_ ?_) <;> constructor <;> omega) | ((with_reducible refine DL.lenLim ?_); simp only [List.length_cons, List.length_nil] <;> omega) | ((with_reducible refine DL.hd_nle ?_); simp only [List.length_cons, List.length_nil] <;> omega) | skip))
      | ((with_reducible refine DL.o_ne ?_ ?_ ?_); (first | (with_reducible assumption) | ((with_reducible refine DL.hd_eq ?_); with_reducible exact rfl) | ((with_reducible refine DL.hd_nle ?_); omega) | ((with_reducible refine DL.hd_nlt ?_); omega) | ((with_reducible refine DL.hd_ile ?_); omega) | ((with_reducible refine DL.hd_ilt ?_); omega) | ((with_reducible refine DL.ok62_of ?_ ?_) <;> omega) | ((with_reducible refine DL.ok24_of ?_ ?_ ?_ ?_ ?_) <;> omega) | ((with_reducible refine DL.modOk_of ?_); omega) | ((with_reducible refine DL.divOk_of ?_ ?_) <;> omega) | ((with_reducible refine DL.powOk_of ?_ ?_ ?_ ?_) <;> omega) | ((with_reducible refine DL.shrOk_of ?_); omega) | ((with_reducible refine DL.mulOk_of ?_ ?_) <;> constructor <;> omega) | ((with_reducible refine DL.lenLim ?_); simp only [List.length_cons, List.length_nil] <;> omega) | ((with_reducible refine DL.hd_nle ?_); simp only [List.length_cons, List.length_nil] <;> omega) | skip))
      | with_reducible refine DL.o_slL ?_
      | with_reducible refine DL.o_slT ?_
      | with_reducible refine DL.o_slR ?_
      | with_reducible refine DL.o_rev ?_)
    | ((with_reducible refine DL.hd_YA ?_); first
      | with_reducible refine DL.y_a1 ?_
      | with_reducible refine DL.y_a0 ?_)
    | ((with_reducible refine DL.hd_YT ?_); first
      | with_reducible refine DL.y_b ?_
      | with_reducible refine DL.y_not ?_
      | with_reducible refine DL.y_and ?_
      | with_reducible refine DL.y_or ?_
      | with_reducible refine DL.y_yes ?_)
    | ((with_reducible refine DL.hd_Es ?_); first
      | with_reducible refine DL.ez_sl ?_
      | with_reducible refine DL.ez_vl ?_
      | with_reducible refine DL.ez_nw ?_
      | with_reducible refine DL.es_vl ?_
      | with_reducible refine DL.es_nw ?_
      | ((with_reducible apply DL.es_sh); (· exact rfl))
      | ((with_reducible apply DL.es_ow); (· exact rfl); (· repeat (first | exact DL.SetAt.z | apply DL.SetAt.s))))
    | ((with_reducible refine DL.hd_StQ ?_); first
      | ((with_reducible apply DL.st_vl); (· repeat (first | exact DL.SetAt.z | apply DL.SetAt.s)))
      | ((with_reducible apply DL.st_nw); (· repeat (first | exact DL.SetAt.z | apply DL.SetAt.s)))
      | ((with_reducible apply DL.st_sh); (· exact rfl); (· repeat (first | exact DL.SetAt.z | apply DL.SetAt.s)))
      | ((with_reducible apply DL.st_ow); (· exact rfl); (· repeat (first | exact DL.SetAt.z | apply DL.SetAt.s)); (· repeat (first | exact DL.SetAt.z | apply DL.SetAt.s))))
    | with_reducible refine DL.isb ?_
    | ((with_reducible refine DL.hd_IfQ ?_); first
      | with_reducible refine DL.ifq_t ?_
      | with_reducible refine DL.ifq_f ?_
      | with_reducible refine DL.ifq_n ?_
      | with_reducible refine DL.ifq_and ?_
      | with_reducible refine DL.ifq_or ?_
      | ((with_reducible apply DL.ifq_dt); · first | (with_reducible assumption) | omega)
      | ((with_reducible apply DL.ifq_df); · first | (with_reducible assumption) | omega)
      | ((with_reducible apply DL.ifq_sdt); (· exact rfl))
      | ((with_reducible apply DL.ifq_sdf); (· exact rfl))
      | (with_reducible refine DL.ifq_d (fun _ => ?_) (fun _ => ?_))
      | ((with_reducible apply DL.ifq_eqt); (· with_reducible assumption))
      | ((with_reducible apply DL.ifq_eqf); (· with_reducible assumption)))
    | ((with_reducible refine DL.hd_Ls ?_); first
      | with_reducible refine DL.ls_cons ?_
      | with_reducible refine DL.ls_cons' ?_
      | with_reducible refine DL.ls_nil ?_)
    | ((with_reducible refine DL.hd_EnQ ?_); first
      | with_reducible refine DL.en_fz ?_
      | with_reducible refine DL.en_f ?_
      | with_reducible refine DL.en_t ?_
      | with_reducible refine DL.en_nil ?_
      | with_reducible refine DL.en_n ?_)
    | ((with_reducible refine DL.hd_GQ ?_); first
      | ((with_reducible apply DL.g_name); (· repeat (first | exact DL.SetAt.z | apply DL.SetAt.s)))
      | ((with_reducible apply DL.g_tup); (· exact rfl)))
    | ((with_reducible refine DL.hd_RetQ ?_); first
      | ((with_reducible apply DL.ret_vl); (· repeat (first | exact DL.OutB.z | apply DL.OutB.s | apply DL.OutB.b)))
      | ((with_reducible apply DL.ret_sh); (· exact rfl); (· repeat (first | exact DL.OutB.z | apply DL.OutB.s | apply DL.OutB.b)))
      | ((with_reducible apply DL.ret_nw); (· repeat (first | exact DL.OutB.z | apply DL.OutB.s | apply DL.OutB.b)))
      | ((with_reducible apply DL.ret_ow); (· exact rfl); (· repeat (first | exact DL.OutB.z | apply DL.OutB.s | apply DL.OutB.b))))
    | ((with_reducible refine DL.hd_EsA ?_); first
      | with_reducible refine DL.esa_cons ?_
      | with_reducible refine DL.esa_nil ?_)
    | ((with_reducible refine DL.hd_GsQ ?_); first
      | with_reducible refine DL.gs_cons ?_
      | with_reducible refine DL.gs_nil ?_)
    | ((with_reducible refine DL.hd_YI ?_); first
      | with_reducible refine DL.y_iR1 ?_
      | with_reducible refine DL.y_iL ?_
      | with_reducible refine DL.y_iR2 ?_
      | with_reducible refine DL.y_iR3 ?_
      | with_reducible refine DL.y_iT ?_
      | with_reducible refine DL.y_iZip ?_)
    | ((with_reducible refine DL.hd_RtQ ?_); first
      | ((with_reducible apply DL.rt_ow); (· exact rfl))
      | ((with_reducible apply DL.rt_br); (· exact rfl)))
    | ((with_reducible refine DL.hd_PlQ ?_); first
      | ((with_reducible apply DL.pl_ow); (· exact rfl); (· repeat (first | exact DL.SetAt.z | apply DL.SetAt.s)))
      | ((with_reducible apply DL.pl_br); (· exact rfl); (· repeat (first | exact DL.SetAt.z | apply DL.SetAt.s))))
    | ((with_reducible refine DL.hd_RiQ ?_); first
      | ((with_reducible apply DL.ri_ow); (· exact rfl))
      | ((with_reducible apply DL.ri_br); (· exact rfl)))
    | ((with_reducible refine DL.hd_PiQ ?_); first
      | ((with_reducible apply DL.pi_ow); (· exact rfl); (· repeat (first | exact DL.SetAt.z | apply DL.SetAt.s)))
      | ((with_reducible apply DL.pi_br); (· exact rfl); (· repeat (first | exact DL.SetAt.z | apply DL.SetAt.s))))
    | ((with_reducible refine DL.hd_YO ?_); first
      | with_reducible refine DL.y_noP ?_
      | with_reducible refine DL.y_po ?_)
    | with_reducible refine DL.frq_nil ?_
    | ((with_reducible apply Exists.intro); first | ((with_reducible refine And.intro ?_ ?_); · exact rfl) | ((with_reducible refine And.intro ?_ ?_); (· first | exact Or.inl rfl | exact Or.inr rfl)) | ((with_reducible apply Exists.intro); first | ((with_reducible refine And.intro ?_ ?_); · exact rfl) | ((with_reducible refine And.intro ?_ ?_); (· first | exact Or.inl rfl | exact Or.inr rfl)) | ((with_reducible apply Exists.intro); (with_reducible refine And.intro ?_ ?_); · exact rfl)))
    | ((with_reducible refine And.intro ?_ ?_); (first | (with_reducible assumption) | ((with_reducible refine DL.hd_eq ?_); with_reducible exact rfl) | ((with_reducible refine DL.hd_nle ?_); omega) | ((with_reducible refine DL.hd_nlt ?_); omega) | ((with_reducible refine DL.hd_ile ?_); omega) | ((with_reducible refine DL.hd_ilt ?_); omega) | ((with_reducible refine DL.ok62_of ?_ ?_) <;> omega) | ((with_reducible refine DL.ok24_of ?_ ?_ ?_ ?_ ?_) <;> omega) | ((with_reducible refine DL.modOk_of ?_); omega) | ((with_reducible refine DL.divOk_of ?_ ?_) <;> omega) | ((with_reducible refine DL.powOk_of ?_ ?_ ?_ ?_) <;> omega) | ((with_reducible refine DL.shrOk_of ?_); omega) | ((with_reducible refine DL.mulOk_of ?_ ?_) <;> constructor <;> omega) | ((with_reducible refine DL.lenLim ?_); simp only [List.length_cons, List.length_nil] <;> omega) | ((with_reducible refine DL.hd_nle ?_); simp only [List.length_cons, List.length_nil] <;> omega) | skip))
    | ((with_reducible refine DL.hd_eq ?_); with_reducible exact rfl)))
--END_VC
namespace K32
open PySem DL
theorem number_ok (l : List Bool) (hl : l.length ≤ 10000) : m11 [.sh (.lst (l.map .bl))] = .ok (.int (bsum l : Nat), false, [.sh (.lst (l.map .bl))]) := by
  apply yf_eq
  unfold m11
  apply y_fn
  · trace "venv"
  trace "vc"
  show FrQ _ _ (l.map D.bl).reverse _ _ _ _
  rw [← List.map_reverse]
  apply frq_map D.bl (fun i e => i ≤ l.length ∧ ∃ x, e = [some (.sh (.lst (l.map .bl))), some (.sh (.int (bsum (l.reverse.take i).reverse : Nat))), x])
  · exact ⟨Nat.zero_le _, none, rfl⟩
  · rintro i a e ha ⟨hi, x, rfl⟩
    have hi2 := get_lt ha
    rw [List.length_reverse] at hi2
    have hb : bsum (l.reverse.take i).reverse < 2 ^ i := by
      have := bsum_lt (l.reverse.take i).reverse
      rwa [List.length_reverse, List.length_take, List.length_reverse, Nat.min_eq_left (by omega)] at this
    have hm : mulOk 2 (bsum (l.reverse.take i).reverse : Nat) = true := mulOk_pow (a := 2) (b := i + 1) (by decide) (by rw [Int.natAbs_natCast, Nat.pow_succ]; omega) (by omega) (by omega) (by omega)
    unfold b11_0
    trace "vc"
    have e1 : (l.reverse.take (i + 1)).reverse = a :: (l.reverse.take i).reverse := by
      rw [List.take_add_one, ha]; simp
    rw [e1]
    exact ⟨some (.sh (.bl a)), by cases a <;> simp [bsum]⟩
  · rintro e ⟨_, x, rfl⟩
    trace "vc"
    rw [List.length_reverse, ← List.length_reverse (as := l), List.take_length, List.reverse_reverse]
theorem any_ok : TapeFn m10 [] false fun d => ∃ k : Mk, k.Ok ∧ d = k.d := tapeFn_of fun c s tp => by
  unfold m10
  apply y_fn
  · trace "venv"
  trace "vc"
  apply cq_pickBI picks rfl tp (by omega) (by omega) (fun d => by trace "vset")
  intro r c1 s1 h0 hr tp1
  have : r = 0 ∨ r = 1 ∨ r = 2 ∨ r = 3 ∨ r = 4 ∨ r = 5 ∨ r = 6 ∨ r = 7 := by omega
  rcases this with rfl | rfl | rfl | rfl | rfl | rfl | rfl | rfl
  · trace "vc"
    apply cq_pickB picks rfl tp1 (by omega) (by omega) (fun d => by trace "vset")
    intro q c2 s2 hq tp2
    trace "vc"
    exact ⟨.left (1 + q), ⟨by omega, by omega⟩, by unfold Mk.d; push_cast; rfl⟩
  · trace "vc"
    apply cq_pickB picks rfl tp1 (by omega) (by omega) (fun d => by trace "vset")
    intro q c2 s2 hq tp2
    trace "vc"
    exact ⟨.right (1 + q), ⟨by omega, by omega⟩, by unfold Mk.d; push_cast; rfl⟩
  · trace "vc"
    apply cq_pickB picks rfl tp1 (by omega) (by omega) (fun d => by trace "vset")
    intro q c2 s2 hq tp2
    trace "vc"
    exact ⟨.top (1 + q), ⟨by omega, by omega⟩, by unfold Mk.d; push_cast; rfl⟩
  · trace "vc"
    apply cq_pickB picks rfl tp1 (by omega) (by omega) (fun d => by trace "vset")
    intro q c2 s2 hq tp2
    trace "vc"
    exact ⟨.bottom (1 + q), ⟨by omega, by omega⟩, by unfold Mk.d; push_cast; rfl⟩
  · trace "vc"
    apply cq_pickB picks rfl tp1 (by omega) (by omega) (fun d => by trace "vset")
    intro q c2 s2 hq tp2
    trace "vc"
    apply cq_pickB picks rfl tp2 (by omega) (by omega) (fun d => by trace "vset")
    intro a c3 s3 ha tp3
    trace "vc"
    exact ⟨.cols a (2 + q), ⟨by omega, by omega⟩, by unfold Mk.d; push_cast; rfl⟩
  · trace "vc"
    apply cq_pickB picks rfl tp1 (by omega) (by omega) (fun d => by trace "vset")
    intro q c2 s2 hq tp2
    trace "vc"
    apply cq_pickB picks rfl tp2 (by omega) (by omega) (fun d => by trace "vset")
    intro a c3 s3 ha tp3
    trace "vc"
    exact ⟨.rows a (2 + q), ⟨by omega, by omega⟩, by unfold Mk.d; push_cast; rfl⟩
  · trace "vc"
    exact ⟨.full, trivial, rfl⟩
  · trace "vc"
    exact ⟨.light, trivial, rfl⟩
end K32


namespace K32
open PySem DL
/-- what a mask's board is -/
def Mk.bits (k : Mk) (w h : Nat) : Nat := bsum (rowsB k w h h)
theorem rowsB_get (k : Mk) (w h : Nat) (hw : 0 < w) : ∀ (n i : Nat), (rowsB k w h n).getD i false = (decide (i < w * n) && k.at w h (i / w) (i % w))
  | 0, i => by simp [rowsB]
  | n + 1, i => by
    have e : rowsB k w h (n + 1) = rowsB k w h n ++ rowB k w h n := by
      unfold rowsB
      rw [List.range_succ, List.flatMap_append]
      simp
    have ih := rowsB_get k w h hw n i
    have hl := rowsB_len k w h n
    rw [e, List.getD_eq_getElem?_getD, Nat.mul_add, Nat.mul_one]
    by_cases h1 : i < w * n
    · rw [List.getElem?_append_left (by omega), ← List.getD_eq_getElem?_getD, ih]
      simp [h1, show i < w * n + w by omega]
    · rw [List.getElem?_append_right (by omega), hl]
      by_cases h2 : i < w * n + w
      · have e3 : i = (i - w * n) + w * n := by omega
        have e4 : i % w = i - w * n := by
          rw [e3, Nat.add_mul_mod_self_left, Nat.mod_eq_of_lt (by omega)]
          omega
        have e5 : i / w = n := by
          rw [e3, Nat.add_mul_div_left _ _ hw, Nat.div_eq_of_lt (by omega)]
          omega
        rw [e4, e5]
        unfold rowB
        rw [List.getElem?_map, List.getElem?_range (by omega)]
        simp [h2]
      · unfold rowB
        rw [List.getElem?_eq_none (by simp; omega)]
        simp [h2]
theorem Mk.bit (k : Mk) {w h : Nat} (hw : 0 < w) (i : Nat) : (k.bits w h).testBit i = (decide (i < w * h) && k.at w h (i / w) (i % w)) := by
  unfold Mk.bits
  rw [bsum_bit, rowsB_get k w h hw]
theorem every_bit (w i : Nat) : (2 ^ w - 1).testBit i = decide (i < w) := Nat.testBit_two_pow_sub_one w i
theorem orAll_lt {cols : List Nat} {w : Nat} (h : ∀ c ∈ cols, c < w) : orAll cols 0 < 2 ^ w := by
  apply Nat.lt_pow_two_of_testBit
  intro i hi
  rw [or_bit]
  simp
  intro hm
  have := h i hm
  omega
theorem every_int (w : Nat) : (1 : Int) * 2 ^ ((w : Nat) : Int).toNat - 1 = ((2 ^ w - 1 : Nat) : Int) := by
  have : 1 ≤ 2 ^ w := Nat.one_le_two_pow
  rw [Int.toNat_natCast]; push_cast [this]; omega
theorem lt_mul_div {i w h : Nat} (hw : 0 < w) : i < w * h ↔ i / w < h := by
  rw [Nat.div_lt_iff_lt_mul hw, Nat.mul_comm]
section
variable {w h : Nat}
theorem left_bits {n : Nat} (hw : 0 < w) : rep (orAll (List.range (min n w)) 0) w h = (Mk.left n).bits w h := by
  apply Nat.eq_of_testBit_eq
  intro i
  have hm := Nat.mod_lt i hw
  rw [Mk.bit _ hw, rep_bit hw (orAll_lt fun c hc => by rw [List.mem_range] at hc; omega), or_bit]
  simp only [Nat.zero_testBit, Bool.false_or, List.mem_range, Mk.at]
  rw [show decide (i % w < min n w) = decide (i % w < n) from decide_eq_decide.mpr (by omega)]
theorem right_bits {n : Nat} (hw : 0 < w) : rep (orAll ((List.range (w - (w - n))).map ((w - n) + ·)) 0) w h = (Mk.right n).bits w h := by
  apply Nat.eq_of_testBit_eq
  intro i
  have hm := Nat.mod_lt i hw
  have key : (i % w ∈ (List.range (w - (w - n))).map ((w - n) + ·)) ↔ w ≤ i % w + n := by
    rw [List.mem_map]
    constructor
    · rintro ⟨a, ha, hb⟩; rw [List.mem_range] at ha; omega
    · intro hx; exact ⟨i % w - (w - n), by rw [List.mem_range]; omega, by omega⟩
  rw [Mk.bit _ hw, rep_bit hw (orAll_lt fun c hc => by obtain ⟨a, ha, rfl⟩ := List.mem_map.mp hc; rw [List.mem_range] at ha; omega), or_bit]
  simp only [Nat.zero_testBit, Bool.false_or, Mk.at]
  rw [decide_eq_decide.mpr key]
theorem step_iff {x a p w : Nat} (ha : a < p) (hx : x < w) : x ∈ stepsN a w p ↔ x % p = a := by
  rw [mem_steps (by omega)]
  constructor
  · rintro ⟨h1, _, h3⟩
    have e : x = a + (x - a) := by omega
    rw [e, Nat.add_mod, h3, Nat.add_zero, Nat.mod_mod, Nat.mod_eq_of_lt ha]
  · intro e
    have h1 : a ≤ x := by rw [← e]; exact Nat.mod_le x p
    refine ⟨h1, hx, ?_⟩
    have e2 := Nat.div_add_mod x p
    have : x - a = p * (x / p) := by omega
    rw [this]
    exact Nat.mul_mod_right p _
theorem cols_bits {a p : Nat} (hw : 0 < w) (ha : a < p) : rep (orAll (stepsN a w p) 0) w h = (Mk.cols a p).bits w h := by
  apply Nat.eq_of_testBit_eq
  intro i
  have hm := Nat.mod_lt i hw
  rw [Mk.bit _ hw, rep_bit hw (orAll_lt fun c hc => ((mem_steps (by omega)).mp hc).2.1), or_bit]
  simp only [Nat.zero_testBit, Bool.false_or, Mk.at]
  rw [decide_eq_decide.mpr (step_iff ha hm)]
theorem every_lt (w : Nat) : 2 ^ w - 1 < 2 ^ w := by have : 0 < 2 ^ w := Nat.two_pow_pos w; omega
theorem top_bits {n : Nat} (hw : 0 < w) : rep (2 ^ w - 1) w (min n h) = (Mk.top n).bits w h := by
  apply Nat.eq_of_testBit_eq
  intro i
  have hm := Nat.mod_lt i hw
  rw [Mk.bit _ hw, rep_bit hw (every_lt w), every_bit, decide_eq_true hm, Bool.and_true]
  simp only [Mk.at, lt_mul_div hw]
  rw [← Bool.decide_and]
  exact decide_eq_decide.mpr (by omega)
theorem full_bits (hw : 0 < w) : rep (2 ^ w - 1) w h = Mk.full.bits w h := by
  apply Nat.eq_of_testBit_eq
  intro i
  have hm := Nat.mod_lt i hw
  rw [Mk.bit _ hw, rep_bit hw (every_lt w), every_bit, decide_eq_true hm]
  rfl
theorem bottom_bits {n : Nat} (hw : 0 < w) : rep (2 ^ w - 1) w (min n h) * 2 ^ (w * (h - min n h)) = (Mk.bottom n).bits w h := by
  apply Nat.eq_of_testBit_eq
  intro i
  have hm := Nat.mod_lt i hw
  rw [Mk.bit _ hw, Nat.testBit_mul_two_pow, rep_bit hw (every_lt w), every_bit, decide_eq_true (Nat.mod_lt _ hw), Bool.and_true]
  simp only [Mk.at]
  rw [← Bool.decide_and, ← Bool.decide_and]
  apply decide_eq_decide.mpr
  have k1 : w * (h - min n h) ≤ i ↔ h - min n h ≤ i / w := by rw [Nat.le_div_iff_mul_le hw, Nat.mul_comm]
  have k2 : w * h = w * min n h + w * (h - min n h) := by rw [← Nat.mul_add]; congr 1; omega
  generalize i / w = q at k1
  constructor
  · rintro ⟨h1, h2⟩
    have h3 := k1.mp h1
    exact ⟨by omega, by omega⟩
  · rintro ⟨h1, h2⟩
    have h3 := k1.mpr (by omega)
    exact ⟨h3, by omega⟩
end
theorem irange_lit (n : Nat) : irange 0 (n : Int).toNat = (List.range n).map nD := by rw [Int.toNat_natCast]; exact irange_zero n
theorem shl_nat {n b : Nat} {j : Int} (h : n < 2 ^ b) (hj : 0 ≤ j) (hb : (b : Int) + j ≤ 2 ^ 27) : shlOk (n : Int) j = true := by
  have : Builtin.Int.intBits (n : Int) ≤ b := by
    unfold Builtin.Int.intBits
    split
    · omega
    · rename_i h0
      have hn : n ≠ 0 := fun z => by subst z; exact h0 rfl
      rw [Int.natAbs_natCast]
      exact (Nat.log2_lt hn).mpr h
  unfold shlOk
  rw [decide_eq_true hj, decide_eq_true (by omega)]
  rfl
/-- rows joined -/
def orRows (f : Nat → Nat) (w : Nat) (l : List Nat) (r : Nat) : Nat := l.foldl (fun r q => r ||| f q * 2 ^ (w * q)) r
theorem orRows_bit {f : Nat → Nat} {w : Nat} (hw : 0 < w) (hf : ∀ q, f q < 2 ^ w) : ∀ (l : List Nat) (r i : Nat), (orRows f w l r).testBit i = (r.testBit i || (decide (i / w ∈ l) && (f (i / w)).testBit (i % w)))
  | [], r, i => by simp [orRows]
  | q :: l, r, i => by
    have ih := orRows_bit hw hf l (r ||| f q * 2 ^ (w * q)) i
    show (orRows f w l (r ||| f q * 2 ^ (w * q))).testBit i = _
    have hm := Nat.mod_lt i hw
    rw [ih, Nat.testBit_or, Nat.testBit_mul_two_pow, Bool.or_assoc]
    congr 1
    have e := Nat.div_add_mod i w
    by_cases h : i / w = q
    · have h2 : w * q ≤ i := by rw [← h]; omega
      have h3 : i - w * q = i % w := by rw [← h]; omega
      simp [h, h2, h3]
    · have h4 : ¬ (w * q ≤ i ∧ (f q).testBit (i - w * q) = true) := fun ⟨h5, h6⟩ => by
        have h7 : i - w * q < w := by
          rcases Nat.lt_or_ge (i - w * q) w with h8 | h8
          · exact h8
          · have := Nat.testBit_lt_two_pow (Nat.lt_of_lt_of_le (hf q) (Nat.pow_le_pow_right (by decide) h8))
            rw [this] at h6; cases h6
        exact h (by rw [Nat.div_eq_iff hw]; have e9 : q * w = w * q := Nat.mul_comm q w; omega)
      have h5 : (decide (w * q ≤ i) && (f q).testBit (i - w * q)) = false := by
        cases h6 : (decide (w * q ≤ i) && (f q).testBit (i - w * q)) with
        | false => rfl
        | true => simp at h6; exact absurd h6 h4
      rw [h5]
      simp [h]
theorem orRows_lt {f : Nat → Nat} {w h : Nat} (hf : ∀ q, f q < 2 ^ w) : ∀ (l : List Nat) (r : Nat), (∀ q ∈ l, q < h) → r < 2 ^ (w * h) → orRows f w l r < 2 ^ (w * h)
  | [], r, _, hr => hr
  | q :: l, r, hl, hr => by
    refine orRows_lt (f := f) hf l _ (fun q hq => hl q (List.mem_cons_of_mem _ hq)) (Nat.or_lt_two_pow hr ?_)
    have hq := hl q List.mem_cons_self
    calc f q * 2 ^ (w * q) < 2 ^ w * 2 ^ (w * q) := Nat.mul_lt_mul_of_pos_right (hf q) (Nat.two_pow_pos _)
      _ = 2 ^ (w + w * q) := (Nat.pow_add ..).symm
      _ ≤ 2 ^ (w * h) := Nat.pow_le_pow_right (by decide) (by rw [Nat.add_comm, ← Nat.mul_succ]; exact Nat.mul_le_mul_left _ hq)
theorem rows_bits {w h a p : Nat} (hw : 0 < w) (ha : a < p) : orRows (fun _ => 2 ^ w - 1) w (stepsN a h p) 0 = (Mk.rows a p).bits w h := by
  apply Nat.eq_of_testBit_eq
  intro i
  rw [Mk.bit _ hw, orRows_bit hw (fun _ => every_lt w), every_bit, decide_eq_true (Nat.mod_lt i hw)]
  simp only [Nat.zero_testBit, Bool.false_or, Mk.at, Bool.and_true, lt_mul_div hw]
  rw [← Bool.decide_and]
  apply decide_eq_decide.mpr
  constructor
  · intro hm
    have h1 := ((mem_steps (by omega)).mp hm).2.1
    exact ⟨h1, (step_iff ha h1).mp hm⟩
  · rintro ⟨h1, h2⟩
    exact (step_iff ha h1).mpr h2
theorem step_lt {a w : Nat} : orAll (stepsN a w 2) 0 < 2 ^ w := orAll_lt fun c hc => ((mem_steps (by omega)).mp hc).2.1
theorem light_bits {w h : Nat} (hw : 0 < w) : orRows (fun q => orAll (stepsN (q % 2) w 2) 0) w (List.range h) 0 = Mk.light.bits w h := by
  apply Nat.eq_of_testBit_eq
  intro i
  rw [Mk.bit _ hw, orRows_bit hw (fun _ => step_lt), or_bit]
  simp only [Nat.zero_testBit, Bool.false_or, Mk.at, lt_mul_div hw, List.mem_range]
  congr 1
  apply decide_eq_decide.mpr
  rw [step_iff (Nat.mod_lt _ (by decide)) (Nat.mod_lt i hw)]
  omega
theorem mask_left (n : Nat) (w h : Nat) (hw : 1 ≤ w) (hh : 1 ≤ h) (hw2 : w ≤ 100) (hh2 : h ≤ 100) : m5 [.sh (Mk.left n).d, .sh (.int w), .sh (.int h)] = .ok (.int ((Mk.left n).bits w h : Nat), false, [.sh (Mk.left n).d, .sh (.int w), .sh (.int h)]) := by
  have c := size_ok w h (by omega) (by omega)
  have e1 : shlOk 1 (w : Int) = true := one_shl (by omega) (by omega)
  have cr := row_ok (List.range (min n w)) fun c hc => by rw [List.mem_range] at hc; omega
  have cp := repeated_ok (orAll (List.range (min n w)) 0) w h (by omega) (by omega) (by omega) (orAll_lt fun c hc => by rw [List.mem_range] at hc; omega)
  rw [left_bits (by omega)] at cp
  apply yf_eq
  unfold m5
  apply y_fn
  · trace "venv"
  trace "vc"
  apply cq_f c rfl rfl
  trace "vc"
  have e2 : (min (n : Int) w) = ((min n w : Nat) : Int) := by omega
  rw [e2, irange_lit]
  apply cq_f cr rfl rfl
  trace "vc"
  apply cq_f cp rfl rfl
  trace "vc"
theorem mask_right (n : Nat) (w h : Nat) (hw : 1 ≤ w) (hh : 1 ≤ h) (hw2 : w ≤ 100) (hh2 : h ≤ 100) : m5 [.sh (Mk.right n).d, .sh (.int w), .sh (.int h)] = .ok (.int ((Mk.right n).bits w h : Nat), false, [.sh (Mk.right n).d, .sh (.int w), .sh (.int h)]) := by
  have c := size_ok w h (by omega) (by omega)
  have e1 : shlOk 1 (w : Int) = true := one_shl (by omega) (by omega)
  have cr := row_ok ((List.range (w - (w - n))).map ((w - n) + ·)) fun c hc => by obtain ⟨a, ha, rfl⟩ := List.mem_map.mp hc; rw [List.mem_range] at ha; omega
  have cp := repeated_ok (orAll ((List.range (w - (w - n))).map ((w - n) + ·)) 0) w h (by omega) (by omega) (by omega) (orAll_lt fun c hc => by obtain ⟨a, ha, rfl⟩ := List.mem_map.mp hc; rw [List.mem_range] at ha; omega)
  rw [right_bits (by omega)] at cp
  apply yf_eq
  unfold m5
  apply y_fn
  · trace "venv"
  trace "vc"
  apply cq_f c rfl rfl
  trace "vc"
  have e2 : (max 0 ((w : Int) - n)) = ((w - n : Nat) : Int) := by omega
  have e3 : ((w : Int) - ((w - n : Nat) : Int)).toNat = w - (w - n) := by omega
  rw [e2, e3, irange_nat]
  apply cq_f cr rfl rfl
  trace "vc"
  apply cq_f cp rfl rfl
  trace "vc"
theorem mask_cols (a p : Nat) (w h : Nat) (ha : a < p) (hp : p ≤ 3) (hw : 1 ≤ w) (hh : 1 ≤ h) (hw2 : w ≤ 100) (hh2 : h ≤ 100) : m5 [.sh (Mk.cols a p).d, .sh (.int w), .sh (.int h)] = .ok (.int ((Mk.cols a p).bits w h : Nat), false, [.sh (Mk.cols a p).d, .sh (.int w), .sh (.int h)]) := by
  have c := size_ok w h (by omega) (by omega)
  have e1 : shlOk 1 (w : Int) = true := one_shl (by omega) (by omega)
  have cr := row_ok (stepsN a w p) fun c hc => by have := ((mem_steps (by omega)).mp hc).2.1; omega
  have cp := repeated_ok (orAll (stepsN a w p) 0) w h (by omega) (by omega) (by omega) (orAll_lt fun c hc => ((mem_steps (by omega)).mp hc).2.1)
  rw [cols_bits (by omega) ha] at cp
  have r1 : rg3ok a w p = true := rg3ok_nat (by omega) (by omega) (by omega) (by omega)
  apply yf_eq
  unfold m5
  apply y_fn
  · trace "venv"
  trace "vc"
  apply cq_f c rfl rfl
  trace "vc"
  · have := stepsN_len (a := a) (w := w) (c := p) (by omega)
    have e5 : rg3n a w p = (stepsN a w p).length := by rw [rg3n_nat (by omega)]; unfold stepsN; rw [List.length_map, List.length_range]
    rw [e5]; omega
  rw [irange3_nat (by omega)]
  apply cq_f cr rfl rfl
  trace "vc"
  apply cq_f cp rfl rfl
  trace "vc"
theorem mask_top (n : Nat) (w h : Nat) (hw : 1 ≤ w) (hh : 1 ≤ h) (hw2 : w ≤ 100) (hh2 : h ≤ 100) : m5 [.sh (Mk.top n).d, .sh (.int w), .sh (.int h)] = .ok (.int ((Mk.top n).bits w h : Nat), false, [.sh (Mk.top n).d, .sh (.int w), .sh (.int h)]) := by
  have c := size_ok w h (by omega) (by omega)
  have e1 : shlOk 1 (w : Int) = true := one_shl (by omega) (by omega)
  have cp := repeated_ok (2 ^ w - 1) w (min n h) (by omega) (by omega) (by omega) (every_lt w)
  rw [top_bits (by omega)] at cp
  have e2 : (min (n : Int) h) = ((min n h : Nat) : Int) := by omega
  have ev := every_int w
  apply yf_eq
  unfold m5
  apply y_fn
  · trace "venv"
  trace "vc"
  apply cq_f c rfl rfl
  trace "vc"
  rw [e2, ev]
  apply cq_f cp rfl rfl
  trace "vc"
theorem mask_bottom (n : Nat) (w h : Nat) (hw : 1 ≤ w) (hh : 1 ≤ h) (hw2 : w ≤ 100) (hh2 : h ≤ 100) : m5 [.sh (Mk.bottom n).d, .sh (.int w), .sh (.int h)] = .ok (.int ((Mk.bottom n).bits w h : Nat), false, [.sh (Mk.bottom n).d, .sh (.int w), .sh (.int h)]) := by
  have c := size_ok w h (by omega) (by omega)
  have e1 : shlOk 1 (w : Int) = true := one_shl (by omega) (by omega)
  have cp := repeated_ok (2 ^ w - 1) w (min n h) (by omega) (by omega) (by omega) (every_lt w)
  have e2 : (min (n : Int) h) = ((min n h : Nat) : Int) := by omega
  have ev := every_int w
  have e4 : (w : Int) * ((h : Int) - ((min n h : Nat) : Int)) = ((w * (h - min n h) : Nat) : Int) := by
    rw [show (h : Int) - ((min n h : Nat) : Int) = ((h - min n h : Nat) : Int) by omega]; push_cast; rfl
  have b1 : w * (h - min n h) ≤ 100 * 100 := Nat.mul_le_mul hw2 (by omega)
  have b2 : w * min n h ≤ 100 * 100 := Nat.mul_le_mul hw2 (by omega)
  apply yf_eq
  unfold m5
  apply y_fn
  · trace "venv"
  trace "vc"
  apply cq_f c rfl rfl
  trace "vc"
  rw [e2, ev]
  apply cq_f cp rfl rfl
  trace "vc"
  · rw [e4]; exact shl_nat (b := w * min n h) (rep_lt (every_lt w) _) (by omega) (by omega)
  · rw [e4, Int.toNat_natCast, ← bottom_bits (n := n) (w := w) (h := h) (by omega)]; push_cast; rfl
theorem mask_full (w h : Nat) (hw : 1 ≤ w) (hh : 1 ≤ h) (hw2 : w ≤ 100) (hh2 : h ≤ 100) : m5 [.sh (Mk.full).d, .sh (.int w), .sh (.int h)] = .ok (.int ((Mk.full).bits w h : Nat), false, [.sh (Mk.full).d, .sh (.int w), .sh (.int h)]) := by
  have c := size_ok w h (by omega) (by omega)
  have e1 : shlOk 1 (w : Int) = true := one_shl (by omega) (by omega)
  have cp := repeated_ok (2 ^ w - 1) w h (by omega) (by omega) (by omega) (every_lt w)
  rw [full_bits (by omega)] at cp
  have ev := every_int w
  apply yf_eq
  unfold m5
  apply y_fn
  · trace "venv"
  trace "vc"
  apply cq_f c rfl rfl
  trace "vc"
  rw [ev]
  apply cq_f cp rfl rfl
  trace "vc"
end K32


namespace K32
open PySem DL
theorem or_nat (a b : Nat) : Builtin.bitOr (a : Int) (b : Int) = ((a ||| b : Nat) : Int) := by
  rw [L2.bitOr_nn (Int.natCast_nonneg _) (Int.natCast_nonneg _), Int.toNat_natCast, Int.toNat_natCast]
theorem shl_eq (a b : Nat) {j : Int} (hj : j = (b : Int)) : (a : Int) * 2 ^ j.toNat = ((a * 2 ^ b : Nat) : Int) := by subst hj; rw [Int.toNat_natCast]; push_cast; rfl
theorem rows_loop {A B1 C D1 E : Option B} {w ev : Nat} {X : XQ} {N : DEnv → Prop} {R : T → DEnv → Prop} (hw : w ≤ 100) (hev : ev < 2 ^ w) : ∀ (l : List Nat) (r : Nat) (x : Option B), (∀ q ∈ l, q < 100) → (∀ x, N [A, some (.sh (.int w)), B1, C, D1, some (.sh (.int ev)), E, some (.sh (.int (orRows (fun _ => ev) w l r : Nat))), x]) →
    FrQ (fgName 8) b5_0 (l.map nD) [A, some (.sh (.int w)), B1, C, D1, some (.sh (.int ev)), E, some (.sh (.int r)), x] N R X
  | [], r, x, _, k => frq_nil (k x)
  | q :: l, r, x, hl, k => by
    have ih := rows_loop (A := A) (B1 := B1) (C := C) (D1 := D1) (E := E) (X := X) (N := N) (R := R) hw hev l (r ||| ev * 2 ^ (w * q)) (some (.sh (.int q))) (fun q hq => hl q (List.mem_cons_of_mem _ hq)) k
    have hq := hl q List.mem_cons_self
    have hb : w * q ≤ 100 * 100 := Nat.mul_le_mul hw (by omega)
    have hm : mulOk (w : Int) (q : Int) = true := mulOk_of (by omega) (by omega)
    have hs : shlOk (ev : Int) ((w : Int) * (q : Int)) = true := shl_nat hev (by omega) (by omega)
    rw [List.map_cons]
    apply frq_cons
    unfold b5_0
    trace "vc"
    rw [shl_eq ev (w * q) (by push_cast; rfl), or_nat]
    exact ih
theorem light_loop {A B1 C D1 E1 E : Option B} {w : Nat} {X : XQ} {N : DEnv → Prop} {R : T → DEnv → Prop} (hw : w ≤ 100) : ∀ (l : List Nat) (r : Nat) (x : Option B), (∀ q ∈ l, q < 100) → (∀ x, N [A, some (.sh (.int w)), B1, C, D1, E1, E, some (.sh (.int (orRows (fun q => orAll (stepsN (q % 2) w 2) 0) w l r : Nat))), x]) →
    FrQ (fgName 8) b5_1 (l.map nD) [A, some (.sh (.int w)), B1, C, D1, E1, E, some (.sh (.int r)), x] N R X
  | [], r, x, _, k => frq_nil (k x)
  | q :: l, r, x, hl, k => by
    have ih := light_loop (A := A) (B1 := B1) (C := C) (D1 := D1) (E1 := E1) (E := E) (X := X) (N := N) (R := R) hw l (r ||| orAll (stepsN (q % 2) w 2) 0 * 2 ^ (w * q)) (some (.sh (.int q))) (fun q hq => hl q (List.mem_cons_of_mem _ hq)) k
    have hq := hl q List.mem_cons_self
    have hb : w * q ≤ 100 * 100 := Nat.mul_le_mul hw (by omega)
    have hm : mulOk (w : Int) (q : Int) = true := mulOk_of (by omega) (by omega)
    have hlt : orAll (stepsN (q % 2) w 2) 0 < 2 ^ w := step_lt
    have hs : shlOk (orAll (stepsN (q % 2) w 2) 0 : Nat) ((w : Int) * (q : Int)) = true := shl_nat hlt (by omega) (by omega)
    have hmod : ((q : Int)).fmod 2 = ((q % 2 : Nat) : Int) := by rw [Int.fmod_eq_emod_of_nonneg _ (by omega)]; omega
    have r1 : rg3ok ((q % 2 : Nat) : Int) w (2 : Nat) = true := rg3ok_nat (by omega) (by omega) (by omega) (by omega)
    have r2 : rg3n ((q % 2 : Nat) : Int) w (2 : Nat) ≤ 1000000 := by
      have := stepsN_len (a := q % 2) (w := w) (c := 2) (by omega)
      have e5 : rg3n (q % 2 : Nat) w (2 : Nat) = (stepsN (q % 2) w 2).length := by rw [rg3n_nat (by omega)]; unfold stepsN; rw [List.length_map, List.length_range]
      rw [e5]; omega
    have cr := row_ok (stepsN (q % 2) w 2) fun c hc => by have := ((mem_steps (by omega)).mp hc).2.1; omega
    rw [List.map_cons]
    apply frq_cons
    unfold b5_1
    trace "vc"
    · rw [hmod]; exact r1
    · rw [hmod]; exact r2
    rw [hmod]
    have e6 := irange3_nat (a := q % 2) (w := w) (c := 2) (by omega)
    rw [show ((2 : Nat) : Int) = 2 from rfl] at e6
    rw [e6]
    apply cq_f cr rfl rfl
    trace "vc"
    rw [shl_eq _ (w * q) (by push_cast; rfl), or_nat]
    exact ih
theorem mask_rows (a p : Nat) (w h : Nat) (ha : a < p) (hp : p ≤ 3) (hw : 1 ≤ w) (hh : 1 ≤ h) (hw2 : w ≤ 100) (hh2 : h ≤ 100) : m5 [.sh (Mk.rows a p).d, .sh (.int w), .sh (.int h)] = .ok (.int ((Mk.rows a p).bits w h : Nat), false, [.sh (Mk.rows a p).d, .sh (.int w), .sh (.int h)]) := by
  have c := size_ok w h (by omega) (by omega)
  have e1 : shlOk 1 (w : Int) = true := one_shl (by omega) (by omega)
  have ev := every_int w
  have r1 : rg3ok a h p = true := rg3ok_nat (by omega) (by omega) (by omega) (by omega)
  apply yf_eq
  unfold m5
  apply y_fn
  · trace "venv"
  trace "vc"
  apply cq_f c rfl rfl
  trace "vc"
  rw [ev, irange3_nat (by omega)]
  refine rows_loop hw2 (every_lt w) (stepsN a h p) 0 none (fun q hq => by have := ((mem_steps (by omega)).mp hq).2.1; omega) (fun x => ?_)
  rw [rows_bits (by omega) ha]
  trace "vc"
theorem mask_light (w h : Nat) (hw : 1 ≤ w) (hh : 1 ≤ h) (hw2 : w ≤ 100) (hh2 : h ≤ 100) : m5 [.sh (Mk.light).d, .sh (.int w), .sh (.int h)] = .ok (.int ((Mk.light).bits w h : Nat), false, [.sh (Mk.light).d, .sh (.int w), .sh (.int h)]) := by
  have c := size_ok w h (by omega) (by omega)
  have e1 : shlOk 1 (w : Int) = true := one_shl (by omega) (by omega)
  apply yf_eq
  unfold m5
  apply y_fn
  · trace "venv"
  trace "vc"
  apply cq_f c rfl rfl
  have o6 : ok62 (h : Int) = true := ok62_of (by omega) (by omega)
  generalize hh3 : (h : Int) = hI at o6 ⊢
  trace "vc"
  rw [← hh3, irange_lit]
  refine light_loop hw2 (List.range h) 0 none (fun q hq => by rw [List.mem_range] at hq; omega) (fun x => ?_)
  rw [light_bits (by omega)]
  trace "vc"
theorem mask_ok (k : Mk) (hk : k.Ok) (w h : Nat) (hw : 1 ≤ w) (hh : 1 ≤ h) (hw2 : w ≤ 100) (hh2 : h ≤ 100) : m5 [.sh k.d, .sh (.int w), .sh (.int h)] = .ok (.int (k.bits w h : Nat), false, [.sh k.d, .sh (.int w), .sh (.int h)]) := by
  cases k with
  | left n => exact mask_left n w h hw hh hw2 hh2
  | right n => exact mask_right n w h hw hh hw2 hh2
  | top n => exact mask_top n w h hw hh hw2 hh2
  | bottom n => exact mask_bottom n w h hw hh hw2 hh2
  | cols a p => exact mask_cols a p w h hk.1 hk.2 hw hh hw2 hh2
  | rows a p => exact mask_rows a p w h hk.1 hk.2 hw hh hw2 hh2
  | full => exact mask_full w h hw hh hw2 hh2
  | light => exact mask_light w h hw hh hw2 hh2
theorem mask_bad (d : D) (w h : Int) (hb : w < 1 ∨ h < 1) : ∃ e, m5 [.sh d, .sh (.int w), .sh (.int h)] = .exc ⟨1, [.int w, .int h]⟩ e := by
  obtain ⟨e, c⟩ := size_bad w h hb
  apply yf_x
  unfold m5
  apply y_fn
  · trace "venv"
  trace "vc"
  exact cq_x c rfl rfl rfl
theorem refused_ok (d : D) (w h : Int) (hb : w < 1 ∨ h < 1) : m12 [.sh d, .sh (.int w), .sh (.int h)] = .ok (.bl true, false, [.sh d, .sh (.int w), .sh (.int h)]) := by
  obtain ⟨e, c⟩ := mask_bad d w h hb
  apply yf_eq
  unfold m12
  apply y_fn
  · trace "venv"
  trace "vc"
  apply cq_x c rfl rfl
  refine .inl ⟨rfl, rfl, by show 3 < 4; decide, ?_⟩
  trace "vc"
  · exact ok_ints [w, h]
  · exact ok_ints [w, h]
  · exact rfl
  · exact rfl
  · simp
end K32


namespace K32
open PySem DL
theorem tape_t (ns : List Int) (k : Int) (hk : 0 ≤ k) (hk2 : k ≤ 10 ^ 6) : ∃ c s, m6 [.sh (.rol (ns.map .int)), .sh (.int k)] = .ok (TP c s, true, [.sh (.rol (ns.map .int)), .sh (.int k)]) ∧ TpOk c s := tape_ok ns k hk hk2
theorem due_ok (k : Mk) (hk : k.Ok) (w h : Nat) (hw : w ≤ 100) (hh : h ≤ 100) : m11 [.sh (.lst ((rowsB k w h h).map .bl))] = .ok (.int (k.bits w h : Nat), false, [.sh (.lst ((rowsB k w h h).map .bl))]) :=
  number_ok _ (by rw [rowsB_len]; exact Nat.mul_le_mul hw hh)
abbrev tail13 : FS := (fSeq (fSet 6 (fCall [false] [] m11 (fA1 (fCall [false, false, false] [] m9 (fA1 (fVar 3) (fA1 (fVar 4) (fA1 (fVar 5) fA0)))) fA0)))
  (fSeq (fIfS (fOr (fB (fOp2 opNe (fCall [false, false, false] [] m5 (fA1 (fVar 3) (fA1 (fVar 4) (fA1 (fVar 5) fA0)))) (fVar 6))) (fB (fOp2 opNe (fCall [false, false, false] [] m5 (fA1 (fVar 3) (fA1 (fVar 4) (fA1 (fVar 5) fA0)))) (fVar 6))))
  (fRet (fC (.bl false))) fNext)
  (fSeq (fSet 7 (fOp2 opSub (fC (.int 0)) (fCall [true, false] [] m7 (fA1 (fVar 2) (fA1 (fC (.int 3)) fA0)))))
  (fIfS (fOr (fNot (fB (fCall [false, false, false] [] m12 (fA1 (fVar 3) (fA1 (fVar 7) (fA1 (fVar 5) fA0)))))) (fNot (fB (fCall [false, false, false] [] m12 (fA1 (fVar 3) (fA1 (fVar 4) (fA1 (fVar 7) fA0)))))))
  (fRet (fC (.bl false))) fNext))))
def tailD : FS := tail13
theorem b13_eq : b13_0 = (fSeq (fSet 2 (fCall [false, false] [] m6 (fA1 (fVar 0) (fA1 (fVar 1) fA0))))
  (fSeq (fSet 3 (fCall [true] [] m10 (fA1 (fVar 2) fA0)))
  (fSeq (fSet 4 (fOp2 opAdd (fC (.int 1)) (fCall [true, false] [] m7 (fA1 (fVar 2) (fA1 (fC (.int 9)) fA0)))))
  (fSeq (fSet 5 (fOp2 opAdd (fC (.int 1)) (fCall [true, false] [] m7 (fA1 (fVar 2) (fA1 (fC (.int 9)) fA0)))))
  (fSeq (fIfS (fB (fOp2 opEq (fCall [true, false] [] m7 (fA1 (fVar 2) (fA1 (fC (.int 8)) fA0))) (fC (.int 1))))
  (fSeq (fSet 4 (fOp2 opAdd (fC (.int 1)) (fCall [true, false] [] m7 (fA1 (fVar 2) (fA1 (fC (.int 60)) fA0)))))
  (fSet 5 (fOp2 opAdd (fC (.int 1)) (fCall [true, false] [] m7 (fA1 (fVar 2) (fA1 (fC (.int 30)) fA0)))))) fNext)
  tailD))))) := rfl
theorem tail_ok (L : List Int) (i : Nat) (k : Mk) (hk : k.Ok) (w h : Nat) (c s : Int) (tp : TpOk c s) (hw : 1 ≤ w) (hw2 : w ≤ 100) (hh : 1 ≤ h) (hh2 : h ≤ 100) (f g : Option B) : YS tailD [some (.sh (.rol (L.map .int))), some (.sh (.int (i : Nat))), some (.ow (TP c s)), some (.sh k.d), some (.sh (.int w)), some (.sh (.int h)), f, g]
    (fun e => ∃ a b c d f g, e = [some (.sh (.rol (L.map .int))), some (.sh (.int (i : Nat))), a, b, c, d, f, g]) (fun _ _ => False) (fun _ => False) (fun _ => False) (fun _ _ => False) := by
  have c9 := bits_ok k hk w h hw2 hh2
  have cd := due_ok k hk w h hw2 hh2
  have cm := mask_ok k hk w h hw hh hw2 hh2
  unfold tailD tail13
  trace "vc"
  apply cq_n c9 rfl rfl
  trace "vc"
  apply cq_f cd rfl rfl
  trace "vc"
  apply cq_f cm rfl rfl
  trace "vc"
  apply cq_f cm rfl rfl
  trace "vc"
  obtain ⟨r, c1, s1, hm, hr, tp1⟩ := pickN (n := 3) picks tp (by omega) (by omega)
  apply cq_lo hm rfl rfl rfl
  · trace "vset"
  have cr := refused_ok k.d (0 - r) h (by omega)
  have cr2 := refused_ok k.d w (0 - r) (by omega)
  trace "vc"
  apply cq_f cr rfl rfl
  trace "vc"
  apply cq_f cr2 rfl rfl
  trace "vc"
  exact ⟨_, _, _, _, _, _, rfl⟩
theorem cell_ok (L : List Int) (i : Nat) (hi : i < 4) (a b c d f g : Option B) : YS b13_0 [some (.sh (.rol (L.map .int))), some (.sh (.int (i : Nat))), a, b, c, d, f, g]
    (fun e => ∃ a b c d f g, e = [some (.sh (.rol (L.map .int))), some (.sh (.int (i : Nat))), a, b, c, d, f, g]) (fun _ _ => False) (fun _ => False) (fun _ => False) (fun _ _ => False) := by
  obtain ⟨c0, s0, ht, tp⟩ := tape_t L (i : Nat) (by omega) (by omega)
  rw [b13_eq]
  trace "vc"
  apply cq_n ht rfl rfl
  trace "vc"
  obtain ⟨_, c1, s1, hm, tp1, k, hk, rfl⟩ := any_ok c0 s0 tp
  apply cq_lo hm rfl rfl rfl
  · trace "vset"
  trace "vc"
  obtain ⟨w, c2, s2, hm, hw, tp2⟩ := pickN (n := 9) picks tp1 (by omega) (by omega)
  apply cq_lo hm rfl rfl rfl
  · trace "vset"
  trace "vc"
  obtain ⟨h, c3, s3, hm, hh, tp3⟩ := pickN (n := 9) picks tp2 (by omega) (by omega)
  apply cq_lo hm rfl rfl rfl
  · trace "vset"
  trace "vc"
  obtain ⟨z, c4, s4, hm, hz, tp4⟩ := pickN (n := 8) picks tp3 (by omega) (by omega)
  apply cq_lo hm rfl rfl rfl
  · trace "vset"
  trace "vc"
  · obtain ⟨w, c5, s5, hm, hw, tp5⟩ := pickN (n := 60) picks tp4 (by omega) (by omega)
    apply cq_lo hm rfl rfl rfl
    · trace "vset"
    trace "vc"
    obtain ⟨h, c6, s6, hm, hh, tp6⟩ := pickN (n := 30) picks tp5 (by omega) (by omega)
    apply cq_lo hm rfl rfl rfl
    · trace "vset"
    trace "vc"
    have e1 : (1 : Int) + (w : Int) = ((1 + w : Nat) : Int) := by omega
    have e2 : (1 : Int) + (h : Int) = ((1 + h : Nat) : Int) := by omega
    rw [e1, e2]
    exact tail_ok L i k hk _ _ _ _ tp6 (by omega) (by omega) (by omega) (by omega) _ _
  · have e1 : (1 : Int) + (w : Int) = ((1 + w : Nat) : Int) := by omega
    have e2 : (1 : Int) + (h : Int) = ((1 + h : Nat) : Int) := by omega
    rw [e1, e2]
    exact tail_ok L i k hk _ _ _ _ tp4 (by omega) (by omega) (by omega) (by omega) _ _
end K32
namespace K32
open PySem DL
theorem law_sem (ns : List Int) (hn : ns.length ≤ 63) : ∃ q, m13 [.sh (.rol (ns.map .int))] = .ok (.bl true, false, q) := by
  refine ⟨[.sh (.rol (ns.map .int))], yf_eq ?_⟩
  unfold m13
  apply y_fn
  · trace "venv"
  trace "vc"
  apply frq_rng (fun i e => ∃ z a b c d f g, e = [some (.sh (.rol (ns.map .int))), z, a, b, c, d, f, g])
  · exact ⟨_, _, _, _, _, _, _, rfl⟩
  · rintro i e hi ⟨z, a, b, c, d, f, g, rfl⟩
    rw [List.length_map] at hi
    trace "vc"
    rw [Int.zero_add]
    refine Wq.im (Wq.un (cell_ok ns i (by omega) a b c d f g) |> fun h => ⟨h.mono (fun _ _ h => h) fun _ _ h => h.elim⟩) fun o h => ?_
    cases o with
    | nx e => obtain ⟨a, b, c, d, f, g, h⟩ := h; exact ⟨_, a, b, c, d, f, g, h⟩
    | rt t e => exact h.elim
    | bk e => exact h.elim
    | ct e => exact h.elim
  · rintro e ⟨z, a, b, c, d, f, g, rfl⟩
    trace "vc"
end K32

/-! The facts, the defs by their promises. Printed by emit.py. -/
namespace K32
open PySem L2 Evl DL
theorem sc0 : FnScope N0 ["self", "width", "height"] (defScope s0) := ⟨rfl, rfl, rfl, by decide +kernel, rfl, by decide +kernel, by decide +kernel⟩
theorem sc1 : FnScope N1 ["value", "least"] (defScope s1) := ⟨rfl, rfl, rfl, by decide +kernel, rfl, by decide +kernel, by decide +kernel⟩
theorem sc2 : FnScope N2 ["width", "height"] (defScope s2) := ⟨rfl, rfl, rfl, by decide +kernel, rfl, by decide +kernel, by decide +kernel⟩
theorem sc3 : FnScope N3 ["pattern", "width", "many"] (defScope s3) := ⟨rfl, rfl, rfl, by decide +kernel, rfl, by decide +kernel, by decide +kernel⟩
theorem sc4 : FnScope N4 ["columns"] (defScope s4) := ⟨rfl, rfl, rfl, by decide +kernel, rfl, by decide +kernel, by decide +kernel⟩
theorem sc5 : FnScope N5 ["mask", "width", "height"] (defScope s5) := ⟨rfl, rfl, rfl, by decide +kernel, rfl, by decide +kernel, by decide +kernel⟩
theorem sc6 : FnScope N6 ["_law_script", "_law_k"] (defScope s6) := ⟨rfl, rfl, rfl, by decide +kernel, rfl, by decide +kernel, by decide +kernel⟩
theorem sc7 : FnScope N7 ["_law_tape_here", "_law_many"] (defScope s7) := ⟨rfl, rfl, rfl, by decide +kernel, rfl, by decide +kernel, by decide +kernel⟩
theorem sc8 : FnScope N8 ["_law_mask", "_law_row", "_law_column", "_law_wide", "_law_high"] (defScope s8) := ⟨rfl, rfl, rfl, by decide +kernel, rfl, by decide +kernel, by decide +kernel⟩
theorem sc9 : FnScope N9 ["_law_mask", "_law_wide", "_law_high"] (defScope s9) := ⟨rfl, rfl, rfl, by decide +kernel, rfl, by decide +kernel, by decide +kernel⟩
theorem sc10 : FnScope N10 ["_law_tape_here"] (defScope s10) := ⟨rfl, rfl, rfl, by decide +kernel, rfl, by decide +kernel, by decide +kernel⟩
theorem sc11 : FnScope N11 ["_law_bits"] (defScope s11) := ⟨rfl, rfl, rfl, by decide +kernel, rfl, by decide +kernel, by decide +kernel⟩
theorem sc12 : FnScope N12 ["_law_mask", "_law_wide", "_law_high"] (defScope s12) := ⟨rfl, rfl, rfl, by decide +kernel, rfl, by decide +kernel, by decide +kernel⟩
theorem sc13 : FnScope N13 ["_law_script"] (defScope s13) := ⟨rfl, rfl, rfl, by decide +kernel, rfl, by decide +kernel, by decide +kernel⟩
structure Tx (K : PySem.W.Frag) (mg : Str → Option Value) (cl f pp : Nat → Addr) (fd : Nat → FuncData) : Prop where
  F0 : Fun K "__init__" "BadSize.__init__" s0 (f 0) (fd 0)
  B0 : Binds K (fd 0) ["self", "width", "height"] []
  X1 : XiC K (cl 1) (f 0)
  na1_width : NoAttr K (cl 1) "width"
  na1_height : NoAttr K (cl 1) "height"
  F1 : Fun K "is_integer" "is_integer" s1 (f 1) (fd 1)
  B1 : Binds K (fd 1) ["value", "least"] []
  z_int : mg "int" = none
  IS0 : IsiOk (ct K cl) (.type "int") (lkI []) (lkT [("int", true)])
  z_isinstance : mg "isinstance" = none
  z_bool : mg "bool" = none
  IS1 : IsiOk (ct K cl) (.type "bool") (lkI []) (lkT [("int", false)])
  F2 : Fun K "check_size" "check_size" s2 (f 2) (fd 2)
  B2 : Binds K (fd 2) ["width", "height"] []
  g1 : mg "is_integer" = some (.ref (f 1))
  gC1 : mg "BadSize" = some (.ref (cl 1))
  F3 : Fun K "repeated" "repeated" s3 (f 3) (fd 3)
  B3 : Binds K (fd 3) ["pattern", "width", "many"] []
  F4 : Fun K "row_of" "row_of" s4 (f 4) (fd 4)
  B4 : Binds K (fd 4) ["columns"] []
  F5 : Fun K "mask_board" "mask_board" s5 (f 5) (fd 5)
  B5 : Binds K (fd 5) ["mask", "width", "height"] []
  g2 : mg "check_size" = some (.ref (f 2))
  g3 : mg "repeated" = some (.ref (f 3))
  g4 : mg "row_of" = some (.ref (f 4))
  z_list : mg "list" = none
  z_range : mg "range" = none
  z_min : mg "min" = none
  z_max : mg "max" = none
  F6 : Fun K "_law_tape" "_law_tape" s6 (f 6) (fd 6)
  B6 : Binds K (fd 6) ["_law_script", "_law_k"] []
  z_len : mg "len" = none
  z_abs : mg "abs" = none
  F7 : Fun K "_law_pick" "_law_pick" s7 (f 7) (fd 7)
  B7 : Binds K (fd 7) ["_law_tape_here", "_law_many"] []
  F8 : Fun K "_law_in_mask" "_law_in_mask" s8 (f 8) (fd 8)
  B8 : Binds K (fd 8) ["_law_mask", "_law_row", "_law_column", "_law_wide", "_law_high"] []
  F9 : Fun K "_law_mask_bits" "_law_mask_bits" s9 (f 9) (fd 9)
  B9 : Binds K (fd 9) ["_law_mask", "_law_wide", "_law_high"] []
  g8 : mg "_law_in_mask" = some (.ref (f 8))
  F10 : Fun K "_law_any_mask" "_law_any_mask" s10 (f 10) (fd 10)
  B10 : Binds K (fd 10) ["_law_tape_here"] []
  g7 : mg "_law_pick" = some (.ref (f 7))
  F11 : Fun K "_law_number" "_law_number" s11 (f 11) (fd 11)
  B11 : Binds K (fd 11) ["_law_bits"] []
  F12 : Fun K "_law_refused" "_law_refused" s12 (f 12) (fd 12)
  B12 : Binds K (fd 12) ["_law_mask", "_law_wide", "_law_high"] []
  TR_BadSize : TryOk (ct K cl) (.ref (cl 1)) (lkI [(0, false), (1, true)])
  g5 : mg "mask_board" = some (.ref (f 5))
  XF1 : XfC K (cl 1)
  F13 : Fun K "law" "law" s13 (f 13) (fd 13)
  B13 : Binds K (fd 13) ["_law_script"] []
  g6 : mg "_law_tape" = some (.ref (f 6))
  g10 : mg "_law_any_mask" = some (.ref (f 10))
  g11 : mg "_law_number" = some (.ref (f 11))
  g9 : mg "_law_mask_bits" = some (.ref (f 9))
  g12 : mg "_law_refused" = some (.ref (f 12))
section
variable {P : Program} {w : World} {K : PySem.W.Frag} {mg : Str → Option Value} {base : Heap} {cl f pp : Nat → Addr} {fd : Nat → FuncData}
theorem ok0 (T : Tx K mg cl f pp fd) : FnOk P w K mg base CX0 1 (f 0) (fd 0) ["self", "width", "height"] (spXi (cl 1) (fnT 1)) :=
  fn_xinit (ps := N0) (ns := fnT 1) T.F0 sc0 T.X1.T rfl (by decide) (by decide) (by decide +kernel) (xnone ⟨T.na1_width, T.na1_height, trivial⟩) (fun _ _ _ _ _ _ => (pss_cons (ps_ost (pv 0) (pv 1) rfl) (pss_one (ps_ost (pv 0) (pv 2) rfl))))
theorem ok1 (T : Tx K mg cl f pp fd) : FnOk P w K mg base (CX P w) 1 (f 1) (fd 1) ["value", "least"] (spD (ct K cl) 2 m1) := by
  refine fn_ok (body := b1) T.F1 sc1 (fun bs _ => rfl) (fun cdv A outer s H E hr => ?_)
  have nd := sc1.nd
  have tk : Takes (cxOf (CX P w) P w K mg base N1 "is_integer" (defScope s1) (f 1) cdv A outer s H E) (fun cls d _ H => E cls d H) := takes_of rfl rfl rfl rfl
  have pa : PassesOwn (model P w) (cxOf (CX P w) P w K mg base N1 "is_integer" (defScope s1) (f 1) cdv A outer s H E).A (cxOf (CX P w) P w K mg base N1 "is_integer" (defScope s1) (f 1) cdv A outer s H E).env (cxOf (CX P w) P w K mg base N1 "is_integer" (defScope s1) (f 1) cdv A outer s H E).xe := passes_of rfl
  exact ⟨_, (dss_one (ds_ret (de_and (de_isi rfl (.ty _) T.IS0 rfl T.z_isinstance (de_v 0) (pe_bltn rfl T.z_int (by decide +kernel) rfl)) (de_and (de_notV (de_isi rfl (.ty _) T.IS1 rfl T.z_isinstance (de_v 0) (pe_bltn rfl T.z_bool (by decide +kernel) rfl))) (de_and1 (de_cmp op_ge ok_ge (de_v 0) (de_v 1) (nomark _)))))))⟩
theorem ok2 (T : Tx K mg cl f pp fd) : FnOk P w K mg base (CX P w) 3 (f 2) (fd 2) ["width", "height"] (spD (ct K cl) 2 m2) := by
  have G1 := ok1 (P := P) (w := w) (base := base) T
  have G0 := ok0 (P := P) (w := w) (base := base) T
  refine fn_ok (body := b2) T.F2 sc2 (fun bs _ => rfl) (fun cdv A outer s H E hr => ?_)
  have nd := sc2.nd
  have tk : Takes (cxOf (CX P w) P w K mg base N2 "check_size" (defScope s2) (f 2) cdv A outer s H E) (fun cls d _ H => E cls d H) := takes_of rfl rfl rfl rfl
  have pa : PassesOwn (model P w) (cxOf (CX P w) P w K mg base N2 "check_size" (defScope s2) (f 2) cdv A outer s H E).A (cxOf (CX P w) P w K mg base N2 "check_size" (defScope s2) (f 2) cdv A outer s H E).env (cxOf (CX P w) P w K mg base N2 "check_size" (defScope s2) (f 2) cdv A outer s H E).xe := passes_of rfl
  exact ⟨_, (dss_one (ds_if (DW.dt (dw_or (dt_not (dt_val (de_call (ms := [false, false]) tk G1 (hr.mono (by decide)) rfl T.g1 T.F1.kp T.B1 .nil (fun _ => rfl) (lenA1 (lenA1 lenA0)) rfl (da_cons (de_v 0) (da_cons de_int da_nil))))) (dw_or1 (dt_not (dt_val (de_call (ms := [false, false]) tk G1 (hr.mono (by decide)) rfl T.g1 T.F1.kp T.B1 .nil (fun _ => rfl) (lenA1 (lenA1 lenA0)) rfl (da_cons (de_v 1) (da_cons de_int da_nil))))))))
  (dss_one (ds_raise (k := 1) (n := 2) rfl tk rfl T.X1.T T.X1.iC T.X1.tI G0 (hr.mono (by decide)) T.B0 rfl T.gC1 rfl (by decide) (da_cons (de_v 0) (da_cons (de_v 1) da_nil)))) dss_nil))⟩
theorem ok3 (T : Tx K mg cl f pp fd) : FnOk P w K mg base (CX P w) 1 (f 3) (fd 3) ["pattern", "width", "many"] (spD (ct K cl) 3 m3) := by
  refine fn_ok (body := b3) T.F3 sc3 (fun bs _ => rfl) (fun cdv A outer s H E hr => ?_)
  have nd := sc3.nd
  have tk : Takes (cxOf (CX P w) P w K mg base N3 "repeated" (defScope s3) (f 3) cdv A outer s H E) (fun cls d _ H => E cls d H) := takes_of rfl rfl rfl rfl
  have pa : PassesOwn (model P w) (cxOf (CX P w) P w K mg base N3 "repeated" (defScope s3) (f 3) cdv A outer s H E).A (cxOf (CX P w) P w K mg base N3 "repeated" (defScope s3) (f 3) cdv A outer s H E).env (cxOf (CX P w) P w K mg base N3 "repeated" (defScope s3) (f 3) cdv A outer s H E).xe := passes_of rfl
  exact ⟨_, (dss_one (ds_ret (de_op op_mulA ok_mul (de_v 0) (de_op op_fdivD ok_div (de_op op_sub ok_sub (de_op op_shlW ok_shl de_int (de_op op_mulA ok_mul (de_v 1) (de_v 2))) de_int) (de_op op_sub ok_sub (de_op op_shlW ok_shl de_int (de_v 1)) de_int)))))⟩
theorem ok4 (T : Tx K mg cl f pp fd) : FnOk P w K mg base (CX P w) 1 (f 4) (fd 4) ["columns"] (spD (ct K cl) 1 m4) := by
  refine fn_ok (body := b4) T.F4 sc4 (fun bs _ => rfl) (fun cdv A outer s H E hr => ?_)
  have nd := sc4.nd
  have tk : Takes (cxOf (CX P w) P w K mg base N4 "row_of" (defScope s4) (f 4) cdv A outer s H E) (fun cls d _ H => E cls d H) := takes_of rfl rfl rfl rfl
  have pa : PassesOwn (model P w) (cxOf (CX P w) P w K mg base N4 "row_of" (defScope s4) (f 4) cdv A outer s H E).A (cxOf (CX P w) P w K mg base N4 "row_of" (defScope s4) (f 4) cdv A outer s H E).env (cxOf (CX P w) P w K mg base N4 "row_of" (defScope s4) (f 4) cdv A outer s H E).xe := passes_of rfl
  exact ⟨_, (dss_cons (ds_set (i := 1) nd rfl (Or.inl rfl) de_int)
  (dss_cons (ds_for pa rfl (di_list rfl (de_v 0)) (dg_name (i := 2) nd rfl (Or.inl rfl))
  (dss_one (ds_aug (i := 1) nd rfl (Or.inl rfl) (de_op op_shlW ok_shl de_int (de_v 2)) ipd_or ok_or)))
  (dss_one (ds_ret (de_v 1)))))⟩
theorem ok5 (T : Tx K mg cl f pp fd) : FnOk P w K mg base (CX P w) 4 (f 5) (fd 5) ["mask", "width", "height"] (spD (ct K cl) 3 m5) := by
  have G2 := ok2 (P := P) (w := w) (base := base) T
  have G3 := ok3 (P := P) (w := w) (base := base) T
  have G4 := ok4 (P := P) (w := w) (base := base) T
  refine fn_ok (body := b5) T.F5 sc5 (fun bs _ => rfl) (fun cdv A outer s H E hr => ?_)
  have nd := sc5.nd
  have tk : Takes (cxOf (CX P w) P w K mg base N5 "mask_board" (defScope s5) (f 5) cdv A outer s H E) (fun cls d _ H => E cls d H) := takes_of rfl rfl rfl rfl
  have pa : PassesOwn (model P w) (cxOf (CX P w) P w K mg base N5 "mask_board" (defScope s5) (f 5) cdv A outer s H E).A (cxOf (CX P w) P w K mg base N5 "mask_board" (defScope s5) (f 5) cdv A outer s H E).env (cxOf (CX P w) P w K mg base N5 "mask_board" (defScope s5) (f 5) cdv A outer s H E).xe := passes_of rfl
  exact ⟨_, (dss_cons (ds_expr (de_call (ms := [false, false]) tk G2 (hr.mono (by decide)) rfl T.g2 T.F2.kp T.B2 .nil (fun _ => rfl) (lenA1 (lenA1 lenA0)) rfl (da_cons (de_v 1) (da_cons (de_v 2) da_nil))))
  (dss_cons (ds_star2 rfl rfl (de_v 0) (dg_name (i := 3) nd rfl (Or.inl rfl)) (dg_name (i := 4) nd rfl (Or.inl rfl)))
  (dss_cons (ds_set (i := 5) nd rfl (Or.inl rfl) (de_op op_sub ok_sub (de_op op_shlW ok_shl de_int (de_v 1)) de_int))
  (dss_cons (ds_if (dt_cmp (op_eqD hr.units) (ok_eq (c := ct K cl)) (de_v 3) de_str (nomark _))
  (dss_one (ds_ret (de_call (ms := [false, false, false]) tk G3 (hr.mono (by decide)) rfl T.g3 T.F3.kp T.B3 .nil (fun _ => rfl) (lenA1 (lenA1 (lenA1 lenA0))) rfl (da_cons (de_call (ms := [false]) tk G4 (hr.mono (by decide)) rfl T.g4 T.F4.kp T.B4 .nil (fun _ => rfl) (lenA1 lenA0) rfl (da_cons (de_lr1 rfl rfl T.z_list rfl T.z_range (de_callB (call_min2 rfl) ok_min2 rfl T.z_min (by decide +kernel) (da_cons (de_ix ix_seq (ok_ix (c := ct K cl)) (de_v 4) de_int (fun _ _ => rfl)) (da_cons (de_v 1) da_nil)))) da_nil)) (da_cons (de_v 1) (da_cons (de_v 2) da_nil)))))) dss_nil)
  (dss_cons (ds_if (dt_cmp (op_eqD hr.units) (ok_eq (c := ct K cl)) (de_v 3) de_str (nomark _))
  (dss_one (ds_ret (de_call (ms := [false, false, false]) tk G3 (hr.mono (by decide)) rfl T.g3 T.F3.kp T.B3 .nil (fun _ => rfl) (lenA1 (lenA1 (lenA1 lenA0))) rfl (da_cons (de_call (ms := [false]) tk G4 (hr.mono (by decide)) rfl T.g4 T.F4.kp T.B4 .nil (fun _ => rfl) (lenA1 lenA0) rfl (da_cons (de_lr2 rfl rfl T.z_list rfl T.z_range (de_callB (call_max2 rfl) ok_max2 rfl T.z_max (by decide +kernel) (da_cons de_int (da_cons (de_op op_sub ok_sub (de_v 1) (de_ix ix_seq (ok_ix (c := ct K cl)) (de_v 4) de_int (fun _ _ => rfl))) da_nil))) (de_v 1)) da_nil)) (da_cons (de_v 1) (da_cons (de_v 2) da_nil)))))) dss_nil)
  (dss_cons (ds_if (dt_cmp (op_eqD hr.units) (ok_eq (c := ct K cl)) (de_v 3) de_str (nomark _))
  (dss_one (ds_ret (de_call (ms := [false, false, false]) tk G3 (hr.mono (by decide)) rfl T.g3 T.F3.kp T.B3 .nil (fun _ => rfl) (lenA1 (lenA1 (lenA1 lenA0))) rfl (da_cons (de_call (ms := [false]) tk G4 (hr.mono (by decide)) rfl T.g4 T.F4.kp T.B4 .nil (fun _ => rfl) (lenA1 lenA0) rfl (da_cons (de_lr3 rfl rfl T.z_list rfl T.z_range (da_cons (de_ix ix_seq (ok_ix (c := ct K cl)) (de_v 4) de_int (fun _ _ => rfl)) (da_cons (de_v 1) (da_cons (de_ix ix_seq (ok_ix (c := ct K cl)) (de_v 4) de_int (fun _ _ => rfl)) da_nil)))) da_nil)) (da_cons (de_v 1) (da_cons (de_v 2) da_nil)))))) dss_nil)
  (dss_cons (ds_if (dt_cmp (op_eqD hr.units) (ok_eq (c := ct K cl)) (de_v 3) de_str (nomark _))
  (dss_one (ds_ret (de_call (ms := [false, false, false]) tk G3 (hr.mono (by decide)) rfl T.g3 T.F3.kp T.B3 .nil (fun _ => rfl) (lenA1 (lenA1 (lenA1 lenA0))) rfl (da_cons (de_v 5) (da_cons (de_v 1) (da_cons (de_callB (call_min2 rfl) ok_min2 rfl T.z_min (by decide +kernel) (da_cons (de_ix ix_seq (ok_ix (c := ct K cl)) (de_v 4) de_int (fun _ _ => rfl)) (da_cons (de_v 2) da_nil))) da_nil)))))) dss_nil)
  (dss_cons (ds_if (dt_cmp (op_eqD hr.units) (ok_eq (c := ct K cl)) (de_v 3) de_str (nomark _))
  (dss_cons (ds_set (i := 6) nd rfl (Or.inl rfl) (de_callB (call_min2 rfl) ok_min2 rfl T.z_min (by decide +kernel) (da_cons (de_ix ix_seq (ok_ix (c := ct K cl)) (de_v 4) de_int (fun _ _ => rfl)) (da_cons (de_v 2) da_nil))))
  (dss_one (ds_ret (de_op op_shlW ok_shl (de_call (ms := [false, false, false]) tk G3 (hr.mono (by decide)) rfl T.g3 T.F3.kp T.B3 .nil (fun _ => rfl) (lenA1 (lenA1 (lenA1 lenA0))) rfl (da_cons (de_v 5) (da_cons (de_v 1) (da_cons (de_v 6) da_nil)))) (de_op op_mulA ok_mul (de_v 1) (de_op op_sub ok_sub (de_v 2) (de_v 6))))))) dss_nil)
  (dss_cons (ds_if (dt_cmp (op_eqD hr.units) (ok_eq (c := ct K cl)) (de_v 3) de_str (nomark _))
  (dss_cons (ds_set (i := 7) nd rfl (Or.inl rfl) de_int)
  (dss_cons (ds_for pa rfl (di_range3 rfl T.z_range (da_cons (de_ix ix_seq (ok_ix (c := ct K cl)) (de_v 4) de_int (fun _ _ => rfl)) (da_cons (de_v 2) (da_cons (de_ix ix_seq (ok_ix (c := ct K cl)) (de_v 4) de_int (fun _ _ => rfl)) da_nil)))) (dg_name (i := 8) nd rfl (Or.inl rfl))
  (dss_one (ds_aug (i := 7) nd rfl (Or.inl rfl) (de_op op_shlW ok_shl (de_v 5) (de_op op_mulA ok_mul (de_v 1) (de_v 8))) ipd_or ok_or)))
  (dss_one (ds_ret (de_v 7))))) dss_nil)
  (dss_cons (ds_if (dt_cmp (op_eqD hr.units) (ok_eq (c := ct K cl)) (de_v 3) de_str (nomark _))
  (dss_cons (ds_set (i := 7) nd rfl (Or.inl rfl) de_int)
  (dss_cons (ds_for pa rfl (di_range1 rfl T.z_range (da_cons (de_v 2) da_nil)) (dg_name (i := 8) nd rfl (Or.inl rfl))
  (dss_one (ds_aug (i := 7) nd rfl (Or.inl rfl) (de_op op_shlW ok_shl (de_call (ms := [false]) tk G4 (hr.mono (by decide)) rfl T.g4 T.F4.kp T.B4 .nil (fun _ => rfl) (lenA1 lenA0) rfl (da_cons (de_lr3 rfl rfl T.z_list rfl T.z_range (da_cons (de_op op_modN ok_mod (de_v 8) de_int) (da_cons (de_v 1) (da_cons de_int da_nil)))) da_nil)) (de_op op_mulA ok_mul (de_v 1) (de_v 8))) ipd_or ok_or)))
  (dss_one (ds_ret (de_v 7))))) dss_nil)
  (dss_one (ds_ret (de_call (ms := [false, false, false]) tk G3 (hr.mono (by decide)) rfl T.g3 T.F3.kp T.B3 .nil (fun _ => rfl) (lenA1 (lenA1 (lenA1 lenA0))) rfl (da_cons (de_v 5) (da_cons (de_v 1) (da_cons (de_v 2) da_nil))))))))))))))))⟩
theorem ok6 (T : Tx K mg cl f pp fd) : FnOk P w K mg base (CX P w) 1 (f 6) (fd 6) ["_law_script", "_law_k"] (spD (ct K cl) 2 m6) := by
  refine fn_ok (body := b6) T.F6 sc6 (fun bs _ => rfl) (fun cdv A outer s H E hr => ?_)
  have nd := sc6.nd
  have tk : Takes (cxOf (CX P w) P w K mg base N6 "_law_tape" (defScope s6) (f 6) cdv A outer s H E) (fun cls d _ H => E cls d H) := takes_of rfl rfl rfl rfl
  have pa : PassesOwn (model P w) (cxOf (CX P w) P w K mg base N6 "_law_tape" (defScope s6) (f 6) cdv A outer s H E).A (cxOf (CX P w) P w K mg base N6 "_law_tape" (defScope s6) (f 6) cdv A outer s H E).env (cxOf (CX P w) P w K mg base N6 "_law_tape" (defScope s6) (f 6) cdv A outer s H E).xe := passes_of rfl
  exact ⟨_, (dss_cons (ds_set (i := 2) nd rfl (Or.inl rfl) (de_if (dt_cmp op_lt ok_lt (de_v 1) (de_callB call_lenA (ok_len (c := ct K cl)) rfl T.z_len (by decide +kernel) (da_cons (de_v 0) da_nil)) (nomark _)) (de_ix ix_seq (ok_ix (c := ct K cl)) (de_v 0) (de_v 1) (fun _ _ => rfl)) de_int))
  (dss_one (ds_ret (de_lst (da_cons (de_callB call_abs ok_abs rfl T.z_abs (by decide +kernel) (da_cons (de_v 2) da_nil)) (da_cons (de_op op_addA ok_add (de_op op_mulA ok_mul de_int (de_v 1)) de_int) da_nil))))))⟩
theorem ok7 (T : Tx K mg cl f pp fd) : FnOk P w K mg base (CX P w) 1 (f 7) (fd 7) ["_law_tape_here", "_law_many"] (spD (ct K cl) 2 m7) := by
  refine fn_ok (body := b7) T.F7 sc7 (fun bs _ => rfl) (fun cdv A outer s H E hr => ?_)
  have nd := sc7.nd
  have tk : Takes (cxOf (CX P w) P w K mg base N7 "_law_pick" (defScope s7) (f 7) cdv A outer s H E) (fun cls d _ H => E cls d H) := takes_of rfl rfl rfl rfl
  have pa : PassesOwn (model P w) (cxOf (CX P w) P w K mg base N7 "_law_pick" (defScope s7) (f 7) cdv A outer s H E).A (cxOf (CX P w) P w K mg base N7 "_law_pick" (defScope s7) (f 7) cdv A outer s H E).env (cxOf (CX P w) P w K mg base N7 "_law_pick" (defScope s7) (f 7) cdv A outer s H E).xe := passes_of rfl
  exact ⟨_, (dss_cons (ds_if (dt_cmp op_ge ok_ge (de_ix ix_seq (ok_ix (c := ct K cl)) (de_v 0) de_int (fun _ _ => rfl)) (de_op op_pow ok_pow de_int de_int) (nomark _))
  (dss_cons (ds_set (i := 3) nd rfl (Or.inl rfl) (de_op op_modN ok_mod (de_callTy call_int1 ok_int rfl T.z_int (by decide +kernel) (da_cons (de_ix ix_seq (ok_ix (c := ct K cl)) (de_v 0) de_int (fun _ _ => rfl)) da_nil)) (de_v 1)))
  (dss_cons (ds_setL (j := 0) (pv 0) de_int (de_op op_fdivD ok_div (de_ix ix_seq (ok_ix (c := ct K cl)) (de_v 0) de_int (fun _ _ => rfl)) (de_v 1)))
  (dss_one (ds_ret (de_v 3))))) dss_nil)
  (dss_cons (ds_setL (j := 0) (pv 0) de_int (de_op op_modN ok_mod (de_callTy call_int1 ok_int rfl T.z_int (by decide +kernel) (da_cons (de_op op_addA ok_add (de_op op_addA ok_add (de_op op_mulA ok_mul (de_ix ix_seq (ok_ix (c := ct K cl)) (de_v 0) de_int (fun _ _ => rfl)) de_int) (de_op op_mulA ok_mul (de_ix ix_seq (ok_ix (c := ct K cl)) (de_v 0) de_int (fun _ _ => rfl)) de_int)) de_int) da_nil)) de_int))
  (dss_cons (ds_set (i := 2) nd rfl (Or.inl rfl) (de_op op_modN ok_mod (de_callTy call_int1 ok_int rfl T.z_int (by decide +kernel) (da_cons (de_op op_addA ok_add (de_op op_addA ok_add (de_op op_mulA ok_mul (de_ix ix_seq (ok_ix (c := ct K cl)) (de_v 0) de_int (fun _ _ => rfl)) (de_ix ix_seq (ok_ix (c := ct K cl)) (de_v 0) de_int (fun _ _ => rfl))) (de_op op_mulA ok_mul (de_ix ix_seq (ok_ix (c := ct K cl)) (de_v 0) de_int (fun _ _ => rfl)) de_int)) de_int) da_nil)) de_int))
  (dss_one (ds_ret (de_op op_modN ok_mod (de_callTy call_int1 ok_int rfl T.z_int (by decide +kernel) (da_cons (de_op op_fdivD ok_div (de_v 2) de_int) da_nil)) (de_v 1)))))))⟩
theorem ok8 (T : Tx K mg cl f pp fd) : FnOk P w K mg base (CX P w) 1 (f 8) (fd 8) ["_law_mask", "_law_row", "_law_column", "_law_wide", "_law_high"] (spD (ct K cl) 5 m8) := by
  refine fn_ok (body := b8) T.F8 sc8 (fun bs _ => rfl) (fun cdv A outer s H E hr => ?_)
  have nd := sc8.nd
  have tk : Takes (cxOf (CX P w) P w K mg base N8 "_law_in_mask" (defScope s8) (f 8) cdv A outer s H E) (fun cls d _ H => E cls d H) := takes_of rfl rfl rfl rfl
  have pa : PassesOwn (model P w) (cxOf (CX P w) P w K mg base N8 "_law_in_mask" (defScope s8) (f 8) cdv A outer s H E).A (cxOf (CX P w) P w K mg base N8 "_law_in_mask" (defScope s8) (f 8) cdv A outer s H E).env (cxOf (CX P w) P w K mg base N8 "_law_in_mask" (defScope s8) (f 8) cdv A outer s H E).xe := passes_of rfl
  exact ⟨_, (dss_cons (ds_set (i := 5) nd rfl (Or.inl rfl) (de_ix ix_seq (ok_ix (c := ct K cl)) (de_v 0) de_int (fun _ _ => rfl)))
  (dss_cons (ds_if (dt_cmp (op_eqD hr.units) (ok_eq (c := ct K cl)) (de_v 5) de_str (nomark _))
  (dss_one (ds_ret (de_cmp op_lt ok_lt (de_v 2) (de_ix ix_seq (ok_ix (c := ct K cl)) (de_v 0) de_int (fun _ _ => rfl)) (nomark _)))) dss_nil)
  (dss_cons (ds_if (dt_cmp (op_eqD hr.units) (ok_eq (c := ct K cl)) (de_v 5) de_str (nomark _))
  (dss_one (ds_ret (de_cmp op_ge ok_ge (de_v 2) (de_op op_sub ok_sub (de_v 3) (de_ix ix_seq (ok_ix (c := ct K cl)) (de_v 0) de_int (fun _ _ => rfl))) (nomark _)))) dss_nil)
  (dss_cons (ds_if (dt_cmp (op_eqD hr.units) (ok_eq (c := ct K cl)) (de_v 5) de_str (nomark _))
  (dss_one (ds_ret (de_cmp op_lt ok_lt (de_v 1) (de_ix ix_seq (ok_ix (c := ct K cl)) (de_v 0) de_int (fun _ _ => rfl)) (nomark _)))) dss_nil)
  (dss_cons (ds_if (dt_cmp (op_eqD hr.units) (ok_eq (c := ct K cl)) (de_v 5) de_str (nomark _))
  (dss_one (ds_ret (de_cmp op_ge ok_ge (de_v 1) (de_op op_sub ok_sub (de_v 4) (de_ix ix_seq (ok_ix (c := ct K cl)) (de_v 0) de_int (fun _ _ => rfl))) (nomark _)))) dss_nil)
  (dss_cons (ds_if (dt_cmp (op_eqD hr.units) (ok_eq (c := ct K cl)) (de_v 5) de_str (nomark _))
  (dss_one (ds_ret (de_cmp (op_eqD hr.units) (ok_eq (c := ct K cl)) (de_op op_modN ok_mod (de_callTy call_int1 ok_int rfl T.z_int (by decide +kernel) (da_cons (de_v 2) da_nil)) (de_ix ix_seq (ok_ix (c := ct K cl)) (de_v 0) de_int (fun _ _ => rfl))) (de_ix ix_seq (ok_ix (c := ct K cl)) (de_v 0) de_int (fun _ _ => rfl)) (nomark _)))) dss_nil)
  (dss_cons (ds_if (dt_cmp (op_eqD hr.units) (ok_eq (c := ct K cl)) (de_v 5) de_str (nomark _))
  (dss_one (ds_ret (de_cmp (op_eqD hr.units) (ok_eq (c := ct K cl)) (de_op op_modN ok_mod (de_callTy call_int1 ok_int rfl T.z_int (by decide +kernel) (da_cons (de_v 1) da_nil)) (de_ix ix_seq (ok_ix (c := ct K cl)) (de_v 0) de_int (fun _ _ => rfl))) (de_ix ix_seq (ok_ix (c := ct K cl)) (de_v 0) de_int (fun _ _ => rfl)) (nomark _)))) dss_nil)
  (dss_one (ds_ret (de_or (de_cmp (op_eqD hr.units) (ok_eq (c := ct K cl)) (de_v 5) de_str (nomark _)) (de_and1 (de_cmp (op_eqD hr.units) (ok_eq (c := ct K cl)) (de_op op_modN ok_mod (de_callTy call_int1 ok_int rfl T.z_int (by decide +kernel) (da_cons (de_op op_addA ok_add (de_v 1) (de_v 2)) da_nil)) de_int) de_int (nomark _)))))))))))))⟩
theorem ok9 (T : Tx K mg cl f pp fd) : FnOk P w K mg base (CX P w) 2 (f 9) (fd 9) ["_law_mask", "_law_wide", "_law_high"] (spD (ct K cl) 3 m9) := by
  have G8 := ok8 (P := P) (w := w) (base := base) T
  refine fn_ok (body := b9) T.F9 sc9 (fun bs _ => rfl) (fun cdv A outer s H E hr => ?_)
  have nd := sc9.nd
  have tk : Takes (cxOf (CX P w) P w K mg base N9 "_law_mask_bits" (defScope s9) (f 9) cdv A outer s H E) (fun cls d _ H => E cls d H) := takes_of rfl rfl rfl rfl
  have pa : PassesOwn (model P w) (cxOf (CX P w) P w K mg base N9 "_law_mask_bits" (defScope s9) (f 9) cdv A outer s H E).A (cxOf (CX P w) P w K mg base N9 "_law_mask_bits" (defScope s9) (f 9) cdv A outer s H E).env (cxOf (CX P w) P w K mg base N9 "_law_mask_bits" (defScope s9) (f 9) cdv A outer s H E).xe := passes_of rfl
  exact ⟨_, (dss_cons (ds_set (i := 3) nd rfl (by first | exact Or.inl rfl | exact Or.inr rfl) (de_lst da_nil))
  (dss_cons (ds_for pa rfl (di_range1 rfl T.z_range (da_cons (de_v 2) da_nil)) (dg_name (i := 4) nd rfl (by first | exact Or.inl rfl | exact Or.inr rfl))
  (dss_one (ds_set (i := 3) nd rfl (by first | exact Or.inl rfl | exact Or.inr rfl) (de_op op_addA ok_add (de_v 3) (de_lc (own := [("_law_column", 5)]) rfl nd (di_range1 rfl T.z_range (da_cons (de_v 1) da_nil)) (blkOk_by (own := [("_law_column", 5)]) (N := N9) (sc := defScope s9) (by decide +kernel)) (fun _ _ _ _ _ => (dgc_name (i := 5) nd rfl (by first | exact Or.inl rfl | exact Or.inr rfl) (by decide))) (fun _ _ _ _ _ => dts_nil) (fun _ _ _ _ _ => (de_call (ms := [false, false, false, false, false]) DL.takes0 G8 (hr.mono (by decide)) rfl T.g8 T.F8.kp T.B8 .nil (fun _ => rfl) (lenA1 (lenA1 (lenA1 (lenA1 (lenA1 lenA0))))) rfl (da_cons (de_v 0) (da_cons (de_v 4) (da_cons (de_v 5) (da_cons (de_v 1) (da_cons (de_v 2) da_nil))))))))))))
  (dss_one (ds_ret (de_v 3)))))⟩
theorem ok10 (T : Tx K mg cl f pp fd) : FnOk P w K mg base (CX P w) 2 (f 10) (fd 10) ["_law_tape_here"] (spD (ct K cl) 1 m10) := by
  have G7 := ok7 (P := P) (w := w) (base := base) T
  refine fn_ok (body := b10) T.F10 sc10 (fun bs _ => rfl) (fun cdv A outer s H E hr => ?_)
  have nd := sc10.nd
  have tk : Takes (cxOf (CX P w) P w K mg base N10 "_law_any_mask" (defScope s10) (f 10) cdv A outer s H E) (fun cls d _ H => E cls d H) := takes_of rfl rfl rfl rfl
  have pa : PassesOwn (model P w) (cxOf (CX P w) P w K mg base N10 "_law_any_mask" (defScope s10) (f 10) cdv A outer s H E).A (cxOf (CX P w) P w K mg base N10 "_law_any_mask" (defScope s10) (f 10) cdv A outer s H E).env (cxOf (CX P w) P w K mg base N10 "_law_any_mask" (defScope s10) (f 10) cdv A outer s H E).xe := passes_of rfl
  exact ⟨_, (dss_cons (ds_set (i := 1) nd rfl (Or.inl rfl) (de_call (ms := [true, false]) tk G7 (hr.mono (by decide)) rfl T.g7 T.F7.kp T.B7 .nil (fun _ => rfl) (lenA1 (lenA1 lenA0)) rfl (da_cons (de_v 0) (da_cons de_int da_nil))))
  (dss_cons (ds_if (dt_cmp op_lt ok_lt (de_v 1) de_int (nomark _))
  (dss_one (ds_ret (de_tup (da_cons (de_ix ix_seq (ok_ix (c := ct K cl)) (de_lst (da_cons de_str (da_cons de_str (da_cons de_str (da_cons de_str da_nil))))) (de_v 1) (fun _ _ => rfl)) (da_cons (de_op op_addA ok_add de_int (de_call (ms := [true, false]) tk G7 (hr.mono (by decide)) rfl T.g7 T.F7.kp T.B7 .nil (fun _ => rfl) (lenA1 (lenA1 lenA0)) rfl (da_cons (de_v 0) (da_cons de_int da_nil)))) da_nil))))) dss_nil)
  (dss_cons (ds_if (dt_cmp op_lt ok_lt (de_v 1) de_int (nomark _))
  (dss_cons (ds_set (i := 2) nd rfl (Or.inl rfl) (de_op op_addA ok_add de_int (de_call (ms := [true, false]) tk G7 (hr.mono (by decide)) rfl T.g7 T.F7.kp T.B7 .nil (fun _ => rfl) (lenA1 (lenA1 lenA0)) rfl (da_cons (de_v 0) (da_cons de_int da_nil)))))
  (dss_one (ds_ret (de_tup (da_cons (de_ix ix_seq (ok_ix (c := ct K cl)) (de_lst (da_cons de_str (da_cons de_str da_nil))) (de_op op_sub ok_sub (de_v 1) de_int) (fun _ _ => rfl)) (da_cons (de_call (ms := [true, false]) tk G7 (hr.mono (by decide)) rfl T.g7 T.F7.kp T.B7 .nil (fun _ => rfl) (lenA1 (lenA1 lenA0)) rfl (da_cons (de_v 0) (da_cons (de_v 2) da_nil))) (da_cons (de_v 2) da_nil))))))) dss_nil)
  (dss_one (ds_ret (de_if (dt_cmp (op_eqD hr.units) (ok_eq (c := ct K cl)) (de_v 1) de_int (nomark _)) (de_tup (da_cons de_str da_nil)) (de_tup (da_cons de_str da_nil))))))))⟩
theorem ok11 (T : Tx K mg cl f pp fd) : FnOk P w K mg base (CX P w) 1 (f 11) (fd 11) ["_law_bits"] (spD (ct K cl) 1 m11) := by
  refine fn_ok (body := b11) T.F11 sc11 (fun bs _ => rfl) (fun cdv A outer s H E hr => ?_)
  have nd := sc11.nd
  have tk : Takes (cxOf (CX P w) P w K mg base N11 "_law_number" (defScope s11) (f 11) cdv A outer s H E) (fun cls d _ H => E cls d H) := takes_of rfl rfl rfl rfl
  have pa : PassesOwn (model P w) (cxOf (CX P w) P w K mg base N11 "_law_number" (defScope s11) (f 11) cdv A outer s H E).A (cxOf (CX P w) P w K mg base N11 "_law_number" (defScope s11) (f 11) cdv A outer s H E).env (cxOf (CX P w) P w K mg base N11 "_law_number" (defScope s11) (f 11) cdv A outer s H E).xe := passes_of rfl
  exact ⟨_, (dss_cons (ds_set (i := 1) nd rfl (Or.inl rfl) de_int)
  (dss_cons (ds_for pa rfl (di_list rfl (de_rev rfl (de_v 0))) (dg_name (i := 2) nd rfl (Or.inl rfl))
  (dss_one (ds_set (i := 1) nd rfl (Or.inl rfl) (de_op op_addA ok_add (de_op op_mulA ok_mul de_int (de_v 1)) (de_callTy call_int1 ok_int rfl T.z_int (by decide +kernel) (da_cons (de_v 2) da_nil))))))
  (dss_one (ds_ret (de_v 1)))))⟩
theorem ok12 (T : Tx K mg cl f pp fd) : FnOk P w K mg base (CX P w) 5 (f 12) (fd 12) ["_law_mask", "_law_wide", "_law_high"] (spD (ct K cl) 3 m12) := by
  have G5 := ok5 (P := P) (w := w) (base := base) T
  refine fn_ok (body := b12) T.F12 sc12 (fun bs _ => rfl) (fun cdv A outer s H E hr => ?_)
  have nd := sc12.nd
  have tk : Takes (cxOf (CX P w) P w K mg base N12 "_law_refused" (defScope s12) (f 12) cdv A outer s H E) (fun cls d _ H => E cls d H) := takes_of rfl rfl rfl rfl
  have pa : PassesOwn (model P w) (cxOf (CX P w) P w K mg base N12 "_law_refused" (defScope s12) (f 12) cdv A outer s H E).A (cxOf (CX P w) P w K mg base N12 "_law_refused" (defScope s12) (f 12) cdv A outer s H E).env (cxOf (CX P w) P w K mg base N12 "_law_refused" (defScope s12) (f 12) cdv A outer s H E).xe := passes_of rfl
  exact ⟨_, (dss_cons (ds_try_as (i := 3) rfl rfl nd rfl rfl ⟨rfl, by decide, .inl T.gC1⟩ tk rfl T.TR_BadSize (fun W' pn xe tk pa => (dss_one (ds_expr (de_call (ms := [false, false, false]) tk G5 (hr.mono (by decide)) rfl T.g5 T.F5.kp T.B5 .nil (fun _ => rfl) (lenA1 (lenA1 (lenA1 lenA0))) rfl (da_cons (de_v 0) (da_cons (de_v 1) (da_cons (de_v 2) da_nil))))))) (fun a oe cls d pn hz hf => (dss_one (ds_ret (de_cmp (op_eqD hr.units) (ok_eq (c := (ct K cl).hd (some (a, cls, d)))) (de_lst (da_cons (de_xf (i := 3) (k := 1) rfl T.XF1 T.na1_width hz hf (pv 3)) (da_cons (de_xf (i := 3) (k := 1) rfl T.XF1 T.na1_height hz hf (pv 3)) da_nil))) (de_lst (da_cons (de_v 1) (da_cons (de_v 2) da_nil))) (nomark _))))))
  (dss_one (ds_ret de_bl)))⟩
theorem ok13 (T : Tx K mg cl f pp fd) : FnOk P w K mg base (CX P w) 6 (f 13) (fd 13) ["_law_script"] (spD (ct K cl) 1 m13) := by
  have G6 := ok6 (P := P) (w := w) (base := base) T
  have G10 := ok10 (P := P) (w := w) (base := base) T
  have G7 := ok7 (P := P) (w := w) (base := base) T
  have G11 := ok11 (P := P) (w := w) (base := base) T
  have G9 := ok9 (P := P) (w := w) (base := base) T
  have G5 := ok5 (P := P) (w := w) (base := base) T
  have G12 := ok12 (P := P) (w := w) (base := base) T
  refine fn_ok (body := b13) T.F13 sc13 (fun bs _ => rfl) (fun cdv A outer s H E hr => ?_)
  have nd := sc13.nd
  have tk : Takes (cxOf (CX P w) P w K mg base N13 "law" (defScope s13) (f 13) cdv A outer s H E) (fun cls d _ H => E cls d H) := takes_of rfl rfl rfl rfl
  have pa : PassesOwn (model P w) (cxOf (CX P w) P w K mg base N13 "law" (defScope s13) (f 13) cdv A outer s H E).A (cxOf (CX P w) P w K mg base N13 "law" (defScope s13) (f 13) cdv A outer s H E).env (cxOf (CX P w) P w K mg base N13 "law" (defScope s13) (f 13) cdv A outer s H E).xe := passes_of rfl
  exact ⟨_, (dss_cons (ds_for pa rfl (di_range1 rfl T.z_range (da_cons (de_callB (call_max2 rfl) ok_max2 rfl T.z_max (by decide +kernel) (da_cons de_int (da_cons (de_callB (call_min2 rfl) ok_min2 rfl T.z_min (by decide +kernel) (da_cons de_int (da_cons (de_callB call_lenA (ok_len (c := ct K cl)) rfl T.z_len (by decide +kernel) (da_cons (de_v 0) da_nil)) da_nil))) da_nil))) da_nil)) (dg_name (i := 1) nd rfl (Or.inl rfl))
  (dss_cons (ds_set (i := 2) nd rfl (Or.inl rfl) (de_call (ms := [false, false]) tk G6 (hr.mono (by decide)) rfl T.g6 T.F6.kp T.B6 .nil (fun _ => rfl) (lenA1 (lenA1 lenA0)) rfl (da_cons (de_v 0) (da_cons (de_v 1) da_nil))))
  (dss_cons (ds_set (i := 3) nd rfl (Or.inl rfl) (de_call (ms := [true]) tk G10 (hr.mono (by decide)) rfl T.g10 T.F10.kp T.B10 .nil (fun _ => rfl) (lenA1 lenA0) rfl (da_cons (de_v 2) da_nil)))
  (dss_cons (ds_set (i := 4) nd rfl (Or.inl rfl) (de_op op_addA ok_add de_int (de_call (ms := [true, false]) tk G7 (hr.mono (by decide)) rfl T.g7 T.F7.kp T.B7 .nil (fun _ => rfl) (lenA1 (lenA1 lenA0)) rfl (da_cons (de_v 2) (da_cons de_int da_nil)))))
  (dss_cons (ds_set (i := 5) nd rfl (Or.inl rfl) (de_op op_addA ok_add de_int (de_call (ms := [true, false]) tk G7 (hr.mono (by decide)) rfl T.g7 T.F7.kp T.B7 .nil (fun _ => rfl) (lenA1 (lenA1 lenA0)) rfl (da_cons (de_v 2) (da_cons de_int da_nil)))))
  (dss_cons (ds_if (dt_cmp (op_eqD hr.units) (ok_eq (c := ct K cl)) (de_call (ms := [true, false]) tk G7 (hr.mono (by decide)) rfl T.g7 T.F7.kp T.B7 .nil (fun _ => rfl) (lenA1 (lenA1 lenA0)) rfl (da_cons (de_v 2) (da_cons de_int da_nil))) de_int (nomark _))
  (dss_cons (ds_set (i := 4) nd rfl (Or.inl rfl) (de_op op_addA ok_add de_int (de_call (ms := [true, false]) tk G7 (hr.mono (by decide)) rfl T.g7 T.F7.kp T.B7 .nil (fun _ => rfl) (lenA1 (lenA1 lenA0)) rfl (da_cons (de_v 2) (da_cons de_int da_nil)))))
  (dss_one (ds_set (i := 5) nd rfl (Or.inl rfl) (de_op op_addA ok_add de_int (de_call (ms := [true, false]) tk G7 (hr.mono (by decide)) rfl T.g7 T.F7.kp T.B7 .nil (fun _ => rfl) (lenA1 (lenA1 lenA0)) rfl (da_cons (de_v 2) (da_cons de_int da_nil))))))) dss_nil)
  (dss_cons (ds_set (i := 6) nd rfl (Or.inl rfl) (de_call (ms := [false]) tk G11 (hr.mono (by decide)) rfl T.g11 T.F11.kp T.B11 .nil (fun _ => rfl) (lenA1 lenA0) rfl (da_cons (de_call (ms := [false, false, false]) tk G9 (hr.mono (by decide)) rfl T.g9 T.F9.kp T.B9 .nil (fun _ => rfl) (lenA1 (lenA1 (lenA1 lenA0))) rfl (da_cons (de_v 3) (da_cons (de_v 4) (da_cons (de_v 5) da_nil)))) da_nil)))
  (dss_cons (ds_if (DW.dt (dw_or (dt_cmp (op_neD hr.units) (ok_ne (c := ct K cl)) (de_call (ms := [false, false, false]) tk G5 (hr.mono (by decide)) rfl T.g5 T.F5.kp T.B5 .nil (fun _ => rfl) (lenA1 (lenA1 (lenA1 lenA0))) rfl (da_cons (de_v 3) (da_cons (de_v 4) (da_cons (de_v 5) da_nil)))) (de_v 6) (nomark _)) (dw_or1 (dt_cmp (op_neD hr.units) (ok_ne (c := ct K cl)) (de_call (ms := [false, false, false]) tk G5 (hr.mono (by decide)) rfl T.g5 T.F5.kp T.B5 .nil (fun _ => rfl) (lenA1 (lenA1 (lenA1 lenA0))) rfl (da_cons (de_v 3) (da_cons (de_v 4) (da_cons (de_v 5) da_nil)))) (de_v 6) (nomark _)))))
  (dss_one (ds_ret de_bl)) dss_nil)
  (dss_cons (ds_set (i := 7) nd rfl (Or.inl rfl) (de_op op_sub ok_sub de_int (de_call (ms := [true, false]) tk G7 (hr.mono (by decide)) rfl T.g7 T.F7.kp T.B7 .nil (fun _ => rfl) (lenA1 (lenA1 lenA0)) rfl (da_cons (de_v 2) (da_cons de_int da_nil)))))
  (dss_one (ds_if (DW.dt (dw_or (dt_not (dt_val (de_call (ms := [false, false, false]) tk G12 (hr.mono (by decide)) rfl T.g12 T.F12.kp T.B12 .nil (fun _ => rfl) (lenA1 (lenA1 (lenA1 lenA0))) rfl (da_cons (de_v 3) (da_cons (de_v 7) (da_cons (de_v 5) da_nil)))))) (dw_or1 (dt_not (dt_val (de_call (ms := [false, false, false]) tk G12 (hr.mono (by decide)) rfl T.g12 T.F12.kp T.B12 .nil (fun _ => rfl) (lenA1 (lenA1 (lenA1 lenA0))) rfl (da_cons (de_v 3) (da_cons (de_v 4) (da_cons (de_v 7) da_nil)))))))))
  (dss_one (ds_ret de_bl)) dss_nil)))))))))))
  (dss_one (ds_ret de_bl)))⟩
end
end K32

/-! What the top has written; the end. Printed by emit.py. -/
namespace K32
open PySem L2 Evl DL
theorem all_mk {l : PySem.W.OpenLaw} {w : World} {K : PySem.W.Frag} {h : Heap} {mg : Str → Option Value} {fa : Addr} (X : K.In h) (G : h.Ns mainGlobals mg) (hfa : mg "law" = some (.ref fa))
    {f0 f1 f2 f3 f4 f5 f6 f7 f8 f9 f10 f11 f12 f13 C0 C1 : Addr}
    {od0 an0 od1 an1 od2 an2 od3 an3 od4 an4 od5 an5 od6 an6 od7 an7 od8 an8 od9 an9 od10 an10 od11 an11 od12 an12 od13 an13 : Option Addr} {sl0 sl1 sl2 sl3 sl4 sl5 sl6 sl7 sl8 sl9 sl10 sl11 sl12 sl13 : Array (Option Value)} {oc0 kV0 dc0 pm0 cd0 ct0 oc1 kV1 dc1 pm1 cd1 ct1 oc2 kV2 dc2 pm2 cd2 ct2 oc3 kV3 dc3 pm3 cd3 ct3 oc4 kV4 dc4 pm4 cd4 ct4 oc5 kV5 dc5 pm5 cd5 ct5 oc6 kV6 dc6 pm6 cd6 ct6 oc7 kV7 dc7 pm7 cd7 ct7 oc8 kV8 dc8 pm8 cd8 ct8 oc9 kV9 dc9 pm9 cd9 ct9 oc10 kV10 dc10 pm10 cd10 ct10 oc11 kV11 dc11 pm11 cd11 ct11 oc12 kV12 dc12 pm12 cd12 ct12 oc13 kV13 dc13 pm13 cd13 ct13 : Value}
    {xnm1 xqn1 : Str} {xN1 : Addr} {xbs1 xbm1 xsu1 : List Value} {xsn1 : List Str} {xab1 : Bool} {xco1 : Option Bool} {xdd1 : Option Addr} {xka1 xkb1 xkc1 xkd1 xke1 : Option Value}
    (aC0 : PySem.W.nsIn K mainGlobals "BoardError" = some (some (.ref C0)))
    (aC1 : PySem.W.nsIn K mainGlobals "BadSize" = some (some (.ref C1)))
    (a0 : PySem.W.findIn K (.ref C1) "__init__" = some (some (.ref f0)))
    (l0 : K.lookup f0 = some ⟨oc0, od0, .func (PySem.W.fnOf "__init__" "BadSize.__init__" (defArgs s0) (defBody s0) (defScope s0) .none kV0 dc0 pm0 an0 cd0 ct0), sl0⟩)
    (c0 : PySem.W.codeIn K cd0 "BadSize.__init__" = true)
    (k0 : PySem.W.keepIn K (.ref f0) = true)
    (a1 : PySem.W.nsIn K mainGlobals "is_integer" = some (some (.ref f1)))
    (l1 : K.lookup f1 = some ⟨oc1, od1, .func (PySem.W.fnOf "is_integer" "is_integer" (defArgs s1) (defBody s1) (defScope s1) .none kV1 dc1 pm1 an1 cd1 ct1), sl1⟩)
    (c1 : PySem.W.codeIn K cd1 "is_integer" = true)
    (k1 : PySem.W.keepIn K (.ref f1) = true)
    (a2 : PySem.W.nsIn K mainGlobals "check_size" = some (some (.ref f2)))
    (l2 : K.lookup f2 = some ⟨oc2, od2, .func (PySem.W.fnOf "check_size" "check_size" (defArgs s2) (defBody s2) (defScope s2) .none kV2 dc2 pm2 an2 cd2 ct2), sl2⟩)
    (c2 : PySem.W.codeIn K cd2 "check_size" = true)
    (k2 : PySem.W.keepIn K (.ref f2) = true)
    (a3 : PySem.W.nsIn K mainGlobals "repeated" = some (some (.ref f3)))
    (l3 : K.lookup f3 = some ⟨oc3, od3, .func (PySem.W.fnOf "repeated" "repeated" (defArgs s3) (defBody s3) (defScope s3) .none kV3 dc3 pm3 an3 cd3 ct3), sl3⟩)
    (c3 : PySem.W.codeIn K cd3 "repeated" = true)
    (k3 : PySem.W.keepIn K (.ref f3) = true)
    (a4 : PySem.W.nsIn K mainGlobals "row_of" = some (some (.ref f4)))
    (l4 : K.lookup f4 = some ⟨oc4, od4, .func (PySem.W.fnOf "row_of" "row_of" (defArgs s4) (defBody s4) (defScope s4) .none kV4 dc4 pm4 an4 cd4 ct4), sl4⟩)
    (c4 : PySem.W.codeIn K cd4 "row_of" = true)
    (k4 : PySem.W.keepIn K (.ref f4) = true)
    (a5 : PySem.W.nsIn K mainGlobals "mask_board" = some (some (.ref f5)))
    (l5 : K.lookup f5 = some ⟨oc5, od5, .func (PySem.W.fnOf "mask_board" "mask_board" (defArgs s5) (defBody s5) (defScope s5) .none kV5 dc5 pm5 an5 cd5 ct5), sl5⟩)
    (c5 : PySem.W.codeIn K cd5 "mask_board" = true)
    (k5 : PySem.W.keepIn K (.ref f5) = true)
    (a6 : PySem.W.nsIn K mainGlobals "_law_tape" = some (some (.ref f6)))
    (l6 : K.lookup f6 = some ⟨oc6, od6, .func (PySem.W.fnOf "_law_tape" "_law_tape" (defArgs s6) (defBody s6) (defScope s6) .none kV6 dc6 pm6 an6 cd6 ct6), sl6⟩)
    (c6 : PySem.W.codeIn K cd6 "_law_tape" = true)
    (k6 : PySem.W.keepIn K (.ref f6) = true)
    (a7 : PySem.W.nsIn K mainGlobals "_law_pick" = some (some (.ref f7)))
    (l7 : K.lookup f7 = some ⟨oc7, od7, .func (PySem.W.fnOf "_law_pick" "_law_pick" (defArgs s7) (defBody s7) (defScope s7) .none kV7 dc7 pm7 an7 cd7 ct7), sl7⟩)
    (c7 : PySem.W.codeIn K cd7 "_law_pick" = true)
    (k7 : PySem.W.keepIn K (.ref f7) = true)
    (a8 : PySem.W.nsIn K mainGlobals "_law_in_mask" = some (some (.ref f8)))
    (l8 : K.lookup f8 = some ⟨oc8, od8, .func (PySem.W.fnOf "_law_in_mask" "_law_in_mask" (defArgs s8) (defBody s8) (defScope s8) .none kV8 dc8 pm8 an8 cd8 ct8), sl8⟩)
    (c8 : PySem.W.codeIn K cd8 "_law_in_mask" = true)
    (k8 : PySem.W.keepIn K (.ref f8) = true)
    (a9 : PySem.W.nsIn K mainGlobals "_law_mask_bits" = some (some (.ref f9)))
    (l9 : K.lookup f9 = some ⟨oc9, od9, .func (PySem.W.fnOf "_law_mask_bits" "_law_mask_bits" (defArgs s9) (defBody s9) (defScope s9) .none kV9 dc9 pm9 an9 cd9 ct9), sl9⟩)
    (c9 : PySem.W.codeIn K cd9 "_law_mask_bits" = true)
    (k9 : PySem.W.keepIn K (.ref f9) = true)
    (a10 : PySem.W.nsIn K mainGlobals "_law_any_mask" = some (some (.ref f10)))
    (l10 : K.lookup f10 = some ⟨oc10, od10, .func (PySem.W.fnOf "_law_any_mask" "_law_any_mask" (defArgs s10) (defBody s10) (defScope s10) .none kV10 dc10 pm10 an10 cd10 ct10), sl10⟩)
    (c10 : PySem.W.codeIn K cd10 "_law_any_mask" = true)
    (k10 : PySem.W.keepIn K (.ref f10) = true)
    (a11 : PySem.W.nsIn K mainGlobals "_law_number" = some (some (.ref f11)))
    (l11 : K.lookup f11 = some ⟨oc11, od11, .func (PySem.W.fnOf "_law_number" "_law_number" (defArgs s11) (defBody s11) (defScope s11) .none kV11 dc11 pm11 an11 cd11 ct11), sl11⟩)
    (c11 : PySem.W.codeIn K cd11 "_law_number" = true)
    (k11 : PySem.W.keepIn K (.ref f11) = true)
    (a12 : PySem.W.nsIn K mainGlobals "_law_refused" = some (some (.ref f12)))
    (l12 : K.lookup f12 = some ⟨oc12, od12, .func (PySem.W.fnOf "_law_refused" "_law_refused" (defArgs s12) (defBody s12) (defScope s12) .none kV12 dc12 pm12 an12 cd12 ct12), sl12⟩)
    (c12 : PySem.W.codeIn K cd12 "_law_refused" = true)
    (k12 : PySem.W.keepIn K (.ref f12) = true)
    (a13 : PySem.W.nsIn K mainGlobals "law" = some (some (.ref f13)))
    (l13 : K.lookup f13 = some ⟨oc13, od13, .func (PySem.W.fnOf "law" "law" (defArgs s13) (defBody s13) (defScope s13) .none kV13 dc13 pm13 an13 cd13 ct13), sl13⟩)
    (c13 : PySem.W.codeIn K cd13 "law" = true)
    (k13 : PySem.W.keepIn K (.ref f13) = true)
    (xl1 : K.lookup C1 = some (excClassObj xnm1 xqn1 C1 xN1 xbs1 xbm1 true xsn1 xsu1 xab1 xco1 xdd1 xka1 xkb1 xkc1 xkd1 xke1 "ValueError.__new__"))
    (xr1 : PySem.HandSPX.refsVE xbm1 = true)
    (sa1 : PySem.W.findIn K (.ref C1) "__setattr__" = some (some (.builtin "object.__setattr__")))
    (xb1 : PySem.W.subIn K (.ref C1) (.type "BaseException") = some true)
    (xt1 : PySem.W.typeIn K (.ref C1) = some (.type "type"))
    (kc1 : PySem.W.keepIn K (.ref C1) = true)
    (xi0 : PySem.W.typeIn K (.ref f0) = some (.type "function"))
    (na1_width : PySem.W.findIn K (.ref C1) "width" = some none)
    (na1_height : PySem.W.findIn K (.ref C1) "height" = some none)
    (z_int : PySem.W.nsIn K mainGlobals "int" = some none)
    (kt_int_int : PySem.W.kitOne K (.type "int") (.type "int") = some true)
    (z_isinstance : PySem.W.nsIn K mainGlobals "isinstance" = some none)
    (z_bool : PySem.W.nsIn K mainGlobals "bool" = some none)
    (kt_int_bool : PySem.W.kitOne K (.type "int") (.type "bool") = some false)
    (z_list : PySem.W.nsIn K mainGlobals "list" = some none)
    (z_range : PySem.W.nsIn K mainGlobals "range" = some none)
    (z_min : PySem.W.nsIn K mainGlobals "min" = some none)
    (z_max : PySem.W.nsIn K mainGlobals "max" = some none)
    (z_len : PySem.W.nsIn K mainGlobals "len" = some none)
    (z_abs : PySem.W.nsIn K mainGlobals "abs" = some none)
    (ty_0_BadSize : PySem.W.exmOne K (.ref C0) (.ref C1) = some false)
    (ty_1_BadSize : PySem.W.exmOne K (.ref C1) (.ref C1) = some true)
    (xg1 : PySem.W.findIn K (.ref C1) "__getattribute__" = some (some (.builtin "BaseException.__getattribute__")))
    (xh1 : PySem.W.findIn K (.ref C1) "__getattr__" = some none)
    (hd1 : PySem.W.hasDictIn K C1 = true)
    : ∃ fd : FuncData, (∀ (s : Shared) (v : Value), BindsTo s fd ⟨[v], []⟩ [("_law_script", v)]) ∧ ∀ base : Heap, K.In base → base.Ns mainGlobals mg → FnOk l.prog w K mg base (CX l.prog w) 6 fa fd ["_law_script"] (spLawD K) := by
  have e := hfa.symm.trans (PySem.W.mg_of X G a13)
  cases e
  have T : Tx K mg (nthA [C0, C1]) (nthA [f0, f1, f2, f3, f4, f5, f6, f7, f8, f9, f10, f11, f12, fa]) (nthA [0, 0, 0, 0, 0, 0, 0, 0, 0, 0, 0, 0, 0, 0]) (fun i => List.getD [(PySem.W.fnOf "__init__" "BadSize.__init__" (defArgs s0) (defBody s0) (defScope s0) .none kV0 dc0 pm0 an0 cd0 ct0), (PySem.W.fnOf "is_integer" "is_integer" (defArgs s1) (defBody s1) (defScope s1) .none kV1 dc1 pm1 an1 cd1 ct1), (PySem.W.fnOf "check_size" "check_size" (defArgs s2) (defBody s2) (defScope s2) .none kV2 dc2 pm2 an2 cd2 ct2), (PySem.W.fnOf "repeated" "repeated" (defArgs s3) (defBody s3) (defScope s3) .none kV3 dc3 pm3 an3 cd3 ct3), (PySem.W.fnOf "row_of" "row_of" (defArgs s4) (defBody s4) (defScope s4) .none kV4 dc4 pm4 an4 cd4 ct4), (PySem.W.fnOf "mask_board" "mask_board" (defArgs s5) (defBody s5) (defScope s5) .none kV5 dc5 pm5 an5 cd5 ct5), (PySem.W.fnOf "_law_tape" "_law_tape" (defArgs s6) (defBody s6) (defScope s6) .none kV6 dc6 pm6 an6 cd6 ct6), (PySem.W.fnOf "_law_pick" "_law_pick" (defArgs s7) (defBody s7) (defScope s7) .none kV7 dc7 pm7 an7 cd7 ct7), (PySem.W.fnOf "_law_in_mask" "_law_in_mask" (defArgs s8) (defBody s8) (defScope s8) .none kV8 dc8 pm8 an8 cd8 ct8), (PySem.W.fnOf "_law_mask_bits" "_law_mask_bits" (defArgs s9) (defBody s9) (defScope s9) .none kV9 dc9 pm9 an9 cd9 ct9), (PySem.W.fnOf "_law_any_mask" "_law_any_mask" (defArgs s10) (defBody s10) (defScope s10) .none kV10 dc10 pm10 an10 cd10 ct10), (PySem.W.fnOf "_law_number" "_law_number" (defArgs s11) (defBody s11) (defScope s11) .none kV11 dc11 pm11 an11 cd11 ct11), (PySem.W.fnOf "_law_refused" "_law_refused" (defArgs s12) (defBody s12) (defScope s12) .none kV12 dc12 pm12 an12 cd12 ct12), (PySem.W.fnOf "law" "law" (defArgs s13) (defBody s13) (defScope s13) .none kV13 dc13 pm13 an13 cd13 ct13)] i (PySem.W.fnOf "law" "law" (defArgs s13) (defBody s13) (defScope s13) .none kV13 dc13 pm13 an13 cd13 ct13)) := {
    F0 := fun_mk (st := s0) l0 c0 k0
    B0 := (fun_mk (st := s0) l0 c0 k0).binds (ps := ["self", "width", "height"]) (fun _ _ _ _ _ _ us hl => match us, hl with | [_, _, _], _ => rfl)
    X1 := ⟨⟨⟨_, _, _, _, _, _, _, _, _, _, _, _, _, _, _, xl1, xr1⟩, sa1, xb1, xt1, kc1⟩, a0, xi0⟩
    na1_width := na1_width
    na1_height := na1_height
    F1 := fun_mk (st := s1) l1 c1 k1
    B1 := (fun_mk (st := s1) l1 c1 k1).binds (ps := ["value", "least"]) (fun _ _ _ _ _ _ us hl => match us, hl with | [_, _], _ => rfl)
    z_int := PySem.W.mg_none_of X G z_int
    IS0 := isi_mk ⟨kt_int_int, trivial⟩ trivial
    z_isinstance := PySem.W.mg_none_of X G z_isinstance
    z_bool := PySem.W.mg_none_of X G z_bool
    IS1 := isi_mk ⟨kt_int_bool, trivial⟩ trivial
    F2 := fun_mk (st := s2) l2 c2 k2
    B2 := (fun_mk (st := s2) l2 c2 k2).binds (ps := ["width", "height"]) (fun _ _ _ _ _ _ us hl => match us, hl with | [_, _], _ => rfl)
    g1 := PySem.W.mg_of X G a1
    gC1 := PySem.W.mg_of X G aC1
    F3 := fun_mk (st := s3) l3 c3 k3
    B3 := (fun_mk (st := s3) l3 c3 k3).binds (ps := ["pattern", "width", "many"]) (fun _ _ _ _ _ _ us hl => match us, hl with | [_, _, _], _ => rfl)
    F4 := fun_mk (st := s4) l4 c4 k4
    B4 := (fun_mk (st := s4) l4 c4 k4).binds (ps := ["columns"]) (fun _ _ _ _ _ _ us hl => match us, hl with | [_], _ => rfl)
    F5 := fun_mk (st := s5) l5 c5 k5
    B5 := (fun_mk (st := s5) l5 c5 k5).binds (ps := ["mask", "width", "height"]) (fun _ _ _ _ _ _ us hl => match us, hl with | [_, _, _], _ => rfl)
    g2 := PySem.W.mg_of X G a2
    g3 := PySem.W.mg_of X G a3
    g4 := PySem.W.mg_of X G a4
    z_list := PySem.W.mg_none_of X G z_list
    z_range := PySem.W.mg_none_of X G z_range
    z_min := PySem.W.mg_none_of X G z_min
    z_max := PySem.W.mg_none_of X G z_max
    F6 := fun_mk (st := s6) l6 c6 k6
    B6 := (fun_mk (st := s6) l6 c6 k6).binds (ps := ["_law_script", "_law_k"]) (fun _ _ _ _ _ _ us hl => match us, hl with | [_, _], _ => rfl)
    z_len := PySem.W.mg_none_of X G z_len
    z_abs := PySem.W.mg_none_of X G z_abs
    F7 := fun_mk (st := s7) l7 c7 k7
    B7 := (fun_mk (st := s7) l7 c7 k7).binds (ps := ["_law_tape_here", "_law_many"]) (fun _ _ _ _ _ _ us hl => match us, hl with | [_, _], _ => rfl)
    F8 := fun_mk (st := s8) l8 c8 k8
    B8 := (fun_mk (st := s8) l8 c8 k8).binds (ps := ["_law_mask", "_law_row", "_law_column", "_law_wide", "_law_high"]) (fun _ _ _ _ _ _ us hl => match us, hl with | [_, _, _, _, _], _ => rfl)
    F9 := fun_mk (st := s9) l9 c9 k9
    B9 := (fun_mk (st := s9) l9 c9 k9).binds (ps := ["_law_mask", "_law_wide", "_law_high"]) (fun _ _ _ _ _ _ us hl => match us, hl with | [_, _, _], _ => rfl)
    g8 := PySem.W.mg_of X G a8
    F10 := fun_mk (st := s10) l10 c10 k10
    B10 := (fun_mk (st := s10) l10 c10 k10).binds (ps := ["_law_tape_here"]) (fun _ _ _ _ _ _ us hl => match us, hl with | [_], _ => rfl)
    g7 := PySem.W.mg_of X G a7
    F11 := fun_mk (st := s11) l11 c11 k11
    B11 := (fun_mk (st := s11) l11 c11 k11).binds (ps := ["_law_bits"]) (fun _ _ _ _ _ _ us hl => match us, hl with | [_], _ => rfl)
    F12 := fun_mk (st := s12) l12 c12 k12
    B12 := (fun_mk (st := s12) l12 c12 k12).binds (ps := ["_law_mask", "_law_wide", "_law_high"]) (fun _ _ _ _ _ _ us hl => match us, hl with | [_, _, _], _ => rfl)
    TR_BadSize := try_mk ⟨ty_0_BadSize, ty_1_BadSize, trivial⟩
    g5 := PySem.W.mg_of X G a5
    XF1 := ⟨xg1, xh1, xb1, hd1⟩
    F13 := fun_mk (st := s13) l13 c13 k13
    B13 := (fun_mk (st := s13) l13 c13 k13).binds (ps := ["_law_script"]) (fun _ _ _ _ _ _ us hl => match us, hl with | [_], _ => rfl)
    g6 := PySem.W.mg_of X G a6
    g10 := PySem.W.mg_of X G a10
    g11 := PySem.W.mg_of X G a11
    g9 := PySem.W.mg_of X G a9
    g12 := PySem.W.mg_of X G a12
  }
  exact ⟨_, fun s v => .of_eq rfl, fun base _ _ => law_fn rfl (ok13 T) law_sem⟩
theorem walk {l : PySem.W.OpenLaw} {q : Program} {loose : List Str} {XP : (Str → Option Value) → Heap → Prop} {YP : World → Heap → Prop} {d : DefRec} {K : Params → PySem.W.Frag} (hn : l.most = some 63) (hdf : d.params.defaults = [])
    (hY : ∀ (w : World) (h : Heap), YP w h → (K w.params).In h)
    (F : ∀ (w : World) (mg : Str → Option Value) (fa : Addr) (h : Heap), (K w.params).In h → h.Ns mainGlobals mg → mg d.name = some (.ref fa) →
      ∃ fd : FuncData, (∀ (s : Shared) (u : Value), BindsTo s fd ⟨[u], []⟩ [("_law_script", u)]) ∧ ∀ base : Heap, (K w.params).In base → base.Ns mainGlobals mg → FnOk l.prog w (K w.params) mg base (CX l.prog w) 6 fa fd ["_law_script"] (spLawD (K w.params))) :
    PySem.W.WalkO q loose XP YP l.row.toRowW d [] (fun f vs => PySem.call f vs) :=
  L2.walk_of (n := 63) (k := 6) (x := "_law_script") (CX := fun w => CX l.prog w) (sp := fun w => spLawD (K w.params)) hn (by decide) hdf ⟨rfl, by decide, by decide⟩ hY F (fun _ _ a ns hl _ hS => ⟨a, ns, rfl, hS, hl, fun _ => rfl⟩) fun _ _ _ _ _ z => by
    obtain ⟨_, _, _, _, _, _, _, _, _, _, _, _, z⟩ := z
    exact z
end K32
open PySem PySem.W PyProof.Rows
set_option maxRecDepth 100000 in
set_option maxHeartbeats 0 in
theorem PySem.Challenge.cw_boardbits_k32_masks_holds : PySem.Challenge.rw_boardbits_k32_masks.Holds := by
  w_on; o_law; k_head; (case hw => w_witness2)
  k_fill
  refine K32.walk (l := PySem.Challenge.rw_boardbits_k32_masks) rfl rfl (fun w h Y => PySem.W.kIn_of Y) ?F
  case F =>
    intro w mg fa h KX G hmg
    refine' K32.all_mk KX G hmg ?aC0 ?aC1 ?a0 ?l0 ?c0 ?k0 ?a1 ?l1 ?c1 ?k1 ?a2 ?l2 ?c2 ?k2 ?a3 ?l3 ?c3 ?k3 ?a4 ?l4 ?c4 ?k4 ?a5 ?l5 ?c5 ?k5 ?a6 ?l6 ?c6 ?k6 ?a7 ?l7 ?c7 ?k7 ?a8 ?l8 ?c8 ?k8 ?a9 ?l9 ?c9 ?k9 ?a10 ?l10 ?c10 ?k10 ?a11 ?l11 ?c11 ?k11 ?a12 ?l12 ?c12 ?k12 ?a13 ?l13 ?c13 ?k13 ?xl1 ?xr1 ?sa1 ?xb1 ?xt1 ?kc1 ?xi0 ?na1_width ?na1_height ?z_int ?kt_int_int ?z_isinstance ?z_bool ?kt_int_bool ?z_list ?z_range ?z_min ?z_max ?z_len ?z_abs ?ty_0_BadSize ?ty_1_BadSize ?xg1 ?xh1 ?hd1
    (case aC0 => k_is)
    (case aC1 => k_is)
    (case a0 => k_is)
    (case l0 => k_is)
    (case c0 => k_is)
    (case k0 => k_is)
    (case a1 => k_is)
    (case l1 => k_is)
    (case c1 => k_is)
    (case k1 => k_is)
    (case a2 => k_is)
    (case l2 => k_is)
    (case c2 => k_is)
    (case k2 => k_is)
    (case a3 => k_is)
    (case l3 => k_is)
    (case c3 => k_is)
    (case k3 => k_is)
    (case a4 => k_is)
    (case l4 => k_is)
    (case c4 => k_is)
    (case k4 => k_is)
    (case a5 => k_is)
    (case l5 => k_is)
    (case c5 => k_is)
    (case k5 => k_is)
    (case a6 => k_is)
    (case l6 => k_is)
    (case c6 => k_is)
    (case k6 => k_is)
    (case a7 => k_is)
    (case l7 => k_is)
    (case c7 => k_is)
    (case k7 => k_is)
    (case a8 => k_is)
    (case l8 => k_is)
    (case c8 => k_is)
    (case k8 => k_is)
    (case a9 => k_is)
    (case l9 => k_is)
    (case c9 => k_is)
    (case k9 => k_is)
    (case a10 => k_is)
    (case l10 => k_is)
    (case c10 => k_is)
    (case k10 => k_is)
    (case a11 => k_is)
    (case l11 => k_is)
    (case c11 => k_is)
    (case k11 => k_is)
    (case a12 => k_is)
    (case l12 => k_is)
    (case c12 => k_is)
    (case k12 => k_is)
    (case a13 => k_is)
    (case l13 => k_is)
    (case c13 => k_is)
    (case k13 => k_is)
    (case xl1 => k_is)
    (case xr1 => kernel_rfl)
    (case sa1 => k_is)
    (case xb1 => k_is)
    (case xt1 => k_is)
    (case kc1 => k_is)
    (case xi0 => k_is)
    (case na1_width => k_is)
    (case na1_height => k_is)
    (case z_int => k_is)
    (case kt_int_int => kernel_rfl)
    (case z_isinstance => k_is)
    (case z_bool => k_is)
    (case kt_int_bool => kernel_rfl)
    (case z_list => k_is)
    (case z_range => k_is)
    (case z_min => k_is)
    (case z_max => k_is)
    (case z_len => k_is)
    (case z_abs => k_is)
    (case ty_0_BadSize => kernel_rfl)
    (case ty_1_BadSize => kernel_rfl)
    (case xg1 => k_is)
    (case xh1 => k_is)
    (case hd1 => k_is)
#print axioms PySem.Challenge.cw_boardbits_k32_masks_holds

