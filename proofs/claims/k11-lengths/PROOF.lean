import PyProof.Rows.All
import Wide.All
import OpenK.AllK
import Wide.FinOn
import HandS.ForMost
import HandS.ForExc
import HandS.Evl
import HandS.Wide
import HandS.WideBits
import HandS.Deep
import HandS.IsInst
import HandS.Star
import HandS.CallSlots
import HandS.ExcOwn
import HandS.Property
import HandS.Zip
import KE.KOpsOwn
import HandS.OwnEq
import KE.KFmtOwn
import HandS.TupAny
import HandS.Text
import PySem.Challenge.RW_boardbits_k11_lengths
set_option Elab.async false
set_option linter.all false
set_option maxRecDepth 100000
set_option maxHeartbeats 4000000
/-! DL, part a: data without a heap (D), how values and objects stand for it (Rp, Own), frames of data (I2), what code does on data (Res). -/
namespace DL
open PySem L2 Evl

/-- data: a value with all that it holds -/
inductive D where
  | non | bl (b : Bool) | int (i : Int) | str (s : Str)
  | lst (xs : List D) | tup (xs : List D) | rol (xs : List D) | ins (k : Nat) (xs : List D)

/-- what stands fast: the written part, the classes' addresses, their fields in order -/
structure Ct where
  K : PySem.W.Frag
  cl : Nat → Addr
  fn : Nat → List Str

mutual
/-- v stands for d, by objects that never change -/
def Rp (c : Ct) (F : Hp) : D → V → Prop
  | .non, v => v = .non
  | .bl b, v => v = .bl b
  | .int i, v => v = .int i
  | .str s, v => v = .str s
  | .lst ds, v => ∃ p vs, v = .ref p ∧ F p = some (.lst vs) ∧ RpL c F ds vs
  | .tup ds, v => ∃ p vs, v = .ref p ∧ SqT c.K F p vs ∧ RpL c F ds vs
  | .rol ds, v => ∃ p vs, v = .ref p ∧ SqL c.K F p vs ∧ RpL c F ds vs
  | .ins k ds, v => ∃ p dx vs, v = .ref p ∧ F p = some (.ins (c.cl k) dx ((c.fn k).zip vs)) ∧ RpL c F ds vs
def RpL (c : Ct) (F : Hp) : List D → List V → Prop
  | [], vs => vs = []
  | d :: ds, vs => ∃ v r, vs = v :: r ∧ Rp c F d v ∧ RpL c F ds r
end

section
variable {c : Ct} {F G H H' : Hp}
mutual
theorem Rp.mono (e : Ex F G) : ∀ (d : D) (v : V), Rp c F d v → Rp c G d v
  | .non, _, h => h
  | .bl _, _, h => h
  | .int _, _, h => h
  | .str _, _, h => h
  | .lst ds, _, ⟨p, vs, h1, h2, h3⟩ => ⟨p, vs, h1, e _ _ h2, RpL.mono e ds vs h3⟩
  | .tup ds, _, ⟨p, vs, h1, h2, h3⟩ => ⟨p, vs, h1, ex_t e h2, RpL.mono e ds vs h3⟩
  | .rol ds, _, ⟨p, vs, h1, h2, h3⟩ => ⟨p, vs, h1, ex_l e h2, RpL.mono e ds vs h3⟩
  | .ins _ ds, _, ⟨p, dx, vs, h1, h2, h3⟩ => ⟨p, dx, vs, h1, e _ _ h2, RpL.mono e ds vs h3⟩
theorem RpL.mono (e : Ex F G) : ∀ (ds : List D) (vs : List V), RpL c F ds vs → RpL c G ds vs
  | [], _, h => h
  | d :: ds, _, ⟨v, r, h1, h2, h3⟩ => ⟨v, r, h1, Rp.mono e d v h2, RpL.mono e ds r h3⟩
end
theorem RpL.len : ∀ {ds : List D} {vs : List V}, RpL c F ds vs → ds.length = vs.length
  | [], _, h => by cases h; rfl
  | d :: ds, _, ⟨v, r, h1, h2, h3⟩ => by subst h1; simp [RpL.len h3]
theorem RpL.get : ∀ {ds : List D} {vs : List V} {i : Nat} {d : D}, RpL c F ds vs → ds[i]? = some d → ∃ v, vs[i]? = some v ∧ Rp c F d v
  | [], _, _, _, h, g => by simp at g
  | d :: ds, _, i, x, ⟨v, r, h1, h2, h3⟩, g => by
    subst h1
    cases i with
    | zero => simp at g; subst g; exact ⟨v, rfl, h2⟩
    | succ i =>
      simp at g
      obtain ⟨w, h4, h5⟩ := RpL.get (i := i) h3 g
      exact ⟨w, by simpa using h4, h5⟩
theorem RpL.getV : ∀ {ds : List D} {vs : List V} {i : Nat} {v : V}, RpL c F ds vs → vs[i]? = some v → ∃ d, ds[i]? = some d ∧ Rp c F d v
  | [], _, _, _, h, g => by cases h; simp at g
  | d :: ds, _, i, x, ⟨v, r, h1, h2, h3⟩, g => by
    subst h1
    cases i with
    | zero => simp at g; subst g; exact ⟨d, rfl, h2⟩
    | succ i =>
      simp at g
      obtain ⟨w, h4, h5⟩ := RpL.getV (i := i) h3 g
      exact ⟨w, by simpa using h4, h5⟩
theorem RpL.app : ∀ {ds es : List D} {vs ws : List V}, RpL c F ds vs → RpL c F es ws → RpL c F (ds ++ es) (vs ++ ws)
  | [], _, _, _, h, g => by cases h; exact g
  | d :: ds, _, _, _, ⟨v, r, h1, h2, h3⟩, g => by subst h1; exact ⟨v, _, rfl, h2, RpL.app h3 g⟩
theorem RpL.one {d : D} {v : V} (h : Rp c F d v) : RpL c F [d] [v] := ⟨v, [], rfl, h, rfl⟩
theorem RpL.set : ∀ {ds : List D} {vs : List V} {d : D} {v : V} (i : Nat), RpL c F ds vs → Rp c F d v → RpL c F (ds.set i d) (vs.set i v)
  | [], _, _, _, _, h, g => by cases h; exact rfl
  | d :: ds, _, x, y, i, ⟨v, r, h1, h2, h3⟩, g => by
    subst h1
    cases i with
    | zero => exact ⟨y, r, rfl, g, h3⟩
    | succ i => exact ⟨v, _, rfl, h2, RpL.set i h3 g⟩
theorem RpL.take : ∀ {ds : List D} {vs : List V} (n : Nat), RpL c F ds vs → RpL c F (ds.take n) (vs.take n)
  | _, _, 0, _ => rfl
  | [], _, n + 1, h => by cases h; exact rfl
  | d :: ds, _, n + 1, ⟨v, r, h1, h2, h3⟩ => by subst h1; exact ⟨v, _, rfl, h2, RpL.take n h3⟩
theorem RpL.drop : ∀ {ds : List D} {vs : List V} (n : Nat), RpL c F ds vs → RpL c F (ds.drop n) (vs.drop n)
  | _, _, 0, h => h
  | [], _, n + 1, h => by cases h; exact rfl
  | d :: ds, _, n + 1, ⟨v, r, h1, h2, h3⟩ => by subst h1; exact RpL.drop n h3
theorem RpL.rev : ∀ {ds : List D} {vs : List V}, RpL c F ds vs → RpL c F ds.reverse vs.reverse
  | [], _, h => by cases h; exact rfl
  | d :: ds, _, ⟨v, r, h1, h2, h3⟩ => by subst h1; rw [List.reverse_cons, List.reverse_cons]; exact RpL.app (RpL.rev h3) (RpL.one h2)
theorem RpL.ints : ∀ {ns : List Int} {vs : List V}, RpL c F (ns.map D.int) vs → vs = ns.map V.int
  | [], _, h => h
  | n :: ns, _, ⟨v, r, h1, h2, h3⟩ => by subst h1; rw [List.map_cons, RpL.ints h3, show v = V.int n from h2]
theorem RpL.of_ints : ∀ (ns : List Int), RpL c F (ns.map D.int) (ns.map V.int)
  | [] => rfl
  | n :: ns => ⟨V.int n, _, rfl, rfl, RpL.of_ints ns⟩

/-- an object at p that is known alone here, and may change: it holds d -/
def Own (c : Ct) (F H : Hp) (d : D) (p : Addr) : Prop := F p = none ∧ match d with
  | .lst ds => ∃ vs, H p = some (.lst vs) ∧ RpL c F ds vs
  | .ins k ds => ∃ dx vs, H p = some (.ins (c.cl k) dx ((c.fn k).zip vs)) ∧ RpL c F ds vs
  | _ => False
theorem Own.at {d : D} {p : Addr} (h : Own c F H d p) : ∃ o, H p = some o := by
  cases d with
  | lst ds => obtain ⟨_, vs, h, _⟩ := h; exact ⟨_, h⟩
  | ins k ds => obtain ⟨_, dx, vs, h, _⟩ := h; exact ⟨_, h⟩
  | _ => exact h.2.elim
/-- the known part grows, the object stays -/
theorem Own.mono {d : D} {p : Addr} (h : Own c F H d p) (e : Ex F G) (hp : G p = none) (k : ∀ o, H p = some o → H' p = some o) : Own c G H' d p := by
  cases d with
  | lst ds => obtain ⟨_, vs, h1, h2⟩ := h; exact ⟨hp, vs, k _ h1, RpL.mono e ds vs h2⟩
  | ins j ds => obtain ⟨_, dx, vs, h1, h3⟩ := h; exact ⟨hp, dx, vs, k _ h1, RpL.mono e ds vs h3⟩
  | _ => exact h.2.elim
/-- frozen: from here on it never changes -/
theorem Own.seal {d : D} {p : Addr} (h : Own c F H d p) (e : Ex F H) : ∃ G, Ex F G ∧ Ex G H ∧ Rp c G d (.ref p) ∧ ∀ b, b ≠ p → G b = F b := by
  have key : ∀ o, H p = some o → Ex (upd F p o) H := fun o h1 a u h => by
    by_cases ha : a = p
    · subst ha; rw [upd_same] at h; rw [← h]; exact h1
    · rw [upd_ne ha] at h; exact e _ _ h
  cases d with
  | lst ds =>
    obtain ⟨hp, vs, h1, h2⟩ := h
    have x := Ex.new (o := .lst vs) hp
    exact ⟨_, x, key _ h1, ⟨p, vs, rfl, upd_same, RpL.mono x ds vs h2⟩, fun b hb => upd_ne hb⟩
  | ins j ds =>
    obtain ⟨hp, dx, vs, h1, h3⟩ := h
    have x := Ex.new (o := .ins (c.cl j) dx ((c.fn j).zip vs)) hp
    exact ⟨_, x, key _ h1, ⟨p, dx, vs, rfl, upd_same, RpL.mono x ds vs h3⟩, fun b hb => upd_ne hb⟩
  | _ => exact h.2.elim
end
end DL

/-! DL, part b: frames of data (I2), what is handed from step to step (T, TR), the steps on them. -/
namespace DL
open PySem L2 Evl

/-- what a name holds: shared data; an object known to this name alone; an object of a caller's -/
inductive B where
  | sh (d : D) | ow (d : D) | br (d : D)
def B.d : B → D
  | .sh d => d | .ow d => d | .br d => d
def B.isRoot : B → Bool
  | .sh _ => false | .ow _ => true | .br _ => true
def B.re : B → D → B
  | .sh _, d => .sh d | .ow _, d => .ow d | .br _, d => .br d
abbrev DEnv := List (Option B)
/-- what an expression hands on: a name's object itself; data; a new object -/
inductive T where
  | sl (i : Nat) | vl (d : D) | nw (d : D)
structure XV where
  k : Nat
  ds : List D
inductive Res (α : Type) where
  | stuck | ok (a : α) | exc (x : XV) (e : DEnv)
def Res.bind {α β : Type} (r : Res α) (f : α → Res β) : Res β := match r with
  | .stuck => .stuck | .ok a => f a | .exc x e => .exc x e
def Wp {α : Type} (r : Res α) (ok : α → Prop) (ex : XV → DEnv → Prop) : Prop := match r with
  | .stuck => False | .ok a => ok a | .exc x e => ex x e
theorem Wp.bind {α β : Type} {r : Res α} {f : α → Res β} {ok : β → Prop} {ex : XV → DEnv → Prop} : Wp (r.bind f) ok ex = Wp r (fun a => Wp (f a) ok ex) ex := by
  cases r <;> rfl
theorem Wp.mono {α : Type} {r : Res α} {ok ok' : α → Prop} {ex ex' : XV → DEnv → Prop} (h : Wp r ok ex) (h1 : ∀ a, r = .ok a → ok a → ok' a) (h2 : ∀ x e, ex x e → ex' x e) : Wp r ok' ex' := by
  cases r with
  | stuck => exact h
  | ok a => exact h1 a rfl h
  | exc x e => exact h2 x e h
/-- of an option: none is stuck -/
def Res.of {α : Type} : Option α → Res α
  | none => .stuck | some a => .ok a
theorem Wp.of {α : Type} {o : Option α} {ok : α → Prop} {ex : XV → DEnv → Prop} (h : Wp (Res.of o) ok ex) : ∃ a, o = some a ∧ ok a := by
  cases o with
  | none => exact h.elim
  | some a => exact ⟨a, rfl, h⟩

/-- what a frame starts from: the heap at the entry, what is known to stand fast, the callers' objects that are lent -/
structure Zs where
  H0 : Hp
  F0 : Hp
  Bo : Addr → Prop
  V0 : Nat → V

def BR (c : Ct) (z : Zs) (F H : Hp) : B → V → Prop
  | .sh d, v => Rp c F d v
  | .ow d, v => ∃ p, v = .ref p ∧ Own c F H d p ∧ z.H0 p = none
  | .br d, v => ∃ p, v = .ref p ∧ Own c F H d p ∧ z.Bo p
def RootAt (σ : L2.St) (e : DEnv) (i : Nat) (p : Addr) : Prop := ∃ b, e[i]? = some (some b) ∧ b.isRoot = true ∧ σ[i]? = some (some (.ref p))
structure I2 (c : Ct) (z : Zs) (σ : L2.St) (H F : Hp) (e : DEnv) : Prop where
  len : e.length = σ.length
  f0 : Ex z.F0 F
  fh : Ex F H
  keep : ∀ p o, z.H0 p = some o → ¬ z.Bo p → H p = some o
  slot : ∀ (i : Nat) (b : B), e[i]? = some (some b) → ∃ v, σ[i]? = some (some v) ∧ BR c z F H b v
  dist : ∀ (i j : Nat) (p : Addr), RootAt σ e i p → RootAt σ e j p → i = j
  bo : ∀ p, z.Bo p → ∃ o, H p = some o
  nf : ∀ p, z.H0 p ≠ none → z.F0 p = none → F p = none
  brv : ∀ (i : Nat) (d : D) (v : V), e[i]? = some (some (.br d)) → σ[i]? = some (some v) → z.V0 i = v

def TR (c : Ct) (z : Zs) (F H : Hp) (σ : L2.St) (e : DEnv) : T → V → Prop
  | .sl i, v => σ[i]? = some (some v)
  | .vl d, v => Rp c F d v
  | .nw d, v => ∃ p, v = .ref p ∧ Own c F H d p ∧ z.H0 p = none ∧ ∀ i, ¬ RootAt σ e i p
/-- an exception of a class of one's own, by its attributes -/
def XR (c : Ct) (F : Hp) (x : XV) (cls : Value) (dd : Option Addr) : Prop := cls = .ref (c.cl x.k) ∧
  ((x.ds = [] ∧ dd = none) ∨ ∃ a fs vs, dd = some a ∧ F a = some (.xd fs) ∧ RpL c F x.ds vs ∧ (∀ (i : Nat) (f : Str) (v : V), (c.fn x.k)[i]? = some f → vs[i]? = some v → fs.lookup f = some v))

section
variable {c : Ct} {z : Zs} {σ : L2.St} {H H' F G : Hp} {e : DEnv}
theorem I2.own {i : Nat} {b : B} (I : I2 c z σ H F e) (h : e[i]? = some (some b)) (hr : b.isRoot = true) : ∃ p, σ[i]? = some (some (.ref p)) ∧ Own c F H b.d p ∧ (z.H0 p = none ∨ z.Bo p) := by
  obtain ⟨v, hv, r⟩ := I.slot i b h
  cases b with
  | sh d => cases hr
  | ow d => obtain ⟨p, rfl, o, k⟩ := r; exact ⟨p, hv, o, .inl k⟩
  | br d => obtain ⟨p, rfl, o, k⟩ := r; exact ⟨p, hv, o, .inr k⟩
theorem I2.rootAt {i : Nat} {p : Addr} (I : I2 c z σ H F e) (h : RootAt σ e i p) : ∃ d, Own c F H d p := by
  obtain ⟨b, h1, h2, h3⟩ := h
  obtain ⟨q, h4, o, _⟩ := I.own h1 h2
  rw [h3] at h4; cases h4
  exact ⟨_, o⟩
theorem Own.ne_none {d : D} {p q : Addr} (o : Own c F H d p) (h : H q = none) : p ≠ q := fun z => by
  obtain ⟨x, hx⟩ := o.at
  rw [z, h] at hx; cases hx
theorem I2.fresh0 {p : Addr} (I : I2 c z σ H F e) (hp : H p = none) : z.H0 p = none := by
  cases h : z.H0 p with
  | none => rfl
  | some o =>
    by_cases hb : z.Bo p
    · obtain ⟨o', h'⟩ := I.bo p hb
      rw [hp] at h'; cases h'
    · rw [I.keep p o h hb] at hp; cases hp
theorem I2.noroot {p : Addr} (I : I2 c z σ H F e) (hp : H p = none) (i : Nat) : ¬ RootAt σ e i p := fun h => by
  obtain ⟨d, o⟩ := I.rootAt h
  exact o.ne_none hp rfl

/-- the known part grows by objects that no name owns -/
theorem I2.grow (I : I2 c z σ H F e) (x : Ex F G) (y : Ex G H) (k : ∀ (i : Nat) (p : Addr), RootAt σ e i p → G p = none) (n : ∀ p, z.H0 p ≠ none → G p = F p) : I2 c z σ H G e := by
  refine ⟨I.len, I.f0.trans x, y, I.keep, fun i b h => ?_, I.dist, I.bo, fun p h1 h2 => (n p h1).trans (I.nf p h1 h2), I.brv⟩
  obtain ⟨v, hv, r⟩ := I.slot i b h
  refine ⟨v, hv, ?_⟩
  cases b with
  | sh d => exact Rp.mono x d v r
  | ow d => obtain ⟨p, rfl, o, q⟩ := r; exact ⟨p, rfl, o.mono x (k i p ⟨_, h, rfl, hv⟩) (fun _ h => h), q⟩
  | br d => obtain ⟨p, rfl, o, q⟩ := r; exact ⟨p, rfl, o.mono x (k i p ⟨_, h, rfl, hv⟩) (fun _ h => h), q⟩
/-- a new object of no name is frozen -/
theorem I2.sealNew {d : D} {p : Addr} (I : I2 c z σ H F e) (o : Own c F H d p) (h0 : z.H0 p = none) (hr : ∀ i, ¬ RootAt σ e i p) : ∃ G, Ex F G ∧ I2 c z σ H G e ∧ Rp c G d (.ref p) := by
  obtain ⟨G, x, y, r, k⟩ := o.seal I.fh
  refine ⟨G, x, I.grow x y (fun i q h => ?_) (fun q h => k q fun z => h (z ▸ h0)), r⟩
  obtain ⟨d', o'⟩ := I.rootAt h
  rw [k q fun z => hr i (z ▸ h)]
  exact o'.1
theorem get_set {α : Type} {l : List α} {i j : Nat} {a x : α} (h : (l.set i a)[j]? = some x) : (j = i ∧ x = a) ∨ (j ≠ i ∧ l[j]? = some x) := by
  by_cases e : i = j
  · subst e
    rw [List.getElem?_set] at h
    by_cases hi : i < l.length
    · simp [hi] at h; exact .inl ⟨rfl, h.symm⟩
    · simp [hi] at h
  · rw [List.getElem?_set_ne e] at h
    exact .inr ⟨fun q => e q.symm, h⟩
theorem get_setS {α : Type} {l : List α} {i : Nat} {a : α} (h : i < l.length) : (l.set i a)[i]? = some a := by
  rw [List.getElem?_set]; simp [h]
theorem get_lt {α : Type} {l : List α} {i : Nat} {x : α} (h : l[i]? = some x) : i < l.length := (List.getElem?_eq_some_iff.mp h).1
/-- a name forgets what it is alone with -/
theorem I2.drop (I : I2 c z σ H F e) (i : Nat) : I2 c z σ H F (e.set i none) := by
  have key : ∀ (j : Nat) (b : B), (e.set i none)[j]? = some (some b) → e[j]? = some (some b) := fun j b h => by
    rcases get_set h with ⟨_, q⟩ | ⟨_, q⟩
    · cases q
    · exact q
  exact ⟨by rw [List.length_set]; exact I.len, I.f0, I.fh, I.keep, fun j b h => I.slot j b (key j b h), fun j k p ⟨b, h1, h2, h3⟩ ⟨b', h1', h2', h3'⟩ => I.dist j k p ⟨b, key _ _ h1, h2, h3⟩ ⟨b', key _ _ h1', h2', h3'⟩, I.bo, I.nf, fun j d v h => I.brv j d v (key _ _ h)⟩
/-- a name's binding is replaced by shared data -/
theorem I2.rebind {i : Nat} {v : V} {d : D} (I : I2 c z σ H F e) (hv : σ[i]? = some (some v)) (r : Rp c F d v) : I2 c z σ H F (e.set i (some (.sh d))) := by
  refine ⟨by rw [List.length_set]; exact I.len, I.f0, I.fh, I.keep, fun j b h => ?_, fun j k p ⟨b, h1, h2, h3⟩ ⟨b', h1', h2', h3'⟩ => ?_, I.bo, I.nf, fun j d' v' h => ?_⟩
  · rcases get_set h with ⟨rfl, q⟩ | ⟨_, q⟩
    · cases q; exact ⟨v, hv, r⟩
    · exact I.slot j b q
  · rcases get_set h1 with ⟨_, q⟩ | ⟨_, q⟩
    · cases q; cases h2
    · rcases get_set h1' with ⟨_, q'⟩ | ⟨_, q'⟩
      · cases q'; cases h2'
      · exact I.dist j k p ⟨b, q, h2, h3⟩ ⟨b', q', h2', h3'⟩
  · rcases get_set h with ⟨_, q⟩ | ⟨_, q⟩
    · cases q
    · exact I.brv j d' v' q
/-- a name's own object is frozen -/
theorem I2.freeze {i : Nat} {d : D} (I : I2 c z σ H F e) (h : e[i]? = some (some (.ow d))) : ∃ G v, Ex F G ∧ I2 c z σ H G (e.set i (some (.sh d))) ∧ σ[i]? = some (some v) ∧ Rp c G d v := by
  obtain ⟨v, hv, p, rfl, o, hp⟩ := I.slot i _ h
  obtain ⟨G, x, I', r⟩ := (I.drop i).sealNew o hp fun j ⟨b, h1, h2, h3⟩ => by
    rcases get_set h1 with ⟨_, q⟩ | ⟨ne, q⟩
    · cases q
    · exact ne (I.dist j i p ⟨b, q, h2, h3⟩ ⟨_, h, rfl, hv⟩)
  have I'' := I'.rebind (i := i) (by exact hv) r
  rw [List.set_set] at I''
  exact ⟨G, _, x, I'', hv, r⟩
/-- the heap grows: new objects are laid, nobody's yet -/
theorem I2.alloc (I : I2 c z σ H F e) (e1 : Ex H H') : I2 c z σ H' F e := by
  refine ⟨I.len, I.f0, I.fh.trans e1, fun q u h1 h2 => e1 _ _ (I.keep q u h1 h2), fun i b h => ?_, I.dist, fun q h => let ⟨u, k⟩ := I.bo q h; ⟨u, e1 _ _ k⟩, I.nf, I.brv⟩
  obtain ⟨v, hv, r⟩ := I.slot i b h
  refine ⟨v, hv, ?_⟩
  cases b with
  | sh d => exact r
  | ow d => obtain ⟨q, rfl, w, k⟩ := r; exact ⟨q, rfl, w.mono (Ex.refl F) w.1 (fun _ h => e1 _ _ h), k⟩
  | br d => obtain ⟨q, rfl, w, k⟩ := r; exact ⟨q, rfl, w.mono (Ex.refl F) w.1 (fun _ h => e1 _ _ h), k⟩
/-- a new tuple, known at once -/
theorem I2.allocT {p : Addr} {o : HO} (I : I2 c z σ H F e) (hp : H p = none) : I2 c z σ (upd H p o) (upd F p o) e := by
  have hF : F p = none := fresh_back I.fh hp
  have J := I.alloc (Ex.new (o := o) hp)
  refine J.grow (Ex.new hF) (fun a u h => ?_) (fun i q h => ?_) (fun q h => upd_ne fun z => h (z ▸ I.fresh0 hp))
  · by_cases ha : a = p
    · subst ha; rw [upd_same] at h; rw [upd_same]; exact h
    · rw [upd_ne ha] at h; rw [upd_ne ha]; exact I.fh _ _ h
  · obtain ⟨d, w⟩ := I.rootAt h
    rw [upd_ne (w.ne_none hp)]
    exact w.1
theorem B.re_root {b : B} {d : D} : (b.re d).isRoot = b.isRoot := by cases b <;> rfl
/-- names' objects are changed (those of the names in L), the known part and the heap grow -/
theorem I2.change {L : List Nat} {e' : DEnv} (I : I2 c z σ H F e) (hl : e'.length = e.length) (x : Ex F G) (y : Ex G H') (kp : ∀ p o, H p = some o → (∀ i ∈ L, ¬ RootAt σ e i p) → H' p = some o)
    (kb : ∀ p, H p ≠ none → H' p ≠ none) (nf : ∀ p, H p ≠ none → F p = none → G p = none)
    (hb : ∀ (i : Nat) (b' : B), e'[i]? = some (some b') → ∃ b, e[i]? = some (some b) ∧ ((b' = b ∧ (b.isRoot = true → i ∉ L)) ∨ (b.isRoot = true ∧ ∃ d p, b' = b.re d ∧ σ[i]? = some (some (.ref p)) ∧ Own c G H' d p))) : I2 c z σ H' G e' := by
  have key : ∀ i p, RootAt σ e' i p → RootAt σ e i p := fun i p ⟨b', h1, h2, h3⟩ => by
    obtain ⟨b, h4, h5⟩ := hb i b' h1
    refine ⟨b, h4, ?_, h3⟩
    rcases h5 with ⟨rfl, _⟩ | ⟨h5, _⟩
    · exact h2
    · exact h5
  have h0 : ∀ p, z.H0 p ≠ none → H p ≠ none := fun p h => by
    cases q : z.H0 p with
    | none => exact absurd q h
    | some o =>
      by_cases hB : z.Bo p
      · obtain ⟨u, k⟩ := I.bo p hB; rw [k]; exact fun z => nomatch z
      · rw [I.keep p o q hB]; exact fun z => nomatch z
  refine ⟨hl.trans I.len, I.f0.trans x, y, fun p o h1 h2 => kp p o (I.keep p o h1 h2) fun i _ ⟨b, h3, h4, h5⟩ => ?_, fun i b' h => ?_, fun i j p h1 h2 => I.dist i j p (key _ _ h1) (key _ _ h2), fun p h => ?_, fun p h1 h2 => nf p (h0 p h1) (I.nf p h1 h2), fun i d v h hv => ?_⟩
  · obtain ⟨v, hv, r⟩ := I.slot i b h3
    rw [h5] at hv; cases hv
    cases b with
    | sh d => cases h4
    | ow d => obtain ⟨q, e1, _, h6⟩ := r; cases e1; rw [h1] at h6; cases h6
    | br d => obtain ⟨q, e1, _, h6⟩ := r; cases e1; exact h2 h6
  · obtain ⟨b, h1, h2⟩ := hb i b' h
    obtain ⟨v, hv, r⟩ := I.slot i b h1
    refine ⟨v, hv, ?_⟩
    rcases h2 with ⟨rfl, h2⟩ | ⟨h2, d, p, rfl, h3, h4⟩
    · cases b' with
      | sh d => exact Rp.mono x d v r
      | ow d =>
        obtain ⟨p, rfl, o, q⟩ := r
        have hp : H p ≠ none := by obtain ⟨u, hu⟩ := o.at; rw [hu]; exact fun z => nomatch z
        exact ⟨p, rfl, o.mono x (nf p hp o.1) (fun u hu => kp p u hu fun j hj hr => h2 rfl (I.dist i j p ⟨_, h1, rfl, hv⟩ hr ▸ hj)), q⟩
      | br d =>
        obtain ⟨p, rfl, o, q⟩ := r
        have hp : H p ≠ none := by obtain ⟨u, hu⟩ := o.at; rw [hu]; exact fun z => nomatch z
        exact ⟨p, rfl, o.mono x (nf p hp o.1) (fun u hu => kp p u hu fun j hj hr => h2 rfl (I.dist i j p ⟨_, h1, rfl, hv⟩ hr ▸ hj)), q⟩
    · rw [h3] at hv; cases hv
      cases b with
      | sh d => cases h2
      | ow d' => obtain ⟨q, e1, _, h6⟩ := r; cases e1; exact ⟨p, rfl, h4, h6⟩
      | br d' => obtain ⟨q, e1, _, h6⟩ := r; cases e1; exact ⟨p, rfl, h4, h6⟩
  · obtain ⟨u, hu⟩ := I.bo p h
    have := kb p (by rw [hu]; exact fun z => nomatch z)
    cases q : H' p with
    | none => exact absurd q this
    | some o => exact ⟨o, rfl⟩
  · obtain ⟨b, h1, h2⟩ := hb i _ h
    have : ∃ d', b = .br d' := by
      rcases h2 with ⟨rfl, _⟩ | ⟨_, d', p, h3, _⟩
      · exact ⟨d, rfl⟩
      · cases b with
        | sh _ => cases h3
        | ow _ => cases h3
        | br d'' => exact ⟨d'', rfl⟩
    obtain ⟨d', rfl⟩ := this
    exact I.brv i d' v h1 hv
/-- one name's object is changed -/
theorem I2.mut {i : Nat} {b : B} {p : Addr} {d : D} {o : HO} (I : I2 c z σ H F e) (h : e[i]? = some (some b)) (hr : b.isRoot = true) (hv : σ[i]? = some (some (.ref p))) (w : Own c F (upd H p o) d p) : I2 c z σ (upd H p o) F (e.set i (some (b.re d))) := by
  refine I.change (L := [i]) (by rw [List.length_set]) (Ex.refl F) (fun a u h1 => ?_) (fun q u h1 h2 => ?_) (fun q h1 => ?_) (fun _ _ h => h) fun j b' h1 => ?_
  · by_cases ha : a = p
    · subst ha; rw [w.1] at h1; cases h1
    · rw [upd_ne ha]; exact I.fh _ _ h1
  · by_cases ha : q = p
    · subst ha; exact absurd ⟨b, h, hr, hv⟩ (h2 i List.mem_cons_self)
    · rw [upd_ne ha]; exact h1
  · by_cases ha : q = p
    · subst ha; rw [upd_same]; exact fun z => nomatch z
    · rw [upd_ne ha]; exact h1
  · rcases get_set h1 with ⟨rfl, q⟩ | ⟨ne, q⟩
    · cases q; exact ⟨b, h, .inr ⟨hr, d, p, rfl, hv, w⟩⟩
    · exact ⟨b', q, .inl ⟨rfl, fun _ => by simp [ne]⟩⟩
/-- a name is bound to shared data -/
theorem I2.store {i : Nat} {v : V} {d : D} (I : I2 c z σ H F e) (hi : i < σ.length) (r : Rp c F d v) : I2 c z (σ.set i (some v)) H F (e.set i (some (.sh d))) := by
  have key : ∀ (j : Nat) (p : Addr), RootAt (σ.set i (some v)) (e.set i (some (.sh d))) j p → RootAt σ e j p := fun j p ⟨b, h1, h2, h3⟩ => by
    rcases get_set h1 with ⟨_, q⟩ | ⟨ne, q⟩
    · cases q; cases h2
    · rcases get_set h3 with ⟨q', _⟩ | ⟨_, q'⟩
      · exact absurd q' ne
      · exact ⟨b, q, h2, q'⟩
  refine ⟨by rw [List.length_set, List.length_set]; exact I.len, I.f0, I.fh, I.keep, fun j b h => ?_, fun j k p h1 h2 => I.dist j k p (key _ _ h1) (key _ _ h2), I.bo, I.nf, fun j d' v' h h' => ?_⟩
  · rcases get_set h with ⟨rfl, q⟩ | ⟨ne, q⟩
    · cases q; exact ⟨v, get_setS hi, r⟩
    · obtain ⟨w, h1, h2⟩ := I.slot j b q
      exact ⟨w, by rw [List.getElem?_set_ne (Ne.symm ne)]; exact h1, h2⟩
  · rcases get_set h with ⟨_, q⟩ | ⟨ne, q⟩
    · cases q
    · rw [List.getElem?_set_ne (Ne.symm ne)] at h'
      exact I.brv j d' v' q h'
/-- a name is bound to a new object -/
theorem I2.storeN {i : Nat} {p : Addr} {d : D} (I : I2 c z σ H F e) (hi : i < σ.length) (w : Own c F H d p) (h0 : z.H0 p = none) (hn : ∀ i, ¬ RootAt σ e i p) : I2 c z (σ.set i (some (.ref p))) H F (e.set i (some (.ow d))) := by
  have key : ∀ (j : Nat) (q : Addr), RootAt (σ.set i (some (.ref p))) (e.set i (some (.ow d))) j q → (j = i ∧ q = p) ∨ (j ≠ i ∧ RootAt σ e j q) := fun j q ⟨b, h1, h2, h3⟩ => by
    rcases get_set h1 with ⟨e1, q1⟩ | ⟨ne, q1⟩
    · rcases get_set h3 with ⟨_, q2⟩ | ⟨ne, _⟩
      · cases q2; exact .inl ⟨e1, rfl⟩
      · exact absurd e1 ne
    · rcases get_set h3 with ⟨q', _⟩ | ⟨_, q'⟩
      · exact absurd q' ne
      · exact .inr ⟨ne, b, q1, h2, q'⟩
  refine ⟨by rw [List.length_set, List.length_set]; exact I.len, I.f0, I.fh, I.keep, fun j b h => ?_, fun j k q h1 h2 => ?_, I.bo, I.nf, fun j d' v' h h' => ?_⟩
  · rcases get_set h with ⟨rfl, q⟩ | ⟨ne, q⟩
    · cases q; exact ⟨_, get_setS hi, p, rfl, w, h0⟩
    · obtain ⟨w, h1, h2⟩ := I.slot j b q
      exact ⟨w, by rw [List.getElem?_set_ne (Ne.symm ne)]; exact h1, h2⟩
  · rcases key j q h1 with ⟨rfl, rfl⟩ | ⟨n1, r1⟩
    · rcases key k q h2 with ⟨rfl, _⟩ | ⟨_, r2⟩
      · rfl
      · exact absurd r2 (hn k)
    · rcases key k q h2 with ⟨rfl, rfl⟩ | ⟨_, r2⟩
      · exact absurd r1 (hn j)
      · exact I.dist j k q r1 r2
  · rcases get_set h with ⟨_, q⟩ | ⟨ne, q⟩
    · cases q
    · rw [List.getElem?_set_ne (Ne.symm ne)] at h'
      exact I.brv j d' v' q h'
/-- a name goes -/
theorem I2.unbind {i : Nat} (I : I2 c z σ H F e) : I2 c z (σ.set i none) H F (e.set i none) := by
  have key : ∀ (j : Nat) (b : B), (e.set i none)[j]? = some (some b) → j ≠ i ∧ e[j]? = some (some b) := fun j b h => by
    rcases get_set h with ⟨_, q⟩ | ⟨ne, q⟩
    · cases q
    · exact ⟨ne, q⟩
  refine ⟨by rw [List.length_set, List.length_set]; exact I.len, I.f0, I.fh, I.keep, fun j b h => ?_, fun j k p ⟨b, h1, h2, h3⟩ ⟨b', h1', h2', h3'⟩ => ?_, I.bo, I.nf, fun j d' v' h h' => ?_⟩
  · obtain ⟨ne, q⟩ := key j b h
    obtain ⟨w, h1, h2⟩ := I.slot j b q
    exact ⟨w, by rw [List.getElem?_set_ne (Ne.symm ne)]; exact h1, h2⟩
  · obtain ⟨ne, q⟩ := key j b h1
    obtain ⟨ne', q'⟩ := key k b' h1'
    rw [List.getElem?_set_ne (Ne.symm ne)] at h3
    rw [List.getElem?_set_ne (Ne.symm ne')] at h3'
    exact I.dist j k p ⟨b, q, h2, h3⟩ ⟨b', q', h2', h3'⟩
  · obtain ⟨ne, q⟩ := key j _ h
    rw [List.getElem?_set_ne (Ne.symm ne)] at h'
    exact I.brv j d' v' q h'

/-! ### what is handed on -/
/-- read: shared, or of a name -/
def View (c : Ct) (F H : Hp) (d : D) (v : V) : Prop := Rp c F d v ∨ ∃ p, v = .ref p ∧ Own c F H d p
def T.seal : T → T
  | .nw d => .vl d
  | t => t
def lookT (t : T) (e : DEnv) : Option D := match t with
  | .sl i => match e[i]? with
    | some (some b) => some b.d
    | _ => none
  | .vl d => some d
  | .nw d => some d
def escape (t : T) (e : DEnv) : Option (D × DEnv) := match t with
  | .sl i => match e[i]? with
    | some (some (.sh d)) => some (d, e)
    | some (some (.ow d)) => some (d, e.set i (some (.sh d)))
    | _ => none
  | .vl d => some (d, e)
  | .nw d => some (d, e)
theorem TR.seal {t : T} {v : V} (I : I2 c z σ H F e) (h : TR c z F H σ e t v) : ∃ G, Ex F G ∧ I2 c z σ H G e ∧ TR c z G H σ e t.seal v := by
  cases t with
  | sl i => exact ⟨F, Ex.refl F, I, h⟩
  | vl d => exact ⟨F, Ex.refl F, I, h⟩
  | nw d =>
    obtain ⟨p, rfl, w, h0, hn⟩ := h
    exact I.sealNew w h0 hn
theorem TR.keep {t : T} {v : V} {e' : DEnv} (h : TR c z F H σ e t.seal v) (x : Ex F G) : TR c z G H' σ e' t.seal v := by
  cases t with
  | sl i => exact h
  | vl d => exact Rp.mono x d v h
  | nw d => exact Rp.mono x d v h
theorem TR.view {t : T} {v : V} {d : D} (I : I2 c z σ H F e) (h : TR c z F H σ e t v) (l : lookT t e = some d) : View c F H d v := by
  cases t with
  | sl i =>
    unfold lookT at l
    dsimp only at l
    split at l
    · rename_i b hb
      obtain ⟨w, hw, r⟩ := I.slot i b hb
      have h' : σ[i]? = some (some v) := h
      rw [h'] at hw; cases hw; cases l
      cases b with
      | sh d => exact .inl r
      | ow d => obtain ⟨p, rfl, o, _⟩ := r; exact .inr ⟨p, rfl, o⟩
      | br d => obtain ⟨p, rfl, o, _⟩ := r; exact .inr ⟨p, rfl, o⟩
    · cases l
  | vl d => cases l; exact .inl h
  | nw d => cases l; obtain ⟨p, rfl, w, _⟩ := h; exact .inr ⟨p, rfl, w⟩
theorem TR.escape {t : T} {v : V} {d : D} {e' : DEnv} (I : I2 c z σ H F e) (h : TR c z F H σ e t v) (l : escape t e = some (d, e')) : ∃ G, Ex F G ∧ I2 c z σ H G e' ∧ Rp c G d v := by
  cases t with
  | sl i =>
    have h' : σ[i]? = some (some v) := h
    unfold DL.escape at l
    dsimp only at l
    split at l
    · rename_i d' hb
      obtain ⟨w, hw, r⟩ := I.slot i _ hb
      rw [h'] at hw; cases hw; cases l
      exact ⟨F, Ex.refl F, I, r⟩
    · rename_i d' hb
      obtain ⟨G, w, x, J, hw, r⟩ := I.freeze hb
      rw [h'] at hw; cases hw; cases l
      exact ⟨G, x, J, r⟩
    · cases l
  | vl d' => cases l; exact ⟨F, Ex.refl F, I, h⟩
  | nw d' =>
    cases l
    obtain ⟨p, rfl, w, h0, hn⟩ := h
    exact I.sealNew w h0 hn
end
end DL

/-! DL, part c: judgements of expressions (DE), tests (DT), arguments (DA) by what they do on data; operators. -/
namespace DL
open PySem L2 Evl

abbrev FE := DEnv → Res (T × DEnv)
abbrev FT := DEnv → Res (Bool × DEnv)
abbrev FA := DEnv → Res (List T × DEnv)
/-- what is wished of an exception -/
def Xp (c : Ct) (z : Zs) (W : WX) (σ : L2.St) (F : Hp) (x : XV) (e' : DEnv) : Prop := ∀ cls dd H' F', Ex F F' → I2 c z σ H' F' e' → XR c F' x cls dd → W cls dd σ H'
theorem Xp.mono {c : Ct} {z : Zs} {W : WX} {σ : L2.St} {F G : Hp} {x : XV} {e' : DEnv} (h : Xp c z W σ F x e') (k : Ex F G) : Xp c z W σ G x e' := fun cls dd H' F' k' I r => h cls dd H' F' (k.trans k') I r
def SndE (c : Ct) (W : WX) (te : TE) (f : FE) : Prop := ∀ (z : Zs) σ H F e (Q : VK), I2 c z σ H F e →
  Wp (f e) (fun r => ∀ v H' F', Ex F F' → I2 c z σ H' F' r.2 → TR c z F' H' σ r.2 r.1 v → Q v H') (Xp c z W σ F) → te σ H Q
def SndT (c : Ct) (W : WX) (tt : TT) (f : FT) : Prop := ∀ (z : Zs) σ H F e (Q : Bool → Hp → Prop), I2 c z σ H F e →
  Wp (f e) (fun r => ∀ H' F', Ex F F' → I2 c z σ H' F' r.2 → Q r.1 H') (Xp c z W σ F) → tt σ H Q
/-- tokens of arguments, all sealed -/
def TRs (c : Ct) (z : Zs) (F H : Hp) (σ : L2.St) (e : DEnv) : List T → List V → Prop
  | [], vs => vs = []
  | t :: ts, vs => ∃ v r, vs = v :: r ∧ t.seal = t ∧ TR c z F H σ e t v ∧ TRs c z F H σ e ts r
def SndA (c : Ct) (W : WX) (ta : TA) (f : FA) : Prop := ∀ (z : Zs) σ H F e (Q : List V → Hp → Prop), I2 c z σ H F e →
  Wp (f e) (fun r => ∀ vs H' F', Ex F F' → I2 c z σ H' F' r.2 → TRs c z F' H' σ r.2 r.1 vs → Q vs H') (Xp c z W σ F) → ta σ H Q

structure DE (X : Cx) (c : Ct) (W : WX) (ex : Expr) (te : TE) (f : FE) : Prop where
  pe : PE X ex te
  sn : SndE c W te f
structure DT (X : Cx) (c : Ct) (W : WX) (ex : Expr) (tt : TT) (f : FT) : Prop where
  pt : PT X ex tt
  sn : SndT c W tt f
structure DA (X : Cx) (c : Ct) (W : WX) (es : List Expr) (ta : TA) (f : FA) : Prop where
  pa : PA X es ta
  sn : SndA c W ta f

theorem T.seal_seal (t : T) : t.seal.seal = t.seal := by cases t <;> rfl
section
variable {X : Cx} {c : Ct} {z : Zs} {W : WX} {σ : L2.St} {H H' F G : Hp} {e : DEnv} {a b : Expr} {ta tb : TE} {fa fb : FE} {es : List Expr} {tr : TA} {fr : FA} {pos : Pos}
theorem TRs.keep {e' : DEnv} (x : Ex F G) : ∀ {ts : List T} {vs : List V}, TRs c z F H σ e ts vs → TRs c z G H' σ e' ts vs
  | [], _, h => h
  | t :: ts, _, ⟨v, r, h1, h2, h3, h4⟩ => ⟨v, r, h1, h2, by rw [← h2] at h3 ⊢; exact h3.keep x, TRs.keep x h4⟩
theorem TRs.len : ∀ {ts : List T} {vs : List V}, TRs c z F H σ e ts vs → ts.length = vs.length
  | [], _, h => by cases h; rfl
  | t :: ts, _, ⟨v, r, h1, h2, h3, h4⟩ => by subst h1; simp [TRs.len h4]

/-! ### names, constants -/
def fVar (i : Nat) : FE := fun e => match e[i]? with
  | some (some _) => .ok (.sl i, e)
  | _ => .stuck
theorem sn_var (i : Nat) : SndE c W (tVar i) (fVar i) := fun z σ H F e Q I h => by
  unfold fVar at h
  split at h
  · rename_i b hb
    obtain ⟨v, hv, r⟩ := I.slot i b hb
    exact ⟨v, hv, h v H F (Ex.refl F) I hv⟩
  · exact h.elim
def fC (d : D) : FE := fun e => .ok (.vl d, e)
theorem sn_c {d : D} {v : V} (h : ∀ F, Rp c F d v) : SndE c W (tC v) (fC d) := fun z σ H F e Q I k => k v H F (Ex.refl F) I (h F)
theorem de_var (i : Nat) {x : Str} (h : PE X (.Name x pos) (tVar i)) : DE X c W (.Name x pos) (tVar i) (fVar i) := ⟨h, sn_var i⟩
theorem de_int {n j} : DE X c W (.Constant (.int n) j pos) (tC (.int n)) (fC (.int n)) := ⟨pe_int, sn_c fun _ => rfl⟩
theorem de_bl {n j} : DE X c W (.Constant (.bool n) j pos) (tC (.bl n)) (fC (.bl n)) := ⟨pe_bl, sn_c fun _ => rfl⟩
theorem de_non {j} : DE X c W (.Constant .none j pos) (tC .non) (fC .non) := ⟨pe_non, sn_c fun _ => rfl⟩
theorem de_str {n j} : DE X c W (.Constant (.str n) j pos) (tC (.str n)) (fC (.str n)) := ⟨pe_str, sn_c fun _ => rfl⟩

/-! ### arguments -/
def fA0 : FA := fun e => .ok ([], e)
def fA1 (fa : FE) (fr : FA) : FA := fun e => (fa e).bind fun r => (fr r.2).bind fun q => .ok (r.1.seal :: q.1, q.2)
theorem da_nil : DA X c W [] tNil fA0 := ⟨pa_nil, fun z σ H F e Q I h => h [] H F (Ex.refl F) I rfl⟩
theorem da_cons (ha : DE X c W a ta fa) (hr : DA X c W es tr fr) (hs : starEach (a :: es) X.env = (false, eval a X.env) :: starEach es X.env := by rfl) : DA X c W (a :: es) (tCons ta tr) (fA1 fa fr) := by
  refine ⟨pa_cons ha.pe hr.pa hs, fun z σ H F e Q I h => ?_⟩
  unfold fA1 at h
  rw [Wp.bind] at h
  refine ha.sn z σ H F e _ I (h.mono (fun r _ h v H1 F1 x1 I1 t1 => ?_) fun _ _ h => h)
  obtain ⟨F2, x2, I2, t2⟩ := t1.seal I1
  rw [Wp.bind] at h
  refine hr.sn z σ H1 F2 _ _ I2 (h.mono (fun q _ h vs H3 F3 x3 I3 t3 => ?_) fun _ _ h => h.mono (x1.trans x2))
  exact h (v :: vs) H3 F3 ((x1.trans x2).trans x3) I3 ⟨v, vs, rfl, T.seal_seal _, t2.keep x3, t3⟩

/-! ### results of operations -/
inductive RV where
  | fl (d : D) | nl (ds : List D) | nt (ds : List D)
def RV.tok : RV → T
  | .fl d => .vl d | .nl ds => .nw (.lst ds) | .nt ds => .vl (.tup ds)
def RV.Post (c : Ct) (F H : Hp) (Q : VK) : RV → Prop
  | .fl d => ∀ v, Rp c F d v → Q v H
  | .nl ds => ∀ p vs, RpL c F ds vs → H p = none → Q (.ref p) (upd H p (.lst vs))
  | .nt ds => ∀ p vs, RpL c F ds vs → H p = none → Q (.ref p) (upd H p (.tup vs))
theorem RV.post_of {rv : RV} {Q : VK} (I : I2 c z σ H F e) (k : ∀ v H' F', Ex F F' → I2 c z σ H' F' e → TR c z F' H' σ e rv.tok v → Q v H') : rv.Post c F H Q := by
  cases rv with
  | fl d => exact fun v r => k v H F (Ex.refl F) I r
  | nl ds =>
    intro p vs r hp
    exact k _ _ F (Ex.refl F) (I.alloc (Ex.new hp)) ⟨p, rfl, ⟨fresh_back I.fh hp, vs, upd_same, r⟩, I.fresh0 hp, I.noroot hp⟩
  | nt ds =>
    intro p vs r hp
    have x := Ex.new (o := HO.tup vs) (fresh_back I.fh hp)
    exact k _ _ _ x (I.allocT hp) ⟨p, vs, rfl, st_of upd_same, RpL.mono x ds vs r⟩

/-! ### operators -/
def R2Ok (c : Ct) (r : R2) (op : D → D → Option RV) : Prop := ∀ F H d1 d2 v1 v2 rv (Q : VK), Ex F H → View c F H d1 v1 → View c F H d2 v2 → op d1 d2 = some rv → rv.Post c F H Q → r v1 v2 H Q
def R1Ok (c : Ct) (r : V → Hp → VK → Prop) (op : D → Option RV) : Prop := ∀ F H d1 v1 rv (Q : VK), Ex F H → View c F H d1 v1 → op d1 = some rv → rv.Post c F H Q → r v1 H Q
def fOp2 (op : D → D → Option RV) (fa fb : FE) : FE := fun e => (fa e).bind fun r => (fb r.2).bind fun q => Res.of ((lookT r.1.seal q.2).bind fun d1 => (lookT q.1 q.2).bind fun d2 => (op d1 d2).bind fun rv => some (rv.tok, q.2))
def fOp1 (op : D → Option RV) (fa : FE) : FE := fun e => (fa e).bind fun r => Res.of ((lookT r.1 r.2).bind fun d1 => (op d1).bind fun rv => some (rv.tok, r.2))
theorem obind {α β : Type} {o : Option α} {f : α → Option β} {b : β} (h : o.bind f = some b) : ∃ a, o = some a ∧ f a = some b := by
  cases o with
  | none => cases h
  | some a => exact ⟨a, rfl, h⟩
theorem sn_op2 {r : R2} {op : D → D → Option RV} (ho : R2Ok c r op) (ha : SndE c W ta fa) (hb : SndE c W tb fb) : SndE c W (tOp r ta tb) (fOp2 op fa fb) := fun z σ H F e Q I h => by
  unfold fOp2 at h
  rw [Wp.bind] at h
  refine ha z σ H F e _ I (h.mono (fun r _ h v H1 F1 x1 I1 t1 => ?_) fun _ _ h => h)
  obtain ⟨F2, x2, I2, t2⟩ := t1.seal I1
  rw [Wp.bind] at h
  refine hb z σ H1 F2 _ _ I2 (h.mono (fun q _ h w H3 F3 x3 I3 t3 => ?_) fun _ _ h => h.mono (x1.trans x2))
  obtain ⟨a, ea, h⟩ := Wp.of h
  obtain ⟨d1, l1, ea⟩ := obind ea
  obtain ⟨d2, l2, ea⟩ := obind ea
  obtain ⟨rv, l3, ea⟩ := obind ea
  cases ea
  refine ho F3 H3 d1 d2 v w rv Q I3.fh ((t2.keep (H' := H3) x3).view I3 l1) (t3.view I3 l2) l3 (RV.post_of I3 fun v' H' F' x' I' t' => ?_)
  exact h v' H' F' (((x1.trans x2).trans x3).trans x') I' t'
theorem sn_op1 {r : V → Hp → VK → Prop} {op : D → Option RV} (ho : R1Ok c r op) (ha : SndE c W ta fa) : SndE c W (tUn r ta) (fOp1 op fa) := fun z σ H F e Q I h => by
  unfold fOp1 at h
  rw [Wp.bind] at h
  refine ha z σ H F e _ I (h.mono (fun r _ h v H1 F1 x1 I1 t1 => ?_) fun _ _ h => h)
  obtain ⟨a, ea, h⟩ := Wp.of h
  obtain ⟨d1, l1, ea⟩ := obind ea
  obtain ⟨rv, l3, ea⟩ := obind ea
  cases ea
  exact ho F1 H1 d1 v rv Q I1.fh (t1.view I1 l1) l3 (RV.post_of I1 fun v' H' F' x' I' t' => h v' H' F' (x1.trans x') I' t')
theorem de_op {o : Operator} {r : R2} {op : D → D → Option RV} (hp : OpR X (binaryOp o) r) (ho : R2Ok c r op) (ha : DE X c W a ta fa) (hb : DE X c W b tb fb) : DE X c W (.BinOp a o b pos) (tOp r ta tb) (fOp2 op fa fb) :=
  ⟨pe_op hp ha.pe hb.pe, sn_op2 ho ha.sn hb.sn⟩
theorem de_un {o : UnaryOp} {r : V → Hp → VK → Prop} {op : D → Option RV} (hp : UnR X (unaryOp o) r) (ho : R1Ok c r op) (ha : DE X c W a ta fa) : DE X c W (.UnaryOp o a pos) (tUn r ta) (fOp1 op fa) :=
  ⟨pe_un hp ha.pe, sn_op1 ho ha.sn⟩
theorem de_cmp {o : CmpOp} {r : R2} {op : D → D → Option RV} (hp : OpR X (compareOp o) r) (ho : R2Ok c r op) (ha : DE X c W a ta fa) (hb : DE X c W b tb fb) (hm : behindInMarks o b = false) : DE X c W (.Compare a [o] [b] pos) (tOp r ta tb) (fOp2 op fa fb) :=
  ⟨pe_cmpR hp ha.pe hb.pe hm, sn_op2 ho ha.sn hb.sn⟩
/-- an item -/
theorem de_ix {r : R2} {op : D → D → Option RV} (hp : IxR X r) (ho : R2Ok c r op) (ha : DE X c W a ta fa) (hb : DE X c W b tb fb) (hs : PlainIx b) : DE X c W (.Subscript a b pos) (tOp r ta tb) (fOp2 op fa fb) :=
  ⟨pe_ix hp ha.pe hb.pe hs, sn_op2 ho ha.sn hb.sn⟩

/-! ### calls of what is built in -/
def lookTs : List T → DEnv → Option (List D)
  | [], _ => some []
  | t :: ts, e => (lookT t e).bind fun d => (lookTs ts e).bind fun ds => some (d :: ds)
def Views (c : Ct) (F H : Hp) : List D → List V → Prop
  | [], vs => vs = []
  | d :: ds, vs => ∃ v r, vs = v :: r ∧ View c F H d v ∧ Views c F H ds r
theorem TRs.views (I : I2 c z σ H F e) : ∀ {ts : List T} {vs : List V} {ds : List D}, TRs c z F H σ e ts vs → lookTs ts e = some ds → Views c F H ds vs
  | [], _, _, h, l => by cases l; exact h
  | t :: ts, _, _, ⟨v, r, h1, h2, h3, h4⟩, l => by
    obtain ⟨d, l1, l⟩ := obind l
    obtain ⟨ds, l2, l⟩ := obind l
    cases l
    exact ⟨v, r, h1, h3.view I l1, TRs.views I h4 l2⟩
def RlOk (c : Ct) (r : List V → Hp → VK → Prop) (op : List D → Option RV) : Prop := ∀ F H ds vs rv (Q : VK), Ex F H → Views c F H ds vs → op ds = some rv → rv.Post c F H Q → r vs H Q
def fCB (op : List D → Option RV) (fr : FA) : FE := fun e => (fr e).bind fun r => Res.of ((lookTs r.1 r.2).bind fun ds => (op ds).bind fun rv => some (rv.tok, r.2))
theorem sn_cb {r : List V → Hp → VK → Prop} {op : List D → Option RV} (ho : RlOk c r op) (ha : SndA c W tr fr) : SndE c W (tCB r tr) (fCB op fr) := fun z σ H F e Q I h => by
  unfold fCB at h
  rw [Wp.bind] at h
  refine ha z σ H F e _ I (h.mono (fun r _ h v H1 F1 x1 I1 t1 => ?_) fun _ _ h => h)
  obtain ⟨a, ea, h⟩ := Wp.of h
  obtain ⟨d1, l1, ea⟩ := obind ea
  obtain ⟨rv, l3, ea⟩ := obind ea
  cases ea
  exact ho F1 H1 d1 v rv Q I1.fh (t1.views I1 l1) l3 (RV.post_of I1 fun v' H' F' x' I' t' => h v' H' F' (x1.trans x') I' t')
theorem de_callB {r : List V → Hp → VK → Prop} {op : List D → Option RV} {x : Str} {id : String} {p : Pos} (hc : CallR X (.builtin id) r) (ho : RlOk c r op) (hg : Gl X x) (hm : X.mg x = none) (hv : bootBuiltins x = some (.builtin id)) (ha : DA X c W (a :: es) tr fr)
    (hn : x ≠ "__name__" := by decide) (hdb : (x == ("__debug__" : Str)) = false := by decide) (he : starEach (a :: es) X.env = (false, eval a X.env) :: starEach es X.env := by rfl) (hpl : (backTo pos (starEach es X.env)).any (·.1) = false := by rfl) :
    DE X c W (.Call (.Name x p) (a :: es) [] pos) (tCB r tr) (fCB op fr) := ⟨pe_callB hc hg hm hv ha.pa hn hdb he hpl, sn_cb ho ha.sn⟩
theorem de_callTy {r : List V → Hp → VK → Prop} {op : List D → Option RV} {x : Str} {id : String} {p : Pos} (hc : CallR X (.type id) r) (ho : RlOk c r op) (hg : Gl X x) (hm : X.mg x = none) (hv : bootBuiltins x = some (.type id)) (ha : DA X c W (a :: es) tr fr)
    (hn : x ≠ "__name__" := by decide) (hdb : (x == ("__debug__" : Str)) = false := by decide) (he : starEach (a :: es) X.env = (false, eval a X.env) :: starEach es X.env := by rfl) (hpl : (backTo pos (starEach es X.env)).any (·.1) = false := by rfl) :
    DE X c W (.Call (.Name x p) (a :: es) [] pos) (tCB r tr) (fCB op fr) := ⟨pe_callTy hc hg hm hv ha.pa hn hdb he hpl, sn_cb ho ha.sn⟩

/-! ### tests -/
def fB (f : FE) : FT := fun e => (f e).bind fun r => match lookT r.1 r.2 with
  | some (.bl b) => .ok (b, r.2)
  | _ => .stuck
theorem View.bl {b : Bool} {v : V} (h : View c F H (.bl b) v) : v = .bl b := by
  rcases h with h | ⟨p, _, h⟩
  · exact h
  · exact h.2.elim
theorem View.int {n : Int} {v : V} (h : View c F H (.int n) v) : v = .int n := by
  rcases h with h | ⟨p, _, h⟩
  · exact h
  · exact h.2.elim
theorem View.str {n : Str} {v : V} (h : View c F H (.str n) v) : v = .str n := by
  rcases h with h | ⟨p, _, h⟩
  · exact h
  · exact h.2.elim
theorem View.non {v : V} (h : View c F H .non v) : v = .non := by
  rcases h with h | ⟨p, _, h⟩
  · exact h
  · exact h.2.elim
theorem View.lst {ds : List D} {v : V} (x : Ex F H) (h : View c F H (.lst ds) v) : ∃ p vs, v = .ref p ∧ H p = some (.lst vs) ∧ RpL c F ds vs := by
  rcases h with ⟨p, vs, h1, h2, h3⟩ | ⟨p, h1, _, vs, h2, h3⟩
  · exact ⟨p, vs, h1, x _ _ h2, h3⟩
  · exact ⟨p, vs, h1, h2, h3⟩
theorem View.rol {ds : List D} {v : V} (x : Ex F H) (h : View c F H (.rol ds) v) : ∃ p vs, v = .ref p ∧ SqL c.K H p vs ∧ RpL c F ds vs := by
  rcases h with ⟨p, vs, h1, h2, h3⟩ | ⟨p, h1, h⟩
  · exact ⟨p, vs, h1, ex_l x h2, h3⟩
  · exact h.2.elim
theorem View.tup {ds : List D} {v : V} (x : Ex F H) (h : View c F H (.tup ds) v) : ∃ p vs, v = .ref p ∧ SqT c.K H p vs ∧ RpL c F ds vs := by
  rcases h with ⟨p, vs, h1, h2, h3⟩ | ⟨p, h1, h⟩
  · exact ⟨p, vs, h1, ex_t x h2, h3⟩
  · exact h.2.elim
theorem View.ins {k : Nat} {ds : List D} {v : V} (x : Ex F H) (h : View c F H (.ins k ds) v) : ∃ p dx vs, v = .ref p ∧ H p = some (.ins (c.cl k) dx ((c.fn k).zip vs)) ∧ RpL c F ds vs := by
  rcases h with ⟨p, dx, vs, h1, h2, h3⟩ | ⟨p, h1, _, dx, vs, h2, h3⟩
  · exact ⟨p, dx, vs, h1, x _ _ h2, h3⟩
  · exact ⟨p, dx, vs, h1, h2, h3⟩
theorem sn_B {t : TT} (h : ∀ σ H Q, (ta σ H fun x H1 => ∃ k, x = .bl k ∧ Q k H1) → t σ H Q) (ha : SndE c W ta fa) : SndT c W t (fB fa) := fun z σ H F e Q I k => by
  unfold fB at k
  rw [Wp.bind] at k
  refine h σ H Q (ha z σ H F e _ I (k.mono (fun r _ h v H1 F1 x1 I1 t1 => ?_) fun _ _ h => h))
  cases hl : lookT r.1 r.2 with
  | none => rw [hl] at h; exact h.elim
  | some d =>
    rw [hl] at h
    cases d <;> first | exact h.elim | skip
    rename_i b
    exact ⟨b, (t1.view I1 hl).bl, h H1 F1 x1 I1⟩
theorem dt_val (ha : DE X c W a ta fa) (he : ∀ whole, isTrue a X.env whole = (do let v ← whole; standAt a.pos; holding [v] (truthy v)) := by intro _; rfl) : DT X c W a (tB ta) (fB fa) := ⟨pt_val ha.pe he, sn_B (fun _ _ _ h => h) ha.sn⟩
theorem dt_cmp {o : CmpOp} {r : R2} {op : D → D → Option RV} (hp : OpR X (compareOp o) r) (ho : R2Ok c r op) (ha : DE X c W a ta fa) (hb : DE X c W b tb fb) (hm : behindInMarks o b = false) : DT X c W (.Compare a [o] [b] pos) (tTest (tOp r ta tb)) (fB (fOp2 op fa fb)) :=
  ⟨pt_cmpR hp ha.pe hb.pe hm, sn_B (fun _ _ _ h => h) (sn_op2 ho ha.sn hb.sn)⟩
variable {tA tB' : TT} {fA fB' : FT} {rest : List Expr}
def fNot (f : FT) : FT := fun e => (f e).bind fun r => .ok (!r.1, r.2)
def fAnd (f g : FT) : FT := fun e => (f e).bind fun r => if r.1 = true then g r.2 else .ok (false, r.2)
def fOr (f g : FT) : FT := fun e => (f e).bind fun r => if r.1 = true then .ok (true, r.2) else g r.2
theorem sn_not (ha : SndT c W tA fA) : SndT c W (tNot tA) (fNot fA) := fun z σ H F e Q I h => by
  unfold fNot at h
  rw [Wp.bind] at h
  exact ha z σ H F e _ I (h.mono (fun r _ h => h) fun _ _ h => h)
theorem sn_and (ha : SndT c W tA fA) (hb : SndT c W tB' fB') : SndT c W (tAnd tA tB') (fAnd fA fB') := fun z σ H F e Q I h => by
  unfold fAnd at h
  rw [Wp.bind] at h
  refine ha z σ H F e _ I (h.mono (fun r _ h H1 F1 x1 I1 => ?_) fun _ _ h => h)
  obtain ⟨b, e1⟩ := r
  cases b with
  | true =>
    rw [if_pos rfl] at h
    show tB' σ H1 Q
    exact hb z σ H1 F1 e1 Q I1 (h.mono (fun q _ h H2 F2 x2 I2 => h H2 F2 (x1.trans x2) I2) fun _ _ h => h.mono x1)
  | false =>
    rw [if_neg Bool.false_ne_true] at h
    exact h H1 F1 x1 I1
theorem sn_or (ha : SndT c W tA fA) (hb : SndT c W tB' fB') : SndT c W (tOr tA tB') (fOr fA fB') := fun z σ H F e Q I h => by
  unfold fOr at h
  rw [Wp.bind] at h
  refine ha z σ H F e _ I (h.mono (fun r _ h H1 F1 x1 I1 => ?_) fun _ _ h => h)
  obtain ⟨b, e1⟩ := r
  cases b with
  | false =>
    rw [if_neg Bool.false_ne_true] at h
    show tB' σ H1 Q
    exact hb z σ H1 F1 e1 Q I1 (h.mono (fun q _ h H2 F2 x2 I2 => h H2 F2 (x1.trans x2) I2) fun _ _ h => h.mono x1)
  | true =>
    rw [if_pos rfl] at h
    exact h H1 F1 x1 I1
/-- and, or: a test whatever its whole is -/
structure DW (X : Cx) (c : Ct) (W : WX) (ex : Expr) (tt : TT) (f : FT) : Prop where
  pw : PW X ex tt
  sn : SndT c W tt f
theorem DW.dt {ex : Expr} (h : DW X c W ex tA fA) : DT X c W ex tA fA := ⟨h.pw.pt, h.sn⟩
theorem dt_not (ha : DT X c W a tA fA) : DT X c W (.UnaryOp .Not a pos) (tNot tA) (fNot fA) := ⟨pt_not ha.pt, sn_not ha.sn⟩
theorem dw_and1 (ha : DT X c W a tA fA) : DW X c W (.BoolOp .And [a] pos) tA fA := ⟨pw_and1 ha.pt, ha.sn⟩
theorem dw_or1 (ha : DT X c W a tA fA) : DW X c W (.BoolOp .Or [a] pos) tA fA := ⟨pw_or1 ha.pt, ha.sn⟩
theorem dw_and (ha : DT X c W a tA fA) (hb : DW X c W (.BoolOp .And (b :: rest) pos) tB' fB') : DW X c W (.BoolOp .And (a :: b :: rest) pos) (tAnd tA tB') (fAnd fA fB') := ⟨pw_and ha.pt hb.pw, sn_and ha.sn hb.sn⟩
theorem dw_or (ha : DT X c W a tA fA) (hb : DW X c W (.BoolOp .Or (b :: rest) pos) tB' fB') : DW X c W (.BoolOp .Or (a :: b :: rest) pos) (tOr tA tB') (fOr fA fB') := ⟨pw_or ha.pt hb.pw, sn_or ha.sn hb.sn⟩
/-! as values -/
def fNotV (f : FE) : FE := fun e => (fB f e).bind fun r => .ok (.vl (.bl (!r.1)), r.2)
def fAndV (f g : FE) : FE := fun e => (fB f e).bind fun r => if r.1 = true then g r.2 else .ok (.vl (.bl false), r.2)
def fOrV (f g : FE) : FE := fun e => (fB f e).bind fun r => if r.1 = true then .ok (.vl (.bl true), r.2) else g r.2
theorem sn_notV (ha : SndE c W ta fa) : SndE c W (tNotV ta) (fNotV fa) := fun z σ H F e Q I h => by
  unfold fNotV at h
  rw [Wp.bind] at h
  exact sn_B (t := fun σ H Q => ta σ H fun x H1 => ∃ k, x = .bl k ∧ Q k H1) (fun _ _ _ h => h) ha z σ H F e (fun k H1 => Q (.bl (!k)) H1) I (h.mono (fun r _ h H1 F1 x1 I1 => h _ H1 F1 x1 I1 rfl) fun _ _ h => h)
theorem sn_andV (ha : SndE c W ta fa) (hb : SndE c W tb fb) : SndE c W (tAndV ta tb) (fAndV fa fb) := fun z σ H F e Q I h => by
  unfold fAndV at h
  rw [Wp.bind] at h
  refine sn_B (t := fun σ H Q => ta σ H fun x H1 => ∃ k, x = .bl k ∧ Q k H1) (fun _ _ _ h => h) ha z σ H F e (fun k H1 => if k = true then tb σ H1 Q else Q (.bl false) H1) I (h.mono (fun r _ h H1 F1 x1 I1 => ?_) fun _ _ h => h)
  obtain ⟨b, e1⟩ := r
  cases b with
  | true =>
    rw [if_pos rfl] at h ⊢
    exact hb z σ H1 F1 e1 Q I1 (h.mono (fun q _ h v H2 F2 x2 I2 t2 => h v H2 F2 (x1.trans x2) I2 t2) fun _ _ h => h.mono x1)
  | false =>
    rw [if_neg Bool.false_ne_true] at h ⊢
    exact h _ H1 F1 x1 I1 rfl
theorem sn_orV (ha : SndE c W ta fa) (hb : SndE c W tb fb) : SndE c W (tOrV ta tb) (fOrV fa fb) := fun z σ H F e Q I h => by
  unfold fOrV at h
  rw [Wp.bind] at h
  refine sn_B (t := fun σ H Q => ta σ H fun x H1 => ∃ k, x = .bl k ∧ Q k H1) (fun _ _ _ h => h) ha z σ H F e (fun k H1 => if k = true then Q (.bl true) H1 else tb σ H1 Q) I (h.mono (fun r _ h H1 F1 x1 I1 => ?_) fun _ _ h => h)
  obtain ⟨b, e1⟩ := r
  cases b with
  | false =>
    rw [if_neg Bool.false_ne_true] at h ⊢
    exact hb z σ H1 F1 e1 Q I1 (h.mono (fun q _ h v H2 F2 x2 I2 t2 => h v H2 F2 (x1.trans x2) I2 t2) fun _ _ h => h.mono x1)
  | true =>
    rw [if_pos rfl] at h ⊢
    exact h _ H1 F1 x1 I1 rfl
theorem de_notV (ha : DE X c W a ta fa) : DE X c W (.UnaryOp .Not a pos) (tNotV ta) (fNotV fa) := ⟨pe_not ha.pe, sn_notV ha.sn⟩
theorem de_and1 {o} (ha : DE X c W a ta fa) : DE X c W (.BoolOp o [a] pos) ta fa := ⟨pe_one ha.pe, ha.sn⟩
theorem de_and (ha : DE X c W a ta fa) (hb : DE X c W (.BoolOp .And (b :: rest) pos) tb fb) : DE X c W (.BoolOp .And (a :: b :: rest) pos) (tAndV ta tb) (fAndV fa fb) := ⟨pe_and ha.pe hb.pe, sn_andV ha.sn hb.sn⟩
theorem de_or (ha : DE X c W a ta fa) (hb : DE X c W (.BoolOp .Or (b :: rest) pos) tb fb) : DE X c W (.BoolOp .Or (a :: b :: rest) pos) (tOrV ta tb) (fOrV fa fb) := ⟨pe_or ha.pe hb.pe, sn_orV ha.sn hb.sn⟩
def fIf (t : FT) (f g : FE) : FE := fun e => (t e).bind fun r => if r.1 = true then f r.2 else g r.2
theorem sn_if (hc : SndT c W tA fA) (ha : SndE c W ta fa) (hb : SndE c W tb fb) : SndE c W (tIf tA ta tb) (fIf fA fa fb) := fun z σ H F e Q I h => by
  unfold fIf at h
  rw [Wp.bind] at h
  refine hc z σ H F e _ I (h.mono (fun r _ h H1 F1 x1 I1 => ?_) fun _ _ h => h)
  obtain ⟨b, e1⟩ := r
  cases b with
  | true =>
    rw [if_pos rfl] at h ⊢
    exact ha z σ H1 F1 e1 Q I1 (h.mono (fun q _ h v H2 F2 x2 I2 t2 => h v H2 F2 (x1.trans x2) I2 t2) fun _ _ h => h.mono x1)
  | false =>
    rw [if_neg Bool.false_ne_true] at h ⊢
    exact hb z σ H1 F1 e1 Q I1 (h.mono (fun q _ h v H2 F2 x2 I2 t2 => h v H2 F2 (x1.trans x2) I2 t2) fun _ _ h => h.mono x1)
theorem de_if {t : Expr} (hc : DT X c W t tA fA) (ha : DE X c W a ta fa) (hb : DE X c W b tb fb) : DE X c W (.IfExp t a b pos) (tIf tA ta tb) (fIf fA fa fb) := ⟨pe_ifExp hc.pt ha.pe hb.pe, sn_if hc.sn ha.sn hb.sn⟩
end
end DL

/-! DL, part d: the operators on data. -/
namespace DL
open PySem L2 Evl

def lim : Nat := 1000000
theorem lim_ok {n : Nat} (h : n ≤ lim) : n ≤ sizeLine := Nat.le_trans h (by decide)
theorem lim_lt {n : Nat} (h : n < lim) : n < sizeLine := Nat.lt_of_lt_of_le h (by decide)

/-! ### two ints -/
def opI (C : Int → Int → Bool) (g : Int → Int → D) (a b : D) : Option RV := match a, b with
  | .int i, .int j => if C i j then some (.fl (g i j)) else none
  | _, _ => none
section
variable {c : Ct}
theorem ok_rI {C : Int → Int → Prop} {B : Int → Int → Bool} {g : Int → Int → V} {G : Int → Int → D} (h : ∀ i j, B i j = true → C i j) (hg : ∀ i j F, Rp c F (G i j) (g i j)) : R2Ok c (rI C g) (opI B G) := by
  intro F H d1 d2 v1 v2 rv Q x k1 k2 l q
  cases d1 <;> cases d2 <;> try cases l
  rename_i i j
  unfold opI at l
  dsimp only at l
  split at l
  · rename_i hb
    cases l
    exact ⟨i, j, k1.int, k2.int, h i j hb, q _ (hg i j F)⟩
  · cases l
theorem ok_rI0 {g : Int → Int → V} {G : Int → Int → D} (hg : ∀ i j F, Rp c F (G i j) (g i j)) : R2Ok c (rI0 g) (opI (fun _ _ => true) G) := by
  intro F H d1 d2 v1 v2 rv Q x k1 k2 l q
  cases d1 <;> cases d2 <;> try cases l
  rename_i i j
  exact ⟨i, j, k1.int, k2.int, q _ (hg i j F)⟩
def opSub := opI (fun _ _ => true) fun i j => .int (i - j)
def mulOk (i j : Int) : Bool := decide (i.natAbs.log2 + j.natAbs.log2 < 1000000)
def divOk (_ j : Int) : Bool := decide (j ≠ 0) && decide (j.natAbs.log2 < 9000)
def modOk (_ j : Int) : Bool := decide (j ≠ 0)
def powOk (i j : Int) : Bool := decide (0 ≤ j) && decide (j ≤ 1000000) && decide (i.natAbs < 2 ^ 64)
def shlOk (i j : Int) : Bool := decide (0 ≤ j) && decide ((Builtin.Int.intBits i : Int) + j ≤ 2 ^ 27)
def shrOk (_ j : Int) : Bool := decide (0 ≤ j)
def opDiv := opI divOk fun i j => .int (i.fdiv j)
def opMod := opI modOk fun i j => .int (i.fmod j)
def opPow := opI powOk fun i j => .int (i ^ j.toNat)
def opShl := opI shlOk fun i j => .int (i * 2 ^ j.toNat)
def opShr := opI shrOk fun i j => .int (i / 2 ^ j.toNat)
def opAnd := opI (fun _ _ => true) fun i j => .int (Builtin.bitAnd i j)
def opOr := opI (fun _ _ => true) fun i j => .int (Builtin.bitOr i j)
def opXor := opI (fun _ _ => true) fun i j => .int (Builtin.bitXor i j)
def opLt := opI (fun _ _ => true) fun i j => .bl (decide (i < j))
def opLe := opI (fun _ _ => true) fun i j => .bl (decide (i ≤ j))
def opGt := opI (fun _ _ => true) fun i j => .bl (decide (j < i))
def opGe := opI (fun _ _ => true) fun i j => .bl (decide (j ≤ i))
def CDivD (i j : Int) : Prop := j ≠ 0 ∧ j.natAbs.log2 < 9000
section
variable {X : Cx}
theorem op_fdivD : OpR X (binaryOp .FloorDiv) (rI CDivD fun i j => .int (i.fdiv j)) := L2.opI fun _ _ _ _ _ _ _ hc q => PyProof.Rows.floordiv_int hc.1 q (.inl (PyProof.noPylong_of_log2 hc.2))
end
theorem ok_sub : R2Ok c (rI0 fun i j => .int (i - j)) opSub := ok_rI0 fun _ _ _ => rfl
theorem ok_div : R2Ok c (rI CDivD fun i j => .int (i.fdiv j)) opDiv := ok_rI (fun i j h => by simp [divOk] at h; exact h) fun _ _ _ => rfl
theorem ok_mod : R2Ok c (rI (fun _ j => j ≠ 0) fun i j => .int (i.fmod j)) opMod := ok_rI (fun i j h => by simp [modOk] at h; exact h) fun _ _ _ => rfl
theorem ok_pow : R2Ok c (rI CPow fun i j => .int (i ^ j.toNat)) opPow := ok_rI (fun i j h => by simp [powOk] at h; exact ⟨h.1.1, h.1.2, h.2⟩) fun _ _ _ => rfl
theorem ok_shl : R2Ok c (rI CShl fun i j => .int (i * 2 ^ j.toNat)) opShl := ok_rI (fun i j h => by
  unfold shlOk at h
  obtain ⟨h1, h2⟩ := Bool.and_eq_true_iff.mp h
  exact ⟨of_decide_eq_true h1, of_decide_eq_true h2⟩) fun _ _ _ => rfl
theorem ok_shr : R2Ok c (rI (fun _ j => 0 ≤ j) fun i j => .int (i / 2 ^ j.toNat)) opShr := ok_rI (fun i j h => by simp [shrOk] at h; exact h) fun _ _ _ => rfl
theorem ok_and : R2Ok c (rI0 fun i j => .int (Builtin.bitAnd i j)) opAnd := ok_rI0 fun _ _ _ => rfl
theorem ok_or : R2Ok c (rI0 fun i j => .int (Builtin.bitOr i j)) opOr := ok_rI0 fun _ _ _ => rfl
theorem ok_xor : R2Ok c (rI0 fun i j => .int (Builtin.bitXor i j)) opXor := ok_rI0 fun _ _ _ => rfl
theorem ok_lt : R2Ok c (rI0 fun i j => .bl (decide (i < j))) opLt := ok_rI0 fun _ _ _ => rfl
theorem ok_le : R2Ok c (rI0 fun i j => .bl (decide (i ≤ j))) opLe := ok_rI0 fun _ _ _ => rfl
theorem ok_gt : R2Ok c (rI0 fun i j => .bl (decide (j < i))) opGt := ok_rI0 fun _ _ _ => rfl
theorem ok_ge : R2Ok c (rI0 fun i j => .bl (decide (j ≤ i))) opGe := ok_rI0 fun _ _ _ => rfl
/-- one int -/
def opU (g : Int → D) (a : D) : Option RV := match a with
  | .int i => some (.fl (g i))
  | _ => none
theorem ok_rU {g : Int → V} {G : Int → D} (hg : ∀ i F, Rp c F (G i) (g i)) : R1Ok c (rU g) (opU G) := by
  intro F H d1 v1 rv Q x k1 l q
  cases d1 <;> try cases l
  rename_i i
  exact ⟨i, k1.int, q _ (hg i F)⟩
def opNeg := opU fun i => .int (-i)
def opInv := opU fun i => .int (Builtin.bitNot i)
theorem ok_neg : R1Ok c (rU fun i => .int (-i)) opNeg := ok_rU fun _ _ => rfl
theorem ok_inv : R1Ok c (rU fun i => .int (Builtin.bitNot i)) opInv := ok_rU fun _ _ => rfl

/-! ### + and * of any kind -/
def ROr (r r' : R2) : R2 := fun x y H Q => r x y H Q ∨ r' x y H Q
def rAddS' : R2 := fun x y H Q => ∃ i j, x = .str i ∧ y = .str j ∧ i.length + j.length ≤ sizeLine ∧ Q (.str (i ++ j)) H
def opAdd (a b : D) : Option RV := match a, b with
  | .int i, .int j => some (.fl (.int (i + j)))
  | .str i, .str j => if i.length + j.length ≤ lim then some (.fl (.str (i ++ j))) else none
  | .lst i, .lst j => if i.length + j.length ≤ lim then some (.nl (i ++ j)) else none
  | _, _ => none
theorem op_addA {X : Cx} : OpR X (binaryOp .Add) (ROr (rI0 fun i j => .int (i + j)) (ROr rAddS' rCat)) := op_add.or (op_add_str.or op_cat)
theorem ok_add : R2Ok c (ROr (rI0 fun i j => .int (i + j)) (ROr rAddS' rCat)) opAdd := by
  intro F H d1 d2 v1 v2 rv Q x k1 k2 l q
  cases d1 <;> cases d2 <;> try cases l
  · rename_i i j
    exact .inl ⟨i, j, k1.int, k2.int, q _ rfl⟩
  · rename_i i j
    unfold opAdd at l
    dsimp only at l
    split at l
    · rename_i h
      cases l
      exact .inr (.inl ⟨i, j, k1.str, k2.str, lim_ok h, q _ rfl⟩)
    · cases l
  · rename_i i j
    unfold opAdd at l
    dsimp only at l
    split at l
    · rename_i h
      cases l
      obtain ⟨p1, w1, e1, h1, r1⟩ := k1.lst x
      obtain ⟨p2, w2, e2, h2, r2⟩ := k2.lst x
      refine .inr (.inr ⟨p1, p2, w1, w2, e1, e2, h1, h2, ?_, fun p hp => q p _ (r1.app r2) hp⟩)
      rw [← r1.len, ← r2.len]
      exact lim_ok h
    · cases l
def opMul (a b : D) : Option RV := match a, b with
  | .int i, .int j => if mulOk i j then some (.fl (.int (i * j))) else none
  | .lst i, .int k => if decide (0 ≤ k) && decide (k ≤ 1000000) && decide (i.length * k.toNat ≤ lim) then some (.nl (List.replicate k.toNat i).flatten) else none
  | _, _ => none
theorem RpL.rep {F : Hp} {ds : List D} {vs : List V} (h : RpL c F ds vs) : ∀ n : Nat, RpL c F (List.replicate n ds).flatten (List.replicate n vs).flatten
  | 0 => rfl
  | n + 1 => by
    rw [List.replicate_succ, List.replicate_succ, List.flatten_cons, List.flatten_cons]
    exact h.app (RpL.rep h n)
theorem op_mulA {X : Cx} : OpR X (binaryOp .Mult) (ROr (rI CMulW fun i j => .int (i * j)) rRep) := op_mulW.or op_rep
theorem ok_mul : R2Ok c (ROr (rI CMulW fun i j => .int (i * j)) rRep) opMul := by
  intro F H d1 d2 v1 v2 rv Q x k1 k2 l q
  cases d1 <;> cases d2 <;> try cases l
  · rename_i i j
    unfold opMul at l
    dsimp only at l
    split at l
    · rename_i h
      cases l
      exact .inl ⟨i, j, k1.int, k2.int, show i.natAbs.log2 + j.natAbs.log2 < 1000000 from of_decide_eq_true h, q _ rfl⟩
    · cases l
  · rename_i i j
    unfold opMul at l
    dsimp only at l
    split at l
    · rename_i h
      cases l
      obtain ⟨h, h3⟩ := Bool.and_eq_true_iff.mp h
      obtain ⟨h1, h2⟩ := Bool.and_eq_true_iff.mp h
      have h1 := of_decide_eq_true h1
      have h2 := of_decide_eq_true h2
      have h3 := of_decide_eq_true h3
      obtain ⟨p1, w1, e1, h4, r1⟩ := k1.lst x
      refine .inr ⟨p1, j, w1, e1, k2.int, h4, by omega, by omega, ?_, fun p hp => q p _ (r1.rep _) hp⟩
      rw [← r1.len]
      exact lim_ok h3
    · cases l

/-! ### equality of data -/
mutual
def toPy : D → PyData
  | .non => .none
  | .bl b => .bool b
  | .int i => .int i
  | .str s => .str s
  | .lst ds => .list (toPyL ds)
  | .rol ds => .list (toPyL ds)
  | .tup ds => .tuple (toPyL ds)
  | .ins _ _ => .dict []
def toPyL : List D → List PyData
  | [] => []
  | d :: ds => toPy d :: toPyL ds
end
def dOk (d : D) : Bool := SeqAt.shaped (toPy d)
def deq (a b : D) : Bool := PyData.eqv (toPy a) (toPy b)
mutual
theorem Rp.dp {F H : Hp} (x : Ex F H) : ∀ (d : D) (v : V), (toPy d).canLay0 = true → Rp c F d v → Dp c.K H v (toPy d)
  | .non, _, _, h => by cases h; exact .non
  | .bl _, _, _, h => by cases h; exact .bl _
  | .int _, _, _, h => by cases h; exact .int _
  | .str _, _, _, h => by cases h; exact .str _
  | .lst ds, _, k, ⟨p, vs, h1, h2, h3⟩ => by subst h1; exact .lst (sq_of (x _ _ h2)) (RpL.dp x ds vs k h3)
  | .rol ds, _, k, ⟨p, vs, h1, h2, h3⟩ => by subst h1; exact .lst (ex_l x h2) (RpL.dp x ds vs k h3)
  | .tup ds, _, k, ⟨p, vs, h1, h2, h3⟩ => by subst h1; exact .tup (ex_t x h2) (RpL.dp x ds vs k h3)
  | .ins _ ds, _, k, _ => by cases k
theorem RpL.dp {F H : Hp} (x : Ex F H) : ∀ (ds : List D) (vs : List V), PyData.canLayAll0 (toPyL ds) = true → RpL c F ds vs → DpAll c.K H vs (toPyL ds)
  | [], _, _, h => by cases h; exact .nil
  | d :: ds, _, k, ⟨v, r, h1, h2, h3⟩ => by
    subst h1
    obtain ⟨k1, k2⟩ := Bool.and_eq_true_iff.mp k
    exact .cons (Rp.dp x d v k1 h2) (RpL.dp x ds r k2 h3)
end
theorem View.dp {F H : Hp} {d : D} {v : V} (x : Ex F H) (k : (toPy d).canLay0 = true) (h : View c F H d v) : Dp c.K H v (toPy d) := by
  rcases h with h | ⟨p, rfl, h⟩
  · exact h.dp x d v k
  · cases d with
    | lst ds => obtain ⟨_, vs, h1, h2⟩ := h; exact .lst (sq_of h1) (h2.dp x ds vs k)
    | ins j ds => cases k
    | _ => exact h.2.elim
theorem dOk.lay {d : D} (h : dOk d = true) : (toPy d).canLay0 = true := SeqAt.canLay_of_shaped h
def opEq (a b : D) : Option RV := if dOk a && dOk b then some (.fl (.bl (deq a b))) else none
def opNe (a b : D) : Option RV := if dOk a && dOk b then some (.fl (.bl (!deq a b))) else none
theorem ok_eq : R2Ok c (rEqD c.K) opEq := by
  intro F H d1 d2 v1 v2 rv Q x k1 k2 l q
  unfold opEq at l
  split at l
  · rename_i h
    obtain ⟨h1, h2⟩ := Bool.and_eq_true_iff.mp h
    cases l
    exact ⟨_, _, k1.dp x (dOk.lay h1), k2.dp x (dOk.lay h2), h1, h2, q _ rfl⟩
  · cases l
theorem ok_ne : R2Ok c (rNeD c.K) opNe := by
  intro F H d1 d2 v1 v2 rv Q x k1 k2 l q
  unfold opNe at l
  split at l
  · rename_i h
    obtain ⟨h1, h2⟩ := Bool.and_eq_true_iff.mp h
    cases l
    exact ⟨_, _, k1.dp x (dOk.lay h1), k2.dp x (dOk.lay h2), h1, h2, q _ rfl⟩
  · cases l
/-- x in a list -/
def opIn (a b : D) : Option RV := match b with
  | .lst ds => if dOk a && dOk b then some (.fl (.bl (ds.any fun y => deq y a))) else none
  | _ => none
def opNi (a b : D) : Option RV := match b with
  | .lst ds => if dOk a && dOk b then some (.fl (.bl (!ds.any fun y => deq y a))) else none
  | _ => none
theorem any_py (d : D) : ∀ ds : List D, ((toPyL ds).any fun y => PyData.eqv y (toPy d)) = ds.any fun y => deq y d
  | [] => rfl
  | e :: ds => by
    show (PyData.eqv (toPy e) (toPy d) || (toPyL ds).any fun y => PyData.eqv y (toPy d)) = (deq e d || ds.any fun y => deq y d)
    rw [any_py d ds]
    rfl
theorem ok_in : R2Ok c (rInD c.K) opIn := by
  intro F H d1 d2 v1 v2 rv Q x k1 k2 l q
  cases d2 <;> try cases l
  rename_i ds
  unfold opIn at l
  dsimp only at l
  split at l
  · rename_i h
    obtain ⟨h1, h2⟩ := Bool.and_eq_true_iff.mp h
    cases l
    refine ⟨_, _, k1.dp x (dOk.lay h1), k2.dp x (dOk.lay h2), h1, h2, ?_⟩
    rw [any_py]
    exact q _ rfl
  · cases l
theorem ok_ni : R2Ok c (rNotInD c.K) opNi := by
  intro F H d1 d2 v1 v2 rv Q x k1 k2 l q
  cases d2 <;> try cases l
  rename_i ds
  unfold opNi at l
  dsimp only at l
  split at l
  · rename_i h
    obtain ⟨h1, h2⟩ := Bool.and_eq_true_iff.mp h
    cases l
    refine ⟨_, _, k1.dp x (dOk.lay h1), k2.dp x (dOk.lay h2), h1, h2, ?_⟩
    rw [any_py]
    exact q _ rfl
  · cases l

/-! ### items, slices, lengths -/
def opIx (a b : D) : Option RV := match a, b with
  | .lst ds, .int i => (atI ds i).map .fl
  | .rol ds, .int i => (atI ds i).map .fl
  | .tup ds, .int i => (atI ds i).map .fl
  | .str z, .int i => if z.length ≤ lim then (atI z.cps.toList i).map fun c => .fl (.str ⟨#[c]⟩) else none
  | _, _ => none
theorem atI_rp {F : Hp} {ds : List D} {vs : List V} {i : Int} {d : D} (r : RpL c F ds vs) (h : atI ds i = some d) : ∃ v, atI vs i = some v ∧ Rp c F d v := by
  unfold atI at h ⊢
  rw [← r.len]
  obtain ⟨j, h1, h2⟩ := obind h
  obtain ⟨v, h3, h4⟩ := r.get h2
  exact ⟨v, by rw [h1]; exact h3, h4⟩
theorem omap {α β : Type} {o : Option α} {f : α → β} {b : β} (h : o.map f = some b) : ∃ a, o = some a ∧ f a = b := by
  cases o with
  | none => cases h
  | some a => exact ⟨a, rfl, Option.some.inj h⟩
theorem ok_ix : R2Ok c (rIx c.K) opIx := by
  intro F H d1 d2 v1 v2 rv Q x k1 k2 l q
  cases d1 <;> cases d2 <;> try cases l
  · rename_i z i
    unfold opIx at l
    dsimp only at l
    split at l
    · rename_i h
      obtain ⟨ch, h1, h2⟩ := omap l
      subst h2
      exact .inr (.inr ⟨z, i, ch, k1.str, k2.int, lim_ok h, h1, q _ rfl⟩)
    · cases l
  · rename_i ds i
    obtain ⟨d, h1, h2⟩ := omap l
    subst h2
    obtain ⟨p, vs, e1, h3, r⟩ := k1.lst x
    obtain ⟨v, h4, r'⟩ := atI_rp r h1
    exact .inl ⟨p, vs, i, v, e1, k2.int, sq_of h3, h4, q _ r'⟩
  · rename_i ds i
    obtain ⟨d, h1, h2⟩ := omap l
    subst h2
    obtain ⟨p, vs, e1, h3, r⟩ := k1.tup x
    obtain ⟨v, h4, r'⟩ := atI_rp r h1
    exact .inr (.inl ⟨p, vs, i, v, e1, k2.int, h3, h4, q _ r'⟩)
  · rename_i ds i
    obtain ⟨d, h1, h2⟩ := omap l
    subst h2
    obtain ⟨p, vs, e1, h3, r⟩ := k1.rol x
    obtain ⟨v, h4, r'⟩ := atI_rp r h1
    exact .inl ⟨p, vs, i, v, e1, k2.int, h3, h4, q _ r'⟩
def opLen (ds : List D) : Option RV := match ds with
  | [.lst xs] => some (.fl (.int xs.length))
  | [.rol xs] => some (.fl (.int xs.length))
  | [.tup xs] => some (.fl (.int xs.length))
  | [.str z] => if z.length ≤ lim then some (.fl (.int z.length)) else none
  | _ => none
abbrev rLen' (K : PySem.W.Frag) : List V → Hp → VK → Prop := fun xs H Q => (∃ p ys, xs = [.ref p] ∧ (SqL K H p ys ∨ SqT K H p ys) ∧ Q (.int ys.length) H) ∨ ∃ z, xs = [.str z] ∧ z.length ≤ sizeLine ∧ Q (.int z.length) H
theorem call_lenA {X : Cx} : CallR X (.builtin "len") (rLen' X.K) := call_len_seq.or call_len_str
theorem Views.one {F H : Hp} {d : D} {vs : List V} (h : Views c F H [d] vs) : ∃ v, vs = [v] ∧ View c F H d v := by
  obtain ⟨v, r, rfl, h1, h2⟩ := h
  cases h2
  exact ⟨v, rfl, h1⟩
theorem Views.two {F H : Hp} {d e : D} {vs : List V} (h : Views c F H [d, e] vs) : ∃ v w, vs = [v, w] ∧ View c F H d v ∧ View c F H e w := by
  obtain ⟨v, r, rfl, h1, h2⟩ := h
  obtain ⟨w, rfl, h3⟩ := h2.one
  exact ⟨v, w, rfl, h1, h3⟩
theorem ok_len : RlOk c (rLen' c.K) opLen := by
  intro F H ds vs rv Q x k l q
  unfold opLen at l
  split at l
  · rename_i xs
    cases l
    obtain ⟨v, rfl, y⟩ := k.one
    obtain ⟨p, ws, rfl, h, r⟩ := y.lst x
    exact .inl ⟨p, ws, rfl, .inl (sq_of h), by rw [← r.len]; exact q _ rfl⟩
  · rename_i xs
    cases l
    obtain ⟨v, rfl, y⟩ := k.one
    obtain ⟨p, ws, rfl, h, r⟩ := y.rol x
    exact .inl ⟨p, ws, rfl, .inl h, by rw [← r.len]; exact q _ rfl⟩
  · rename_i xs
    cases l
    obtain ⟨v, rfl, y⟩ := k.one
    obtain ⟨p, ws, rfl, h, r⟩ := y.tup x
    exact .inl ⟨p, ws, rfl, .inr h, by rw [← r.len]; exact q _ rfl⟩
  · rename_i z
    split at l
    · rename_i h
      cases l
      obtain ⟨v, rfl, y⟩ := k.one
      exact .inr ⟨z, by rw [y.str], lim_ok h, q _ rfl⟩
    · cases l
  · cases l
/-- list(x), tuple(x) -/
def opList (ds : List D) : Option RV := match ds with
  | [.lst xs] => some (.nl xs)
  | [.rol xs] => some (.nl xs)
  | [.tup xs] => some (.nl xs)
  | _ => none
abbrev rList' (K : PySem.W.Frag) : List V → Hp → VK → Prop := fun xs H Q => ∃ p ys, xs = [.ref p] ∧ (SqL K H p ys ∨ SqT K H p ys) ∧ ∀ l, H l = none → Q (.ref l) (upd H l (.lst ys))
theorem ok_list : RlOk c (rList' c.K) opList := by
  intro F H ds vs rv Q x k l q
  unfold opList at l
  split at l <;> try cases l
  · obtain ⟨v, rfl, y⟩ := k.one
    obtain ⟨p, ws, rfl, h, r⟩ := y.lst x
    exact ⟨p, ws, rfl, .inl (sq_of h), fun l hl => q l ws r hl⟩
  · obtain ⟨v, rfl, y⟩ := k.one
    obtain ⟨p, ws, rfl, h, r⟩ := y.rol x
    exact ⟨p, ws, rfl, .inl h, fun l hl => q l ws r hl⟩
  · obtain ⟨v, rfl, y⟩ := k.one
    obtain ⟨p, ws, rfl, h, r⟩ := y.tup x
    exact ⟨p, ws, rfl, .inr h, fun l hl => q l ws r hl⟩
def opTuple (ds : List D) : Option RV := match ds with
  | [.lst xs] => some (.nt xs)
  | [.rol xs] => some (.nt xs)
  | [.tup xs] => some (.fl (.tup xs))
  | _ => none
abbrev rTuple' (K : PySem.W.Frag) : List V → Hp → VK → Prop := fun xs H Q => ∃ p ys, xs = [.ref p] ∧ ((SqL K H p ys ∧ ∀ l, H l = none → Q (.ref l) (upd H l (.tup ys))) ∨ (SqT K H p ys ∧ Q (.ref p) H))
theorem ok_tuple : RlOk c (rTuple' c.K) opTuple := by
  intro F H ds vs rv Q x k l q
  unfold opTuple at l
  split at l <;> try cases l
  · obtain ⟨v, rfl, y⟩ := k.one
    obtain ⟨p, ws, rfl, h, r⟩ := y.lst x
    exact ⟨p, ws, rfl, .inl ⟨sq_of h, fun l hl => q l ws r hl⟩⟩
  · obtain ⟨v, rfl, y⟩ := k.one
    obtain ⟨p, ws, rfl, h, r⟩ := y.rol x
    exact ⟨p, ws, rfl, .inl ⟨h, fun l hl => q l ws r hl⟩⟩
  · rename_i xs
    obtain ⟨v, rfl, y⟩ := k.one
    rcases y with y | ⟨p, _, y⟩
    · obtain ⟨p, ws, rfl, h, r⟩ := id y
      exact ⟨p, ws, rfl, .inr ⟨ex_t x h, q _ y⟩⟩
    · exact y.2.elim
/-- int(n), int(flag); abs; min, max of two -/
def opInt (ds : List D) : Option RV := match ds with
  | [.int i] => some (.fl (.int i))
  | [.bl b] => some (.fl (.int (if b then 1 else 0)))
  | _ => none
abbrev rInt' : List V → Hp → VK → Prop := fun xs H Q => (∃ i, xs = [.int i] ∧ Q (.int i) H) ∨ ∃ k, xs = [.bl k] ∧ Q (.int (if k then 1 else 0)) H
theorem ok_int : RlOk c rInt' opInt := by
  intro F H ds vs rv Q x k l q
  unfold opInt at l
  split at l <;> try cases l
  · obtain ⟨v, rfl, y⟩ := k.one
    exact .inl ⟨_, by rw [y.int], q _ rfl⟩
  · obtain ⟨v, rfl, y⟩ := k.one
    exact .inr ⟨_, by rw [y.bl], q _ rfl⟩
def opAbs (ds : List D) : Option RV := match ds with
  | [.int i] => some (.fl (.int (if i < 0 then -i else i)))
  | _ => none
abbrev rAbs' : List V → Hp → VK → Prop := fun xs H Q => ∃ i, xs = [.int i] ∧ Q (.int (if i < 0 then -i else i)) H
theorem ok_abs : RlOk c rAbs' opAbs := by
  intro F H ds vs rv Q x k l q
  unfold opAbs at l
  split at l <;> try cases l
  obtain ⟨v, rfl, y⟩ := k.one
  exact ⟨_, by rw [y.int], q _ rfl⟩
def opMax2 (ds : List D) : Option RV := match ds with
  | [.int i, .int j] => some (.fl (.int (if j > i then j else i)))
  | _ => none
abbrev rMax2' : List V → Hp → VK → Prop := fun xs H Q => ∃ i j, xs = [.int i, .int j] ∧ Q (.int (if j > i then j else i)) H
theorem ok_max2 : RlOk c rMax2' opMax2 := by
  intro F H ds vs rv Q x k l q
  unfold opMax2 at l
  split at l <;> try cases l
  obtain ⟨v, w, rfl, k1, k2⟩ := k.two
  exact ⟨_, _, by rw [k1.int, k2.int], q _ rfl⟩
def opMin2 (ds : List D) : Option RV := match ds with
  | [.int i, .int j] => some (.fl (.int (if j < i then j else i)))
  | _ => none
abbrev rMin2' : List V → Hp → VK → Prop := fun xs H Q => ∃ i j, xs = [.int i, .int j] ∧ Q (.int (if j < i then j else i)) H
theorem ok_min2 : RlOk c rMin2' opMin2 := by
  intro F H ds vs rv Q x k l q
  unfold opMin2 at l
  split at l <;> try cases l
  obtain ⟨v, w, rfl, k1, k2⟩ := k.two
  exact ⟨_, _, by rw [k1.int, k2.int], q _ rfl⟩
end

/-! ### displays -/
section
variable {X : Cx} {c : Ct} {z : Zs} {W : WX} {es : List Expr} {ta : TA} {fa : FA} {pos : Pos}
def escs : List T → DEnv → Option (List D × DEnv)
  | [], e => some ([], e)
  | t :: ts, e => (escape t e).bind fun r => (escs ts r.2).bind fun q => some (r.1 :: q.1, q.2)
theorem TRs.escs {σ : L2.St} {H : Hp} : ∀ {ts : List T} {vs : List V} {F : Hp} {e : DEnv} {ds : List D} {e' : DEnv}, I2 c z σ H F e → TRs c z F H σ e ts vs → DL.escs ts e = some (ds, e') → ∃ G, Ex F G ∧ I2 c z σ H G e' ∧ RpL c G ds vs
  | [], vs, F, e, ds, e', I, h, l => by cases h; cases l; exact ⟨F, Ex.refl F, I, rfl⟩
  | t :: ts, vs, F, e, ds, e', I, h, l => by
    obtain ⟨v, r, rfl, h2, h3, h4⟩ := h
    obtain ⟨⟨d, e1⟩, l1, l⟩ := obind l
    obtain ⟨⟨ds', e2⟩, l2, l⟩ := obind l
    cases l
    obtain ⟨G, x1, I1, r1⟩ := h3.escape I l1
    obtain ⟨G2, x2, I2', r2⟩ := TRs.escs I1 (h4.keep x1) l2
    exact ⟨G2, x1.trans x2, I2', v, r, rfl, r1.mono x2 d v, r2⟩
def fLst (fa : FA) : FE := fun e => (fa e).bind fun r => Res.of ((escs r.1 r.2).bind fun q => if q.1.length ≤ lim then some (.nw (.lst q.1), q.2) else none)
def fTup (fa : FA) : FE := fun e => (fa e).bind fun r => Res.of ((escs r.1 r.2).bind fun q => if q.1.length ≤ lim then some (.vl (.tup q.1), q.2) else none)
theorem sn_lst (ha : SndA c W ta fa) : SndE c W (tLst ta) (fLst fa) := fun z σ H F e Q I h => by
  unfold fLst at h
  rw [Wp.bind] at h
  refine ha z σ H F e _ I (h.mono (fun r _ h vs H1 F1 x1 I1 t1 => ?_) fun _ _ h => h)
  obtain ⟨a, ea, h⟩ := Wp.of h
  obtain ⟨⟨ds, e2⟩, l1, ea⟩ := obind ea
  dsimp only at ea
  split at ea
  · rename_i hl
    cases ea
    obtain ⟨G, x2, J, rr⟩ := t1.escs I1 l1
    refine ⟨by rw [← rr.len]; exact lim_ok hl, fun p hp => ?_⟩
    exact h _ _ G (x1.trans x2) (J.alloc (Ex.new hp)) ⟨p, rfl, ⟨fresh_back J.fh hp, vs, upd_same, rr⟩, J.fresh0 hp, J.noroot hp⟩
  · cases ea
theorem sn_tup (ha : SndA c W ta fa) : SndE c W (tTup ta) (fTup fa) := fun z σ H F e Q I h => by
  unfold fTup at h
  rw [Wp.bind] at h
  refine ha z σ H F e _ I (h.mono (fun r _ h vs H1 F1 x1 I1 t1 => ?_) fun _ _ h => h)
  obtain ⟨a, ea, h⟩ := Wp.of h
  obtain ⟨⟨ds, e2⟩, l1, ea⟩ := obind ea
  dsimp only at ea
  split at ea
  · rename_i hl
    cases ea
    obtain ⟨G, x2, J, rr⟩ := t1.escs I1 l1
    refine ⟨by rw [← rr.len]; exact lim_ok hl, fun p hp => ?_⟩
    have x3 := Ex.new (o := HO.tup vs) (fresh_back J.fh hp)
    exact h _ _ _ ((x1.trans x2).trans x3) (J.allocT hp) ⟨p, vs, rfl, st_of upd_same, rr.mono x3 ds vs⟩
  · cases ea
theorem de_lst (ha : DA X c W es ta fa) : DE X c W (.List es pos) (tLst ta) (fLst fa) := ⟨pe_lst ha.pa, sn_lst ha.sn⟩
theorem de_tup {x1} (ha : DA X c W es ta fa) : DE X c W (.Tuple es x1 pos) (tTup ta) (fTup fa) := ⟨pe_tup ha.pa, sn_tup ha.sn⟩
end
end DL

/-! DL, part e: statements, loops, comprehensions. -/
namespace DL
open PySem L2 Evl

inductive Out where
  | nx (e : DEnv) | rt (t : T) (e : DEnv) | bk (e : DEnv) | ct (e : DEnv)
abbrev FS := DEnv → Res Out
def PoS (c : Ct) (z : Zs) (F : Hp) (D : Ends) : Out → Prop
  | .nx e' => ∀ σ' H' F', Ex F F' → I2 c z σ' H' F' e' → D.nx σ' H'
  | .rt t e' => ∀ v σ' H' F', Ex F F' → I2 c z σ' H' F' e' → TR c z F' H' σ' e' t v → D.rt v H'
  | .bk e' => ∀ σ' H' F', Ex F F' → I2 c z σ' H' F' e' → D.bk σ' H'
  | .ct e' => ∀ σ' H' F', Ex F F' → I2 c z σ' H' F' e' → D.ct σ' H'
def XpS (c : Ct) (z : Zs) (W : WX) (F : Hp) (x : XV) (e' : DEnv) : Prop := ∀ σ', Xp c z W σ' F x e'
def SndS (c : Ct) (W : WX) (ts : TS) (f : FS) : Prop := ∀ (z : Zs) σ H F e (D : Ends), I2 c z σ H F e → Wp (f e) (PoS c z F D) (XpS c z W F) → ts D σ H
structure DS (X : Cx) (c : Ct) (W : WX) (st : Stmt) (ts : TS) (f : FS) : Prop where
  ps : PS X st ts
  sn : SndS c W ts f
structure DSs (X : Cx) (c : Ct) (W : WX) (st : List Stmt) (ts : TS) (f : FS) : Prop where
  ps : PSs X st ts
  sn : SndS c W ts f
structure DG (X : Cx) (c : Ct) (tg : Expr) (g : TG) (fg : D → DEnv → Option DEnv) : Prop where
  pg : PG X tg g
  sn : ∀ (z : Zs) σ H F e d v e' (Q : L2.St → Hp → Prop), I2 c z σ H F e → Rp c F d v → fg d e = some e' → (∀ σ', I2 c z σ' H F e' → Q σ' H) → g v σ H Q

section
variable {X : Cx} {c : Ct} {z : Zs} {W : WX} {σ : L2.St} {H H' F G : Hp} {e : DEnv} {a b : Expr} {ta tb : TE} {fa fb : FE} {st : Stmt} {sts rest : List Stmt} {ts us : TS} {f g : FS} {tt : TT} {ft : FT} {pos : Pos}
theorem PoS.mono {D : Ends} {o : Out} (h : PoS c z F D o) (k : Ex F G) : PoS c z G D o := by
  cases o with
  | nx e' => exact fun σ' H' F' x I => h σ' H' F' (k.trans x) I
  | rt t e' => exact fun v σ' H' F' x I r => h v σ' H' F' (k.trans x) I r
  | bk e' => exact fun σ' H' F' x I => h σ' H' F' (k.trans x) I
  | ct e' => exact fun σ' H' F' x I => h σ' H' F' (k.trans x) I
theorem XpS.mono {x : XV} {e' : DEnv} (h : XpS c z W F x e') (k : Ex F G) : XpS c z W G x e' := fun σ' => (h σ').mono k

/-! ### stores -/
def storeT (i : Nat) (t : T) (e : DEnv) : Option DEnv := if i < e.length then (match t with
  | .vl d => some (e.set i (some (.sh d)))
  | .nw d => some (e.set i (some (.ow d)))
  | .sl j => match e[j]? with
    | some (some (.sh d)) => some (e.set i (some (.sh d)))
    | some (some (.ow d)) => some ((e.set j (some (.sh d))).set i (some (.sh d)))
    | _ => none) else none
theorem TR.store {i : Nat} {t : T} {v : V} {e' : DEnv} (I : I2 c z σ H F e) (h : TR c z F H σ e t v) (l : storeT i t e = some e') : ∃ G, Ex F G ∧ I2 c z (σ.set i (some v)) H G e' := by
  unfold storeT at l
  split at l
  · rename_i hi
    have hi' : i < σ.length := by rw [← I.len]; exact hi
    cases t with
    | vl d => cases l; exact ⟨F, Ex.refl F, I.store hi' h⟩
    | nw d => cases l; obtain ⟨p, rfl, w, h0, hn⟩ := h; exact ⟨F, Ex.refl F, I.storeN hi' w h0 hn⟩
    | sl j =>
      have h' : σ[j]? = some (some v) := h
      dsimp only at l
      split at l
      · rename_i d hb
        cases l
        obtain ⟨w, hw, r⟩ := I.slot j _ hb
        rw [h'] at hw; cases hw
        exact ⟨F, Ex.refl F, I.store hi' r⟩
      · rename_i d hb
        cases l
        obtain ⟨G, w, x, J, hw, r⟩ := I.freeze hb
        rw [h'] at hw; cases hw
        exact ⟨G, x, J.store hi' r⟩
      · cases l
  · cases l
def fSet (i : Nat) (f : FE) : FS := fun e => (f e).bind fun r => Res.of ((storeT i r.1 r.2).map .nx)
theorem sn_set {i : Nat} (ha : SndE c W ta fa) : SndS c W (tAsg ta (gName i)) (fSet i fa) := fun z σ H F e D I h => by
  unfold fSet at h
  rw [Wp.bind] at h
  refine ha z σ H F e _ I (h.mono (fun r _ h v H1 F1 x1 I1 t1 => ?_) fun _ _ h => h σ)
  obtain ⟨o, ea, h⟩ := Wp.of h
  obtain ⟨e', l1, rfl⟩ := omap ea
  obtain ⟨G, x2, J⟩ := t1.store I1 l1
  exact h _ _ _ (x1.trans x2) J
theorem ds_set {i : Nat} {x : Str} {pos' : Pos} (hN : X.N.Nodup) (hi : X.N[i]? = some x) (hx : Loc X.env.scope x) (ha : DE X c W a ta fa) (hs : swapsWith a (some (.Name x pos')) pos.line X.env = pure false := by rfl)
    (hf : X.fn x = true ∨ X.env.scope.names.lookup x = some .local := by first | exact .inl rfl | exact .inr rfl | assumption) : DS X c W (.Assign [.Name x pos'] a pos) (tAsg ta (gName i)) (fSet i fa) := ⟨ps_set hN hi hx ha.pe hs hf, sn_set ha.sn⟩

/-! ### plain statements -/
def fNext : FS := fun e => .ok (.nx e)
def fSeq (f g : FS) : FS := fun e => (f e).bind fun o => match o with
  | .nx e1 => g e1
  | .rt t e1 => .ok (.rt t e1)
  | .bk e1 => .ok (.bk e1)
  | .ct e1 => .ok (.ct e1)
theorem sn_next : SndS c W tNext fNext := fun z σ H F e D I h => h σ H F (Ex.refl F) I
theorem sn_seq (h1 : SndS c W ts f) (h2 : SndS c W us g) : SndS c W (tSeq ts us) (fSeq f g) := fun z σ H F e D I h => by
  unfold fSeq at h
  rw [Wp.bind] at h
  refine h1 z σ H F e { D with nx := us D } I (h.mono (fun o _ h => ?_) fun _ _ h => h)
  cases o with
  | nx e1 => exact fun σ' H' F' x I' => h2 z σ' H' F' e1 D I' (h.mono (fun _ _ h => h.mono x) fun _ _ h => h.mono x)
  | rt t e1 => exact h
  | bk e1 => exact h
  | ct e1 => exact h
theorem dss_nil : DSs X c W [] tNext fNext := ⟨pss_nil, sn_next⟩
theorem dss_cons (h1 : DS X c W st ts f) (h2 : DSs X c W rest us g) : DSs X c W (st :: rest) (tSeq ts us) (fSeq f g) := ⟨pss_cons h1.ps h2.ps, sn_seq h1.sn h2.sn⟩
theorem dss_one (h1 : DS X c W st ts f) : DSs X c W [st] ts f := ⟨pss_one h1.ps, h1.sn⟩
theorem ds_pass : DS X c W (.Pass pos) tNext fNext := ⟨ps_pass, sn_next⟩
def fBreak : FS := fun e => .ok (.bk e)
def fCont : FS := fun e => .ok (.ct e)
theorem ds_break : DS X c W (.Break pos) tBreak fBreak := ⟨ps_break, fun z σ H F e D I h => h σ H F (Ex.refl F) I⟩
theorem ds_cont : DS X c W (.Continue pos) tCont fCont := ⟨ps_continue, fun z σ H F e D I h => h σ H F (Ex.refl F) I⟩
def fDrop (f : FE) : FS := fun e => (f e).bind fun r => .ok (.nx r.2)
theorem sn_drop (ha : SndE c W ta fa) : SndS c W (tDrop ta) (fDrop fa) := fun z σ H F e D I h => by
  unfold fDrop at h
  rw [Wp.bind] at h
  exact ha z σ H F e _ I (h.mono (fun r _ h v H1 F1 x1 I1 t1 => h σ H1 F1 x1 I1) fun _ _ h => h σ)
theorem ds_expr (ha : DE X c W a ta fa) (hs : swapsWith a none pos.line X.env = pure false := by rfl) : DS X c W (.Expr a pos) (tDrop ta) (fDrop fa) := ⟨ps_expr ha.pe hs, sn_drop ha.sn⟩
def fRet (f : FE) : FS := fun e => (f e).bind fun r => .ok (.rt r.1 r.2)
theorem sn_ret (ha : SndE c W ta fa) : SndS c W (tRet ta) (fRet fa) := fun z σ H F e D I h => by
  unfold fRet at h
  rw [Wp.bind] at h
  exact ha z σ H F e _ I (h.mono (fun r _ h v H1 F1 x1 I1 t1 => h v σ H1 F1 x1 I1 t1) fun _ _ h => h σ)
theorem ds_ret (ha : DE X c W a ta fa) : DS X c W (.Return (some a) pos) (tRet ta) (fRet fa) := ⟨ps_ret ha.pe, sn_ret ha.sn⟩
def fRetN : FS := fun e => .ok (.rt (.vl .non) e)
theorem ds_retN : DS X c W (.Return none pos) tRetN fRetN := ⟨ps_retN, fun z σ H F e D I h => h _ σ H F (Ex.refl F) I rfl⟩
def fIfS (t : FT) (f g : FS) : FS := fun e => (t e).bind fun r => if r.1 = true then f r.2 else g r.2
theorem sn_ifS (hc : SndT c W tt ft) (h1 : SndS c W ts f) (h2 : SndS c W us g) : SndS c W (tIfS tt ts us) (fIfS ft f g) := fun z σ H F e D I h => by
  unfold fIfS at h
  rw [Wp.bind] at h
  refine hc z σ H F e _ I (h.mono (fun r _ h H1 F1 x1 I1 => ?_) fun _ _ h => h σ)
  obtain ⟨b, e1⟩ := r
  cases b with
  | true =>
    rw [if_pos rfl] at h ⊢
    exact h1 z σ H1 F1 e1 D I1 (h.mono (fun _ _ h => h.mono x1) fun _ _ h => h.mono x1)
  | false =>
    rw [if_neg Bool.false_ne_true] at h ⊢
    exact h2 z σ H1 F1 e1 D I1 (h.mono (fun _ _ h => h.mono x1) fun _ _ h => h.mono x1)
theorem ds_if {t : Expr} (hc : DT X c W t tt ft) (h1 : DSs X c W sts ts f) (h2 : DSs X c W rest us g) : DS X c W (.If t sts rest pos) (tIfS tt ts us) (fIfS ft f g) := ⟨ps_if hc.pt h1.ps h2.ps, sn_ifS hc.sn h1.sn h2.sn⟩

/-! ### targets -/
def fgName (i : Nat) (d : D) (e : DEnv) : Option DEnv := if i < e.length then some (e.set i (some (.sh d))) else none
theorem dg_name {i : Nat} {x : Str} (hN : X.N.Nodup) (hi : X.N[i]? = some x) (hx : Loc X.env.scope x) (hf : X.fn x = true ∨ X.env.scope.names.lookup x = some .local := by first | exact .inl rfl | exact .inr rfl | assumption) :
    DG X c (.Name x pos) (gName i) (fgName i) := by
  refine ⟨pg_name hN hi hx hf, fun z σ H F e d v e' Q I r l k => ?_⟩
  unfold fgName at l
  split at l
  · rename_i hl
    cases l
    exact k _ (I.store (by rw [← I.len]; exact hl) r)
  · cases l
/-- several targets for the items of a tuple -/
structure DGs (X : Cx) (c : Ct) (tgs : List Expr) (g : TGs) (fg : List D → DEnv → Option DEnv) : Prop where
  pg : PGs X tgs g
  sn : ∀ (z : Zs) σ H F e ds vs e' (Q : L2.St → Hp → Prop), I2 c z σ H F e → RpL c F ds vs → fg ds e = some e' → (∀ σ', I2 c z σ' H F e' → Q σ' H) → g vs σ H Q
def fgNil (ds : List D) (e : DEnv) : Option DEnv := match ds with
  | [] => some e
  | _ => none
def fgCons (f : D → DEnv → Option DEnv) (g : List D → DEnv → Option DEnv) (ds : List D) (e : DEnv) : Option DEnv := match ds with
  | [] => none
  | d :: ds => (f d e).bind fun e1 => g ds e1
theorem dgs_nil : DGs X c [] gNil fgNil := ⟨pgs_nil, fun z σ H F e ds vs e' Q I r l k => by
  cases ds with
  | nil => cases l; cases r; exact ⟨rfl, k σ I⟩
  | cons _ _ => cases l⟩
theorem dgs_cons {es : List Expr} {g1 : TG} {f1 : D → DEnv → Option DEnv} {gs : TGs} {fs : List D → DEnv → Option DEnv} (h1 : DG X c a g1 f1) (h2 : DGs X c es gs fs)
    (hs : (assignEach (a :: es) X.env).map (·.2) = assign a X.env :: (assignEach es X.env).map (·.2) := by rfl) : DGs X c (a :: es) (gCons g1 gs) (fgCons f1 fs) := ⟨pgs_cons h1.pg h2.pg hs, fun z σ H F e ds vs e' Q I r l k => by
  cases ds with
  | nil => cases l
  | cons d ds =>
    obtain ⟨v, w, rfl, r1, r2⟩ := r
    obtain ⟨e1, l1, l2⟩ := obind l
    exact ⟨v, w, rfl, h1.sn z σ H F e d v e1 _ I r1 l1 fun σ1 I1 => h2.sn z σ1 H F e1 ds w e' Q I1 r2 l2 k⟩⟩
def fgTup (n : Nat) (fg : List D → DEnv → Option DEnv) (d : D) (e : DEnv) : Option DEnv := match d with
  | .tup ds => if ds.length = n then fg ds e else none
  | _ => none
theorem dg_tup {es : List Expr} {k n : Nat} {gs : TGs} {fs : List D → DEnv → Option DEnv} (hK : X.K = c.K := by rfl) (hc : X.calm = true := by rfl) (h : DGs X c es gs fs) (hp : PG X (.Tuple es k pos) (gTup X.K n gs)) : DG X c (.Tuple es k pos) (gTup c.K n gs) (fgTup n fs) := by
  refine ⟨hK ▸ hp, fun z σ H F e d v e' Q I r l q => ?_⟩
  cases d <;> try cases l
  rename_i ds
  unfold fgTup at l
  dsimp only at l
  split at l
  · rename_i hl
    obtain ⟨p, vs, rfl, h1, h2⟩ := r
    exact ⟨p, vs, rfl, ex_t I.fh h1, by rw [← h2.len]; exact hl, h.sn z σ H F e ds vs e' Q I h2 l q⟩
  · cases l
/-- target = e -/
def fAsg (fg : D → DEnv → Option DEnv) (f : FE) : FS := fun e => (f e).bind fun r => Res.of ((escape r.1 r.2).bind fun q => (fg q.1 q.2).map .nx)
theorem sn_asg {gg : TG} {fg : D → DEnv → Option DEnv} (ha : SndE c W ta fa) (hg : ∀ (z : Zs) σ H F e d v e' (Q : L2.St → Hp → Prop), I2 c z σ H F e → Rp c F d v → fg d e = some e' → (∀ σ', I2 c z σ' H F e' → Q σ' H) → gg v σ H Q) :
    SndS c W (tAsg ta gg) (fAsg fg fa) := fun z σ H F e D I h => by
  unfold fAsg at h
  rw [Wp.bind] at h
  refine ha z σ H F e _ I (h.mono (fun r _ h v H1 F1 x1 I1 t1 => ?_) fun _ _ h => h σ)
  obtain ⟨o, ea, h⟩ := Wp.of h
  obtain ⟨⟨d, e1⟩, l1, ea⟩ := obind ea
  obtain ⟨e', l2, rfl⟩ := omap ea
  obtain ⟨G, x2, J, rr⟩ := t1.escape I1 l1
  exact hg z σ H1 G e1 d v e' D.nx J rr l2 fun σ' I' => h σ' H1 G (x1.trans x2) I'
theorem ds_asg {tg : Expr} {gg : TG} {fg : D → DEnv → Option DEnv} (ha : DE X c W a ta fa) (hg : DG X c tg gg fg) (hs : swapsWithSole [tg] a pos.line X.env = pure false := by rfl) (hw : swappedStores [tg] a X.env = pure none := by rfl) (h1 : (assignEach [tg] X.env).map (·.2) = [assign tg X.env] := by rfl) :
    DS X c W (.Assign [tg] a pos) (tAsg ta gg) (fAsg fg fa) := ⟨ps_asg ha.pe hg.pg hs hw h1, sn_asg ha.sn hg.sn⟩
/-- x, y = e1, e2 (two names) -/
def fPar (i j : Nat) (fr : FA) : FS := fun e => (fr e).bind fun r => Res.of (match r.1 with
  | [t, u] => (escape t r.2).bind fun q => (escape u q.2).bind fun q2 => if i < q2.2.length ∧ j < q2.2.length then some (.nx ((q2.2.set i (some (.sh q.1))).set j (some (.sh q2.1)))) else none
  | _ => none)
theorem sn_par {i j : Nat} {tr : TA} {fr : FA} (ha : SndA c W tr fr) : SndS c W (tPar i j tr) (fPar i j fr) := fun z σ H F e D I h => by
  unfold fPar at h
  rw [Wp.bind] at h
  refine ha z σ H F e _ I (h.mono (fun r _ h vs H1 F1 x1 I1 t1 => ?_) fun _ _ h => h σ)
  obtain ⟨o, ea, h⟩ := Wp.of h
  obtain ⟨ts, e1⟩ := r
  dsimp only at ea
  split at ea
  · rename_i t u _
    obtain ⟨v, r1, rfl, s1, k1, w, r2, rfl, s2, k2, k3⟩ := t1
    cases k3
    obtain ⟨⟨d1, e2⟩, l1, ea⟩ := obind ea
    obtain ⟨⟨d2, e3⟩, l2, ea⟩ := obind ea
    dsimp only at ea
    split at ea
    · rename_i hl
      cases ea
      obtain ⟨G1, y1, J1, q1⟩ := k1.escape I1 l1
      have k2' : TR c z G1 H1 σ e2 u w := by rw [← s2] at k2 ⊢; exact k2.keep y1
      obtain ⟨G2, y2, J2, q2⟩ := k2'.escape J1 l2
      have hi : i < σ.length := by rw [← J2.len]; exact hl.1
      have hj : j < σ.length := by rw [← J2.len]; exact hl.2
      have K1 := J2.store hi (q1.mono y2 d1 v)
      have K2 := K1.store (i := j) (by rw [List.length_set]; exact hj) q2
      exact ⟨v, w, rfl, h _ _ G2 ((x1.trans y1).trans y2) K2⟩
    · cases ea
  · cases ea
theorem ds_par {i j : Nat} {x y : Str} {px py pt : Pos} {kt k2 pt2} {tr : TA} {fr : FA} (hp : PS X (.Assign [.Tuple [.Name x px, .Name y py] kt pt] (.Tuple [a, b] k2 pt2) pos) (tPar i j tr)) (ha : DA X c W [a, b] tr fr) :
    DS X c W (.Assign [.Tuple [.Name x px, .Name y py] kt pt] (.Tuple [a, b] k2 pt2) pos) (tPar i j tr) (fPar i j fr) := ⟨hp, sn_par ha.sn⟩

/-! ### x += e, xs.append(e), xs[i] = e -/
def fAug (i : Nat) (op : D → D → Option RV) (f : FE) : FS := fun e => match e[i]? with
  | some (some (.sh d1)) => (f e).bind fun r => Res.of ((lookT r.1 r.2).bind fun d2 => (op d1 d2).bind fun rv => (storeT i rv.tok r.2).map .nx)
  | _ => .stuck
theorem sn_aug {i : Nat} {ti : TIp} {op : D → D → Option RV} (ho : ∀ F H d1 d2 v1 v2 rv (Q : VK), Ex F H → View c F H d1 v1 → View c F H d2 v2 → op d1 d2 = some rv → rv.Post c F H Q → ti v1 v2 H Q) (ha : SndE c W ta fa) :
    SndS c W (tAug i ta ti) (fAug i op fa) := fun z σ H F e D I h => by
  unfold fAug at h
  split at h
  · rename_i d1 hb
    obtain ⟨v1, hv1, r1⟩ := I.slot i _ hb
    refine ⟨v1, hv1, ?_⟩
    rw [Wp.bind] at h
    refine ha z σ H F e _ I (h.mono (fun r _ h v H1 F1 x1 I1 t1 => ?_) fun _ _ h => h σ)
    obtain ⟨o, ea, h⟩ := Wp.of h
    obtain ⟨d2, l1, ea⟩ := obind ea
    obtain ⟨rv, l2, ea⟩ := obind ea
    obtain ⟨e', l3, rfl⟩ := omap ea
    refine ho F1 H1 d1 d2 v1 v rv _ I1.fh (.inl (Rp.mono x1 d1 v1 r1)) (t1.view I1 l1) l2 (RV.post_of I1 fun w H2 F2 x2 I2' t2 => ?_)
    obtain ⟨G, x3, J⟩ := t2.store I2' l3
    exact h _ _ _ ((x1.trans x2).trans x3) J
  · exact h.elim
theorem ds_aug {i : Nat} {x : Str} {o : Operator} {ti : TIp} {op : D → D → Option RV} {pos' : Pos} (hN : X.N.Nodup) (hi : X.N[i]? = some x) (hx : Loc X.env.scope x) (ha : DE X c W a ta fa) (hp : PIp X o ti)
    (ho : ∀ F H d1 d2 v1 v2 rv (Q : VK), Ex F H → View c F H d1 v1 → View c F H d2 v2 → op d1 d2 = some rv → rv.Post c F H Q → ti v1 v2 H Q)
    (hf : X.fn x = true ∨ X.env.scope.names.lookup x = some .local := by first | exact .inl rfl | exact .inr rfl | assumption) : DS X c W (.AugAssign (.Name x pos') o a pos) (tAug i ta ti) (fAug i op fa) := ⟨ps_aug hN hi hx ha.pe hp hf, sn_aug ho ha.sn⟩
/-- a list that a name alone knows -/
def rootLst (e : DEnv) (j : Nat) : Option (List D) := match e[j]? with
  | some (some (.ow (.lst ds))) => some ds
  | some (some (.br (.lst ds))) => some ds
  | _ => none
def putLst (e : DEnv) (j : Nat) (ds : List D) : DEnv := match e[j]? with
  | some (some b) => e.set j (some (b.re (.lst ds)))
  | _ => e
theorem I2.rootLst {j : Nat} {ds : List D} (I : I2 c z σ H F e) (h : rootLst e j = some ds) : ∃ p vs, σ[j]? = some (some (.ref p)) ∧ H p = some (.lst vs) ∧ RpL c F ds vs ∧
    ∀ vs' ds', RpL c F ds' vs' → I2 c z σ (upd H p (.lst vs')) F (putLst e j ds') := by
  unfold DL.rootLst at h
  split at h <;> try cases h
  · rename_i hb
    obtain ⟨v, hv, p, rfl, ⟨hF, vs, h1, h2⟩, _⟩ := I.slot j _ hb
    refine ⟨p, vs, hv, h1, h2, fun vs' ds' r => ?_⟩
    unfold putLst
    rw [hb]
    exact I.mut (d := .lst ds') hb rfl hv ⟨hF, vs', upd_same, r⟩
  · rename_i hb
    obtain ⟨v, hv, p, rfl, ⟨hF, vs, h1, h2⟩, _⟩ := I.slot j _ hb
    refine ⟨p, vs, hv, h1, h2, fun vs' ds' r => ?_⟩
    unfold putLst
    rw [hb]
    exact I.mut (d := .lst ds') hb rfl hv ⟨hF, vs', upd_same, r⟩
/-- xs.append(e), xs a name -/
def fApp (j : Nat) (f : FE) : FE := fun e => (Res.of (rootLst e j)).bind fun _ => (f e).bind fun r => Res.of ((escape r.1 r.2).bind fun q => (rootLst q.2 j).bind fun ds => if ds.length < lim then some (.vl .non, putLst q.2 j (ds ++ [q.1])) else none)
theorem sn_app {j : Nat} (ha : SndE c W ta fa) : SndE c W (tBM c.K "list" rAppend (tVar j) (tCons ta tNil)) (fApp j fa) := fun z σ H F e Q I h => by
  unfold fApp at h
  rw [Wp.bind] at h
  obtain ⟨ds0, l0, h⟩ := Wp.of h
  obtain ⟨p0, vs0, hv0, h0, _, _⟩ := I.rootLst l0
  refine ⟨_, hv0, .inl ⟨rfl, _, sq_of h0⟩, ?_⟩
  rw [Wp.bind] at h
  refine ha z σ H F e _ I (h.mono (fun r _ h v H1 F1 x1 I1 t1 => ?_) fun _ _ h => h)
  obtain ⟨o, ea, h⟩ := Wp.of h
  obtain ⟨⟨d, e1⟩, l1, ea⟩ := obind ea
  obtain ⟨ds, l2, ea⟩ := obind ea
  dsimp only at ea
  split at ea
  · rename_i hl
    cases ea
    obtain ⟨G, x2, J, rr⟩ := t1.escape I1 l1
    obtain ⟨p, vs, hv, h1, r1, k⟩ := J.rootLst l2
    rw [hv0] at hv; cases hv
    refine ⟨p0, vs, v, rfl, rfl, h1, by rw [← r1.len]; exact lim_lt hl, ?_⟩
    exact h _ _ G (x1.trans x2) (k _ _ (r1.app (RpL.one rr))) rfl
  · cases ea
/-- xs.pop() -/
def fPop (j : Nat) : FE := fun e => Res.of ((rootLst e j).bind fun ds => (ds[ds.length - 1]?).bind fun d => some (.vl d, putLst e j ds.dropLast))
theorem RpL.dropLast {ds : List D} {vs : List V} (h : RpL c F ds vs) : RpL c F ds.dropLast vs.dropLast := by
  rw [List.dropLast_eq_take, List.dropLast_eq_take, h.len]
  exact h.take _
theorem sn_pop {j : Nat} : SndE c W (tBM0 c.K "list" rPop (tVar j)) (fPop j) := fun z σ H F e Q I h => by
  unfold fPop at h
  obtain ⟨o, ea, h⟩ := Wp.of h
  obtain ⟨ds, l1, ea⟩ := obind ea
  obtain ⟨d, l2, ea⟩ := obind ea
  cases ea
  obtain ⟨p, vs, hv, h1, r1, k⟩ := I.rootLst l1
  obtain ⟨v, h3, r3⟩ := r1.get l2
  refine ⟨_, hv, .inl ⟨rfl, _, sq_of h1⟩, p, vs, v, rfl, rfl, h1, by rw [← r1.len]; exact h3, ?_⟩
  exact h _ _ F (Ex.refl F) (k _ _ r1.dropLast) r3
/-- xs.extend(ys) -/
def fExt (j : Nat) (f : FE) : FE := fun e => (Res.of (rootLst e j)).bind fun _ => (f e).bind fun r => Res.of ((escape r.1 r.2).bind fun q => match q.1 with
  | .lst es => (rootLst q.2 j).bind fun ds => if ds.length + es.length ≤ lim then some (.vl .non, putLst q.2 j (ds ++ es)) else none
  | _ => none)
theorem sn_ext {j : Nat} (ha : SndE c W ta fa) : SndE c W (tBM c.K "list" rExtend (tVar j) (tCons ta tNil)) (fExt j fa) := fun z σ H F e Q I h => by
  unfold fExt at h
  rw [Wp.bind] at h
  obtain ⟨ds0, l0, h⟩ := Wp.of h
  obtain ⟨p0, vs0, hv0, h0, _, _⟩ := I.rootLst l0
  refine ⟨_, hv0, .inl ⟨rfl, _, sq_of h0⟩, ?_⟩
  rw [Wp.bind] at h
  refine ha z σ H F e _ I (h.mono (fun r _ h v H1 F1 x1 I1 t1 => ?_) fun _ _ h => h)
  obtain ⟨o, ea, h⟩ := Wp.of h
  obtain ⟨⟨d, e1⟩, l1, ea⟩ := obind ea
  obtain ⟨G, x2, J, rr⟩ := t1.escape I1 l1
  cases d <;> try cases ea
  rename_i es
  obtain ⟨ds, l2, ea⟩ := obind ea
  dsimp only at ea
  split at ea
  · rename_i hl
    cases ea
    obtain ⟨p, vs, hv, h1, r1, k⟩ := J.rootLst l2
    rw [hv0] at hv; cases hv
    obtain ⟨q, ws, rfl, h2, r2⟩ := rr
    refine ⟨p0, q, vs, ws, rfl, rfl, h1, J.fh _ _ h2, by rw [← r1.len, ← r2.len]; exact lim_ok hl, ?_⟩
    exact h _ _ G (x1.trans x2) (k _ _ (r1.app r2)) rfl
  · cases ea
/-- xs[i] = e, xs a name -/
def fSetIx (j : Nat) (fi fv : FE) : FS := fun e => (fv e).bind fun r => (Res.of ((escape r.1 r.2).bind fun q => (rootLst q.2 j).map fun _ => q)).bind fun q => (fi q.2).bind fun s => Res.of ((lookT s.1 s.2).bind fun k => match k with
  | .int k => (rootLst s.2 j).bind fun ds => (ixN ds.length k).map fun n => .nx (putLst s.2 j (ds.set n q.1))
  | _ => none)
theorem sn_setIx {j : Nat} {ti tv : TE} {fi fv : FE} (hi : SndE c W ti fi) (hv : SndE c W tv fv) : SndS c W (tAsg tv (gSub (tVar j) ti rSetL)) (fSetIx j fi fv) := fun z σ H F e D I h => by
  unfold fSetIx at h
  rw [Wp.bind] at h
  refine hv z σ H F e _ I (h.mono (fun r _ h v H1 F1 x1 I1 t1 => ?_) fun _ _ h => h σ)
  rw [Wp.bind] at h
  obtain ⟨⟨d, e1⟩, ea, h⟩ := Wp.of h
  obtain ⟨⟨d', e1'⟩, l1, ea⟩ := obind ea
  obtain ⟨ds0, l0, ea⟩ := omap ea
  cases ea
  obtain ⟨G, x2, J, rr⟩ := t1.escape I1 l1
  obtain ⟨p0, vs0, hv0, h0, _, _⟩ := J.rootLst l0
  refine ⟨_, hv0, ?_⟩
  rw [Wp.bind] at h
  refine hi z σ H1 G e1 _ J (h.mono (fun s _ h w H2 F2 x3 I2' t2 => ?_) fun _ _ h => (h.mono (x1.trans x2)) σ)
  obtain ⟨o, ea, h⟩ := Wp.of h
  obtain ⟨k, l2, ea⟩ := obind ea
  cases k <;> try cases ea
  rename_i k
  obtain ⟨ds, l3, ea⟩ := obind ea
  obtain ⟨n, l4, rfl⟩ := omap ea
  obtain ⟨p, vs, hv1, h1, r1, kk⟩ := I2'.rootLst l3
  rw [hv0] at hv1; cases hv1
  have ew := (t2.view I2' l2).int
  subst ew
  refine ⟨p0, vs, k, n, rfl, rfl, h1, by rw [← r1.len]; exact l4, ?_⟩
  exact h σ _ F2 ((x1.trans x2).trans x3) (kk _ _ (r1.set n (rr.mono x3 d v)))
theorem ds_setIx {j : Nat} {o i : Expr} {ti tv : TE} {fi fv : FE} {tgp : Pos} (hp : PS X (.Assign [.Subscript o i tgp] a pos) (tAsg tv (gSub (tVar j) ti rSetL))) (hi : SndE c W ti fi) (hv : SndE c W tv fv) : DS X c W (.Assign [.Subscript o i tgp] a pos) (tAsg tv (gSub (tVar j) ti rSetL)) (fSetIx j fi fv) := ⟨hp, sn_setIx hi hv⟩

/-! ### what is walked -/
/-- the iterator hands on the items -/
def ItOk (c : Ct) (z : Zs) (J : It) (F : Hp) (items : List D) : Prop := ∀ (i : Nat) (σ : L2.St) (H1 F1 : Hp) (e : DEnv), Ex F F1 → I2 c z σ H1 F1 e →
  (∀ d, items[i]? = some d → J.go i H1 ∧ ∀ x H2, J.yld i H1 x H2 → ∃ F2, Ex F1 F2 ∧ Ex H1 H2 ∧ I2 c z σ H2 F2 e ∧ Rp c F2 d x) ∧ (items.length ≤ i → J.stop i H1)
abbrev FI := DEnv → Res (List D × DEnv)
def SndI (c : Ct) (W : WX) (wi : TI) (fi : FI) : Prop := ∀ (z : Zs) σ H F e (R : It → Hp → Prop), I2 c z σ H F e →
  Wp (fi e) (fun r => ∀ J H' F', Ex F F' → I2 c z σ H' F' r.2 → (∀ z', ItOk c z' J F' r.1) → R J H') (Xp c z W σ F) → wi σ H R
structure DI (X : Cx) (c : Ct) (W : WX) (tg iter : Expr) (wi : TI) (fi : FI) : Prop where
  pi : PI X tg iter wi
  sn : SndI c W wi fi
/-- over a list -/
def fiL (f : FE) : FI := fun e => (f e).bind fun r => Res.of ((escape r.1 r.2).bind fun q => match q.1 with
  | .lst ds => some (ds, q.2)
  | .rol ds => some (ds, q.2)
  | _ => none)
theorem itOk_list {z' : Zs} {p : Addr} {vs : List V} {ds : List D} (h : SqL c.K F p vs) (r : RpL c F ds vs) : ItOk c z' (Itl c.K p) F ds := fun i σ H1 F1 e x I => by
  have h1 := ex_l (x.trans I.fh) h
  refine ⟨fun d hd => ?_, fun hl => ⟨vs, h1, by rw [← r.len]; exact hl⟩⟩
  obtain ⟨v, hv, rv⟩ := r.get hd
  refine ⟨⟨vs, v, h1, hv⟩, fun y H2 hy => ?_⟩
  obtain ⟨rfl, hy⟩ := hy
  have e1 := hy vs h1
  rw [hv] at e1; cases e1
  exact ⟨F1, Ex.refl F1, Ex.refl _, I, rv.mono x d v⟩
theorem sn_iL (ha : SndE c W ta fa) : SndI c W (iList c.K ta) (fiL fa) := fun z σ H F e R I h => by
  unfold fiL at h
  rw [Wp.bind] at h
  refine ha z σ H F e _ I (h.mono (fun r _ h v H1 F1 x1 I1 t1 => ?_) fun _ _ h => h)
  obtain ⟨o, ea, h⟩ := Wp.of h
  obtain ⟨⟨d, e1⟩, l1, ea⟩ := obind ea
  obtain ⟨G, x2, J, rr⟩ := t1.escape I1 l1
  cases d <;> try cases ea
  · obtain ⟨p, vs, rfl, h1, r⟩ := rr
    exact ⟨p, rfl, ⟨vs, sq_of (J.fh _ _ h1)⟩, h _ _ G (x1.trans x2) J fun z' => itOk_list (sq_of h1) r⟩
  · obtain ⟨p, vs, rfl, h1, r⟩ := rr
    exact ⟨p, rfl, ⟨vs, ex_l J.fh h1⟩, h _ _ G (x1.trans x2) J fun z' => itOk_list h1 r⟩
theorem di_list {tg : Expr} (hK : X.K = c.K := by rfl) (ha : DE X c W a ta fa) : DI X c W tg a (iList c.K ta) (fiL fa) := ⟨hK ▸ pi_list ha.pe, sn_iL ha.sn⟩
/-- over a tuple -/
def fiT (f : FE) : FI := fun e => (f e).bind fun r => Res.of ((escape r.1 r.2).bind fun q => match q.1 with
  | .tup ds => some (ds, q.2)
  | _ => none)
theorem itOk_tup {z' : Zs} {p : Addr} {vs : List V} {ds : List D} (h : SqT c.K F p vs) (r : RpL c F ds vs) : ItOk c z' (Itt c.K p) F ds := fun i σ H1 F1 e x I => by
  have h1 := ex_t (x.trans I.fh) h
  refine ⟨fun d hd => ?_, fun hl => ⟨vs, h1, by rw [← r.len]; exact hl⟩⟩
  obtain ⟨v, hv, rv⟩ := r.get hd
  refine ⟨⟨vs, v, h1, hv⟩, fun y H2 hy => ?_⟩
  obtain ⟨rfl, hy⟩ := hy
  have e1 := hy vs h1
  rw [hv] at e1; cases e1
  exact ⟨F1, Ex.refl F1, Ex.refl _, I, rv.mono x d v⟩
theorem sn_iT (ha : SndE c W ta fa) : SndI c W (iTup c.K ta) (fiT fa) := fun z σ H F e R I h => by
  unfold fiT at h
  rw [Wp.bind] at h
  refine ha z σ H F e _ I (h.mono (fun r _ h v H1 F1 x1 I1 t1 => ?_) fun _ _ h => h)
  obtain ⟨o, ea, h⟩ := Wp.of h
  obtain ⟨⟨d, e1⟩, l1, ea⟩ := obind ea
  obtain ⟨G, x2, J, rr⟩ := t1.escape I1 l1
  cases d <;> try cases ea
  obtain ⟨p, vs, rfl, h1, r⟩ := rr
  exact ⟨p, rfl, ⟨vs, ex_t J.fh h1⟩, h _ _ G (x1.trans x2) J fun z' => itOk_tup h1 r⟩
theorem di_tup {tg : Expr} (hK : X.K = c.K := by rfl) (ha : DE X c W a ta fa) : DI X c W tg a (iTup c.K ta) (fiT fa) := ⟨hK ▸ pi_tup ha.pe, sn_iT ha.sn⟩
/-- over range(n), range(a, b) -/
def irange (lo : Int) (n : Nat) : List D := (List.range n).map fun (i : Nat) => D.int (lo + (i : Int))
theorem itOk_range {z' : Zs} {lo : Int} {n : Nat} : ItOk c z' (Itr lo n) F (irange lo n) := fun i σ H1 F1 e x I => by
  refine ⟨fun d hd => ?_, fun hl => ?_⟩
  · unfold irange at hd
    rw [List.getElem?_map] at hd
    obtain ⟨k, hk, rfl⟩ := omap hd
    have hlt : i < n := by
      have := get_lt hk
      rwa [List.length_range] at this
    rw [List.getElem?_range hlt] at hk
    cases hk
    exact ⟨hlt, fun y H2 hy => ⟨F1, Ex.refl F1, by rw [hy.1]; exact Ex.refl _, by rw [hy.1]; exact I, hy.2⟩⟩
  · unfold irange at hl
    rw [List.length_map, List.length_range] at hl
    exact hl
def ok62 (i : Int) : Bool := decide (-(2 ^ 62) ≤ i) && decide (i < 2 ^ 62)
def fiR1 (fr : FA) : FI := fun e => (fr e).bind fun r => Res.of ((lookTs r.1 r.2).bind fun ds => match ds with
  | [.int n] => if ok62 n then some (irange 0 n.toNat, r.2) else none
  | _ => none)
def fiR2 (fr : FA) : FI := fun e => (fr e).bind fun r => Res.of ((lookTs r.1 r.2).bind fun ds => match ds with
  | [.int i, .int j] => if ok62 i && ok62 j then some (irange i (j - i).toNat, r.2) else none
  | _ => none)
theorem sn_iR1 {tr : TA} {fr : FA} (ha : SndA c W tr fr) : SndI c W (iRng1 tr) (fiR1 fr) := fun z σ H F e R I h => by
  unfold fiR1 at h
  rw [Wp.bind] at h
  refine ha z σ H F e _ I (h.mono (fun r _ h vs H1 F1 x1 I1 t1 => ?_) fun _ _ h => h)
  obtain ⟨o, ea, h⟩ := Wp.of h
  obtain ⟨ds, l1, ea⟩ := obind ea
  have k := t1.views I1 l1
  split at ea
  · rename_i n
    split at ea
    · rename_i hk
      cases ea
      obtain ⟨v, rfl, k'⟩ := k.one
      obtain ⟨b1, b2⟩ := Bool.and_eq_true_iff.mp hk
      exact ⟨n, by rw [k'.int], of_decide_eq_true b1, of_decide_eq_true b2, h _ H1 F1 x1 I1 fun z' => itOk_range⟩
    · cases ea
  · cases ea
theorem sn_iR2 {tr : TA} {fr : FA} (ha : SndA c W tr fr) : SndI c W (iRng2 tr) (fiR2 fr) := fun z σ H F e R I h => by
  unfold fiR2 at h
  rw [Wp.bind] at h
  refine ha z σ H F e _ I (h.mono (fun r _ h vs H1 F1 x1 I1 t1 => ?_) fun _ _ h => h)
  obtain ⟨o, ea, h⟩ := Wp.of h
  obtain ⟨ds, l1, ea⟩ := obind ea
  have k := t1.views I1 l1
  split at ea
  · rename_i i j
    split at ea
    · rename_i hk
      cases ea
      obtain ⟨v, w, rfl, k1, k2⟩ := k.two
      obtain ⟨b0, b3⟩ := Bool.and_eq_true_iff.mp hk
      obtain ⟨b1, b2⟩ := Bool.and_eq_true_iff.mp b0
      obtain ⟨b3, b4⟩ := Bool.and_eq_true_iff.mp b3
      exact ⟨i, j, by rw [k1.int, k2.int], ⟨of_decide_eq_true b1, of_decide_eq_true b2, of_decide_eq_true b3, of_decide_eq_true b4⟩, h _ H1 F1 x1 I1 fun z' => itOk_range⟩
    · cases ea
  · cases ea
theorem di_range1 {tg : Expr} {p : Pos} {tr : TA} {fr : FA} (hg : Gl X "range") (hm : X.mg "range" = none) (ha : DA X c W [a] tr fr) (hs : starEach [a] X.env = [(false, eval a X.env)] := by rfl) : DI X c W tg (.Call (.Name "range" p) [a] [] pos) (iRng1 tr) (fiR1 fr) := ⟨pi_range1 hg hm ha.pa hs, sn_iR1 ha.sn⟩
theorem di_range2 {tg : Expr} {p : Pos} {tr : TA} {fr : FA} (hg : Gl X "range") (hm : X.mg "range" = none) (ha : DA X c W [a, b] tr fr) (hs : starEach [a, b] X.env = [(false, eval a X.env), (false, eval b X.env)] := by rfl) (hs2 : starEach [b] X.env = [(false, eval b X.env)] := by rfl) :
    DI X c W tg (.Call (.Name "range" p) [a, b] [] pos) (iRng2 tr) (fiR2 fr) := ⟨pi_range2 hg hm ha.pa hs hs2, sn_iR2 ha.sn⟩

/-! ### for, while -/
def loopF (fg : D → DEnv → Option DEnv) (fb : FS) : List D → DEnv → Res Out
  | [], e => .ok (.nx e)
  | d :: ds, e => (Res.of (fg d e)).bind fun e1 => (fb e1).bind fun o => match o with
    | .nx e2 => loopF fg fb ds e2
    | .ct e2 => loopF fg fb ds e2
    | .bk e2 => .ok (.nx e2)
    | .rt t e2 => .ok (.rt t e2)
def fFor (fi : FI) (fg : D → DEnv → Option DEnv) (fb : FS) : FS := fun e => (fi e).bind fun r => loopF fg fb r.1 r.2
theorem sn_for {wi : TI} {fi : FI} {gg : TG} {fg : D → DEnv → Option DEnv} (hi : SndI c W wi fi) (hg : ∀ (z : Zs) σ H F e d v e' (Q : L2.St → Hp → Prop), I2 c z σ H F e → Rp c F d v → fg d e = some e' → (∀ σ', I2 c z σ' H F e' → Q σ' H) → gg v σ H Q) (hb : SndS c W ts f) :
    SndS c W (tFor wi gg ts) (fFor fi fg f) := fun z σ H F e D I h => by
  unfold fFor at h
  rw [Wp.bind] at h
  refine hi z σ H F e _ I (h.mono (fun r _ h J H1 F1 x1 I1 it => ?_) fun _ _ h => h σ)
  obtain ⟨items, e1⟩ := r
  refine ⟨fun i m σ' H' => m = items.length - i ∧ i ≤ items.length ∧ ∃ F' e', Ex F1 F' ∧ I2 c z σ' H' F' e' ∧ Wp (loopF fg f (items.drop i) e') (PoS c z F' D) (XpS c z W F'), ⟨items.length, rfl, Nat.zero_le _, F1, e1, Ex.refl F1, I1, h.mono (fun _ _ h => h.mono x1) fun _ _ h => h.mono x1⟩, ?_⟩
  rintro i m σ' H' ⟨rfl, hle, F', e', x', I', h'⟩
  obtain ⟨it1, it2⟩ := it z i σ' H' F' e' x' I'
  by_cases hlt : i < items.length
  · have hd : items[i]? = some items[i] := List.getElem?_eq_getElem hlt
    obtain ⟨go, yld⟩ := it1 _ hd
    rw [List.drop_eq_getElem_cons hlt] at h'
    unfold loopF at h'
    rw [Wp.bind] at h'
    obtain ⟨e2, l1, h'⟩ := Wp.of h'
    rw [Wp.bind] at h'
    refine .inr ⟨go, fun σ2 H2 => i + 1 ≤ items.length ∧ ∃ F2 e2, Ex F1 F2 ∧ I2 c z σ2 H2 F2 e2 ∧ Wp (loopF fg f (items.drop (i + 1)) e2) (PoS c z F2 D) (XpS c z W F2), fun σ2 H2 q => ⟨items.length - (i + 1), by omega, rfl, q⟩, fun y H2 hy => ?_⟩
    obtain ⟨F2, x2, _, J2, r2⟩ := yld y H2 hy
    refine hg z σ' H2 F2 e' _ y e2 _ J2 r2 l1 fun σ3 J3 => ?_
    refine hb z σ3 H2 F2 e2 _ J3 (h'.mono (fun o _ h => ?_) fun _ _ h => h.mono x2)
    cases o with
    | nx e4 => exact fun σ4 H4 F4 x4 I4 => ⟨hlt, F4, e4, (x'.trans x2).trans x4, I4, h.mono (fun _ _ h => h.mono (x2.trans x4)) fun _ _ h => h.mono (x2.trans x4)⟩
    | ct e4 => exact fun σ4 H4 F4 x4 I4 => ⟨hlt, F4, e4, (x'.trans x2).trans x4, I4, h.mono (fun _ _ h => h.mono (x2.trans x4)) fun _ _ h => h.mono (x2.trans x4)⟩
    | bk e4 => exact fun σ4 H4 F4 x4 I4 => h σ4 H4 F4 (x2.trans x4) I4
    | rt t e4 => exact fun v σ4 H4 F4 x4 I4 t4 => h v σ4 H4 F4 (x2.trans x4) I4 t4
  · have e0 : i = items.length := by omega
    subst e0
    rw [List.drop_length] at h'
    exact .inl ⟨it2 (Nat.le_refl _), h' σ' H' F' (Ex.refl F') I'⟩
theorem ds_for {tg iter : Expr} {wi : TI} {fi : FI} {gg : TG} {fg : D → DEnv → Option DEnv} (hp : PassesOwn (model X.prog X.w) X.A X.env X.xe) (hc : X.calm = true) (hi : DI X c W tg iter wi fi) (hg : DG X c tg gg fg) (hb : DSs X c W sts ts f)
    (hs : ∀ x, foldedSetIterable iter X.env x = pure x := by intro _; rfl) : DS X c W (.For tg iter sts [] pos) (tFor wi gg ts) (fFor fi fg f) := ⟨ps_for hp hc hi.pi hg.pg hb.ps hs, sn_for hi.sn hg.sn hb.sn⟩
def loopW (fc : FT) (fb : FS) : Nat → DEnv → Res Out
  | 0, _ => .stuck
  | n + 1, e => (fc e).bind fun r => if r.1 = true then (fb r.2).bind fun o => match o with
    | .nx e2 => loopW fc fb n e2
    | .ct e2 => loopW fc fb n e2
    | .bk e2 => .ok (.nx e2)
    | .rt t e2 => .ok (.rt t e2)
    else .ok (.nx r.2)
theorem sn_while (n : Nat) (hc : SndT c W tt ft) (hb : SndS c W ts f) : SndS c W (tWhile tt ts) (loopW ft f n) := fun z σ H F e D I h => by
  refine ⟨fun m σ' H' => ∃ F' e', Ex F F' ∧ I2 c z σ' H' F' e' ∧ Wp (loopW ft f m e') (PoS c z F' D) (XpS c z W F'), ⟨n, F, e, Ex.refl F, I, h⟩, ?_⟩
  rintro m σ' H' ⟨F', e', x', I', h'⟩
  cases m with
  | zero => exact h'.elim
  | succ m =>
    unfold loopW at h'
    rw [Wp.bind] at h'
    refine hc z σ' H' F' e' _ I' (h'.mono (fun r _ h H1 F1 x1 I1 => ?_) fun _ _ h => h σ')
    obtain ⟨b, e1⟩ := r
    cases b with
    | false =>
      rw [if_neg Bool.false_ne_true] at h
      show D.nx σ' H1
      exact h σ' H1 F1 x1 I1
    | true =>
      rw [if_pos rfl] at h ⊢
      rw [Wp.bind] at h
      refine ⟨fun σ2 H2 => ∃ F2 e2, Ex F F2 ∧ I2 c z σ2 H2 F2 e2 ∧ Wp (loopW ft f m e2) (PoS c z F2 D) (XpS c z W F2), fun σ2 H2 q => ⟨m, Nat.lt_succ_self _, q⟩, ?_⟩
      refine hb z σ' H1 F1 e1 _ I1 (h.mono (fun o _ h => ?_) fun _ _ h => h.mono x1)
      cases o with
      | nx e4 => exact fun σ4 H4 F4 x4 I4 => ⟨F4, e4, (x'.trans x1).trans x4, I4, h.mono (fun _ _ h => h.mono (x1.trans x4)) fun _ _ h => h.mono (x1.trans x4)⟩
      | ct e4 => exact fun σ4 H4 F4 x4 I4 => ⟨F4, e4, (x'.trans x1).trans x4, I4, h.mono (fun _ _ h => h.mono (x1.trans x4)) fun _ _ h => h.mono (x1.trans x4)⟩
      | bk e4 => exact fun σ4 H4 F4 x4 I4 => h σ4 H4 F4 (x1.trans x4) I4
      | rt t e4 => exact fun v σ4 H4 F4 x4 I4 t4 => h v σ4 H4 F4 (x1.trans x4) I4 t4
theorem ds_while {t : Expr} (n : Nat) (hp : PassesOwn (model X.prog X.w) X.A X.env X.xe) (hc : DT X c W t tt ft) (hb : DSs X c W sts ts f) : DS X c W (.While t sts [] pos) (tWhile tt ts) (loopW ft f n) := ⟨ps_while hp hc.pt hb.ps, sn_while n hc.sn hb.sn⟩
end
end DL

/-! DL, part f: comprehensions, defs and their calls, fields, new instances. -/
namespace DL
open PySem L2 Evl

section
variable {c : Ct} {z : Zs} {σ σw : L2.St} {H H' F F' G : Hp} {e e' : DEnv}
/-! ### a frame's names lent -/
def lendB : Option B → Option B
  | some (.ow d) => some (.br d)
  | x => x
def lendE (e : DEnv) : DEnv := e.map lendB
def lendZ (σ : L2.St) (H F : Hp) (e : DEnv) : Zs := ⟨H, F, fun p => ∃ i, RootAt σ e i p, fun i => ((σ[i]?).bind id).getD .non⟩
theorem lend_get {i : Nat} {b : B} (h : (lendE e)[i]? = some (some b)) : (∃ d, b = .sh d ∧ e[i]? = some (some (.sh d))) ∨ ∃ d b0, b = .br d ∧ e[i]? = some (some b0) ∧ b0.isRoot = true ∧ b0.d = d := by
  unfold lendE at h
  rw [List.getElem?_map] at h
  obtain ⟨x, h1, h2⟩ := omap h
  cases x with
  | none => cases h2
  | some b0 =>
    cases b0 with
    | sh d => cases h2; exact .inl ⟨d, rfl, h1⟩
    | ow d => cases h2; exact .inr ⟨d, _, rfl, h1, rfl, rfl⟩
    | br d => cases h2; exact .inr ⟨d, _, rfl, h1, rfl, rfl⟩
theorem I2.lend (I : I2 c z σ H F e) : I2 c (lendZ σ H F e) σ H F (lendE e) := by
  refine ⟨by unfold lendE; rw [List.length_map]; exact I.len, Ex.refl F, I.fh, fun p o h _ => h, fun i b h => ?_, fun i j p ⟨b, h1, h2, h3⟩ ⟨b', h1', h2', h3'⟩ => ?_, fun p ⟨i, h⟩ => ?_, fun p _ h => h, fun i d v h hv => ?_⟩
  · rcases lend_get h with ⟨d, rfl, h1⟩ | ⟨d, b0, rfl, h1, h2, rfl⟩
    · exact I.slot i _ h1
    · obtain ⟨p, hp, o, _⟩ := I.own h1 h2
      exact ⟨_, hp, p, rfl, o, ⟨i, b0, h1, h2, hp⟩⟩
  · rcases lend_get h1 with ⟨d, rfl, q⟩ | ⟨d, b0, rfl, q, q2, rfl⟩
    · cases h2
    · rcases lend_get h1' with ⟨d', rfl, q'⟩ | ⟨d', b0', rfl, q', q2', rfl⟩
      · cases h2'
      · exact I.dist i j p ⟨b0, q, q2, h3⟩ ⟨b0', q', q2', h3'⟩
  · obtain ⟨d, o⟩ := I.rootAt h
    exact o.at
  · show ((σ[i]?).bind id).getD .non = v
    rw [hv]
    rfl
def backB : Option B → Option B → Option B
  | some (.sh d), _ => some (.sh d)
  | some (.ow _), some (.br d) => some (.ow d)
  | some (.br _), some (.br d) => some (.br d)
  | _, _ => none
def backE : DEnv → DEnv → DEnv
  | [], _ => []
  | b :: e, e2 => backB b (e2.headD none) :: backE e e2.tail
theorem back_len : ∀ (e e2 : DEnv), (backE e e2).length = e.length
  | [], _ => rfl
  | _ :: e, e2 => by unfold backE; rw [List.length_cons, List.length_cons, back_len e]
theorem back_get : ∀ {e e2 : DEnv} {i : Nat} {b : B}, (backE e e2)[i]? = some (some b) → ∃ b0, e[i]? = some (some b0) ∧ ((b = b0 ∧ b0.isRoot = false) ∨ (b0.isRoot = true ∧ ∃ d, e2[i]? = some (some (.br d)) ∧ b = b0.re d))
  | [], _, _, _, h => by simp [backE] at h
  | x :: e, e2, 0, b, h => by
    unfold backE at h
    have h' : backB x (e2.headD none) = some b := by simpa using h
    have e0 : e2.headD none ≠ none → e2[0]? = some (e2.headD none) := by
      cases e2 with
      | nil => exact fun z => absurd rfl z
      | cons y r => exact fun _ => rfl
    cases x with
    | none => cases h'
    | some b0 =>
      refine ⟨b0, rfl, ?_⟩
      cases b0 with
      | sh d => cases h'; exact .inl ⟨rfl, rfl⟩
      | ow d =>
        generalize hq : e2.headD none = q at h' e0
        cases q with
        | none => cases h'
        | some b1 =>
          cases b1 <;> try cases h'
          rename_i d1
          exact .inr ⟨rfl, d1, e0 (fun z => nomatch z), rfl⟩
      | br d =>
        generalize hq : e2.headD none = q at h' e0
        cases q with
        | none => cases h'
        | some b1 =>
          cases b1 <;> try cases h'
          rename_i d1
          exact .inr ⟨rfl, d1, e0 (fun z => nomatch z), rfl⟩
  | x :: e, e2, i + 1, b, h => by
    unfold backE at h
    obtain ⟨b0, h1, h2⟩ := back_get (e := e) (e2 := e2.tail) (i := i) (b := b) (by simpa using h)
    refine ⟨b0, by simpa using h1, ?_⟩
    rcases h2 with h2 | ⟨h2, d, h3, h4⟩
    · exact .inl h2
    · refine .inr ⟨h2, d, ?_, h4⟩
      cases e2 with
      | nil => simp at h3
      | cons y r => simpa using h3
theorem I2.back (I : I2 c z σ H F e) (J : I2 c (lendZ σ H F e) σw H' F' e') : I2 c z σ H' F' (backE e e') := by
  have kb : ∀ p, H p ≠ none → H' p ≠ none := fun p h => by
    by_cases hb : (lendZ σ H F e).Bo p
    · obtain ⟨o, ho⟩ := J.bo p hb
      rw [ho]; exact fun z => nomatch z
    · cases q : H p with
      | none => exact absurd q h
      | some o => rw [J.keep p o q hb]; exact fun z => nomatch z
  refine I.change (L := List.range e.length) (back_len e e') J.f0 J.fh (fun p o h1 h2 => J.keep p o h1 fun ⟨i, hi⟩ => h2 i (List.mem_range.mpr (get_lt hi.choose_spec.1)) hi) kb (fun p h1 h2 => J.nf p h1 h2) fun i b h => ?_
  obtain ⟨b0, h1, h2⟩ := back_get h
  refine ⟨b0, h1, ?_⟩
  rcases h2 with ⟨rfl, h2⟩ | ⟨h2, d, h3, rfl⟩
  · exact .inl ⟨rfl, fun z => by rw [h2] at z; cases z⟩
  · obtain ⟨v, hv, p, rfl, o, _⟩ := J.slot i _ h3
    have e1 := J.brv i d _ h3 hv
    obtain ⟨p0, hp0, _⟩ := I.own h1 h2
    have e2 : ((σ[i]?).bind id).getD .non = V.ref p := e1
    rw [hp0] at e2
    have e3 : V.ref p0 = V.ref p := e2
    cases e3
    exact .inr ⟨h2, d, _, rfl, hp0, o⟩

/-! ### comprehensions -/
def wipeE (e : DEnv) : List Nat → DEnv
  | [] => e
  | v :: vs => (wipeE e vs).set v none
theorem I2.wipe (I : I2 c z σ H F e) : ∀ vs : List Nat, I2 c z (L2.wipe σ vs) H F (wipeE e vs)
  | [] => I
  | v :: vs => (I2.wipe I vs).unbind
end

/-- no name owns a new object -/
def noOw (e : DEnv) : Bool := e.all fun b => match b with
  | some (.ow _) => false
  | _ => true
/-- the block's slots bear nothing that is owned -/
def clearAt (e : DEnv) (vs : List Nat) : Bool := vs.all fun i => match e[i]? with
  | some (some (.ow _)) => false
  | some (some (.br _)) => false
  | _ => true
def loopC (fg : D → DEnv → Option DEnv) (ft : FT) (fe : FE) (vs : List Nat) : List D → List D → DEnv → Option (List D × DEnv)
  | [], acc, e => some (acc, e)
  | d :: ds, acc, e => if noOw e then (fg d e).bind fun e1 => match ft e1 with
    | .ok (true, e2) => match fe e2 with
      | .ok (t, e3) => (escape t e3).bind fun q => if noOw q.2 && decide (acc.length < lim) then loopC fg ft fe vs ds (acc ++ [q.1]) (wipeE q.2 vs) else none
      | _ => none
    | .ok (false, e2) => if noOw e2 then loopC fg ft fe vs ds acc (wipeE e2 vs) else none
    | _ => none
    else none
def fLc (fi : FI) (fg : D → DEnv → Option DEnv) (ft : FT) (fe : FE) (vs : List Nat) : FE := fun e => (fi e).bind fun r => Res.of (if clearAt r.2 vs then (loopC fg ft fe vs r.1 [] (wipeE (lendE r.2) vs)).map fun q => (.nw (.lst q.1), backE r.2 q.2) else none)
/-- no wish of an exception -/
abbrev W0 : WX := fun _ _ _ _ => False

section
variable {X : Cx} {c : Ct} {z : Zs} {W : WX} {σ σ' : L2.St} {H H' F F' G : Hp} {e e' : DEnv} {wi : TI} {fi : FI} {g : TG} {fg : D → DEnv → Option DEnv} {tt : TT} {ft : FT} {te : TE} {fe : FE} {vs : List Nat}
theorem noOw_get {i : Nat} {d : D} (h : noOw e = true) (h1 : e[i]? = some (some (.ow d))) : False := by
  have := List.all_eq_true.mp h _ (List.mem_of_getElem? h1)
  cases this
theorem I2.rebase (I : I2 c z σ H F e) (no : noOw e = true) : I2 c ⟨H, F, z.Bo, z.V0⟩ σ H F e := by
  refine ⟨I.len, Ex.refl F, I.fh, fun p o h _ => h, fun i b h => ?_, I.dist, I.bo, fun p _ h => h, I.brv⟩
  obtain ⟨v, hv, r⟩ := I.slot i b h
  refine ⟨v, hv, ?_⟩
  cases b with
  | sh d => exact r
  | ow d => exact (noOw_get no h).elim
  | br d => exact r
theorem I2.h0 (I : I2 c z σ H F e) {p : Addr} (h : z.H0 p ≠ none) : H p ≠ none := by
  cases q : z.H0 p with
  | none => exact absurd q h
  | some o =>
    by_cases hB : z.Bo p
    · obtain ⟨u, k⟩ := I.bo p hB; rw [k]; exact fun z => nomatch z
    · rw [I.keep p o q hB]; exact fun z => nomatch z
theorem I2.unbase (I : I2 c z σ H F e) (J : I2 c ⟨H, F, z.Bo, z.V0⟩ σ' H' F' e') (no : noOw e' = true) : I2 c z σ' H' F' e' := by
  refine ⟨J.len, I.f0.trans J.f0, J.fh, fun p o h hb => J.keep p o (I.keep p o h hb) hb, fun i b h => ?_, J.dist, J.bo, fun p h1 h2 => J.nf p (I.h0 h1) (I.nf p h1 h2), J.brv⟩
  obtain ⟨v, hv, r⟩ := J.slot i b h
  refine ⟨v, hv, ?_⟩
  cases b with
  | sh d => exact r
  | ow d => exact (noOw_get no h).elim
  | br d => exact r
theorem I2.other {Da : Addr} {o : HO} (I : I2 c z σ H F e) (no : noOw e = true) (hF : F Da = none) (h0 : z.H0 Da = none) (hb : ¬ z.Bo Da) : I2 c z σ (upd H Da o) F e := by
  refine ⟨I.len, I.f0, fun a u h => ?_, fun p u h hb' => ?_, fun i b h => ?_, I.dist, fun p h => ?_, I.nf, I.brv⟩
  · by_cases ha : a = Da
    · subst ha; rw [hF] at h; cases h
    · rw [upd_ne ha]; exact I.fh _ _ h
  · by_cases ha : p = Da
    · subst ha; rw [h0] at h; cases h
    · rw [upd_ne ha]; exact I.keep p u h hb'
  · obtain ⟨v, hv, r⟩ := I.slot i b h
    refine ⟨v, hv, ?_⟩
    cases b with
    | sh d => exact r
    | ow d => exact (noOw_get no h).elim
    | br d =>
      obtain ⟨p, rfl, w, hB⟩ := r
      have ne : p ≠ Da := fun z => hb (z ▸ hB)
      exact ⟨p, rfl, w.mono (Ex.refl F) w.1 (fun u hu => by rw [upd_ne ne]; exact hu), hB⟩
  · obtain ⟨u, hu⟩ := I.bo p h
    have ne : p ≠ Da := fun z => hb (z ▸ h)
    exact ⟨u, by rw [upd_ne ne]; exact hu⟩
theorem wipe_key : ∀ (vs : List Nat) (σ τ : L2.St), σ.length = τ.length → (∀ j, j ∉ vs → σ[j]? = τ[j]?) → L2.wipe σ vs = L2.wipe τ vs := by
  intro vs
  induction vs with
  | nil =>
    intro σ τ hl h
    exact List.ext_getElem? fun j => h j (by simp)
  | cons v vs ih =>
    intro σ τ hl h
    unfold L2.wipe
    have e1 : L2.wipe (σ.set v none) vs = L2.wipe (τ.set v none) vs := ih _ _ (by rw [List.length_set, List.length_set]; exact hl) fun j hj => by
      by_cases ej : v = j
      · subst ej
        rw [List.getElem?_set, List.getElem?_set, hl]
        simp
      · rw [List.getElem?_set_ne ej, List.getElem?_set_ne ej]
        exact h j (by simp; exact ⟨fun z => ej z.symm, hj⟩)
    have com : ∀ (vs : List Nat) (σ : L2.St), (L2.wipe σ vs).set v none = L2.wipe (σ.set v none) vs := by
      intro vs
      induction vs with
      | nil => intro σ; rfl
      | cons w vs ih2 =>
        intro σ
        unfold L2.wipe
        rw [← ih2 σ]
        by_cases ew : v = w
        · subst ew; rfl
        · exact List.set_comm _ _ (fun z => ew z.symm)
    rw [com, com]
    exact e1
theorem wipe_set {i : Nat} {x : Option V} (hi : i ∈ vs) : L2.wipe (σ.set i x) vs = L2.wipe σ vs := wipe_key vs _ _ (by rw [List.length_set]) fun j hj => by
  have hne : i ≠ j := fun z => hj (z ▸ hi)
  rw [List.getElem?_set_ne hne]
theorem wipe_idem : L2.wipe (L2.wipe σ vs) vs = L2.wipe σ vs := wipe_key vs _ _ (wipe_length _ _) fun j hj => wipe_out hj
theorem sn_lc (hi : SndI c W wi fi) (hg : ∀ (z : Zs) σ H F e d v e' (Q : L2.St → Hp → Prop), I2 c z σ H F e → Rp c F d v → fg d e = some e' → (∀ σ', I2 c z σ' H F e' → L2.wipe σ' vs = L2.wipe σ vs → Q σ' H) → g v σ H Q)
    (ht : SndT c W0 tt ft) (he : SndE c W0 te fe) : SndE c W (tLc wi g tt te vs) (fLc fi fg ft fe vs) := fun z σ H F e Q I h => by
  unfold fLc at h
  rw [Wp.bind] at h
  refine hi z σ H F e _ I (h.mono (fun r _ h J H1 F1 x1 I1 it => ?_) fun _ _ h => h)
  obtain ⟨items, e1⟩ := r
  obtain ⟨o, ea, h⟩ := Wp.of h
  dsimp only at ea
  split at ea
  · rename_i hclear
    obtain ⟨⟨res, eo⟩, lc, rfl⟩ := omap ea
    intro Da hDa
    have hF1 : F1 Da = none := fresh_back I1.fh hDa
    have hBo : ¬ (lendZ σ H1 F1 e1).Bo Da := fun ⟨i, hi⟩ => I1.noroot hDa i hi
    have hH0 : (lendZ σ H1 F1 e1).H0 Da = none := hDa
    refine ⟨fun i m H2 => m = items.length - i ∧ i ≤ items.length ∧ ∃ F2 e2 acc vs2, Ex F1 F2 ∧ H2 Da = some (.lst vs2) ∧ F2 Da = none ∧ RpL c F2 acc vs2 ∧
      I2 c (lendZ σ H1 F1 e1) (L2.wipe σ vs) H2 F2 e2 ∧ loopC fg ft fe vs (items.drop i) acc e2 = some (res, eo),
      ⟨items.length, rfl, Nat.zero_le _, F1, wipeE (lendE e1) vs, [], [], Ex.refl F1, upd_same, hF1, rfl, (I1.lend.wipe vs).alloc (Ex.new hDa), lc⟩, ?_⟩
    rintro i m H2 ⟨rfl, hle, F2, e2, acc, vs2, x2, hacc, hFD, racc, J2, lc'⟩
    by_cases hlt : i < items.length
    · have hd : items[i]? = some items[i] := List.getElem?_eq_getElem hlt
      rw [List.drop_eq_getElem_cons hlt] at lc'
      unfold loopC at lc'
      split at lc'
      · rename_i hno
        obtain ⟨e3, l3, lc'⟩ := obind lc'
        have R2 := J2.rebase hno
        obtain ⟨it1, _⟩ := it ⟨H2, F2, (lendZ σ H1 F1 e1).Bo, (lendZ σ H1 F1 e1).V0⟩ i _ H2 F2 e2 x2 R2
        obtain ⟨go, yld⟩ := it1 _ hd
        refine .inr ⟨go, fun H' => i + 1 ≤ items.length ∧ ∃ F2 e2 acc vs2, Ex F1 F2 ∧ H' Da = some (.lst vs2) ∧ F2 Da = none ∧ RpL c F2 acc vs2 ∧
          I2 c (lendZ σ H1 F1 e1) (L2.wipe σ vs) H' F2 e2 ∧ loopC fg ft fe vs (items.drop (i + 1)) acc e2 = some (res, eo), fun H' q => ⟨items.length - (i + 1), by omega, rfl, q⟩, fun y H3 hy => ?_⟩
        obtain ⟨F3, x3, xh3, J3, r3⟩ := yld y H3 hy
        refine hg _ (L2.wipe σ vs) H3 F3 e2 _ y e3 _ J3 r3 l3 fun σ4 J4 w4 => ?_
        have w4' : L2.wipe σ4 vs = L2.wipe σ vs := w4.trans wipe_idem
        refine ⟨w4', ?_⟩
        -- what stands at Da through a state of this turn
        have stays : ∀ {σ5 H5 F5 e5}, I2 c ⟨H2, F2, (lendZ σ H1 F1 e1).Bo, (lendZ σ H1 F1 e1).V0⟩ σ5 H5 F5 e5 → H5 Da = some (.lst vs2) ∧ F5 Da = none := fun {σ5 H5 F5 e5} K => ⟨K.keep Da _ hacc hBo, K.nf Da (by show H2 Da ≠ none; rw [hacc]; exact fun z => nomatch z) hFD⟩
        cases hft : ft e3 with
        | stuck => rw [hft] at lc'; cases lc'
        | exc x e' => rw [hft] at lc'; cases lc'
        | ok r =>
          obtain ⟨b, e5⟩ := r
          rw [hft] at lc'
          refine ht _ σ4 H3 F3 e3 _ J4 ?_
          rw [hft]
          show ∀ H' F', Ex F3 F' → I2 c _ σ4 H' F' e5 → _
          intro H5 F5 x5 J5
          cases b with
          | false =>
            dsimp only at lc'
            split at lc'
            · rename_i hno5
              rw [if_neg Bool.false_ne_true]
              obtain ⟨k1, k2⟩ := stays J5
              have U := (J2.unbase J5 hno5).wipe vs
              rw [w4'] at U
              exact ⟨hlt, F5, _, acc, vs2, (x2.trans x3).trans x5, k1, k2, racc.mono (x3.trans x5) _ _, U, lc'⟩
            · cases lc'
          | true =>
            dsimp only at lc'
            rw [if_pos rfl]
            cases hfe : fe e5 with
            | stuck => rw [hfe] at lc'; cases lc'
            | exc x e' => rw [hfe] at lc'; cases lc'
            | ok r =>
              obtain ⟨t, e6⟩ := r
              rw [hfe] at lc'
              refine he _ σ4 H5 F5 e5 _ J5 ?_
              rw [hfe]
              show ∀ v H' F', Ex F5 F' → I2 c _ σ4 H' F' e6 → TR c _ F' H' σ4 e6 t v → _
              intro v H6 F6 x6 J6 t6
              obtain ⟨⟨d, e7⟩, l7, lc'⟩ := obind lc'
              dsimp only at lc'
              split at lc'
              · rename_i hk
                obtain ⟨hno7, hlen⟩ := Bool.and_eq_true_iff.mp hk
                have hlen := of_decide_eq_true hlen
                obtain ⟨F7, x7, J7, r7⟩ := t6.escape J6 l7
                obtain ⟨k1, k2⟩ := stays J7
                have U0 := (J2.unbase J7 hno7)
                have U := (U0.other (o := .lst (vs2 ++ [v])) hno7 k2 hH0 hBo).wipe vs
                rw [w4'] at U
                have xx : Ex F2 F7 := ((x3.trans x5).trans x6).trans x7
                exact ⟨vs2, k1, by rw [← racc.len]; exact lim_lt hlen, hlt, F7, _, acc ++ [d], vs2 ++ [v], x2.trans xx, upd_same, k2, (racc.mono xx _ _).app (RpL.one r7), U, lc'⟩
              · cases lc'
      · cases lc'
    · have e0 : i = items.length := by omega
      subst e0
      rw [List.drop_length] at lc'
      cases lc'
      obtain ⟨_, it2⟩ := it (lendZ σ H1 F1 e1) items.length _ H2 F2 _ x2 J2
      have B := I1.back J2
      refine .inl ⟨it2 (Nat.le_refl _), h _ H2 F2 (x1.trans x2) B ⟨Da, rfl, ⟨hFD, vs2, hacc, racc⟩, I1.fresh0 hDa, fun i ⟨b, h1, h2, h3⟩ => ?_⟩⟩
      obtain ⟨b0, h4, h5⟩ := back_get h1
      have hr : b0.isRoot = true := by
        rcases h5 with ⟨rfl, h5⟩ | ⟨h5, _⟩
        · rw [h5] at h2; cases h2
        · exact h5
      exact I1.noroot hDa i ⟨b0, h4, hr, h3⟩
  · cases ea

/-- a target within a comprehension: it sets only the block's own names -/
structure DGC (X : Cx) (c : Ct) (vs : List Nat) (tg : Expr) (g : TG) (fg : D → DEnv → Option DEnv) : Prop where
  pg : PG X tg g
  sn : ∀ (z : Zs) σ H F e d v e' (Q : L2.St → Hp → Prop), I2 c z σ H F e → Rp c F d v → fg d e = some e' → (∀ σ', I2 c z σ' H F e' → L2.wipe σ' vs = L2.wipe σ vs → Q σ' H) → g v σ H Q
theorem dgc_name {i : Nat} {x : Str} {pos : Pos} (hN : X.N.Nodup) (hi : X.N[i]? = some x) (hx : Loc X.env.scope x) (hv : i ∈ vs) (hf : X.fn x = true ∨ X.env.scope.names.lookup x = some .local := by first | exact .inl rfl | exact .inr rfl | assumption) :
    DGC X c vs (.Name x pos) (gName i) (fgName i) := by
  refine ⟨pg_name hN hi hx hf, fun z σ H F e d v e' Q I r l k => ?_⟩
  unfold fgName at l
  split at l
  · rename_i hl
    cases l
    exact k _ (I.store (by rw [← I.len]; exact hl) r) (wipe_set hv)
  · cases l
structure DGCs (X : Cx) (c : Ct) (vs : List Nat) (tgs : List Expr) (g : TGs) (fg : List D → DEnv → Option DEnv) : Prop where
  pg : PGs X tgs g
  sn : ∀ (z : Zs) σ H F e ds ws e' (Q : L2.St → Hp → Prop), I2 c z σ H F e → RpL c F ds ws → fg ds e = some e' → (∀ σ', I2 c z σ' H F e' → L2.wipe σ' vs = L2.wipe σ vs → Q σ' H) → g ws σ H Q
theorem dgcs_nil : DGCs X c vs [] gNil fgNil := ⟨pgs_nil, fun z σ H F e ds ws e' Q I r l k => by
  cases ds with
  | nil => cases l; cases r; exact ⟨rfl, k σ I rfl⟩
  | cons _ _ => cases l⟩
theorem dgcs_cons {a : Expr} {es : List Expr} {g1 : TG} {f1 : D → DEnv → Option DEnv} {gs : TGs} {fs : List D → DEnv → Option DEnv} (h1 : DGC X c vs a g1 f1) (h2 : DGCs X c vs es gs fs)
    (hs : (assignEach (a :: es) X.env).map (·.2) = assign a X.env :: (assignEach es X.env).map (·.2) := by rfl) : DGCs X c vs (a :: es) (gCons g1 gs) (fgCons f1 fs) := ⟨pgs_cons h1.pg h2.pg hs, fun z σ H F e ds ws e' Q I r l k => by
  cases ds with
  | nil => cases l
  | cons d ds =>
    obtain ⟨v, w, rfl, r1, r2⟩ := r
    obtain ⟨e1, l1, l2⟩ := obind l
    exact ⟨v, w, rfl, h1.sn z σ H F e d v e1 _ I r1 l1 fun σ1 I1 w1 => h2.sn z σ1 H F e1 ds w e' Q I1 r2 l2 fun σ2 I2 w2 => k σ2 I2 (w2.trans w1)⟩⟩
theorem dgc_tup {es : List Expr} {k n : Nat} {pos : Pos} {gs : TGs} {fs : List D → DEnv → Option DEnv} (hK : X.K = c.K := by rfl) (h : DGCs X c vs es gs fs) (hc : X.calm = true := by rfl)
    (hn : (assignEach es X.env).length = n := by rfl) (hst : (assignEach es X.env).findIdx? (·.1) = none := by rfl) : DGC X c vs (.Tuple es k pos) (gTup c.K n gs) (fgTup n fs) := by
  refine ⟨hK ▸ pg_tup hc h.pg hn hst, fun z σ H F e d v e' Q I r l q => ?_⟩
  cases d <;> try cases l
  rename_i ds
  unfold fgTup at l
  dsimp only at l
  split at l
  · rename_i hl
    obtain ⟨p, ws, rfl, h1, h2⟩ := r
    exact ⟨p, ws, rfl, ex_t I.fh h1, by rw [← h2.len]; exact hl, h.sn z σ H F e ds ws e' Q I h2 l q⟩
  · cases l
theorem dg_tup' {es : List Expr} {k n : Nat} {pos : Pos} {gs : TGs} {fs : List D → DEnv → Option DEnv} (hK : X.K = c.K := by rfl) (h : DGs X c es gs fs) (hc : X.calm = true := by rfl)
    (hn : (assignEach es X.env).length = n := by rfl) (hst : (assignEach es X.env).findIdx? (·.1) = none := by rfl) : DG X c (.Tuple es k pos) (gTup c.K n gs) (fgTup n fs) := dg_tup hK hc h (pg_tup hc h.pg hn hst)

/-- the tests of a comprehension -/
structure DTs (X : Cx) (c : Ct) (W : WX) (ifs : List Expr) (tt : TT) (f : FT) : Prop where
  pts : PTs X ifs tt
  sn : SndT c W tt f
def fYes : FT := fun e => .ok (true, e)
theorem dts_nil : DTs X c W [] tYes fYes := ⟨pts_nil, fun z σ H F e Q I h => h H F (Ex.refl F) I⟩
theorem dts_one {a : Expr} (h : DT X c W a tt ft) : DTs X c W [a] tt ft := ⟨pts_one h.pt, h.sn⟩
abbrev Blk (X : Cx) (scope : Scope) (s : Shared) (H : Hp) (C : Addr) (cl : List (Str × Addr)) (fp : List Addr) : Cx := X.blk s H scope (compEnvC scope cl C X.env) fp
theorem de_lc {elt tg iter : Expr} {ifs : List Expr} {scope : Scope} {own : List (Str × Nat)} {pos : Pos} (hc : X.calm = true) (hN : X.N.Nodup) (hi : DI X c W tg iter wi fi) (ok : BlkOk X.N X.env.scope scope own)
    (hg : ∀ s H C cl fp, DGC (Blk X scope s H C cl fp) c (own.map (·.2)) tg g fg) (ht : ∀ s H C cl fp, DTs (Blk X scope s H C cl fp) c W0 ifs tt ft) (he : ∀ s H C cl fp, DE (Blk X scope s H C cl fp) c W0 elt te fe)
    (hs : ∀ x, foldedSetIterable iter X.env x = pure x := by intro _; rfl) : DE X c W (.ListComp elt [⟨tg, iter, ifs, 0⟩] scope pos) (tLc wi g tt te (own.map (·.2))) (fLc fi fg ft fe (own.map (·.2))) :=
  ⟨pe_lc hc hN hi.pi ok (fun s H C cl fp => (hg s H C cl fp).pg) (fun s H C cl fp => (ht s H C cl fp).pts) (fun s H C cl fp => (he s H C cl fp).pe) hs,
    sn_lc hi.sn (hg {} (fun _ => none) 0 [] []).sn (ht {} (fun _ => none) 0 [] []).sn (he {} (fun _ => none) 0 [] []).sn⟩
theorem ds_setLc {i : Nat} {y : Str} {py : Pos} {elt tg iter : Expr} {ifs : List Expr} {scope : Scope} {own : List (Str × Nat)} {pos spos : Pos} (hc : X.calm = true) (hN : X.N.Nodup) (hy : X.N[i]? = some y) (hyl : X.env.scope.names.lookup y = some .local)
    (hsw : swapsWith (.ListComp elt [⟨tg, iter, ifs, 0⟩] scope pos) (some (.Name y py)) spos.line X.env = pure true) (hi : DI X c W tg iter wi fi) (ok : BlkOk X.N X.env.scope scope own)
    (hg : ∀ s H C cl fp, DGC (Blk X scope s H C cl fp) c (own.map (·.2)) tg g fg) (ht : ∀ s H C cl fp, DTs (Blk X scope s H C cl fp) c W0 ifs tt ft) (he : ∀ s H C cl fp, DE (Blk X scope s H C cl fp) c W0 elt te fe)
    (hs : ∀ x, foldedSetIterable iter X.env x = pure x := by intro _; rfl) : DS X c W (.Assign [.Name y py] (.ListComp elt [⟨tg, iter, ifs, 0⟩] scope pos) spos) (tAsg (tLc wi g tt te (own.map (·.2))) (gName i)) (fSet i (fLc fi fg ft fe (own.map (·.2)))) :=
  ⟨ps_setLc hc hN hy hyl hsw hi.pi ok (fun s H C cl fp => (hg s H C cl fp).pg) (fun s H C cl fp => (ht s H C cl fp).pts) (fun s H C cl fp => (he s H C cl fp).pe) hs,
    sn_set (sn_lc hi.sn (hg {} (fun _ => none) 0 [] []).sn (ht {} (fun _ => none) 0 [] []).sn (he {} (fun _ => none) 0 [] []).sn)⟩
end
end DL

/-! DL, part g: defs as functions on data, their calls. -/
namespace DL
open PySem L2 Evl

/-- what a def hands back: its value, whether it is a new object, its arguments behind it -/
abbrev FnR := D × Bool × List B
abbrev Fn := List B → Res FnR
def ArgR (c : Ct) (F H : Hp) : B → V → Prop
  | .sh d, v => Rp c F d v
  | .br d, v => ∃ p, v = .ref p ∧ Own c F H d p
  | .ow _, _ => False
structure AR (c : Ct) (F H : Hp) (bs : List B) (vs : List V) : Prop where
  len : bs.length = vs.length
  get : ∀ (i : Nat) (b : B), bs[i]? = some b → ∃ v, vs[i]? = some v ∧ ArgR c F H b v
  dist : ∀ (i j : Nat) (p : Addr) (d d' : D), bs[i]? = some (.br d) → bs[j]? = some (.br d') → vs[i]? = some (.ref p) → vs[j]? = some (.ref p) → i = j
def BrAt (bs : List B) (vs : List V) (p : Addr) : Prop := ∃ (i : Nat) (d : D), bs[i]? = some (B.br d) ∧ vs[i]? = some (V.ref p)
structure Kp (H F H' F' : Hp) (Bo : Addr → Prop) : Prop where
  keep : ∀ p o, H p = some o → ¬ Bo p → H' p = some o
  nf : ∀ p, H p ≠ none → F p = none → F' p = none
  th : ∀ p, H p ≠ none → H' p ≠ none
def DR (c : Ct) (H F' H' : Hp) (d : D) (fr : Bool) (v : V) : Prop := match fr with
  | true => ∃ p, v = .ref p ∧ Own c F' H' d p ∧ H p = none
  | false => Rp c F' d v
/-- a def that does m on data -/
def spD (c : Ct) (n : Nat) (m : Fn) : Sp := fun vs H Q E => vs.length = n ∧ ∃ F bs, Ex F H ∧ AR c F H bs vs ∧
  Wp (m bs) (fun r => ∀ v H' F', Ex F F' → Ex F' H' → Kp H F H' F' (BrAt bs vs) → AR c F' H' r.2.2 vs → DR c H F' H' r.1 r.2.1 v → Q v H')
    (fun x _ => ∀ cls dd H' F', Ex F F' → Ex F' H' → Kp H F H' F' (BrAt bs vs) → XR c F' x cls dd → E cls dd H')

/-! ### from the body -/
def env0 (N : Nat) (bs : List B) : DEnv := bs.map some ++ List.replicate (N - bs.length) none
def outB : List B → DEnv → Option (List B)
  | [], _ => some []
  | b :: bs, e => match b with
    | .br _ => match e.head? with
      | some (some (.br d)) => (outB bs e.tail).map fun q => .br d :: q
      | _ => none
    | b => (outB bs e.tail).map fun q => b :: q
def fnRet (bs : List B) (t : T) (e : DEnv) : Option FnR := (outB bs e).bind fun q => match t with
  | .vl d => some (d, false, q)
  | .nw d => some (d, true, q)
  | .sl i => match e[i]? with
    | some (some (.sh d)) => some (d, false, q)
    | some (some (.ow d)) => some (d, true, q)
    | _ => none
def fFn (N : Nat) (body : FS) : Fn := fun bs => (body (env0 N bs)).bind fun o => Res.of (match o with
  | .nx e => fnRet bs (.vl .non) e
  | .rt t e => fnRet bs t e
  | _ => none)
section
variable {c : Ct} {z : Zs} {σ : L2.St} {H H' F F' G : Hp} {e : DEnv}
theorem outB_get : ∀ {bs : List B} {e : DEnv} {qs : List B}, outB bs e = some qs → qs.length = bs.length ∧ ∀ (i : Nat) (b : B), qs[i]? = some b → (∃ d0 d, bs[i]? = some (B.br d0) ∧ b = B.br d ∧ e[i]? = some (some (B.br d))) ∨ (bs[i]? = some b ∧ ∀ d, b ≠ B.br d)
  | [], e, qs, h => by cases h; exact ⟨rfl, fun i b h => by simp at h⟩
  | b0 :: bs, e, qs, h => by
    have tl : ∀ {i : Nat} {x : Option B}, e.tail[i]? = some x → e[i + 1]? = some x := fun {i x} h => by
      cases e with
      | nil => simp at h
      | cons y r => simpa using h
    cases b0 with
    | br d0 =>
      unfold outB at h
      dsimp only at h
      split at h
      · rename_i d hd
        obtain ⟨q, l1, rfl⟩ := omap h
        obtain ⟨l2, k⟩ := outB_get l1
        refine ⟨by rw [List.length_cons, List.length_cons, l2], fun i b hb => ?_⟩
        cases i with
        | zero =>
          simp at hb; subst hb
          refine .inl ⟨d0, d, rfl, rfl, ?_⟩
          cases e with
          | nil => simp at hd
          | cons y r => simpa using hd
        | succ i =>
          rcases k i b (by simpa using hb) with ⟨d1, d2, h1, h2, h3⟩ | ⟨h1, h2⟩
          · exact .inl ⟨d1, d2, by simpa using h1, h2, tl h3⟩
          · exact .inr ⟨by simpa using h1, h2⟩
      · cases h
    | sh d0 =>
      unfold outB at h
      dsimp only at h
      obtain ⟨q, l1, rfl⟩ := omap h
      obtain ⟨l2, k⟩ := outB_get l1
      refine ⟨by rw [List.length_cons, List.length_cons, l2], fun i b hb => ?_⟩
      cases i with
      | zero => simp at hb; subst hb; exact .inr ⟨rfl, fun d z => nomatch z⟩
      | succ i =>
        rcases k i b (by simpa using hb) with ⟨d1, d2, h1, h2, h3⟩ | ⟨h1, h2⟩
        · exact .inl ⟨d1, d2, by simpa using h1, h2, tl h3⟩
        · exact .inr ⟨by simpa using h1, h2⟩
    | ow d0 =>
      unfold outB at h
      dsimp only at h
      obtain ⟨q, l1, rfl⟩ := omap h
      obtain ⟨l2, k⟩ := outB_get l1
      refine ⟨by rw [List.length_cons, List.length_cons, l2], fun i b hb => ?_⟩
      cases i with
      | zero => simp at hb; subst hb; exact .inr ⟨rfl, fun d z => nomatch z⟩
      | succ i =>
        rcases k i b (by simpa using hb) with ⟨d1, d2, h1, h2, h3⟩ | ⟨h1, h2⟩
        · exact .inl ⟨d1, d2, by simpa using h1, h2, tl h3⟩
        · exact .inr ⟨by simpa using h1, h2⟩
def zOf (H F : Hp) (bs : List B) (vs : List V) : Zs := ⟨H, F, BrAt bs vs, fun i => (vs[i]?).getD .non⟩
theorem env0_get {N i : Nat} {bs : List B} {b : B} (h : (env0 N bs)[i]? = some (some b)) : bs[i]? = some b := by
  unfold env0 at h
  by_cases hi : i < bs.length
  · rw [List.getElem?_append_left (by simpa using hi), List.getElem?_map] at h
    obtain ⟨x, h1, h2⟩ := omap h
    cases h2
    exact h1
  · rw [List.getElem?_append_right (by simpa using hi)] at h
    rw [List.getElem?_replicate] at h
    split at h <;> cases h
theorem start_get {N : List Str} {vs : List V} {i : Nat} {v : V} (h : vs[i]? = some v) : (start N vs)[i]? = some (some v) := by
  unfold L2.start
  rw [List.getElem?_append_left (by simpa using get_lt h), List.getElem?_map, h]
  rfl
theorem start_get' {N : List Str} {vs : List V} {i : Nat} {v : V} (h : (start N vs)[i]? = some (some v)) : vs[i]? = some v := by
  unfold L2.start at h
  by_cases hi : i < vs.length
  · rw [List.getElem?_append_left (by simpa using hi), List.getElem?_map] at h
    obtain ⟨x, h1, h2⟩ := omap h
    cases h2
    exact h1
  · rw [List.getElem?_append_right (by simpa using hi)] at h
    rw [List.getElem?_replicate] at h
    split at h <;> cases h
theorem AR.start {N : List Str} {bs : List B} {vs : List V} (A : AR c F H bs vs) (x : Ex F H) : I2 c (zOf H F bs vs) (start N vs) H F (env0 N.length bs) := by
  refine ⟨?_, Ex.refl F, x, fun p o h _ => h, fun i b h => ?_, fun i j p ⟨b, h1, h2, h3⟩ ⟨b', h1', h2', h3'⟩ => ?_, fun p ⟨i, d, h1, h2⟩ => ?_, fun p _ h => h, fun i d v h hv => ?_⟩
  · unfold env0 L2.start
    simp [A.len]
  · have h1 := env0_get h
    obtain ⟨v, h2, r⟩ := A.get i b h1
    refine ⟨v, start_get h2, ?_⟩
    cases b with
    | sh d => exact r
    | ow d => exact r.elim
    | br d => obtain ⟨p, rfl, o⟩ := r; exact ⟨p, rfl, o, i, d, h1, h2⟩
  · have g1 := env0_get h1
    have g2 := env0_get h1'
    have k1 := start_get' h3
    have k2 := start_get' h3'
    obtain ⟨v, _, r⟩ := A.get i b g1
    obtain ⟨v', _, r'⟩ := A.get j b' g2
    cases b with
    | sh d => cases h2
    | ow d => exact r.elim
    | br d =>
      cases b' with
      | sh d => cases h2'
      | ow d => exact r'.elim
      | br d' => exact A.dist i j p d d' g1 g2 k1 k2
  · obtain ⟨v, h3, r⟩ := A.get i _ h1
    rw [h2] at h3; cases h3
    obtain ⟨q, e, o⟩ := r
    cases e
    exact o.at
  · have k1 := start_get' hv
    show (vs[i]?).getD .non = v
    rw [k1]; rfl
theorem I2.kp {bs : List B} {vs : List V} (J : I2 c (zOf H F bs vs) σ H' F' e) : Kp H F H' F' (BrAt bs vs) := ⟨fun p o h hb => J.keep p o h hb, fun p h1 h2 => J.nf p h1 h2, fun p h => J.h0 h⟩
theorem I2.outs {bs qs : List B} {vs : List V} (A : AR c F H bs vs) (J : I2 c (zOf H F bs vs) σ H' F' e) (h : outB bs e = some qs) : AR c F' H' qs vs := by
  obtain ⟨l, k⟩ := outB_get h
  refine ⟨l.trans A.len, fun i b hb => ?_, fun i j p d d' h1 h2 h3 h4 => ?_⟩
  · rcases k i b hb with ⟨d0, d, h1, rfl, h3⟩ | ⟨h1, h2⟩
    · obtain ⟨v, hv, r⟩ := J.slot i _ h3
      obtain ⟨p, rfl, o, _⟩ := r
      obtain ⟨v0, hv0, _⟩ := A.get i _ h1
      have e1 := J.brv i d _ h3 hv
      have e2 : (vs[i]?).getD .non = V.ref p := e1
      rw [hv0] at e2
      have e3 : v0 = V.ref p := e2
      subst e3
      exact ⟨_, hv0, p, rfl, o⟩
    · obtain ⟨v, hv, r⟩ := A.get i b h1
      refine ⟨v, hv, ?_⟩
      cases b with
      | sh d => exact Rp.mono J.f0 d v r
      | ow d => exact r.elim
      | br d => exact (h2 d rfl).elim
  · rcases k i _ h1 with ⟨d0, _, g1, _, _⟩ | ⟨_, g⟩
    · rcases k j _ h2 with ⟨d1, _, g2, _, _⟩ | ⟨_, g⟩
      · exact A.dist i j p d0 d1 g1 g2 h3 h4
      · exact (g _ rfl).elim
    · exact (g _ rfl).elim
theorem I2.ret {bs : List B} {vs : List V} {t : T} {v : V} {r : FnR} (A : AR c F H bs vs) (J : I2 c (zOf H F bs vs) σ H' F' e) (ht : TR c (zOf H F bs vs) F' H' σ e t v) (h : fnRet bs t e = some r) :
    AR c F' H' r.2.2 vs ∧ DR c H F' H' r.1 r.2.1 v := by
  unfold fnRet at h
  obtain ⟨q, l1, h⟩ := obind h
  have a := J.outs A l1
  cases t with
  | vl d => cases h; exact ⟨a, ht⟩
  | nw d => cases h; obtain ⟨p, rfl, w, h0, _⟩ := ht; exact ⟨a, p, rfl, w, h0⟩
  | sl i =>
    have ht' : σ[i]? = some (some v) := ht
    dsimp only at h
    split at h
    · rename_i d hb
      obtain ⟨w, hw, k⟩ := J.slot i _ hb
      rw [ht'] at hw; cases hw; cases h
      exact ⟨a, k⟩
    · rename_i d hb
      obtain ⟨w, hw, p, rfl, o, h0⟩ := J.slot i _ hb
      rw [ht'] at hw; cases hw; cases h
      exact ⟨a, p, rfl, o, h0⟩
    · cases h
end
section
variable {P : Program} {w : World} {K : PySem.W.Frag} {mg : Str → Option Value} {base : Heap} {c : Ct}
/-- THE RULE of a def -/
theorem fn_ok {x qual : Str} {st : Stmt} {f : Addr} {fd : FuncData} {N ps : List Str} {k : Nat} {m : Fn} {body : FS} (F : Fun K x qual st f fd) (S : FnScope N ps (defScope st)) (hm : ∀ bs, bs.length = ps.length → fFn N.length body bs = m bs)
    (hb : ∀ (cdv : Value) (A : Around) (outer : List Env) (s : Shared) (H : Hp) (E : XK), Room k (A.deeper (PyProof.Rows.envOfC qual (defScope st) s.heap.objs.size f cdv)) →
      ∃ t, DSs (cxOf (CX P w) P w K mg base N qual (defScope st) f cdv A outer s H E) c (fun cls d _ H => E cls d H) (defBody st) t body) : FnOk P w K mg base (CX P w) (k + 1) f fd ps (spD c ps.length m) := by
  refine F.okX S (fun vs H Q E h => h.1) fun cdv A outer s H vs Q E hr h => ?_
  obtain ⟨t, dd⟩ := hb cdv A outer s H E hr
  refine ⟨t, dd.ps, ?_⟩
  obtain ⟨hl, FF, bs, x, a, h⟩ := h
  rw [← hm bs (a.len.trans hl)] at h
  unfold fFn at h
  rw [Wp.bind] at h
  refine dd.sn (zOf H FF bs vs) (start N vs) H FF _ _ (a.start x) (h.mono (fun o _ h => ?_) fun x e h σ' cls d H' F' x' J r => h cls d H' F' x' J.fh J.kp r)
  cases o with
  | nx e =>
    intro σ' H' F' x' J
    obtain ⟨r, l, h⟩ := Wp.of h
    obtain ⟨h1, h2⟩ := J.ret a (t := .vl .non) (v := .non) rfl l
    exact h .non H' F' x' J.fh J.kp h1 h2
  | rt t e =>
    intro v σ' H' F' x' J ht
    obtain ⟨r, l, h⟩ := Wp.of h
    obtain ⟨h1, h2⟩ := J.ret a ht l
    exact h v H' F' x' J.fh J.kp h1 h2
  | bk e => exact h.elim
  | ct e => exact h.elim
end
end DL

/-! DL, part h: calls. -/
namespace DL
open PySem L2 Evl

/-- arguments that are not lent are shared from here on -/
def escN : List Bool → List T → DEnv → Option (List T × DEnv)
  | _, [], e => some ([], e)
  | ms, t :: ts, e => match ms.headD false with
    | true => (escN ms.tail ts e).map fun q => (t :: q.1, q.2)
    | false => (escape t e).bind fun r => (escN ms.tail ts r.2).map fun q => (.vl r.1 :: q.1, q.2)
def argB (t : T) (e : DEnv) : Option B := match t with
  | .vl d => some (.sh d)
  | .nw _ => none
  | .sl i => match e[i]? with
    | some (some (.sh d)) => some (.sh d)
    | some (some (.ow d)) => some (.br d)
    | some (some (.br d)) => some (.br d)
    | _ => none
def argBs : List T → DEnv → Option (List B)
  | [], _ => some []
  | t :: ts, e => (argB t e).bind fun b => (argBs ts e).map fun bs => b :: bs
def isSl (i : Nat) : T → Bool
  | .sl j => i == j
  | _ => false
def nodupT : List T → Bool
  | [] => true
  | t :: ts => (match t with
    | .sl i => !ts.any (isSl i)
    | _ => true) && nodupT ts
/-- the lent names and what they hold behind the call -/
def upds : List T → List B → List (Nat × D)
  | [], _ => []
  | _, [] => []
  | t :: ts, b :: bs => match t, b with
    | .sl j, .br d => (j, d) :: upds ts bs
    | _, _ => upds ts bs
def isBr : B → Bool
  | .br _ => true
  | _ => false
def sameB (bs qs : List B) : Bool := bs.map isBr == qs.map isBr
def putAll (l : List (Nat × D)) : Nat → DEnv → DEnv
  | _, [] => []
  | k, x :: r => (match l.lookup k with
    | some d => x.map fun b => b.re d
    | none => x) :: putAll l (k + 1) r
def dropAll (l : List (Nat × D)) : Nat → DEnv → DEnv
  | _, [] => []
  | k, x :: r => (match l.lookup k with
    | some _ => none
    | none => x) :: dropAll l (k + 1) r
def callM (dds : List D) (m : Fn) (ts : List T) (e : DEnv) : Res (T × DEnv) :=
  (Res.of (argBs ts e)).bind fun bs => if nodupT ts then (match m (bs ++ dds.map .sh) with
    | .stuck => .stuck
    | .ok r => if sameB (bs ++ dds.map .sh) r.2.2 then .ok (if r.2.1 then .nw r.1 else .vl r.1, putAll (upds ts r.2.2) 0 e) else .stuck
    | .exc x _ => .exc x (dropAll (upds ts bs) 0 e)) else .stuck
def fCall (ms : List Bool) (dds : List D) (m : Fn) (fa : FA) : FE := fun e => (fa e).bind fun r => (Res.of (escN ms r.1 r.2)).bind fun q => callM dds m q.1 q.2

section
variable {c : Ct} {z : Zs} {W : WX} {σ : L2.St} {H H' F F' G : Hp} {e : DEnv} {ta : TA} {fa : FA}
theorem TRs.escN : ∀ {ts ts' : List T} {ms : List Bool} {vs : List V} {F : Hp} {e e' : DEnv}, I2 c z σ H F e → TRs c z F H σ e ts vs → DL.escN ms ts e = some (ts', e') → ∃ G, Ex F G ∧ I2 c z σ H G e' ∧ TRs c z G H σ e' ts' vs
  | [], ts', ms, vs, F, e, e', I, h, l => by
    unfold DL.escN at l
    cases l
    exact ⟨F, Ex.refl F, I, h⟩
  | t :: ts, ts', ms, vs, F, e, e', I, h, l => by
    obtain ⟨v, r, rfl, h1, h2, h3⟩ := h
    unfold DL.escN at l
    split at l
    · obtain ⟨⟨q, e2⟩, l1, eq1⟩ := omap l
      cases eq1
      obtain ⟨G, x, J, k⟩ := TRs.escN I h3 l1
      refine ⟨G, x, J, v, r, rfl, h1, ?_, k⟩
      rw [← h1] at h2 ⊢
      exact h2.keep x
    · obtain ⟨⟨d, e1⟩, l1, l⟩ := obind l
      obtain ⟨⟨q, e2⟩, l2, eq2⟩ := omap l
      cases eq2
      obtain ⟨G, x, J, rr⟩ := h2.escape I l1
      obtain ⟨G2, x2, J2, k⟩ := TRs.escN J (h3.keep x) l2
      exact ⟨G2, x.trans x2, J2, v, r, rfl, rfl, rr.mono x2 d v, k⟩
theorem argBs_get : ∀ {ts : List T} {bs : List B}, argBs ts e = some bs → ts.length = bs.length ∧ ∀ (i : Nat) (b : B), bs[i]? = some b → ∃ t, ts[i]? = some t ∧ argB t e = some b
  | [], bs, h => by cases h; exact ⟨rfl, fun i b h => by simp at h⟩
  | t :: ts, bs, h => by
    obtain ⟨b, l1, h⟩ := obind h
    obtain ⟨r, l2, rfl⟩ := omap h
    obtain ⟨l, k⟩ := argBs_get l2
    refine ⟨by simp [l], fun i b' hb => ?_⟩
    cases i with
    | zero => simp at hb; subst hb; exact ⟨t, rfl, l1⟩
    | succ i =>
      obtain ⟨t', h1, h2⟩ := k i b' (by simpa using hb)
      exact ⟨t', by simpa using h1, h2⟩
theorem TRs.get : ∀ {ts : List T} {vs : List V} {i : Nat} {t : T}, TRs c z F H σ e ts vs → ts[i]? = some t → ∃ v, vs[i]? = some v ∧ TR c z F H σ e t v
  | [], vs, i, t, h, g => by simp at g
  | t0 :: ts, vs, i, t, ⟨v, r, h1, h2, h3, h4⟩, g => by
    subst h1
    cases i with
    | zero => simp at g; subst g; exact ⟨v, rfl, h3⟩
    | succ i =>
      obtain ⟨w, h5, h6⟩ := TRs.get (i := i) h4 (by simpa using g)
      exact ⟨w, by simpa using h5, h6⟩
theorem nodupT_ix : ∀ {ts : List T} {i j s : Nat}, nodupT ts = true → ts[i]? = some (.sl s) → ts[j]? = some (.sl s) → i = j
  | [], i, j, s, h, g, _ => by simp at g
  | t :: ts, i, j, s, h, g1, g2 => by
    unfold nodupT at h
    obtain ⟨h1, h2⟩ := Bool.and_eq_true_iff.mp h
    have no : ∀ {k : Nat}, t = .sl s → ts[k]? = some (.sl s) → False := fun {k} e hk => by
      subst e
      have : ts.any (isSl s) = true := List.any_eq_true.mpr ⟨_, List.mem_of_getElem? hk, by simp [isSl]⟩
      have h1' : (!ts.any (isSl s)) = true := h1
      rw [this] at h1'; cases h1'
    cases i with
    | zero =>
      cases j with
      | zero => rfl
      | succ j => simp at g1 g2; exact (no g1 g2).elim
    | succ i =>
      cases j with
      | zero => simp at g1 g2; exact (no g2 g1).elim
      | succ j => exact congrArg (· + 1) (nodupT_ix (ts := ts) (i := i) (j := j) (s := s) h2 (by simpa using g1) (by simpa using g2))
/-- a lent argument: its token is a name's, which owns it -/
theorem argB_br {t : T} {d : D} (h : argB t e = some (.br d)) : ∃ j b, t = .sl j ∧ e[j]? = some (some b) ∧ b.isRoot = true ∧ b.d = d := by
  cases t with
  | vl d => cases h
  | nw d => cases h
  | sl j =>
    unfold argB at h
    dsimp only at h
    split at h <;> cases h
    · rename_i hb; exact ⟨j, _, rfl, hb, rfl, rfl⟩
    · rename_i hb; exact ⟨j, _, rfl, hb, rfl, rfl⟩
theorem argB_sh {t : T} {d : D} (h : argB t e = some (.sh d)) : t = .vl d ∨ ∃ j, t = .sl j ∧ e[j]? = some (some (.sh d)) := by
  cases t with
  | vl d => cases h; exact .inl rfl
  | nw d => cases h
  | sl j =>
    unfold argB at h
    dsimp only at h
    split at h <;> cases h
    rename_i hb; exact .inr ⟨j, rfl, hb⟩
theorem argB_ow {t : T} {d : D} (h : argB t e = some (.ow d)) : False := by
  cases t with
  | vl d => cases h
  | nw d => cases h
  | sl j =>
    unfold argB at h
    dsimp only at h
    split at h <;> cases h
theorem args_ar {ts : List T} {bs : List B} {vs dvs : List V} {dds : List D} (I : I2 c z σ H F e) (h : TRs c z F H σ e ts vs) (l : argBs ts e = some bs) (nd : nodupT ts = true) (hd : RpL c F dds dvs) : AR c F H (bs ++ dds.map .sh) (vs ++ dvs) := by
  obtain ⟨ll, k⟩ := argBs_get l
  have lv : bs.length = vs.length := ll.symm.trans h.len
  have brs : ∀ {i : Nat} {d : D}, (bs ++ dds.map .sh)[i]? = some (.br d) → bs[i]? = some (.br d) := fun {i d} g => by
    by_cases hi : i < bs.length
    · rwa [List.getElem?_append_left hi] at g
    · rw [List.getElem?_append_right (by omega), List.getElem?_map] at g
      obtain ⟨x, _, q⟩ := omap g
      cases q
  refine ⟨by simp [lv, hd.len], fun i b g => ?_, fun i j p d d' g1 g2 g3 g4 => ?_⟩
  · by_cases hi : i < bs.length
    · rw [List.getElem?_append_left hi] at g
      obtain ⟨t, h1, h2⟩ := k i b g
      obtain ⟨v, h3, h4⟩ := h.get h1
      refine ⟨v, by rw [List.getElem?_append_left (by omega)]; exact h3, ?_⟩
      cases b with
      | sh d =>
        rcases argB_sh h2 with rfl | ⟨j, rfl, h5⟩
        · exact h4
        · obtain ⟨w, h6, r⟩ := I.slot j _ h5
          have h4' : σ[j]? = some (some v) := h4
          rw [h4'] at h6; cases h6
          exact r
      | ow d => exact (argB_ow h2).elim
      | br d =>
        obtain ⟨j, b0, rfl, h5, h6, rfl⟩ := argB_br h2
        obtain ⟨p, h7, o, _⟩ := I.own h5 h6
        have h4' : σ[j]? = some (some v) := h4
        rw [h4'] at h7; cases h7
        exact ⟨p, rfl, o⟩
    · rw [List.getElem?_append_right (by omega), List.getElem?_map] at g
      obtain ⟨d, h1, rfl⟩ := omap g
      obtain ⟨v, h2, r⟩ := hd.get h1
      exact ⟨v, by rw [List.getElem?_append_right (by omega), ← lv]; exact h2, r⟩
  · have k1 := brs g1
    have k2 := brs g2
    obtain ⟨t1, h1, h2⟩ := k i _ k1
    obtain ⟨t2, h3, h4⟩ := k j _ k2
    obtain ⟨s1, b1, rfl, h5, h6, _⟩ := argB_br h2
    obtain ⟨s2, b2, rfl, h7, h8, _⟩ := argB_br h4
    obtain ⟨v1, q1, r1⟩ := h.get h1
    obtain ⟨v2, q2, r2⟩ := h.get h3
    rw [List.getElem?_append_left (by have := get_lt q1; omega), q1] at g3
    rw [List.getElem?_append_left (by have := get_lt q2; omega), q2] at g4
    cases g3; cases g4
    have e12 := I.dist s1 s2 p ⟨b1, h5, h6, r1⟩ ⟨b2, h7, h8, r2⟩
    subst e12
    exact nodupT_ix nd h1 h3
theorem upds_mem : ∀ {ts : List T} {qs : List B} {j : Nat} {d : D}, (j, d) ∈ upds ts qs → ∃ (i : Nat), ts[i]? = some (T.sl j) ∧ qs[i]? = some (B.br d)
  | [], _, _, _, h => by simp [upds] at h
  | _ :: _, [], _, _, h => by simp [upds] at h
  | t :: ts, b :: qs, j, d, h => by
    unfold upds at h
    split at h
    · rcases List.mem_cons.mp h with h | h
      · cases h; exact ⟨0, rfl, rfl⟩
      · obtain ⟨i, h1, h2⟩ := upds_mem h
        exact ⟨i + 1, by simpa using h1, by simpa using h2⟩
    · obtain ⟨i, h1, h2⟩ := upds_mem h
      exact ⟨i + 1, by simpa using h1, by simpa using h2⟩
theorem mem_upds : ∀ {ts : List T} {qs : List B} {i j : Nat} {d : D}, ts[i]? = some (T.sl j) → qs[i]? = some (B.br d) → (j, d) ∈ upds ts qs
  | [], _, _, _, _, h, _ => by simp at h
  | _ :: _, [], _, _, _, _, h => by simp at h
  | t :: ts, b :: qs, 0, j, d, h, h' => by
    simp at h h'
    subst h; subst h'
    unfold upds
    exact List.mem_cons_self
  | t :: ts, b :: qs, i + 1, j, d, h, h' => by
    have r := mem_upds (ts := ts) (qs := qs) (i := i) (j := j) (d := d) (by simpa using h) (by simpa using h')
    unfold upds
    split
    · exact List.mem_cons_of_mem _ r
    · exact r
theorem lookup_mem' : ∀ {l : List (Nat × D)} {k : Nat} {d : D}, l.lookup k = some d → (k, d) ∈ l
  | [], _, _, h => by cases h
  | (a, x) :: l, k, d, h => by
    rw [List.lookup_cons] at h
    cases q : k == a with
    | true => rw [q] at h; cases h; rw [beq_iff_eq.mp q]; exact List.mem_cons_self
    | false => rw [q] at h; exact List.mem_cons_of_mem _ (lookup_mem' h)
theorem lookup_none' : ∀ {l : List (Nat × D)} {k : Nat}, l.lookup k = none → ∀ d, (k, d) ∉ l
  | [], _, _, _ => by simp
  | (a, x) :: l, k, h, d => by
    rw [List.lookup_cons] at h
    cases q : k == a with
    | true => rw [q] at h; cases h
    | false =>
      rw [q] at h
      intro hm
      rcases List.mem_cons.mp hm with hm | hm
      · cases hm; simp at q
      · exact lookup_none' h d hm
theorem putAll_len (l : List (Nat × D)) : ∀ (k : Nat) (e : DEnv), (putAll l k e).length = e.length
  | _, [] => rfl
  | k, x :: r => by unfold putAll; rw [List.length_cons, List.length_cons, putAll_len l (k + 1) r]
theorem putAll_get (l : List (Nat × D)) : ∀ (k : Nat) (e : DEnv) (j : Nat), (putAll l k e)[j]? = (e[j]?).map fun x => match l.lookup (k + j) with
    | some d => x.map fun b => b.re d
    | none => x
  | _, [], j => by simp [putAll]
  | k, x :: r, 0 => by simp [putAll]
  | k, x :: r, j + 1 => by
    unfold putAll
    rw [List.getElem?_cons_succ, List.getElem?_cons_succ, putAll_get l (k + 1) r j, show k + 1 + j = k + (j + 1) by omega]
theorem dropAll_len (l : List (Nat × D)) : ∀ (k : Nat) (e : DEnv), (dropAll l k e).length = e.length
  | _, [] => rfl
  | k, x :: r => by unfold dropAll; rw [List.length_cons, List.length_cons, dropAll_len l (k + 1) r]
theorem dropAll_get (l : List (Nat × D)) : ∀ (k : Nat) (e : DEnv) (j : Nat), (dropAll l k e)[j]? = (e[j]?).map fun x => match l.lookup (k + j) with
    | some d => none
    | none => x
  | _, [], j => by simp [dropAll]
  | k, x :: r, 0 => by simp [dropAll]
  | k, x :: r, j + 1 => by
    unfold dropAll
    rw [List.getElem?_cons_succ, List.getElem?_cons_succ, dropAll_get l (k + 1) r j, show k + 1 + j = k + (j + 1) by omega]
theorem sameB_get {bs qs : List B} (h : sameB bs qs = true) {i : Nat} {d : D} (g : bs[i]? = some (.br d)) : ∃ d', qs[i]? = some (.br d') := by
  have e : bs.map isBr = qs.map isBr := eq_of_beq h
  have h1 : (bs.map isBr)[i]? = some true := by rw [List.getElem?_map, g]; rfl
  rw [e, List.getElem?_map] at h1
  obtain ⟨b, h2, h3⟩ := omap h1
  cases b <;> cases h3
  exact ⟨_, h2⟩
theorem sameB_get' {bs qs : List B} (h : sameB bs qs = true) {i : Nat} {d : D} (g : qs[i]? = some (.br d)) : ∃ d', bs[i]? = some (.br d') := by
  have e : bs.map isBr = qs.map isBr := eq_of_beq h
  have h1 : (qs.map isBr)[i]? = some true := by rw [List.getElem?_map, g]; rfl
  rw [← e, List.getElem?_map] at h1
  obtain ⟨b, h2, h3⟩ := omap h1
  cases b <;> cases h3
  exact ⟨_, h2⟩
/-- the caller's frame behind the call -/
theorem I2.called {ts : List T} {bs qs : List B} {vs dvs : List V} {dds : List D} (I : I2 c z σ H F e) (h : TRs c z F H σ e ts vs) (l : argBs ts e = some bs) (nd : nodupT ts = true)
    (x : Ex F F') (y : Ex F' H') (kp : Kp H F H' F' (BrAt (bs ++ dds.map .sh) (vs ++ dvs))) (a : AR c F' H' qs (vs ++ dvs)) (sm : sameB (bs ++ dds.map .sh) qs = true) : I2 c z σ H' F' (putAll (upds ts qs) 0 e) := by
  obtain ⟨ll, k⟩ := argBs_get l
  have lv : bs.length = vs.length := ll.symm.trans h.len
  have brs : ∀ {i : Nat} {d : D}, (bs ++ dds.map .sh)[i]? = some (.br d) → bs[i]? = some (.br d) := fun {i d} g => by
    by_cases hi : i < bs.length
    · rwa [List.getElem?_append_left hi] at g
    · rw [List.getElem?_append_right (by omega), List.getElem?_map] at g
      obtain ⟨x, _, q⟩ := omap g
      cases q
  -- a lent place: its token and the name that owns it
  have lent : ∀ {i : Nat} {d : D}, bs[i]? = some (.br d) → ∃ j b0 p, ts[i]? = some (.sl j) ∧ e[j]? = some (some b0) ∧ b0.isRoot = true ∧ vs[i]? = some (.ref p) ∧ σ[j]? = some (some (.ref p)) := fun {i d} g => by
    obtain ⟨t, h1, h2⟩ := k i _ g
    obtain ⟨j, b0, rfl, h5, h6, _⟩ := argB_br h2
    obtain ⟨v, q1, r1⟩ := h.get h1
    obtain ⟨p, h7, _⟩ := I.own h5 h6
    have r1' : σ[j]? = some (some v) := r1
    rw [r1'] at h7; cases h7
    exact ⟨j, b0, p, h1, h5, h6, q1, r1⟩
  refine I.change (L := (upds ts qs).map (·.1)) (putAll_len _ _ _) x y (fun p o h1 h2 => kp.keep p o h1 fun ⟨i, d, g1, g2⟩ => ?_) kp.th kp.nf fun j b hb => ?_
  · obtain ⟨j, b0, p', t1, t2, t3, t4, t5⟩ := lent (brs g1)
    rw [List.getElem?_append_left (by have := get_lt t4; omega), t4] at g2
    cases g2
    obtain ⟨d', g3⟩ := sameB_get sm g1
    exact h2 j (List.mem_map.mpr ⟨(j, d'), mem_upds t1 g3, rfl⟩) ⟨b0, t2, t3, t5⟩
  · rw [putAll_get] at hb
    obtain ⟨xo, h1, h2⟩ := omap hb
    rw [Nat.zero_add] at h2
    cases hl : (upds ts qs).lookup j with
    | none =>
      rw [hl] at h2
      have h2' : xo = some b := h2
      subst h2'
      exact ⟨b, h1, .inl ⟨rfl, fun _ hm => by
        obtain ⟨⟨j', d⟩, m1, m2⟩ := List.mem_map.mp hm
        have m2' : j' = j := m2
        subst m2'
        exact lookup_none' hl d m1⟩⟩
    | some d =>
      rw [hl] at h2
      obtain ⟨i, g1, g2⟩ := upds_mem (lookup_mem' hl)
      obtain ⟨d0, g3⟩ := sameB_get' sm g2
      obtain ⟨j', b0, p, t1, t2, t3, t4, t5⟩ := lent (brs g3)
      rw [g1] at t1; cases t1
      rw [t2] at h1; cases h1
      have h2' : some (b0.re d) = some b := h2
      cases h2'
      obtain ⟨v, a1, a2⟩ := a.get i _ g2
      rw [List.getElem?_append_left (by have := get_lt t4; omega), t4] at a1
      cases a1
      obtain ⟨p', ep, o⟩ := a2
      cases ep
      exact ⟨b0, t2, .inr ⟨t3, d, p, rfl, t5, o⟩⟩
theorem I2.thrown {ts : List T} {bs : List B} {vs dvs : List V} {dds : List D} (I : I2 c z σ H F e) (h : TRs c z F H σ e ts vs) (l : argBs ts e = some bs)
    (x : Ex F F') (y : Ex F' H') (kp : Kp H F H' F' (BrAt (bs ++ dds.map .sh) (vs ++ dvs))) : I2 c z σ H' F' (dropAll (upds ts bs) 0 e) := by
  obtain ⟨ll, k⟩ := argBs_get l
  have lv : bs.length = vs.length := ll.symm.trans h.len
  have brs : ∀ {i : Nat} {d : D}, (bs ++ dds.map .sh)[i]? = some (.br d) → bs[i]? = some (.br d) := fun {i d} g => by
    by_cases hi : i < bs.length
    · rwa [List.getElem?_append_left hi] at g
    · rw [List.getElem?_append_right (by omega), List.getElem?_map] at g
      obtain ⟨x, _, q⟩ := omap g
      cases q
  refine I.change (L := (upds ts bs).map (·.1)) (dropAll_len _ _ _) x y (fun p o h1 h2 => kp.keep p o h1 fun ⟨i, d, g1, g2⟩ => ?_) kp.th kp.nf fun j b hb => ?_
  · have g3 := brs g1
    obtain ⟨t, h3, h4⟩ := k i _ g3
    obtain ⟨j, b0, rfl, h5, h6, _⟩ := argB_br h4
    obtain ⟨v, q1, r1⟩ := h.get h3
    rw [List.getElem?_append_left (by have := get_lt q1; omega), q1] at g2
    cases g2
    exact h2 j (List.mem_map.mpr ⟨(j, d), mem_upds h3 g3, rfl⟩) ⟨b0, h5, h6, r1⟩
  · rw [dropAll_get] at hb
    obtain ⟨xo, h1, h2⟩ := omap hb
    rw [Nat.zero_add] at h2
    cases hl : (upds ts bs).lookup j with
    | none =>
      rw [hl] at h2
      have h2' : xo = some b := h2
      subst h2'
      exact ⟨b, h1, .inl ⟨rfl, fun _ hm => by
        obtain ⟨⟨j', d⟩, m1, m2⟩ := List.mem_map.mp hm
        have m2' : j' = j := m2
        subst m2'
        exact lookup_none' hl d m1⟩⟩
    | some d =>
      rw [hl] at h2
      cases h2
/-- a call by its promise, its arguments' tokens at hand -/
theorem sp_call {n : Nat} {m : Fn} {ts : List T} {vs dvs : List V} {dds : List D} {Q : VK} (I : I2 c z σ H F e) (h : TRs c z F H σ e ts vs) (hn : (vs ++ dvs).length = n) (hd : RpL c F dds dvs)
    (k : Wp (callM dds m ts e) (fun r => ∀ v H' F', Ex F F' → I2 c z σ H' F' r.2 → TR c z F' H' σ r.2 r.1 v → Q v H') (Xp c z W σ F)) : spD c n m (vs ++ dvs) H Q (WE W σ) := by
  unfold callM at k
  rw [Wp.bind] at k
  obtain ⟨bs, l, k⟩ := Wp.of k
  split at k
  · rename_i nd
    refine ⟨hn, F, bs ++ dds.map .sh, I.fh, args_ar I h l nd hd, ?_⟩
    cases hm : m (bs ++ dds.map .sh) with
    | stuck => rw [hm] at k; exact k.elim
    | ok r =>
      rw [hm] at k
      obtain ⟨d, fr, qs⟩ := r
      dsimp only at k
      split at k
      · rename_i sm
        intro v H' F' x y kp a dr
        have J := I.called h l nd x y kp a sm
        refine k v H' F' x J ?_
        cases fr with
        | false => exact dr
        | true =>
          obtain ⟨p, rfl, o, hp⟩ := dr
          refine ⟨p, rfl, o, I.fresh0 hp, fun i ⟨b, h1, h2, h3⟩ => ?_⟩
          rw [putAll_get] at h1
          obtain ⟨xo, h4, h5⟩ := omap h1
          have : ∃ b0, xo = some b0 ∧ b0.isRoot = true := by
            cases hl : (upds ts qs).lookup (0 + i) with
            | none => rw [hl] at h5; exact ⟨b, h5, h2⟩
            | some d' =>
              rw [hl] at h5
              obtain ⟨b0, e1, e2⟩ := omap (show xo.map (fun b => b.re d') = some b from h5)
              exact ⟨b0, e1, by rw [← e2, B.re_root] at h2; exact h2⟩
          obtain ⟨b0, rfl, h6⟩ := this
          exact I.noroot hp i ⟨b0, h4, h6, h3⟩
      · exact k.elim
    | exc x e' =>
      rw [hm] at k
      intro cls dd H' F' x' y kp r
      exact k cls dd H' F' x' (I.thrown h l x' y kp) r
  · exact k.elim
theorem sn_call {n : Nat} {ms : List Bool} {m : Fn} {dvs : List V} {dds : List D} (hn : ∀ vs, (∃ e r, fa e = .ok r ∧ r.1.length = vs.length) → (vs ++ dvs).length = n) (hd : ∀ F, RpL c F dds dvs) (ha : SndA c W ta fa) :
    SndE c W (tCallSD (spD c n m) dvs (WE W) ta) (fCall ms dds m fa) := fun z σ H F e Q I h => by
  unfold fCall at h
  rw [Wp.bind] at h
  refine ha z σ H F e _ I (h.mono (fun r hr h vs H1 F1 x1 I1 t1 => ?_) fun _ _ h => h)
  rw [Wp.bind] at h
  obtain ⟨⟨ts, e2⟩, l, h⟩ := Wp.of h
  obtain ⟨G, x2, J, t2⟩ := t1.escN I1 l
  exact sp_call J t2 (hn vs ⟨e, r, hr, t1.len⟩) (hd G) (h.mono (fun r _ h v H' F' x' I' t' => h v H' F' ((x1.trans x2).trans x') I' t') fun _ _ h => h.mono (x1.trans x2))
end
end DL

/-! DL, part i: rules of calls, fields, methods, properties, new instances. -/
namespace DL
open PySem L2 Evl

def LenA (fa : FA) (k : Nat) : Prop := ∀ e r, fa e = .ok r → r.1.length = k
theorem lenA0 : LenA fA0 0 := fun e r h => by cases h; rfl
theorem lenA1 {fa : FE} {fr : FA} {k : Nat} (h : LenA fr k) : LenA (fA1 fa fr) (k + 1) := fun e r hr => by
  unfold fA1 at hr
  cases h1 : fa e with
  | stuck => rw [h1] at hr; cases hr
  | exc x e' => rw [h1] at hr; cases hr
  | ok q =>
    rw [h1] at hr
    cases h2 : fr q.2 with
    | stuck => simp only [Res.bind, h2] at hr; cases hr
    | exc x e' => simp only [Res.bind, h2] at hr; cases hr
    | ok q2 =>
      simp only [Res.bind, h2] at hr
      cases hr
      simp [h q.2 q2 h2]

section
variable {X : Cx} {c : Ct} {W : WX} {k n j : Nat} {f C : Addr} {fd : FuncData} {ps : List Str} {m : Fn} {x y : Str} {p pos apos : Pos} {a o : Expr} {es : List Expr} {ta to : TE} {tr : TA} {fa fo : FE} {fr : FA} {dvs : List V} {ds : List Value} {dds : List D} {ms : List Bool} {sp : Sp}
/-- f(a, ..) -/
theorem de_call (tk : Takes X W) (F : FnOk X.prog X.w X.K X.mg X.base (CX X.prog X.w) k f fd ps (spD c n m)) (hr : Room k X.A) (hg : Gl X x) (hm : X.mg x = some (.ref f)) (hk : PySem.W.keepIn X.K (.ref f) = true) (hb : Binds X.K fd ps ds) (hd : Vals dvs ds) (hdd : ∀ F, RpL c F dds dvs)
    (hlen : LenA fr j) (hn : j + dvs.length = n) (ha : DA X c W (a :: es) tr fr) (hdb : (x == ("__debug__" : Str)) = false := by decide) (he : starEach (a :: es) X.env = (false, eval a X.env) :: starEach es X.env := by rfl) (hpl : (backTo pos (starEach es X.env)).any (·.1) = false := by rfl) :
    DE X c W (.Call (.Name x p) (a :: es) [] pos) (tCallSD (spD c n m) dvs (WE W) tr) (fCall ms dds m fr) :=
  ⟨pe_callSD F hr hg hm hk hb hd (fun σ => passAt tk σ) ha.pa hdb he hpl, sn_call (fun vs ⟨e, r, h1, h2⟩ => by rw [List.length_append, ← h2, hlen e r h1]; exact hn) hdd ha.sn⟩
theorem de_call0 (tk : Takes X W) (F : FnOk X.prog X.w X.K X.mg X.base (CX X.prog X.w) k f fd ps (spD c n m)) (hr : Room k X.A) (hg : Gl X x) (hm : X.mg x = some (.ref f)) (hk : PySem.W.keepIn X.K (.ref f) = true) (hb : Binds X.K fd ps ds) (hd : Vals dvs ds) (hdd : ∀ F, RpL c F dds dvs)
    (hn : dvs.length = n) (hdb : (x == ("__debug__" : Str)) = false := by decide) : DE X c W (.Call (.Name x p) [] [] pos) (tCallSD (spD c n m) dvs (WE W) tNil) (fCall ms dds m fA0) := by
  refine ⟨⟨fun pins s σ H Q I h => ?_⟩, sn_call (fun vs ⟨e, r, h1, h2⟩ => by rw [List.length_append, ← h2, lenA0 e r h1, Nat.zero_add]; exact hn) hdd (da_nil (X := X)).sn⟩
  refine wpAny_Call_Name_kw (ld_glob I hg hm ?_ hdb)
  exact PySem.W.callWith_K0 I.kIn hk (run_fnSD (us := []) F hr hb hd (passAt tk σ) I .nil h)

/-! ### fields -/
def fldOf (ns : List Str) (f : Str) (ds : List D) : Option D := (ns.zip ds).lookup f
theorem zip_look {F : Hp} : ∀ {ns : List Str} {ds : List D} {vs : List V} {d : D}, RpL c F ds vs → (ns.zip ds).lookup x = some d → ∃ v, (ns.zip vs).lookup x = some v ∧ Rp c F d v
  | [], _, _, _, _, h => by simp at h
  | _ :: _, [], _, _, _, h => by simp at h
  | n0 :: ns, d0 :: ds, vs, d, ⟨v, r, e, h1, h2⟩, h => by
    subst e
    rw [List.zip_cons_cons, List.lookup_cons] at h
    rw [List.zip_cons_cons, List.lookup_cons]
    cases q : x == n0 with
    | true => rw [q] at h; cases h; exact ⟨v, rfl, h1⟩
    | false => rw [q] at h; exact zip_look h2 h
def fFld (ns : List Str) (k : Nat) (f : Str) (fo : FE) : FE := fun e => (fo e).bind fun r => Res.of ((lookT r.1 r.2).bind fun d => match d with
  | .ins k' ds => if k' = k then (fldOf ns f ds).map fun d => (.vl d, r.2) else none
  | _ => none)
theorem sn_fld {i : Nat} (cl : Cls c.K (c.cl i)) (na : NoAttr c.K (c.cl i) x) (ho : SndE c W to fo) : SndE c W (tFld c.K to x) (fFld (c.fn i) i x fo) := fun z σ H F e Q I h => by
  unfold fFld at h
  rw [Wp.bind] at h
  refine ho z σ H F e _ I (h.mono (fun r _ h v H1 F1 x1 I1 t1 => ?_) fun _ _ h => h)
  obtain ⟨q, ea, h⟩ := Wp.of h
  obtain ⟨d, l1, ea⟩ := obind ea
  cases d <;> try cases ea
  rename_i k' ds
  dsimp only at ea
  split at ea
  · rename_i ek
    subst ek
    obtain ⟨d, l2, rfl⟩ := omap ea
    obtain ⟨p, dx, vs, rfl, h2, r2⟩ := (t1.view I1 l1).ins I1.fh
    obtain ⟨v, h3, r3⟩ := zip_look r2 l2
    exact ⟨p, _, dx, _, v, rfl, h2, cl, na, h3, h _ H1 F1 x1 I1 r3⟩
  · cases ea
theorem de_fld {i : Nat} (hK : X.K = c.K) (cl : Cls c.K (c.cl i)) (na : NoAttr c.K (c.cl i) x) (ho : DE X c W o to fo) (hb : attributeBase o x X.env (eval o X.env) = eval o X.env := by rfl) : DE X c W (.Attribute o x pos) (tFld c.K to x) (fFld (c.fn i) i x fo) := ⟨hK ▸ pe_fld ho.pe hb, sn_fld cl na ho.sn⟩
/-- self.f = e -/
def putD (ns : List Str) (f : Str) (d : D) (ds : List D) : Option (List D) := match ns.idxOf? f with
  | some i => if i < ds.length then some (ds.set i d) else if i = ds.length then some (ds ++ [d]) else none
  | none => none
theorem putF_zip {f : Str} {y : V} : ∀ {ns : List Str} {vs : List V} {i : Nat}, ns.idxOf? f = some i → i ≤ vs.length → putF f y (ns.zip vs) = ns.zip (if i < vs.length then vs.set i y else vs ++ [y])
  | [], _, _, h, _ => by simp at h
  | n :: ns, vs, i, h, hl => by
    rw [List.idxOf?_cons] at h
    split at h
    · rename_i hn
      cases h
      have hn' : n = f := by simpa using hn
      cases vs with
      | nil =>
        rw [if_neg (by simp), List.zip_nil_right]
        show [(f, y)] = (n :: ns).zip ([] ++ [y])
        rw [hn']
        simp
      | cons v vs =>
        rw [if_pos (by simp), List.zip_cons_cons]
        show (if n = f then (n, y) :: ns.zip vs else (n, v) :: putF f y (ns.zip vs)) = (n :: ns).zip ((v :: vs).set 0 y)
        rw [if_pos hn']
        simp
    · rename_i hn
      obtain ⟨i', h1, rfl⟩ := omap h
      have hn' : ¬ n = f := by simpa using hn
      cases vs with
      | nil => simp at hl
      | cons v vs =>
        have ih := putF_zip (y := y) (vs := vs) h1 (by simpa using hl)
        rw [List.zip_cons_cons]
        show (if n = f then (n, y) :: ns.zip vs else (n, v) :: putF f y (ns.zip vs)) = _
        rw [if_neg hn', ih]
        by_cases hi : i' < vs.length
        · rw [if_pos hi, if_pos (by simpa using hi)]
          simp
        · rw [if_neg hi, if_neg (by simpa using hi)]
          simp
def rootIns (k : Nat) (e : DEnv) (j : Nat) : Option (List D) := match e[j]? with
  | some (some (.ow (.ins k' ds))) => if k' = k then some ds else none
  | some (some (.br (.ins k' ds))) => if k' = k then some ds else none
  | _ => none
def putIns (k : Nat) (e : DEnv) (j : Nat) (ds : List D) : DEnv := match e[j]? with
  | some (some b) => e.set j (some (b.re (.ins k ds)))
  | _ => e
theorem I2.rootIns {z : Zs} {σ : L2.St} {H F : Hp} {e : DEnv} {k j : Nat} {ds : List D} (I : I2 c z σ H F e) (h : rootIns k e j = some ds) : ∃ p dx vs, σ[j]? = some (some (.ref p)) ∧ H p = some (.ins (c.cl k) dx ((c.fn k).zip vs)) ∧ RpL c F ds vs ∧
    ∀ vs' ds', RpL c F ds' vs' → I2 c z σ (upd H p (.ins (c.cl k) dx ((c.fn k).zip vs'))) F (putIns k e j ds') := by
  unfold DL.rootIns at h
  split at h <;> try cases h
  · rename_i hb
    split at h
    · rename_i ek
      subst ek; cases h
      obtain ⟨v, hv, p, rfl, ⟨hF, dx, vs, h1, h2⟩, _⟩ := I.slot j _ hb
      refine ⟨p, dx, vs, hv, h1, h2, fun vs' ds' r => ?_⟩
      unfold putIns
      rw [hb]
      exact I.mut hb rfl hv ⟨hF, dx, vs', upd_same, r⟩
    · cases h
  · rename_i hb
    split at h
    · rename_i ek
      subst ek; cases h
      obtain ⟨v, hv, p, rfl, ⟨hF, dx, vs, h1, h2⟩, _⟩ := I.slot j _ hb
      refine ⟨p, dx, vs, hv, h1, h2, fun vs' ds' r => ?_⟩
      unfold putIns
      rw [hb]
      exact I.mut hb rfl hv ⟨hF, dx, vs', upd_same, r⟩
    · cases h
def fPutF (ns : List Str) (k j : Nat) (f : Str) (fv : FE) : FS := fun e => (fv e).bind fun r => Res.of ((escape r.1 r.2).bind fun q => (rootIns k q.2 j).bind fun ds => (putD ns f q.1 ds).bind fun ds' => if ds.length < 900 then some (.nx (putIns k q.2 j ds')) else none)
theorem sn_putF {i j : Nat} {tv : TE} {fv : FE} (cl : Cls c.K (c.cl i)) (na : NoAttr c.K (c.cl i) x) (hv : SndE c W tv fv) : SndS c W (sFld c.K (tVar j) tv x) (fPutF (c.fn i) i j x fv) := fun z σ H F e D I h => by
  unfold fPutF at h
  rw [Wp.bind] at h
  refine hv z σ H F e _ I (h.mono (fun r _ h v H1 F1 x1 I1 t1 => ?_) fun _ _ h => h σ)
  obtain ⟨q, ea, h⟩ := Wp.of h
  obtain ⟨⟨d, e1⟩, l1, ea⟩ := obind ea
  obtain ⟨ds, l2, ea⟩ := obind ea
  obtain ⟨ds', l3, ea⟩ := obind ea
  dsimp only at ea
  split at ea
  · rename_i hlen
    cases ea
    obtain ⟨G, x2, J, rr⟩ := t1.escape I1 l1
    obtain ⟨p, dx, vs, hp, h2, r2, kk⟩ := J.rootIns l2
    refine ⟨_, hp, p, _, dx, _, rfl, h2, cl, na, ?_, ?_⟩
    · rw [List.length_zip]
      have := r2.len
      omega
    · unfold putD at l3
      split at l3
      · rename_i ix hix
        split at l3
        · rename_i hi
          cases l3
          rw [putF_zip hix (by rw [← r2.len]; omega), if_pos (by rw [← r2.len]; exact hi)]
          exact h σ _ G (x1.trans x2) (kk _ _ (r2.set ix rr))
        · split at l3
          · rename_i hi hi2
            cases l3
            rw [putF_zip hix (by rw [← r2.len]; omega), if_neg (by rw [← r2.len]; exact hi)]
            exact h σ _ G (x1.trans x2) (kk _ _ (r2.app (RpL.one rr)))
          · cases l3
      · cases l3
  · cases ea
theorem ds_putF {i j : Nat} {v : Expr} {tv : TE} {fv : FE} {pos' : Pos} (hK : X.K = c.K) (cl : Cls c.K (c.cl i)) (na : NoAttr c.K (c.cl i) x) (ho : PE X (.Name y p) (tVar j)) (hv : DE X c W v tv fv) (hs : swapsWith v (some (.Attribute (.Name y p) x pos')) pos.line X.env = pure false := by rfl) :
    DS X c W (.Assign [.Attribute (.Name y p) x pos'] v pos) (sFld c.K (tVar j) tv x) (fPutF (c.fn i) i j x fv) := ⟨hK ▸ ps_fld ho hv.pe hs, sn_putF cl na hv.sn⟩

/-! ### methods, properties -/
/-- the object first, then the arguments -/
def fMeth (k : Nat) (ms : List Bool) (dds : List D) (m : Fn) (fo : FE) (fa : FA) : FE := fun e => (fo e).bind fun r0 => match lookT r0.1.seal r0.2 with
  | some (.ins k' _) => if k' = k then (fa r0.2).bind fun r => (Res.of (escN ms (r0.1.seal :: r.1) r.2)).bind fun q => callM dds m q.1 q.2 else .stuck
  | _ => .stuck
def tMethS (C : Addr) (m : Str) (sp : Sp) (dvs : List V) (E : L2.St → XK) (ta : TE) (t : TA) : TE := fun σ H Q => ta σ H fun x H1 => ∃ a dx fs, x = .ref a ∧ H1 a = some (.ins C dx fs) ∧ fs.lookup m = none ∧
  t σ H1 fun vs H2 => sp (x :: (vs ++ dvs)) H2 Q (E σ)
theorem zip_none {vs : List V} : ∀ {ns : List Str}, x ∉ ns → (ns.zip vs).lookup x = none := by
  induction vs with
  | nil => intro ns h; simp
  | cons v vs ih =>
    intro ns h
    cases ns with
    | nil => simp
    | cons n ns =>
      rw [List.zip_cons_cons, List.lookup_cons]
      have h1 : (x == n) = false := by simp; exact fun z => h (z ▸ List.mem_cons_self)
      rw [h1]
      exact ih fun z => h (List.mem_cons_of_mem _ z)
theorem lookT_seal {t : T} {e : DEnv} : lookT t.seal e = lookT t e := by cases t <;> rfl
theorem sn_meth {i : Nat} (hx : x ∉ c.fn i) (hn : ∀ vs : List V, (∃ e r, fr e = .ok r ∧ r.1.length = vs.length) → vs.length + dvs.length + 1 = n) (hd : ∀ F, RpL c F dds dvs) (ho : SndE c W to fo) (ha : SndA c W tr fr) :
    SndE c W (tMethS (c.cl i) x (spD c n m) dvs (WE W) to tr) (fMeth i ms dds m fo fr) := fun z σ H F e Q I h => by
  unfold fMeth at h
  rw [Wp.bind] at h
  refine ho z σ H F e _ I (h.mono (fun r0 _ g v H1 F1 x1 I1 t1 => ?_) fun _ _ h => h)
  clear h
  obtain ⟨F2, x2, J, t2⟩ := t1.seal I1
  split at g
  · rename_i k' ds hl
    split at g
    · rename_i ek
      subst ek
      obtain ⟨p, dx, vs, rfl, h2, r2⟩ := (t2.view J hl).ins J.fh
      refine ⟨p, dx, _, rfl, h2, zip_none hx, ?_⟩
      rw [Wp.bind] at g
      refine ha z σ H1 F2 _ _ J (g.mono (fun r hr h vs H3 F3 x3 I3 t3 => ?_) fun _ _ h => h.mono (x1.trans x2))
      rw [Wp.bind] at h
      obtain ⟨⟨ts, e3⟩, l, h⟩ := Wp.of h
      have t4 : TRs c z F3 H3 σ r.2 (r0.1.seal :: r.1) (V.ref p :: vs) := ⟨_, _, rfl, T.seal_seal _, t2.keep x3, t3⟩
      obtain ⟨G, x4, K, t5⟩ := t4.escN I3 l
      have sc := sp_call (n := n) (m := m) (dvs := dvs) (W := W) (Q := Q) K t5 (by
        have := hn vs ⟨_, r, hr, t3.len⟩
        simp; omega) (hd G) (h.mono (fun r _ h v H' F' x' I' t' => h v H' F' (((x1.trans x2).trans (x3.trans x4)).trans x') I' t') fun _ _ h => h.mono ((x1.trans x2).trans (x3.trans x4)))
      exact sc
    · exact g.elim
  · exact g.elim
theorem pe_methS {E : L2.St → XK} {CX : CXT} {pl : Sem Bool} {t : TA} (he : PE X o to) (cl : Cls X.K C) (hm : Meth X.K C x f) (F : FnOk X.prog X.w X.K X.mg X.base CX k f fd ps sp) (hr : Room k X.A) (hb : Binds X.K fd ps ds) (hd : Vals dvs ds) (hx : ∀ σ, PassesAt CX X σ (E σ)) (ha : PA X (a :: es) t)
    (hst : starEach (a :: es) X.env = (false, eval a X.env) :: starEach es X.env := by rfl) (hpl : (backTo pos (starEach es X.env)).any (·.1) = false := by rfl)
    (ht : eval (.Call (.Attribute o x apos) (a :: es) [] pos) X.env = (do
      let ov ← eval o X.env
      standAt apos.atName
      let (f, first) ← holding [ov] (getMethod ov x pl)
      callWith pos f first (backTo pos (starEach (a :: es) X.env)) (backToKw pos (keywordEach [] X.env))) := by rfl) :
    PE X (.Call (.Attribute o x apos) (a :: es) [] pos) (tMethS C x sp dvs E to t) := by
  refine ⟨fun pins s σ H Q I h => ?_⟩
  refine PySem.W.methodCall_KW (pl := pl) (thn (he.run pins s σ H _ I h) fun u s1 ⟨x, H1, I1, rx, a, dx, fs, ex, ea, l, q⟩ => ?_) ht
  subst ex
  obtain rfl : u = Value.ref a := rx
  refine getmeth_ok I1 ea cl hm l ?_
  refine PySem.W.callWith_K (first := [.ref a]) (h₀ := X.base) I.ok.mod.kin hm.kp (thn (ha.run pos pins s1 σ H1 _ I1 q) fun us s2 ⟨vs, H2, I2, r, q2⟩ => ⟨I2.kIn, ?_⟩) hst hpl
  exact run_fnSD (us := .ref a :: us) (vs := .ref a :: vs) F hr hb hd (hx σ) I2 (.cons rfl r) q2
theorem pe_methS0 {E : L2.St → XK} {CX : CXT} {pl : Sem Bool} (he : PE X o to) (cl : Cls X.K C) (hm : Meth X.K C x f) (F : FnOk X.prog X.w X.K X.mg X.base CX k f fd ps sp) (hr : Room k X.A) (hb : Binds X.K fd ps ds) (hd : Vals dvs ds) (hx : ∀ σ, PassesAt CX X σ (E σ))
    (ht : eval (.Call (.Attribute o x apos) [] [] pos) X.env = (do
      let ov ← eval o X.env
      standAt apos.atName
      let (f, first) ← holding [ov] (getMethod ov x pl)
      callWith pos f first (backTo pos (starEach [] X.env)) (backToKw pos (keywordEach [] X.env))) := by rfl) :
    PE X (.Call (.Attribute o x apos) [] [] pos) (tMethS C x sp dvs E to tNil) := by
  refine ⟨fun pins s σ H Q I h => ?_⟩
  refine PySem.W.methodCall_KW (pl := pl) (thn (he.run pins s σ H _ I h) fun u s1 ⟨x, H1, I1, rx, a, dx, fs, ex, ea, l, q⟩ => ?_) ht
  subst ex
  obtain rfl : u = Value.ref a := rx
  refine getmeth_ok I1 ea cl hm l ?_
  exact PySem.W.callWith_K0 (first := [.ref a]) I1.kIn hm.kp (run_fnSD (us := [.ref a]) (vs := [.ref a]) F hr hb hd (hx σ) I1 (.cons rfl .nil) q)
/-- o.m(a, ..) -/
theorem de_meth {i : Nat} {pl : Sem Bool} (tk : Takes X W) (hK : X.K = c.K) (hx : x ∉ c.fn i) (cl : Cls c.K (c.cl i)) (hm : Meth c.K (c.cl i) x f) (F : FnOk X.prog X.w X.K X.mg X.base (CX X.prog X.w) k f fd ps (spD c n m)) (hr : Room k X.A) (hb : Binds X.K fd ps ds) (hd : Vals dvs ds) (hdd : ∀ F, RpL c F dds dvs)
    (hlen : LenA fr j) (hn : j + dvs.length + 1 = n) (ho : DE X c W o to fo) (ha : DA X c W (a :: es) tr fr)
    (hst : starEach (a :: es) X.env = (false, eval a X.env) :: starEach es X.env := by rfl) (hpl : (backTo pos (starEach es X.env)).any (·.1) = false := by rfl)
    (ht : eval (.Call (.Attribute o x apos) (a :: es) [] pos) X.env = (do
      let ov ← eval o X.env
      standAt apos.atName
      let (f, first) ← holding [ov] (getMethod ov x pl)
      callWith pos f first (backTo pos (starEach (a :: es) X.env)) (backToKw pos (keywordEach [] X.env))) := by rfl) :
    DE X c W (.Call (.Attribute o x apos) (a :: es) [] pos) (tMethS (c.cl i) x (spD c n m) dvs (WE W) to tr) (fMeth i ms dds m fo fr) :=
  ⟨pe_methS (pl := pl) ho.pe (hK ▸ cl) (hK ▸ hm) F hr hb hd (fun σ => passAt tk σ) ha.pa hst hpl ht, sn_meth hx (fun vs ⟨e, r, h1, h2⟩ => by rw [← h2, hlen e r h1]; exact hn) hdd ho.sn ha.sn⟩
theorem de_meth0 {i : Nat} {pl : Sem Bool} (tk : Takes X W) (hK : X.K = c.K) (hx : x ∉ c.fn i) (cl : Cls c.K (c.cl i)) (hm : Meth c.K (c.cl i) x f) (F : FnOk X.prog X.w X.K X.mg X.base (CX X.prog X.w) k f fd ps (spD c n m)) (hr : Room k X.A) (hb : Binds X.K fd ps ds) (hd : Vals dvs ds) (hdd : ∀ F, RpL c F dds dvs)
    (hn : dvs.length + 1 = n) (ho : DE X c W o to fo)
    (ht : eval (.Call (.Attribute o x apos) [] [] pos) X.env = (do
      let ov ← eval o X.env
      standAt apos.atName
      let (f, first) ← holding [ov] (getMethod ov x pl)
      callWith pos f first (backTo pos (starEach [] X.env)) (backToKw pos (keywordEach [] X.env))) := by rfl) :
    DE X c W (.Call (.Attribute o x apos) [] [] pos) (tMethS (c.cl i) x (spD c n m) dvs (WE W) to tNil) (fMeth i ms dds m fo fA0) :=
  ⟨pe_methS0 (pl := pl) ho.pe (hK ▸ cl) (hK ▸ hm) F hr hb hd (fun σ => passAt tk σ) ht, sn_meth hx (fun vs ⟨e, r, h1, h2⟩ => by rw [← h2, lenA0 e r h1, Nat.zero_add]; exact hn) hdd ho.sn (da_nil (X := X)).sn⟩
/-- o.p, a property -/
def noExc (r : Res (T × DEnv)) : Res (T × DEnv) := match r with
  | .exc _ _ => .stuck
  | r => r
def fProp (k : Nat) (m : Fn) (fo : FE) : FE := fun e => (fo e).bind fun r0 => match lookT r0.1.seal r0.2 with
  | some (.ins k' _) => if k' = k then (Res.of (escN [false] [r0.1.seal] r0.2)).bind fun q => noExc (callM [] m q.1 q.2) else .stuck
  | _ => .stuck
theorem sn_prop {i : Nat} (ho : SndE c W to fo) : SndE c W (tProp (c.cl i) (spD c 1 m) [] E0 to) (fProp i m fo) := fun z σ H F e Q I h => by
  unfold fProp at h
  rw [Wp.bind] at h
  refine ho z σ H F e _ I (h.mono (fun r0 _ g v H1 F1 x1 I1 t1 => ?_) fun _ _ h => h)
  clear h
  obtain ⟨F2, x2, J, t2⟩ := t1.seal I1
  split at g
  · rename_i k' ds hl
    split at g
    · rename_i ek
      subst ek
      obtain ⟨p, dx, vs, rfl, h2, r2⟩ := (t2.view J hl).ins J.fh
      refine ⟨p, dx, _, rfl, h2, ?_⟩
      rw [Wp.bind] at g
      obtain ⟨⟨ts, e3⟩, l, h⟩ := Wp.of g
      have t4 : TRs c z F2 H1 σ r0.2 [r0.1.seal] [V.ref p] := ⟨_, _, rfl, T.seal_seal _, t2, rfl⟩
      obtain ⟨G, x4, K, t5⟩ := t4.escN J l
      have h' : Wp (callM [] m ts e3) (fun r => ∀ v H' F', Ex F F' → I2 c z σ H' F' r.2 → TR c z F' H' σ r.2 r.1 v → Q v H') (fun _ _ => False) := by
        unfold noExc at h
        cases hq : callM [] m ts e3 with
        | stuck => rw [hq] at h; exact h
        | ok r => rw [hq] at h; exact h
        | exc x e' => rw [hq] at h; exact h.elim
      have sc := sp_call (n := 1) (m := m) (dvs := []) (dds := []) (W := W0) (Q := Q) K t5 rfl rfl (h'.mono (fun r _ h v H' F' x' I' t' => h v H' F' (((x1.trans x2).trans x4).trans x') I' t') fun _ _ h => h.elim)
      exact sc
    · exact g.elim
  · exact g.elim
theorem de_prop {i : Nat} {pp g : Addr} (hK : X.K = c.K) (cl : Cls c.K (c.cl i)) (hp : PropOf c.K (c.cl i) x pp g) (F : FnOk X.prog X.w X.K X.mg X.base (CX X.prog X.w) k g fd ps (spD c 1 m)) (hr : Room (k + 1) X.A) (hb : Binds X.K fd ps []) (ho : DE X c W o to fo)
    (hab : attributeBase o x X.env (eval o X.env) = eval o X.env := by rfl) : DE X c W (.Attribute o x pos) (tProp (c.cl i) (spD c 1 m) [] E0 to) (fProp i m fo) :=
  ⟨pe_prop (E := E0) ho.pe (hK ▸ cl) (hK ▸ hp) F hr hb .nil passL hab, sn_prop ho.sn⟩
end
end DL

/-! DL, part j: new instances, isinstance, zip. -/
namespace DL
open PySem L2 Evl

section
variable {c : Ct} {z : Zs} {W : WX} {σ σ' : L2.St} {H H' F F' G : Hp} {e e' : DEnv}
/-! ### a frame with one more name -/
theorem get_app {α : Type} {l : List α} {x y : α} {i : Nat} (h : (l ++ [x])[i]? = some y) : (i < l.length ∧ l[i]? = some y) ∨ (i = l.length ∧ y = x) := by
  by_cases hi : i < l.length
  · rw [List.getElem?_append_left hi] at h; exact .inl ⟨hi, h⟩
  · rw [List.getElem?_append_right (by omega)] at h
    cases hk : i - l.length with
    | zero => rw [hk] at h; simp at h; exact .inr ⟨by omega, h.symm⟩
    | succ n => rw [hk] at h; simp at h
theorem I2.ext {x : Addr} {d : D} (I : I2 c z σ H F e) (w : Own c F H d x) (h0 : z.H0 x = none) (hn : ∀ i, ¬ RootAt σ e i x) : I2 c z (σ ++ [some (.ref x)]) H F (e ++ [some (.ow d)]) := by
  have key : ∀ (j : Nat) (q : Addr), RootAt (σ ++ [some (.ref x)]) (e ++ [some (.ow d)]) j q → (j = e.length ∧ q = x) ∨ RootAt σ e j q := fun j q ⟨b, h1, h2, h3⟩ => by
    rcases get_app h1 with ⟨l1, g1⟩ | ⟨l1, g1⟩
    · rcases get_app h3 with ⟨_, g3⟩ | ⟨l3, _⟩
      · exact .inr ⟨b, g1, h2, g3⟩
      · rw [← I.len] at l3; omega
    · rcases get_app h3 with ⟨l3, _⟩ | ⟨_, g3⟩
      · rw [← I.len] at l3; omega
      · cases g3; exact .inl ⟨l1, rfl⟩
  refine ⟨by simp [I.len], I.f0, I.fh, I.keep, fun i b h => ?_, fun i j p h1 h2 => ?_, I.bo, I.nf, fun i d' v h h' => ?_⟩
  · rcases get_app h with ⟨l1, g1⟩ | ⟨l1, g1⟩
    · obtain ⟨v, hv, r⟩ := I.slot i b g1
      exact ⟨v, by rw [List.getElem?_append_left (get_lt hv)]; exact hv, r⟩
    · cases g1
      exact ⟨.ref x, by rw [l1, I.len]; simp, x, rfl, w, h0⟩
  · rcases key i p h1 with ⟨rfl, rfl⟩ | r1
    · rcases key j _ h2 with ⟨rfl, _⟩ | r2
      · rfl
      · exact (hn j r2).elim
    · rcases key j p h2 with ⟨rfl, rfl⟩ | r2
      · exact (hn i r1).elim
      · exact I.dist i j p r1 r2
  · rcases get_app h with ⟨l1, g1⟩ | ⟨l1, g1⟩
    · rcases get_app h' with ⟨_, g2⟩ | ⟨l2, _⟩
      · exact I.brv i d' v g1 g2
      · rw [← I.len] at l2; omega
    · cases g1
theorem I2.unext {x : Option V} {b : Option B} (I : I2 c z (σ ++ [x]) H F (e ++ [b])) : I2 c z σ H F e := by
  have hl : e.length = σ.length := by have := I.len; simp at this; exact this
  have upe : ∀ {i : Nat} {y : Option B}, e[i]? = some y → (e ++ [b])[i]? = some y := fun {i y} h => by rw [List.getElem?_append_left (get_lt h)]; exact h
  have ups : ∀ {i : Nat} {y : Option V}, σ[i]? = some y → (σ ++ [x])[i]? = some y := fun {i y} h => by rw [List.getElem?_append_left (get_lt h)]; exact h
  have key : ∀ (i : Nat) (p : Addr), RootAt σ e i p → RootAt (σ ++ [x]) (e ++ [b]) i p := fun i p ⟨b', h1, h2, h3⟩ => ⟨b', upe h1, h2, ups h3⟩
  refine ⟨hl, I.f0, I.fh, I.keep, fun i b' h => ?_, fun i j p h1 h2 => I.dist i j p (key _ _ h1) (key _ _ h2), I.bo, I.nf, fun i d v h h' => I.brv i d v (upe h) (ups h')⟩
  obtain ⟨v, hv, r⟩ := I.slot i b' (upe h)
  rcases get_app hv with ⟨_, g⟩ | ⟨l, _⟩
  · exact ⟨v, g, r⟩
  · have := get_lt h; omega
/-- C(..): a new instance is laid behind the frame's names, handed to __init__, and taken back -/
def fMake (k : Nat) (ms : List Bool) (dds : List D) (m : Fn) (fa : FA) : FE := fun e => (fa e).bind fun r => (Res.of (escN ms r.1 r.2)).bind fun q => match callM dds m (.sl q.2.length :: q.1) (q.2 ++ [some (.ow (.ins k []))]) with
  | .stuck => .stuck
  | .exc x e' => .exc x e'.dropLast
  | .ok (.vl .non, e') => match e'.getLast? with
    | some (some (.ow (.ins k' ds))) => .ok (.nw (.ins k' ds), e'.dropLast)
    | _ => .stuck
  | .ok _ => .stuck
def tMakeS (C : Addr) (sp : Sp) (dvs : List V) (E : L2.St → XK) (t : TA) : TE := fun σ H Q => t σ H fun vs H1 => ∀ x dx, H1 x = none → H1 dx = none → dx ≠ x →
  sp (.ref x :: (vs ++ dvs)) (upd (upd H1 dx (.own x)) x (.ins C dx [])) (fun v H2 => v = .non ∧ Q (.ref x) H2) (E σ)
theorem TRs.ext {x : Option V} {b : Option B} : ∀ {ts : List T} {vs : List V}, TRs c z F H σ e ts vs → TRs c z F H' (σ ++ [x]) (e ++ [b]) ts vs
  | [], _, h => h
  | t :: ts, _, ⟨v, r, h1, h2, h3, h4⟩ => by
    have h5 : TR c z F H' (σ ++ [x]) (e ++ [b]) t v := by
      cases t with
      | sl i =>
        have h3' : σ[i]? = some (some v) := h3
        show (σ ++ [x])[i]? = some (some v)
        rw [List.getElem?_append_left (get_lt h3')]; exact h3'
      | vl d => exact h3
      | nw d => cases h2
    exact ⟨v, r, h1, h2, h5, TRs.ext h4⟩
theorem drop_last_of {e : DEnv} {n : Nat} (h : e.length = n + 1) : ∃ e0 b, e = e0 ++ [b] ∧ e0.length = n ∧ e.dropLast = e0 ∧ e.getLast? = some b := by
  have hne : e ≠ [] := fun z => by rw [z] at h; cases h
  refine ⟨e.dropLast, e.getLast hne, (List.dropLast_concat_getLast hne).symm, by simp [h], rfl, by rw [List.getLast?_eq_some_getLast hne]⟩
theorem sn_make {n k : Nat} {ms : List Bool} {m : Fn} {dvs : List V} {dds : List D} {ta : TA} {fa : FA} (hn : ∀ vs : List V, (∃ e r, fa e = .ok r ∧ r.1.length = vs.length) → vs.length + dvs.length + 1 = n) (hd : ∀ F, RpL c F dds dvs) (ha : SndA c W ta fa)
    (hW : ∀ cls dd σ H, W cls dd σ H → W cls dd σ H) : SndE c W (tMakeS (c.cl k) (spD c n m) dvs (WE W) ta) (fMake k ms dds m fa) := fun z σ H F e Q I h => by
  unfold fMake at h
  rw [Wp.bind] at h
  refine ha z σ H F e _ I (h.mono (fun r hr g vs H1 F1 x1 I1 t1 => ?_) fun _ _ h => h)
  clear h
  rw [Wp.bind] at g
  obtain ⟨⟨ts, e2⟩, l, g⟩ := Wp.of g
  obtain ⟨G, x2, J, t2⟩ := t1.escN I1 l
  intro x dx hx hdx hne
  -- the heap with the new instance
  have eH : Ex H1 (upd (upd H1 dx (.own x)) x (.ins (c.cl k) dx [])) := (Ex.new hdx).trans (Ex.new (by rw [upd_ne hne.symm]; exact hx))
  have J1 := J.alloc eH
  have hz : (c.fn k).zip ([] : List V) = [] := by simp
  have w : Own c G (upd (upd H1 dx (.own x)) x (.ins (c.cl k) dx [])) (.ins k []) x := ⟨fresh_back J.fh hx, dx, [], by rw [upd_same, hz], rfl⟩
  have J2 := J1.ext w (J.fresh0 hx) (J.noroot hx)
  have t3 : TRs c z G (upd (upd H1 dx (.own x)) x (.ins (c.cl k) dx [])) (σ ++ [some (.ref x)]) (e2 ++ [some (.ow (.ins k []))]) (.sl e2.length :: ts) (.ref x :: vs) :=
    ⟨_, _, rfl, rfl, by show (σ ++ [some (V.ref x)])[e2.length]? = _; rw [J.len]; simp, TRs.ext t2⟩
  have sc := sp_call (n := n) (m := m) (dvs := dvs) (dds := dds) (W := fun cls dd _ H => W cls dd σ H) (Q := fun v H2 => v = .non ∧ Q (.ref x) H2) J2 t3 (by
    have := hn vs ⟨_, r, hr, t1.len⟩
    simp; omega) (hd G) ?_
  · exact sc
  · have hln : ∀ {e' : DEnv} {H' F' : Hp}, I2 c z (σ ++ [some (V.ref x)]) H' F' e' → e'.length = e2.length + 1 := fun {e' H' F'} K => by rw [K.len]; simp [J.len]
    cases hq : callM dds m (.sl e2.length :: ts) (e2 ++ [some (.ow (.ins k []))]) with
    | stuck => rw [hq] at g; exact g.elim
    | exc xv e' =>
      rw [hq] at g
      intro cls dd H' F' x' K r'
      obtain ⟨e0, b, rfl, l0, ed, _⟩ := drop_last_of (hln K)
      have K0 := K.unext
      dsimp only at g
      rw [show List.dropLast (e0 ++ [b]) = e0 from ed] at g
      exact g cls dd H' F' ((x1.trans x2).trans x') K0 r'
    | ok r' =>
      rw [hq] at g
      obtain ⟨t, e'⟩ := r'
      intro v H' F' x' K t'
      obtain ⟨e0, b, rfl, l0, ed, eg⟩ := drop_last_of (hln K)
      cases t with
      | sl i => exact g.elim
      | nw d => exact g.elim
      | vl d =>
        cases d <;> try exact g.elim
        have ev : v = .non := t'
        refine ⟨ev, ?_⟩
        dsimp only at g
        rw [show List.getLast? (e0 ++ [b]) = some b from eg, show List.dropLast (e0 ++ [b]) = e0 from ed] at g
        cases b with
        | none => exact g.elim
        | some b =>
          cases b <;> try exact g.elim
          rename_i d
          cases d <;> try exact g.elim
          rename_i k' ds
          have K0 := K.unext
          have hs : (e0 ++ [some (B.ow (.ins k' ds))])[e0.length]? = some (some (.ow (.ins k' ds))) := by simp
          obtain ⟨v0, hv0, p, rfl, w', h0'⟩ := K.slot e0.length _ hs
          have hp : (σ ++ [some (V.ref x)])[e0.length]? = some (some (.ref x)) := by rw [l0, J.len]; simp
          rw [hp] at hv0; cases hv0
          refine g (.ref x) H' F' ((x1.trans x2).trans x') K0 ⟨x, rfl, w', h0', fun i ⟨b', q1, q2, q3⟩ => ?_⟩
          have := K.dist i e0.length x ⟨b', by rw [List.getElem?_append_left (get_lt q1)]; exact q1, q2, by rw [List.getElem?_append_left (get_lt q3)]; exact q3⟩ ⟨_, hs, rfl, hp⟩
          have hlt := get_lt q1
          dsimp only at hlt
          omega
end

section
variable {X : Cx} {c : Ct} {W : WX} {k n j : Nat} {f C : Addr} {fd : FuncData} {ps : List Str} {m : Fn} {x y : Str} {p pos apos : Pos} {a o : Expr} {es : List Expr} {ta to : TE} {tr : TA} {fa fo : FE} {fr : FA} {dvs : List V} {ds : List Value} {dds : List D} {ms : List Bool} {sp : Sp} {E : L2.St → XK} {CX : CXT}
theorem run_makeS {pins : List (Addr × Obj)} {σ : L2.St} {H : Hp} {s : Shared} {Q : VK} {us : List Value} {vs : List V} (M : Mk X.K C f) (F : FnOk X.prog X.w X.K X.mg X.base CX k f fd ps sp) (hr : Room (k + 1) X.A) (hb : Binds X.K fd ps ds) (hd : Vals dvs ds)
    (hx : PassesAt CX X σ (E σ)) (hx2 : ∀ (H : Hp) (s : Shared) (C : Addr) (e : Value) (s' : Shared), Inv X pins σ H s → CX X.stack H s (E σ) e s' → X.xe e s') (I : Inv X pins σ H s) (r : Vals vs us)
    (h : ∀ x dx, H x = none → H dx = none → dx ≠ x → sp (.ref x :: (vs ++ dvs)) (upd (upd H dx (.own x)) x (.ins C dx [])) (fun v H2 => v = .non ∧ Q (.ref x) H2) (E σ)) :
    wpAny (model X.prog X.w) X.A (call (.ref C) us) (EP X pins σ Q) X.xe s := by
  have hq := h (s.heap.objs.size + 1) s.heap.objs.size (I.hok.fresh (Nat.le_succ _)) (I.hok.fresh (Nat.le_refl _)) (Nat.ne_of_lt (Nat.lt_succ_self _))
  have I2 := Inv.made (C := C) I
  have r2 : Vals (V.ref (s.heap.objs.size + 1) :: (vs ++ dvs)) (Value.ref (s.heap.objs.size + 1) :: (us ++ ds)) := .cons rfl (r.append hd)
  have hl : (Value.ref (s.heap.objs.size + 1) :: us ++ ds).length = ps.length := by
    have e := r2.length
    rw [F.len _ _ _ _ hq] at e
    exact e.symm
  refine wpAny_call (make_map (f := f) I.kIn M.makes M.init (beq_iff_eq.mp M.fn) (codeAny_mono (F.run _ X.stack _ _ ⟨Value.ref (s.heap.objs.size + 1) :: us, []⟩ (Value.ref (s.heap.objs.size + 1) :: (us ++ ds)) _ _ (E σ) (hr.make C us [])
    (I2.env0.make C us []) (hb _ (Value.ref (s.heap.objs.size + 1) :: us) I2.kIn hl) r2 hq) fun r s' hq' => ?_))
  cases r with
  | error e => exact hx pins _ _ e s' I2 hq'
  | ok fl =>
    cases fl with
    | ret u =>
      obtain ⟨v, H', I3, rv, ev, q3⟩ := I2.after hq'
      subst ev
      exact ⟨rv, ⟨V.ref (s.heap.objs.size + 1), H', I3, rfl, q3⟩⟩
    | next => exact False.elim hq'
    | brk => exact False.elim hq'
    | cont => exact False.elim hq'
theorem pe_makeS (M : Mk X.K C f) (F : FnOk X.prog X.w X.K X.mg X.base CX k f fd ps sp) (hr : Room (k + 1) X.A) (hg : Gl X x) (hm : X.mg x = some (.ref C)) (hb : Binds X.K fd ps ds) (hd : Vals dvs ds) (hx : ∀ σ, PassesAt CX X σ (E σ))
    (ha : PA X (a :: es) tr) (hdb : (x == ("__debug__" : Str)) = false := by decide) (he : starEach (a :: es) X.env = (false, eval a X.env) :: starEach es X.env := by rfl) (hpl : (backTo pos (starEach es X.env)).any (·.1) = false := by rfl) :
    PE X (.Call (.Name x p) (a :: es) [] pos) (tMakeS C sp dvs E tr) := by
  refine ⟨fun pins s σ H Q I h => ?_⟩
  refine wpAny_Call_Name_kw (ld_glob I hg hm ?_ hdb)
  refine PySem.W.callWith_K (h₀ := X.base) I.ok.mod.kin M.kp (thn (ha.run pos pins s σ H _ I h) fun us s1 ⟨vs, H1, I1, r, q⟩ => ⟨I1.kIn, ?_⟩) he hpl
  exact run_makeS M F hr hb hd (hx σ) (fun H s _ e s' I h => hx σ pins H s e s' I h) I1 r q
/-- C(a, ..) -/
theorem de_make {i : Nat} (tk : Takes X W) (hK : X.K = c.K) (M : Mk c.K (c.cl i) f) (F : FnOk X.prog X.w X.K X.mg X.base (L2.CX X.prog X.w) k f fd ps (spD c n m)) (hr : Room (k + 1) X.A) (hg : Gl X x) (hm : X.mg x = some (.ref (c.cl i))) (hb : Binds X.K fd ps ds) (hd : Vals dvs ds) (hdd : ∀ F, RpL c F dds dvs)
    (hlen : LenA fr j) (hn : j + dvs.length + 1 = n) (ha : DA X c W (a :: es) tr fr) (hdb : (x == ("__debug__" : Str)) = false := by decide) (he : starEach (a :: es) X.env = (false, eval a X.env) :: starEach es X.env := by rfl) (hpl : (backTo pos (starEach es X.env)).any (·.1) = false := by rfl) :
    DE X c W (.Call (.Name x p) (a :: es) [] pos) (tMakeS (c.cl i) (spD c n m) dvs (WE W) tr) (fMake i ms dds m fr) :=
  ⟨pe_makeS (hK ▸ M) F hr hg hm hb hd (fun σ => passAt tk σ) ha.pa hdb he hpl, sn_make (fun vs ⟨e, r, h1, h2⟩ => by rw [← h2, hlen e r h1]; exact hn) hdd ha.sn fun _ _ _ _ h => h⟩

/-! ### isinstance -/
/-- of a class of one's own: what isinstance asks -/
structure InsT (K : PySem.W.Frag) (C : Addr) : Prop where
  cl : Cls K C
  ha : PySem.W.findIn K (.ref C) "__class__" = some (some (.builtin "object.__class__"))
  hn : PySem.W.specialIn K (.builtin "object.__class__") "__get__" = some (some (.builtin "getset_descriptor.__get__"))
  ht : PySem.W.takesIn K (.builtin "object.__class__") = some true
  hm : PySem.W.mroIn K C (.type "object") = some true
def isiP (tbl : Nat → Option Bool) (bt : String → Option Bool) : D → Option Bool
  | .non => bt "NoneType"
  | .bl _ => bt "bool"
  | .int _ => bt "int"
  | .str _ => bt "str"
  | .lst _ => bt "list"
  | .tup _ => bt "tuple"
  | .rol _ => none
  | .ins k _ => tbl k
def IsiOk (c : Ct) (u : Value) (tbl : Nat → Option Bool) (bt : String → Option Bool) : Prop := (∀ T b, bt T = some b → PySem.W.kitOne c.K (.type T) u = some b) ∧ ∀ k b, tbl k = some b → InsT c.K (c.cl k) ∧ PySem.W.kitOne c.K (.ref (c.cl k)) u = some b
theorem SqT.tyX {K : PySem.W.Frag} {H : Hp} {a : Addr} {xs : List V} (h : SqT K H a xs) : TyX K H (.ref a) (.type "tuple") := by
  rcases h with (h | ⟨o, h⟩) | h
  · exact .base (.tup h)
  · exact .fTuple h
  · obtain ⟨o, its, n, h1, h2, _⟩ := h
    exact .kTuple h1 h2
theorem isi_ty {u : Value} {tbl : Nat → Option Bool} {bt : String → Option Bool} (ok : IsiOk c u tbl bt) {F H : Hp} {d : D} {v : V} {b : Bool} (x : Ex F H) (k : View c F H d v) (h : isiP tbl bt d = some b) : ∃ t, TyX c.K H v t ∧ PySem.W.kitOne c.K t u = some b := by
  cases d with
  | non => rw [k.non]; exact ⟨_, .base .non, ok.1 _ _ h⟩
  | bl i => rw [k.bl]; exact ⟨_, .base (.bl i), ok.1 _ _ h⟩
  | int i => rw [k.int]; exact ⟨_, .base (.int i), ok.1 _ _ h⟩
  | str i => rw [k.str]; exact ⟨_, .base (.str i), ok.1 _ _ h⟩
  | lst ds => obtain ⟨p, vs, rfl, h1, _⟩ := k.lst x; exact ⟨_, .base (.lst h1), ok.1 _ _ h⟩
  | tup ds => obtain ⟨p, vs, rfl, h1, _⟩ := k.tup x; exact ⟨_, SqT.tyX h1, ok.1 _ _ h⟩
  | rol ds => cases h
  | ins j ds =>
    obtain ⟨p, dx, vs, rfl, h1, _⟩ := k.ins x
    obtain ⟨i, h2⟩ := ok.2 j b h
    exact ⟨_, .base (.ins h1 i.cl i.ha i.hn i.ht i.hm), h2⟩
def fIsi (P : D → Option Bool) (fa : FE) : FE := fun e => (fa e).bind fun r => Res.of ((lookT r.1 r.2).bind fun d => (P d).map fun b => (.vl (.bl b), r.2))
theorem sn_isi {cv : V} {u : Value} {tbl : Nat → Option Bool} {bt : String → Option Bool} (cu : ClsV cv u) (ok : IsiOk c u tbl bt) (ha : SndE c W ta fa) : SndE c W (tCB (rIsi c.K) (tCons ta (tCons (tC cv) tNil))) (fIsi (isiP tbl bt) fa) := fun z σ H F e Q I h => by
  unfold fIsi at h
  rw [Wp.bind] at h
  refine ha z σ H F e _ I (h.mono (fun r _ h v H1 F1 x1 I1 t1 => ?_) fun _ _ h => h)
  obtain ⟨q, ea, h⟩ := Wp.of h
  obtain ⟨d, l1, ea⟩ := obind ea
  obtain ⟨b, l2, rfl⟩ := omap ea
  obtain ⟨t, h1, h2⟩ := isi_ty ok I1.fh (t1.view I1 l1) l2
  exact ⟨v, cv, t, u, b, rfl, cu, h1, h2, h _ H1 F1 x1 I1 rfl⟩
theorem de_isi {cv : V} {u : Value} {tbl : Nat → Option Bool} {bt : String → Option Bool} {b : Expr} (hK : X.K = c.K) (cu : ClsV cv u) (ok : IsiOk c u tbl bt) (hg : Gl X "isinstance") (hm : X.mg "isinstance" = none) (ha : DE X c W a ta fa) (hb : PE X b (tC cv))
    (he : starEach [a, b] X.env = (false, eval a X.env) :: starEach [b] X.env := by rfl) (he2 : starEach [b] X.env = (false, eval b X.env) :: starEach [] X.env := by rfl) (hpl : (backTo pos (starEach [b] X.env)).any (·.1) = false := by rfl) :
    DE X c W (.Call (.Name "isinstance" p) [a, b] [] pos) (tCB (rIsi c.K) (tCons ta (tCons (tC cv) tNil))) (fIsi (isiP tbl bt) fa) :=
  ⟨pe_callB (hK ▸ call_isi) hg hm (by decide +kernel) (pa_cons ha.pe (pa_cons hb pa_nil he2) he) (by decide) (by decide) he hpl, sn_isi cu ok ha.sn⟩

/-! ### zip of two lists, of two tuples -/
def izip (xs ys : List D) : List D := (xs.zip ys).map fun p => .tup [p.1, p.2]
def fiZip (fr : FA) : FI := fun e => (fr e).bind fun r => Res.of ((escs r.1 r.2).bind fun q => match q.1 with
  | [.lst xs, .lst ys] => some (izip xs ys, q.2)
  | [.tup xs, .tup ys] => some (izip xs ys, q.2)
  | _ => none)
theorem zip_ix {xs ys : List D} {i : Nat} {d : D} (h : (izip xs ys)[i]? = some d) : ∃ x y, xs[i]? = some x ∧ ys[i]? = some y ∧ d = .tup [x, y] := by
  unfold izip at h
  rw [List.getElem?_map] at h
  obtain ⟨q, h1, rfl⟩ := omap h
  rw [List.getElem?_zip_eq_some] at h1
  exact ⟨q.1, q.2, h1.1, h1.2, rfl⟩
theorem itOk_zipT {F : Hp} {z' : Zs} {p q : Addr} {vs ws : List V} {xs ys : List D} (h : SqT c.K F p vs) (r : RpL c F xs vs) (h' : SqT c.K F q ws) (r' : RpL c F ys ws) : ItOk c z' (RZ.ItzT c.K p q) F (izip xs ys) := fun i σ H1 F1 e x I => by
  have h1 := ex_t (x.trans I.fh) h
  have h2 := ex_t (x.trans I.fh) h'
  refine ⟨fun d hd => ?_, fun hl => ⟨vs, ws, h1, h2, ?_⟩⟩
  · obtain ⟨a, b, hx, hy, rfl⟩ := zip_ix hd
    obtain ⟨v, hv, rv⟩ := r.get hx
    obtain ⟨w, hw, rw'⟩ := r'.get hy
    refine ⟨⟨vs, ws, v, w, h1, h2, hv, hw⟩, fun y H2 hy => ?_⟩
    obtain ⟨T, v', w', rfl, hT, rfl, k1, k2⟩ := hy
    have e1 := k1 vs h1
    have e2 := k2 ws h2
    rw [hv] at e1; cases e1
    rw [hw] at e2; cases e2
    have xn := Ex.new (o := HO.tup [v, w]) (fresh_back I.fh hT)
    exact ⟨_, xn, Ex.new hT, I.allocT hT, T, [v, w], rfl, st_of upd_same, v, [w], rfl, rv.mono (x.trans xn) _ _, w, [], rfl, rw'.mono (x.trans xn) _ _, rfl⟩
  · unfold izip at hl
    rw [List.length_map, List.length_zip, r.len, r'.len] at hl
    omega
theorem itOk_zipL {F : Hp} {z' : Zs} {p q : Addr} {vs ws : List V} {xs ys : List D} (h : SqL c.K F p vs) (r : RpL c F xs vs) (h' : SqL c.K F q ws) (r' : RpL c F ys ws) : ItOk c z' (Itz c.K p q) F (izip xs ys) := fun i σ H1 F1 e x I => by
  have h1 := ex_l (x.trans I.fh) h
  have h2 := ex_l (x.trans I.fh) h'
  refine ⟨fun d hd => ?_, fun hl => ⟨vs, ws, h1, h2, ?_⟩⟩
  · obtain ⟨a, b, hx, hy, rfl⟩ := zip_ix hd
    obtain ⟨v, hv, rv⟩ := r.get hx
    obtain ⟨w, hw, rw'⟩ := r'.get hy
    refine ⟨⟨vs, ws, v, w, h1, h2, hv, hw⟩, fun y H2 hy => ?_⟩
    obtain ⟨T, v', w', rfl, hT, rfl, k1, k2⟩ := hy
    have e1 := k1 vs h1
    have e2 := k2 ws h2
    rw [hv] at e1; cases e1
    rw [hw] at e2; cases e2
    have xn := Ex.new (o := HO.tup [v, w]) (fresh_back I.fh hT)
    exact ⟨_, xn, Ex.new hT, I.allocT hT, T, [v, w], rfl, st_of upd_same, v, [w], rfl, rv.mono (x.trans xn) _ _, w, [], rfl, rw'.mono (x.trans xn) _ _, rfl⟩
  · unfold izip at hl
    rw [List.length_map, List.length_zip, r.len, r'.len] at hl
    omega
theorem sn_iZip (ha : SndA c W tr fr) : SndI c W (RZ.iZipA c.K tr) (fiZip fr) := fun z σ H F e R I h => by
  unfold fiZip at h
  rw [Wp.bind] at h
  refine ha z σ H F e _ I (h.mono (fun r _ h vs H1 F1 x1 I1 t1 => ?_) fun _ _ h => h)
  obtain ⟨o, ea, h⟩ := Wp.of h
  obtain ⟨⟨ds, e1⟩, l1, ea⟩ := obind ea
  obtain ⟨G, x2, J, rr⟩ := t1.escs I1 l1
  dsimp only at ea
  split at ea <;> try cases ea
  · obtain ⟨v, r1, rfl, ⟨p, vs1, rfl, h1, q1⟩, w, r2, rfl, ⟨q, vs2, rfl, h2, q2⟩, rfl⟩ := rr
    exact ⟨p, q, vs1, vs2, rfl, .inl ⟨sq_of (J.fh _ _ h1), sq_of (J.fh _ _ h2), h _ _ G (x1.trans x2) J fun z' => itOk_zipL (sq_of h1) q1 (sq_of h2) q2⟩⟩
  · obtain ⟨v, r1, rfl, ⟨p, vs1, rfl, h1, q1⟩, w, r2, rfl, ⟨q, vs2, rfl, h2, q2⟩, rfl⟩ := rr
    exact ⟨p, q, vs1, vs2, rfl, .inr ⟨ex_t J.fh h1, ex_t J.fh h2, h _ _ G (x1.trans x2) J fun z' => itOk_zipT h1 q1 h2 q2⟩⟩
theorem di_zip {b : Expr} {elts : List Expr} {kk : Nat} {tpos : Pos} (hK : X.K = c.K) (hg : Gl X "zip") (hm : X.mg "zip" = none) (ha : DA X c W [a, b] tr fr)
    (hs : starEach [a, b] X.env = (false, eval a X.env) :: starEach [b] X.env := by rfl) (hpl : (backTo pos (starEach [b] X.env)).any (·.1) = false := by rfl) :
    DI X c W (.Tuple elts kk tpos) (.Call (.Name "zip" p) [a, b] [] pos) (RZ.iZipA c.K tr) (fiZip fr) := ⟨hK ▸ RZ.pi_zipA hg hm ha.pa hs hpl, sn_iZip ha.sn⟩
end
end DL

/-! DL, part k: operators that a class of one's own defines. -/
namespace PySem.W
open PySem PySem.Calls PyProof.Rows
section
variable {prog : Program} {w : World} {A : Around} {E : Value → Shared → Prop} {s : Shared} {K : Frag} {x C L f g : Addr} {h₀ : Heap} {m : Str → Option Value} {ox : Obj} {od : Option Obj}
/-- an int on the left, an own instance on the right: its reflected method -/
theorem dl_binR {op : Operator} {i : Int} {t : Tok} {id : String} {B : Builtin} {Q : Value → Shared → Prop} (F : Fr h₀ L s.heap m) (X₀ : K.In h₀) (I : InstAt s.heap x ox C od) (hc : selfFirst K C = true)
    (hs : findIn K (.ref C) (PySem.dunder op.info.2) = some (some (.ref f))) (hr : findIn K (.ref C) (dunderR op.info.2) = some (some (.ref g))) (hg : isFn K (.ref g) = true) (hsub : subIn K (.ref C) (.type "int") = some false)
    (fills : fillsNumberSlot (.type "int") op.info.2 = pure true) (slot : Slot "int" (PySem.dunder op.info.2) id) (entry : entryFor table id = some B) (args : argsOk id ⟨[.int i t, .ref x], []⟩)
    (dec : ∀ (A : Around) (E : Value → Shared → Prop) (Q : Fin → Shared → Prop), Q (.done (.ret .notImplemented)) s → wpAny (model prog w) A (B ⟨[.int i t, .ref x], []⟩) Q E s)
    (h : wpAny (model prog w) A (call (.ref g) [.ref x, .int i t]) (CmpBack Q) E s) : wpAny (model prog w) A (binaryOp op (.int i t) (.ref x)) Q E s := by
  have X := X₀.keeps F.keep
  obtain ⟨cd, rest, hcd, hm⟩ := ksp_first hc
  rcases hi : op.info with ⟨sym, nm'⟩
  rw [hi] at hs hr fills slot
  dsimp only at hs hr fills slot
  have one := ksp_try X I hr hg h
  have left : wpAny (model prog w) A (tryMethod (.int i t) (PySem.dunder nm') (.ref x)) (fun r s' => r = none ∧ s' = s) E s :=
    wpAny_tryMethod_declines (typeIs_int s i t) slot (wpAny_call (codeAny_call_builtin slot.plain entry (slot.check _ _ _ _ _ _ _ _ (typeIs_int s i t) args (dec _ _ _ ⟨rfl, rfl, rfl⟩))))
  have L1 : Looks (model prog w) s.heap (typeOf (.ref x)) (.ref C) := I.type
  have L2 : Looks (model prog w) s.heap (typeOf (.int i t)) (.type "int") := Looks.of_pure rfl
  have L3 : Looks (model prog w) s.heap (fillsNumberSlot (.ref C) nm') true := fills_K X hcd hm hs
  have L4 : Looks (model prog w) s.heap (fillsNumberSlot (.type "int") nm') true := Looks.of_pure fills
  have L5 : Looks (model prog w) s.heap (isSubtype (.ref C) (.type "int")) false := looks_subIn X hsub
  have L7 : Looks (model prog w) s.heap (numberSlotInPython (.type "int") nm') false := Looks.of_pure rfl
  have hne : (Value.type "int" == Value.ref C) = false := Bool.eq_false_iff.mpr fun q => by cases beq_iff_eq.mp q
  simp only [binaryOp, hi]
  refine wpAny_holding (wpAny_bind ?_)
  unfold binaryOp1
  refine wpAny_bind (L2.here (wpAny_bind (L1.here (wpAny_bind (L4.here ?_)))))
  simp only [hne, Bool.false_eq_true, if_false]
  refine wpAny_bind (L3.here ?_)
  simp only [Bool.and_self, if_true]
  refine wpAny_bind (L5.here ?_)
  simp only [Bool.false_eq_true, if_false, pure_bind, Bool.not_false, Bool.and_self, if_true]
  refine wpAny_bind (L7.here ?_)
  simp only [Bool.false_eq_true, if_false, pure_bind]
  refine wpAny_bind (wpAny_mono left (fun r s' hr' => ?_) fun _ _ e => e)
  obtain ⟨rfl, rfl⟩ := hr'
  dsimp only
  first
    | (refine wpAny_bind (wpAny_mono one (fun r s' hr' => ?_) fun _ _ e => e)
       obtain ⟨v, rfl, hq⟩ := hr'
       exact wpAny_bind (wpAny_rule (wpAny_pure (wpAny_pure hq))))
    | trace_state
theorem dl_decAdd {i : Int} {t : Tok} {dx : Addr} (hx : s.heap.get? x = some (instObj C dx)) (A : Around) (E : Value → Shared → Prop) (Q : Fin → Shared → Prop) (h : Q (.done (.ret .notImplemented)) s) : wpAny (model prog w) A (Builtin.«int.__add__» ⟨[.int i t, .ref x], []⟩) Q E s := by
  obtain ⟨hp, g, d, tk, os⟩ := s
  wp_walk using wpAny_load hx
  all_goals first | exact h | trace_state
theorem dl_decSub {i : Int} {t : Tok} {dx : Addr} (hx : s.heap.get? x = some (instObj C dx)) (A : Around) (E : Value → Shared → Prop) (Q : Fin → Shared → Prop) (h : Q (.done (.ret .notImplemented)) s) : wpAny (model prog w) A (Builtin.«int.__sub__» ⟨[.int i t, .ref x], []⟩) Q E s := by
  obtain ⟨hp, g, d, tk, os⟩ := s
  wp_walk using wpAny_load hx
  all_goals first | exact h | trace_state
theorem dl_decMul {i : Int} {t : Tok} {dx : Addr} (hx : s.heap.get? x = some (instObj C dx)) (A : Around) (E : Value → Shared → Prop) (Q : Fin → Shared → Prop) (h : Q (.done (.ret .notImplemented)) s) : wpAny (model prog w) A (Builtin.«int.__mul__» ⟨[.int i t, .ref x], []⟩) Q E s := by
  obtain ⟨hp, g, d, tk, os⟩ := s
  wp_walk using wpAny_load hx
  all_goals first | exact h | trace_state
end
end PySem.W

namespace DL
open PySem L2 Evl

section
variable {X : Cx} {c : Ct} {W : WX} {k n j : Nat} {f g C : Addr} {fd : FuncData} {ps : List Str} {m : Fn} {x y : Str} {p pos apos : Pos} {a b o : Expr} {es : List Expr} {ta tb to : TE} {tr : TA} {fa fb fo : FE} {fr : FA} {sp : Sp} {E : L2.St → XK} {CX : CXT} {op : Operator}

/-- a class's own operator: the def, and that it is asked first -/
structure Own2 (K : PySem.W.Frag) (C f : Addr) (op : Operator) : Prop where
  s : PySem.W.findIn K (.ref C) (PySem.dunder op.info.2) = some (some (.ref f))
  fn : PySem.W.isFn K (.ref f) = true
  fst : PySem.W.selfFirst K C = true
/-- .. with an int on the right -/
structure Own2I (K : PySem.W.Frag) (C : Addr) (op : Operator) : Prop where
  r : ∃ rc, PySem.W.findIn K (.ref C) (dunderR op.info.2) = some rc ∧ (rc = none ∨ ∃ g : Addr, rc = some (.ref g))
  h1 : ∃ fo, PySem.W.findIn K (.type "int") (PySem.dunder op.info.2) = some fo
  h2 : ∃ ro, PySem.W.findIn K (.type "int") (dunderR op.info.2) = some ro
  sub : PySem.W.subIn K (.type "int") (.ref C) = some false
/-- .. with an int on the left -/
structure Own2R (K : PySem.W.Frag) (C g : Addr) (op : Operator) : Prop where
  s : ∃ f : Addr, PySem.W.findIn K (.ref C) (PySem.dunder op.info.2) = some (some (.ref f))
  r : PySem.W.findIn K (.ref C) (dunderR op.info.2) = some (some (.ref g))
  fn : PySem.W.isFn K (.ref g) = true
  fst : PySem.W.selfFirst K C = true
  sub : PySem.W.subIn K (.ref C) (.type "int") = some false
theorem EP.back {pins : List (Addr × Obj)} {σ : L2.St} {Q : VK} {u : Value} {s' : Shared} (h : EP X pins σ Q u s') : PySem.W.CmpBack (EP X pins σ Q) u s' := by
  cases u <;> first | exact h | skip
  obtain ⟨v, H', _, r, _⟩ := h
  cases v with
  | non => cases r
  | bl _ => cases r
  | int _ => obtain ⟨_, r⟩ := r; cases r
  | str _ => obtain ⟨_, r⟩ := r; cases r
  | byt _ => obtain ⟨_, r⟩ := r; cases r
  | flt _ => obtain ⟨_, r⟩ := r; cases r
  | ref _ => cases r
  | ty _ => cases r
theorem Inv.inst {pins : List (Addr × Obj)} {σ : L2.St} {H : Hp} {s : Shared} {a dx : Addr} {fs : List (Str × V)} (I : Inv X pins σ H s) (h : H a = some (.ins C dx fs)) : s.heap.get? a = some (PySem.W.instObj C dx) ∧ ∃ od, PySem.W.InstAt s.heap a (PySem.W.instObj C dx) C (some od) := by
  obtain ⟨mA, O, _⟩ := ins_get I.hok h
  obtain ⟨od, J, _⟩ := O.look
  exact ⟨O.1, od, J⟩
def tOwnLL (C : Addr) (sp : Sp) (E : L2.St → XK) (ta tb : TE) : TE := fun σ H Q => ta σ H fun x H1 => tb σ H1 fun y H2 => ∃ a dx fs b dy gs, x = .ref a ∧ H2 a = some (.ins C dx fs) ∧ y = .ref b ∧ H2 b = some (.ins C dy gs) ∧ sp [x, y] H2 Q (E σ)
def tOwnLI (C : Addr) (sp : Sp) (E : L2.St → XK) (ta tb : TE) : TE := fun σ H Q => ta σ H fun x H1 => tb σ H1 fun y H2 => ∃ a dx fs i, x = .ref a ∧ H2 a = some (.ins C dx fs) ∧ y = .int i ∧ sp [x, y] H2 Q (E σ)
def tOwnIL (C : Addr) (sp : Sp) (E : L2.St → XK) (ta tb : TE) : TE := fun σ H Q => ta σ H fun x H1 => tb σ H1 fun y H2 => ∃ b dy gs i, x = .int i ∧ y = .ref b ∧ H2 b = some (.ins C dy gs) ∧ sp [y, x] H2 Q (E σ)
theorem binS {pins : List (Addr × Obj)} {s : Shared} {σ : L2.St} {H : Hp} {R : V → V → Hp → Prop} (ha : PE X a ta) (hb : PE X b tb) (I : Inv X pins σ H s) (h : ta σ H fun x H1 => tb σ H1 fun y H2 => R x y H2)
    {Q : Value → Shared → Prop} {fn : Value → Value → Sem Value}
    (hf : ∀ v u s2 x y H2, Inv X pins σ H2 s2 → RelV x v → RelV y u → R x y H2 → wpAny (model X.prog X.w) X.A (fn v u) Q X.xe s2) :
    wpAny (model X.prog X.w) X.A (eval a X.env) (fun v s₁ => wpAny (model X.prog X.w) X.A (eval b X.env) (fun u s₂ => wpAny (model X.prog X.w) X.A (fn v u) Q X.xe s₂) X.xe s₁) X.xe s := bin ha hb I h hf
theorem pe_ownLL (w2 : Own2 X.K C f op) (F : FnOk X.prog X.w X.K X.mg X.base CX k f fd ps sp) (hr : Room k X.A) (hb : Binds X.K fd ps []) (hx : ∀ σ, PassesAt CX X σ (E σ)) (ha : PE X a ta) (hb' : PE X b tb) : PE X (.BinOp a op b pos) (tOwnLL C sp E ta tb) := by
  refine ⟨fun pins s σ H Q I h => ?_⟩
  refine wpAny_BinOp (bin ha hb' I h fun v u s2 x y H2 I2 rx ry q => ?_)
  obtain ⟨p, dx, fs, q', dy, gs, rfl, h1, rfl, h2, hsp⟩ := q
  cases rx; cases ry
  obtain ⟨_, od, J⟩ := Inv.inst I2 h1
  obtain ⟨_, od', J'⟩ := Inv.inst I2 h2
  obtain ⟨m, hF⟩ := I2.fr
  refine PySem.W.binop_K hF I2.ok.mod.kin J J'.type w2.fst w2.s w2.fn (wpAny_mono (run_fnSD (us := [.ref p, .ref q']) (vs := [.ref p, .ref q']) F hr hb .nil (hx σ) I2 (.cons rfl (.cons rfl .nil)) hsp) (fun _ _ h => EP.back h) fun _ _ h => h)
theorem pe_ownLI (w2 : Own2 X.K C f op) (wi : Own2I X.K C op) (F : FnOk X.prog X.w X.K X.mg X.base CX k f fd ps sp) (hr : Room k X.A) (hb : Binds X.K fd ps []) (hx : ∀ σ, PassesAt CX X σ (E σ)) (ha : PE X a ta) (hb' : PE X b tb) : PE X (.BinOp a op b pos) (tOwnLI C sp E ta tb) := by
  refine ⟨fun pins s σ H Q I h => ?_⟩
  refine wpAny_BinOp (bin ha hb' I h fun v u s2 x y H2 I2 rx ry q => ?_)
  obtain ⟨p, dx, fs, i, rfl, h1, rfl, hsp⟩ := q
  cases rx
  obtain ⟨t, rfl⟩ := ry
  obtain ⟨_, od, J⟩ := Inv.inst I2 h1
  obtain ⟨m, hF⟩ := I2.fr
  obtain ⟨⟨rc, r1, r2⟩, ⟨fo, e1⟩, ⟨ro, e2⟩, hsub⟩ := wi
  refine PySem.W.ksp_binT hF I2.ok.mod.kin J (T := "int") rfl w2.fst w2.s w2.fn r1 r2 e1 e2 hsub (wpAny_mono (run_fnSD (us := [.ref p, .int i t]) (vs := [.ref p, .int i]) F hr hb .nil (hx σ) I2 (.cons rfl (.cons ⟨t, rfl⟩ .nil)) hsp) (fun _ _ h => EP.back h) fun _ _ h => h)
/-- the ints' own part in it: they decline -/
def Declines (op : Operator) : Prop := ∃ (id : String) (B : Builtin), fillsNumberSlot (.type "int") op.info.2 = pure true ∧ Nonempty (PLift (Slot "int" (PySem.dunder op.info.2) id)) ∧ entryFor table id = some B ∧ (∀ i t x, argsOk id ⟨[.int i t, .ref x], []⟩) ∧
  ∀ (prog : Program) (w : World) (s : Shared) (C x dx : Addr) (i : Int) (t : Tok), s.heap.get? x = some (PySem.W.instObj C dx) → ∀ (A : Around) (E : Value → Shared → Prop) (Q : Fin → Shared → Prop), Q (.done (.ret .notImplemented)) s → wpAny (model prog w) A (B ⟨[.int i t, .ref x], []⟩) Q E s
theorem decl_add : Declines .Add := ⟨_, _, F.fills_int_add, ⟨⟨F.slot_int_add⟩⟩, F.entry_int_add, fun _ _ _ => F.args_int_add_2 _ _, fun _ _ _ _ _ _ _ _ hx A E Q h => PySem.W.dl_decAdd hx A E Q h⟩
theorem decl_sub : Declines .Sub := ⟨_, _, F.fills_int_sub, ⟨⟨F.slot_int_sub⟩⟩, F.entry_int_sub, fun _ _ _ => F.args_int_sub_2 _ _, fun _ _ _ _ _ _ _ _ hx A E Q h => PySem.W.dl_decSub hx A E Q h⟩
theorem decl_mul : Declines .Mult := ⟨_, _, F.fills_int_mul, ⟨⟨F.slot_int_mul⟩⟩, F.entry_int_mul, fun _ _ _ => F.args_int_mul_2 _ _, fun _ _ _ _ _ _ _ _ hx A E Q h => PySem.W.dl_decMul hx A E Q h⟩
theorem pe_ownIL (d : Declines op) (w2 : Own2R X.K C g op) (F : FnOk X.prog X.w X.K X.mg X.base CX k g fd ps sp) (hr : Room k X.A) (hb : Binds X.K fd ps []) (hx : ∀ σ, PassesAt CX X σ (E σ)) (ha : PE X a ta) (hb' : PE X b tb) : PE X (.BinOp a op b pos) (tOwnIL C sp E ta tb) := by
  refine ⟨fun pins s σ H Q I h => ?_⟩
  refine wpAny_BinOp (bin ha hb' I h fun v u s2 x y H2 I2 rx ry q => ?_)
  obtain ⟨p, dx, fs, i, rfl, rfl, h1, hsp⟩ := q
  cases ry
  obtain ⟨t, rfl⟩ := rx
  obtain ⟨ho, od, J⟩ := Inv.inst I2 h1
  obtain ⟨m, hF⟩ := I2.fr
  obtain ⟨id, B, d1, ⟨⟨d2⟩⟩, d3, d4, d5⟩ := d
  obtain ⟨f0, hs⟩ := w2.s
  refine PySem.W.dl_binR hF I2.ok.mod.kin J w2.fst hs w2.r w2.fn w2.sub d1 d2 d3 (d4 _ _ _) (d5 X.prog X.w s2 C p dx i t ho) (wpAny_mono (run_fnSD (us := [.ref p, .int i t]) (vs := [.ref p, .int i]) F hr hb .nil (hx σ) I2 (.cons rfl (.cons ⟨t, rfl⟩ .nil)) hsp) (fun _ _ h => EP.back h) fun _ _ h => h)

def isIns (k : Nat) : D → Bool
  | .ins k' _ => k' == k
  | _ => false
def isInt : D → Bool
  | .int _ => true
  | _ => false
def fOwn2 (p1 p2 : D → Bool) (sw : Bool) (m : Fn) (fa fb : FE) : FE := fun e => (fa e).bind fun r => (fb r.2).bind fun q => match lookT r.1.seal q.2, lookT q.1.seal q.2 with
  | some d1, some d2 => if p1 d1 && p2 d2 then (Res.of (escN [] (if sw then [q.1.seal, r.1.seal] else [r.1.seal, q.1.seal]) q.2)).bind fun q => callM [] m q.1 q.2 else .stuck
  | _, _ => .stuck
theorem isIns_eq {d : D} (h : isIns k d = true) : ∃ ds, d = .ins k ds := by
  cases d <;> try cases h
  exact ⟨_, by rw [show _ = k from beq_iff_eq.mp h]⟩
theorem isInt_eq {d : D} (h : isInt d = true) : ∃ i, d = .int i := by
  cases d <;> try cases h
  exact ⟨_, rfl⟩
theorem sn_own2 {R : L2.St → V → V → Hp → VK → Prop} {p1 p2 : D → Bool} {sw : Bool} (hR : ∀ σ x y H2 Q F d1 d2, Ex F H2 → View c F H2 d1 x → View c F H2 d2 y → p1 d1 = true → p2 d2 = true → spD c 2 m (if sw then [y, x] else [x, y]) H2 Q (WE W σ) → R σ x y H2 Q)
    (ha : SndE c W ta fa) (hb : SndE c W tb fb) : SndE c W (fun σ H Q => ta σ H fun x H1 => tb σ H1 fun y H2 => R σ x y H2 Q) (fOwn2 p1 p2 sw m fa fb) := fun z σ H F e Q I h => by
  unfold fOwn2 at h
  rw [Wp.bind] at h
  refine ha z σ H F e _ I (h.mono (fun r _ h v H1 F1 x1 I1 t1 => ?_) fun _ _ h => h)
  obtain ⟨F2, x2, J, t2⟩ := t1.seal I1
  rw [Wp.bind] at h
  refine hb z σ H1 F2 _ _ J (h.mono (fun q _ h w H3 F3 x3 I3 t3 => ?_) fun _ _ h => h.mono (x1.trans x2))
  obtain ⟨F4, x4, K, t4⟩ := t3.seal I3
  have t2' : TR c z F4 H3 σ q.2 r.1.seal v := t2.keep (x3.trans x4)
  cases h1 : lookT r.1.seal q.2 with
  | none => rw [h1] at h; exact h.elim
  | some d1 =>
    cases h2 : lookT q.1.seal q.2 with
    | none => rw [h1, h2] at h; exact h.elim
    | some d2 =>
      rw [h1, h2] at h
      dsimp only at h
      split at h
      · rename_i hp
        obtain ⟨hp1, hp2⟩ := Bool.and_eq_true_iff.mp hp
        refine hR σ v w H3 Q F4 d1 d2 K.fh (t2'.view K h1) (t4.view K h2) hp1 hp2 ?_
        rw [Wp.bind] at h
        obtain ⟨⟨ts, e3⟩, l, g⟩ := Wp.of h
        have xx := (x1.trans x2).trans (x3.trans x4)
        cases sw with
        | false =>
          have t5 : TRs c z F4 H3 σ q.2 [r.1.seal, q.1.seal] [v, w] := ⟨v, [w], rfl, T.seal_seal _, t2', w, [], rfl, T.seal_seal _, t4, rfl⟩
          obtain ⟨G, x5, K2, t6⟩ := t5.escN K l
          have sc := sp_call (n := 2) (m := m) (dvs := []) (dds := []) (W := W) (Q := Q) K2 t6 rfl rfl (g.mono (fun r _ h v H' F' x' I' t' => h v H' F' ((xx.trans x5).trans x') I' t') fun _ _ h => h.mono (xx.trans x5))
          exact sc
        | true =>
          have t5 : TRs c z F4 H3 σ q.2 [q.1.seal, r.1.seal] [w, v] := ⟨w, [v], rfl, T.seal_seal _, t4, v, [], rfl, T.seal_seal _, t2', rfl⟩
          obtain ⟨G, x5, K2, t6⟩ := t5.escN K l
          have sc := sp_call (n := 2) (m := m) (dvs := []) (dds := []) (W := W) (Q := Q) K2 t6 rfl rfl (g.mono (fun r _ h v H' F' x' I' t' => h v H' F' ((xx.trans x5).trans x') I' t') fun _ _ h => h.mono (xx.trans x5))
          exact sc
      · exact h.elim
theorem de_ownLL {i : Nat} (tk : Takes X W) (hK : X.K = c.K) (w2 : Own2 c.K (c.cl i) f op) (F : FnOk X.prog X.w X.K X.mg X.base (L2.CX X.prog X.w) k f fd ps (spD c 2 m)) (hr : Room k X.A) (hb : Binds X.K fd ps []) (ha : DE X c W a ta fa) (hb' : DE X c W b tb fb) :
    DE X c W (.BinOp a op b pos) (tOwnLL (c.cl i) (spD c 2 m) (WE W) ta tb) (fOwn2 (isIns i) (isIns i) false m fa fb) :=
  ⟨pe_ownLL (hK ▸ w2) F hr hb (fun σ => passAt tk σ) ha.pe hb'.pe, sn_own2 (R := fun σ x y H2 Q => ∃ a dx fs b dy gs, x = .ref a ∧ H2 a = some (.ins (c.cl i) dx fs) ∧ y = .ref b ∧ H2 b = some (.ins (c.cl i) dy gs) ∧ spD c 2 m [x, y] H2 Q (WE W σ)) (fun σ x y H2 Q F d1 d2 e v1 v2 h1 h2 hs => by
    obtain ⟨ds, rfl⟩ := isIns_eq h1
    obtain ⟨es, rfl⟩ := isIns_eq h2
    obtain ⟨p, dx, vs, rfl, g1, _⟩ := v1.ins e
    obtain ⟨q, dy, ws, rfl, g2, _⟩ := v2.ins e
    exact ⟨p, dx, _, q, dy, _, rfl, g1, rfl, g2, hs⟩) ha.sn hb'.sn⟩
theorem de_ownLI {i : Nat} (tk : Takes X W) (hK : X.K = c.K) (w2 : Own2 c.K (c.cl i) f op) (wi : Own2I c.K (c.cl i) op) (F : FnOk X.prog X.w X.K X.mg X.base (L2.CX X.prog X.w) k f fd ps (spD c 2 m)) (hr : Room k X.A) (hb : Binds X.K fd ps []) (ha : DE X c W a ta fa) (hb' : DE X c W b tb fb) :
    DE X c W (.BinOp a op b pos) (tOwnLI (c.cl i) (spD c 2 m) (WE W) ta tb) (fOwn2 (isIns i) isInt false m fa fb) :=
  ⟨pe_ownLI (hK ▸ w2) (hK ▸ wi) F hr hb (fun σ => passAt tk σ) ha.pe hb'.pe, sn_own2 (R := fun σ x y H2 Q => ∃ a dx fs j, x = .ref a ∧ H2 a = some (.ins (c.cl i) dx fs) ∧ y = .int j ∧ spD c 2 m [x, y] H2 Q (WE W σ)) (fun σ x y H2 Q F d1 d2 e v1 v2 h1 h2 hs => by
    obtain ⟨ds, rfl⟩ := isIns_eq h1
    obtain ⟨j, rfl⟩ := isInt_eq h2
    obtain ⟨p, dx, vs, rfl, g1, _⟩ := v1.ins e
    exact ⟨p, dx, _, j, rfl, g1, v2.int, hs⟩) ha.sn hb'.sn⟩
theorem de_ownIL {i : Nat} (tk : Takes X W) (hK : X.K = c.K) (d : Declines op) (w2 : Own2R c.K (c.cl i) g op) (F : FnOk X.prog X.w X.K X.mg X.base (L2.CX X.prog X.w) k g fd ps (spD c 2 m)) (hr : Room k X.A) (hb : Binds X.K fd ps []) (ha : DE X c W a ta fa) (hb' : DE X c W b tb fb) :
    DE X c W (.BinOp a op b pos) (tOwnIL (c.cl i) (spD c 2 m) (WE W) ta tb) (fOwn2 isInt (isIns i) true m fa fb) :=
  ⟨pe_ownIL d (hK ▸ w2) F hr hb (fun σ => passAt tk σ) ha.pe hb'.pe, sn_own2 (R := fun σ x y H2 Q => ∃ b dy gs j, x = .int j ∧ y = .ref b ∧ H2 b = some (.ins (c.cl i) dy gs) ∧ spD c 2 m [y, x] H2 Q (WE W σ)) (fun σ x y H2 Q F d1 d2 e v1 v2 h1 h2 hs => by
    obtain ⟨j, rfl⟩ := isInt_eq h1
    obtain ⟨ds, rfl⟩ := isIns_eq h2
    obtain ⟨p, dx, vs, rfl, g1, _⟩ := v2.ins e
    exact ⟨p, dx, _, j, v1.int, rfl, g1, hs⟩) ha.sn hb'.sn⟩

/-! ### one operand -/
/-- the method of an operator of one operand -/
def un1 : UnaryOp → Str
  | .USub => "__neg__"
  | .UAdd => "__pos__"
  | .Invert => "__invert__"
  | .Not => "__bool__"
structure Own1 (K : PySem.W.Frag) (C f : Addr) (n : Str) : Prop where
  s : PySem.W.findIn K (.ref C) n = some (some (.ref f))
  fn : PySem.W.isFn K (.ref f) = true
def tOwn1 (C : Addr) (sp : Sp) (E : L2.St → XK) (ta : TE) : TE := fun σ H Q => ta σ H fun x H1 => ∃ a dx fs, x = .ref a ∧ H1 a = some (.ins C dx fs) ∧ sp [x] H1 Q (E σ)
theorem pe_own1 {o : UnaryOp} (ho : o = .USub ∨ o = .Invert) (w1 : Own1 X.K C f (un1 o)) (F : FnOk X.prog X.w X.K X.mg X.base CX k f fd ps sp) (hr : Room k X.A) (hb : Binds X.K fd ps []) (hx : ∀ σ, PassesAt CX X σ (E σ)) (ha : PE X a ta) : PE X (.UnaryOp o a pos) (tOwn1 C sp E ta) := by
  refine ⟨fun pins s σ H Q I h => ?_⟩
  refine PyProof.Rows.UnaryOp_ (thn (ha.run pins s σ H _ I h) fun v s1 ⟨x, H1, I1, r1, p, dx, fs, ex, h1, hsp⟩ => ?_)
  subst ex
  cases r1
  obtain ⟨_, od, J⟩ := Inv.inst I1 h1
  obtain ⟨m, hF⟩ := I1.fr
  have cl := run_fnSD (us := [.ref p]) (vs := [.ref p]) F hr hb .nil (hx σ) I1 (.cons rfl .nil) hsp
  rcases ho with rfl | rfl
  · exact PySem.W.ksp_neg hF I1.ok.mod.kin J w1.s w1.fn cl
  · exact PySem.W.ksp_inv hF I1.ok.mod.kin J w1.s w1.fn cl
def fOwn1 (i : Nat) (m : Fn) (fa : FE) : FE := fun e => (fa e).bind fun r => match lookT r.1.seal r.2 with
  | some d => if isIns i d then (Res.of (escN [] [r.1.seal] r.2)).bind fun q => callM [] m q.1 q.2 else .stuck
  | _ => .stuck
theorem sn_own1 {i : Nat} (ha : SndE c W ta fa) : SndE c W (tOwn1 (c.cl i) (spD c 1 m) (WE W) ta) (fOwn1 i m fa) := fun z σ H F e Q I h => by
  unfold fOwn1 at h
  rw [Wp.bind] at h
  refine ha z σ H F e _ I (h.mono (fun r _ h v H1 F1 x1 I1 t1 => ?_) fun _ _ h => h)
  obtain ⟨F2, x2, J, t2⟩ := t1.seal I1
  cases h1 : lookT r.1.seal r.2 with
  | none => rw [h1] at h; exact h.elim
  | some d =>
    rw [h1] at h
    dsimp only at h
    split at h
    · rename_i hp
      obtain ⟨ds, rfl⟩ := isIns_eq hp
      obtain ⟨p, dx, vs, rfl, g1, _⟩ := (t2.view J h1).ins J.fh
      refine ⟨p, dx, _, rfl, g1, ?_⟩
      rw [Wp.bind] at h
      obtain ⟨⟨ts, e3⟩, l, g⟩ := Wp.of h
      have t5 : TRs c z F2 H1 σ r.2 [r.1.seal] [V.ref p] := ⟨_, [], rfl, T.seal_seal _, t2, rfl⟩
      obtain ⟨G, x5, K2, t6⟩ := t5.escN J l
      have sc := sp_call (n := 1) (m := m) (dvs := []) (dds := []) (W := W) (Q := Q) K2 t6 rfl rfl (g.mono (fun r _ h v H' F' x' I' t' => h v H' F' (((x1.trans x2).trans x5).trans x') I' t') fun _ _ h => h.mono ((x1.trans x2).trans x5))
      exact sc
    · exact h.elim
theorem de_own1 {i : Nat} {o : UnaryOp} (ho : o = .USub ∨ o = .Invert) (tk : Takes X W) (hK : X.K = c.K) (w1 : Own1 c.K (c.cl i) f (un1 o)) (F : FnOk X.prog X.w X.K X.mg X.base (L2.CX X.prog X.w) k f fd ps (spD c 1 m)) (hr : Room k X.A) (hb : Binds X.K fd ps []) (ha : DE X c W a ta fa) :
    DE X c W (.UnaryOp o a pos) (tOwn1 (c.cl i) (spD c 1 m) (WE W) ta) (fOwn1 i m fa) := ⟨pe_own1 ho (hK ▸ w1) F hr hb (fun σ => passAt tk σ) ha.pe, sn_own1 ha.sn⟩
end
end DL

/-! DL, part l: == and != that a class of one's own defines (its != is the built-in one over its ==). -/
namespace PySem.W
open PySem PySem.Calls PyProof.Rows
section
variable {prog : Program} {w : World} {A : Around} {E : Value → Shared → Prop} {s : Shared} {K : Frag} {x C L f : Addr} {h₀ : Heap} {m : Str → Option Value} {ox : Obj} {od : Option Obj} {b tb : Value} {name : Str}
theorem dl_ifBoundB {M : Model} {id : String} {args : List Value} {Q : Option Value → Shared → Prop} (X : K.In s.heap) (I : InstAt s.heap x ox C od) (hs : findIn K (.ref C) name = some (some (.builtin id)))
    (hb : ∀ self, bindSpecial (.builtin id) self = pure (.builtin id, [self]))
    (h : wpAny M A (call (.builtin id) (.ref x :: args)) (fun v => Q (some v)) E s) : wpAny M A (callSpecialIfBound? (.ref x) name args) Q E s := by
  simp only [callSpecialIfBound?, bindSpecialIfBound?]
  refine wpAny_holding (wpAny_bind (wpAny_bind (wpAny_bind (I.type.here ((looks_findIn X hs).here ?_)))))
  refine wpAny_bind (wpAny_askSetting (wpAny_ite ?_))
  have fin : wpAny M A (call (.builtin id) ([.ref x] ++ args) >>= fun v => pure (some v)) Q E s := wpAny_bind (wpAny_mono h (fun v s' h' => wpAny_pure h') fun _ _ h' => h')
  split
  · exact wpAny_bind ((Looks.of_pure (hb _)).here (wpAny_pure (by exact fin)))
  · exact wpAny_tryCatch (wpAny_bind ((Looks.of_pure (hb _)).here (wpAny_pure (by exact fin))))
open Builtin in
theorem dl_ne {Q : Value → Shared → Prop} (hu : A.units < cLine) (hu1 : A.in1.units < cLine) (F : Fr h₀ L s.heap m) (X₀ : K.In h₀) (I : InstAt s.heap x ox C od) (hb : Looks (model prog w) s.heap (typeOf b) tb) (hn : notFirst K C tb = true)
    (hm : mroIn K C (.type "object") = some true) (hs : findIn K (.ref C) "__ne__" = some (some (.builtin "object.__ne__"))) (he : findIn K (.ref C) "__eq__" = some (some (.ref f))) (hf : isFn K (.ref f) = true)
    (h : wpAny (model prog w) A.in1 (call (.ref f) [.ref x, b]) (fun v s' => ∃ k, v = .bool k ∧ Q (.bool (!k)) s') E s) : wpAny (model prog w) A (richCompare .NotEq (.ref x) b) Q E s := by
  have X := X₀.keeps F.keep
  have one : wpAny (model prog w) A (tryCompare (.ref x) (cmpInfo .NotEq).2.1 b) (fun r s' => ∃ v, r = some v ∧ Q v s') E s := by
    unfold tryCompare
    refine wpAny_bind (dl_ifBoundB X I (name := (cmpInfo .NotEq).2.1) hs PySem.F.slot_object_ne.bind ?_)
    refine wpAny_call (codeAny_call_builtin PySem.F.slot_object_ne.plain PySem.F.entry_object_ne (check_slot (i := "object.__ne__") (owner := "object") (n := "__ne__") (by decide +kernel) (by decide +kernel) (I.type.andThen (looks_mroIn X hm)) (PySem.F.args_object_ne_2 _ _) ?_))
    unfold Builtin.«object.__ne__»
    refine wpAny_bind (m := slotArgs "__ne__" 1 _) (wpAny_pure ?_)
    refine wpAny_bind (m := cRoomFor _ _) (wpAny_cRoomFor hu1 ?_)
    refine wpAny_bind (m := callSpecialIfBound? (.ref x) (Str.ofString "__eq__") _) (ifBound_K X I he hf (wpAny_mono h (fun r s' hq => ?_) fun _ _ y => y))
    obtain ⟨k, rfl, hq⟩ := hq
    refine wpAny_bind (m := truthy (.bool k)) (wpAny_truthy_bool ?_)
    exact wpAny_pure (wpAny_pure ⟨_, rfl, hq⟩)
  unfold richCompare
  simp only [oneThing_ref]
  refine wpAny_holding (wpAny_bind (wpAny_cRoomFor hu ?_))
  refine wpAny_bind (I.type.here (wpAny_bind (hb.here ?_)))
  split
  · rename_i q
    have e : subIn K tb (.ref C) = some false := by
      rcases Bool.or_eq_true_iff.mp hn with e | e
      · rw [beq_iff_eq.mp e] at q; simp at q
      · exact beq_iff_eq.mp e
    refine wpAny_bind ((looks_subIn X e).here ?_)
    simp only [Bool.false_eq_true, if_false]
    refine wpAny_bind (wpAny_mono one (fun r s' z => ?_) fun _ _ e => e)
    obtain ⟨v, rfl, hq⟩ := z
    exact wpAny_pure hq
  · refine wpAny_bind (wpAny_pure ?_)
    simp only [Bool.false_eq_true, if_false]
    refine wpAny_bind (wpAny_mono one (fun r s' z => ?_) fun _ _ e => e)
    obtain ⟨v, rfl, hq⟩ := z
    exact wpAny_pure hq
end
end PySem.W

namespace DL
open PySem L2 Evl
section
variable {X : Cx} {c : Ct} {W : WX} {k n j : Nat} {f g C : Addr} {fd : FuncData} {ps : List Str} {m : Fn} {p pos apos : Pos} {a b o : Expr} {ta tb : TE} {fa fb : FE} {sp : Sp} {E : L2.St → XK} {CX : CXT}

/-- the class's own == -/
structure OwnE (K : PySem.W.Frag) (C f : Addr) : Prop where
  s : PySem.W.findIn K (.ref C) "__eq__" = some (some (.ref f))
  fn : PySem.W.isFn K (.ref f) = true
/-- .. and the != that is built in -/
structure OwnN (K : PySem.W.Frag) (C : Addr) : Prop where
  n : PySem.W.findIn K (.ref C) "__ne__" = some (some (.builtin "object.__ne__"))
  m : PySem.W.mroIn K C (.type "object") = some true
/-- what may stand on the right -/
def eqR (tbl : Nat → Bool) (bt : String → Bool) : D → Bool
  | .non => bt "NoneType"
  | .bl _ => bt "bool"
  | .int _ => bt "int"
  | .str _ => bt "str"
  | .lst _ => bt "list"
  | .tup _ => bt "tuple"
  | .rol _ => false
  | .ins k _ => tbl k
def EqROk (c : Ct) (C : Addr) (tbl : Nat → Bool) (bt : String → Bool) : Prop := (∀ T, bt T = true → PySem.W.notFirst c.K C (.type T) = true) ∧ ∀ k, tbl k = true → InsT c.K (c.cl k) ∧ PySem.W.notFirst c.K C (.ref (c.cl k)) = true
theorem eqR_ty {tbl : Nat → Bool} {bt : String → Bool} (ok : EqROk c C tbl bt) {F H : Hp} {d : D} {v : V} (x : Ex F H) (k : View c F H d v) (h : eqR tbl bt d = true) : ∃ t, TyX c.K H v t ∧ PySem.W.notFirst c.K C t = true := by
  cases d with
  | non => rw [k.non]; exact ⟨_, .base .non, ok.1 _ h⟩
  | bl i => rw [k.bl]; exact ⟨_, .base (.bl i), ok.1 _ h⟩
  | int i => rw [k.int]; exact ⟨_, .base (.int i), ok.1 _ h⟩
  | str i => rw [k.str]; exact ⟨_, .base (.str i), ok.1 _ h⟩
  | lst ds => obtain ⟨p, vs, rfl, h1, _⟩ := k.lst x; exact ⟨_, .base (.lst h1), ok.1 _ h⟩
  | tup ds => obtain ⟨p, vs, rfl, h1, _⟩ := k.tup x; exact ⟨_, SqT.tyX h1, ok.1 _ h⟩
  | rol ds => cases h
  | ins j ds =>
    obtain ⟨p, dx, vs, rfl, h1, _⟩ := k.ins x
    obtain ⟨i, h2⟩ := ok.2 j h
    exact ⟨_, .base (.ins h1 i.cl i.ha i.hn i.ht i.hm), h2⟩
/-- an operation of two operands, by the frame's slots -/
def OpS (X : Cx) (f : Value → Value → Sem Value) (r : L2.St → R2) : Prop :=
  ∀ (pins : List (Addr × Obj)) (s : Shared) (σ : L2.St) (H : Hp) (x y : V) (v u : Value) (Q : VK), Inv X pins σ H s → RelV x v → RelV y u → r σ x y H Q →
    wpAny (model X.prog X.w) X.A (f v u) (EP X pins σ Q) X.xe s
def tOpS (r : L2.St → R2) (ta tb : TE) : TE := fun σ H Q => ta σ H fun x H1 => tb σ H1 fun y H2 => r σ x y H2 Q
theorem pe_cmpS {op : CmpOp} {r : L2.St → R2} (ho : OpS X (compareOp op) r) (ha : PE X a ta) (hb : PE X b tb) (hm : behindInMarks op b = false) : PE X (.Compare a [op] [b] pos) (tOpS r ta tb) := by
  refine ⟨fun pins s σ H Q I h => ?_⟩
  exact wpAny_Compare1 (binT ha hb I h fun v u s2 x y H2 I2 rx ry q => ho pins s2 σ H2 x y v u Q I2 rx ry q) hm
theorem pt_cmpS {op : CmpOp} {r : L2.St → R2} (ho : OpS X (compareOp op) r) (ha : PE X a ta) (hb : PE X b tb) (hm : behindInMarks op b = false) : PT X (.Compare a [op] [b] pos) (tTest (tOpS r ta tb)) := by
  refine ⟨fun pins s σ H Q I h => ?_⟩
  refine wpAny_isTrue_Compare1 (thn (ha.run pins s σ H _ I h) fun v s1 ⟨x, H1, I1, r1, q1⟩ => thn (hb.run pins s1 σ H1 _ I1 q1) fun u s2 ⟨y, H2, I2, r2, q2⟩ =>
    thn (ho pins s2 σ H2 x y v u _ I2 r1 r2 q2) fun c s3 ⟨z, H3, I3, r3, k, e, q3⟩ => ?_) hm
  subst e
  cases r3
  exact wpAny_truthy_bool ⟨H3, I3, q3⟩
def rOwnE (K : PySem.W.Frag) (C : Addr) (sp : Sp) (E : L2.St → XK) : L2.St → R2 := fun σ x y H2 Q => ∃ a dx fs t, x = .ref a ∧ H2 a = some (.ins C dx fs) ∧ TyX K H2 y t ∧ PySem.W.notFirst K C t = true ∧ sp [x, y] H2 Q (E σ)
def rOwnN (K : PySem.W.Frag) (C : Addr) (sp : Sp) (E : L2.St → XK) : L2.St → R2 := fun σ x y H2 Q => ∃ a dx fs t, x = .ref a ∧ H2 a = some (.ins C dx fs) ∧ TyX K H2 y t ∧ PySem.W.notFirst K C t = true ∧ sp [x, y] H2 (fun v H3 => ∃ b, v = .bl b ∧ Q (.bl (!b)) H3) (E σ)
theorem ops_ownE (w : OwnE X.K C f) (F : FnOk X.prog X.w X.K X.mg X.base CX k f fd ps sp) (hr : Room k X.A) (hb : Binds X.K fd ps []) (hx : ∀ σ, PassesAt CX X σ (E σ)) : OpS X (compareOp .Eq) (rOwnE X.K C sp E) := by
  intro pins s σ H x y v u Q I rx ry q
  obtain ⟨p, dx, fs, t, rfl, h1, ty, nf, hsp⟩ := q
  cases rx
  obtain ⟨_, od, J⟩ := Inv.inst I h1
  obtain ⟨m, hF⟩ := I.fr
  obtain ⟨P, kit, hP, _⟩ := kit_of I ry ty
  have cl := run_fnSD (us := [.ref p, u]) (vs := [.ref p, y]) F hr hb .nil (hx σ) I (.cons rfl (.cons ry .nil)) hsp
  show wpAny _ _ (compareOp .Eq (.ref p) u) _ _ _
  unfold compareOp
  exact PySem.W.cmp_K hr.units0 hF I.ok.mod.kin J (kit.ty _ _ I.kIn hP) nf w.s w.fn (wpAny_mono cl (fun _ _ h => EP.back h) fun _ _ h => h)
theorem ops_ownN (w : OwnE X.K C f) (wn : OwnN X.K C) (F : FnOk X.prog X.w X.K X.mg X.base CX k f fd ps sp) (hr : Room (k + 1) X.A) (hb : Binds X.K fd ps []) (hx : ∀ σ, PassesAt CX X σ (E σ)) : OpS X (compareOp .NotEq) (rOwnN X.K C sp E) := by
  intro pins s σ H x y v u Q I rx ry q
  obtain ⟨p, dx, fs, t, rfl, h1, ty, nf, hsp⟩ := q
  cases rx
  obtain ⟨_, od, J⟩ := Inv.inst I h1
  obtain ⟨m, hF⟩ := I.fr
  obtain ⟨P, kit, hP, _⟩ := kit_of I ry ty
  have r2 : Vals [V.ref p, y] [Value.ref p, u] := .cons rfl (.cons ry .nil)
  have hl := F.len _ _ _ _ hsp
  show wpAny _ _ (compareOp .NotEq (.ref p) u) _ _ _
  unfold compareOp
  refine PySem.W.dl_ne hr.units0 hr.in1.units0 hF I.ok.mod.kin J (kit.ty _ _ I.kIn hP) nf wn.m wn.n w.s w.fn ?_
  refine wpAny_call (codeAny_mono (F.run X.A.in1 X.stack s H ⟨[.ref p, u], []⟩ [.ref p, u] [.ref p, y] _ (E σ) hr.in1 I.env0.in1 (by
    have := hb s [.ref p, u] I.kIn (by simpa using hl)
    simpa using this) r2 hsp) fun r s' hq => ?_)
  cases r with
  | error e => exact hx σ pins H s e s' I hq
  | ok fl =>
    cases fl with
    | ret u =>
      obtain ⟨v', H', I', rv, b, eb, q'⟩ := I.after hq
      subst eb
      cases rv
      exact ⟨b, rfl, V.bl (!b), H', I', rfl, q'⟩
    | next => exact False.elim hq
    | brk => exact False.elim hq
    | cont => exact False.elim hq
/-- .. on data -/
def fOwnE (i : Nat) (P : D → Bool) (m : Fn) (fa fb : FE) : FE := fOwn2 (isIns i) P false m fa fb
def fOwnN (i : Nat) (P : D → Bool) (m : Fn) (fa fb : FE) : FE := fun e => (fOwn2 (isIns i) P false m fa fb e).bind fun r => match r.1 with
  | .vl (.bl b) => .ok (.vl (.bl (!b)), r.2)
  | _ => .stuck
theorem sn_ownE {i : Nat} {tbl : Nat → Bool} {bt : String → Bool} (ok : EqROk c (c.cl i) tbl bt) (ha : SndE c W ta fa) (hb : SndE c W tb fb) : SndE c W (tOpS (rOwnE c.K (c.cl i) (spD c 2 m) (WE W)) ta tb) (fOwnE i (eqR tbl bt) m fa fb) :=
  sn_own2 (R := fun σ x y H2 Q => rOwnE c.K (c.cl i) (spD c 2 m) (WE W) σ x y H2 Q) (fun σ x y H2 Q F d1 d2 e v1 v2 h1 h2 hs => by
    obtain ⟨ds, rfl⟩ := isIns_eq h1
    obtain ⟨p, dx, vs, rfl, g1, _⟩ := v1.ins e
    obtain ⟨t, ty, nf⟩ := eqR_ty ok e v2 h2
    exact ⟨p, dx, _, t, rfl, g1, ty, nf, hs⟩) ha hb
theorem sn_ownN {i : Nat} {tbl : Nat → Bool} {bt : String → Bool} (ok : EqROk c (c.cl i) tbl bt) (ha : SndE c W ta fa) (hb : SndE c W tb fb) : SndE c W (tOpS (rOwnN c.K (c.cl i) (spD c 2 m) (WE W)) ta tb) (fOwnN i (eqR tbl bt) m fa fb) := fun z σ H F e Q I h => by
  unfold fOwnN at h
  rw [Wp.bind] at h
  exact sn_own2 (R := fun σ x y H2 Q => ∃ a dx fs t, x = .ref a ∧ H2 a = some (.ins (c.cl i) dx fs) ∧ TyX c.K H2 y t ∧ PySem.W.notFirst c.K (c.cl i) t = true ∧ spD c 2 m [x, y] H2 Q (WE W σ)) (fun σ x y H2 Q F d1 d2 e v1 v2 h1 h2 hs => by
    obtain ⟨ds, rfl⟩ := isIns_eq h1
    obtain ⟨p, dx, vs, rfl, g1, _⟩ := v1.ins e
    obtain ⟨t, ty, nf⟩ := eqR_ty ok e v2 h2
    exact ⟨p, dx, _, t, rfl, g1, ty, nf, hs⟩) ha hb z σ H F e (fun v H3 => ∃ b, v = .bl b ∧ Q (.bl (!b)) H3) I (h.mono (fun r _ h v H' F' x' I' t' => by
      obtain ⟨t, e1⟩ := r
      dsimp only at h
      split at h
      · rename_i b q
        exact ⟨b, t', h _ H' F' x' I' rfl⟩
      · exact h.elim) fun _ _ h => h)
theorem de_ownE {i : Nat} {tbl : Nat → Bool} {bt : String → Bool} (tk : Takes X W) (hK : X.K = c.K) (w : OwnE c.K (c.cl i) f) (ok : EqROk c (c.cl i) tbl bt) (F : FnOk X.prog X.w X.K X.mg X.base (L2.CX X.prog X.w) k f fd ps (spD c 2 m)) (hr : Room k X.A) (hb : Binds X.K fd ps []) (ha : DE X c W a ta fa) (hb' : DE X c W b tb fb) (hm : behindInMarks .Eq b = false := by rfl) :
    DE X c W (.Compare a [.Eq] [b] pos) (tOpS (rOwnE c.K (c.cl i) (spD c 2 m) (WE W)) ta tb) (fOwnE i (eqR tbl bt) m fa fb) :=
  ⟨pe_cmpS (hK ▸ ops_ownE (hK ▸ w) F hr hb fun σ => passAt tk σ) ha.pe hb'.pe hm, sn_ownE ok ha.sn hb'.sn⟩
theorem dt_ownE {i : Nat} {tbl : Nat → Bool} {bt : String → Bool} (tk : Takes X W) (hK : X.K = c.K) (w : OwnE c.K (c.cl i) f) (ok : EqROk c (c.cl i) tbl bt) (F : FnOk X.prog X.w X.K X.mg X.base (L2.CX X.prog X.w) k f fd ps (spD c 2 m)) (hr : Room k X.A) (hb : Binds X.K fd ps []) (ha : DE X c W a ta fa) (hb' : DE X c W b tb fb) (hm : behindInMarks .Eq b = false := by rfl) :
    DT X c W (.Compare a [.Eq] [b] pos) (tTest (tOpS (rOwnE c.K (c.cl i) (spD c 2 m) (WE W)) ta tb)) (fB (fOwnE i (eqR tbl bt) m fa fb)) :=
  ⟨pt_cmpS (hK ▸ ops_ownE (hK ▸ w) F hr hb fun σ => passAt tk σ) ha.pe hb'.pe hm, sn_B (fun _ _ _ h => h) (sn_ownE ok ha.sn hb'.sn)⟩
theorem de_ownN {i : Nat} {tbl : Nat → Bool} {bt : String → Bool} (tk : Takes X W) (hK : X.K = c.K) (w : OwnE c.K (c.cl i) f) (wn : OwnN c.K (c.cl i)) (ok : EqROk c (c.cl i) tbl bt) (F : FnOk X.prog X.w X.K X.mg X.base (L2.CX X.prog X.w) k f fd ps (spD c 2 m)) (hr : Room (k + 1) X.A) (hb : Binds X.K fd ps []) (ha : DE X c W a ta fa) (hb' : DE X c W b tb fb) (hm : behindInMarks .NotEq b = false := by rfl) :
    DE X c W (.Compare a [.NotEq] [b] pos) (tOpS (rOwnN c.K (c.cl i) (spD c 2 m) (WE W)) ta tb) (fOwnN i (eqR tbl bt) m fa fb) :=
  ⟨pe_cmpS (hK ▸ ops_ownN (hK ▸ w) (hK ▸ wn) F hr hb fun σ => passAt tk σ) ha.pe hb'.pe hm, sn_ownN ok ha.sn hb'.sn⟩
theorem dt_ownN {i : Nat} {tbl : Nat → Bool} {bt : String → Bool} (tk : Takes X W) (hK : X.K = c.K) (w : OwnE c.K (c.cl i) f) (wn : OwnN c.K (c.cl i)) (ok : EqROk c (c.cl i) tbl bt) (F : FnOk X.prog X.w X.K X.mg X.base (L2.CX X.prog X.w) k f fd ps (spD c 2 m)) (hr : Room (k + 1) X.A) (hb : Binds X.K fd ps []) (ha : DE X c W a ta fa) (hb' : DE X c W b tb fb) (hm : behindInMarks .NotEq b = false := by rfl) :
    DT X c W (.Compare a [.NotEq] [b] pos) (tTest (tOpS (rOwnN c.K (c.cl i) (spD c 2 m) (WE W)) ta tb)) (fB (fOwnN i (eqR tbl bt) m fa fb)) :=
  ⟨pt_cmpS (hK ▸ ops_ownN (hK ▸ w) (hK ▸ wn) F hr hb fun σ => passAt tk σ) ha.pe hb'.pe hm, sn_B (fun _ _ _ h => h) (sn_ownN ok ha.sn hb'.sn)⟩
end
end DL

/-! DL, part m: a call whose first argument is a new object that the callee may change; short names for the rules. -/
namespace DL
open PySem L2 Evl

section
variable {c : Ct} {z : Zs} {W : WX} {σ σ' : L2.St} {H H' F F' G : Hp} {e e' : DEnv} {p : Addr} {o : HO}
/-! ### an object put aside -/
def hideZ (z : Zs) (p : Addr) (o : HO) : Zs := ⟨upd z.H0 p o, z.F0, fun q => z.Bo q ∧ q ≠ p, z.V0⟩
theorem I2.hide (I : I2 c z σ H F e) (w : H p = some o) (hF : F p = none) (hr : ∀ i, ¬ RootAt σ e i p) : I2 c (hideZ z p o) σ H F e := by
  refine ⟨I.len, I.f0, I.fh, fun q u hq hb => ?_, fun i b h => ?_, I.dist, fun q h => I.bo q h.1, fun q h1 h2 => ?_, I.brv⟩
  · by_cases e : q = p
    · subst e
      have hq' : upd z.H0 q o q = some u := hq
      rw [upd_same] at hq'; cases hq'; exact w
    · have hq' : upd z.H0 p o q = some u := hq
      rw [upd_ne e] at hq'
      exact I.keep q u hq' fun hB => hb ⟨hB, e⟩
  · obtain ⟨v, hv, r⟩ := I.slot i b h
    refine ⟨v, hv, ?_⟩
    cases b with
    | sh d => exact r
    | ow d =>
      obtain ⟨q, rfl, w', h0⟩ := r
      have ne : q ≠ p := fun z => hr i ⟨_, h, rfl, z ▸ hv⟩
      exact ⟨q, rfl, w', by show upd z.H0 p o q = none; rw [upd_ne ne]; exact h0⟩
    | br d =>
      obtain ⟨q, rfl, w', hB⟩ := r
      have ne : q ≠ p := fun z => hr i ⟨_, h, rfl, z ▸ hv⟩
      exact ⟨q, rfl, w', hB, ne⟩
  · by_cases e : q = p
    · subst e; exact hF
    · have h1' : upd z.H0 p o q ≠ none := h1
      rw [upd_ne e] at h1'
      exact I.nf q h1' h2
theorem I2.unhide (I : I2 c (hideZ z p o) σ H F e) (h0 : z.H0 p = none) (hF : z.F0 p = none) : I2 c z σ H F e ∧ H p = some o ∧ F p = none ∧ ∀ i, ¬ RootAt σ e i p := by
  have hp : H p = some o := I.keep p o (by show upd z.H0 p o p = _; rw [upd_same]) fun h => h.2 rfl
  refine ⟨⟨I.len, I.f0, I.fh, fun q u hq hb => ?_, fun i b h => ?_, I.dist, fun q h => ?_, fun q h1 h2 => ?_, I.brv⟩, hp, I.nf p (by show upd z.H0 p o p ≠ none; rw [upd_same]; exact fun z => nomatch z) hF, fun i ⟨b, h1, h2, h3⟩ => ?_⟩
  · have e : q ≠ p := fun z => by rw [z, h0] at hq; cases hq
    exact I.keep q u (by show upd z.H0 p o q = _; rw [upd_ne e]; exact hq) fun h => hb h.1
  · obtain ⟨v, hv, r⟩ := I.slot i b h
    refine ⟨v, hv, ?_⟩
    cases b with
    | sh d => exact r
    | ow d =>
      obtain ⟨q, rfl, w', h1⟩ := r
      have h1' : upd z.H0 p o q = none := h1
      have ne : q ≠ p := fun z => by rw [z, upd_same] at h1'; cases h1'
      rw [upd_ne ne] at h1'
      exact ⟨q, rfl, w', h1'⟩
    | br d => obtain ⟨q, rfl, w', hB⟩ := r; exact ⟨q, rfl, w', hB.1⟩
  · by_cases e : q = p
    · subst e; exact ⟨o, hp⟩
    · exact I.bo q ⟨h, e⟩
  · have e : q ≠ p := fun z => h1 (by rw [z]; exact h0)
    exact I.nf q (by show upd z.H0 p o q ≠ none; rw [upd_ne e]; exact h1) h2
  · obtain ⟨v, hv, r⟩ := I.slot i b h1
    rw [h3] at hv; cases hv
    cases b with
    | sh d => cases h2
    | ow d =>
      obtain ⟨q, e, w', h1⟩ := r
      cases e
      have h1' : upd z.H0 p o p = none := h1
      rw [upd_same] at h1'; cases h1'
    | br d => obtain ⟨q, e, w', hB⟩ := r; cases e; exact hB.2 rfl

def dropG (r : Res (T × DEnv)) : Res (T × DEnv) := match r with
  | .stuck => .stuck
  | .exc x e => .exc x e.dropLast
  | .ok (.sl _, _) => .stuck
  | .ok (.vl d, e) => .ok (.vl d, e.dropLast)
  | .ok (.nw d, e) => .ok (.nw d, e.dropLast)
/-- f(a new object, ..) -/
def fCallF (ms : List Bool) (dds : List D) (m : Fn) (f1 : FE) (fr : FA) : FE := fun e => (f1 e).bind fun r1 => match r1.1 with
  | .nw d => (fr r1.2).bind fun r => (Res.of (escN ms r.1 r.2)).bind fun q => dropG (callM dds m (.sl q.2.length :: q.1) (q.2 ++ [some (.ow d)]))
  | _ => .stuck
theorem sn_callF {n : Nat} {ms : List Bool} {m : Fn} {dvs : List V} {dds : List D} {t1 : TE} {f1 : FE} {ta : TA} {fa : FA} (hn : ∀ vs : List V, (∃ e r, fa e = .ok r ∧ r.1.length = vs.length) → vs.length + dvs.length + 1 = n) (hd : ∀ F, RpL c F dds dvs) (h1 : SndE c W t1 f1) (ha : SndA c W ta fa) :
    SndE c W (tCallSD (spD c n m) dvs (WE W) (tCons t1 ta)) (fCallF ms dds m f1 fa) := fun z σ H F e Q I h => by
  unfold fCallF at h
  rw [Wp.bind] at h
  refine h1 z σ H F e _ I (h.mono (fun r1 _ g v H1 F1 x1 I1 t1 => ?_) fun _ _ h => h)
  clear h
  obtain ⟨t, e1⟩ := r1
  cases t with
  | sl i => exact g.elim
  | vl d => exact g.elim
  | nw d =>
    obtain ⟨x, rfl, w, h0, hr⟩ := t1
    obtain ⟨o, ho⟩ := w.at
    have hF0 : z.F0 x = none := by
      cases q : z.F0 x with
      | none => rfl
      | some u => have := I1.f0 _ _ q; rw [w.1] at this; cases this
    dsimp only at g
    rw [Wp.bind] at g
    refine ha (hideZ z x o) σ H1 F1 e1 _ (I1.hide ho w.1 hr) (g.mono (fun r hrr g vs H2 F2 x2 K1 t2 => ?_) fun xv e' g cls dd H' F' x' K r => g cls dd H' F' (x1.trans x') (K.unhide h0 hF0).1 r)
    rw [Wp.bind] at g
    obtain ⟨⟨ts, e2⟩, l, g⟩ := Wp.of g
    obtain ⟨G, x3, J, t3⟩ := t2.escN K1 l
    obtain ⟨J0, hp, hG, nr⟩ := J.unhide h0 hF0
    have w2 : Own c G H2 d x := w.mono (x2.trans x3) hG fun u hu => by rw [ho] at hu; cases hu; exact hp
    have J2 := J0.ext w2 h0 nr
    have t3' : TRs c z G H2 σ e2 ts vs := by
      have key : ∀ {ts : List T} {vs : List V}, TRs c (hideZ z x o) G H2 σ e2 ts vs → TRs c z G H2 σ e2 ts vs := by
        intro ts
        induction ts with
        | nil => intro vs h; exact h
        | cons t ts ih =>
          intro vs ⟨v, r, q1, q2, q3, q4⟩
          refine ⟨v, r, q1, q2, ?_, ih q4⟩
          cases t with
          | sl i => exact q3
          | vl d => exact q3
          | nw d => cases q2
      exact key t3
    have t4 : TRs c z G H2 (σ ++ [some (.ref x)]) (e2 ++ [some (.ow d)]) (.sl e2.length :: ts) (.ref x :: vs) :=
      ⟨_, _, rfl, rfl, by show (σ ++ [some (V.ref x)])[e2.length]? = _; rw [J.len]; simp, TRs.ext t3'⟩
    have sc := sp_call (n := n) (m := m) (dvs := dvs) (dds := dds) (W := fun cls dd _ H => W cls dd σ H) (Q := Q) J2 t4 (by
      have := hn vs ⟨_, r, hrr, t2.len⟩
      simp; omega) (hd G) ?_
    · exact sc
    · have hln : ∀ {e' : DEnv} {H' F' : Hp}, I2 c z (σ ++ [some (V.ref x)]) H' F' e' → e'.length = e2.length + 1 := fun {e' H' F'} K => by rw [K.len]; simp [J.len]
      cases hq : callM dds m (.sl e2.length :: ts) (e2 ++ [some (.ow d)]) with
      | stuck => rw [hq] at g; exact g.elim
      | exc xv e' =>
        rw [hq] at g
        intro cls dd H' F' x' K r'
        obtain ⟨e0, b, rfl, l0, ed, _⟩ := drop_last_of (hln K)
        have K0 := K.unext
        have g' : Xp c z W σ F xv (List.dropLast (e0 ++ [b])) := g
        rw [ed] at g'
        exact g' cls dd H' F' (((x1.trans x2).trans x3).trans x') K0 r'
      | ok r' =>
        rw [hq] at g
        obtain ⟨t, e'⟩ := r'
        intro v H' F' x' K t'
        obtain ⟨e0, b, rfl, l0, ed, eg⟩ := drop_last_of (hln K)
        have K0 := K.unext
        cases t with
        | sl i => exact g.elim
        | nw d' =>
          have g' : ∀ v H' F', Ex F F' → I2 c z σ H' F' (List.dropLast (e0 ++ [b])) → TR c z F' H' σ (List.dropLast (e0 ++ [b])) (.nw d') v → Q v H' := g
          rw [ed] at g'
          obtain ⟨q, rfl, w', h0', hn'⟩ := t'
          refine g' _ H' F' (((x1.trans x2).trans x3).trans x') K0 ⟨q, rfl, w', h0', fun i ⟨b', q1, q2, q3⟩ => hn' i ⟨b', ?_, q2, ?_⟩⟩
          · show (e0 ++ [b])[i]? = _
            rw [List.getElem?_append_left (get_lt q1)]; exact q1
          · rw [List.getElem?_append_left (get_lt q3)]; exact q3
        | vl d' =>
          have g' : ∀ v H' F', Ex F F' → I2 c z σ H' F' (List.dropLast (e0 ++ [b])) → TR c z F' H' σ (List.dropLast (e0 ++ [b])) (.vl d') v → Q v H' := g
          rw [ed] at g'
          exact g' v H' F' (((x1.trans x2).trans x3).trans x') K0 t'
end

section
variable {X : Cx} {c : Ct} {W : WX} {k n j : Nat} {f C : Addr} {fd : FuncData} {ps : List Str} {m : Fn} {x y : Str} {p pos apos : Pos} {a b o : Expr} {es : List Expr} {ta tb to : TE} {tr : TA} {fa fb fo : FE} {fr : FA} {dvs : List V} {ds : List Value} {dds : List D} {ms : List Bool} {i : Nat}
theorem de_callF (tk : Takes X W) (F : FnOk X.prog X.w X.K X.mg X.base (CX X.prog X.w) k f fd ps (spD c n m)) (hr : Room k X.A) (hg : Gl X x) (hm : X.mg x = some (.ref f)) (hk : PySem.W.keepIn X.K (.ref f) = true) (hb : Binds X.K fd ps ds) (hd : Vals dvs ds) (hdd : ∀ F, RpL c F dds dvs)
    (hlen : LenA fr j) (hn : j + dvs.length + 1 = n) (h1 : DE X c W a ta fa) (ha : DA X c W es tr fr) (hs : starEach (a :: es) X.env = (false, eval a X.env) :: starEach es X.env := by rfl) (hdb : (x == ("__debug__" : Str)) = false := by decide) (hpl : (backTo pos (starEach es X.env)).any (·.1) = false := by rfl) :
    DE X c W (.Call (.Name x p) (a :: es) [] pos) (tCallSD (spD c n m) dvs (WE W) (tCons ta tr)) (fCallF ms dds m fa fr) :=
  ⟨pe_callSD F hr hg hm hk hb hd (fun σ => passAt tk σ) (pa_cons h1.pe ha.pa hs) hdb hs hpl, sn_callF (fun vs ⟨e, r, q1, q2⟩ => by rw [← q2, hlen e r q1]; exact hn) hdd h1.sn ha.sn⟩

/-! ### short names -/
theorem de_v (i : Nat) {x : Str} {pos : Pos} (hN : X.N[i]? = some x := by rfl) (hv : Vis X.env.scope x := by first | exact Or.inl rfl | exact Or.inr (Or.inl rfl) | exact Or.inr (Or.inr rfl)) (hd : (x == ("__debug__" : Str)) = false := by decide)
    (hcd : (x == ("__classdict__" : Str)) = false := by decide) : DE X c W (.Name x pos) (tVar i) (fVar i) := de_var i (pe_var hN hv hd hcd)
/-- xs.append(e) and kin, xs a name -/
theorem de_app {j : Nat} (ho : PE X o (tVar j)) (hK : X.K = c.K) (ha : DE X c W a ta fa)
    (hbase : attributeBase o "append" X.env (eval o X.env) = eval o X.env := by rfl)
    (hfew : ((backTo pos (starEach [a] X.env)).all (fun x => !x.1) && (backToKw pos (keywordEach [] X.env)).all (fun x => x.1.isSome)
      && decide (([a] : List Expr).length + ([] : List Keyword).length + (if ([] : List Keyword).isEmpty then 0 else 1) < 30)) = true := by rfl)
    (hline : (apos.endLine == pos.line) = true := by rfl) (hs : starEach [a] X.env = (false, eval a X.env) :: starEach [] X.env := by rfl) :
    DE X c W (.Call (.Attribute o "append" apos) [a] [] pos) (tBM c.K "list" rAppend (tVar j) (tCons ta tNil)) (fApp j fa) :=
  ⟨hK ▸ pe_bm PySem.F.plainAttrs_list PySem.F.slot_list_append PySem.F.type_list_append mt_append ho (pa_cons ha.pe pa_nil hs) hbase hfew hline hs, sn_app ha.sn⟩
theorem de_extend {j : Nat} (ho : PE X o (tVar j)) (hK : X.K = c.K) (ha : DE X c W a ta fa)
    (hbase : attributeBase o "extend" X.env (eval o X.env) = eval o X.env := by rfl)
    (hfew : ((backTo pos (starEach [a] X.env)).all (fun x => !x.1) && (backToKw pos (keywordEach [] X.env)).all (fun x => x.1.isSome)
      && decide (([a] : List Expr).length + ([] : List Keyword).length + (if ([] : List Keyword).isEmpty then 0 else 1) < 30)) = true := by rfl)
    (hline : (apos.endLine == pos.line) = true := by rfl) (hs : starEach [a] X.env = (false, eval a X.env) :: starEach [] X.env := by rfl) :
    DE X c W (.Call (.Attribute o "extend" apos) [a] [] pos) (tBM c.K "list" rExtend (tVar j) (tCons ta tNil)) (fExt j fa) :=
  ⟨hK ▸ pe_bm PySem.F.plainAttrs_list PySem.F.slot_list_extend PySem.F.type_list_extend mt_extend ho (pa_cons ha.pe pa_nil hs) hbase hfew hline hs, sn_ext ha.sn⟩
theorem de_pop {j : Nat} (ho : PE X o (tVar j)) (hK : X.K = c.K)
    (hbase : attributeBase o "pop" X.env (eval o X.env) = eval o X.env := by rfl) (hline : (apos.endLine == pos.line) = true := by rfl) :
    DE X c W (.Call (.Attribute o "pop" apos) [] [] pos) (tBM0 c.K "list" rPop (tVar j)) (fPop j) :=
  ⟨hK ▸ pe_bm0 PySem.F.plainAttrs_list PySem.F.slot_list_pop PySem.F.type_list_pop mt_pop ho hbase hline, sn_pop⟩
end
end DL

/-! DL, part n: what a text of facts needs. -/
namespace DL
open PySem L2 Evl
def AllT (K : PySem.W.Frag) (u : Value) : List (String × Bool) → Prop
  | [] => True
  | q :: r => PySem.W.kitOne K (.type q.1) u = some q.2 ∧ AllT K u r
def AllI (c : Ct) (u : Value) : List (Nat × Bool) → Prop
  | [] => True
  | q :: r => (InsT c.K (c.cl q.1) ∧ PySem.W.kitOne c.K (.ref (c.cl q.1)) u = some q.2) ∧ AllI c u r
def lkT (l : List (String × Bool)) (T : String) : Option Bool := l.lookup T
def lkI (l : List (Nat × Bool)) (k : Nat) : Option Bool := l.lookup k
theorem lkT_all {K : PySem.W.Frag} {u : Value} : ∀ {l : List (String × Bool)}, AllT K u l → ∀ T b, lkT l T = some b → PySem.W.kitOne K (.type T) u = some b
  | [], _, T, b, h => by cases h
  | (a, x) :: l, h, T, b, e => by
    unfold lkT at e
    rw [List.lookup_cons] at e
    cases q : T == a with
    | true => rw [q] at e; cases e; rw [beq_iff_eq.mp q]; exact h.1
    | false => rw [q] at e; exact lkT_all h.2 T b e
theorem lkI_all {c : Ct} {u : Value} : ∀ {l : List (Nat × Bool)}, AllI c u l → ∀ k b, lkI l k = some b → InsT c.K (c.cl k) ∧ PySem.W.kitOne c.K (.ref (c.cl k)) u = some b
  | [], _, T, b, h => by cases h
  | (a, x) :: l, h, T, b, e => by
    unfold lkI at e
    rw [List.lookup_cons] at e
    cases q : T == a with
    | true => rw [q] at e; cases e; rw [beq_iff_eq.mp q]; exact h.1
    | false => rw [q] at e; exact lkI_all h.2 T b e
theorem isi_mk {c : Ct} {u : Value} {lT : List (String × Bool)} {lI : List (Nat × Bool)} (h1 : AllT c.K u lT) (h2 : AllI c u lI) : IsiOk c u (lkI lI) (lkT lT) := ⟨fun T b h => lkT_all h1 T b h, fun k b h => lkI_all h2 k b h⟩
/-- what may stand right of an own == -/
def AllE (K : PySem.W.Frag) (C : Addr) : List String → Prop
  | [] => True
  | q :: r => PySem.W.notFirst K C (.type q) = true ∧ AllE K C r
def AllF (c : Ct) (C : Addr) : List Nat → Prop
  | [] => True
  | q :: r => (InsT c.K (c.cl q) ∧ PySem.W.notFirst c.K C (.ref (c.cl q)) = true) ∧ AllF c C r
def inT (l : List String) (T : String) : Bool := l.contains T
def inI (l : List Nat) (k : Nat) : Bool := l.contains k
theorem inT_all {K : PySem.W.Frag} {C : Addr} : ∀ {l : List String}, AllE K C l → ∀ T, T ∈ l → PySem.W.notFirst K C (.type T) = true
  | [], _, T, h => by cases h
  | a :: l, h, T, e => by
    rcases List.mem_cons.mp e with rfl | e
    · exact h.1
    · exact inT_all h.2 T e
theorem inI_all {c : Ct} {C : Addr} : ∀ {l : List Nat}, AllF c C l → ∀ k, k ∈ l → InsT c.K (c.cl k) ∧ PySem.W.notFirst c.K C (.ref (c.cl k)) = true
  | [], _, T, h => by cases h
  | a :: l, h, T, e => by
    rcases List.mem_cons.mp e with rfl | e
    · exact h.1
    · exact inI_all h.2 T e
theorem eqr_mk {c : Ct} {C : Addr} {lT : List String} {lI : List Nat} (h1 : AllE c.K C lT) (h2 : AllF c C lI) : EqROk c C (inI lI) (inT lT) := ⟨fun T h => inT_all h1 T (List.contains_iff_mem.mp h), fun k h => inI_all h2 k (List.contains_iff_mem.mp h)⟩
theorem takes0 {X : Cx} : Takes X W0 := fun u s' ⟨_, _, _, _, _, _, _, _, _, _, _, _, _, _, _, _, w⟩ => w.elim
/-- law's promise: a list of at most 63 ints is handed in, True comes out -/
def spLawD (K : PySem.W.Frag) : Sp := fun vs H Q _ => ∃ (a : Addr) (ns : List Int), vs = [.ref a] ∧ SqL K H a (ns.map V.int) ∧ ns.length ≤ 63 ∧ ∀ H', Q (.bl true) H'
theorem law_fn {P : Program} {w : World} {K : PySem.W.Frag} {mg : Str → Option Value} {base : Heap} {c : Ct} {CX : CXT} {k : Nat} {f : Addr} {fd : FuncData} {ps : List Str} {m : Fn} (hK : c.K = K) (F : FnOk P w K mg base CX k f fd ps (spD c 1 m))
    (hs : ∀ ns : List Int, ns.length ≤ 63 → ∃ q, m [.sh (.rol (ns.map .int))] = .ok (.bl true, false, q)) : FnOk P w K mg base CX k f fd ps (spLawD K) := by
  have key : ∀ vs H Q E, spLawD K vs H Q E → spD c 1 m vs H Q E := fun vs H Q E ⟨a, ns, e, hS, hl, hq⟩ => by
    subst e
    obtain ⟨q, hm⟩ := hs ns hl
    refine ⟨rfl, H, [.sh (.rol (ns.map .int))], Ex.refl H, ⟨rfl, fun i b hb => ?_, fun i j p d d' h1 => ?_⟩, ?_⟩
    · cases i with
      | zero => cases hb; exact ⟨_, rfl, a, ns.map V.int, rfl, hK ▸ hS, RpL.of_ints ns⟩
      | succ i => simp at hb
    · cases i with
      | zero => cases h1
      | succ i => simp at h1
    · rw [hm]
      intro v H' F' _ _ _ _ hd
      have e : v = .bl true := hd
      rw [e]
      exact hq H'
  exact F.imp key
/-- fields of a class by their order -/
def fieldsOf (l : List (List Str)) (k : Nat) : List Str := l.getD k []
def nthA (l : List Addr) (k : Nat) : Addr := l.getD k 0
end DL

/-! DL, part o: slices. -/
namespace DL
open PySem L2 Evl
abbrev FO := DEnv → Res (Option Int × DEnv)
def SndO (c : Ct) (W : WX) (to : TO) (f : FO) : Prop := ∀ (z : Zs) σ H F e (Q : Option Int → Hp → Prop), I2 c z σ H F e →
  Wp (f e) (fun r => ∀ H' F', Ex F F' → I2 c z σ H' F' r.2 → Q r.1 H') (Xp c z W σ F) → to σ H Q
structure DO (X : Cx) (c : Ct) (W : WX) (o : Option Expr) (to : TO) (f : FO) : Prop where
  po : PO X o to
  sn : SndO c W to f
def fNoP : FO := fun e => .ok (none, e)
def fPo (f : FE) : FO := fun e => (f e).bind fun r => match lookT r.1 r.2 with
  | some (.int i) => .ok (some i, r.2)
  | _ => .stuck
section
variable {X : Cx} {c : Ct} {W : WX} {a : Expr} {ta : TE} {fa : FE} {lo hi : Option Expr} {tl th : TO} {fl fh : FO} {pos p2 : Pos}
theorem do_none : DO X c W none tNoPart fNoP := ⟨po_none, fun z σ H F e Q I h => h H F (Ex.refl F) I⟩
theorem do_some (ha : DE X c W a ta fa) : DO X c W (some a) (tPart ta) (fPo fa) := ⟨po_some ha.pe, fun z σ H F e Q I h => by
  unfold fPo at h
  rw [Wp.bind] at h
  refine ha.sn z σ H F e _ I (h.mono (fun r _ h v H1 F1 x1 I1 t1 => ?_) fun _ _ h => h)
  cases hl : lookT r.1 r.2 with
  | none => rw [hl] at h; exact h.elim
  | some d =>
    rw [hl] at h
    cases d <;> first | exact h.elim | skip
    rename_i i
    exact ⟨i, (t1.view I1 hl).int, h H1 F1 x1 I1⟩⟩
def cutD (xs : List D) (lo hi : Option Int) : List D := (xs.drop (HT.sIx xs.length 0 lo)).take (HT.sIx xs.length xs.length hi - HT.sIx xs.length 0 lo)
def opSl (d : D) (lo hi : Option Int) : Option RV := match d with
  | .lst ds => some (.nl (cutD ds lo hi))
  | .rol ds => some (.nl (cutD ds lo hi))
  | .tup ds => if HT.sIx ds.length 0 lo = 0 ∧ HT.sIx ds.length ds.length hi = ds.length then some (.fl (.tup ds)) else some (.nt (cutD ds lo hi))
  | .str z => if z.length ≤ lim then some (.fl (.str (cutS z lo hi))) else none
  | _ => none
theorem RpL.cut {F : Hp} {ds : List D} {vs : List V} (h : RpL c F ds vs) (lo hi : Option Int) : RpL c F (cutD ds lo hi) (cutV vs lo hi) := by
  unfold cutD cutV
  rw [h.len]
  exact (h.drop _).take _
abbrev rSlAll (K : PySem.W.Frag) : V → Option Int → Option Int → Hp → VK → Prop := fun x lo hi H Q => rSlL K x lo hi H Q ∨ (rSlA K x lo hi H Q ∨ rSlS x lo hi H Q)
theorem sl_all : SlR X (rSlAll X.K) := sl_list.or (sl_tupA.or sl_str)
theorem ok_sl {F H : Hp} {d : D} {v : V} {lo hi : Option Int} {rv : RV} {Q : VK} (x : Ex F H) (k : View c F H d v) (l : opSl d lo hi = some rv) (q : rv.Post c F H Q) : rSlAll c.K v lo hi H Q := by
  cases d <;> try cases l
  · rename_i z
    unfold opSl at l
    dsimp only at l
    split at l
    · rename_i h
      cases l
      exact .inr (.inr ⟨z, k.str, lim_ok h, q _ rfl⟩)
    · cases l
  · rename_i ds
    obtain ⟨p, vs, rfl, h1, r⟩ := k.lst x
    exact .inl ⟨p, vs, rfl, sq_of h1, fun p hp => q p _ (r.cut lo hi) hp⟩
  · rename_i ds
    obtain ⟨p, vs, rfl, h1, r⟩ := k.tup x
    unfold opSl at l
    dsimp only at l
    refine .inr (.inl ⟨p, vs, rfl, h1, fun hw => ?_, fun hw p hp => ?_⟩)
    · rw [if_pos (by rw [r.len]; exact hw)] at l
      cases l
      rcases k with k | ⟨_, _, k⟩
      · exact q _ k
      · exact k.2.elim
    · rw [if_neg (by rw [r.len]; exact hw)] at l
      cases l
      exact q p _ (r.cut lo hi) hp
  · rename_i ds
    obtain ⟨p, vs, rfl, h1, r⟩ := k.rol x
    exact .inl ⟨p, vs, rfl, h1, fun p hp => q p _ (r.cut lo hi) hp⟩
def fSl (fa : FE) (fl fh : FO) : FE := fun e => (fa e).bind fun r => (fl r.2).bind fun l => (fh l.2).bind fun h => Res.of ((lookT r.1.seal h.2).bind fun d => (opSl d l.1 h.1).map fun rv => (rv.tok, h.2))
theorem sn_sl (ha : SndE c W ta fa) (hl : SndO c W tl fl) (hh : SndO c W th fh) : SndE c W (tSl (rSlAll c.K) ta tl th) (fSl fa fl fh) := fun z σ H F e Q I h => by
  unfold fSl at h
  rw [Wp.bind] at h
  refine ha z σ H F e _ I (h.mono (fun r _ h v H1 F1 x1 I1 t1 => ?_) fun _ _ h => h)
  obtain ⟨F2, x2, J, t2⟩ := t1.seal I1
  rw [Wp.bind] at h
  refine hl z σ H1 F2 _ _ J (h.mono (fun l _ h H3 F3 x3 I3 => ?_) fun _ _ h => h.mono (x1.trans x2))
  rw [Wp.bind] at h
  refine hh z σ H3 F3 _ _ I3 (h.mono (fun u _ h H4 F4 x4 I4 => ?_) fun _ _ h => h.mono ((x1.trans x2).trans x3))
  obtain ⟨a, ea, h⟩ := Wp.of h
  obtain ⟨d1, l1, ea⟩ := obind ea
  obtain ⟨rv, l3, rfl⟩ := omap ea
  exact ok_sl I4.fh ((t2.keep (H' := H4) (x3.trans x4)).view I4 l1) l3 (RV.post_of I4 fun v' H' F' x' I' t' => h v' H' F' ((((x1.trans x2).trans x3).trans x4).trans x') I' t')
theorem de_sl (hK : X.K = c.K) (ha : DE X c W a ta fa) (hl : DO X c W lo tl fl) (hh : DO X c W hi th fh) : DE X c W (.Subscript a (.Slice lo hi none p2) pos) (tSl (rSlAll c.K) ta tl th) (fSl fa fl fh) := ⟨hK ▸ pe_slice sl_all ha.pe hl.po hh.po, sn_sl ha.sn hl.sn hh.sn⟩
end
section
variable {X : Cx} {c : Ct} {W : WX} {a b o i : Expr} {ti tv : TE} {fi fv : FE} {tr : TA} {fr : FA} {pos tgp : Pos} {j : Nat}
theorem ds_setL (ho : PE X o (tVar j)) (hi : DE X c W i ti fi) (hv : DE X c W a tv fv)
    (ha : ∀ v, assign (.Subscript o i tgp) X.env v = (do
      let ov ← holding [v] (eval o X.env)
      let iv ← holding [v, ov] (eval i X.env)
      standAt tgp
      holding [v, ov, iv] (setItem ov iv v)
      release [v, ov, iv] []) := by intro _; rfl)
    (hs : swapsWithSole [.Subscript o i tgp] a pos.line X.env = pure false := by rfl) (hw : swappedStores [.Subscript o i tgp] a X.env = pure none := by rfl) (h1 : (assignEach [.Subscript o i tgp] X.env).map (·.2) = [assign (.Subscript o i tgp) X.env] := by rfl) :
    DS X c W (.Assign [.Subscript o i tgp] a pos) (tAsg tv (gSub (tVar j) ti rSetL)) (fSetIx j fi fv) := ds_setIx (ps_asg hv.pe (pg_sub ho hi.pe set_list ha) hs hw h1) hi.sn hv.sn
theorem ds_par2 {i j : Nat} {x y : Str} {px py pt : Pos} {kt k2 pt2} (hc : X.calm = true) (hN : X.N.Nodup) (hi : X.N[i]? = some x) (hj : X.N[j]? = some y) (hij : i ≠ j)
    (hx : X.env.scope.names.lookup x = some .local) (hy : X.env.scope.names.lookup y = some .local) (ha : DA X c W [a, b] tr fr)
    (hw : swappedStores [.Tuple [.Name x px, .Name y py] kt pt] (.Tuple [a, b] k2 pt2) X.env = pure (some [x, y]))
    (hs : swapsWithSole [.Tuple [.Name x px, .Name y py] kt pt] (.Tuple [a, b] k2 pt2) pos.line X.env = pure false := by rfl) :
    DS X c W (.Assign [.Tuple [.Name x px, .Name y py] kt pt] (.Tuple [a, b] k2 pt2) pos) (tPar i j tr) (fPar i j fr) := ds_par (ps_par hc hN hi hj hij hx hy ha.pa hw hs) ha
end
theorem u65 {A : Around} {k : Nat} (hr : Room k A) : A.units + 65 < cLine := by have := hr.un; omega
end DL

/-! DL, part s: how functions on data are run by simp. Its first rows are printed by evs.py. -/
namespace DL
open PySem L2 Evl
@[simp ↓] theorem ev_bind {α β : Type} (r : Res α) (f : α → Res β) : r.bind f = (match r with | .stuck => .stuck | .ok a => f a | .exc x e => .exc x e) := rfl
@[simp ↓] theorem ev_obind {α β : Type} (r : Option α) (f : α → Option β) : r.bind f = (match r with | none => none | some a => f a) := by cases r <;> rfl
@[simp ↓] theorem ev_omap {α β : Type} (r : Option α) (f : α → β) : r.map f = (match r with | none => none | some a => some (f a)) := by cases r <;> rfl
@[simp] theorem Res.of_some {α : Type} {a : α} : Res.of (some a) = .ok a := rfl
@[simp] theorem Res.of_none {α : Type} : Res.of (none : Option α) = .stuck := rfl
@[simp ↓] theorem ev_fVar (i : Nat) (e : DEnv) : fVar i e = (match e[i]? with
  | some (some _) => .ok (.sl i, e)
  | _ => .stuck) := rfl
@[simp ↓] theorem ev_fC (d : D) (e : DEnv) : fC d e = (.ok (.vl d, e)) := rfl
@[simp ↓] theorem ev_fA0 (e : DEnv) : fA0 e = (.ok ([], e)) := rfl
@[simp ↓] theorem ev_fA1 (fa : FE) (fr : FA) (e : DEnv) : fA1 fa fr e = ((fa e).bind fun r => (fr r.2).bind fun q => .ok (r.1.seal :: q.1, q.2)) := rfl
@[simp ↓] theorem ev_fOp2 (op : D → D → Option RV) (fa fb : FE) (e : DEnv) : fOp2 op fa fb e = ((fa e).bind fun r => (fb r.2).bind fun q => Res.of ((lookT r.1.seal q.2).bind fun d1 => (lookT q.1 q.2).bind fun d2 => (op d1 d2).bind fun rv => some (rv.tok, q.2))) := rfl
@[simp ↓] theorem ev_fOp1 (op : D → Option RV) (fa : FE) (e : DEnv) : fOp1 op fa e = ((fa e).bind fun r => Res.of ((lookT r.1 r.2).bind fun d1 => (op d1).bind fun rv => some (rv.tok, r.2))) := rfl
@[simp ↓] theorem ev_fCB (op : List D → Option RV) (fr : FA) (e : DEnv) : fCB op fr e = ((fr e).bind fun r => Res.of ((lookTs r.1 r.2).bind fun ds => (op ds).bind fun rv => some (rv.tok, r.2))) := rfl
@[simp ↓] theorem ev_fB (f : FE) (e : DEnv) : fB f e = ((f e).bind fun r => match lookT r.1 r.2 with
  | some (.bl b) => .ok (b, r.2)
  | _ => .stuck) := rfl
@[simp ↓] theorem ev_fNot (f : FT) (e : DEnv) : fNot f e = ((f e).bind fun r => .ok (!r.1, r.2)) := rfl
@[simp ↓] theorem ev_fAnd (f g : FT) (e : DEnv) : fAnd f g e = ((f e).bind fun r => if r.1 = true then g r.2 else .ok (false, r.2)) := rfl
@[simp ↓] theorem ev_fOr (f g : FT) (e : DEnv) : fOr f g e = ((f e).bind fun r => if r.1 = true then .ok (true, r.2) else g r.2) := rfl
@[simp ↓] theorem ev_fNotV (f : FE) (e : DEnv) : fNotV f e = ((fB f e).bind fun r => .ok (.vl (.bl (!r.1)), r.2)) := rfl
@[simp ↓] theorem ev_fAndV (f g : FE) (e : DEnv) : fAndV f g e = ((fB f e).bind fun r => if r.1 = true then g r.2 else .ok (.vl (.bl false), r.2)) := rfl
@[simp ↓] theorem ev_fOrV (f g : FE) (e : DEnv) : fOrV f g e = ((fB f e).bind fun r => if r.1 = true then .ok (.vl (.bl true), r.2) else g r.2) := rfl
@[simp ↓] theorem ev_fIf (t : FT) (f g : FE) (e : DEnv) : fIf t f g e = ((t e).bind fun r => if r.1 = true then f r.2 else g r.2) := rfl
@[simp ↓] theorem ev_fLst (fa : FA) (e : DEnv) : fLst fa e = ((fa e).bind fun r => Res.of ((escs r.1 r.2).bind fun q => if q.1.length ≤ lim then some (.nw (.lst q.1), q.2) else none)) := rfl
@[simp ↓] theorem ev_fTup (fa : FA) (e : DEnv) : fTup fa e = ((fa e).bind fun r => Res.of ((escs r.1 r.2).bind fun q => if q.1.length ≤ lim then some (.vl (.tup q.1), q.2) else none)) := rfl
@[simp ↓] theorem ev_fSet (i : Nat) (f : FE) (e : DEnv) : fSet i f e = ((f e).bind fun r => Res.of ((storeT i r.1 r.2).map .nx)) := rfl
@[simp ↓] theorem ev_fNext (e : DEnv) : fNext e = (.ok (.nx e)) := rfl
@[simp ↓] theorem ev_fSeq (f g : FS) (e : DEnv) : fSeq f g e = ((f e).bind fun o => match o with
  | .nx e1 => g e1
  | .rt t e1 => .ok (.rt t e1)
  | .bk e1 => .ok (.bk e1)
  | .ct e1 => .ok (.ct e1)) := rfl
@[simp ↓] theorem ev_fBreak (e : DEnv) : fBreak e = (.ok (.bk e)) := rfl
@[simp ↓] theorem ev_fCont (e : DEnv) : fCont e = (.ok (.ct e)) := rfl
@[simp ↓] theorem ev_fDrop (f : FE) (e : DEnv) : fDrop f e = ((f e).bind fun r => .ok (.nx r.2)) := rfl
@[simp ↓] theorem ev_fRet (f : FE) (e : DEnv) : fRet f e = ((f e).bind fun r => .ok (.rt r.1 r.2)) := rfl
@[simp ↓] theorem ev_fRetN (e : DEnv) : fRetN e = (.ok (.rt (.vl .non) e)) := rfl
@[simp ↓] theorem ev_fIfS (t : FT) (f g : FS) (e : DEnv) : fIfS t f g e = ((t e).bind fun r => if r.1 = true then f r.2 else g r.2) := rfl
@[simp ↓] theorem ev_fAsg (fg : D → DEnv → Option DEnv) (f : FE) (e : DEnv) : fAsg fg f e = ((f e).bind fun r => Res.of ((escape r.1 r.2).bind fun q => (fg q.1 q.2).map .nx)) := rfl
@[simp ↓] theorem ev_fPar (i j : Nat) (fr : FA) (e : DEnv) : fPar i j fr e = ((fr e).bind fun r => Res.of (match r.1 with
  | [t, u] => (escape t r.2).bind fun q => (escape u q.2).bind fun q2 => if i < q2.2.length ∧ j < q2.2.length then some (.nx ((q2.2.set i (some (.sh q.1))).set j (some (.sh q2.1)))) else none
  | _ => none)) := rfl
@[simp ↓] theorem ev_fAug (i : Nat) (op : D → D → Option RV) (f : FE) (e : DEnv) : fAug i op f e = (match e[i]? with
  | some (some (.sh d1)) => (f e).bind fun r => Res.of ((lookT r.1 r.2).bind fun d2 => (op d1 d2).bind fun rv => (storeT i rv.tok r.2).map .nx)
  | _ => .stuck) := rfl
@[simp ↓] theorem ev_fApp (j : Nat) (f : FE) (e : DEnv) : fApp j f e = ((Res.of (rootLst e j)).bind fun _ => (f e).bind fun r => Res.of ((escape r.1 r.2).bind fun q => (rootLst q.2 j).bind fun ds => if ds.length < lim then some (.vl .non, putLst q.2 j (ds ++ [q.1])) else none)) := rfl
@[simp ↓] theorem ev_fPop (j : Nat) (e : DEnv) : fPop j e = (Res.of ((rootLst e j).bind fun ds => (ds[ds.length - 1]?).bind fun d => some (.vl d, putLst e j ds.dropLast))) := rfl
@[simp ↓] theorem ev_fExt (j : Nat) (f : FE) (e : DEnv) : fExt j f e = ((Res.of (rootLst e j)).bind fun _ => (f e).bind fun r => Res.of ((escape r.1 r.2).bind fun q => match q.1 with
  | .lst es => (rootLst q.2 j).bind fun ds => if ds.length + es.length ≤ lim then some (.vl .non, putLst q.2 j (ds ++ es)) else none
  | _ => none)) := rfl
@[simp ↓] theorem ev_fSetIx (j : Nat) (fi fv : FE) (e : DEnv) : fSetIx j fi fv e = ((fv e).bind fun r => (Res.of ((escape r.1 r.2).bind fun q => (rootLst q.2 j).map fun _ => q)).bind fun q => (fi q.2).bind fun s => Res.of ((lookT s.1 s.2).bind fun k => match k with
  | .int k => (rootLst s.2 j).bind fun ds => (ixN ds.length k).map fun n => .nx (putLst s.2 j (ds.set n q.1))
  | _ => none)) := rfl
@[simp ↓] theorem ev_fiL (f : FE) (e : DEnv) : fiL f e = ((f e).bind fun r => Res.of ((escape r.1 r.2).bind fun q => match q.1 with
  | .lst ds => some (ds, q.2)
  | .rol ds => some (ds, q.2)
  | _ => none)) := rfl
@[simp ↓] theorem ev_fiT (f : FE) (e : DEnv) : fiT f e = ((f e).bind fun r => Res.of ((escape r.1 r.2).bind fun q => match q.1 with
  | .tup ds => some (ds, q.2)
  | _ => none)) := rfl
@[simp ↓] theorem ev_fiR1 (fr : FA) (e : DEnv) : fiR1 fr e = ((fr e).bind fun r => Res.of ((lookTs r.1 r.2).bind fun ds => match ds with
  | [.int n] => if ok62 n then some (irange 0 n.toNat, r.2) else none
  | _ => none)) := rfl
@[simp ↓] theorem ev_fiR2 (fr : FA) (e : DEnv) : fiR2 fr e = ((fr e).bind fun r => Res.of ((lookTs r.1 r.2).bind fun ds => match ds with
  | [.int i, .int j] => if ok62 i && ok62 j then some (irange i (j - i).toNat, r.2) else none
  | _ => none)) := rfl
@[simp ↓] theorem ev_fFor (fi : FI) (fg : D → DEnv → Option DEnv) (fb : FS) (e : DEnv) : fFor fi fg fb e = ((fi e).bind fun r => loopF fg fb r.1 r.2) := rfl
@[simp ↓] theorem ev_fLc (fi : FI) (fg : D → DEnv → Option DEnv) (ft : FT) (fe : FE) (vs : List Nat) (e : DEnv) : fLc fi fg ft fe vs e = ((fi e).bind fun r => Res.of (if clearAt r.2 vs then (loopC fg ft fe vs r.1 [] (wipeE (lendE r.2) vs)).map fun q => (.nw (.lst q.1), backE r.2 q.2) else none)) := rfl
@[simp ↓] theorem ev_fYes (e : DEnv) : fYes e = (.ok (true, e)) := rfl
@[simp ↓] theorem ev_fFn (N : Nat) (body : FS) (bs : List B) : fFn N body bs = ((body (env0 N bs)).bind fun o => Res.of (match o with
  | .nx e => fnRet bs (.vl .non) e
  | .rt t e => fnRet bs t e
  | _ => none)) := rfl
@[simp ↓] theorem ev_fCall (ms : List Bool) (dds : List D) (m : Fn) (fa : FA) (e : DEnv) : fCall ms dds m fa e = ((fa e).bind fun r => (Res.of (escN ms r.1 r.2)).bind fun q => callM dds m q.1 q.2) := rfl
@[simp ↓] theorem ev_fFld (ns : List Str) (k : Nat) (f : Str) (fo : FE) (e : DEnv) : fFld ns k f fo e = ((fo e).bind fun r => Res.of ((lookT r.1 r.2).bind fun d => match d with
  | .ins k' ds => if k' = k then (fldOf ns f ds).map fun d => (.vl d, r.2) else none
  | _ => none)) := rfl
@[simp ↓] theorem ev_fPutF (ns : List Str) (k j : Nat) (f : Str) (fv : FE) (e : DEnv) : fPutF ns k j f fv e = ((fv e).bind fun r => Res.of ((escape r.1 r.2).bind fun q => (rootIns k q.2 j).bind fun ds => (putD ns f q.1 ds).bind fun ds' => if ds.length < 900 then some (.nx (putIns k q.2 j ds')) else none)) := rfl
@[simp ↓] theorem ev_fMeth (k : Nat) (ms : List Bool) (dds : List D) (m : Fn) (fo : FE) (fa : FA) (e : DEnv) : fMeth k ms dds m fo fa e = ((fo e).bind fun r0 => match lookT r0.1.seal r0.2 with
  | some (.ins k' _) => if k' = k then (fa r0.2).bind fun r => (Res.of (escN ms (r0.1.seal :: r.1) r.2)).bind fun q => callM dds m q.1 q.2 else .stuck
  | _ => .stuck) := rfl
@[simp ↓] theorem ev_fProp (k : Nat) (m : Fn) (fo : FE) (e : DEnv) : fProp k m fo e = ((fo e).bind fun r0 => match lookT r0.1.seal r0.2 with
  | some (.ins k' _) => if k' = k then (Res.of (escN [false] [r0.1.seal] r0.2)).bind fun q => noExc (callM [] m q.1 q.2) else .stuck
  | _ => .stuck) := rfl
@[simp ↓] theorem ev_fMake (k : Nat) (ms : List Bool) (dds : List D) (m : Fn) (fa : FA) (e : DEnv) : fMake k ms dds m fa e = ((fa e).bind fun r => (Res.of (escN ms r.1 r.2)).bind fun q => match callM dds m (.sl q.2.length :: q.1) (q.2 ++ [some (.ow (.ins k []))]) with
  | .stuck => .stuck
  | .exc x e' => .exc x e'.dropLast
  | .ok (.vl .non, e') => match e'.getLast? with
    | some (some (.ow (.ins k' ds))) => .ok (.nw (.ins k' ds), e'.dropLast)
    | _ => .stuck
  | .ok _ => .stuck) := rfl
@[simp ↓] theorem ev_fIsi (P : D → Option Bool) (fa : FE) (e : DEnv) : fIsi P fa e = ((fa e).bind fun r => Res.of ((lookT r.1 r.2).bind fun d => (P d).map fun b => (.vl (.bl b), r.2))) := rfl
@[simp ↓] theorem ev_fiZip (fr : FA) (e : DEnv) : fiZip fr e = ((fr e).bind fun r => Res.of ((escs r.1 r.2).bind fun q => match q.1 with
  | [.lst xs, .lst ys] => some (izip xs ys, q.2)
  | [.tup xs, .tup ys] => some (izip xs ys, q.2)
  | _ => none)) := rfl
@[simp ↓] theorem ev_fOwn2 (p1 p2 : D → Bool) (sw : Bool) (m : Fn) (fa fb : FE) (e : DEnv) : fOwn2 p1 p2 sw m fa fb e = ((fa e).bind fun r => (fb r.2).bind fun q => match lookT r.1.seal q.2, lookT q.1.seal q.2 with
  | some d1, some d2 => if p1 d1 && p2 d2 then (Res.of (escN [] (if sw then [q.1.seal, r.1.seal] else [r.1.seal, q.1.seal]) q.2)).bind fun q => callM [] m q.1 q.2 else .stuck
  | _, _ => .stuck) := rfl
@[simp ↓] theorem ev_fOwn1 (i : Nat) (m : Fn) (fa : FE) (e : DEnv) : fOwn1 i m fa e = ((fa e).bind fun r => match lookT r.1.seal r.2 with
  | some d => if isIns i d then (Res.of (escN [] [r.1.seal] r.2)).bind fun q => callM [] m q.1 q.2 else .stuck
  | _ => .stuck) := rfl
@[simp ↓] theorem ev_fOwnN (i : Nat) (P : D → Bool) (m : Fn) (fa fb : FE) (e : DEnv) : fOwnN i P m fa fb e = ((fOwn2 (isIns i) P false m fa fb e).bind fun r => match r.1 with
  | .vl (.bl b) => .ok (.vl (.bl (!b)), r.2)
  | _ => .stuck) := rfl
@[simp ↓] theorem ev_fCallF (ms : List Bool) (dds : List D) (m : Fn) (f1 : FE) (fr : FA) (e : DEnv) : fCallF ms dds m f1 fr e = ((f1 e).bind fun r1 => match r1.1 with
  | .nw d => (fr r1.2).bind fun r => (Res.of (escN ms r.1 r.2)).bind fun q => dropG (callM dds m (.sl q.2.length :: q.1) (q.2 ++ [some (.ow d)]))
  | _ => .stuck) := rfl
@[simp ↓] theorem ev_fNoP (e : DEnv) : fNoP e = (.ok (none, e)) := rfl
@[simp ↓] theorem ev_fPo (f : FE) (e : DEnv) : fPo f e = ((f e).bind fun r => match lookT r.1 r.2 with
  | some (.int i) => .ok (some i, r.2)
  | _ => .stuck) := rfl
@[simp ↓] theorem ev_fSl (fa : FE) (fl fh : FO) (e : DEnv) : fSl fa fl fh e = ((fa e).bind fun r => (fl r.2).bind fun l => (fh l.2).bind fun h => Res.of ((lookT r.1.seal h.2).bind fun d => (opSl d l.1 h.1).map fun rv => (rv.tok, h.2))) := rfl
@[simp] theorem ev_lookup {α β : Type} [BEq α] (a k : α) (b : β) (es : List (α × β)) : List.lookup a ((k, b) :: es) = (match a == k with | true => some b | false => List.lookup a es) := rfl
@[simp] theorem ev_lim : lim = 1000000 := rfl
@[simp] theorem ev_absI (i : Int) : opAbs [.int i] = some (.fl (.int (if i < 0 then -i else i))) := rfl
@[simp] theorem ev_intI (i : Int) : opInt [.int i] = some (.fl (.int i)) := rfl
@[simp] theorem ev_addI (i j : Int) : opAdd (.int i) (.int j) = some (.fl (.int (i + j))) := rfl
@[simp] theorem ev_addS (i j : Str) : opAdd (.str i) (.str j) = if i.length + j.length ≤ lim then some (.fl (.str (i ++ j))) else none := rfl
@[simp] theorem ev_addL (i j : List D) : opAdd (.lst i) (.lst j) = if i.length + j.length ≤ lim then some (.nl (i ++ j)) else none := rfl
@[simp] theorem ev_subI (i j : Int) : opSub (.int i) (.int j) = some (.fl (.int (i - j))) := rfl
@[simp] theorem ev_mulI (i j : Int) : opMul (.int i) (.int j) = if mulOk i j then some (.fl (.int (i * j))) else none := rfl
@[simp] theorem ev_divI (i j : Int) : opDiv (.int i) (.int j) = if divOk i j then some (.fl (.int (i.fdiv j))) else none := rfl
@[simp] theorem ev_modI (i j : Int) : opMod (.int i) (.int j) = if modOk i j then some (.fl (.int (i.fmod j))) else none := rfl
@[simp] theorem ev_powI (i j : Int) : opPow (.int i) (.int j) = if powOk i j then some (.fl (.int (i ^ j.toNat))) else none := rfl
@[simp] theorem ev_shlI (i j : Int) : opShl (.int i) (.int j) = if shlOk i j then some (.fl (.int (i * 2 ^ j.toNat))) else none := rfl
@[simp] theorem ev_shrI (i j : Int) : opShr (.int i) (.int j) = if shrOk i j then some (.fl (.int (i / 2 ^ j.toNat))) else none := rfl
@[simp] theorem ev_andI (i j : Int) : opAnd (.int i) (.int j) = some (.fl (.int (Builtin.bitAnd i j))) := rfl
@[simp] theorem ev_orI (i j : Int) : opOr (.int i) (.int j) = some (.fl (.int (Builtin.bitOr i j))) := rfl
@[simp] theorem ev_xorI (i j : Int) : opXor (.int i) (.int j) = some (.fl (.int (Builtin.bitXor i j))) := rfl
@[simp] theorem ev_ltI (i j : Int) : opLt (.int i) (.int j) = some (.fl (.bl (decide (i < j)))) := rfl
@[simp] theorem ev_leI (i j : Int) : opLe (.int i) (.int j) = some (.fl (.bl (decide (i ≤ j)))) := rfl
@[simp] theorem ev_gtI (i j : Int) : opGt (.int i) (.int j) = some (.fl (.bl (decide (j < i)))) := rfl
@[simp] theorem ev_geI (i j : Int) : opGe (.int i) (.int j) = some (.fl (.bl (decide (j ≤ i)))) := rfl
@[simp] theorem ev_negI (i : Int) : opNeg (.int i) = some (.fl (.int (-i))) := rfl
@[simp] theorem ev_invI (i : Int) : opInv (.int i) = some (.fl (.int (Builtin.bitNot i))) := rfl
@[simp] theorem ev_ixL (ds : List D) (i : Int) : opIx (.lst ds) (.int i) = (atI ds i).map .fl := rfl
@[simp] theorem ev_ixR (ds : List D) (i : Int) : opIx (.rol ds) (.int i) = (atI ds i).map .fl := rfl
@[simp] theorem ev_ixT (ds : List D) (i : Int) : opIx (.tup ds) (.int i) = (atI ds i).map .fl := rfl
@[simp] theorem ev_atI {α : Type} (xs : List α) (i : Int) : atI xs i = (ixN xs.length i).bind fun j => xs[j]? := rfl
@[simp] theorem ev_ixN (n : Nat) (i : Int) : ixN n i = if 0 ≤ i then (if i < n then some i.toNat else none) else if -(n : Int) ≤ i then some (i + n).toNat else none := rfl
@[simp] theorem ev_lenL (xs : List D) : opLen [.lst xs] = some (.fl (.int xs.length)) := rfl
@[simp] theorem ev_lenR (xs : List D) : opLen [.rol xs] = some (.fl (.int xs.length)) := rfl
@[simp] theorem ev_lenT (xs : List D) : opLen [.tup xs] = some (.fl (.int xs.length)) := rfl
@[simp] theorem ev_powOk (i j : Int) : powOk i j = (decide (0 ≤ j) && decide (j ≤ 1000000) && decide (i.natAbs < 2 ^ 64)) := rfl
@[simp] theorem ev_rootL1 (e : DEnv) (j : Nat) : rootLst e j = (match e[j]? with
  | some (some (.ow (.lst ds))) => some ds
  | some (some (.br (.lst ds))) => some ds
  | _ => none) := rfl
@[simp] theorem ev_putL (e : DEnv) (j : Nat) (ds : List D) : putLst e j ds = (match e[j]? with
  | some (some b) => e.set j (some (b.re (.lst ds)))
  | _ => e) := rfl
@[simp] theorem ev_rootI (k : Nat) (e : DEnv) (j : Nat) : rootIns k e j = (match e[j]? with
  | some (some (.ow (.ins k' ds))) => if k' = k then some ds else none
  | some (some (.br (.ins k' ds))) => if k' = k then some ds else none
  | _ => none) := rfl
@[simp] theorem ev_putI (k : Nat) (e : DEnv) (j : Nat) (ds : List D) : putIns k e j ds = (match e[j]? with
  | some (some b) => e.set j (some (b.re (.ins k ds)))
  | _ => e) := rfl
@[simp] theorem ev_fOwnE (i : Nat) (P : D → Bool) (m : Fn) (fa fb : FE) (e : DEnv) : fOwnE i P m fa fb e = fOwn2 (isIns i) P false m fa fb e := rfl
@[simp] theorem ev_seal1 (i : Nat) : T.seal (.sl i) = .sl i := rfl
@[simp] theorem ev_seal2 (d : D) : T.seal (.vl d) = .vl d := rfl
@[simp] theorem ev_seal3 (d : D) : T.seal (.nw d) = .vl d := rfl
@[simp] theorem ev_look1 (i : Nat) (e : DEnv) : lookT (.sl i) e = (match e[i]? with | some (some b) => some b.d | _ => none) := rfl
@[simp] theorem ev_look2 (d : D) (e : DEnv) : lookT (.vl d) e = some d := rfl
@[simp] theorem ev_look3 (d : D) (e : DEnv) : lookT (.nw d) e = some d := rfl
@[simp] theorem ev_bd1 (d : D) : B.d (.sh d) = d := rfl
@[simp] theorem ev_bd2 (d : D) : B.d (.ow d) = d := rfl
@[simp] theorem ev_bd3 (d : D) : B.d (.br d) = d := rfl
@[simp] theorem ev_re1 (d x : D) : B.re (.sh d) x = .sh x := rfl
@[simp] theorem ev_re2 (d x : D) : B.re (.ow d) x = .ow x := rfl
@[simp] theorem ev_re3 (d x : D) : B.re (.br d) x = .br x := rfl
@[simp] theorem ev_esc1 (i : Nat) (e : DEnv) : escape (.sl i) e = (match e[i]? with | some (some (.sh d)) => some (d, e) | some (some (.ow d)) => some (d, e.set i (some (.sh d))) | _ => none) := rfl
@[simp] theorem ev_esc2 (d : D) (e : DEnv) : escape (.vl d) e = some (d, e) := rfl
@[simp] theorem ev_esc3 (d : D) (e : DEnv) : escape (.nw d) e = some (d, e) := rfl
@[simp] theorem ev_escs0 (e : DEnv) : escs [] e = some ([], e) := rfl
@[simp] theorem ev_escs1 (t : T) (ts : List T) (e : DEnv) : escs (t :: ts) e = (escape t e).bind fun r => (escs ts r.2).bind fun q => some (r.1 :: q.1, q.2) := rfl
@[simp] theorem ev_lookTs0 (e : DEnv) : lookTs [] e = some [] := rfl
@[simp] theorem ev_lookTs1 (t : T) (ts : List T) (e : DEnv) : lookTs (t :: ts) e = (lookT t e).bind fun d => (lookTs ts e).bind fun ds => some (d :: ds) := rfl
@[simp] theorem ev_tok1 (d : D) : RV.tok (.fl d) = .vl d := rfl
@[simp] theorem ev_tok2 (d : List D) : RV.tok (.nl d) = .nw (.lst d) := rfl
@[simp] theorem ev_tok3 (d : List D) : RV.tok (.nt d) = .vl (.tup d) := rfl
@[simp] theorem ev_store (i : Nat) (t : T) (e : DEnv) : storeT i t e = (if i < e.length then (match t with
  | .vl d => some (e.set i (some (.sh d)))
  | .nw d => some (e.set i (some (.ow d)))
  | .sl j => match e[j]? with
    | some (some (.sh d)) => some (e.set i (some (.sh d)))
    | some (some (.ow d)) => some ((e.set j (some (.sh d))).set i (some (.sh d)))
    | _ => none) else none) := rfl
theorem ev_rangeN (n : Nat) : irange 0 n = (List.range n).map fun (i : Nat) => D.int (i : Int) := by unfold irange; simp
@[simp] theorem ev_loopF0 (fg : D → DEnv → Option DEnv) (fb : FS) (e : DEnv) : loopF fg fb [] e = .ok (.nx e) := rfl
theorem ev_loopF1 (fg : D → DEnv → Option DEnv) (fb : FS) (d : D) (ds : List D) (e : DEnv) : loopF fg fb (d :: ds) e = (Res.of (fg d e)).bind fun e1 => (fb e1).bind fun o => match o with
    | .nx e2 => loopF fg fb ds e2
    | .ct e2 => loopF fg fb ds e2
    | .bk e2 => .ok (.nx e2)
    | .rt t e2 => .ok (.rt t e2) := rfl
@[simp] theorem ev_fgName (i : Nat) (d : D) (e : DEnv) : fgName i d e = if i < e.length then some (e.set i (some (.sh d))) else none := rfl
@[simp] theorem ev_fgNil (e : DEnv) : fgNil [] e = some e := rfl
@[simp] theorem ev_fgTup (n : Nat) (fg : List D → DEnv → Option DEnv) (ds : List D) (e : DEnv) : fgTup n fg (.tup ds) e = if ds.length = n then fg ds e else none := rfl
@[simp] theorem ev_lend0 : lendE [] = [] := rfl
@[simp] theorem ev_lend1 (b : Option B) (e : DEnv) : lendE (b :: e) = lendB b :: lendE e := rfl
@[simp] theorem ev_lendB1 (d : D) : lendB (some (.ow d)) = some (.br d) := rfl
@[simp] theorem ev_lendB2 (d : D) : lendB (some (.sh d)) = some (.sh d) := rfl
@[simp] theorem ev_lendB3 (d : D) : lendB (some (.br d)) = some (.br d) := rfl
@[simp] theorem ev_lendB4 : lendB none = none := rfl
@[simp] theorem ev_back0 (e : DEnv) : backE [] e = [] := rfl
@[simp] theorem ev_back1 (b x : Option B) (e e2 : DEnv) : backE (b :: e) (x :: e2) = backB b x :: backE e e2 := rfl
@[simp] theorem ev_backB1 (d : D) (x : Option B) : backB (some (.sh d)) x = some (.sh d) := rfl
@[simp] theorem ev_backB2 (d d' : D) : backB (some (.ow d)) (some (.br d')) = some (.ow d') := rfl
@[simp] theorem ev_backB3 (d d' : D) : backB (some (.br d)) (some (.br d')) = some (.br d') := rfl
@[simp] theorem ev_backB4 (x : Option B) : backB none x = none := rfl
@[simp] theorem ev_wipe0 (e : DEnv) : wipeE e [] = e := rfl
@[simp] theorem ev_wipe1 (e : DEnv) (v : Nat) (vs : List Nat) : wipeE e (v :: vs) = (wipeE e vs).set v none := rfl
@[simp] theorem ev_loopC0 (fg : D → DEnv → Option DEnv) (ft : FT) (fe : FE) (vs : List Nat) (acc : List D) (e : DEnv) : loopC fg ft fe vs [] acc e = some (acc, e) := rfl
theorem ev_loopC1 (fg : D → DEnv → Option DEnv) (ft : FT) (fe : FE) (vs : List Nat) (d : D) (ds acc : List D) (e : DEnv) : loopC fg ft fe vs (d :: ds) acc e = (if noOw e then (fg d e).bind fun e1 => match ft e1 with
    | .ok (true, e2) => match fe e2 with
      | .ok (t, e3) => (escape t e3).bind fun q => if noOw q.2 && decide (acc.length < lim) then loopC fg ft fe vs ds (acc ++ [q.1]) (wipeE q.2 vs) else none
      | _ => none
    | .ok (false, e2) => if noOw e2 then loopC fg ft fe vs ds acc (wipeE e2 vs) else none
    | _ => none
    else none) := rfl
@[simp] theorem ev_env0 (N : Nat) (bs : List B) : env0 N bs = bs.map some ++ List.replicate (N - bs.length) none := rfl
@[simp] theorem ev_outB0 (e : DEnv) : outB [] e = some [] := rfl
@[simp] theorem ev_outB1 (d : D) (bs : List B) (x : Option B) (e : DEnv) : outB (.sh d :: bs) (x :: e) = (outB bs e).map fun q => .sh d :: q := rfl
@[simp] theorem ev_outB2 (d d' : D) (bs : List B) (e : DEnv) : outB (.br d :: bs) (some (.br d') :: e) = (outB bs e).map fun q => .br d' :: q := rfl
@[simp] theorem ev_fnRet1 (bs : List B) (d : D) (e : DEnv) : fnRet bs (.vl d) e = (outB bs e).bind fun q => some (d, false, q) := rfl
@[simp] theorem ev_fnRet2 (bs : List B) (d : D) (e : DEnv) : fnRet bs (.nw d) e = (outB bs e).bind fun q => some (d, true, q) := rfl
@[simp] theorem ev_fnRet3 (bs : List B) (i : Nat) (e : DEnv) : fnRet bs (.sl i) e = (outB bs e).bind fun q => match e[i]? with
    | some (some (.sh d)) => some (d, false, q)
    | some (some (.ow d)) => some (d, true, q)
    | _ => none := rfl
@[simp] theorem ev_escN0 (ms : List Bool) (e : DEnv) : escN ms [] e = some ([], e) := by cases ms <;> rfl
@[simp] theorem ev_escNf (ms : List Bool) (t : T) (ts : List T) (e : DEnv) : escN (false :: ms) (t :: ts) e = (escape t e).bind fun r => (escN ms ts r.2).map fun q => (.vl r.1 :: q.1, q.2) := rfl
@[simp] theorem ev_escNt (ms : List Bool) (t : T) (ts : List T) (e : DEnv) : escN (true :: ms) (t :: ts) e = (escN ms ts e).map fun q => (t :: q.1, q.2) := rfl
@[simp] theorem ev_escNn (t : T) (ts : List T) (e : DEnv) : escN [] (t :: ts) e = (escape t e).bind fun r => (escN [] ts r.2).map fun q => (.vl r.1 :: q.1, q.2) := rfl
@[simp] theorem ev_argBs0 (e : DEnv) : argBs [] e = some [] := rfl
@[simp] theorem ev_argBs1 (t : T) (ts : List T) (e : DEnv) : argBs (t :: ts) e = (argB t e).bind fun b => (argBs ts e).map fun bs => b :: bs := rfl
@[simp] theorem ev_argB1 (d : D) (e : DEnv) : argB (.vl d) e = some (.sh d) := rfl
@[simp] theorem ev_argB2 (i : Nat) (e : DEnv) : argB (.sl i) e = (match e[i]? with
    | some (some (.sh d)) => some (.sh d)
    | some (some (.ow d)) => some (.br d)
    | some (some (.br d)) => some (.br d)
    | _ => none) := rfl
@[simp] theorem ev_nodup0 : nodupT [] = true := rfl
@[simp] theorem ev_nodup1 (d : D) (ts : List T) : nodupT (.vl d :: ts) = nodupT ts := by show (true && nodupT ts) = nodupT ts; simp
@[simp] theorem ev_nodup2 (i : Nat) (ts : List T) : nodupT (.sl i :: ts) = (!ts.any (isSl i) && nodupT ts) := rfl
@[simp] theorem ev_isSl1 (i j : Nat) : isSl i (.sl j) = (i == j) := rfl
@[simp] theorem ev_isSl2 (i : Nat) (d : D) : isSl i (.vl d) = false := rfl
@[simp] theorem ev_upds0 (bs : List B) : upds [] bs = [] := by cases bs <;> rfl
@[simp] theorem ev_upds1 (j : Nat) (d : D) (ts : List T) (bs : List B) : upds (.sl j :: ts) (.br d :: bs) = (j, d) :: upds ts bs := rfl
@[simp] theorem ev_upds2 (d : D) (b : B) (ts : List T) (bs : List B) : upds (.vl d :: ts) (b :: bs) = upds ts bs := rfl
@[simp] theorem ev_upds3 (j : Nat) (d : D) (ts : List T) (bs : List B) : upds (.sl j :: ts) (.sh d :: bs) = upds ts bs := rfl
@[simp] theorem ev_isBr1 (d : D) : isBr (.br d) = true := rfl
@[simp] theorem ev_isBr2 (d : D) : isBr (.sh d) = false := rfl
@[simp] theorem ev_isBr3 (d : D) : isBr (.ow d) = false := rfl
@[simp] theorem ev_sameB (bs qs : List B) : sameB bs qs = (bs.map isBr == qs.map isBr) := rfl
@[simp] theorem ev_putAll0 (l : List (Nat × D)) (k : Nat) : putAll l k [] = [] := rfl
@[simp] theorem ev_putAll1 (l : List (Nat × D)) (k : Nat) (x : Option B) (r : DEnv) : putAll l k (x :: r) = (match l.lookup k with
    | some d => x.map fun b => b.re d
    | none => x) :: putAll l (k + 1) r := rfl
@[simp ↓] theorem ev_callM (dds : List D) (m : Fn) (ts : List T) (e : DEnv) : callM dds m ts e = ((Res.of (argBs ts e)).bind fun bs => if nodupT ts then (match m (bs ++ dds.map .sh) with
    | .stuck => .stuck
    | .ok r => if sameB (bs ++ dds.map .sh) r.2.2 then .ok (if r.2.1 then .nw r.1 else .vl r.1, putAll (upds ts r.2.2) 0 e) else .stuck
    | .exc x _ => .exc x (dropAll (upds ts bs) 0 e)) else .stuck) := by unfold callM; rfl
@[simp] theorem ev_dropG1 (d : D) (e : DEnv) : dropG (.ok (.vl d, e)) = .ok (.vl d, e.dropLast) := rfl
@[simp] theorem ev_dropG2 (d : D) (e : DEnv) : dropG (.ok (.nw d, e)) = .ok (.nw d, e.dropLast) := rfl
@[simp] theorem ev_noExc (r : T × DEnv) : noExc (.ok r) = .ok r := rfl
@[simp] theorem ev_isIns (k k' : Nat) (ds : List D) : isIns k (.ins k' ds) = (k' == k) := rfl
@[simp] theorem ev_isInt (i : Int) : isInt (.int i) = true := rfl

/-! equality of data -/
mutual
def dGo : Nat → D → Bool
  | _, .non => true
  | _, .bl _ => true
  | _, .int _ => true
  | _, .str s => (PyData.str s).canLay0
  | 0, _ => false
  | n + 1, .lst ds => dGoL n ds
  | n + 1, .rol ds => dGoL n ds
  | n + 1, .tup ds => dGoL n ds
  | _, .ins _ _ => false
def dGoL : Nat → List D → Bool
  | _, [] => true
  | n, d :: ds => dGo n d && dGoL n ds
end
mutual
theorem dGo_ok : ∀ (n : Nat) (d : D), dGo n d = true → (toPy d).canLay0 = true ∧ (toPy d).depth ≤ n
  | _, .non, _ => ⟨rfl, Nat.zero_le _⟩
  | _, .bl _, _ => ⟨rfl, Nat.zero_le _⟩
  | _, .int _, _ => ⟨rfl, Nat.zero_le _⟩
  | n, .str s, h => by cases n <;> exact ⟨h, Nat.zero_le _⟩
  | 0, .lst ds, h => by cases h
  | 0, .rol ds, h => by cases h
  | 0, .tup ds, h => by cases h
  | n + 1, .lst ds, h => by obtain ⟨a, b⟩ := dGoL_ok n ds h; exact ⟨a, Nat.succ_le_succ b⟩
  | n + 1, .rol ds, h => by obtain ⟨a, b⟩ := dGoL_ok n ds h; exact ⟨a, Nat.succ_le_succ b⟩
  | n + 1, .tup ds, h => by obtain ⟨a, b⟩ := dGoL_ok n ds h; exact ⟨a, Nat.succ_le_succ b⟩
  | 0, .ins _ _, h => by cases h
  | n + 1, .ins _ _, h => by cases h
theorem dGoL_ok : ∀ (n : Nat) (ds : List D), dGoL n ds = true → PyData.canLayAll0 (toPyL ds) = true ∧ PyData.depthAll (toPyL ds) ≤ n
  | _, [], _ => ⟨rfl, Nat.zero_le _⟩
  | n, d :: ds, h => by
    have h' : (dGo n d && dGoL n ds) = true := by cases n <;> exact h
    obtain ⟨h1, h2⟩ := Bool.and_eq_true_iff.mp h'
    obtain ⟨a, b⟩ := dGo_ok n d h1
    obtain ⟨a', b'⟩ := dGoL_ok n ds h2
    exact ⟨Bool.and_eq_true_iff.mpr ⟨a, a'⟩, Nat.max_le.mpr ⟨b, b'⟩⟩
end
theorem dOk_go {d : D} (h : dGo 64 d = true) : dOk d = true := by
  obtain ⟨a, b⟩ := dGo_ok 64 d h
  exact Bool.and_eq_true_iff.mpr ⟨a, decide_eq_true b⟩
@[simp] theorem ok_non : dOk .non = true := rfl
@[simp] theorem ok_bl (b : Bool) : dOk (.bl b) = true := rfl
@[simp] theorem ok_i (i : Int) : dOk (.int i) = true := rfl
theorem dGo_ints : ∀ (n : Nat) (ns : List Int), dGoL n (ns.map .int) = true
  | n, [] => by cases n <;> rfl
  | n, i :: ns => by
    show (dGo n (.int i) && dGoL n (ns.map .int)) = true
    rw [dGo_ints n ns]
    cases n <;> rfl
@[simp] theorem ok_ints (ns : List Int) : dOk (.lst (ns.map .int)) = true := dOk_go (dGo_ints 63 ns)
@[simp] theorem ok_intsR (ns : List Int) : dOk (.rol (ns.map .int)) = true := dOk_go (dGo_ints 63 ns)
@[simp] theorem ok_intsT (ns : List Int) : dOk (.tup (ns.map .int)) = true := dOk_go (dGo_ints 63 ns)
def deqL : List D → List D → Bool
  | [], [] => true
  | x :: xs, y :: ys => deq x y && deqL xs ys
  | _, _ => false
theorem deqL_eq : ∀ xs ys : List D, PyData.eqvAll (toPyL xs) (toPyL ys) = deqL xs ys
  | [], [] => by simp [toPyL, PyData.eqvAll, deqL]
  | [], _ :: _ => by simp [toPyL, PyData.eqvAll, deqL]
  | _ :: _, [] => by simp [toPyL, PyData.eqvAll, deqL]
  | x :: xs, y :: ys => by simp [toPyL, PyData.eqvAll, deqL, deqL_eq xs ys, deq]
@[simp] theorem deq_II (i j : Int) : deq (.int i) (.int j) = decide (i = j) := by simp [deq, toPy, PyData.eqv, BEq.beq]
@[simp] theorem deq_BB (i j : Bool) : deq (.bl i) (.bl j) = (i == j) := by simp [deq, toPy, PyData.eqv]
@[simp] theorem deq_SS (i j : Str) : deq (.str i) (.str j) = (i == j) := by simp [deq, toPy, PyData.eqv]
@[simp] theorem deq_NN : deq .non .non = true := by simp [deq, toPy, PyData.eqv]
@[simp] theorem deq_LL (i j : List D) : deq (.lst i) (.lst j) = deqL i j := by simp [deq, toPy, PyData.eqv, deqL_eq]
@[simp] theorem deq_LR (i j : List D) : deq (.lst i) (.rol j) = deqL i j := by simp [deq, toPy, PyData.eqv, deqL_eq]
@[simp] theorem deq_RL (i j : List D) : deq (.rol i) (.lst j) = deqL i j := by simp [deq, toPy, PyData.eqv, deqL_eq]
@[simp] theorem deq_TT (i j : List D) : deq (.tup i) (.tup j) = deqL i j := by simp [deq, toPy, PyData.eqv, deqL_eq]
@[simp] theorem deqL_nil : deqL [] [] = true := rfl
@[simp] theorem deqL_cons (x y : D) (xs ys : List D) : deqL (x :: xs) (y :: ys) = (deq x y && deqL xs ys) := rfl
@[simp] theorem deqL_nc (y : D) (ys : List D) : deqL [] (y :: ys) = false := rfl
@[simp] theorem deqL_cn (y : D) (ys : List D) : deqL (y :: ys) [] = false := rfl
@[simp] theorem ev_opEq (a b : D) : opEq a b = if dOk a && dOk b then some (.fl (.bl (deq a b))) else none := rfl
@[simp] theorem ev_opNe (a b : D) : opNe a b = if dOk a && dOk b then some (.fl (.bl (!deq a b))) else none := rfl
/-! kinds -/
@[simp] theorem ev_isi1 (tbl : Nat → Option Bool) (bt : String → Option Bool) (i : Int) : isiP tbl bt (.int i) = bt "int" := rfl
@[simp] theorem ev_isi2 (tbl : Nat → Option Bool) (bt : String → Option Bool) (i : Str) : isiP tbl bt (.str i) = bt "str" := rfl
@[simp] theorem ev_isi3 (tbl : Nat → Option Bool) (bt : String → Option Bool) (i : Bool) : isiP tbl bt (.bl i) = bt "bool" := rfl
@[simp] theorem ev_isi4 (tbl : Nat → Option Bool) (bt : String → Option Bool) : isiP tbl bt .non = bt "NoneType" := rfl
@[simp] theorem ev_isi5 (tbl : Nat → Option Bool) (bt : String → Option Bool) (i : List D) : isiP tbl bt (.lst i) = bt "list" := rfl
@[simp] theorem ev_isi6 (tbl : Nat → Option Bool) (bt : String → Option Bool) (i : List D) : isiP tbl bt (.tup i) = bt "tuple" := rfl
@[simp] theorem ev_isi7 (tbl : Nat → Option Bool) (bt : String → Option Bool) (k : Nat) (i : List D) : isiP tbl bt (.ins k i) = tbl k := rfl
@[simp] theorem ev_eqr1 (tbl : Nat → Bool) (bt : String → Bool) (i : Int) : eqR tbl bt (.int i) = bt "int" := rfl
@[simp] theorem ev_eqr2 (tbl : Nat → Bool) (bt : String → Bool) (i : Str) : eqR tbl bt (.str i) = bt "str" := rfl
@[simp] theorem ev_eqr4 (tbl : Nat → Bool) (bt : String → Bool) : eqR tbl bt .non = bt "NoneType" := rfl
@[simp] theorem ev_eqr5 (tbl : Nat → Bool) (bt : String → Bool) (i : List D) : eqR tbl bt (.lst i) = bt "list" := rfl
@[simp] theorem ev_eqr6 (tbl : Nat → Bool) (bt : String → Bool) (i : List D) : eqR tbl bt (.tup i) = bt "tuple" := rfl
@[simp] theorem ev_eqr7 (tbl : Nat → Bool) (bt : String → Bool) (k : Nat) (i : List D) : eqR tbl bt (.ins k i) = tbl k := rfl
@[simp] theorem ev_lkT (l : List (String × Bool)) (T : String) : lkT l T = l.lookup T := rfl
@[simp] theorem ev_lkI (l : List (Nat × Bool)) (k : Nat) : lkI l k = l.lookup k := rfl
@[simp] theorem ev_inT (l : List String) (T : String) : inT l T = l.contains T := rfl
@[simp] theorem ev_inI (l : List Nat) (k : Nat) : inI l k = l.contains k := rfl
@[simp] theorem ev_fldOf (ns : List Str) (f : Str) (ds : List D) : fldOf ns f ds = (ns.zip ds).lookup f := rfl
@[simp] theorem ev_izip (xs ys : List D) : izip xs ys = (xs.zip ys).map fun p => .tup [p.1, p.2] := rfl
@[simp] theorem ev_irange0 (lo : Int) : irange lo 0 = [] := rfl
@[simp] theorem ev_ok62 (i : Int) : ok62 i = (decide (-(2 ^ 62) ≤ i) && decide (i < 2 ^ 62)) := rfl
@[simp] theorem ev_noOw (e : DEnv) : noOw e = e.all fun b => match b with
  | some (.ow _) => false
  | _ => true := rfl
@[simp] theorem ev_clearAt (e : DEnv) (vs : List Nat) : clearAt e vs = vs.all fun i => match e[i]? with
  | some (some (.ow _)) => false
  | some (some (.br _)) => false
  | _ => true := rfl
@[simp] theorem ev_fgCons (f : D → DEnv → Option DEnv) (g : List D → DEnv → Option DEnv) (d : D) (ds : List D) (e : DEnv) : fgCons f g (d :: ds) e = (f d e).bind fun e1 => g ds e1 := rfl
@[simp] theorem ev_cutD (xs : List D) (lo hi : Option Int) : cutD xs lo hi = (xs.drop (HT.sIx xs.length 0 lo)).take (HT.sIx xs.length xs.length hi - HT.sIx xs.length 0 lo) := rfl
@[simp] theorem ev_opSlL (ds : List D) (lo hi : Option Int) : opSl (.lst ds) lo hi = some (.nl (cutD ds lo hi)) := rfl
@[simp] theorem ev_opSlR (ds : List D) (lo hi : Option Int) : opSl (.rol ds) lo hi = some (.nl (cutD ds lo hi)) := rfl
@[simp] theorem ev_opSlT (ds : List D) (lo hi : Option Int) : opSl (.tup ds) lo hi = if HT.sIx ds.length 0 lo = 0 ∧ HT.sIx ds.length ds.length hi = ds.length then some (.fl (.tup ds)) else some (.nt (cutD ds lo hi)) := rfl
@[simp] theorem ev_sIx0 (n d : Nat) : HT.sIx n d none = d := rfl
@[simp] theorem ev_sIx1 (n d : Nat) (v : Int) : HT.sIx n d (some v) = if v < 0 then (v + (n : Int)).toNat else min v.toNat n := rfl
end DL

/-! DL, part t: bounds of products; the tape that all laws draw from. -/
namespace DL
open PySem L2 Evl
theorem log2_of_lt {n k : Nat} (h : n < 2 ^ k) (hk : 0 < k) : n.log2 < k := by
  by_cases h0 : n = 0
  · subst h0; simpa using hk
  · exact (Nat.log2_lt h0).mpr h
theorem mulOk_of {i j : Int} (h1 : -(10 ^ 200) ≤ i ∧ i ≤ 10 ^ 200) (h2 : -(10 ^ 200) ≤ j ∧ j ≤ 10 ^ 200) : mulOk i j = true := by
  have a : i.natAbs < 2 ^ 665 := by
    have : (2 : Nat) ^ 665 > 10 ^ 200 := by decide +kernel
    omega
  have b : j.natAbs < 2 ^ 665 := by
    have : (2 : Nat) ^ 665 > 10 ^ 200 := by decide +kernel
    omega
  have a' := log2_of_lt a (by decide)
  have b' := log2_of_lt b (by decide)
  unfold mulOk
  exact decide_eq_true (by omega)
theorem divOk_of {i j : Int} (h : 0 < j) (h2 : j ≤ 10 ^ 200) : divOk i j = true := by
  have b : j.natAbs < 2 ^ 665 := by
    have : (2 : Nat) ^ 665 > 10 ^ 200 := by decide +kernel
    omega
  have b' := log2_of_lt b (by decide)
  unfold divOk
  rw [decide_eq_true (show j ≠ 0 by omega), decide_eq_true (show j.natAbs.log2 < 9000 by omega)]
  rfl
theorem modOk_of {i j : Int} (h : 0 < j) : modOk i j = true := decide_eq_true (show j ≠ 0 by omega)
theorem mul_bound {a b A B : Int} (h1 : -A ≤ a ∧ a ≤ A) (h2 : -B ≤ b ∧ b ≤ B) : -(A * B) ≤ a * b ∧ a * b ≤ A * B := by
  have hA : 0 ≤ A := by omega
  have hB : 0 ≤ B := by omega
  have k1 : (a * b).natAbs ≤ (A * B).natAbs := by
    rw [Int.natAbs_mul, Int.natAbs_mul]
    exact Nat.mul_le_mul (by omega) (by omega)
  have k2 : 0 ≤ A * B := Int.mul_nonneg hA hB
  omega
theorem fn_rt {N : Nat} {body : FS} {bs : List B} {t : T} {e : DEnv} {r : FnR} (h : body (env0 N bs) = .ok (.rt t e)) (k : fnRet bs t e = some r) : fFn N body bs = .ok r := by
  unfold fFn
  rw [h]
  exact congrArg Res.of k
theorem fn_nx {N : Nat} {body : FS} {bs : List B} {e : DEnv} {r : FnR} (h : body (env0 N bs) = .ok (.nx e)) (k : fnRet bs (.vl .non) e = some r) : fFn N body bs = .ok r := by
  unfold fFn
  rw [h]
  exact congrArg Res.of k
theorem seq_nx {f g : FS} {e e' : DEnv} {r : Res Out} (h : f e = .ok (.nx e')) (k : g e' = r) : fSeq f g e = r := by
  unfold fSeq
  rw [h]
  exact k
/-! ### the tape -/
/-- a tape: the cell's rest, the seed -/
abbrev TP (c s : Int) : D := .lst [.int c, .int s]
structure TpOk (c s : Int) : Prop where
  c0 : 0 ≤ c
  s0 : 0 ≤ s
  s1 : s < 10 ^ 12
/-- what _law_pick hands back, and the tape behind it -/
structure PickR (n r c' s' : Int) : Prop where
  lo : 0 ≤ r
  hi : r < n
  tp : TpOk c' s'
/-- a def that picks from a tape -/
def Picks (m : Fn) : Prop := ∀ c s n : Int, TpOk c s → 0 < n → n ≤ 10 ^ 100 → ∃ r c' s', m [.br (TP c s), .sh (.int n)] = .ok (.int r, false, [.br (TP c' s'), .sh (.int n)]) ∧ PickR n r c' s'
end DL

/-! The text by places, what each def does on data. Printed by emit.py. -/
namespace K11
open PySem L2 Evl DL
def top (i : Nat) : Stmt := PySem.Challenge.pw_boardbits_k11_lengths.main.body.getD i (.Pass ⟨0, 0, 0, 0⟩)
abbrev s1 : Stmt := inClass (top 2) 0
abbrev N1 : List Str := ["self", "whole", "rows", "columns"]
abbrev s2 : Stmt := inClass (top 2) 1
abbrev N2 : List Str := ["self"]
abbrev s3 : Stmt := inClass (top 2) 2
abbrev N3 : List Str := ["self"]
abbrev s4 : Stmt := inClass (top 2) 3
abbrev N4 : List Str := ["self"]
abbrev s5 : Stmt := inClass (top 2) 4
abbrev N5 : List Str := ["self", "other"]
abbrev s6 : Stmt := inClass (top 2) 5
abbrev N6 : List Str := ["self", "other"]
abbrev s7 : Stmt := inClass (top 2) 6
abbrev N7 : List Str := ["self", "other"]
abbrev s8 : Stmt := inClass (top 2) 7
abbrev N8 : List Str := ["self", "other"]
abbrev s9 : Stmt := inClass (top 2) 8
abbrev N9 : List Str := ["self", "other"]
abbrev s10 : Stmt := inClass (top 2) 9
abbrev N10 : List Str := ["self"]
abbrev s11 : Stmt := inClass (top 2) 10
abbrev N11 : List Str := ["self", "factor"]
abbrev s12 : Stmt := inClass (top 2) 11
abbrev N12 : List Str := ["self", "factor"]
abbrev s13 : Stmt := inClass (top 2) 12
abbrev N13 : List Str := ["self", "width", "height"]
abbrev s15 : Stmt := top 3
abbrev N15 : List Str := ["first", "second", "sign", "members", "one", "other"]
abbrev s16 : Stmt := top 4
abbrev N16 : List Str := ["value"]
abbrev s17 : Stmt := top 5
abbrev N17 : List Str := []
abbrev s18 : Stmt := top 6
abbrev N18 : List Str := []
abbrev s19 : Stmt := top 8
abbrev N19 : List Str := ["_law_script", "_law_k", "_law_cell"]
abbrev s20 : Stmt := top 9
abbrev N20 : List Str := ["_law_tape_here", "_law_many", "_law_mixed", "_law_digit"]
abbrev s21 : Stmt := top 10
abbrev N21 : List Str := ["_law_tape_here", "_law_found", "_law_k", "_law_size"]
abbrev s22 : Stmt := top 11
abbrev N22 : List Str := ["_law_length", "_law_members_here"]
abbrev s23 : Stmt := top 12
abbrev N23 : List Str := ["_law_one", "_law_other", "_law_first", "_law_second", "_law_plus", "_law_minus", "_law_k", "_law_member"]
abbrev s24 : Stmt := top 13
abbrev N24 : List Str := ["_law_length", "_law_members_here", "_law_number", "_law_more", "_law_less", "_law_times", "_law_member"]
abbrev s25 : Stmt := top 14
abbrev N25 : List Str := ["_law_script", "_law_tape_here", "_law_first", "_law_second", "_law_number", "_law_one", "_law_other", "_law_wide", "_law_high", "_law_due", "_law_member"]
def fnT (k : Nat) : List Str := fieldsOf [["members"]] k
abbrev ct (K : PySem.W.Frag) (cl : Nat → Addr) : Ct := ⟨K, cl, fnT⟩
/-! Length.__init__ -/
abbrev b1 : FS := (fPutF ["members"] 0 0 "members" (fTup (fA1 (fVar 1) (fA1 (fVar 2) (fA1 (fVar 3) fA0)))))
def m1 : Fn := fFn 4 b1
/-! Length.whole -/
abbrev b2 : FS := (fRet (fOp2 opIx (fFld ["members"] 0 "members" (fVar 0)) (fC (.int 0))))
def m2 : Fn := fFn 1 b2
/-! Length.rows -/
abbrev b3 : FS := (fRet (fOp2 opIx (fFld ["members"] 0 "members" (fVar 0)) (fC (.int 1))))
def m3 : Fn := fFn 1 b3
/-! Length.columns -/
abbrev b4 : FS := (fRet (fOp2 opIx (fFld ["members"] 0 "members" (fVar 0)) (fC (.int 2))))
def m4 : Fn := fFn 1 b4
/-! Length.__eq__ -/
abbrev b5 : FS := (fRet (fAndV (fIsi (isiP (lkI [(0, true)]) (lkT [("int", false)])) (fVar 1)) (fOp2 opEq (fFld ["members"] 0 "members" (fVar 0)) (fFld ["members"] 0 "members" (fVar 1)))))
def m5 : Fn := fFn 2 b5
/-! joined -/
def c15_0 : FE := (fOp2 opAdd (fVar 4) (fOp2 opMul (fVar 2) (fVar 5)))
abbrev b15 : FS := (fSeq (fSet 3 (fLc (fiZip (fA1 (fFld ["members"] 0 "members" (fVar 0)) (fA1 (fFld ["members"] 0 "members" (fVar 1)) fA0))) (fgTup 2 (fgCons (fgName 4) (fgCons (fgName 5) fgNil))) fYes c15_0 [4, 5]))
  (fRet (fMake 0 [false, false, false] [] m1 (fA1 (fOp2 opIx (fVar 3) (fC (.int 0))) (fA1 (fOp2 opIx (fVar 3) (fC (.int 1))) (fA1 (fOp2 opIx (fVar 3) (fC (.int 2))) fA0))))))
def m15 : Fn := fFn 6 b15
/-! length_of -/
abbrev b16 : FS := (fRet (fIf (fB (fIsi (isiP (lkI [(0, true)]) (lkT [("int", false)])) (fVar 0))) (fVar 0) (fMake 0 [false, false, false] [] m1 (fA1 (fC (.int 0)) (fA1 (fC (.int 0)) (fA1 (fVar 0) fA0))))))
def m16 : Fn := fFn 1 b16
/-! Length.__add__ -/
abbrev b6 : FS := (fRet (fCall [false, false, false] [] m15 (fA1 (fVar 0) (fA1 (fCall [false] [] m16 (fA1 (fVar 1) fA0)) (fA1 (fC (.int 1)) fA0)))))
def m6 : Fn := fFn 2 b6
/-! Length.__radd__ -/
abbrev b7 : FS := (fRet (fCall [false, false, false] [] m15 (fA1 (fCall [false] [] m16 (fA1 (fVar 1) fA0)) (fA1 (fVar 0) (fA1 (fC (.int 1)) fA0)))))
def m7 : Fn := fFn 2 b7
/-! Length.__sub__ -/
abbrev b8 : FS := (fRet (fCall [false, false, false] [] m15 (fA1 (fVar 0) (fA1 (fCall [false] [] m16 (fA1 (fVar 1) fA0)) (fA1 (fOp1 opNeg (fC (.int 1))) fA0)))))
def m8 : Fn := fFn 2 b8
/-! Length.__rsub__ -/
abbrev b9 : FS := (fRet (fCall [false, false, false] [] m15 (fA1 (fCall [false] [] m16 (fA1 (fVar 1) fA0)) (fA1 (fVar 0) (fA1 (fOp1 opNeg (fC (.int 1))) fA0)))))
def m9 : Fn := fFn 2 b9
/-! Length.__neg__ -/
abbrev b10 : FS := (fRet (fCall [false, false, false] [] m15 (fA1 (fMake 0 [false, false, false] [] m1 (fA1 (fC (.int 0)) (fA1 (fC (.int 0)) (fA1 (fC (.int 0)) fA0)))) (fA1 (fVar 0) (fA1 (fOp1 opNeg (fC (.int 1))) fA0)))))
def m10 : Fn := fFn 1 b10
/-! Length.__mul__ -/
abbrev b11 : FS := (fRet (fMake 0 [false, false, false] [] m1 (fA1 (fOp2 opMul (fOp2 opIx (fFld ["members"] 0 "members" (fVar 0)) (fC (.int 0))) (fVar 1)) (fA1 (fOp2 opMul (fOp2 opIx (fFld ["members"] 0 "members" (fVar 0)) (fC (.int 1))) (fVar 1)) (fA1 (fOp2 opMul (fOp2 opIx (fFld ["members"] 0 "members" (fVar 0)) (fC (.int 2))) (fVar 1)) fA0)))))
def m11 : Fn := fFn 2 b11
/-! Length.__rmul__ -/
abbrev b12 : FS := (fRet (fMake 0 [false, false, false] [] m1 (fA1 (fOp2 opMul (fOp2 opIx (fFld ["members"] 0 "members" (fVar 0)) (fC (.int 0))) (fVar 1)) (fA1 (fOp2 opMul (fOp2 opIx (fFld ["members"] 0 "members" (fVar 0)) (fC (.int 1))) (fVar 1)) (fA1 (fOp2 opMul (fOp2 opIx (fFld ["members"] 0 "members" (fVar 0)) (fC (.int 2))) (fVar 1)) fA0)))))
def m12 : Fn := fFn 2 b12
/-! Length.at -/
abbrev b13 : FS := (fRet (fOp2 opAdd (fOp2 opAdd (fOp2 opMul (fOp2 opMul (fOp2 opIx (fFld ["members"] 0 "members" (fVar 0)) (fC (.int 0))) (fVar 1)) (fVar 2)) (fOp2 opMul (fOp2 opIx (fFld ["members"] 0 "members" (fVar 0)) (fC (.int 1))) (fVar 1))) (fOp2 opIx (fFld ["members"] 0 "members" (fVar 0)) (fC (.int 2)))))
def m13 : Fn := fFn 3 b13
/-! width -/
abbrev b17 : FS := (fRet (fMake 0 [false, false, false] [] m1 (fA1 (fC (.int 0)) (fA1 (fC (.int 1)) (fA1 (fC (.int 0)) fA0)))))
def m17 : Fn := fFn 0 b17
/-! squares -/
abbrev b18 : FS := (fRet (fMake 0 [false, false, false] [] m1 (fA1 (fC (.int 1)) (fA1 (fC (.int 0)) (fA1 (fC (.int 0)) fA0)))))
def m18 : Fn := fFn 0 b18
/-! _law_tape -/
abbrev b19 : FS := (fSeq (fSet 2 (fIf (fB (fOp2 opLt (fVar 1) (fCB opLen (fA1 (fVar 0) fA0)))) (fOp2 opIx (fVar 0) (fVar 1)) (fC (.int 0))))
  (fRet (fLst (fA1 (fCB opAbs (fA1 (fVar 2) fA0)) (fA1 (fOp2 opAdd (fOp2 opMul (fC (.int 7919)) (fVar 1)) (fC (.int 104729))) fA0)))))
def m19 : Fn := fFn 3 b19
/-! _law_pick -/
abbrev q20_0 : FS := (fIfS (fB (fOp2 opGe (fOp2 opIx (fVar 0) (fC (.int 0))) (fOp2 opPow (fC (.int 10)) (fC (.int 18)))))
  (fSeq (fSet 3 (fOp2 opMod (fCB opInt (fA1 (fOp2 opIx (fVar 0) (fC (.int 0))) fA0)) (fVar 1)))
  (fSeq (fSetIx 0 (fC (.int 0)) (fOp2 opDiv (fOp2 opIx (fVar 0) (fC (.int 0))) (fVar 1)))
  (fRet (fVar 3)))) fNext)
abbrev q20_1 : FS := (fSetIx 0 (fC (.int 1)) (fOp2 opMod (fCB opInt (fA1 (fOp2 opAdd (fOp2 opAdd (fOp2 opMul (fOp2 opIx (fVar 0) (fC (.int 1))) (fC (.int 48271))) (fOp2 opMul (fOp2 opIx (fVar 0) (fC (.int 0))) (fC (.int 69621)))) (fC (.int 11))) fA0)) (fC (.int 2147483647))))
abbrev q20_2 : FS := (fSet 2 (fOp2 opMod (fCB opInt (fA1 (fOp2 opAdd (fOp2 opAdd (fOp2 opMul (fOp2 opIx (fVar 0) (fC (.int 1))) (fOp2 opIx (fVar 0) (fC (.int 1)))) (fOp2 opMul (fOp2 opIx (fVar 0) (fC (.int 1))) (fC (.int 40692)))) (fC (.int 7))) fA0)) (fC (.int 2147483399))))
abbrev q20_3 : FS := (fRet (fOp2 opMod (fCB opInt (fA1 (fOp2 opDiv (fVar 2) (fC (.int 64))) fA0)) (fVar 1)))
abbrev k20_3 : FS := q20_3
abbrev k20_2 : FS := fSeq q20_2 k20_3
abbrev k20_1 : FS := fSeq q20_1 k20_2
abbrev k20_0 : FS := fSeq q20_0 k20_1
abbrev b20 : FS := k20_0
def m20 : Fn := fFn 4 b20
/-! _law_members -/
def b21_0 : FS := (fSeq (fSet 3 (fOp2 opIx (fLst (fA1 (fC (.int 3)) (fA1 (fC (.int 10)) (fA1 (fOp2 opPow (fC (.int 10)) (fC (.int 6))) (fA1 (fOp2 opPow (fC (.int 10)) (fC (.int 29))) fA0))))) (fCall [true, false] [] m20 (fA1 (fVar 0) (fA1 (fC (.int 4)) fA0)))))
  (fDrop (fApp 1 (fOp2 opSub (fCall [true, false] [] m20 (fA1 (fVar 0) (fA1 (fOp2 opAdd (fOp2 opMul (fC (.int 2)) (fVar 3)) (fC (.int 1))) fA0))) (fVar 3)))))
abbrev b21 : FS := (fSeq (fSet 1 (fLst fA0))
  (fSeq (fFor (fiR1 (fA1 (fC (.int 3)) fA0)) (fgName 2) b21_0)
  (fRet (fVar 1))))
def m21 : Fn := fFn 4 b21
/-! _law_is -/
abbrev b22 : FS := (fRet (fAndV (fIsi (isiP (lkI [(0, true)]) (lkT [])) (fVar 0)) (fOp2 opEq (fLst (fA1 (fProp 0 m2 (fVar 0)) (fA1 (fProp 0 m3 (fVar 0)) (fA1 (fProp 0 m4 (fVar 0)) fA0)))) (fVar 1))))
def m22 : Fn := fFn 2 b22
/-! _law_sums -/
def c23_0 : FE := (fOp2 opAdd (fOp2 opIx (fVar 2) (fVar 6)) (fOp2 opIx (fVar 3) (fVar 6)))
def c23_1 : FE := (fOp2 opSub (fOp2 opIx (fVar 2) (fVar 6)) (fOp2 opIx (fVar 3) (fVar 6)))
def c23_2 : FE := (fOp1 opNeg (fVar 7))
abbrev b23 : FS := (fSeq (fSet 4 (fLc (fiR1 (fA1 (fC (.int 3)) fA0)) (fgName 6) fYes c23_0 [6]))
  (fSeq (fSet 5 (fLc (fiR1 (fA1 (fC (.int 3)) fA0)) (fgName 6) fYes c23_1 [6]))
  (fRet (fAndV (fCall [false, false] [] m22 (fA1 (fOwn2 (isIns 0) (isIns 0) false m6 (fVar 0) (fVar 1)) (fA1 (fVar 4) fA0))) (fAndV (fCall [false, false] [] m22 (fA1 (fOwn2 (isIns 0) (isIns 0) false m8 (fVar 0) (fVar 1)) (fA1 (fVar 5) fA0))) (fCall [false, false] [] m22 (fA1 (fOwn1 0 m10 (fVar 0)) (fA1 (fLc (fiL (fVar 2)) (fgName 7) fYes c23_2 [7]) fA0))))))))
def m23 : Fn := fFn 8 b23
/-! _law_with -/
def c24_0 : FE := (fOp1 opNeg (fVar 6))
def c24_1 : FE := (fOp2 opMul (fVar 6) (fVar 2))
abbrev q24_0 : FS := (fSet 3 (fOp2 opAdd (fSl (fVar 1) fNoP (fPo (fC (.int 2)))) (fLst (fA1 (fOp2 opAdd (fOp2 opIx (fVar 1) (fC (.int 2))) (fVar 2)) fA0))))
abbrev q24_1 : FS := (fSet 4 (fOp2 opAdd (fSl (fVar 1) fNoP (fPo (fC (.int 2)))) (fLst (fA1 (fOp2 opSub (fOp2 opIx (fVar 1) (fC (.int 2))) (fVar 2)) fA0))))
abbrev q24_2 : FS := (fIfS (fOr (fNot (fB (fCall [false, false] [] m22 (fA1 (fOwn2 (isIns 0) isInt false m6 (fVar 0) (fVar 2)) (fA1 (fVar 3) fA0))))) (fNot (fB (fCall [false, false] [] m22 (fA1 (fOwn2 isInt (isIns 0) true m7 (fVar 2) (fVar 0)) (fA1 (fVar 3) fA0))))))
  (fRet (fC (.bl false))) fNext)
abbrev q24_3 : FS := (fIfS (fOr (fNot (fB (fCall [false, false] [] m22 (fA1 (fOwn2 (isIns 0) isInt false m8 (fVar 0) (fVar 2)) (fA1 (fVar 4) fA0))))) (fNot (fB (fCall [false, false] [] m22 (fA1 (fOwn2 isInt (isIns 0) true m9 (fVar 2) (fVar 0)) (fA1 (fLc (fiL (fVar 4)) (fgName 6) fYes c24_0 [6]) fA0))))))
  (fRet (fC (.bl false))) fNext)
abbrev q24_4 : FS := (fSet 5 (fLc (fiL (fVar 1)) (fgName 6) fYes c24_1 [6]))
abbrev q24_5 : FS := (fRet (fAndV (fCall [false, false] [] m22 (fA1 (fOwn2 (isIns 0) isInt false m11 (fVar 0) (fVar 2)) (fA1 (fVar 5) fA0))) (fCall [false, false] [] m22 (fA1 (fOwn2 isInt (isIns 0) true m12 (fVar 2) (fVar 0)) (fA1 (fVar 5) fA0)))))
abbrev k24_5 : FS := q24_5
abbrev k24_4 : FS := fSeq q24_4 k24_5
abbrev k24_3 : FS := fSeq q24_3 k24_4
abbrev k24_2 : FS := fSeq q24_2 k24_3
abbrev k24_1 : FS := fSeq q24_1 k24_2
abbrev k24_0 : FS := fSeq q24_0 k24_1
abbrev b24 : FS := k24_0
def m24 : Fn := fFn 7 b24
/-! law -/
def c25_0 : FE := (fVar 10)
abbrev q25_0 : FS := (fSet 1 (fCall [false, false] [] m19 (fA1 (fVar 0) (fA1 (fC (.int 0)) fA0))))
abbrev q25_1 : FS := (fSet 2 (fCall [true] [] m21 (fA1 (fVar 1) fA0)))
abbrev q25_2 : FS := (fSet 3 (fCallF [] [] m21 (fCall [false, false] [] m19 (fA1 (fVar 0) (fA1 (fC (.int 1)) fA0))) fA0))
abbrev q25_3 : FS := (fIfS (fB (fOp2 opEq (fCall [true, false] [] m20 (fA1 (fVar 1) (fA1 (fC (.int 3)) fA0))) (fC (.int 1))))
  (fSeq (fSet 3 (fLc (fiL (fVar 2)) (fgName 10) fYes c25_0 [10]))
  (fIfS (fB (fOp2 opEq (fCall [true, false] [] m20 (fA1 (fVar 1) (fA1 (fC (.int 2)) fA0))) (fC (.int 1))))
  (fSetIx 3 (fCall [true, false] [] m20 (fA1 (fVar 1) (fA1 (fC (.int 3)) fA0))) (fC (.int 7))) fNext)) fNext)
abbrev q25_4 : FS := (fSet 4 (fOp2 opIx (fCall [true] [] m21 (fA1 (fVar 1) fA0)) (fC (.int 1))))
abbrev q25_5 : FS := (fSet 5 (fMake 0 [false, false, false] [] m1 (fA1 (fOp2 opIx (fVar 2) (fC (.int 0))) (fA1 (fOp2 opIx (fVar 2) (fC (.int 1))) (fA1 (fOp2 opIx (fVar 2) (fC (.int 2))) fA0)))))
abbrev q25_6 : FS := (fSet 6 (fMake 0 [false, false, false] [] m1 (fA1 (fOp2 opIx (fVar 3) (fC (.int 0))) (fA1 (fOp2 opIx (fVar 3) (fC (.int 1))) (fA1 (fOp2 opIx (fVar 3) (fC (.int 2))) fA0)))))
abbrev q25_7 : FS := (fIfS (fOr (fNot (fB (fCall [false, false, false, false] [] m23 (fA1 (fVar 5) (fA1 (fVar 6) (fA1 (fVar 2) (fA1 (fVar 3) fA0))))))) (fNot (fB (fCall [false, false, false] [] m24 (fA1 (fVar 5) (fA1 (fVar 2) (fA1 (fVar 4) fA0)))))))
  (fRet (fC (.bl false))) fNext)
abbrev q25_8 : FS := (fIfS (fOr (fB (fOp2 opNe (fOwnE 0 (eqR (inI [0]) (inT [])) m5 (fVar 5) (fVar 6)) (fOp2 opEq (fVar 2) (fVar 3)))) (fOr (fB (fOp2 opEq (fOwnN 0 (eqR (inI [0]) (inT [])) m5 (fVar 5) (fVar 6)) (fOp2 opEq (fVar 2) (fVar 3)))) (fB (fOwnE 0 (eqR (inI []) (inT ["int"])) m5 (fVar 5) (fOp2 opIx (fVar 2) (fC (.int 2)))))))
  (fRet (fC (.bl false))) fNext)
abbrev q25_9 : FS := (fSet 7 (fOp2 opAdd (fC (.int 1)) (fCall [true, false] [] m20 (fA1 (fVar 1) (fA1 (fOp2 opIx (fLst (fA1 (fC (.int 9)) (fA1 (fOp2 opPow (fC (.int 10)) (fC (.int 29))) fA0))) (fCall [true, false] [] m20 (fA1 (fVar 1) (fA1 (fC (.int 2)) fA0)))) fA0)))))
abbrev q25_10 : FS := (fSet 8 (fOp2 opAdd (fC (.int 1)) (fCall [true, false] [] m20 (fA1 (fVar 1) (fA1 (fOp2 opIx (fLst (fA1 (fC (.int 9)) (fA1 (fOp2 opPow (fC (.int 10)) (fC (.int 29))) fA0))) (fCall [true, false] [] m20 (fA1 (fVar 1) (fA1 (fC (.int 2)) fA0)))) fA0)))))
abbrev q25_11 : FS := (fSet 9 (fOp2 opAdd (fOp2 opAdd (fOp2 opMul (fOp2 opMul (fOp2 opIx (fVar 2) (fC (.int 0))) (fVar 7)) (fVar 8)) (fOp2 opMul (fOp2 opIx (fVar 2) (fC (.int 1))) (fVar 7))) (fOp2 opIx (fVar 2) (fC (.int 2)))))
abbrev q25_12 : FS := (fIfS (fOr (fB (fOp2 opNe (fMeth 0 [false, false, false] [] m13 (fVar 5) (fA1 (fVar 7) (fA1 (fVar 8) fA0))) (fVar 9))) (fNot (fB (fCall [false, false] [] m22 (fA1 (fVar 5) (fA1 (fVar 2) fA0))))))
  (fRet (fC (.bl false))) fNext)
abbrev q25_13 : FS := (fIfS (fOr (fB (fOp2 opNe (fMeth 0 [false, false, false] [] m13 (fVar 5) (fA1 (fVar 8) (fA1 (fC (.int 3)) fA0))) (fOp2 opAdd (fOp2 opAdd (fOp2 opMul (fOp2 opMul (fOp2 opIx (fVar 2) (fC (.int 0))) (fVar 8)) (fC (.int 3))) (fOp2 opMul (fOp2 opIx (fVar 2) (fC (.int 1))) (fVar 8))) (fOp2 opIx (fVar 2) (fC (.int 2)))))) (fB (fOp2 opNe (fMeth 0 [false, false, false] [] m13 (fVar 5) (fA1 (fVar 7) (fA1 (fVar 8) fA0))) (fVar 9))))
  (fRet (fC (.bl false))) fNext)
abbrev q25_14 : FS := (fRet (fAndV (fCall [false, false] [] m22 (fA1 (fCall [] [] m17 fA0) (fA1 (fLst (fA1 (fC (.int 0)) (fA1 (fC (.int 1)) (fA1 (fC (.int 0)) fA0)))) fA0))) (fAndV (fCall [false, false] [] m22 (fA1 (fCall [] [] m18 fA0) (fA1 (fLst (fA1 (fC (.int 1)) (fA1 (fC (.int 0)) (fA1 (fC (.int 0)) fA0)))) fA0))) (fCall [false, false] [] m22 (fA1 (fVar 6) (fA1 (fVar 3) fA0))))))
abbrev k25_14 : FS := q25_14
abbrev k25_13 : FS := fSeq q25_13 k25_14
abbrev k25_12 : FS := fSeq q25_12 k25_13
abbrev k25_11 : FS := fSeq q25_11 k25_12
abbrev k25_10 : FS := fSeq q25_10 k25_11
abbrev k25_9 : FS := fSeq q25_9 k25_10
abbrev k25_8 : FS := fSeq q25_8 k25_9
abbrev k25_7 : FS := fSeq q25_7 k25_8
abbrev k25_6 : FS := fSeq q25_6 k25_7
abbrev k25_5 : FS := fSeq q25_5 k25_6
abbrev k25_4 : FS := fSeq q25_4 k25_5
abbrev k25_3 : FS := fSeq q25_3 k25_4
abbrev k25_2 : FS := fSeq q25_2 k25_3
abbrev k25_1 : FS := fSeq q25_1 k25_2
abbrev k25_0 : FS := fSeq q25_0 k25_1
abbrev b25 : FS := k25_0
def m25 : Fn := fFn 11 b25
end K11

/-! What the defs do, in plain terms. -/
namespace K11
open PySem DL
theorem pick_hi {c s n : Int} (hn : 0 < n) (hn2 : n ≤ 10 ^ 100) (hc : 1000000000000000000 ≤ c) : m20 [.br (TP c s), .sh (.int n)] = .ok (.int (c.fmod n), false, [.br (TP (c.fdiv n) s), .sh (.int n)]) := by
  have h1 := modOk_of (i := c) hn
  have h2 := divOk_of (i := c) hn (by omega)
  simp [m20, b20, k20_0, k20_1, k20_2, k20_3, q20_0, q20_1, q20_2, q20_3, opInt, h1, h2, hc]
theorem pick_lo {c s n : Int} (h : TpOk c s) (hn : 0 < n) (hc : c < 1000000000000000000) : ∃ r s' : Int, m20 [.br (TP c s), .sh (.int n)] = .ok (.int (r.fmod n), false, [.br (TP c s'), .sh (.int n)]) ∧ 0 ≤ s' ∧ s' < 10 ^ 12 := by
  obtain ⟨c0, s0, s1⟩ := h
  have hc' : ¬ (1000000000000000000 ≤ c) := by omega
  have e1 := mulOk_of (i := s) (j := 48271) (by omega) (by omega)
  have e2 := mulOk_of (i := c) (j := 69621) (by omega) (by omega)
  have e3 := fun i => modOk_of (i := i) (j := 2147483647) (by omega)
  have e4 := fun i => modOk_of (i := i) (j := 2147483399) (by omega)
  have e5 := fun i => modOk_of (i := i) hn
  have e6 := fun i => divOk_of (i := i) (j := 64) (by omega) (by omega)
  have b0 : 0 ≤ (s * 48271 + c * 69621 + 11).fmod 2147483647 := Int.fmod_nonneg_of_pos _ (by omega)
  have b1 : (s * 48271 + c * 69621 + 11).fmod 2147483647 < 2147483647 := Int.fmod_lt_of_pos _ (by omega)
  generalize hx : (s * 48271 + c * 69621 + 11).fmod 2147483647 = x at b0 b1
  have e7 := mulOk_of (i := x) (j := x) (by omega) (by omega)
  have e8 := mulOk_of (i := x) (j := 40692) (by omega) (by omega)
  refine ⟨((x * x + x * 40692 + 7).fmod 2147483399).fdiv 64, x, ?_, b0, by omega⟩
  simp [m20, b20, k20_0, k20_1, k20_2, k20_3, q20_0, q20_1, q20_2, q20_3, opInt, hc', e1, e2, e3, e4, e5, e6, e7, e8, hx]
theorem picks : Picks m20 := fun c s n h hn hn2 => by
  by_cases hc : 1000000000000000000 ≤ c
  · refine ⟨_, _, _, pick_hi hn hn2 hc, Int.fmod_nonneg_of_pos _ hn, Int.fmod_lt_of_pos _ hn, Int.fdiv_nonneg h.c0 (by omega), h.s0, h.s1⟩
  · obtain ⟨r, s', e, h1, h2⟩ := pick_lo h hn (by omega)
    exact ⟨_, _, _, e, Int.fmod_nonneg_of_pos _ hn, Int.fmod_lt_of_pos _ hn, h.c0, h1, h2⟩
/-- a cell's tape -/
theorem tape_ok (ns : List Int) (k : Int) (hk : 0 ≤ k) (hk2 : k ≤ 10 ^ 6) : ∃ c s, m19 [.sh (.rol (ns.map .int)), .sh (.int k)] = .ok (TP c s, true, [.sh (.rol (ns.map .int)), .sh (.int k)]) ∧ TpOk c s := by
  have e1 := mulOk_of (i := 7919) (j := k) (by omega) (by omega)
  by_cases h : k < (ns.length : Int)
  · have hn : k.toNat < ns.length := by omega
    refine ⟨if ns[k.toNat] < 0 then -ns[k.toNat] else ns[k.toNat], 7919 * k + 104729, ?_, ?_, by omega, by omega⟩
    · simp [m19, b19, h, hk, e1, List.getElem?_eq_getElem hn]
    · split <;> omega
  · refine ⟨0, 7919 * k + 104729, ?_, by omega, by omega, by omega⟩
    simp [m19, b19, h, hk, e1]
/-! ### lengths -/
abbrev L3 (a b c : Int) : D := .ins 0 [.tup [.int a, .int b, .int c]]
abbrev M3 (a b c : Int) : D := .lst [.int a, .int b, .int c]
theorem make_ok (a b c : Int) : m1 [.br (.ins 0 []), .sh (.int a), .sh (.int b), .sh (.int c)] = .ok (.non, false, [.br (L3 a b c), .sh (.int a), .sh (.int b), .sh (.int c)]) := rfl
theorem whole_ok (a b c : Int) : m2 [.sh (L3 a b c)] = .ok (.int a, false, [.sh (L3 a b c)]) := rfl
theorem rows_ok (a b c : Int) : m3 [.sh (L3 a b c)] = .ok (.int b, false, [.sh (L3 a b c)]) := rfl
theorem cols_ok (a b c : Int) : m4 [.sh (L3 a b c)] = .ok (.int c, false, [.sh (L3 a b c)]) := rfl
theorem width_ok : m17 [] = .ok (L3 0 1 0, true, []) := rfl
theorem squares_ok : m18 [] = .ok (L3 1 0 0, true, []) := rfl
theorem length_of_int (i : Int) : m16 [.sh (.int i)] = .ok (L3 0 0 i, true, [.sh (.int i)]) := rfl
theorem length_of_len (a b c : Int) : m16 [.sh (L3 a b c)] = .ok (L3 a b c, false, [.sh (L3 a b c)]) := rfl
theorem is_ok (a b c x y z : Int) : m22 [.sh (L3 a b c), .sh (M3 x y z)] = .ok (.bl (decide (a = x ∧ b = y ∧ c = z)), false, [.sh (L3 a b c), .sh (M3 x y z)]) := by
  have h := ok_ints [a, b, c]
  have h' := ok_ints [x, y, z]
  simp only [List.map] at h h'
  simp [m22, b22, whole_ok, rows_ok, cols_ok, h, h']
theorem eq_len (a b c x y z : Int) : m5 [.sh (L3 a b c), .sh (L3 x y z)] = .ok (.bl (decide (a = x ∧ b = y ∧ c = z)), false, [.sh (L3 a b c), .sh (L3 x y z)]) := by
  have h := ok_intsT [a, b, c]
  have h' := ok_intsT [x, y, z]
  simp only [List.map] at h h'
  simp [m5, b5, h, h']
theorem eq_int (a b c x : Int) : m5 [.sh (L3 a b c), .sh (.int x)] = .ok (.bl false, false, [.sh (L3 a b c), .sh (.int x)]) := rfl
/-- small enough for products -/
def Sm (i : Int) : Prop := -(10 ^ 100) ≤ i ∧ i ≤ 10 ^ 100
theorem joined_ok (a b c x y z s : Int) (hs : Sm s) (hx : Sm x) (hy : Sm y) (hz : Sm z) : m15 [.sh (L3 a b c), .sh (L3 x y z), .sh (.int s)] = .ok (L3 (a + s * x) (b + s * y) (c + s * z), true, [.sh (L3 a b c), .sh (L3 x y z), .sh (.int s)]) := by
  unfold Sm at hs hx hy hz
  have e1 := mulOk_of (i := s) (j := x) (by omega) (by omega)
  have e2 := mulOk_of (i := s) (j := y) (by omega) (by omega)
  have e3 := mulOk_of (i := s) (j := z) (by omega) (by omega)
  simp [m15, b15, c15_0, ev_loopC1, e1, e2, e3, make_ok]
theorem sm1 : Sm 1 := by unfold Sm; omega
theorem smN : Sm (-1) := by unfold Sm; omega
theorem add_len (a b c x y z : Int) (hx : Sm x) (hy : Sm y) (hz : Sm z) : m6 [.sh (L3 a b c), .sh (L3 x y z)] = .ok (L3 (a + x) (b + y) (c + z), true, [.sh (L3 a b c), .sh (L3 x y z)]) := by
  have e := joined_ok a b c x y z 1 sm1 hx hy hz
  simp only [Int.one_mul] at e
  simp [m6, b6, length_of_len, e]
theorem add_int (a b c x : Int) (hx : Sm x) : m6 [.sh (L3 a b c), .sh (.int x)] = .ok (L3 a b (c + x), true, [.sh (L3 a b c), .sh (.int x)]) := by
  have h0 : Sm 0 := by unfold Sm; omega
  have e := joined_ok a b c 0 0 x 1 sm1 h0 h0 hx
  simp only [Int.one_mul, Int.add_zero] at e
  simp [m6, b6, length_of_int, e]
theorem radd_int (a b c x : Int) (ha : Sm a) (hb : Sm b) (hc : Sm c) : m7 [.sh (L3 a b c), .sh (.int x)] = .ok (L3 a b (x + c), true, [.sh (L3 a b c), .sh (.int x)]) := by
  have e := joined_ok 0 0 x a b c 1 sm1 ha hb hc
  simp only [Int.one_mul, Int.zero_add] at e
  simp [m7, b7, length_of_int, e]
theorem sub_len (a b c x y z : Int) (hx : Sm x) (hy : Sm y) (hz : Sm z) : m8 [.sh (L3 a b c), .sh (L3 x y z)] = .ok (L3 (a - x) (b - y) (c - z), true, [.sh (L3 a b c), .sh (L3 x y z)]) := by
  have e := joined_ok a b c x y z (-1) smN hx hy hz
  have k : ∀ p q : Int, p + -1 * q = p - q := fun p q => by omega
  simp only [k] at e
  simp [m8, b8, length_of_len, e]
theorem sub_int (a b c x : Int) (hx : Sm x) : m8 [.sh (L3 a b c), .sh (.int x)] = .ok (L3 a b (c - x), true, [.sh (L3 a b c), .sh (.int x)]) := by
  have h0 : Sm 0 := by unfold Sm; omega
  have e := joined_ok a b c 0 0 x (-1) smN h0 h0 hx
  have k : ∀ p q : Int, p + -1 * q = p - q := fun p q => by omega
  simp only [k, Int.sub_zero] at e
  simp [m8, b8, length_of_int, e]
theorem rsub_int (a b c x : Int) (ha : Sm a) (hb : Sm b) (hc : Sm c) : m9 [.sh (L3 a b c), .sh (.int x)] = .ok (L3 (-a) (-b) (x - c), true, [.sh (L3 a b c), .sh (.int x)]) := by
  have e := joined_ok 0 0 x a b c (-1) smN ha hb hc
  have k : ∀ p q : Int, p + -1 * q = p - q := fun p q => by omega
  simp only [k, Int.zero_sub] at e
  simp [m9, b9, length_of_int, e]
theorem neg_len (a b c : Int) (ha : Sm a) (hb : Sm b) (hc : Sm c) : m10 [.sh (L3 a b c)] = .ok (L3 (-a) (-b) (-c), true, [.sh (L3 a b c)]) := by
  have e := joined_ok 0 0 0 a b c (-1) smN ha hb hc
  have k : ∀ p q : Int, p + -1 * q = p - q := fun p q => by omega
  simp only [k, Int.zero_sub] at e
  simp [m10, b10, make_ok, e]
theorem mul_int (a b c x : Int) (ha : Sm a) (hb : Sm b) (hc : Sm c) (hx : Sm x) : m11 [.sh (L3 a b c), .sh (.int x)] = .ok (L3 (a * x) (b * x) (c * x), true, [.sh (L3 a b c), .sh (.int x)]) := by
  unfold Sm at ha hb hc hx
  have e1 := mulOk_of (i := a) (j := x) (by omega) (by omega)
  have e2 := mulOk_of (i := b) (j := x) (by omega) (by omega)
  have e3 := mulOk_of (i := c) (j := x) (by omega) (by omega)
  simp [m11, b11, make_ok, e1, e2, e3]
theorem rmul_int (a b c x : Int) (ha : Sm a) (hb : Sm b) (hc : Sm c) (hx : Sm x) : m12 [.sh (L3 a b c), .sh (.int x)] = .ok (L3 (a * x) (b * x) (c * x), true, [.sh (L3 a b c), .sh (.int x)]) := by
  unfold Sm at ha hb hc hx
  have e1 := mulOk_of (i := a) (j := x) (by omega) (by omega)
  have e2 := mulOk_of (i := b) (j := x) (by omega) (by omega)
  have e3 := mulOk_of (i := c) (j := x) (by omega) (by omega)
  simp [m12, b12, make_ok, e1, e2, e3]
/-- smaller -/
def S4 (i : Int) : Prop := -(10 ^ 40) ≤ i ∧ i ≤ 10 ^ 40
theorem S4.sm {i : Int} (h : S4 i) : Sm i := by unfold S4 at h; unfold Sm; omega
theorem S4.prod {i j : Int} (h : S4 i) (k : S4 j) : -(10 ^ 80) ≤ i * j ∧ i * j ≤ 10 ^ 80 := by
  have := mul_bound h k
  have e : (10 : Int) ^ 40 * 10 ^ 40 = 10 ^ 80 := by decide +kernel
  rw [e] at this
  exact this
theorem at_ok (a b c x y : Int) (ha : S4 a) (hb : S4 b) (hx : S4 x) (hy : S4 y) : m13 [.sh (L3 a b c), .sh (.int x), .sh (.int y)] = .ok (.int (a * x * y + b * x + c), false, [.sh (L3 a b c), .sh (.int x), .sh (.int y)]) := by
  have p := S4.prod ha hx
  unfold S4 at ha hb hx hy
  have e1 := mulOk_of (i := a) (j := x) (by omega) (by omega)
  have e2 := mulOk_of (i := b) (j := x) (by omega) (by omega)
  have e3 := mulOk_of (i := a * x) (j := y) (by omega) (by omega)
  simp [m13, b13, e1, e2, e3]
theorem sums_ok (a b c x y z : Int) (ha : Sm a) (hb : Sm b) (hc : Sm c) (hx : Sm x) (hy : Sm y) (hz : Sm z) : m23 [.sh (L3 a b c), .sh (L3 x y z), .sh (M3 a b c), .sh (M3 x y z)] = .ok (.bl true, false, [.sh (L3 a b c), .sh (L3 x y z), .sh (M3 a b c), .sh (M3 x y z)]) := by
  simp [m23, b23, c23_0, c23_1, c23_2, ev_loopC1, ev_rangeN, List.range, List.range.loop, add_len a b c x y z hx hy hz, sub_len a b c x y z hx hy hz, neg_len a b c ha hb hc, is_ok]
theorem with_ok (a b c n : Int) (ha : Sm a) (hb : Sm b) (hc : Sm c) (hn : Sm n) : m24 [.sh (L3 a b c), .sh (M3 a b c), .sh (.int n)] = .ok (.bl true, false, [.sh (L3 a b c), .sh (M3 a b c), .sh (.int n)]) := by
  have e1 := mulOk_of (i := a) (j := n) (by unfold Sm at *; omega) (by unfold Sm at *; omega)
  have e2 := mulOk_of (i := b) (j := n) (by unfold Sm at *; omega) (by unfold Sm at *; omega)
  have e3 := mulOk_of (i := c) (j := n) (by unfold Sm at *; omega) (by unfold Sm at *; omega)
  simp [m24, b24, k24_0, k24_1, k24_2, k24_3, k24_4, k24_5, q24_0, q24_1, q24_2, q24_3, q24_4, q24_5, ev_loopC1, add_int a b c n hn, radd_int a b c n ha hb hc, sub_int a b c n hn, rsub_int a b c n ha hb hc, mul_int a b c n ha hb hc hn, rmul_int a b c n ha hb hc hn, is_ok, c24_0, c24_1, e1, e2, e3, Int.add_comm n c, Int.neg_sub]
theorem mem_body (c s : Int) (acc : List D) (x2 x3 : Option B) (h : TpOk c s) (hl : acc.length < 1000) : ∃ v c' s' x, b21_0 [some (.br (TP c s)), some (.ow (.lst acc)), x2, x3] = .ok (.nx [some (.br (TP c' s')), some (.ow (.lst (acc ++ [.int v]))), x2, x]) ∧ TpOk c' s' ∧ -(10 ^ 29) ≤ v ∧ v ≤ 10 ^ 29 := by
  have hl' : acc.length < 1000000 := by omega
  obtain ⟨r, c1, s1, e1, p1⟩ := picks c s 4 h (by omega) (by omega)
  have lo := p1.lo
  have hi := p1.hi
  rcases (by omega : r = 0 ∨ r = 1 ∨ r = 2 ∨ r = 3) with rfl | rfl | rfl | rfl
  · obtain ⟨q, c2, s2, e2, p2⟩ := picks c1 s1 7 p1.tp (by omega) (by omega)
    have a1 := mulOk_of (i := 2) (j := 3) (by omega) (by omega)
    refine ⟨q - 3, c2, s2, some (.sh (.int 3)), ?_, p2.tp, by have := p2.lo; omega, by have := p2.hi; omega⟩
    simp [b21_0, e1, e2, a1, hl']
  · obtain ⟨q, c2, s2, e2, p2⟩ := picks c1 s1 21 p1.tp (by omega) (by omega)
    have a1 := mulOk_of (i := 2) (j := 10) (by omega) (by omega)
    refine ⟨q - 10, c2, s2, some (.sh (.int 10)), ?_, p2.tp, by have := p2.lo; omega, by have := p2.hi; omega⟩
    simp [b21_0, e1, e2, a1, hl']
  · obtain ⟨q, c2, s2, e2, p2⟩ := picks c1 s1 2000001 p1.tp (by omega) (by omega)
    have a1 := mulOk_of (i := 2) (j := 1000000) (by omega) (by omega)
    refine ⟨q - 1000000, c2, s2, some (.sh (.int 1000000)), ?_, p2.tp, by have := p2.lo; omega, by have := p2.hi; omega⟩
    simp [b21_0, e1, e2, a1, hl']
  · obtain ⟨q, c2, s2, e2, p2⟩ := picks c1 s1 200000000000000000000000000001 p1.tp (by omega) (by omega)
    have a1 := mulOk_of (i := 2) (j := 100000000000000000000000000000) (by omega) (by omega)
    refine ⟨q - 100000000000000000000000000000, c2, s2, some (.sh (.int 100000000000000000000000000000)), ?_, p2.tp, by have := p2.lo; omega, by have := p2.hi; omega⟩
    simp [b21_0, e1, e2, a1, hl']
/-- three numbers -/
structure MemR (a b d c' s' : Int) : Prop where
  a : -(10 ^ 29) ≤ a ∧ a ≤ 10 ^ 29
  b : -(10 ^ 29) ≤ b ∧ b ≤ 10 ^ 29
  d : -(10 ^ 29) ≤ d ∧ d ≤ 10 ^ 29
  tp : TpOk c' s'
theorem members_ok (c s : Int) (h : TpOk c s) : ∃ x y z c' s', m21 [.br (TP c s)] = .ok (M3 x y z, true, [.br (TP c' s')]) ∧ MemR x y z c' s' := by
  obtain ⟨x, c1, s1, x1, e1, t1, b1⟩ := mem_body c s [] (some (.sh (.int 0))) none h (by decide)
  obtain ⟨y, c2, s2, x2, e2, t2, b2⟩ := mem_body c1 s1 [.int x] (some (.sh (.int 1))) x1 t1 (by simp)
  obtain ⟨z, c3, s3, x3, e3, t3, b3⟩ := mem_body c2 s2 [.int x, .int y] (some (.sh (.int 2))) x2 t2 (by simp)
  refine ⟨x, y, z, c3, s3, ?_, b1, b2, b3, t3⟩
  simp only [List.nil_append, List.cons_append] at e1 e2 e3
  simp [m21, b21, ev_loopF1, ev_rangeN, List.range, List.range.loop, e1, e2, e3]
/-- a frame of law's, by what its first names hold -/
abbrev Fr (R t x2 x3 x4 x5 x6 x7 x8 x9 : Option B) : DEnv := [R, t, x2, x3, x4, x5, x6, x7, x8, x9, none]
/-- a name that holds this data, alone or not -/
def Holds (x : Option B) (d : D) : Prop := x = some (.sh d) ∨ x = some (.ow d)
theorem st8 (R t x7 x8 x9 : Option B) (a b c x y z n : Int) : q25_8 (Fr R t (some (.sh (M3 a b c))) (some (.sh (M3 x y z))) (some (.sh (.int n))) (some (.sh (L3 a b c))) (some (.sh (L3 x y z))) x7 x8 x9) = .ok (.nx (Fr R t (some (.sh (M3 a b c))) (some (.sh (M3 x y z))) (some (.sh (.int n))) (some (.sh (L3 a b c))) (some (.sh (L3 x y z))) x7 x8 x9)) := by
  have h := ok_ints [a, b, c]
  have h' := ok_ints [x, y, z]
  simp only [List.map] at h h'
  have k : ∀ p q r : Bool, ((!p || (!q || !r)) = (p && (q && r))) = False := by decide
  simp [q25_8, eq_len, eq_int, h, h', k]
theorem st7 (R t x2 x3 x5 x6 x7 x8 x9 : Option B) (a b c x y z n : Int) (ha : Sm a) (hb : Sm b) (hc : Sm c) (hx : Sm x) (hy : Sm y) (hz : Sm z) (hn : Sm n) (h2 : Holds x2 (M3 a b c)) (h3 : Holds x3 (M3 x y z)) (h5 : Holds x5 (L3 a b c)) (h6 : Holds x6 (L3 x y z)) :
    q25_7 (Fr R t x2 x3 (some (.sh (.int n))) x5 x6 x7 x8 x9) = .ok (.nx (Fr R t (some (.sh (M3 a b c))) (some (.sh (M3 x y z))) (some (.sh (.int n))) (some (.sh (L3 a b c))) (some (.sh (L3 x y z))) x7 x8 x9)) := by
  rcases h2 with rfl | rfl <;> rcases h3 with rfl | rfl <;> rcases h5 with rfl | rfl <;> rcases h6 with rfl | rfl <;>
  simp [q25_7, sums_ok a b c x y z ha hb hc hx hy hz, with_ok a b c n ha hb hc hn]
theorem st56 (R t x2 x3 x5 x6 x7 x8 x9 : Option B) (a b c x y z n : Int) (h2 : Holds x2 (M3 a b c)) (h3 : Holds x3 (M3 x y z)) :
    q25_5 (Fr R t x2 x3 (some (.sh (.int n))) x5 x6 x7 x8 x9) = .ok (.nx (Fr R t x2 x3 (some (.sh (.int n))) (some (.ow (L3 a b c))) x6 x7 x8 x9)) ∧
    q25_6 (Fr R t x2 x3 (some (.sh (.int n))) x5 x6 x7 x8 x9) = .ok (.nx (Fr R t x2 x3 (some (.sh (.int n))) x5 (some (.ow (L3 x y z))) x7 x8 x9)) := by
  rcases h2 with rfl | rfl <;> rcases h3 with rfl | rfl <;> exact ⟨by simp [q25_5, make_ok], by simp [q25_6, make_ok]⟩
theorem st4 (R x2 x3 x4 x5 x6 x7 x8 x9 : Option B) (c s : Int) (h : TpOk c s) : ∃ n c' s', q25_4 (Fr R (some (.ow (TP c s))) x2 x3 x4 x5 x6 x7 x8 x9) = .ok (.nx (Fr R (some (.ow (TP c' s'))) x2 x3 (some (.sh (.int n))) x5 x6 x7 x8 x9)) ∧ TpOk c' s' ∧ Sm n := by
  obtain ⟨x, y, z, c', s', e, p⟩ := members_ok c s h
  refine ⟨y, c', s', ?_, p.tp, by have := p.b; unfold Sm; omega⟩
  simp [q25_4, e]
theorem st9 (R x2 x3 x4 x5 x6 x7 x8 x9 : Option B) (c s : Int) (h : TpOk c s) : ∃ n c' s', q25_9 (Fr R (some (.ow (TP c s))) x2 x3 x4 x5 x6 x7 x8 x9) = .ok (.nx (Fr R (some (.ow (TP c' s'))) x2 x3 x4 x5 x6 (some (.sh (.int n))) x8 x9)) ∧ TpOk c' s' ∧ S4 n := by
  obtain ⟨r, c1, s1, e1, p1⟩ := picks c s 2 h (by omega) (by omega)
  have lo := p1.lo
  have hi := p1.hi
  rcases (by omega : r = 0 ∨ r = 1) with rfl | rfl
  · obtain ⟨q, c2, s2, e2, p2⟩ := picks c1 s1 9 p1.tp (by omega) (by omega)
    refine ⟨1 + q, c2, s2, ?_, p2.tp, by have := p2.lo; have := p2.hi; unfold S4; omega⟩
    simp [q25_9, e1, e2]
  · obtain ⟨q, c2, s2, e2, p2⟩ := picks c1 s1 100000000000000000000000000000 p1.tp (by omega) (by omega)
    refine ⟨1 + q, c2, s2, ?_, p2.tp, by have := p2.lo; have := p2.hi; unfold S4; omega⟩
    simp [q25_9, e1, e2]
theorem st10 (R x2 x3 x4 x5 x6 x7 x8 x9 : Option B) (c s : Int) (h : TpOk c s) : ∃ n c' s', q25_10 (Fr R (some (.ow (TP c s))) x2 x3 x4 x5 x6 x7 x8 x9) = .ok (.nx (Fr R (some (.ow (TP c' s'))) x2 x3 x4 x5 x6 x7 (some (.sh (.int n))) x9)) ∧ TpOk c' s' ∧ S4 n := by
  obtain ⟨r, c1, s1, e1, p1⟩ := picks c s 2 h (by omega) (by omega)
  have lo := p1.lo
  have hi := p1.hi
  rcases (by omega : r = 0 ∨ r = 1) with rfl | rfl
  · obtain ⟨q, c2, s2, e2, p2⟩ := picks c1 s1 9 p1.tp (by omega) (by omega)
    refine ⟨1 + q, c2, s2, ?_, p2.tp, by have := p2.lo; have := p2.hi; unfold S4; omega⟩
    simp [q25_10, e1, e2]
  · obtain ⟨q, c2, s2, e2, p2⟩ := picks c1 s1 100000000000000000000000000000 p1.tp (by omega) (by omega)
    refine ⟨1 + q, c2, s2, ?_, p2.tp, by have := p2.lo; have := p2.hi; unfold S4; omega⟩
    simp [q25_10, e1, e2]
theorem st11 (R t x3 x4 x5 x6 x9 : Option B) (a b c w h : Int) (ha : S4 a) (hb : S4 b) (hw : S4 w) (hh : S4 h) :
    q25_11 (Fr R t (some (.sh (M3 a b c))) x3 x4 x5 x6 (some (.sh (.int w))) (some (.sh (.int h))) x9) = .ok (.nx (Fr R t (some (.sh (M3 a b c))) x3 x4 x5 x6 (some (.sh (.int w))) (some (.sh (.int h))) (some (.sh (.int (a * w * h + b * w + c)))))) := by
  have p := S4.prod ha hw
  have e1 := mulOk_of (i := a) (j := w) (by unfold S4 at *; omega) (by unfold S4 at *; omega)
  have e2 := mulOk_of (i := b) (j := w) (by unfold S4 at *; omega) (by unfold S4 at *; omega)
  have e3 := mulOk_of (i := a * w) (j := h) (by omega) (by unfold S4 at *; omega)
  simp [q25_11, e1, e2, e3]
theorem st12 (R t x3 x4 x6 : Option B) (a b c w h : Int) (ha : S4 a) (hb : S4 b) (hw : S4 w) (hh : S4 h) :
    q25_12 (Fr R t (some (.sh (M3 a b c))) x3 x4 (some (.sh (L3 a b c))) x6 (some (.sh (.int w))) (some (.sh (.int h))) (some (.sh (.int (a * w * h + b * w + c))))) = .ok (.nx (Fr R t (some (.sh (M3 a b c))) x3 x4 (some (.sh (L3 a b c))) x6 (some (.sh (.int w))) (some (.sh (.int h))) (some (.sh (.int (a * w * h + b * w + c)))))) := by
  simp [q25_12, at_ok a b c w h ha hb hw hh, is_ok]
theorem st13 (R t x3 x4 x6 : Option B) (a b c w h : Int) (ha : S4 a) (hb : S4 b) (hw : S4 w) (hh : S4 h) :
    q25_13 (Fr R t (some (.sh (M3 a b c))) x3 x4 (some (.sh (L3 a b c))) x6 (some (.sh (.int w))) (some (.sh (.int h))) (some (.sh (.int (a * w * h + b * w + c))))) = .ok (.nx (Fr R t (some (.sh (M3 a b c))) x3 x4 (some (.sh (L3 a b c))) x6 (some (.sh (.int w))) (some (.sh (.int h))) (some (.sh (.int (a * w * h + b * w + c)))))) := by
  have p := S4.prod ha hh
  have k3 : S4 3 := by unfold S4; omega
  have e1 := mulOk_of (i := a) (j := h) (by unfold S4 at *; omega) (by unfold S4 at *; omega)
  have e2 := mulOk_of (i := b) (j := h) (by unfold S4 at *; omega) (by unfold S4 at *; omega)
  have e3 := mulOk_of (i := a * h) (j := 3) (by omega) (by omega)
  simp [q25_13, at_ok a b c w h ha hb hw hh, at_ok a b c h 3 ha hb hh k3, e1, e2, e3]
theorem st14 (R t x2 x4 x5 x7 x8 x9 : Option B) (x y z : Int) : ∃ e', q25_14 (Fr R t x2 (some (.sh (M3 x y z))) x4 x5 (some (.sh (L3 x y z))) x7 x8 x9) = .ok (.rt (.vl (.bl true)) (R :: e')) := by
  exact ⟨[t, x2, some (.sh (M3 x y z)), x4, x5, some (.sh (L3 x y z)), x7, x8, x9, none], by simp [q25_14, width_ok, squares_ok, is_ok]⟩
/-- from the making of the second on -/
theorem rest_ok (R x2 x3 : Option B) (a b c x y z c1 s1 : Int) (ha : S4 a) (hb : S4 b) (hc : S4 c) (hx : S4 x) (hy : S4 y) (hz : S4 z) (h2 : Holds x2 (M3 a b c)) (h3 : Holds x3 (M3 x y z)) (h : TpOk c1 s1) :
    ∃ e', k25_4 (Fr R (some (.ow (TP c1 s1))) x2 x3 none none none none none none) = .ok (.rt (.vl (.bl true)) (R :: e')) := by
  obtain ⟨n, c2, s2, e4, t2, hn⟩ := st4 R x2 x3 none none none none none none c1 s1 h
  have e5 := (st56 R (some (.ow (TP c2 s2))) x2 x3 none none none none none a b c x y z n h2 h3).1
  have e6 := (st56 R (some (.ow (TP c2 s2))) x2 x3 (some (.ow (L3 a b c))) none none none none a b c x y z n h2 h3).2
  have e7 := st7 R (some (.ow (TP c2 s2))) x2 x3 (some (.ow (L3 a b c))) (some (.ow (L3 x y z))) none none none a b c x y z n ha.sm hb.sm hc.sm hx.sm hy.sm hz.sm hn h2 h3 (.inr rfl) (.inr rfl)
  have e8 := st8 R (some (.ow (TP c2 s2))) none none none a b c x y z n
  obtain ⟨w, c3, s3, e9, t3, hw⟩ := st9 R (some (.sh (M3 a b c))) (some (.sh (M3 x y z))) (some (.sh (.int n))) (some (.sh (L3 a b c))) (some (.sh (L3 x y z))) none none none c2 s2 t2
  obtain ⟨g, c4, s4, e10, t4, hg⟩ := st10 R (some (.sh (M3 a b c))) (some (.sh (M3 x y z))) (some (.sh (.int n))) (some (.sh (L3 a b c))) (some (.sh (L3 x y z))) (some (.sh (.int w))) none none c3 s3 t3
  have e11 := st11 R (some (.ow (TP c4 s4))) (some (.sh (M3 x y z))) (some (.sh (.int n))) (some (.sh (L3 a b c))) (some (.sh (L3 x y z))) none a b c w g ha hb hw hg
  have e12 := st12 R (some (.ow (TP c4 s4))) (some (.sh (M3 x y z))) (some (.sh (.int n))) (some (.sh (L3 x y z))) a b c w g ha hb hw hg
  have e13 := st13 R (some (.ow (TP c4 s4))) (some (.sh (M3 x y z))) (some (.sh (.int n))) (some (.sh (L3 x y z))) a b c w g ha hb hw hg
  obtain ⟨e', e14⟩ := st14 R (some (.ow (TP c4 s4))) (some (.sh (M3 a b c))) (some (.sh (.int n))) (some (.sh (L3 a b c))) (some (.sh (.int w))) (some (.sh (.int g))) (some (.sh (.int (a * w * g + b * w + c)))) x y z
  exact ⟨e', seq_nx e4 (seq_nx e5 (seq_nx e6 (seq_nx e7 (seq_nx e8 (seq_nx e9 (seq_nx e10 (seq_nx e11 (seq_nx e12 (seq_nx e13 e14)))))))))⟩
theorem st3 (dR : D) (a b d x y z c s : Int) (h : TpOk c s) (ha : S4 a) (hb : S4 b) (hd : S4 d) (hx : S4 x) (hy : S4 y) (hz : S4 z) : ∃ x2 x3 p q r c' s', q25_3 (Fr (some (.sh dR)) (some (.ow (TP c s))) (some (.ow (M3 a b d))) (some (.ow (M3 x y z))) none none none none none none) = .ok (.nx (Fr (some (.sh dR)) (some (.ow (TP c' s'))) x2 x3 none none none none none none)) ∧ TpOk c' s' ∧
    Holds x2 (M3 a b d) ∧ Holds x3 (M3 p q r) ∧ S4 p ∧ S4 q ∧ S4 r := by
  have k7 : S4 7 := by unfold S4; omega
  obtain ⟨r, c1, s1, e1, p1⟩ := picks c s 3 h (by omega) (by omega)
  by_cases hr : r = 1
  · subst hr
    obtain ⟨r2, c2, s2, e2, p2⟩ := picks c1 s1 2 p1.tp (by omega) (by omega)
    by_cases hr2 : r2 = 1
    · subst hr2
      obtain ⟨r3, c3, s3, e3, p3⟩ := picks c2 s2 3 p2.tp (by omega) (by omega)
      have lo := p3.lo
      have hi := p3.hi
      rcases (by omega : r3 = 0 ∨ r3 = 1 ∨ r3 = 2) with rfl | rfl | rfl
      · exact ⟨some (.sh (M3 a b d)), some (.ow (M3 7 b d)), 7, b, d, c3, s3, by simp [q25_3, c25_0, ev_loopC1, e1, e2, e3], p3.tp, .inl rfl, .inr rfl, k7, hb, hd⟩
      · exact ⟨some (.sh (M3 a b d)), some (.ow (M3 a 7 d)), a, 7, d, c3, s3, by simp [q25_3, c25_0, ev_loopC1, e1, e2, e3], p3.tp, .inl rfl, .inr rfl, ha, k7, hd⟩
      · exact ⟨some (.sh (M3 a b d)), some (.ow (M3 a b 7)), a, b, 7, c3, s3, by simp [q25_3, c25_0, ev_loopC1, e1, e2, e3], p3.tp, .inl rfl, .inr rfl, ha, hb, k7⟩
    · exact ⟨some (.sh (M3 a b d)), some (.ow (M3 a b d)), a, b, d, c2, s2, by simp [q25_3, c25_0, ev_loopC1, e1, e2, hr2], p2.tp, .inl rfl, .inr rfl, ha, hb, hd⟩
  · exact ⟨some (.ow (M3 a b d)), some (.ow (M3 x y z)), x, y, z, c1, s1, by simp [q25_3, e1, hr], p1.tp, .inr rfl, .inr rfl, hx, hy, hz⟩
theorem s4_of {i : Int} (h : -(10 ^ 29) ≤ i ∧ i ≤ 10 ^ 29) : S4 i := by unfold S4; omega
theorem law_sem (ns : List Int) (hn : ns.length ≤ 63) : ∃ q, m25 [.sh (.rol (ns.map .int))] = .ok (.bl true, false, q) := by
  obtain ⟨c0, s0, e0, t0⟩ := tape_ok ns 0 (by omega) (by omega)
  obtain ⟨c1, s1, e1, t1⟩ := tape_ok ns 1 (by omega) (by omega)
  obtain ⟨a, b, d, c2, s2, e2, p2⟩ := members_ok c0 s0 t0
  obtain ⟨x, y, z, c3, s3, e3, p3⟩ := members_ok c1 s1 t1
  obtain ⟨x2, x3, p, q, r, c4, s4, e4, t4, h2, h3, hp, hq, hr⟩ := st3 (.rol (ns.map .int)) a b d x y z c2 s2 p2.tp (s4_of p2.a) (s4_of p2.b) (s4_of p2.d) (s4_of p3.a) (s4_of p3.b) (s4_of p3.d)
  obtain ⟨e', e5⟩ := rest_ok (some (.sh (.rol (ns.map .int)))) x2 x3 a b d p q r c4 s4 (s4_of p2.a) (s4_of p2.b) (s4_of p2.d) hp hq hr h2 h3 t4
  have g0 : q25_0 (Fr (some (.sh (.rol (ns.map .int)))) none none none none none none none none none) = .ok (.nx (Fr (some (.sh (.rol (ns.map .int)))) (some (.ow (TP c0 s0))) none none none none none none none none)) := by simp [q25_0, e0]
  have g1 : q25_1 (Fr (some (.sh (.rol (ns.map .int)))) (some (.ow (TP c0 s0))) none none none none none none none none) = .ok (.nx (Fr (some (.sh (.rol (ns.map .int)))) (some (.ow (TP c2 s2))) (some (.ow (M3 a b d))) none none none none none none none)) := by simp [q25_1, e2]
  have g2 : q25_2 (Fr (some (.sh (.rol (ns.map .int)))) (some (.ow (TP c2 s2))) (some (.ow (M3 a b d))) none none none none none none none) = .ok (.nx (Fr (some (.sh (.rol (ns.map .int)))) (some (.ow (TP c2 s2))) (some (.ow (M3 a b d))) (some (.ow (M3 x y z))) none none none none none none)) := by simp [q25_2, e1, e3]
  have g : b25 (Fr (some (.sh (.rol (ns.map .int)))) none none none none none none none none none) = .ok (.rt (.vl (.bl true)) (some (.sh (.rol (ns.map .int))) :: e')) := seq_nx g0 (seq_nx g1 (seq_nx g2 (seq_nx e4 e5)))
  exact ⟨_, fn_rt g rfl⟩
end K11

/-! The facts, the defs by their promises. Printed by emit.py. -/
namespace K11
open PySem L2 Evl DL
theorem sc1 : FnScope N1 ["self", "whole", "rows", "columns"] (defScope s1) := ⟨rfl, rfl, rfl, by decide +kernel, rfl, by decide +kernel, by decide +kernel⟩
theorem sc2 : FnScope N2 ["self"] (defScope s2) := ⟨rfl, rfl, rfl, by decide +kernel, rfl, by decide +kernel, by decide +kernel⟩
theorem sc3 : FnScope N3 ["self"] (defScope s3) := ⟨rfl, rfl, rfl, by decide +kernel, rfl, by decide +kernel, by decide +kernel⟩
theorem sc4 : FnScope N4 ["self"] (defScope s4) := ⟨rfl, rfl, rfl, by decide +kernel, rfl, by decide +kernel, by decide +kernel⟩
theorem sc5 : FnScope N5 ["self", "other"] (defScope s5) := ⟨rfl, rfl, rfl, by decide +kernel, rfl, by decide +kernel, by decide +kernel⟩
theorem sc15 : FnScope N15 ["first", "second", "sign"] (defScope s15) := ⟨rfl, rfl, rfl, by decide +kernel, rfl, by decide +kernel, by decide +kernel⟩
theorem sc16 : FnScope N16 ["value"] (defScope s16) := ⟨rfl, rfl, rfl, by decide +kernel, rfl, by decide +kernel, by decide +kernel⟩
theorem sc6 : FnScope N6 ["self", "other"] (defScope s6) := ⟨rfl, rfl, rfl, by decide +kernel, rfl, by decide +kernel, by decide +kernel⟩
theorem sc7 : FnScope N7 ["self", "other"] (defScope s7) := ⟨rfl, rfl, rfl, by decide +kernel, rfl, by decide +kernel, by decide +kernel⟩
theorem sc8 : FnScope N8 ["self", "other"] (defScope s8) := ⟨rfl, rfl, rfl, by decide +kernel, rfl, by decide +kernel, by decide +kernel⟩
theorem sc9 : FnScope N9 ["self", "other"] (defScope s9) := ⟨rfl, rfl, rfl, by decide +kernel, rfl, by decide +kernel, by decide +kernel⟩
theorem sc10 : FnScope N10 ["self"] (defScope s10) := ⟨rfl, rfl, rfl, by decide +kernel, rfl, by decide +kernel, by decide +kernel⟩
theorem sc11 : FnScope N11 ["self", "factor"] (defScope s11) := ⟨rfl, rfl, rfl, by decide +kernel, rfl, by decide +kernel, by decide +kernel⟩
theorem sc12 : FnScope N12 ["self", "factor"] (defScope s12) := ⟨rfl, rfl, rfl, by decide +kernel, rfl, by decide +kernel, by decide +kernel⟩
theorem sc13 : FnScope N13 ["self", "width", "height"] (defScope s13) := ⟨rfl, rfl, rfl, by decide +kernel, rfl, by decide +kernel, by decide +kernel⟩
theorem sc17 : FnScope N17 [] (defScope s17) := ⟨rfl, rfl, rfl, by decide +kernel, rfl, by decide +kernel, by decide +kernel⟩
theorem sc18 : FnScope N18 [] (defScope s18) := ⟨rfl, rfl, rfl, by decide +kernel, rfl, by decide +kernel, by decide +kernel⟩
theorem sc19 : FnScope N19 ["_law_script", "_law_k"] (defScope s19) := ⟨rfl, rfl, rfl, by decide +kernel, rfl, by decide +kernel, by decide +kernel⟩
theorem sc20 : FnScope N20 ["_law_tape_here", "_law_many"] (defScope s20) := ⟨rfl, rfl, rfl, by decide +kernel, rfl, by decide +kernel, by decide +kernel⟩
theorem sc21 : FnScope N21 ["_law_tape_here"] (defScope s21) := ⟨rfl, rfl, rfl, by decide +kernel, rfl, by decide +kernel, by decide +kernel⟩
theorem sc22 : FnScope N22 ["_law_length", "_law_members_here"] (defScope s22) := ⟨rfl, rfl, rfl, by decide +kernel, rfl, by decide +kernel, by decide +kernel⟩
theorem sc23 : FnScope N23 ["_law_one", "_law_other", "_law_first", "_law_second"] (defScope s23) := ⟨rfl, rfl, rfl, by decide +kernel, rfl, by decide +kernel, by decide +kernel⟩
theorem sc24 : FnScope N24 ["_law_length", "_law_members_here", "_law_number"] (defScope s24) := ⟨rfl, rfl, rfl, by decide +kernel, rfl, by decide +kernel, by decide +kernel⟩
theorem sc25 : FnScope N25 ["_law_script"] (defScope s25) := ⟨rfl, rfl, rfl, by decide +kernel, rfl, by decide +kernel, by decide +kernel⟩
structure Tx (K : PySem.W.Frag) (mg : Str → Option Value) (cl f pp : Nat → Addr) (fd : Nat → FuncData) : Prop where
  F1 : Fun K "__init__" "Length.__init__" s1 (f 1) (fd 1)
  B1 : Binds K (fd 1) ["self", "whole", "rows", "columns"] []
  C0 : Cls K (cl 0)
  na0_members : NoAttr K (cl 0) "members"
  F2 : Fun K "whole" "Length.whole" s2 (f 2) (fd 2)
  B2 : Binds K (fd 2) ["self"] []
  F3 : Fun K "rows" "Length.rows" s3 (f 3) (fd 3)
  B3 : Binds K (fd 3) ["self"] []
  F4 : Fun K "columns" "Length.columns" s4 (f 4) (fd 4)
  B4 : Binds K (fd 4) ["self"] []
  F5 : Fun K "__eq__" "Length.__eq__" s5 (f 5) (fd 5)
  B5 : Binds K (fd 5) ["self", "other"] []
  gC0 : mg "Length" = some (.ref (cl 0))
  IS0 : IsiOk (ct K cl) (.ref (cl 0)) (lkI [(0, true)]) (lkT [("int", false)])
  z_isinstance : mg "isinstance" = none
  F6 : Fun K "__add__" "Length.__add__" s6 (f 6) (fd 6)
  B6 : Binds K (fd 6) ["self", "other"] []
  F15 : Fun K "joined" "joined" s15 (f 15) (fd 15)
  B15 : Binds K (fd 15) ["first", "second", "sign"] []
  g15 : mg "joined" = some (.ref (f 15))
  F16 : Fun K "length_of" "length_of" s16 (f 16) (fd 16)
  B16 : Binds K (fd 16) ["value"] []
  g16 : mg "length_of" = some (.ref (f 16))
  F7 : Fun K "__radd__" "Length.__radd__" s7 (f 7) (fd 7)
  B7 : Binds K (fd 7) ["self", "other"] []
  F8 : Fun K "__sub__" "Length.__sub__" s8 (f 8) (fd 8)
  B8 : Binds K (fd 8) ["self", "other"] []
  F9 : Fun K "__rsub__" "Length.__rsub__" s9 (f 9) (fd 9)
  B9 : Binds K (fd 9) ["self", "other"] []
  F10 : Fun K "__neg__" "Length.__neg__" s10 (f 10) (fd 10)
  B10 : Binds K (fd 10) ["self"] []
  M0 : Mk K (cl 0) (f 1)
  F11 : Fun K "__mul__" "Length.__mul__" s11 (f 11) (fd 11)
  B11 : Binds K (fd 11) ["self", "factor"] []
  F12 : Fun K "__rmul__" "Length.__rmul__" s12 (f 12) (fd 12)
  B12 : Binds K (fd 12) ["self", "factor"] []
  F13 : Fun K "at" "Length.at" s13 (f 13) (fd 13)
  B13 : Binds K (fd 13) ["self", "width", "height"] []
  z_zip : mg "zip" = none
  F17 : Fun K "width" "width" s17 (f 17) (fd 17)
  B17 : Binds K (fd 17) [] []
  F18 : Fun K "squares" "squares" s18 (f 18) (fd 18)
  B18 : Binds K (fd 18) [] []
  F19 : Fun K "_law_tape" "_law_tape" s19 (f 19) (fd 19)
  B19 : Binds K (fd 19) ["_law_script", "_law_k"] []
  z_len : mg "len" = none
  z_abs : mg "abs" = none
  F20 : Fun K "_law_pick" "_law_pick" s20 (f 20) (fd 20)
  B20 : Binds K (fd 20) ["_law_tape_here", "_law_many"] []
  z_int : mg "int" = none
  F21 : Fun K "_law_members" "_law_members" s21 (f 21) (fd 21)
  B21 : Binds K (fd 21) ["_law_tape_here"] []
  z_range : mg "range" = none
  g20 : mg "_law_pick" = some (.ref (f 20))
  F22 : Fun K "_law_is" "_law_is" s22 (f 22) (fd 22)
  B22 : Binds K (fd 22) ["_law_length", "_law_members_here"] []
  IS1 : IsiOk (ct K cl) (.ref (cl 0)) (lkI [(0, true)]) (lkT [])
  P2 : PropOf K (cl 0) "whole" (pp 2) (f 2)
  P3 : PropOf K (cl 0) "rows" (pp 3) (f 3)
  P4 : PropOf K (cl 0) "columns" (pp 4) (f 4)
  F23 : Fun K "_law_sums" "_law_sums" s23 (f 23) (fd 23)
  B23 : Binds K (fd 23) ["_law_one", "_law_other", "_law_first", "_law_second"] []
  g22 : mg "_law_is" = some (.ref (f 22))
  O0_Add : Own2 K (cl 0) (f 6) .Add
  O0_Sub : Own2 K (cl 0) (f 8) .Sub
  U0_USub : Own1 K (cl 0) (f 10) (un1 .USub)
  F24 : Fun K "_law_with" "_law_with" s24 (f 24) (fd 24)
  B24 : Binds K (fd 24) ["_law_length", "_law_members_here", "_law_number"] []
  OI0_Add : Own2I K (cl 0) .Add
  OR0_Add : Own2R K (cl 0) (f 7) .Add
  OI0_Sub : Own2I K (cl 0) .Sub
  OR0_Sub : Own2R K (cl 0) (f 9) .Sub
  O0_Mult : Own2 K (cl 0) (f 11) .Mult
  OI0_Mult : Own2I K (cl 0) .Mult
  OR0_Mult : Own2R K (cl 0) (f 12) .Mult
  F25 : Fun K "law" "law" s25 (f 25) (fd 25)
  B25 : Binds K (fd 25) ["_law_script"] []
  g19 : mg "_law_tape" = some (.ref (f 19))
  g21 : mg "_law_members" = some (.ref (f 21))
  g23 : mg "_law_sums" = some (.ref (f 23))
  g24 : mg "_law_with" = some (.ref (f 24))
  E0 : OwnE K (cl 0) (f 5)
  Q0_0_ : EqROk (ct K cl) (cl 0) (inI [0]) (inT [])
  N0 : OwnN K (cl 0)
  Q0__int : EqROk (ct K cl) (cl 0) (inI []) (inT ["int"])
  Me0_13 : Meth K (cl 0) "at" (f 13)
  g17 : mg "width" = some (.ref (f 17))
  g18 : mg "squares" = some (.ref (f 18))
section
variable {P : Program} {w : World} {K : PySem.W.Frag} {mg : Str → Option Value} {base : Heap} {cl f pp : Nat → Addr} {fd : Nat → FuncData}
theorem ok1 (T : Tx K mg cl f pp fd) : FnOk P w K mg base (CX P w) 1 (f 1) (fd 1) ["self", "whole", "rows", "columns"] (spD (ct K cl) 4 m1) := by
  refine fn_ok (body := b1) T.F1 sc1 (fun bs _ => rfl) (fun cdv A outer s H E hr => ?_)
  have nd := sc1.nd
  have tk : Takes (cxOf (CX P w) P w K mg base N1 "Length.__init__" (defScope s1) (f 1) cdv A outer s H E) (fun cls d _ H => E cls d H) := takes_of rfl rfl rfl rfl
  have pa : PassesOwn (model P w) (cxOf (CX P w) P w K mg base N1 "Length.__init__" (defScope s1) (f 1) cdv A outer s H E).A (cxOf (CX P w) P w K mg base N1 "Length.__init__" (defScope s1) (f 1) cdv A outer s H E).env (cxOf (CX P w) P w K mg base N1 "Length.__init__" (defScope s1) (f 1) cdv A outer s H E).xe := passes_of rfl
  exact ⟨_, (dss_one (ds_putF (i := 0) (j := 0) rfl T.C0 T.na0_members (pv 0) (de_tup (da_cons (de_v 1) (da_cons (de_v 2) (da_cons (de_v 3) da_nil))))))⟩
theorem ok2 (T : Tx K mg cl f pp fd) : FnOk P w K mg base (CX P w) 1 (f 2) (fd 2) ["self"] (spD (ct K cl) 1 m2) := by
  refine fn_ok (body := b2) T.F2 sc2 (fun bs _ => rfl) (fun cdv A outer s H E hr => ?_)
  have nd := sc2.nd
  have tk : Takes (cxOf (CX P w) P w K mg base N2 "Length.whole" (defScope s2) (f 2) cdv A outer s H E) (fun cls d _ H => E cls d H) := takes_of rfl rfl rfl rfl
  have pa : PassesOwn (model P w) (cxOf (CX P w) P w K mg base N2 "Length.whole" (defScope s2) (f 2) cdv A outer s H E).A (cxOf (CX P w) P w K mg base N2 "Length.whole" (defScope s2) (f 2) cdv A outer s H E).env (cxOf (CX P w) P w K mg base N2 "Length.whole" (defScope s2) (f 2) cdv A outer s H E).xe := passes_of rfl
  exact ⟨_, (dss_one (ds_ret (de_ix ix_seq (ok_ix (c := ct K cl)) (de_fld (i := 0) rfl T.C0 T.na0_members (de_v 0)) de_int (fun _ _ => rfl))))⟩
theorem ok3 (T : Tx K mg cl f pp fd) : FnOk P w K mg base (CX P w) 1 (f 3) (fd 3) ["self"] (spD (ct K cl) 1 m3) := by
  refine fn_ok (body := b3) T.F3 sc3 (fun bs _ => rfl) (fun cdv A outer s H E hr => ?_)
  have nd := sc3.nd
  have tk : Takes (cxOf (CX P w) P w K mg base N3 "Length.rows" (defScope s3) (f 3) cdv A outer s H E) (fun cls d _ H => E cls d H) := takes_of rfl rfl rfl rfl
  have pa : PassesOwn (model P w) (cxOf (CX P w) P w K mg base N3 "Length.rows" (defScope s3) (f 3) cdv A outer s H E).A (cxOf (CX P w) P w K mg base N3 "Length.rows" (defScope s3) (f 3) cdv A outer s H E).env (cxOf (CX P w) P w K mg base N3 "Length.rows" (defScope s3) (f 3) cdv A outer s H E).xe := passes_of rfl
  exact ⟨_, (dss_one (ds_ret (de_ix ix_seq (ok_ix (c := ct K cl)) (de_fld (i := 0) rfl T.C0 T.na0_members (de_v 0)) de_int (fun _ _ => rfl))))⟩
theorem ok4 (T : Tx K mg cl f pp fd) : FnOk P w K mg base (CX P w) 1 (f 4) (fd 4) ["self"] (spD (ct K cl) 1 m4) := by
  refine fn_ok (body := b4) T.F4 sc4 (fun bs _ => rfl) (fun cdv A outer s H E hr => ?_)
  have nd := sc4.nd
  have tk : Takes (cxOf (CX P w) P w K mg base N4 "Length.columns" (defScope s4) (f 4) cdv A outer s H E) (fun cls d _ H => E cls d H) := takes_of rfl rfl rfl rfl
  have pa : PassesOwn (model P w) (cxOf (CX P w) P w K mg base N4 "Length.columns" (defScope s4) (f 4) cdv A outer s H E).A (cxOf (CX P w) P w K mg base N4 "Length.columns" (defScope s4) (f 4) cdv A outer s H E).env (cxOf (CX P w) P w K mg base N4 "Length.columns" (defScope s4) (f 4) cdv A outer s H E).xe := passes_of rfl
  exact ⟨_, (dss_one (ds_ret (de_ix ix_seq (ok_ix (c := ct K cl)) (de_fld (i := 0) rfl T.C0 T.na0_members (de_v 0)) de_int (fun _ _ => rfl))))⟩
theorem ok5 (T : Tx K mg cl f pp fd) : FnOk P w K mg base (CX P w) 1 (f 5) (fd 5) ["self", "other"] (spD (ct K cl) 2 m5) := by
  refine fn_ok (body := b5) T.F5 sc5 (fun bs _ => rfl) (fun cdv A outer s H E hr => ?_)
  have nd := sc5.nd
  have tk : Takes (cxOf (CX P w) P w K mg base N5 "Length.__eq__" (defScope s5) (f 5) cdv A outer s H E) (fun cls d _ H => E cls d H) := takes_of rfl rfl rfl rfl
  have pa : PassesOwn (model P w) (cxOf (CX P w) P w K mg base N5 "Length.__eq__" (defScope s5) (f 5) cdv A outer s H E).A (cxOf (CX P w) P w K mg base N5 "Length.__eq__" (defScope s5) (f 5) cdv A outer s H E).env (cxOf (CX P w) P w K mg base N5 "Length.__eq__" (defScope s5) (f 5) cdv A outer s H E).xe := passes_of rfl
  exact ⟨_, (dss_one (ds_ret (de_and (de_isi rfl (.own _) T.IS0 rfl T.z_isinstance (de_v 1) (pe_glob rfl T.gC0 rfl)) (de_and1 (de_cmp (op_eqD hr.units) (ok_eq (c := ct K cl)) (de_fld (i := 0) rfl T.C0 T.na0_members (de_v 0)) (de_fld (i := 0) rfl T.C0 T.na0_members (de_v 1)) (nomark _))))))⟩
theorem ok15 (T : Tx K mg cl f pp fd) : FnOk P w K mg base (CX P w) 3 (f 15) (fd 15) ["first", "second", "sign"] (spD (ct K cl) 3 m15) := by
  have G1 := ok1 (P := P) (w := w) (base := base) T
  refine fn_ok (body := b15) T.F15 sc15 (fun bs _ => rfl) (fun cdv A outer s H E hr => ?_)
  have nd := sc15.nd
  have tk : Takes (cxOf (CX P w) P w K mg base N15 "joined" (defScope s15) (f 15) cdv A outer s H E) (fun cls d _ H => E cls d H) := takes_of rfl rfl rfl rfl
  have pa : PassesOwn (model P w) (cxOf (CX P w) P w K mg base N15 "joined" (defScope s15) (f 15) cdv A outer s H E).A (cxOf (CX P w) P w K mg base N15 "joined" (defScope s15) (f 15) cdv A outer s H E).env (cxOf (CX P w) P w K mg base N15 "joined" (defScope s15) (f 15) cdv A outer s H E).xe := passes_of rfl
  exact ⟨_, (dss_cons (ds_setLc (i := 3) (own := [("one", 4), ("other", 5)]) rfl nd rfl rfl rfl (di_zip rfl rfl T.z_zip (da_cons (de_fld (i := 0) rfl T.C0 T.na0_members (de_v 0)) (da_cons (de_fld (i := 0) rfl T.C0 T.na0_members (de_v 1)) da_nil))) (blkOk_by (own := [("one", 4), ("other", 5)]) (N := N15) (sc := defScope s15) (by decide +kernel)) (fun _ _ _ _ _ => (dgc_tup rfl (dgcs_cons (dgc_name (i := 4) nd rfl (Or.inl rfl) (by decide)) (dgcs_cons (dgc_name (i := 5) nd rfl (Or.inl rfl) (by decide)) dgcs_nil)))) (fun _ _ _ _ _ => dts_nil) (fun _ _ _ _ _ => (de_op op_addA ok_add (de_v 4) (de_op op_mulA ok_mul (de_v 2) (de_v 5)))))
  (dss_one (ds_ret (de_make (i := 0) (ms := [false, false, false]) tk rfl T.M0 G1 (hr.mono (by decide)) rfl T.gC0 T.B1 .nil (fun _ => rfl) (lenA1 (lenA1 (lenA1 lenA0))) rfl (da_cons (de_ix ix_seq (ok_ix (c := ct K cl)) (de_v 3) de_int (fun _ _ => rfl)) (da_cons (de_ix ix_seq (ok_ix (c := ct K cl)) (de_v 3) de_int (fun _ _ => rfl)) (da_cons (de_ix ix_seq (ok_ix (c := ct K cl)) (de_v 3) de_int (fun _ _ => rfl)) da_nil)))))))⟩
theorem ok16 (T : Tx K mg cl f pp fd) : FnOk P w K mg base (CX P w) 3 (f 16) (fd 16) ["value"] (spD (ct K cl) 1 m16) := by
  have G1 := ok1 (P := P) (w := w) (base := base) T
  refine fn_ok (body := b16) T.F16 sc16 (fun bs _ => rfl) (fun cdv A outer s H E hr => ?_)
  have nd := sc16.nd
  have tk : Takes (cxOf (CX P w) P w K mg base N16 "length_of" (defScope s16) (f 16) cdv A outer s H E) (fun cls d _ H => E cls d H) := takes_of rfl rfl rfl rfl
  have pa : PassesOwn (model P w) (cxOf (CX P w) P w K mg base N16 "length_of" (defScope s16) (f 16) cdv A outer s H E).A (cxOf (CX P w) P w K mg base N16 "length_of" (defScope s16) (f 16) cdv A outer s H E).env (cxOf (CX P w) P w K mg base N16 "length_of" (defScope s16) (f 16) cdv A outer s H E).xe := passes_of rfl
  exact ⟨_, (dss_one (ds_ret (de_if (dt_val (de_isi rfl (.own _) T.IS0 rfl T.z_isinstance (de_v 0) (pe_glob rfl T.gC0 rfl))) (de_v 0) (de_make (i := 0) (ms := [false, false, false]) tk rfl T.M0 G1 (hr.mono (by decide)) rfl T.gC0 T.B1 .nil (fun _ => rfl) (lenA1 (lenA1 (lenA1 lenA0))) rfl (da_cons de_int (da_cons de_int (da_cons (de_v 0) da_nil)))))))⟩
theorem ok6 (T : Tx K mg cl f pp fd) : FnOk P w K mg base (CX P w) 4 (f 6) (fd 6) ["self", "other"] (spD (ct K cl) 2 m6) := by
  have G15 := ok15 (P := P) (w := w) (base := base) T
  have G16 := ok16 (P := P) (w := w) (base := base) T
  refine fn_ok (body := b6) T.F6 sc6 (fun bs _ => rfl) (fun cdv A outer s H E hr => ?_)
  have nd := sc6.nd
  have tk : Takes (cxOf (CX P w) P w K mg base N6 "Length.__add__" (defScope s6) (f 6) cdv A outer s H E) (fun cls d _ H => E cls d H) := takes_of rfl rfl rfl rfl
  have pa : PassesOwn (model P w) (cxOf (CX P w) P w K mg base N6 "Length.__add__" (defScope s6) (f 6) cdv A outer s H E).A (cxOf (CX P w) P w K mg base N6 "Length.__add__" (defScope s6) (f 6) cdv A outer s H E).env (cxOf (CX P w) P w K mg base N6 "Length.__add__" (defScope s6) (f 6) cdv A outer s H E).xe := passes_of rfl
  exact ⟨_, (dss_one (ds_ret (de_call (ms := [false, false, false]) tk G15 (hr.mono (by decide)) rfl T.g15 T.F15.kp T.B15 .nil (fun _ => rfl) (lenA1 (lenA1 (lenA1 lenA0))) rfl (da_cons (de_v 0) (da_cons (de_call (ms := [false]) tk G16 (hr.mono (by decide)) rfl T.g16 T.F16.kp T.B16 .nil (fun _ => rfl) (lenA1 lenA0) rfl (da_cons (de_v 1) da_nil)) (da_cons de_int da_nil))))))⟩
theorem ok7 (T : Tx K mg cl f pp fd) : FnOk P w K mg base (CX P w) 4 (f 7) (fd 7) ["self", "other"] (spD (ct K cl) 2 m7) := by
  have G15 := ok15 (P := P) (w := w) (base := base) T
  have G16 := ok16 (P := P) (w := w) (base := base) T
  refine fn_ok (body := b7) T.F7 sc7 (fun bs _ => rfl) (fun cdv A outer s H E hr => ?_)
  have nd := sc7.nd
  have tk : Takes (cxOf (CX P w) P w K mg base N7 "Length.__radd__" (defScope s7) (f 7) cdv A outer s H E) (fun cls d _ H => E cls d H) := takes_of rfl rfl rfl rfl
  have pa : PassesOwn (model P w) (cxOf (CX P w) P w K mg base N7 "Length.__radd__" (defScope s7) (f 7) cdv A outer s H E).A (cxOf (CX P w) P w K mg base N7 "Length.__radd__" (defScope s7) (f 7) cdv A outer s H E).env (cxOf (CX P w) P w K mg base N7 "Length.__radd__" (defScope s7) (f 7) cdv A outer s H E).xe := passes_of rfl
  exact ⟨_, (dss_one (ds_ret (de_call (ms := [false, false, false]) tk G15 (hr.mono (by decide)) rfl T.g15 T.F15.kp T.B15 .nil (fun _ => rfl) (lenA1 (lenA1 (lenA1 lenA0))) rfl (da_cons (de_call (ms := [false]) tk G16 (hr.mono (by decide)) rfl T.g16 T.F16.kp T.B16 .nil (fun _ => rfl) (lenA1 lenA0) rfl (da_cons (de_v 1) da_nil)) (da_cons (de_v 0) (da_cons de_int da_nil))))))⟩
theorem ok8 (T : Tx K mg cl f pp fd) : FnOk P w K mg base (CX P w) 4 (f 8) (fd 8) ["self", "other"] (spD (ct K cl) 2 m8) := by
  have G15 := ok15 (P := P) (w := w) (base := base) T
  have G16 := ok16 (P := P) (w := w) (base := base) T
  refine fn_ok (body := b8) T.F8 sc8 (fun bs _ => rfl) (fun cdv A outer s H E hr => ?_)
  have nd := sc8.nd
  have tk : Takes (cxOf (CX P w) P w K mg base N8 "Length.__sub__" (defScope s8) (f 8) cdv A outer s H E) (fun cls d _ H => E cls d H) := takes_of rfl rfl rfl rfl
  have pa : PassesOwn (model P w) (cxOf (CX P w) P w K mg base N8 "Length.__sub__" (defScope s8) (f 8) cdv A outer s H E).A (cxOf (CX P w) P w K mg base N8 "Length.__sub__" (defScope s8) (f 8) cdv A outer s H E).env (cxOf (CX P w) P w K mg base N8 "Length.__sub__" (defScope s8) (f 8) cdv A outer s H E).xe := passes_of rfl
  exact ⟨_, (dss_one (ds_ret (de_call (ms := [false, false, false]) tk G15 (hr.mono (by decide)) rfl T.g15 T.F15.kp T.B15 .nil (fun _ => rfl) (lenA1 (lenA1 (lenA1 lenA0))) rfl (da_cons (de_v 0) (da_cons (de_call (ms := [false]) tk G16 (hr.mono (by decide)) rfl T.g16 T.F16.kp T.B16 .nil (fun _ => rfl) (lenA1 lenA0) rfl (da_cons (de_v 1) da_nil)) (da_cons (de_un un_neg ok_neg de_int) da_nil))))))⟩
theorem ok9 (T : Tx K mg cl f pp fd) : FnOk P w K mg base (CX P w) 4 (f 9) (fd 9) ["self", "other"] (spD (ct K cl) 2 m9) := by
  have G15 := ok15 (P := P) (w := w) (base := base) T
  have G16 := ok16 (P := P) (w := w) (base := base) T
  refine fn_ok (body := b9) T.F9 sc9 (fun bs _ => rfl) (fun cdv A outer s H E hr => ?_)
  have nd := sc9.nd
  have tk : Takes (cxOf (CX P w) P w K mg base N9 "Length.__rsub__" (defScope s9) (f 9) cdv A outer s H E) (fun cls d _ H => E cls d H) := takes_of rfl rfl rfl rfl
  have pa : PassesOwn (model P w) (cxOf (CX P w) P w K mg base N9 "Length.__rsub__" (defScope s9) (f 9) cdv A outer s H E).A (cxOf (CX P w) P w K mg base N9 "Length.__rsub__" (defScope s9) (f 9) cdv A outer s H E).env (cxOf (CX P w) P w K mg base N9 "Length.__rsub__" (defScope s9) (f 9) cdv A outer s H E).xe := passes_of rfl
  exact ⟨_, (dss_one (ds_ret (de_call (ms := [false, false, false]) tk G15 (hr.mono (by decide)) rfl T.g15 T.F15.kp T.B15 .nil (fun _ => rfl) (lenA1 (lenA1 (lenA1 lenA0))) rfl (da_cons (de_call (ms := [false]) tk G16 (hr.mono (by decide)) rfl T.g16 T.F16.kp T.B16 .nil (fun _ => rfl) (lenA1 lenA0) rfl (da_cons (de_v 1) da_nil)) (da_cons (de_v 0) (da_cons (de_un un_neg ok_neg de_int) da_nil))))))⟩
theorem ok10 (T : Tx K mg cl f pp fd) : FnOk P w K mg base (CX P w) 4 (f 10) (fd 10) ["self"] (spD (ct K cl) 1 m10) := by
  have G15 := ok15 (P := P) (w := w) (base := base) T
  have G1 := ok1 (P := P) (w := w) (base := base) T
  refine fn_ok (body := b10) T.F10 sc10 (fun bs _ => rfl) (fun cdv A outer s H E hr => ?_)
  have nd := sc10.nd
  have tk : Takes (cxOf (CX P w) P w K mg base N10 "Length.__neg__" (defScope s10) (f 10) cdv A outer s H E) (fun cls d _ H => E cls d H) := takes_of rfl rfl rfl rfl
  have pa : PassesOwn (model P w) (cxOf (CX P w) P w K mg base N10 "Length.__neg__" (defScope s10) (f 10) cdv A outer s H E).A (cxOf (CX P w) P w K mg base N10 "Length.__neg__" (defScope s10) (f 10) cdv A outer s H E).env (cxOf (CX P w) P w K mg base N10 "Length.__neg__" (defScope s10) (f 10) cdv A outer s H E).xe := passes_of rfl
  exact ⟨_, (dss_one (ds_ret (de_call (ms := [false, false, false]) tk G15 (hr.mono (by decide)) rfl T.g15 T.F15.kp T.B15 .nil (fun _ => rfl) (lenA1 (lenA1 (lenA1 lenA0))) rfl (da_cons (de_make (i := 0) (ms := [false, false, false]) tk rfl T.M0 G1 (hr.mono (by decide)) rfl T.gC0 T.B1 .nil (fun _ => rfl) (lenA1 (lenA1 (lenA1 lenA0))) rfl (da_cons de_int (da_cons de_int (da_cons de_int da_nil)))) (da_cons (de_v 0) (da_cons (de_un un_neg ok_neg de_int) da_nil))))))⟩
theorem ok11 (T : Tx K mg cl f pp fd) : FnOk P w K mg base (CX P w) 3 (f 11) (fd 11) ["self", "factor"] (spD (ct K cl) 2 m11) := by
  have G1 := ok1 (P := P) (w := w) (base := base) T
  refine fn_ok (body := b11) T.F11 sc11 (fun bs _ => rfl) (fun cdv A outer s H E hr => ?_)
  have nd := sc11.nd
  have tk : Takes (cxOf (CX P w) P w K mg base N11 "Length.__mul__" (defScope s11) (f 11) cdv A outer s H E) (fun cls d _ H => E cls d H) := takes_of rfl rfl rfl rfl
  have pa : PassesOwn (model P w) (cxOf (CX P w) P w K mg base N11 "Length.__mul__" (defScope s11) (f 11) cdv A outer s H E).A (cxOf (CX P w) P w K mg base N11 "Length.__mul__" (defScope s11) (f 11) cdv A outer s H E).env (cxOf (CX P w) P w K mg base N11 "Length.__mul__" (defScope s11) (f 11) cdv A outer s H E).xe := passes_of rfl
  exact ⟨_, (dss_one (ds_ret (de_make (i := 0) (ms := [false, false, false]) tk rfl T.M0 G1 (hr.mono (by decide)) rfl T.gC0 T.B1 .nil (fun _ => rfl) (lenA1 (lenA1 (lenA1 lenA0))) rfl (da_cons (de_op op_mulA ok_mul (de_ix ix_seq (ok_ix (c := ct K cl)) (de_fld (i := 0) rfl T.C0 T.na0_members (de_v 0)) de_int (fun _ _ => rfl)) (de_v 1)) (da_cons (de_op op_mulA ok_mul (de_ix ix_seq (ok_ix (c := ct K cl)) (de_fld (i := 0) rfl T.C0 T.na0_members (de_v 0)) de_int (fun _ _ => rfl)) (de_v 1)) (da_cons (de_op op_mulA ok_mul (de_ix ix_seq (ok_ix (c := ct K cl)) (de_fld (i := 0) rfl T.C0 T.na0_members (de_v 0)) de_int (fun _ _ => rfl)) (de_v 1)) da_nil))))))⟩
theorem ok12 (T : Tx K mg cl f pp fd) : FnOk P w K mg base (CX P w) 3 (f 12) (fd 12) ["self", "factor"] (spD (ct K cl) 2 m12) := by
  have G1 := ok1 (P := P) (w := w) (base := base) T
  refine fn_ok (body := b12) T.F12 sc12 (fun bs _ => rfl) (fun cdv A outer s H E hr => ?_)
  have nd := sc12.nd
  have tk : Takes (cxOf (CX P w) P w K mg base N12 "Length.__rmul__" (defScope s12) (f 12) cdv A outer s H E) (fun cls d _ H => E cls d H) := takes_of rfl rfl rfl rfl
  have pa : PassesOwn (model P w) (cxOf (CX P w) P w K mg base N12 "Length.__rmul__" (defScope s12) (f 12) cdv A outer s H E).A (cxOf (CX P w) P w K mg base N12 "Length.__rmul__" (defScope s12) (f 12) cdv A outer s H E).env (cxOf (CX P w) P w K mg base N12 "Length.__rmul__" (defScope s12) (f 12) cdv A outer s H E).xe := passes_of rfl
  exact ⟨_, (dss_one (ds_ret (de_make (i := 0) (ms := [false, false, false]) tk rfl T.M0 G1 (hr.mono (by decide)) rfl T.gC0 T.B1 .nil (fun _ => rfl) (lenA1 (lenA1 (lenA1 lenA0))) rfl (da_cons (de_op op_mulA ok_mul (de_ix ix_seq (ok_ix (c := ct K cl)) (de_fld (i := 0) rfl T.C0 T.na0_members (de_v 0)) de_int (fun _ _ => rfl)) (de_v 1)) (da_cons (de_op op_mulA ok_mul (de_ix ix_seq (ok_ix (c := ct K cl)) (de_fld (i := 0) rfl T.C0 T.na0_members (de_v 0)) de_int (fun _ _ => rfl)) (de_v 1)) (da_cons (de_op op_mulA ok_mul (de_ix ix_seq (ok_ix (c := ct K cl)) (de_fld (i := 0) rfl T.C0 T.na0_members (de_v 0)) de_int (fun _ _ => rfl)) (de_v 1)) da_nil))))))⟩
theorem ok13 (T : Tx K mg cl f pp fd) : FnOk P w K mg base (CX P w) 1 (f 13) (fd 13) ["self", "width", "height"] (spD (ct K cl) 3 m13) := by
  refine fn_ok (body := b13) T.F13 sc13 (fun bs _ => rfl) (fun cdv A outer s H E hr => ?_)
  have nd := sc13.nd
  have tk : Takes (cxOf (CX P w) P w K mg base N13 "Length.at" (defScope s13) (f 13) cdv A outer s H E) (fun cls d _ H => E cls d H) := takes_of rfl rfl rfl rfl
  have pa : PassesOwn (model P w) (cxOf (CX P w) P w K mg base N13 "Length.at" (defScope s13) (f 13) cdv A outer s H E).A (cxOf (CX P w) P w K mg base N13 "Length.at" (defScope s13) (f 13) cdv A outer s H E).env (cxOf (CX P w) P w K mg base N13 "Length.at" (defScope s13) (f 13) cdv A outer s H E).xe := passes_of rfl
  exact ⟨_, (dss_one (ds_ret (de_op op_addA ok_add (de_op op_addA ok_add (de_op op_mulA ok_mul (de_op op_mulA ok_mul (de_ix ix_seq (ok_ix (c := ct K cl)) (de_fld (i := 0) rfl T.C0 T.na0_members (de_v 0)) de_int (fun _ _ => rfl)) (de_v 1)) (de_v 2)) (de_op op_mulA ok_mul (de_ix ix_seq (ok_ix (c := ct K cl)) (de_fld (i := 0) rfl T.C0 T.na0_members (de_v 0)) de_int (fun _ _ => rfl)) (de_v 1))) (de_ix ix_seq (ok_ix (c := ct K cl)) (de_fld (i := 0) rfl T.C0 T.na0_members (de_v 0)) de_int (fun _ _ => rfl)))))⟩
theorem ok17 (T : Tx K mg cl f pp fd) : FnOk P w K mg base (CX P w) 3 (f 17) (fd 17) [] (spD (ct K cl) 0 m17) := by
  have G1 := ok1 (P := P) (w := w) (base := base) T
  refine fn_ok (body := b17) T.F17 sc17 (fun bs _ => rfl) (fun cdv A outer s H E hr => ?_)
  have nd := sc17.nd
  have tk : Takes (cxOf (CX P w) P w K mg base N17 "width" (defScope s17) (f 17) cdv A outer s H E) (fun cls d _ H => E cls d H) := takes_of rfl rfl rfl rfl
  have pa : PassesOwn (model P w) (cxOf (CX P w) P w K mg base N17 "width" (defScope s17) (f 17) cdv A outer s H E).A (cxOf (CX P w) P w K mg base N17 "width" (defScope s17) (f 17) cdv A outer s H E).env (cxOf (CX P w) P w K mg base N17 "width" (defScope s17) (f 17) cdv A outer s H E).xe := passes_of rfl
  exact ⟨_, (dss_one (ds_ret (de_make (i := 0) (ms := [false, false, false]) tk rfl T.M0 G1 (hr.mono (by decide)) rfl T.gC0 T.B1 .nil (fun _ => rfl) (lenA1 (lenA1 (lenA1 lenA0))) rfl (da_cons de_int (da_cons de_int (da_cons de_int da_nil))))))⟩
theorem ok18 (T : Tx K mg cl f pp fd) : FnOk P w K mg base (CX P w) 3 (f 18) (fd 18) [] (spD (ct K cl) 0 m18) := by
  have G1 := ok1 (P := P) (w := w) (base := base) T
  refine fn_ok (body := b18) T.F18 sc18 (fun bs _ => rfl) (fun cdv A outer s H E hr => ?_)
  have nd := sc18.nd
  have tk : Takes (cxOf (CX P w) P w K mg base N18 "squares" (defScope s18) (f 18) cdv A outer s H E) (fun cls d _ H => E cls d H) := takes_of rfl rfl rfl rfl
  have pa : PassesOwn (model P w) (cxOf (CX P w) P w K mg base N18 "squares" (defScope s18) (f 18) cdv A outer s H E).A (cxOf (CX P w) P w K mg base N18 "squares" (defScope s18) (f 18) cdv A outer s H E).env (cxOf (CX P w) P w K mg base N18 "squares" (defScope s18) (f 18) cdv A outer s H E).xe := passes_of rfl
  exact ⟨_, (dss_one (ds_ret (de_make (i := 0) (ms := [false, false, false]) tk rfl T.M0 G1 (hr.mono (by decide)) rfl T.gC0 T.B1 .nil (fun _ => rfl) (lenA1 (lenA1 (lenA1 lenA0))) rfl (da_cons de_int (da_cons de_int (da_cons de_int da_nil))))))⟩
theorem ok19 (T : Tx K mg cl f pp fd) : FnOk P w K mg base (CX P w) 1 (f 19) (fd 19) ["_law_script", "_law_k"] (spD (ct K cl) 2 m19) := by
  refine fn_ok (body := b19) T.F19 sc19 (fun bs _ => rfl) (fun cdv A outer s H E hr => ?_)
  have nd := sc19.nd
  have tk : Takes (cxOf (CX P w) P w K mg base N19 "_law_tape" (defScope s19) (f 19) cdv A outer s H E) (fun cls d _ H => E cls d H) := takes_of rfl rfl rfl rfl
  have pa : PassesOwn (model P w) (cxOf (CX P w) P w K mg base N19 "_law_tape" (defScope s19) (f 19) cdv A outer s H E).A (cxOf (CX P w) P w K mg base N19 "_law_tape" (defScope s19) (f 19) cdv A outer s H E).env (cxOf (CX P w) P w K mg base N19 "_law_tape" (defScope s19) (f 19) cdv A outer s H E).xe := passes_of rfl
  exact ⟨_, (dss_cons (ds_set (i := 2) nd rfl (Or.inl rfl) (de_if (dt_cmp op_lt ok_lt (de_v 1) (de_callB call_lenA (ok_len (c := ct K cl)) rfl T.z_len (by decide +kernel) (da_cons (de_v 0) da_nil)) (nomark _)) (de_ix ix_seq (ok_ix (c := ct K cl)) (de_v 0) (de_v 1) (fun _ _ => rfl)) de_int))
  (dss_one (ds_ret (de_lst (da_cons (de_callB call_abs ok_abs rfl T.z_abs (by decide +kernel) (da_cons (de_v 2) da_nil)) (da_cons (de_op op_addA ok_add (de_op op_mulA ok_mul de_int (de_v 1)) de_int) da_nil))))))⟩
theorem ok20 (T : Tx K mg cl f pp fd) : FnOk P w K mg base (CX P w) 1 (f 20) (fd 20) ["_law_tape_here", "_law_many"] (spD (ct K cl) 2 m20) := by
  refine fn_ok (body := b20) T.F20 sc20 (fun bs _ => rfl) (fun cdv A outer s H E hr => ?_)
  have nd := sc20.nd
  have tk : Takes (cxOf (CX P w) P w K mg base N20 "_law_pick" (defScope s20) (f 20) cdv A outer s H E) (fun cls d _ H => E cls d H) := takes_of rfl rfl rfl rfl
  have pa : PassesOwn (model P w) (cxOf (CX P w) P w K mg base N20 "_law_pick" (defScope s20) (f 20) cdv A outer s H E).A (cxOf (CX P w) P w K mg base N20 "_law_pick" (defScope s20) (f 20) cdv A outer s H E).env (cxOf (CX P w) P w K mg base N20 "_law_pick" (defScope s20) (f 20) cdv A outer s H E).xe := passes_of rfl
  exact ⟨_, (dss_cons (ds_if (dt_cmp op_ge ok_ge (de_ix ix_seq (ok_ix (c := ct K cl)) (de_v 0) de_int (fun _ _ => rfl)) (de_op op_pow ok_pow de_int de_int) (nomark _))
  (dss_cons (ds_set (i := 3) nd rfl (Or.inl rfl) (de_op op_modN ok_mod (de_callTy call_int1 ok_int rfl T.z_int (by decide +kernel) (da_cons (de_ix ix_seq (ok_ix (c := ct K cl)) (de_v 0) de_int (fun _ _ => rfl)) da_nil)) (de_v 1)))
  (dss_cons (ds_setL (j := 0) (pv 0) de_int (de_op op_fdivD ok_div (de_ix ix_seq (ok_ix (c := ct K cl)) (de_v 0) de_int (fun _ _ => rfl)) (de_v 1)))
  (dss_one (ds_ret (de_v 3))))) dss_nil)
  (dss_cons (ds_setL (j := 0) (pv 0) de_int (de_op op_modN ok_mod (de_callTy call_int1 ok_int rfl T.z_int (by decide +kernel) (da_cons (de_op op_addA ok_add (de_op op_addA ok_add (de_op op_mulA ok_mul (de_ix ix_seq (ok_ix (c := ct K cl)) (de_v 0) de_int (fun _ _ => rfl)) de_int) (de_op op_mulA ok_mul (de_ix ix_seq (ok_ix (c := ct K cl)) (de_v 0) de_int (fun _ _ => rfl)) de_int)) de_int) da_nil)) de_int))
  (dss_cons (ds_set (i := 2) nd rfl (Or.inl rfl) (de_op op_modN ok_mod (de_callTy call_int1 ok_int rfl T.z_int (by decide +kernel) (da_cons (de_op op_addA ok_add (de_op op_addA ok_add (de_op op_mulA ok_mul (de_ix ix_seq (ok_ix (c := ct K cl)) (de_v 0) de_int (fun _ _ => rfl)) (de_ix ix_seq (ok_ix (c := ct K cl)) (de_v 0) de_int (fun _ _ => rfl))) (de_op op_mulA ok_mul (de_ix ix_seq (ok_ix (c := ct K cl)) (de_v 0) de_int (fun _ _ => rfl)) de_int)) de_int) da_nil)) de_int))
  (dss_one (ds_ret (de_op op_modN ok_mod (de_callTy call_int1 ok_int rfl T.z_int (by decide +kernel) (da_cons (de_op op_fdivD ok_div (de_v 2) de_int) da_nil)) (de_v 1)))))))⟩
theorem ok21 (T : Tx K mg cl f pp fd) : FnOk P w K mg base (CX P w) 2 (f 21) (fd 21) ["_law_tape_here"] (spD (ct K cl) 1 m21) := by
  have G20 := ok20 (P := P) (w := w) (base := base) T
  refine fn_ok (body := b21) T.F21 sc21 (fun bs _ => rfl) (fun cdv A outer s H E hr => ?_)
  have nd := sc21.nd
  have tk : Takes (cxOf (CX P w) P w K mg base N21 "_law_members" (defScope s21) (f 21) cdv A outer s H E) (fun cls d _ H => E cls d H) := takes_of rfl rfl rfl rfl
  have pa : PassesOwn (model P w) (cxOf (CX P w) P w K mg base N21 "_law_members" (defScope s21) (f 21) cdv A outer s H E).A (cxOf (CX P w) P w K mg base N21 "_law_members" (defScope s21) (f 21) cdv A outer s H E).env (cxOf (CX P w) P w K mg base N21 "_law_members" (defScope s21) (f 21) cdv A outer s H E).xe := passes_of rfl
  exact ⟨_, (dss_cons (ds_set (i := 1) nd rfl (Or.inl rfl) (de_lst da_nil))
  (dss_cons (ds_for pa rfl (di_range1 rfl T.z_range (da_cons de_int da_nil)) (dg_name (i := 2) nd rfl (Or.inl rfl))
  (dss_cons (ds_set (i := 3) nd rfl (Or.inl rfl) (de_ix ix_seq (ok_ix (c := ct K cl)) (de_lst (da_cons de_int (da_cons de_int (da_cons (de_op op_pow ok_pow de_int de_int) (da_cons (de_op op_pow ok_pow de_int de_int) da_nil))))) (de_call (ms := [true, false]) tk G20 (hr.mono (by decide)) rfl T.g20 T.F20.kp T.B20 .nil (fun _ => rfl) (lenA1 (lenA1 lenA0)) rfl (da_cons (de_v 0) (da_cons de_int da_nil))) (fun _ _ => rfl)))
  (dss_one (ds_expr (de_app (j := 1) (pv 1) rfl (de_op op_sub ok_sub (de_call (ms := [true, false]) tk G20 (hr.mono (by decide)) rfl T.g20 T.F20.kp T.B20 .nil (fun _ => rfl) (lenA1 (lenA1 lenA0)) rfl (da_cons (de_v 0) (da_cons (de_op op_addA ok_add (de_op op_mulA ok_mul de_int (de_v 3)) de_int) da_nil))) (de_v 3)))))))
  (dss_one (ds_ret (de_v 1)))))⟩
theorem ok22 (T : Tx K mg cl f pp fd) : FnOk P w K mg base (CX P w) 3 (f 22) (fd 22) ["_law_length", "_law_members_here"] (spD (ct K cl) 2 m22) := by
  have G2 := ok2 (P := P) (w := w) (base := base) T
  have G3 := ok3 (P := P) (w := w) (base := base) T
  have G4 := ok4 (P := P) (w := w) (base := base) T
  refine fn_ok (body := b22) T.F22 sc22 (fun bs _ => rfl) (fun cdv A outer s H E hr => ?_)
  have nd := sc22.nd
  have tk : Takes (cxOf (CX P w) P w K mg base N22 "_law_is" (defScope s22) (f 22) cdv A outer s H E) (fun cls d _ H => E cls d H) := takes_of rfl rfl rfl rfl
  have pa : PassesOwn (model P w) (cxOf (CX P w) P w K mg base N22 "_law_is" (defScope s22) (f 22) cdv A outer s H E).A (cxOf (CX P w) P w K mg base N22 "_law_is" (defScope s22) (f 22) cdv A outer s H E).env (cxOf (CX P w) P w K mg base N22 "_law_is" (defScope s22) (f 22) cdv A outer s H E).xe := passes_of rfl
  exact ⟨_, (dss_one (ds_ret (de_and (de_isi rfl (.own _) T.IS1 rfl T.z_isinstance (de_v 0) (pe_glob rfl T.gC0 rfl)) (de_and1 (de_cmp (op_eqD hr.units) (ok_eq (c := ct K cl)) (de_lst (da_cons (de_prop (i := 0) rfl T.C0 T.P2 G2 (hr.mono (by decide)) T.B2 (de_v 0)) (da_cons (de_prop (i := 0) rfl T.C0 T.P3 G3 (hr.mono (by decide)) T.B3 (de_v 0)) (da_cons (de_prop (i := 0) rfl T.C0 T.P4 G4 (hr.mono (by decide)) T.B4 (de_v 0)) da_nil)))) (de_v 1) (nomark _))))))⟩
theorem ok23 (T : Tx K mg cl f pp fd) : FnOk P w K mg base (CX P w) 5 (f 23) (fd 23) ["_law_one", "_law_other", "_law_first", "_law_second"] (spD (ct K cl) 4 m23) := by
  have G22 := ok22 (P := P) (w := w) (base := base) T
  have G6 := ok6 (P := P) (w := w) (base := base) T
  have G8 := ok8 (P := P) (w := w) (base := base) T
  have G10 := ok10 (P := P) (w := w) (base := base) T
  refine fn_ok (body := b23) T.F23 sc23 (fun bs _ => rfl) (fun cdv A outer s H E hr => ?_)
  have nd := sc23.nd
  have tk : Takes (cxOf (CX P w) P w K mg base N23 "_law_sums" (defScope s23) (f 23) cdv A outer s H E) (fun cls d _ H => E cls d H) := takes_of rfl rfl rfl rfl
  have pa : PassesOwn (model P w) (cxOf (CX P w) P w K mg base N23 "_law_sums" (defScope s23) (f 23) cdv A outer s H E).A (cxOf (CX P w) P w K mg base N23 "_law_sums" (defScope s23) (f 23) cdv A outer s H E).env (cxOf (CX P w) P w K mg base N23 "_law_sums" (defScope s23) (f 23) cdv A outer s H E).xe := passes_of rfl
  exact ⟨_, (dss_cons (ds_setLc (i := 4) (own := [("_law_k", 6)]) rfl nd rfl rfl rfl (di_range1 rfl T.z_range (da_cons de_int da_nil)) (blkOk_by (own := [("_law_k", 6)]) (N := N23) (sc := defScope s23) (by decide +kernel)) (fun _ _ _ _ _ => (dgc_name (i := 6) nd rfl (Or.inl rfl) (by decide))) (fun _ _ _ _ _ => dts_nil) (fun _ _ _ _ _ => (de_op op_addA ok_add (de_ix ix_seq (ok_ix (c := ct K cl)) (de_v 2) (de_v 6) (fun _ _ => rfl)) (de_ix ix_seq (ok_ix (c := ct K cl)) (de_v 3) (de_v 6) (fun _ _ => rfl)))))
  (dss_cons (ds_setLc (i := 5) (own := [("_law_k", 6)]) rfl nd rfl rfl rfl (di_range1 rfl T.z_range (da_cons de_int da_nil)) (blkOk_by (own := [("_law_k", 6)]) (N := N23) (sc := defScope s23) (by decide +kernel)) (fun _ _ _ _ _ => (dgc_name (i := 6) nd rfl (Or.inl rfl) (by decide))) (fun _ _ _ _ _ => dts_nil) (fun _ _ _ _ _ => (de_op op_sub ok_sub (de_ix ix_seq (ok_ix (c := ct K cl)) (de_v 2) (de_v 6) (fun _ _ => rfl)) (de_ix ix_seq (ok_ix (c := ct K cl)) (de_v 3) (de_v 6) (fun _ _ => rfl)))))
  (dss_one (ds_ret (de_and (de_call (ms := [false, false]) tk G22 (hr.mono (by decide)) rfl T.g22 T.F22.kp T.B22 .nil (fun _ => rfl) (lenA1 (lenA1 lenA0)) rfl (da_cons (de_ownLL (i := 0) tk rfl T.O0_Add G6 (hr.mono (by decide)) T.B6 (de_v 0) (de_v 1)) (da_cons (de_v 4) da_nil))) (de_and (de_call (ms := [false, false]) tk G22 (hr.mono (by decide)) rfl T.g22 T.F22.kp T.B22 .nil (fun _ => rfl) (lenA1 (lenA1 lenA0)) rfl (da_cons (de_ownLL (i := 0) tk rfl T.O0_Sub G8 (hr.mono (by decide)) T.B8 (de_v 0) (de_v 1)) (da_cons (de_v 5) da_nil))) (de_and1 (de_call (ms := [false, false]) tk G22 (hr.mono (by decide)) rfl T.g22 T.F22.kp T.B22 .nil (fun _ => rfl) (lenA1 (lenA1 lenA0)) rfl (da_cons (de_own1 (i := 0) (.inl rfl) tk rfl T.U0_USub G10 (hr.mono (by decide)) T.B10 (de_v 0)) (da_cons (de_lc (own := [("_law_member", 7)]) rfl nd (di_list rfl (de_v 2)) (blkOk_by (own := [("_law_member", 7)]) (N := N23) (sc := defScope s23) (by decide +kernel)) (fun _ _ _ _ _ => (dgc_name (i := 7) nd rfl (Or.inl rfl) (by decide))) (fun _ _ _ _ _ => dts_nil) (fun _ _ _ _ _ => (de_un un_neg ok_neg (de_v 7)))) da_nil))))))))))⟩
theorem ok24 (T : Tx K mg cl f pp fd) : FnOk P w K mg base (CX P w) 5 (f 24) (fd 24) ["_law_length", "_law_members_here", "_law_number"] (spD (ct K cl) 3 m24) := by
  have G22 := ok22 (P := P) (w := w) (base := base) T
  have G6 := ok6 (P := P) (w := w) (base := base) T
  have G7 := ok7 (P := P) (w := w) (base := base) T
  have G8 := ok8 (P := P) (w := w) (base := base) T
  have G9 := ok9 (P := P) (w := w) (base := base) T
  have G11 := ok11 (P := P) (w := w) (base := base) T
  have G12 := ok12 (P := P) (w := w) (base := base) T
  refine fn_ok (body := b24) T.F24 sc24 (fun bs _ => rfl) (fun cdv A outer s H E hr => ?_)
  have nd := sc24.nd
  have tk : Takes (cxOf (CX P w) P w K mg base N24 "_law_with" (defScope s24) (f 24) cdv A outer s H E) (fun cls d _ H => E cls d H) := takes_of rfl rfl rfl rfl
  have pa : PassesOwn (model P w) (cxOf (CX P w) P w K mg base N24 "_law_with" (defScope s24) (f 24) cdv A outer s H E).A (cxOf (CX P w) P w K mg base N24 "_law_with" (defScope s24) (f 24) cdv A outer s H E).env (cxOf (CX P w) P w K mg base N24 "_law_with" (defScope s24) (f 24) cdv A outer s H E).xe := passes_of rfl
  exact ⟨_, (dss_cons (ds_set (i := 3) nd rfl (Or.inl rfl) (de_op op_addA ok_add (de_sl rfl (de_v 1) do_none (do_some de_int)) (de_lst (da_cons (de_op op_addA ok_add (de_ix ix_seq (ok_ix (c := ct K cl)) (de_v 1) de_int (fun _ _ => rfl)) (de_v 2)) da_nil))))
  (dss_cons (ds_set (i := 4) nd rfl (Or.inl rfl) (de_op op_addA ok_add (de_sl rfl (de_v 1) do_none (do_some de_int)) (de_lst (da_cons (de_op op_sub ok_sub (de_ix ix_seq (ok_ix (c := ct K cl)) (de_v 1) de_int (fun _ _ => rfl)) (de_v 2)) da_nil))))
  (dss_cons (ds_if (DW.dt (dw_or (dt_not (dt_val (de_call (ms := [false, false]) tk G22 (hr.mono (by decide)) rfl T.g22 T.F22.kp T.B22 .nil (fun _ => rfl) (lenA1 (lenA1 lenA0)) rfl (da_cons (de_ownLI (i := 0) tk rfl T.O0_Add T.OI0_Add G6 (hr.mono (by decide)) T.B6 (de_v 0) (de_v 2)) (da_cons (de_v 3) da_nil))))) (dw_or1 (dt_not (dt_val (de_call (ms := [false, false]) tk G22 (hr.mono (by decide)) rfl T.g22 T.F22.kp T.B22 .nil (fun _ => rfl) (lenA1 (lenA1 lenA0)) rfl (da_cons (de_ownIL (i := 0) tk rfl decl_add T.OR0_Add G7 (hr.mono (by decide)) T.B7 (de_v 2) (de_v 0)) (da_cons (de_v 3) da_nil))))))))
  (dss_one (ds_ret de_bl)) dss_nil)
  (dss_cons (ds_if (DW.dt (dw_or (dt_not (dt_val (de_call (ms := [false, false]) tk G22 (hr.mono (by decide)) rfl T.g22 T.F22.kp T.B22 .nil (fun _ => rfl) (lenA1 (lenA1 lenA0)) rfl (da_cons (de_ownLI (i := 0) tk rfl T.O0_Sub T.OI0_Sub G8 (hr.mono (by decide)) T.B8 (de_v 0) (de_v 2)) (da_cons (de_v 4) da_nil))))) (dw_or1 (dt_not (dt_val (de_call (ms := [false, false]) tk G22 (hr.mono (by decide)) rfl T.g22 T.F22.kp T.B22 .nil (fun _ => rfl) (lenA1 (lenA1 lenA0)) rfl (da_cons (de_ownIL (i := 0) tk rfl decl_sub T.OR0_Sub G9 (hr.mono (by decide)) T.B9 (de_v 2) (de_v 0)) (da_cons (de_lc (own := [("_law_member", 6)]) rfl nd (di_list rfl (de_v 4)) (blkOk_by (own := [("_law_member", 6)]) (N := N24) (sc := defScope s24) (by decide +kernel)) (fun _ _ _ _ _ => (dgc_name (i := 6) nd rfl (Or.inl rfl) (by decide))) (fun _ _ _ _ _ => dts_nil) (fun _ _ _ _ _ => (de_un un_neg ok_neg (de_v 6)))) da_nil))))))))
  (dss_one (ds_ret de_bl)) dss_nil)
  (dss_cons (ds_setLc (i := 5) (own := [("_law_member", 6)]) rfl nd rfl rfl rfl (di_list rfl (de_v 1)) (blkOk_by (own := [("_law_member", 6)]) (N := N24) (sc := defScope s24) (by decide +kernel)) (fun _ _ _ _ _ => (dgc_name (i := 6) nd rfl (Or.inl rfl) (by decide))) (fun _ _ _ _ _ => dts_nil) (fun _ _ _ _ _ => (de_op op_mulA ok_mul (de_v 6) (de_v 2))))
  (dss_one (ds_ret (de_and (de_call (ms := [false, false]) tk G22 (hr.mono (by decide)) rfl T.g22 T.F22.kp T.B22 .nil (fun _ => rfl) (lenA1 (lenA1 lenA0)) rfl (da_cons (de_ownLI (i := 0) tk rfl T.O0_Mult T.OI0_Mult G11 (hr.mono (by decide)) T.B11 (de_v 0) (de_v 2)) (da_cons (de_v 5) da_nil))) (de_and1 (de_call (ms := [false, false]) tk G22 (hr.mono (by decide)) rfl T.g22 T.F22.kp T.B22 .nil (fun _ => rfl) (lenA1 (lenA1 lenA0)) rfl (da_cons (de_ownIL (i := 0) tk rfl decl_mul T.OR0_Mult G12 (hr.mono (by decide)) T.B12 (de_v 2) (de_v 0)) (da_cons (de_v 5) da_nil))))))))))))⟩
theorem ok25 (T : Tx K mg cl f pp fd) : FnOk P w K mg base (CX P w) 6 (f 25) (fd 25) ["_law_script"] (spD (ct K cl) 1 m25) := by
  have G19 := ok19 (P := P) (w := w) (base := base) T
  have G21 := ok21 (P := P) (w := w) (base := base) T
  have G20 := ok20 (P := P) (w := w) (base := base) T
  have G1 := ok1 (P := P) (w := w) (base := base) T
  have G23 := ok23 (P := P) (w := w) (base := base) T
  have G24 := ok24 (P := P) (w := w) (base := base) T
  have G5 := ok5 (P := P) (w := w) (base := base) T
  have G13 := ok13 (P := P) (w := w) (base := base) T
  have G22 := ok22 (P := P) (w := w) (base := base) T
  have G17 := ok17 (P := P) (w := w) (base := base) T
  have G18 := ok18 (P := P) (w := w) (base := base) T
  refine fn_ok (body := b25) T.F25 sc25 (fun bs _ => rfl) (fun cdv A outer s H E hr => ?_)
  have nd := sc25.nd
  have tk : Takes (cxOf (CX P w) P w K mg base N25 "law" (defScope s25) (f 25) cdv A outer s H E) (fun cls d _ H => E cls d H) := takes_of rfl rfl rfl rfl
  have pa : PassesOwn (model P w) (cxOf (CX P w) P w K mg base N25 "law" (defScope s25) (f 25) cdv A outer s H E).A (cxOf (CX P w) P w K mg base N25 "law" (defScope s25) (f 25) cdv A outer s H E).env (cxOf (CX P w) P w K mg base N25 "law" (defScope s25) (f 25) cdv A outer s H E).xe := passes_of rfl
  exact ⟨_, (dss_cons (ds_set (i := 1) nd rfl (Or.inl rfl) (de_call (ms := [false, false]) tk G19 (hr.mono (by decide)) rfl T.g19 T.F19.kp T.B19 .nil (fun _ => rfl) (lenA1 (lenA1 lenA0)) rfl (da_cons (de_v 0) (da_cons de_int da_nil))))
  (dss_cons (ds_set (i := 2) nd rfl (Or.inl rfl) (de_call (ms := [true]) tk G21 (hr.mono (by decide)) rfl T.g21 T.F21.kp T.B21 .nil (fun _ => rfl) (lenA1 lenA0) rfl (da_cons (de_v 1) da_nil)))
  (dss_cons (ds_set (i := 3) nd rfl (Or.inl rfl) (de_callF (ms := []) tk G21 (hr.mono (by decide)) rfl T.g21 T.F21.kp T.B21 .nil (fun _ => rfl) lenA0 rfl (de_call (ms := [false, false]) tk G19 (hr.mono (by decide)) rfl T.g19 T.F19.kp T.B19 .nil (fun _ => rfl) (lenA1 (lenA1 lenA0)) rfl (da_cons (de_v 0) (da_cons de_int da_nil))) da_nil))
  (dss_cons (ds_if (dt_cmp (op_eqD hr.units) (ok_eq (c := ct K cl)) (de_call (ms := [true, false]) tk G20 (hr.mono (by decide)) rfl T.g20 T.F20.kp T.B20 .nil (fun _ => rfl) (lenA1 (lenA1 lenA0)) rfl (da_cons (de_v 1) (da_cons de_int da_nil))) de_int (nomark _))
  (dss_cons (ds_setLc (i := 3) (own := [("_law_member", 10)]) rfl nd rfl rfl rfl (di_list rfl (de_v 2)) (blkOk_by (own := [("_law_member", 10)]) (N := N25) (sc := defScope s25) (by decide +kernel)) (fun _ _ _ _ _ => (dgc_name (i := 10) nd rfl (Or.inl rfl) (by decide))) (fun _ _ _ _ _ => dts_nil) (fun _ _ _ _ _ => (de_v 10)))
  (dss_one (ds_if (dt_cmp (op_eqD hr.units) (ok_eq (c := ct K cl)) (de_call (ms := [true, false]) tk G20 (hr.mono (by decide)) rfl T.g20 T.F20.kp T.B20 .nil (fun _ => rfl) (lenA1 (lenA1 lenA0)) rfl (da_cons (de_v 1) (da_cons de_int da_nil))) de_int (nomark _))
  (dss_one (ds_setL (j := 3) (pv 3) (de_call (ms := [true, false]) tk G20 (hr.mono (by decide)) rfl T.g20 T.F20.kp T.B20 .nil (fun _ => rfl) (lenA1 (lenA1 lenA0)) rfl (da_cons (de_v 1) (da_cons de_int da_nil))) de_int)) dss_nil))) dss_nil)
  (dss_cons (ds_set (i := 4) nd rfl (Or.inl rfl) (de_ix ix_seq (ok_ix (c := ct K cl)) (de_call (ms := [true]) tk G21 (hr.mono (by decide)) rfl T.g21 T.F21.kp T.B21 .nil (fun _ => rfl) (lenA1 lenA0) rfl (da_cons (de_v 1) da_nil)) de_int (fun _ _ => rfl)))
  (dss_cons (ds_set (i := 5) nd rfl (Or.inl rfl) (de_make (i := 0) (ms := [false, false, false]) tk rfl T.M0 G1 (hr.mono (by decide)) rfl T.gC0 T.B1 .nil (fun _ => rfl) (lenA1 (lenA1 (lenA1 lenA0))) rfl (da_cons (de_ix ix_seq (ok_ix (c := ct K cl)) (de_v 2) de_int (fun _ _ => rfl)) (da_cons (de_ix ix_seq (ok_ix (c := ct K cl)) (de_v 2) de_int (fun _ _ => rfl)) (da_cons (de_ix ix_seq (ok_ix (c := ct K cl)) (de_v 2) de_int (fun _ _ => rfl)) da_nil)))))
  (dss_cons (ds_set (i := 6) nd rfl (Or.inl rfl) (de_make (i := 0) (ms := [false, false, false]) tk rfl T.M0 G1 (hr.mono (by decide)) rfl T.gC0 T.B1 .nil (fun _ => rfl) (lenA1 (lenA1 (lenA1 lenA0))) rfl (da_cons (de_ix ix_seq (ok_ix (c := ct K cl)) (de_v 3) de_int (fun _ _ => rfl)) (da_cons (de_ix ix_seq (ok_ix (c := ct K cl)) (de_v 3) de_int (fun _ _ => rfl)) (da_cons (de_ix ix_seq (ok_ix (c := ct K cl)) (de_v 3) de_int (fun _ _ => rfl)) da_nil)))))
  (dss_cons (ds_if (DW.dt (dw_or (dt_not (dt_val (de_call (ms := [false, false, false, false]) tk G23 (hr.mono (by decide)) rfl T.g23 T.F23.kp T.B23 .nil (fun _ => rfl) (lenA1 (lenA1 (lenA1 (lenA1 lenA0)))) rfl (da_cons (de_v 5) (da_cons (de_v 6) (da_cons (de_v 2) (da_cons (de_v 3) da_nil))))))) (dw_or1 (dt_not (dt_val (de_call (ms := [false, false, false]) tk G24 (hr.mono (by decide)) rfl T.g24 T.F24.kp T.B24 .nil (fun _ => rfl) (lenA1 (lenA1 (lenA1 lenA0))) rfl (da_cons (de_v 5) (da_cons (de_v 2) (da_cons (de_v 4) da_nil)))))))))
  (dss_one (ds_ret de_bl)) dss_nil)
  (dss_cons (ds_if (DW.dt (dw_or (dt_cmp (op_neD hr.units) (ok_ne (c := ct K cl)) (de_ownE (i := 0) tk rfl T.E0 T.Q0_0_ G5 (hr.mono (by decide)) T.B5 (de_v 5) (de_v 6)) (de_cmp (op_eqD hr.units) (ok_eq (c := ct K cl)) (de_v 2) (de_v 3) (nomark _)) (nomark _)) (dw_or (dt_cmp (op_eqD hr.units) (ok_eq (c := ct K cl)) (de_ownN (i := 0) tk rfl T.E0 T.N0 T.Q0_0_ G5 (hr.mono (by decide)) T.B5 (de_v 5) (de_v 6)) (de_cmp (op_eqD hr.units) (ok_eq (c := ct K cl)) (de_v 2) (de_v 3) (nomark _)) (nomark _)) (dw_or1 (dt_ownE (i := 0) tk rfl T.E0 T.Q0__int G5 (hr.mono (by decide)) T.B5 (de_v 5) (de_ix ix_seq (ok_ix (c := ct K cl)) (de_v 2) de_int (fun _ _ => rfl)))))))
  (dss_one (ds_ret de_bl)) dss_nil)
  (dss_cons (ds_set (i := 7) nd rfl (Or.inl rfl) (de_op op_addA ok_add de_int (de_call (ms := [true, false]) tk G20 (hr.mono (by decide)) rfl T.g20 T.F20.kp T.B20 .nil (fun _ => rfl) (lenA1 (lenA1 lenA0)) rfl (da_cons (de_v 1) (da_cons (de_ix ix_seq (ok_ix (c := ct K cl)) (de_lst (da_cons de_int (da_cons (de_op op_pow ok_pow de_int de_int) da_nil))) (de_call (ms := [true, false]) tk G20 (hr.mono (by decide)) rfl T.g20 T.F20.kp T.B20 .nil (fun _ => rfl) (lenA1 (lenA1 lenA0)) rfl (da_cons (de_v 1) (da_cons de_int da_nil))) (fun _ _ => rfl)) da_nil)))))
  (dss_cons (ds_set (i := 8) nd rfl (Or.inl rfl) (de_op op_addA ok_add de_int (de_call (ms := [true, false]) tk G20 (hr.mono (by decide)) rfl T.g20 T.F20.kp T.B20 .nil (fun _ => rfl) (lenA1 (lenA1 lenA0)) rfl (da_cons (de_v 1) (da_cons (de_ix ix_seq (ok_ix (c := ct K cl)) (de_lst (da_cons de_int (da_cons (de_op op_pow ok_pow de_int de_int) da_nil))) (de_call (ms := [true, false]) tk G20 (hr.mono (by decide)) rfl T.g20 T.F20.kp T.B20 .nil (fun _ => rfl) (lenA1 (lenA1 lenA0)) rfl (da_cons (de_v 1) (da_cons de_int da_nil))) (fun _ _ => rfl)) da_nil)))))
  (dss_cons (ds_set (i := 9) nd rfl (Or.inl rfl) (de_op op_addA ok_add (de_op op_addA ok_add (de_op op_mulA ok_mul (de_op op_mulA ok_mul (de_ix ix_seq (ok_ix (c := ct K cl)) (de_v 2) de_int (fun _ _ => rfl)) (de_v 7)) (de_v 8)) (de_op op_mulA ok_mul (de_ix ix_seq (ok_ix (c := ct K cl)) (de_v 2) de_int (fun _ _ => rfl)) (de_v 7))) (de_ix ix_seq (ok_ix (c := ct K cl)) (de_v 2) de_int (fun _ _ => rfl))))
  (dss_cons (ds_if (DW.dt (dw_or (dt_cmp (op_neD hr.units) (ok_ne (c := ct K cl)) (de_meth (i := 0) (ms := [false, false, false]) tk rfl (by show _ ∉ fnT 0; decide +kernel) T.C0 T.Me0_13 G13 (hr.mono (by decide)) T.B13 .nil (fun _ => rfl) (lenA1 (lenA1 lenA0)) rfl (de_v 5) (da_cons (de_v 7) (da_cons (de_v 8) da_nil))) (de_v 9) (nomark _)) (dw_or1 (dt_not (dt_val (de_call (ms := [false, false]) tk G22 (hr.mono (by decide)) rfl T.g22 T.F22.kp T.B22 .nil (fun _ => rfl) (lenA1 (lenA1 lenA0)) rfl (da_cons (de_v 5) (da_cons (de_v 2) da_nil))))))))
  (dss_one (ds_ret de_bl)) dss_nil)
  (dss_cons (ds_if (DW.dt (dw_or (dt_cmp (op_neD hr.units) (ok_ne (c := ct K cl)) (de_meth (i := 0) (ms := [false, false, false]) tk rfl (by show _ ∉ fnT 0; decide +kernel) T.C0 T.Me0_13 G13 (hr.mono (by decide)) T.B13 .nil (fun _ => rfl) (lenA1 (lenA1 lenA0)) rfl (de_v 5) (da_cons (de_v 8) (da_cons de_int da_nil))) (de_op op_addA ok_add (de_op op_addA ok_add (de_op op_mulA ok_mul (de_op op_mulA ok_mul (de_ix ix_seq (ok_ix (c := ct K cl)) (de_v 2) de_int (fun _ _ => rfl)) (de_v 8)) de_int) (de_op op_mulA ok_mul (de_ix ix_seq (ok_ix (c := ct K cl)) (de_v 2) de_int (fun _ _ => rfl)) (de_v 8))) (de_ix ix_seq (ok_ix (c := ct K cl)) (de_v 2) de_int (fun _ _ => rfl))) (nomark _)) (dw_or1 (dt_cmp (op_neD hr.units) (ok_ne (c := ct K cl)) (de_meth (i := 0) (ms := [false, false, false]) tk rfl (by show _ ∉ fnT 0; decide +kernel) T.C0 T.Me0_13 G13 (hr.mono (by decide)) T.B13 .nil (fun _ => rfl) (lenA1 (lenA1 lenA0)) rfl (de_v 5) (da_cons (de_v 7) (da_cons (de_v 8) da_nil))) (de_v 9) (nomark _)))))
  (dss_one (ds_ret de_bl)) dss_nil)
  (dss_one (ds_ret (de_and (de_call (ms := [false, false]) tk G22 (hr.mono (by decide)) rfl T.g22 T.F22.kp T.B22 .nil (fun _ => rfl) (lenA1 (lenA1 lenA0)) rfl (da_cons (de_call0 (ms := []) tk G17 (hr.mono (by decide)) rfl T.g17 T.F17.kp T.B17 .nil (fun _ => rfl) rfl) (da_cons (de_lst (da_cons de_int (da_cons de_int (da_cons de_int da_nil)))) da_nil))) (de_and (de_call (ms := [false, false]) tk G22 (hr.mono (by decide)) rfl T.g22 T.F22.kp T.B22 .nil (fun _ => rfl) (lenA1 (lenA1 lenA0)) rfl (da_cons (de_call0 (ms := []) tk G18 (hr.mono (by decide)) rfl T.g18 T.F18.kp T.B18 .nil (fun _ => rfl) rfl) (da_cons (de_lst (da_cons de_int (da_cons de_int (da_cons de_int da_nil)))) da_nil))) (de_and1 (de_call (ms := [false, false]) tk G22 (hr.mono (by decide)) rfl T.g22 T.F22.kp T.B22 .nil (fun _ => rfl) (lenA1 (lenA1 lenA0)) rfl (da_cons (de_v 6) (da_cons (de_v 3) da_nil))))))))))))))))))))))⟩
end
end K11

/-! What the top has written; the end. Printed by emit.py. -/
namespace K11
open PySem L2 Evl DL
theorem all_mk {l : PySem.W.OpenLaw} {w : World} {K : PySem.W.Frag} {h : Heap} {mg : Str → Option Value} {fa : Addr} (X : K.In h) (G : h.Ns mainGlobals mg) (hfa : mg "law" = some (.ref fa))
    {f1 f2 f3 f4 f5 f6 f7 f8 f9 f10 f11 f12 f13 f15 f16 f17 f18 f19 f20 f21 f22 f23 f24 f25 p2 p3 p4 C0 : Addr}
    {od1 an1 od2 an2 od3 an3 od4 an4 od5 an5 od6 an6 od7 an7 od8 an8 od9 an9 od10 an10 od11 an11 od12 an12 od13 an13 od15 an15 od16 an16 od17 an17 od18 an18 od19 an19 od20 an20 od21 an21 od22 an22 od23 an23 od24 an24 od25 an25 : Option Addr} {sl1 sl2 sl3 sl4 sl5 sl6 sl7 sl8 sl9 sl10 sl11 sl12 sl13 sl15 sl16 sl17 sl18 sl19 sl20 sl21 sl22 sl23 sl24 sl25 : Array (Option Value)} {oc1 kV1 dc1 pm1 cd1 ct1 oc2 kV2 dc2 pm2 cd2 ct2 oc3 kV3 dc3 pm3 cd3 ct3 oc4 kV4 dc4 pm4 cd4 ct4 oc5 kV5 dc5 pm5 cd5 ct5 oc6 kV6 dc6 pm6 cd6 ct6 oc7 kV7 dc7 pm7 cd7 ct7 oc8 kV8 dc8 pm8 cd8 ct8 oc9 kV9 dc9 pm9 cd9 ct9 oc10 kV10 dc10 pm10 cd10 ct10 oc11 kV11 dc11 pm11 cd11 ct11 oc12 kV12 dc12 pm12 cd12 ct12 oc13 kV13 dc13 pm13 cd13 ct13 oc15 kV15 dc15 pm15 cd15 ct15 oc16 kV16 dc16 pm16 cd16 ct16 oc17 kV17 dc17 pm17 cd17 ct17 oc18 kV18 dc18 pm18 cd18 ct18 oc19 kV19 dc19 pm19 cd19 ct19 oc20 kV20 dc20 pm20 cd20 ct20 oc21 kV21 dc21 pm21 cd21 ct21 oc22 kV22 dc22 pm22 cd22 ct22 oc23 kV23 dc23 pm23 cd23 ct23 oc24 kV24 dc24 pm24 cd24 ct24 oc25 kV25 dc25 pm25 cd25 ct25 : Value}
    {pr_2 pr_3 pr_4 : List Value}
    {ti_add_ : Option Value}
    {tr_add_ : Option Value}
    {ti_sub_ : Option Value}
    {tr_sub_ : Option Value}
    {ti_mul_ : Option Value}
    {tr_mul_ : Option Value}
    (aC0 : PySem.W.nsIn K mainGlobals "Length" = some (some (.ref C0)))
    (a1 : PySem.W.findIn K (.ref C0) "__init__" = some (some (.ref f1)))
    (l1 : K.lookup f1 = some ⟨oc1, od1, .func (PySem.W.fnOf "__init__" "Length.__init__" (defArgs s1) (defBody s1) (defScope s1) .none kV1 dc1 pm1 an1 cd1 ct1), sl1⟩)
    (c1 : PySem.W.codeIn K cd1 "Length.__init__" = true)
    (k1 : PySem.W.keepIn K (.ref f1) = true)
    (a2 : PySem.W.findIn K (.ref C0) "whole" = some (some (.ref p2)))
    (pr2 : PySem.W.recIn K p2 "property" = some (.ref f2 :: pr_2))
    (pget2 : PySem.W.specialIn K (.ref p2) "__get__" = some (some (.builtin "property.__get__")))
    (ptak2 : PySem.W.takesIn K (.ref p2) = some true)
    (l2 : K.lookup f2 = some ⟨oc2, od2, .func (PySem.W.fnOf "whole" "Length.whole" (defArgs s2) (defBody s2) (defScope s2) .none kV2 dc2 pm2 an2 cd2 ct2), sl2⟩)
    (c2 : PySem.W.codeIn K cd2 "Length.whole" = true)
    (k2 : PySem.W.keepIn K (.ref f2) = true)
    (a3 : PySem.W.findIn K (.ref C0) "rows" = some (some (.ref p3)))
    (pr3 : PySem.W.recIn K p3 "property" = some (.ref f3 :: pr_3))
    (pget3 : PySem.W.specialIn K (.ref p3) "__get__" = some (some (.builtin "property.__get__")))
    (ptak3 : PySem.W.takesIn K (.ref p3) = some true)
    (l3 : K.lookup f3 = some ⟨oc3, od3, .func (PySem.W.fnOf "rows" "Length.rows" (defArgs s3) (defBody s3) (defScope s3) .none kV3 dc3 pm3 an3 cd3 ct3), sl3⟩)
    (c3 : PySem.W.codeIn K cd3 "Length.rows" = true)
    (k3 : PySem.W.keepIn K (.ref f3) = true)
    (a4 : PySem.W.findIn K (.ref C0) "columns" = some (some (.ref p4)))
    (pr4 : PySem.W.recIn K p4 "property" = some (.ref f4 :: pr_4))
    (pget4 : PySem.W.specialIn K (.ref p4) "__get__" = some (some (.builtin "property.__get__")))
    (ptak4 : PySem.W.takesIn K (.ref p4) = some true)
    (l4 : K.lookup f4 = some ⟨oc4, od4, .func (PySem.W.fnOf "columns" "Length.columns" (defArgs s4) (defBody s4) (defScope s4) .none kV4 dc4 pm4 an4 cd4 ct4), sl4⟩)
    (c4 : PySem.W.codeIn K cd4 "Length.columns" = true)
    (k4 : PySem.W.keepIn K (.ref f4) = true)
    (a5 : PySem.W.findIn K (.ref C0) "__eq__" = some (some (.ref f5)))
    (l5 : K.lookup f5 = some ⟨oc5, od5, .func (PySem.W.fnOf "__eq__" "Length.__eq__" (defArgs s5) (defBody s5) (defScope s5) .none kV5 dc5 pm5 an5 cd5 ct5), sl5⟩)
    (c5 : PySem.W.codeIn K cd5 "Length.__eq__" = true)
    (k5 : PySem.W.keepIn K (.ref f5) = true)
    (a6 : PySem.W.findIn K (.ref C0) "__add__" = some (some (.ref f6)))
    (l6 : K.lookup f6 = some ⟨oc6, od6, .func (PySem.W.fnOf "__add__" "Length.__add__" (defArgs s6) (defBody s6) (defScope s6) .none kV6 dc6 pm6 an6 cd6 ct6), sl6⟩)
    (c6 : PySem.W.codeIn K cd6 "Length.__add__" = true)
    (k6 : PySem.W.keepIn K (.ref f6) = true)
    (a7 : PySem.W.findIn K (.ref C0) "__radd__" = some (some (.ref f7)))
    (l7 : K.lookup f7 = some ⟨oc7, od7, .func (PySem.W.fnOf "__radd__" "Length.__radd__" (defArgs s7) (defBody s7) (defScope s7) .none kV7 dc7 pm7 an7 cd7 ct7), sl7⟩)
    (c7 : PySem.W.codeIn K cd7 "Length.__radd__" = true)
    (k7 : PySem.W.keepIn K (.ref f7) = true)
    (a8 : PySem.W.findIn K (.ref C0) "__sub__" = some (some (.ref f8)))
    (l8 : K.lookup f8 = some ⟨oc8, od8, .func (PySem.W.fnOf "__sub__" "Length.__sub__" (defArgs s8) (defBody s8) (defScope s8) .none kV8 dc8 pm8 an8 cd8 ct8), sl8⟩)
    (c8 : PySem.W.codeIn K cd8 "Length.__sub__" = true)
    (k8 : PySem.W.keepIn K (.ref f8) = true)
    (a9 : PySem.W.findIn K (.ref C0) "__rsub__" = some (some (.ref f9)))
    (l9 : K.lookup f9 = some ⟨oc9, od9, .func (PySem.W.fnOf "__rsub__" "Length.__rsub__" (defArgs s9) (defBody s9) (defScope s9) .none kV9 dc9 pm9 an9 cd9 ct9), sl9⟩)
    (c9 : PySem.W.codeIn K cd9 "Length.__rsub__" = true)
    (k9 : PySem.W.keepIn K (.ref f9) = true)
    (a10 : PySem.W.findIn K (.ref C0) "__neg__" = some (some (.ref f10)))
    (l10 : K.lookup f10 = some ⟨oc10, od10, .func (PySem.W.fnOf "__neg__" "Length.__neg__" (defArgs s10) (defBody s10) (defScope s10) .none kV10 dc10 pm10 an10 cd10 ct10), sl10⟩)
    (c10 : PySem.W.codeIn K cd10 "Length.__neg__" = true)
    (k10 : PySem.W.keepIn K (.ref f10) = true)
    (a11 : PySem.W.findIn K (.ref C0) "__mul__" = some (some (.ref f11)))
    (l11 : K.lookup f11 = some ⟨oc11, od11, .func (PySem.W.fnOf "__mul__" "Length.__mul__" (defArgs s11) (defBody s11) (defScope s11) .none kV11 dc11 pm11 an11 cd11 ct11), sl11⟩)
    (c11 : PySem.W.codeIn K cd11 "Length.__mul__" = true)
    (k11 : PySem.W.keepIn K (.ref f11) = true)
    (a12 : PySem.W.findIn K (.ref C0) "__rmul__" = some (some (.ref f12)))
    (l12 : K.lookup f12 = some ⟨oc12, od12, .func (PySem.W.fnOf "__rmul__" "Length.__rmul__" (defArgs s12) (defBody s12) (defScope s12) .none kV12 dc12 pm12 an12 cd12 ct12), sl12⟩)
    (c12 : PySem.W.codeIn K cd12 "Length.__rmul__" = true)
    (k12 : PySem.W.keepIn K (.ref f12) = true)
    (a13 : PySem.W.findIn K (.ref C0) "at" = some (some (.ref f13)))
    (l13 : K.lookup f13 = some ⟨oc13, od13, .func (PySem.W.fnOf "at" "Length.at" (defArgs s13) (defBody s13) (defScope s13) .none kV13 dc13 pm13 an13 cd13 ct13), sl13⟩)
    (c13 : PySem.W.codeIn K cd13 "Length.at" = true)
    (k13 : PySem.W.keepIn K (.ref f13) = true)
    (a15 : PySem.W.nsIn K mainGlobals "joined" = some (some (.ref f15)))
    (l15 : K.lookup f15 = some ⟨oc15, od15, .func (PySem.W.fnOf "joined" "joined" (defArgs s15) (defBody s15) (defScope s15) .none kV15 dc15 pm15 an15 cd15 ct15), sl15⟩)
    (c15 : PySem.W.codeIn K cd15 "joined" = true)
    (k15 : PySem.W.keepIn K (.ref f15) = true)
    (a16 : PySem.W.nsIn K mainGlobals "length_of" = some (some (.ref f16)))
    (l16 : K.lookup f16 = some ⟨oc16, od16, .func (PySem.W.fnOf "length_of" "length_of" (defArgs s16) (defBody s16) (defScope s16) .none kV16 dc16 pm16 an16 cd16 ct16), sl16⟩)
    (c16 : PySem.W.codeIn K cd16 "length_of" = true)
    (k16 : PySem.W.keepIn K (.ref f16) = true)
    (a17 : PySem.W.nsIn K mainGlobals "width" = some (some (.ref f17)))
    (l17 : K.lookup f17 = some ⟨oc17, od17, .func (PySem.W.fnOf "width" "width" (defArgs s17) (defBody s17) (defScope s17) .none kV17 dc17 pm17 an17 cd17 ct17), sl17⟩)
    (c17 : PySem.W.codeIn K cd17 "width" = true)
    (k17 : PySem.W.keepIn K (.ref f17) = true)
    (a18 : PySem.W.nsIn K mainGlobals "squares" = some (some (.ref f18)))
    (l18 : K.lookup f18 = some ⟨oc18, od18, .func (PySem.W.fnOf "squares" "squares" (defArgs s18) (defBody s18) (defScope s18) .none kV18 dc18 pm18 an18 cd18 ct18), sl18⟩)
    (c18 : PySem.W.codeIn K cd18 "squares" = true)
    (k18 : PySem.W.keepIn K (.ref f18) = true)
    (a19 : PySem.W.nsIn K mainGlobals "_law_tape" = some (some (.ref f19)))
    (l19 : K.lookup f19 = some ⟨oc19, od19, .func (PySem.W.fnOf "_law_tape" "_law_tape" (defArgs s19) (defBody s19) (defScope s19) .none kV19 dc19 pm19 an19 cd19 ct19), sl19⟩)
    (c19 : PySem.W.codeIn K cd19 "_law_tape" = true)
    (k19 : PySem.W.keepIn K (.ref f19) = true)
    (a20 : PySem.W.nsIn K mainGlobals "_law_pick" = some (some (.ref f20)))
    (l20 : K.lookup f20 = some ⟨oc20, od20, .func (PySem.W.fnOf "_law_pick" "_law_pick" (defArgs s20) (defBody s20) (defScope s20) .none kV20 dc20 pm20 an20 cd20 ct20), sl20⟩)
    (c20 : PySem.W.codeIn K cd20 "_law_pick" = true)
    (k20 : PySem.W.keepIn K (.ref f20) = true)
    (a21 : PySem.W.nsIn K mainGlobals "_law_members" = some (some (.ref f21)))
    (l21 : K.lookup f21 = some ⟨oc21, od21, .func (PySem.W.fnOf "_law_members" "_law_members" (defArgs s21) (defBody s21) (defScope s21) .none kV21 dc21 pm21 an21 cd21 ct21), sl21⟩)
    (c21 : PySem.W.codeIn K cd21 "_law_members" = true)
    (k21 : PySem.W.keepIn K (.ref f21) = true)
    (a22 : PySem.W.nsIn K mainGlobals "_law_is" = some (some (.ref f22)))
    (l22 : K.lookup f22 = some ⟨oc22, od22, .func (PySem.W.fnOf "_law_is" "_law_is" (defArgs s22) (defBody s22) (defScope s22) .none kV22 dc22 pm22 an22 cd22 ct22), sl22⟩)
    (c22 : PySem.W.codeIn K cd22 "_law_is" = true)
    (k22 : PySem.W.keepIn K (.ref f22) = true)
    (a23 : PySem.W.nsIn K mainGlobals "_law_sums" = some (some (.ref f23)))
    (l23 : K.lookup f23 = some ⟨oc23, od23, .func (PySem.W.fnOf "_law_sums" "_law_sums" (defArgs s23) (defBody s23) (defScope s23) .none kV23 dc23 pm23 an23 cd23 ct23), sl23⟩)
    (c23 : PySem.W.codeIn K cd23 "_law_sums" = true)
    (k23 : PySem.W.keepIn K (.ref f23) = true)
    (a24 : PySem.W.nsIn K mainGlobals "_law_with" = some (some (.ref f24)))
    (l24 : K.lookup f24 = some ⟨oc24, od24, .func (PySem.W.fnOf "_law_with" "_law_with" (defArgs s24) (defBody s24) (defScope s24) .none kV24 dc24 pm24 an24 cd24 ct24), sl24⟩)
    (c24 : PySem.W.codeIn K cd24 "_law_with" = true)
    (k24 : PySem.W.keepIn K (.ref f24) = true)
    (a25 : PySem.W.nsIn K mainGlobals "law" = some (some (.ref f25)))
    (l25 : K.lookup f25 = some ⟨oc25, od25, .func (PySem.W.fnOf "law" "law" (defArgs s25) (defBody s25) (defScope s25) .none kV25 dc25 pm25 an25 cd25 ct25), sl25⟩)
    (c25 : PySem.W.codeIn K cd25 "law" = true)
    (k25 : PySem.W.keepIn K (.ref f25) = true)
    (pg0 : PySem.W.plainGet K C0 Str.empty = true)
    (hd0 : PySem.W.hasDictIn K C0 = true)
    (po0 : PySem.W.plainOver K C0 = true)
    (sa0 : PySem.W.findIn K (.ref C0) "__setattr__" = some (some (.builtin "object.__setattr__")))
    (na0_members : PySem.W.findIn K (.ref C0) "members" = some none)
    (kt_int_C0 : PySem.W.kitOne K (.type "int") (.ref C0) = some false)
    (ia0 : PySem.W.findIn K (.ref C0) "__class__" = some (some (.builtin "object.__class__")))
    (ib_ : PySem.W.specialIn K (.builtin "object.__class__") "__get__" = some (some (.builtin "getset_descriptor.__get__")))
    (ic_ : PySem.W.takesIn K (.builtin "object.__class__") = some true)
    (id0 : PySem.W.mroIn K C0 (.type "object") = some true)
    (ki_0_C0 : PySem.W.kitOne K (.ref C0) (.ref C0) = some true)
    (z_isinstance : PySem.W.nsIn K mainGlobals "isinstance" = some none)
    (mk0 : PySem.W.makesIn K C0 = true)
    (i1 : PySem.W.isFn K (.ref f1) = true)
    (kc0 : PySem.W.keepIn K (.ref C0) = true)
    (z_zip : PySem.W.nsIn K mainGlobals "zip" = some none)
    (z_len : PySem.W.nsIn K mainGlobals "len" = some none)
    (z_abs : PySem.W.nsIn K mainGlobals "abs" = some none)
    (z_int : PySem.W.nsIn K mainGlobals "int" = some none)
    (z_range : PySem.W.nsIn K mainGlobals "range" = some none)
    (i6 : PySem.W.isFn K (.ref f6) = true)
    (sf0 : PySem.W.selfFirst K C0 = true)
    (i8 : PySem.W.isFn K (.ref f8) = true)
    (i10 : PySem.W.isFn K (.ref f10) = true)
    (ti_add : PySem.W.findIn K (.type "int") "__add__" = some ti_add_)
    (tr_add : PySem.W.findIn K (.type "int") "__radd__" = some tr_add_)
    (si0 : PySem.W.subIn K (.type "int") (.ref C0) = some false)
    (i7 : PySem.W.isFn K (.ref f7) = true)
    (sj0 : PySem.W.subIn K (.ref C0) (.type "int") = some false)
    (ti_sub : PySem.W.findIn K (.type "int") "__sub__" = some ti_sub_)
    (tr_sub : PySem.W.findIn K (.type "int") "__rsub__" = some tr_sub_)
    (i9 : PySem.W.isFn K (.ref f9) = true)
    (i11 : PySem.W.isFn K (.ref f11) = true)
    (ti_mul : PySem.W.findIn K (.type "int") "__mul__" = some ti_mul_)
    (tr_mul : PySem.W.findIn K (.type "int") "__rmul__" = some tr_mul_)
    (i12 : PySem.W.isFn K (.ref f12) = true)
    (i5 : PySem.W.isFn K (.ref f5) = true)
    (nc0_0 : PySem.W.notFirst K C0 (.ref C0) = true)
    (ne0 : PySem.W.findIn K (.ref C0) "__ne__" = some (some (.builtin "object.__ne__")))
    (nf0_int : PySem.W.notFirst K C0 (.type "int") = true)
    (i13 : PySem.W.isFn K (.ref f13) = true)
    : ∃ fd : FuncData, (∀ (s : Shared) (v : Value), BindsTo s fd ⟨[v], []⟩ [("_law_script", v)]) ∧ ∀ base : Heap, K.In base → base.Ns mainGlobals mg → FnOk l.prog w K mg base (CX l.prog w) 6 fa fd ["_law_script"] (spLawD K) := by
  have e := hfa.symm.trans (PySem.W.mg_of X G a25)
  cases e
  have T : Tx K mg (nthA [C0]) (nthA [0, f1, f2, f3, f4, f5, f6, f7, f8, f9, f10, f11, f12, f13, 0, f15, f16, f17, f18, f19, f20, f21, f22, f23, f24, fa]) (nthA [0, 0, p2, p3, p4, 0, 0, 0, 0, 0, 0, 0, 0, 0, 0, 0, 0, 0, 0, 0, 0, 0, 0, 0, 0, 0]) (fun i => List.getD [(PySem.W.fnOf "law" "law" (defArgs s25) (defBody s25) (defScope s25) .none kV25 dc25 pm25 an25 cd25 ct25), (PySem.W.fnOf "__init__" "Length.__init__" (defArgs s1) (defBody s1) (defScope s1) .none kV1 dc1 pm1 an1 cd1 ct1), (PySem.W.fnOf "whole" "Length.whole" (defArgs s2) (defBody s2) (defScope s2) .none kV2 dc2 pm2 an2 cd2 ct2), (PySem.W.fnOf "rows" "Length.rows" (defArgs s3) (defBody s3) (defScope s3) .none kV3 dc3 pm3 an3 cd3 ct3), (PySem.W.fnOf "columns" "Length.columns" (defArgs s4) (defBody s4) (defScope s4) .none kV4 dc4 pm4 an4 cd4 ct4), (PySem.W.fnOf "__eq__" "Length.__eq__" (defArgs s5) (defBody s5) (defScope s5) .none kV5 dc5 pm5 an5 cd5 ct5), (PySem.W.fnOf "__add__" "Length.__add__" (defArgs s6) (defBody s6) (defScope s6) .none kV6 dc6 pm6 an6 cd6 ct6), (PySem.W.fnOf "__radd__" "Length.__radd__" (defArgs s7) (defBody s7) (defScope s7) .none kV7 dc7 pm7 an7 cd7 ct7), (PySem.W.fnOf "__sub__" "Length.__sub__" (defArgs s8) (defBody s8) (defScope s8) .none kV8 dc8 pm8 an8 cd8 ct8), (PySem.W.fnOf "__rsub__" "Length.__rsub__" (defArgs s9) (defBody s9) (defScope s9) .none kV9 dc9 pm9 an9 cd9 ct9), (PySem.W.fnOf "__neg__" "Length.__neg__" (defArgs s10) (defBody s10) (defScope s10) .none kV10 dc10 pm10 an10 cd10 ct10), (PySem.W.fnOf "__mul__" "Length.__mul__" (defArgs s11) (defBody s11) (defScope s11) .none kV11 dc11 pm11 an11 cd11 ct11), (PySem.W.fnOf "__rmul__" "Length.__rmul__" (defArgs s12) (defBody s12) (defScope s12) .none kV12 dc12 pm12 an12 cd12 ct12), (PySem.W.fnOf "at" "Length.at" (defArgs s13) (defBody s13) (defScope s13) .none kV13 dc13 pm13 an13 cd13 ct13), (PySem.W.fnOf "law" "law" (defArgs s25) (defBody s25) (defScope s25) .none kV25 dc25 pm25 an25 cd25 ct25), (PySem.W.fnOf "joined" "joined" (defArgs s15) (defBody s15) (defScope s15) .none kV15 dc15 pm15 an15 cd15 ct15), (PySem.W.fnOf "length_of" "length_of" (defArgs s16) (defBody s16) (defScope s16) .none kV16 dc16 pm16 an16 cd16 ct16), (PySem.W.fnOf "width" "width" (defArgs s17) (defBody s17) (defScope s17) .none kV17 dc17 pm17 an17 cd17 ct17), (PySem.W.fnOf "squares" "squares" (defArgs s18) (defBody s18) (defScope s18) .none kV18 dc18 pm18 an18 cd18 ct18), (PySem.W.fnOf "_law_tape" "_law_tape" (defArgs s19) (defBody s19) (defScope s19) .none kV19 dc19 pm19 an19 cd19 ct19), (PySem.W.fnOf "_law_pick" "_law_pick" (defArgs s20) (defBody s20) (defScope s20) .none kV20 dc20 pm20 an20 cd20 ct20), (PySem.W.fnOf "_law_members" "_law_members" (defArgs s21) (defBody s21) (defScope s21) .none kV21 dc21 pm21 an21 cd21 ct21), (PySem.W.fnOf "_law_is" "_law_is" (defArgs s22) (defBody s22) (defScope s22) .none kV22 dc22 pm22 an22 cd22 ct22), (PySem.W.fnOf "_law_sums" "_law_sums" (defArgs s23) (defBody s23) (defScope s23) .none kV23 dc23 pm23 an23 cd23 ct23), (PySem.W.fnOf "_law_with" "_law_with" (defArgs s24) (defBody s24) (defScope s24) .none kV24 dc24 pm24 an24 cd24 ct24), (PySem.W.fnOf "law" "law" (defArgs s25) (defBody s25) (defScope s25) .none kV25 dc25 pm25 an25 cd25 ct25)] i (PySem.W.fnOf "law" "law" (defArgs s25) (defBody s25) (defScope s25) .none kV25 dc25 pm25 an25 cd25 ct25)) := {
    F1 := fun_mk (st := s1) l1 c1 k1
    B1 := (fun_mk (st := s1) l1 c1 k1).binds (ps := ["self", "whole", "rows", "columns"]) (fun _ _ _ _ _ _ us hl => match us, hl with | [_, _, _, _], _ => rfl)
    C0 := ⟨pg0, hd0, po0, sa0⟩
    na0_members := na0_members
    F2 := fun_mk (st := s2) l2 c2 k2
    B2 := (fun_mk (st := s2) l2 c2 k2).binds (ps := ["self"]) (fun _ _ _ _ _ _ us hl => match us, hl with | [_], _ => rfl)
    F3 := fun_mk (st := s3) l3 c3 k3
    B3 := (fun_mk (st := s3) l3 c3 k3).binds (ps := ["self"]) (fun _ _ _ _ _ _ us hl => match us, hl with | [_], _ => rfl)
    F4 := fun_mk (st := s4) l4 c4 k4
    B4 := (fun_mk (st := s4) l4 c4 k4).binds (ps := ["self"]) (fun _ _ _ _ _ _ us hl => match us, hl with | [_], _ => rfl)
    F5 := fun_mk (st := s5) l5 c5 k5
    B5 := (fun_mk (st := s5) l5 c5 k5).binds (ps := ["self", "other"]) (fun _ _ _ _ _ _ us hl => match us, hl with | [_, _], _ => rfl)
    gC0 := PySem.W.mg_of X G aC0
    IS0 := isi_mk ⟨kt_int_C0, trivial⟩ ⟨⟨⟨⟨pg0, hd0, po0, sa0⟩, ia0, ib_, ic_, id0⟩, ki_0_C0⟩, trivial⟩
    z_isinstance := PySem.W.mg_none_of X G z_isinstance
    F6 := fun_mk (st := s6) l6 c6 k6
    B6 := (fun_mk (st := s6) l6 c6 k6).binds (ps := ["self", "other"]) (fun _ _ _ _ _ _ us hl => match us, hl with | [_, _], _ => rfl)
    F15 := fun_mk (st := s15) l15 c15 k15
    B15 := (fun_mk (st := s15) l15 c15 k15).binds (ps := ["first", "second", "sign"]) (fun _ _ _ _ _ _ us hl => match us, hl with | [_, _, _], _ => rfl)
    g15 := PySem.W.mg_of X G a15
    F16 := fun_mk (st := s16) l16 c16 k16
    B16 := (fun_mk (st := s16) l16 c16 k16).binds (ps := ["value"]) (fun _ _ _ _ _ _ us hl => match us, hl with | [_], _ => rfl)
    g16 := PySem.W.mg_of X G a16
    F7 := fun_mk (st := s7) l7 c7 k7
    B7 := (fun_mk (st := s7) l7 c7 k7).binds (ps := ["self", "other"]) (fun _ _ _ _ _ _ us hl => match us, hl with | [_, _], _ => rfl)
    F8 := fun_mk (st := s8) l8 c8 k8
    B8 := (fun_mk (st := s8) l8 c8 k8).binds (ps := ["self", "other"]) (fun _ _ _ _ _ _ us hl => match us, hl with | [_, _], _ => rfl)
    F9 := fun_mk (st := s9) l9 c9 k9
    B9 := (fun_mk (st := s9) l9 c9 k9).binds (ps := ["self", "other"]) (fun _ _ _ _ _ _ us hl => match us, hl with | [_, _], _ => rfl)
    F10 := fun_mk (st := s10) l10 c10 k10
    B10 := (fun_mk (st := s10) l10 c10 k10).binds (ps := ["self"]) (fun _ _ _ _ _ _ us hl => match us, hl with | [_], _ => rfl)
    M0 := ⟨mk0, a1, i1, kc0⟩
    F11 := fun_mk (st := s11) l11 c11 k11
    B11 := (fun_mk (st := s11) l11 c11 k11).binds (ps := ["self", "factor"]) (fun _ _ _ _ _ _ us hl => match us, hl with | [_, _], _ => rfl)
    F12 := fun_mk (st := s12) l12 c12 k12
    B12 := (fun_mk (st := s12) l12 c12 k12).binds (ps := ["self", "factor"]) (fun _ _ _ _ _ _ us hl => match us, hl with | [_, _], _ => rfl)
    F13 := fun_mk (st := s13) l13 c13 k13
    B13 := (fun_mk (st := s13) l13 c13 k13).binds (ps := ["self", "width", "height"]) (fun _ _ _ _ _ _ us hl => match us, hl with | [_, _, _], _ => rfl)
    z_zip := PySem.W.mg_none_of X G z_zip
    F17 := fun_mk (st := s17) l17 c17 k17
    B17 := (fun_mk (st := s17) l17 c17 k17).binds (ps := []) (fun _ _ _ _ _ _ us hl => match us, hl with | [], _ => rfl)
    F18 := fun_mk (st := s18) l18 c18 k18
    B18 := (fun_mk (st := s18) l18 c18 k18).binds (ps := []) (fun _ _ _ _ _ _ us hl => match us, hl with | [], _ => rfl)
    F19 := fun_mk (st := s19) l19 c19 k19
    B19 := (fun_mk (st := s19) l19 c19 k19).binds (ps := ["_law_script", "_law_k"]) (fun _ _ _ _ _ _ us hl => match us, hl with | [_, _], _ => rfl)
    z_len := PySem.W.mg_none_of X G z_len
    z_abs := PySem.W.mg_none_of X G z_abs
    F20 := fun_mk (st := s20) l20 c20 k20
    B20 := (fun_mk (st := s20) l20 c20 k20).binds (ps := ["_law_tape_here", "_law_many"]) (fun _ _ _ _ _ _ us hl => match us, hl with | [_, _], _ => rfl)
    z_int := PySem.W.mg_none_of X G z_int
    F21 := fun_mk (st := s21) l21 c21 k21
    B21 := (fun_mk (st := s21) l21 c21 k21).binds (ps := ["_law_tape_here"]) (fun _ _ _ _ _ _ us hl => match us, hl with | [_], _ => rfl)
    z_range := PySem.W.mg_none_of X G z_range
    g20 := PySem.W.mg_of X G a20
    F22 := fun_mk (st := s22) l22 c22 k22
    B22 := (fun_mk (st := s22) l22 c22 k22).binds (ps := ["_law_length", "_law_members_here"]) (fun _ _ _ _ _ _ us hl => match us, hl with | [_, _], _ => rfl)
    IS1 := isi_mk trivial ⟨⟨⟨⟨pg0, hd0, po0, sa0⟩, ia0, ib_, ic_, id0⟩, ki_0_C0⟩, trivial⟩
    P2 := ⟨a2, pget2, ptak2, _, pr2⟩
    P3 := ⟨a3, pget3, ptak3, _, pr3⟩
    P4 := ⟨a4, pget4, ptak4, _, pr4⟩
    F23 := fun_mk (st := s23) l23 c23 k23
    B23 := (fun_mk (st := s23) l23 c23 k23).binds (ps := ["_law_one", "_law_other", "_law_first", "_law_second"]) (fun _ _ _ _ _ _ us hl => match us, hl with | [_, _, _, _], _ => rfl)
    g22 := PySem.W.mg_of X G a22
    O0_Add := ⟨a6, i6, sf0⟩
    O0_Sub := ⟨a8, i8, sf0⟩
    U0_USub := ⟨a10, i10⟩
    F24 := fun_mk (st := s24) l24 c24 k24
    B24 := (fun_mk (st := s24) l24 c24 k24).binds (ps := ["_law_length", "_law_members_here", "_law_number"]) (fun _ _ _ _ _ _ us hl => match us, hl with | [_, _, _], _ => rfl)
    OI0_Add := ⟨⟨_, a7, .inr ⟨_, rfl⟩⟩, ⟨_, ti_add⟩, ⟨_, tr_add⟩, si0⟩
    OR0_Add := ⟨⟨_, a6⟩, a7, i7, sf0, sj0⟩
    OI0_Sub := ⟨⟨_, a9, .inr ⟨_, rfl⟩⟩, ⟨_, ti_sub⟩, ⟨_, tr_sub⟩, si0⟩
    OR0_Sub := ⟨⟨_, a8⟩, a9, i9, sf0, sj0⟩
    O0_Mult := ⟨a11, i11, sf0⟩
    OI0_Mult := ⟨⟨_, a12, .inr ⟨_, rfl⟩⟩, ⟨_, ti_mul⟩, ⟨_, tr_mul⟩, si0⟩
    OR0_Mult := ⟨⟨_, a11⟩, a12, i12, sf0, sj0⟩
    F25 := fun_mk (st := s25) l25 c25 k25
    B25 := (fun_mk (st := s25) l25 c25 k25).binds (ps := ["_law_script"]) (fun _ _ _ _ _ _ us hl => match us, hl with | [_], _ => rfl)
    g19 := PySem.W.mg_of X G a19
    g21 := PySem.W.mg_of X G a21
    g23 := PySem.W.mg_of X G a23
    g24 := PySem.W.mg_of X G a24
    E0 := ⟨a5, i5⟩
    Q0_0_ := eqr_mk trivial ⟨⟨⟨⟨pg0, hd0, po0, sa0⟩, ia0, ib_, ic_, id0⟩, nc0_0⟩, trivial⟩
    N0 := ⟨ne0, id0⟩
    Q0__int := eqr_mk ⟨nf0_int, trivial⟩ trivial
    Me0_13 := ⟨a13, i13, k13⟩
    g17 := PySem.W.mg_of X G a17
    g18 := PySem.W.mg_of X G a18
  }
  exact ⟨_, fun s v => .of_eq rfl, fun base _ _ => law_fn rfl (ok25 T) law_sem⟩
theorem walk {l : PySem.W.OpenLaw} {q : Program} {loose : List Str} {XP : (Str → Option Value) → Heap → Prop} {YP : World → Heap → Prop} {d : DefRec} {K : Params → PySem.W.Frag} (hn : l.most = some 63) (hdf : d.params.defaults = [])
    (hY : ∀ (w : World) (h : Heap), YP w h → (K w.params).In h)
    (F : ∀ (w : World) (mg : Str → Option Value) (fa : Addr) (h : Heap), (K w.params).In h → h.Ns mainGlobals mg → mg d.name = some (.ref fa) →
      ∃ fd : FuncData, (∀ (s : Shared) (u : Value), BindsTo s fd ⟨[u], []⟩ [("_law_script", u)]) ∧ ∀ base : Heap, (K w.params).In base → base.Ns mainGlobals mg → FnOk l.prog w (K w.params) mg base (CX l.prog w) 6 fa fd ["_law_script"] (spLawD (K w.params))) :
    PySem.W.WalkO q loose XP YP l.row.toRowW d [] (fun f vs => PySem.call f vs) :=
  L2.walk_of (n := 63) (k := 6) (x := "_law_script") (CX := fun w => CX l.prog w) (sp := fun w => spLawD (K w.params)) hn (by decide) hdf ⟨rfl, by decide, by decide⟩ hY F (fun _ _ a ns hl _ hS => ⟨a, ns, rfl, hS, hl, fun _ => rfl⟩) fun _ _ _ _ _ z => by
    obtain ⟨_, _, _, _, _, _, _, _, _, _, _, _, z⟩ := z
    exact z
end K11
open PySem PySem.W PyProof.Rows
set_option maxRecDepth 100000 in
set_option maxHeartbeats 0 in
theorem PySem.Challenge.cw_boardbits_k11_lengths_holds : PySem.Challenge.rw_boardbits_k11_lengths.Holds := by
  w_on; o_law; k_head; (case hw => w_witness2)
  k_fill
  refine K11.walk (l := PySem.Challenge.rw_boardbits_k11_lengths) rfl rfl (fun w h Y => PySem.W.kIn_of Y) ?F
  case F =>
    intro w mg fa h KX G hmg
    refine' K11.all_mk KX G hmg ?aC0 ?a1 ?l1 ?c1 ?k1 ?a2 ?pr2 ?pget2 ?ptak2 ?l2 ?c2 ?k2 ?a3 ?pr3 ?pget3 ?ptak3 ?l3 ?c3 ?k3 ?a4 ?pr4 ?pget4 ?ptak4 ?l4 ?c4 ?k4 ?a5 ?l5 ?c5 ?k5 ?a6 ?l6 ?c6 ?k6 ?a7 ?l7 ?c7 ?k7 ?a8 ?l8 ?c8 ?k8 ?a9 ?l9 ?c9 ?k9 ?a10 ?l10 ?c10 ?k10 ?a11 ?l11 ?c11 ?k11 ?a12 ?l12 ?c12 ?k12 ?a13 ?l13 ?c13 ?k13 ?a15 ?l15 ?c15 ?k15 ?a16 ?l16 ?c16 ?k16 ?a17 ?l17 ?c17 ?k17 ?a18 ?l18 ?c18 ?k18 ?a19 ?l19 ?c19 ?k19 ?a20 ?l20 ?c20 ?k20 ?a21 ?l21 ?c21 ?k21 ?a22 ?l22 ?c22 ?k22 ?a23 ?l23 ?c23 ?k23 ?a24 ?l24 ?c24 ?k24 ?a25 ?l25 ?c25 ?k25 ?pg0 ?hd0 ?po0 ?sa0 ?na0_members ?kt_int_C0 ?ia0 ?ib_ ?ic_ ?id0 ?ki_0_C0 ?z_isinstance ?mk0 ?i1 ?kc0 ?z_zip ?z_len ?z_abs ?z_int ?z_range ?i6 ?sf0 ?i8 ?i10 ?ti_add ?tr_add ?si0 ?i7 ?sj0 ?ti_sub ?tr_sub ?i9 ?i11 ?ti_mul ?tr_mul ?i12 ?i5 ?nc0_0 ?ne0 ?nf0_int ?i13
    (case aC0 => k_is)
    (case a1 => k_is)
    (case l1 => k_is)
    (case c1 => k_is)
    (case k1 => k_is)
    (case a2 => k_is)
    (case pr2 => k_is)
    (case pget2 => k_is)
    (case ptak2 => k_is)
    (case l2 => k_is)
    (case c2 => k_is)
    (case k2 => k_is)
    (case a3 => k_is)
    (case pr3 => k_is)
    (case pget3 => k_is)
    (case ptak3 => k_is)
    (case l3 => k_is)
    (case c3 => k_is)
    (case k3 => k_is)
    (case a4 => k_is)
    (case pr4 => k_is)
    (case pget4 => k_is)
    (case ptak4 => k_is)
    (case l4 => k_is)
    (case c4 => k_is)
    (case k4 => k_is)
    (case a5 => k_is)
    (case l5 => k_is)
    (case c5 => k_is)
    (case k5 => k_is)
    (case a6 => k_is)
    (case l6 => k_is)
    (case c6 => k_is)
    (case k6 => k_is)
    (case a7 => k_is)
    (case l7 => k_is)
    (case c7 => k_is)
    (case k7 => k_is)
    (case a8 => k_is)
    (case l8 => k_is)
    (case c8 => k_is)
    (case k8 => k_is)
    (case a9 => k_is)
    (case l9 => k_is)
    (case c9 => k_is)
    (case k9 => k_is)
    (case a10 => k_is)
    (case l10 => k_is)
    (case c10 => k_is)
    (case k10 => k_is)
    (case a11 => k_is)
    (case l11 => k_is)
    (case c11 => k_is)
    (case k11 => k_is)
    (case a12 => k_is)
    (case l12 => k_is)
    (case c12 => k_is)
    (case k12 => k_is)
    (case a13 => k_is)
    (case l13 => k_is)
    (case c13 => k_is)
    (case k13 => k_is)
    (case a15 => k_is)
    (case l15 => k_is)
    (case c15 => k_is)
    (case k15 => k_is)
    (case a16 => k_is)
    (case l16 => k_is)
    (case c16 => k_is)
    (case k16 => k_is)
    (case a17 => k_is)
    (case l17 => k_is)
    (case c17 => k_is)
    (case k17 => k_is)
    (case a18 => k_is)
    (case l18 => k_is)
    (case c18 => k_is)
    (case k18 => k_is)
    (case a19 => k_is)
    (case l19 => k_is)
    (case c19 => k_is)
    (case k19 => k_is)
    (case a20 => k_is)
    (case l20 => k_is)
    (case c20 => k_is)
    (case k20 => k_is)
    (case a21 => k_is)
    (case l21 => k_is)
    (case c21 => k_is)
    (case k21 => k_is)
    (case a22 => k_is)
    (case l22 => k_is)
    (case c22 => k_is)
    (case k22 => k_is)
    (case a23 => k_is)
    (case l23 => k_is)
    (case c23 => k_is)
    (case k23 => k_is)
    (case a24 => k_is)
    (case l24 => k_is)
    (case c24 => k_is)
    (case k24 => k_is)
    (case a25 => k_is)
    (case l25 => k_is)
    (case c25 => k_is)
    (case k25 => k_is)
    (case pg0 => k_is)
    (case hd0 => k_is)
    (case po0 => k_is)
    (case sa0 => k_is)
    (case na0_members => k_is)
    (case kt_int_C0 => kernel_rfl)
    (case ia0 => k_is)
    (case ib_ => k_is)
    (case ic_ => k_is)
    (case id0 => k_is)
    (case ki_0_C0 => kernel_rfl)
    (case z_isinstance => k_is)
    (case mk0 => k_is)
    (case i1 => k_is)
    (case kc0 => k_is)
    (case z_zip => k_is)
    (case z_len => k_is)
    (case z_abs => k_is)
    (case z_int => k_is)
    (case z_range => k_is)
    (case i6 => k_is)
    (case sf0 => k_is)
    (case i8 => k_is)
    (case i10 => k_is)
    (case ti_add => k_is)
    (case tr_add => k_is)
    (case si0 => k_is)
    (case i7 => k_is)
    (case sj0 => k_is)
    (case ti_sub => k_is)
    (case tr_sub => k_is)
    (case i9 => k_is)
    (case i11 => k_is)
    (case ti_mul => k_is)
    (case tr_mul => k_is)
    (case i12 => k_is)
    (case i5 => k_is)
    (case nc0_0 => k_is)
    (case ne0 => k_is)
    (case nf0_int => k_is)
    (case i13 => k_is)
#print axioms PySem.Challenge.cw_boardbits_k11_lengths_holds

