import PyProof.Rows.All
import Wide.All
import OpenK.AllK
import Wide.FinOn
import HandS.ForMost
import HandS.ForExc
import HandS.Evl
import KE.KeyNested
import HandS.Wide
import HandS.WideBits
import HandS.Deep
import HandS.IsInst
import HandS.Star
import HandS.CallSlots
import HandS.ExcOwn
import HandS.Property
import HandS.Zip
import KE.KOpsOwn
import HandS.OwnEq
import KE.KFmtOwn
import HandS.ExcIs
import HandS.TupAny
import HandS.Text
import HandS.ExcField
import HandS.TryOnly
import HandS.ExcInit
import HandS.Small
import HandS.Conv
import HandS.Iter
import KE.KUnpackStar
import HandS.StrMore
import HandS.FStr
import HandS.Flow
import HandS.TryMany
import PyProof.NeKinds
import HandS.Dict
import HandS.MakeKw
import HandS.Style
import HandS.SortInts
import HandS.Codes
import PySem.Challenge.RW_boardbits_k12_texts_of_lengths
set_option Elab.async false
set_option linter.all false
set_option maxRecDepth 100000
set_option maxHeartbeats 4000000
/-! DL, part a: data without a heap (D), how values and objects stand for it (Rp, Own), frames of data (I2), what code does on data (Res). -/
namespace DL
open PySem L2 Evl

/-- data: a value with all that it holds -/
inductive D where
  | non | bl (b : Bool) | int (i : Int) | str (s : Str)
  | lst (xs : List D) | tup (xs : List D) | rol (xs : List D) | ins (k : Nat) (xs : List D)
  /-- a dict: are its keys tuples; its keys, its values -/
  | dct (t : Bool) (ks : List D) (vs : List D)

/-- what stands fast: the written part, the classes' addresses, their fields in order -/
structure Ct where
  K : PySem.W.Frag
  cl : Nat → Addr
  fn : Nat → List Str
  /-- the exception that is handled here: its address, class, attributes' dict -/
  xs : Option (Addr × Value × Option Addr) := none
  /-- the world (the hashes of texts hang on it) -/
  w : World
/-- the entries of a dict whose keys are tuples: the key, its address, the value -/
abbrev TEs := List (NestedKey × Addr × V)
/-- .. the object at p -/
def tdO (w : World) (p : Addr) (xs : TEs) : HO := .ext fun h => xs.length ≤ sizeLine ∧ (p == sysModules) = false ∧ (∀ x ∈ xs, x.1.depth ≤ 8) ∧ ∃ ys : List (NestedKey × Addr × Value), Paired (fun (a : NestedKey × Addr × V) (b : NestedKey × Addr × Value) => a.1 = b.1 ∧ a.2.1 = b.2.1 ∧ RelV a.2.2 b.2.2) xs ys ∧
  ∃ o es ep, h.get? p = some o ∧ o.ExactDict ∧ o.data = .dict es ep ∧ es.toList = ys.map (fun x => (⟨x.1.hash w, .ref x.2.1, x.2.2⟩ : DictEntry)) ∧ (ys.map (·.1)).Nodup
/-- an int or a text as data -/
def keyD : Key → D
  | .inl i => .int i
  | .inr s => .str s
mutual
/-- what a thing is as a key of a dict -/
def nkOf : D → Option NestedKey
  | .non => some .none
  | .bl b => some (.num (if b then 1 else 0))
  | .int i => some (.num i)
  | .str s => some (.text s)
  | .tup ds => (nkOfL ds).map .tup
  | _ => none
def nkOfL : List D → Option (List NestedKey)
  | [] => some []
  | d :: ds => (nkOf d).bind fun k => (nkOfL ds).map fun r => k :: r
end

mutual
/-- v stands for d, by objects that never change -/
def Rp (c : Ct) (F : Hp) : D → V → Prop
  | .non, v => v = .non
  | .bl b, v => v = .bl b
  | .int i, v => v = .int i
  | .str s, v => v = .str s
  | .lst ds, v => ∃ p vs, v = .ref p ∧ F p = some (.lst vs) ∧ RpL c F ds vs
  | .tup ds, v => ∃ p vs, v = .ref p ∧ SqT c.K F p vs ∧ RpL c F ds vs
  | .rol ds, v => ∃ p vs, v = .ref p ∧ SqL c.K F p vs ∧ RpL c F ds vs
  | .ins k ds, v => ∃ p dx vs, v = .ref p ∧ F p = some (.ins (c.cl k) dx ((c.fn k).zip vs)) ∧ RpL c F ds vs
  | .dct t ks ds, v => ∃ p ws vs, v = .ref p ∧ ((t = false ∧ ∃ kvs : List (Key × V), F p = some (.dK kvs) ∧ ks = kvs.map (fun x => keyD x.1) ∧ ws = kvs.map (fun x => kV x.1) ∧ vs = kvs.map (·.2)) ∨
      t = true ∧ ∃ xs : TEs, F p = some (tdO c.w p xs) ∧ nkOfL ks = some (xs.map (·.1)) ∧ ws = xs.map (fun x => V.ref x.2.1) ∧ vs = xs.map (·.2.2)) ∧ RpL c F ks ws ∧ RpL c F ds vs
def RpL (c : Ct) (F : Hp) : List D → List V → Prop
  | [], vs => vs = []
  | d :: ds, vs => ∃ v r, vs = v :: r ∧ Rp c F d v ∧ RpL c F ds r
end

section
variable {c : Ct} {F G H H' : Hp}
mutual
theorem Rp.mono (e : Ex F G) : ∀ (d : D) (v : V), Rp c F d v → Rp c G d v
  | .non, _, h => h
  | .bl _, _, h => h
  | .int _, _, h => h
  | .str _, _, h => h
  | .lst ds, _, ⟨p, vs, h1, h2, h3⟩ => ⟨p, vs, h1, e _ _ h2, RpL.mono e ds vs h3⟩
  | .tup ds, _, ⟨p, vs, h1, h2, h3⟩ => ⟨p, vs, h1, ex_t e h2, RpL.mono e ds vs h3⟩
  | .rol ds, _, ⟨p, vs, h1, h2, h3⟩ => ⟨p, vs, h1, ex_l e h2, RpL.mono e ds vs h3⟩
  | .ins _ ds, _, ⟨p, dx, vs, h1, h2, h3⟩ => ⟨p, dx, vs, h1, e _ _ h2, RpL.mono e ds vs h3⟩
  | .dct t ks ds, _, ⟨p, ws, vs, h1, h2, h3, h4⟩ => ⟨p, ws, vs, h1, h2.elim (fun ⟨g0, kvs, g1, g2⟩ => .inl ⟨g0, kvs, e _ _ g1, g2⟩) (fun ⟨g0, xs, g1, g2⟩ => .inr ⟨g0, xs, e _ _ g1, g2⟩), RpL.mono e ks ws h3, RpL.mono e ds vs h4⟩
theorem RpL.mono (e : Ex F G) : ∀ (ds : List D) (vs : List V), RpL c F ds vs → RpL c G ds vs
  | [], _, h => h
  | d :: ds, _, ⟨v, r, h1, h2, h3⟩ => ⟨v, r, h1, Rp.mono e d v h2, RpL.mono e ds r h3⟩
end
theorem RpL.len : ∀ {ds : List D} {vs : List V}, RpL c F ds vs → ds.length = vs.length
  | [], _, h => by cases h; rfl
  | d :: ds, _, ⟨v, r, h1, h2, h3⟩ => by subst h1; simp [RpL.len h3]
theorem RpL.get : ∀ {ds : List D} {vs : List V} {i : Nat} {d : D}, RpL c F ds vs → ds[i]? = some d → ∃ v, vs[i]? = some v ∧ Rp c F d v
  | [], _, _, _, h, g => by simp at g
  | d :: ds, _, i, x, ⟨v, r, h1, h2, h3⟩, g => by
    subst h1
    cases i with
    | zero => simp at g; subst g; exact ⟨v, rfl, h2⟩
    | succ i =>
      simp at g
      obtain ⟨w, h4, h5⟩ := RpL.get (i := i) h3 g
      exact ⟨w, by simpa using h4, h5⟩
theorem RpL.getV : ∀ {ds : List D} {vs : List V} {i : Nat} {v : V}, RpL c F ds vs → vs[i]? = some v → ∃ d, ds[i]? = some d ∧ Rp c F d v
  | [], _, _, _, h, g => by cases h; simp at g
  | d :: ds, _, i, x, ⟨v, r, h1, h2, h3⟩, g => by
    subst h1
    cases i with
    | zero => simp at g; subst g; exact ⟨d, rfl, h2⟩
    | succ i =>
      simp at g
      obtain ⟨w, h4, h5⟩ := RpL.getV (i := i) h3 g
      exact ⟨w, by simpa using h4, h5⟩
theorem RpL.app : ∀ {ds es : List D} {vs ws : List V}, RpL c F ds vs → RpL c F es ws → RpL c F (ds ++ es) (vs ++ ws)
  | [], _, _, _, h, g => by cases h; exact g
  | d :: ds, _, _, _, ⟨v, r, h1, h2, h3⟩, g => by subst h1; exact ⟨v, _, rfl, h2, RpL.app h3 g⟩
theorem RpL.one {d : D} {v : V} (h : Rp c F d v) : RpL c F [d] [v] := ⟨v, [], rfl, h, rfl⟩
theorem RpL.set : ∀ {ds : List D} {vs : List V} {d : D} {v : V} (i : Nat), RpL c F ds vs → Rp c F d v → RpL c F (ds.set i d) (vs.set i v)
  | [], _, _, _, _, h, g => by cases h; exact rfl
  | d :: ds, _, x, y, i, ⟨v, r, h1, h2, h3⟩, g => by
    subst h1
    cases i with
    | zero => exact ⟨y, r, rfl, g, h3⟩
    | succ i => exact ⟨v, _, rfl, h2, RpL.set i h3 g⟩
theorem RpL.take : ∀ {ds : List D} {vs : List V} (n : Nat), RpL c F ds vs → RpL c F (ds.take n) (vs.take n)
  | _, _, 0, _ => rfl
  | [], _, n + 1, h => by cases h; exact rfl
  | d :: ds, _, n + 1, ⟨v, r, h1, h2, h3⟩ => by subst h1; exact ⟨v, _, rfl, h2, RpL.take n h3⟩
theorem RpL.drop : ∀ {ds : List D} {vs : List V} (n : Nat), RpL c F ds vs → RpL c F (ds.drop n) (vs.drop n)
  | _, _, 0, h => h
  | [], _, n + 1, h => by cases h; exact rfl
  | d :: ds, _, n + 1, ⟨v, r, h1, h2, h3⟩ => by subst h1; exact RpL.drop n h3
theorem RpL.rev : ∀ {ds : List D} {vs : List V}, RpL c F ds vs → RpL c F ds.reverse vs.reverse
  | [], _, h => by cases h; exact rfl
  | d :: ds, _, ⟨v, r, h1, h2, h3⟩ => by subst h1; rw [List.reverse_cons, List.reverse_cons]; exact RpL.app (RpL.rev h3) (RpL.one h2)
theorem RpL.ints : ∀ {ns : List Int} {vs : List V}, RpL c F (ns.map D.int) vs → vs = ns.map V.int
  | [], _, h => h
  | n :: ns, _, ⟨v, r, h1, h2, h3⟩ => by subst h1; rw [List.map_cons, RpL.ints h3, show v = V.int n from h2]
theorem RpL.of_ints : ∀ (ns : List Int), RpL c F (ns.map D.int) (ns.map V.int)
  | [] => rfl
  | n :: ns => ⟨V.int n, _, rfl, rfl, RpL.of_ints ns⟩

/-- an object at p that is known alone here, and may change: it holds d -/
def Own (c : Ct) (F H : Hp) (d : D) (p : Addr) : Prop := F p = none ∧ match d with
  | .lst ds => ∃ vs, H p = some (.lst vs) ∧ RpL c F ds vs
  | .ins k ds => ∃ dx vs, H p = some (.ins (c.cl k) dx ((c.fn k).zip vs)) ∧ RpL c F ds vs
  | .dct t ks ds => ∃ ws vs, ((t = false ∧ ∃ kvs : List (Key × V), H p = some (.dK kvs) ∧ ks = kvs.map (fun x => keyD x.1) ∧ ws = kvs.map (fun x => kV x.1) ∧ vs = kvs.map (·.2)) ∨
      t = true ∧ ∃ xs : TEs, H p = some (tdO c.w p xs) ∧ nkOfL ks = some (xs.map (·.1)) ∧ ws = xs.map (fun x => V.ref x.2.1) ∧ vs = xs.map (·.2.2)) ∧ RpL c F ks ws ∧ RpL c F ds vs
  | _ => False
theorem Own.at {d : D} {p : Addr} (h : Own c F H d p) : ∃ o, H p = some o := by
  cases d with
  | lst ds => obtain ⟨_, vs, h, _⟩ := h; exact ⟨_, h⟩
  | ins k ds => obtain ⟨_, dx, vs, h, _⟩ := h; exact ⟨_, h⟩
  | dct t ks ds => obtain ⟨_, ws, vs, ⟨_, kvs, h, _⟩ | ⟨_, xs, h, _⟩, _⟩ := h <;> exact ⟨_, h⟩
  | _ => exact h.2.elim
/-- the known part grows, the object stays -/
theorem Own.mono {d : D} {p : Addr} (h : Own c F H d p) (e : Ex F G) (hp : G p = none) (k : ∀ o, H p = some o → H' p = some o) : Own c G H' d p := by
  cases d with
  | lst ds => obtain ⟨_, vs, h1, h2⟩ := h; exact ⟨hp, vs, k _ h1, RpL.mono e ds vs h2⟩
  | ins j ds => obtain ⟨_, dx, vs, h1, h3⟩ := h; exact ⟨hp, dx, vs, k _ h1, RpL.mono e ds vs h3⟩
  | dct t ks ds => obtain ⟨_, ws, vs, h2, h3, h4⟩ := h; exact ⟨hp, ws, vs, h2.elim (fun ⟨g0, kvs, g1, g2⟩ => .inl ⟨g0, kvs, k _ g1, g2⟩) (fun ⟨g0, xs, g1, g2⟩ => .inr ⟨g0, xs, k _ g1, g2⟩), RpL.mono e ks ws h3, RpL.mono e ds vs h4⟩
  | _ => exact h.2.elim
/-- frozen: from here on it never changes -/
theorem Own.seal {d : D} {p : Addr} (h : Own c F H d p) (e : Ex F H) : ∃ G, Ex F G ∧ Ex G H ∧ Rp c G d (.ref p) ∧ ∀ b, b ≠ p → G b = F b := by
  have key : ∀ o, H p = some o → Ex (upd F p o) H := fun o h1 a u h => by
    by_cases ha : a = p
    · subst ha; rw [upd_same] at h; rw [← h]; exact h1
    · rw [upd_ne ha] at h; exact e _ _ h
  cases d with
  | lst ds =>
    obtain ⟨hp, vs, h1, h2⟩ := h
    have x := Ex.new (o := .lst vs) hp
    exact ⟨_, x, key _ h1, ⟨p, vs, rfl, upd_same, RpL.mono x ds vs h2⟩, fun b hb => upd_ne hb⟩
  | ins j ds =>
    obtain ⟨hp, dx, vs, h1, h3⟩ := h
    have x := Ex.new (o := .ins (c.cl j) dx ((c.fn j).zip vs)) hp
    exact ⟨_, x, key _ h1, ⟨p, dx, vs, rfl, upd_same, RpL.mono x ds vs h3⟩, fun b hb => upd_ne hb⟩
  | dct t ks ds =>
    obtain ⟨hp, ws, vs, ⟨g0, kvs, h1, g⟩ | ⟨g0, xs, h1, g⟩, h3, h4⟩ := h
    · have x := Ex.new (o := .dK kvs) hp
      exact ⟨_, x, key _ h1, ⟨p, ws, vs, rfl, .inl ⟨g0, kvs, upd_same, g⟩, RpL.mono x ks ws h3, RpL.mono x ds vs h4⟩, fun b hb => upd_ne hb⟩
    · have x := Ex.new (o := tdO c.w p xs) hp
      exact ⟨_, x, key _ h1, ⟨p, ws, vs, rfl, .inr ⟨g0, xs, upd_same, g⟩, RpL.mono x ks ws h3, RpL.mono x ds vs h4⟩, fun b hb => upd_ne hb⟩
  | _ => exact h.2.elim
end
end DL

/-! DL, part b: frames of data (I2), what is handed from step to step (T, TR), the steps on them. -/
namespace DL
open PySem L2 Evl

structure XV where
  k : Nat
  ds : List D
/-- what a name holds: shared data; an object known to this name alone; an object of a caller's; the exception that is handled -/
inductive B where
  | sh (d : D) | ow (d : D) | br (d : D) | ex (x : XV)
def B.d : B → D
  | .sh d => d | .ow d => d | .br d => d | .ex _ => .non
def B.isRoot : B → Bool
  | .sh _ => false | .ow _ => true | .br _ => true | .ex _ => false
def B.re : B → D → B
  | .sh _, d => .sh d | .ow _, d => .ow d | .br _, d => .br d | .ex x, _ => .ex x
abbrev DEnv := List (Option B)
/-- what an expression hands on: a name's object itself; data; a new object -/
inductive T where
  | sl (i : Nat) | vl (d : D) | nw (d : D)
inductive Res (α : Type) where
  | stuck | ok (a : α) | exc (x : XV) (e : DEnv)
def Res.bind {α β : Type} (r : Res α) (f : α → Res β) : Res β := match r with
  | .stuck => .stuck | .ok a => f a | .exc x e => .exc x e
def Wp {α : Type} (r : Res α) (ok : α → Prop) (ex : XV → DEnv → Prop) : Prop := match r with
  | .stuck => False | .ok a => ok a | .exc x e => ex x e
theorem Wp.bind {α β : Type} {r : Res α} {f : α → Res β} {ok : β → Prop} {ex : XV → DEnv → Prop} : Wp (r.bind f) ok ex = Wp r (fun a => Wp (f a) ok ex) ex := by
  cases r <;> rfl
theorem Wp.mono {α : Type} {r : Res α} {ok ok' : α → Prop} {ex ex' : XV → DEnv → Prop} (h : Wp r ok ex) (h1 : ∀ a, r = .ok a → ok a → ok' a) (h2 : ∀ x e, ex x e → ex' x e) : Wp r ok' ex' := by
  cases r with
  | stuck => exact h
  | ok a => exact h1 a rfl h
  | exc x e => exact h2 x e h
/-- of an option: none is stuck -/
def Res.of {α : Type} : Option α → Res α
  | none => .stuck | some a => .ok a
theorem Wp.of {α : Type} {o : Option α} {ok : α → Prop} {ex : XV → DEnv → Prop} (h : Wp (Res.of o) ok ex) : ∃ a, o = some a ∧ ok a := by
  cases o with
  | none => exact h.elim
  | some a => exact ⟨a, rfl, h⟩

/-- what a frame starts from: the heap at the entry, what is known to stand fast, the callers' objects that are lent -/
structure Zs where
  H0 : Hp
  F0 : Hp
  Bo : Addr → Prop
  V0 : Nat → V

/-- an exception of a class of one's own, by its attributes -/
def XR (c : Ct) (F : Hp) (x : XV) (cls : Value) (dd : Option Addr) : Prop := cls = .ref (c.cl x.k) ∧
  ((x.ds = [] ∧ dd = none) ∨ x.ds ≠ [] ∧ ∃ a fs vs, dd = some a ∧ F a = some (.xd fs) ∧ RpL c F x.ds vs ∧ (∀ (i : Nat) (f : Str) (v : V), (c.fn x.k)[i]? = some f → vs[i]? = some v → fs.lookup f = some v))
theorem XR.mono {c : Ct} {F G : Hp} (e : Ex F G) {x : XV} {cls : Value} {dd : Option Addr} (h : XR c F x cls dd) : XR c G x cls dd := by
  obtain ⟨h1, h2⟩ := h
  refine ⟨h1, ?_⟩
  rcases h2 with h2 | ⟨h0, a, fs, vs, h2, h3, h4, h5⟩
  · exact .inl h2
  · exact .inr ⟨h0, a, fs, vs, h2, e _ _ h3, RpL.mono e _ _ h4, h5⟩
def BR (c : Ct) (z : Zs) (F H : Hp) : B → V → Prop
  | .sh d, v => Rp c F d v
  | .ow d, v => ∃ p, v = .ref p ∧ Own c F H d p ∧ z.H0 p = none
  | .br d, v => ∃ p, v = .ref p ∧ Own c F H d p ∧ z.Bo p
  | .ex x, v => ∃ a cls dd, c.xs = some (a, cls, dd) ∧ v = .ref a ∧ XR c F x cls dd
def RootAt (σ : L2.St) (e : DEnv) (i : Nat) (p : Addr) : Prop := ∃ b, e[i]? = some (some b) ∧ b.isRoot = true ∧ σ[i]? = some (some (.ref p))
structure I2 (c : Ct) (z : Zs) (σ : L2.St) (H F : Hp) (e : DEnv) : Prop where
  len : e.length = σ.length
  f0 : Ex z.F0 F
  fh : Ex F H
  keep : ∀ p o, z.H0 p = some o → ¬ z.Bo p → H p = some o
  slot : ∀ (i : Nat) (b : B), e[i]? = some (some b) → ∃ v, σ[i]? = some (some v) ∧ BR c z F H b v
  dist : ∀ (i j : Nat) (p : Addr), RootAt σ e i p → RootAt σ e j p → i = j
  bo : ∀ p, z.Bo p → ∃ o, H p = some o
  nf : ∀ p, z.H0 p ≠ none → z.F0 p = none → F p = none
  brv : ∀ (i : Nat) (d : D) (v : V), e[i]? = some (some (.br d)) → σ[i]? = some (some v) → z.V0 i = v

def TR (c : Ct) (z : Zs) (F H : Hp) (σ : L2.St) (e : DEnv) : T → V → Prop
  | .sl i, v => σ[i]? = some (some v)
  | .vl d, v => Rp c F d v
  | .nw d, v => ∃ p, v = .ref p ∧ Own c F H d p ∧ z.H0 p = none ∧ ∀ i, ¬ RootAt σ e i p

section
variable {c : Ct} {z : Zs} {σ : L2.St} {H H' F G : Hp} {e : DEnv}
theorem I2.own {i : Nat} {b : B} (I : I2 c z σ H F e) (h : e[i]? = some (some b)) (hr : b.isRoot = true) : ∃ p, σ[i]? = some (some (.ref p)) ∧ Own c F H b.d p ∧ (z.H0 p = none ∨ z.Bo p) := by
  obtain ⟨v, hv, r⟩ := I.slot i b h
  cases b with
  | sh d => cases hr
  | ow d => obtain ⟨p, rfl, o, k⟩ := r; exact ⟨p, hv, o, .inl k⟩
  | br d => obtain ⟨p, rfl, o, k⟩ := r; exact ⟨p, hv, o, .inr k⟩
  | ex x => cases hr
theorem I2.rootAt {i : Nat} {p : Addr} (I : I2 c z σ H F e) (h : RootAt σ e i p) : ∃ d, Own c F H d p := by
  obtain ⟨b, h1, h2, h3⟩ := h
  obtain ⟨q, h4, o, _⟩ := I.own h1 h2
  rw [h3] at h4; cases h4
  exact ⟨_, o⟩
theorem Own.ne_none {d : D} {p q : Addr} (o : Own c F H d p) (h : H q = none) : p ≠ q := fun z => by
  obtain ⟨x, hx⟩ := o.at
  rw [z, h] at hx; cases hx
theorem I2.fresh0 {p : Addr} (I : I2 c z σ H F e) (hp : H p = none) : z.H0 p = none := by
  cases h : z.H0 p with
  | none => rfl
  | some o =>
    by_cases hb : z.Bo p
    · obtain ⟨o', h'⟩ := I.bo p hb
      rw [hp] at h'; cases h'
    · rw [I.keep p o h hb] at hp; cases hp
theorem I2.noroot {p : Addr} (I : I2 c z σ H F e) (hp : H p = none) (i : Nat) : ¬ RootAt σ e i p := fun h => by
  obtain ⟨d, o⟩ := I.rootAt h
  exact o.ne_none hp rfl

/-- the known part grows by objects that no name owns -/
theorem I2.grow (I : I2 c z σ H F e) (x : Ex F G) (y : Ex G H) (k : ∀ (i : Nat) (p : Addr), RootAt σ e i p → G p = none) (n : ∀ p, z.H0 p ≠ none → G p = F p) : I2 c z σ H G e := by
  refine ⟨I.len, I.f0.trans x, y, I.keep, fun i b h => ?_, I.dist, I.bo, fun p h1 h2 => (n p h1).trans (I.nf p h1 h2), I.brv⟩
  obtain ⟨v, hv, r⟩ := I.slot i b h
  refine ⟨v, hv, ?_⟩
  cases b with
  | sh d => exact Rp.mono x d v r
  | ow d => obtain ⟨p, rfl, o, q⟩ := r; exact ⟨p, rfl, o.mono x (k i p ⟨_, h, rfl, hv⟩) (fun _ h => h), q⟩
  | br d => obtain ⟨p, rfl, o, q⟩ := r; exact ⟨p, rfl, o.mono x (k i p ⟨_, h, rfl, hv⟩) (fun _ h => h), q⟩
  | ex y => obtain ⟨a, cls, dd, h1, h2, h3⟩ := r; exact ⟨a, cls, dd, h1, h2, h3.mono x⟩
/-- a new object of no name is frozen -/
theorem I2.sealNew {d : D} {p : Addr} (I : I2 c z σ H F e) (o : Own c F H d p) (h0 : z.H0 p = none) (hr : ∀ i, ¬ RootAt σ e i p) : ∃ G, Ex F G ∧ I2 c z σ H G e ∧ Rp c G d (.ref p) := by
  obtain ⟨G, x, y, r, k⟩ := o.seal I.fh
  refine ⟨G, x, I.grow x y (fun i q h => ?_) (fun q h => k q fun z => h (z ▸ h0)), r⟩
  obtain ⟨d', o'⟩ := I.rootAt h
  rw [k q fun z => hr i (z ▸ h)]
  exact o'.1
theorem get_set {α : Type} {l : List α} {i j : Nat} {a x : α} (h : (l.set i a)[j]? = some x) : (j = i ∧ x = a) ∨ (j ≠ i ∧ l[j]? = some x) := by
  by_cases e : i = j
  · subst e
    rw [List.getElem?_set] at h
    by_cases hi : i < l.length
    · simp [hi] at h; exact .inl ⟨rfl, h.symm⟩
    · simp [hi] at h
  · rw [List.getElem?_set_ne e] at h
    exact .inr ⟨fun q => e q.symm, h⟩
theorem get_setS {α : Type} {l : List α} {i : Nat} {a : α} (h : i < l.length) : (l.set i a)[i]? = some a := by
  rw [List.getElem?_set]; simp [h]
theorem get_lt {α : Type} {l : List α} {i : Nat} {x : α} (h : l[i]? = some x) : i < l.length := (List.getElem?_eq_some_iff.mp h).1
/-- a name forgets what it is alone with -/
theorem I2.drop (I : I2 c z σ H F e) (i : Nat) : I2 c z σ H F (e.set i none) := by
  have key : ∀ (j : Nat) (b : B), (e.set i none)[j]? = some (some b) → e[j]? = some (some b) := fun j b h => by
    rcases get_set h with ⟨_, q⟩ | ⟨_, q⟩
    · cases q
    · exact q
  exact ⟨by rw [List.length_set]; exact I.len, I.f0, I.fh, I.keep, fun j b h => I.slot j b (key j b h), fun j k p ⟨b, h1, h2, h3⟩ ⟨b', h1', h2', h3'⟩ => I.dist j k p ⟨b, key _ _ h1, h2, h3⟩ ⟨b', key _ _ h1', h2', h3'⟩, I.bo, I.nf, fun j d v h => I.brv j d v (key _ _ h)⟩
/-- a name's binding is replaced by shared data -/
theorem I2.rebind {i : Nat} {v : V} {d : D} (I : I2 c z σ H F e) (hv : σ[i]? = some (some v)) (r : Rp c F d v) : I2 c z σ H F (e.set i (some (.sh d))) := by
  refine ⟨by rw [List.length_set]; exact I.len, I.f0, I.fh, I.keep, fun j b h => ?_, fun j k p ⟨b, h1, h2, h3⟩ ⟨b', h1', h2', h3'⟩ => ?_, I.bo, I.nf, fun j d' v' h => ?_⟩
  · rcases get_set h with ⟨rfl, q⟩ | ⟨_, q⟩
    · cases q; exact ⟨v, hv, r⟩
    · exact I.slot j b q
  · rcases get_set h1 with ⟨_, q⟩ | ⟨_, q⟩
    · cases q; cases h2
    · rcases get_set h1' with ⟨_, q'⟩ | ⟨_, q'⟩
      · cases q'; cases h2'
      · exact I.dist j k p ⟨b, q, h2, h3⟩ ⟨b', q', h2', h3'⟩
  · rcases get_set h with ⟨_, q⟩ | ⟨_, q⟩
    · cases q
    · exact I.brv j d' v' q
/-- a name's own object is frozen -/
theorem I2.freeze {i : Nat} {d : D} (I : I2 c z σ H F e) (h : e[i]? = some (some (.ow d))) : ∃ G v, Ex F G ∧ I2 c z σ H G (e.set i (some (.sh d))) ∧ σ[i]? = some (some v) ∧ Rp c G d v := by
  obtain ⟨v, hv, p, rfl, o, hp⟩ := I.slot i _ h
  obtain ⟨G, x, I', r⟩ := (I.drop i).sealNew o hp fun j ⟨b, h1, h2, h3⟩ => by
    rcases get_set h1 with ⟨_, q⟩ | ⟨ne, q⟩
    · cases q
    · exact ne (I.dist j i p ⟨b, q, h2, h3⟩ ⟨_, h, rfl, hv⟩)
  have I'' := I'.rebind (i := i) (by exact hv) r
  rw [List.set_set] at I''
  exact ⟨G, _, x, I'', hv, r⟩
/-- the heap grows: new objects are laid, nobody's yet -/
theorem I2.alloc (I : I2 c z σ H F e) (e1 : Ex H H') : I2 c z σ H' F e := by
  refine ⟨I.len, I.f0, I.fh.trans e1, fun q u h1 h2 => e1 _ _ (I.keep q u h1 h2), fun i b h => ?_, I.dist, fun q h => let ⟨u, k⟩ := I.bo q h; ⟨u, e1 _ _ k⟩, I.nf, I.brv⟩
  obtain ⟨v, hv, r⟩ := I.slot i b h
  refine ⟨v, hv, ?_⟩
  cases b with
  | sh d => exact r
  | ow d => obtain ⟨q, rfl, w, k⟩ := r; exact ⟨q, rfl, w.mono (Ex.refl F) w.1 (fun _ h => e1 _ _ h), k⟩
  | br d => obtain ⟨q, rfl, w, k⟩ := r; exact ⟨q, rfl, w.mono (Ex.refl F) w.1 (fun _ h => e1 _ _ h), k⟩
  | ex y => exact r
/-- a new tuple, known at once -/
theorem I2.allocT {p : Addr} {o : HO} (I : I2 c z σ H F e) (hp : H p = none) : I2 c z σ (upd H p o) (upd F p o) e := by
  have hF : F p = none := fresh_back I.fh hp
  have J := I.alloc (Ex.new (o := o) hp)
  refine J.grow (Ex.new hF) (fun a u h => ?_) (fun i q h => ?_) (fun q h => upd_ne fun z => h (z ▸ I.fresh0 hp))
  · by_cases ha : a = p
    · subst ha; rw [upd_same] at h; rw [upd_same]; exact h
    · rw [upd_ne ha] at h; rw [upd_ne ha]; exact I.fh _ _ h
  · obtain ⟨d, w⟩ := I.rootAt h
    rw [upd_ne (w.ne_none hp)]
    exact w.1
theorem B.re_root {b : B} {d : D} : (b.re d).isRoot = b.isRoot := by cases b <;> rfl
/-- names' objects are changed (those of the names in L), the known part and the heap grow -/
theorem I2.change {L : List Nat} {e' : DEnv} (I : I2 c z σ H F e) (hl : e'.length = e.length) (x : Ex F G) (y : Ex G H') (kp : ∀ p o, H p = some o → (∀ i ∈ L, ¬ RootAt σ e i p) → H' p = some o)
    (kb : ∀ p, H p ≠ none → H' p ≠ none) (nf : ∀ p, H p ≠ none → F p = none → G p = none)
    (hb : ∀ (i : Nat) (b' : B), e'[i]? = some (some b') → ∃ b, e[i]? = some (some b) ∧ ((b' = b ∧ (b.isRoot = true → i ∉ L)) ∨ (b.isRoot = true ∧ ∃ d p, b' = b.re d ∧ σ[i]? = some (some (.ref p)) ∧ Own c G H' d p))) : I2 c z σ H' G e' := by
  have key : ∀ i p, RootAt σ e' i p → RootAt σ e i p := fun i p ⟨b', h1, h2, h3⟩ => by
    obtain ⟨b, h4, h5⟩ := hb i b' h1
    refine ⟨b, h4, ?_, h3⟩
    rcases h5 with ⟨rfl, _⟩ | ⟨h5, _⟩
    · exact h2
    · exact h5
  have h0 : ∀ p, z.H0 p ≠ none → H p ≠ none := fun p h => by
    cases q : z.H0 p with
    | none => exact absurd q h
    | some o =>
      by_cases hB : z.Bo p
      · obtain ⟨u, k⟩ := I.bo p hB; rw [k]; exact fun z => nomatch z
      · rw [I.keep p o q hB]; exact fun z => nomatch z
  refine ⟨hl.trans I.len, I.f0.trans x, y, fun p o h1 h2 => kp p o (I.keep p o h1 h2) fun i _ ⟨b, h3, h4, h5⟩ => ?_, fun i b' h => ?_, fun i j p h1 h2 => I.dist i j p (key _ _ h1) (key _ _ h2), fun p h => ?_, fun p h1 h2 => nf p (h0 p h1) (I.nf p h1 h2), fun i d v h hv => ?_⟩
  · obtain ⟨v, hv, r⟩ := I.slot i b h3
    rw [h5] at hv; cases hv
    cases b with
    | sh d => cases h4
    | ow d => obtain ⟨q, e1, _, h6⟩ := r; cases e1; rw [h1] at h6; cases h6
    | br d => obtain ⟨q, e1, _, h6⟩ := r; cases e1; exact h2 h6
    | ex y => cases h4
  · obtain ⟨b, h1, h2⟩ := hb i b' h
    obtain ⟨v, hv, r⟩ := I.slot i b h1
    refine ⟨v, hv, ?_⟩
    rcases h2 with ⟨rfl, h2⟩ | ⟨h2, d, p, rfl, h3, h4⟩
    · cases b' with
      | sh d => exact Rp.mono x d v r
      | ow d =>
        obtain ⟨p, rfl, o, q⟩ := r
        have hp : H p ≠ none := by obtain ⟨u, hu⟩ := o.at; rw [hu]; exact fun z => nomatch z
        exact ⟨p, rfl, o.mono x (nf p hp o.1) (fun u hu => kp p u hu fun j hj hr => h2 rfl (I.dist i j p ⟨_, h1, rfl, hv⟩ hr ▸ hj)), q⟩
      | br d =>
        obtain ⟨p, rfl, o, q⟩ := r
        have hp : H p ≠ none := by obtain ⟨u, hu⟩ := o.at; rw [hu]; exact fun z => nomatch z
        exact ⟨p, rfl, o.mono x (nf p hp o.1) (fun u hu => kp p u hu fun j hj hr => h2 rfl (I.dist i j p ⟨_, h1, rfl, hv⟩ hr ▸ hj)), q⟩
      | ex y => obtain ⟨a, cls, dd, h1, h2, h3⟩ := r; exact ⟨a, cls, dd, h1, h2, h3.mono x⟩
    · rw [h3] at hv; cases hv
      cases b with
      | sh d => cases h2
      | ow d' => obtain ⟨q, e1, _, h6⟩ := r; cases e1; exact ⟨p, rfl, h4, h6⟩
      | br d' => obtain ⟨q, e1, _, h6⟩ := r; cases e1; exact ⟨p, rfl, h4, h6⟩
      | ex y => cases h2
  · obtain ⟨u, hu⟩ := I.bo p h
    have := kb p (by rw [hu]; exact fun z => nomatch z)
    cases q : H' p with
    | none => exact absurd q this
    | some o => exact ⟨o, rfl⟩
  · obtain ⟨b, h1, h2⟩ := hb i _ h
    have : ∃ d', b = .br d' := by
      rcases h2 with ⟨rfl, _⟩ | ⟨_, d', p, h3, _⟩
      · exact ⟨d, rfl⟩
      · cases b with
        | sh _ => cases h3
        | ow _ => cases h3
        | br d'' => exact ⟨d'', rfl⟩
        | ex _ => cases h3
    obtain ⟨d', rfl⟩ := this
    exact I.brv i d' v h1 hv
/-- one name's object is changed -/
theorem I2.mut {i : Nat} {b : B} {p : Addr} {d : D} {o : HO} (I : I2 c z σ H F e) (h : e[i]? = some (some b)) (hr : b.isRoot = true) (hv : σ[i]? = some (some (.ref p))) (w : Own c F (upd H p o) d p) : I2 c z σ (upd H p o) F (e.set i (some (b.re d))) := by
  refine I.change (L := [i]) (by rw [List.length_set]) (Ex.refl F) (fun a u h1 => ?_) (fun q u h1 h2 => ?_) (fun q h1 => ?_) (fun _ _ h => h) fun j b' h1 => ?_
  · by_cases ha : a = p
    · subst ha; rw [w.1] at h1; cases h1
    · rw [upd_ne ha]; exact I.fh _ _ h1
  · by_cases ha : q = p
    · subst ha; exact absurd ⟨b, h, hr, hv⟩ (h2 i List.mem_cons_self)
    · rw [upd_ne ha]; exact h1
  · by_cases ha : q = p
    · subst ha; rw [upd_same]; exact fun z => nomatch z
    · rw [upd_ne ha]; exact h1
  · rcases get_set h1 with ⟨rfl, q⟩ | ⟨ne, q⟩
    · cases q; exact ⟨b, h, .inr ⟨hr, d, p, rfl, hv, w⟩⟩
    · exact ⟨b', q, .inl ⟨rfl, fun _ => by simp [ne]⟩⟩
/-- a name is bound to shared data -/
theorem I2.store {i : Nat} {v : V} {d : D} (I : I2 c z σ H F e) (hi : i < σ.length) (r : Rp c F d v) : I2 c z (σ.set i (some v)) H F (e.set i (some (.sh d))) := by
  have key : ∀ (j : Nat) (p : Addr), RootAt (σ.set i (some v)) (e.set i (some (.sh d))) j p → RootAt σ e j p := fun j p ⟨b, h1, h2, h3⟩ => by
    rcases get_set h1 with ⟨_, q⟩ | ⟨ne, q⟩
    · cases q; cases h2
    · rcases get_set h3 with ⟨q', _⟩ | ⟨_, q'⟩
      · exact absurd q' ne
      · exact ⟨b, q, h2, q'⟩
  refine ⟨by rw [List.length_set, List.length_set]; exact I.len, I.f0, I.fh, I.keep, fun j b h => ?_, fun j k p h1 h2 => I.dist j k p (key _ _ h1) (key _ _ h2), I.bo, I.nf, fun j d' v' h h' => ?_⟩
  · rcases get_set h with ⟨rfl, q⟩ | ⟨ne, q⟩
    · cases q; exact ⟨v, get_setS hi, r⟩
    · obtain ⟨w, h1, h2⟩ := I.slot j b q
      exact ⟨w, by rw [List.getElem?_set_ne (Ne.symm ne)]; exact h1, h2⟩
  · rcases get_set h with ⟨_, q⟩ | ⟨ne, q⟩
    · cases q
    · rw [List.getElem?_set_ne (Ne.symm ne)] at h'
      exact I.brv j d' v' q h'
/-- a name is bound to a new object -/
theorem I2.storeN {i : Nat} {p : Addr} {d : D} (I : I2 c z σ H F e) (hi : i < σ.length) (w : Own c F H d p) (h0 : z.H0 p = none) (hn : ∀ i, ¬ RootAt σ e i p) : I2 c z (σ.set i (some (.ref p))) H F (e.set i (some (.ow d))) := by
  have key : ∀ (j : Nat) (q : Addr), RootAt (σ.set i (some (.ref p))) (e.set i (some (.ow d))) j q → (j = i ∧ q = p) ∨ (j ≠ i ∧ RootAt σ e j q) := fun j q ⟨b, h1, h2, h3⟩ => by
    rcases get_set h1 with ⟨e1, q1⟩ | ⟨ne, q1⟩
    · rcases get_set h3 with ⟨_, q2⟩ | ⟨ne, _⟩
      · cases q2; exact .inl ⟨e1, rfl⟩
      · exact absurd e1 ne
    · rcases get_set h3 with ⟨q', _⟩ | ⟨_, q'⟩
      · exact absurd q' ne
      · exact .inr ⟨ne, b, q1, h2, q'⟩
  refine ⟨by rw [List.length_set, List.length_set]; exact I.len, I.f0, I.fh, I.keep, fun j b h => ?_, fun j k q h1 h2 => ?_, I.bo, I.nf, fun j d' v' h h' => ?_⟩
  · rcases get_set h with ⟨rfl, q⟩ | ⟨ne, q⟩
    · cases q; exact ⟨_, get_setS hi, p, rfl, w, h0⟩
    · obtain ⟨w, h1, h2⟩ := I.slot j b q
      exact ⟨w, by rw [List.getElem?_set_ne (Ne.symm ne)]; exact h1, h2⟩
  · rcases key j q h1 with ⟨rfl, rfl⟩ | ⟨n1, r1⟩
    · rcases key k q h2 with ⟨rfl, _⟩ | ⟨_, r2⟩
      · rfl
      · exact absurd r2 (hn k)
    · rcases key k q h2 with ⟨rfl, rfl⟩ | ⟨_, r2⟩
      · exact absurd r1 (hn j)
      · exact I.dist j k q r1 r2
  · rcases get_set h with ⟨_, q⟩ | ⟨ne, q⟩
    · cases q
    · rw [List.getElem?_set_ne (Ne.symm ne)] at h'
      exact I.brv j d' v' q h'
/-- a name goes -/
theorem I2.unbind {i : Nat} (I : I2 c z σ H F e) : I2 c z (σ.set i none) H F (e.set i none) := by
  have key : ∀ (j : Nat) (b : B), (e.set i none)[j]? = some (some b) → j ≠ i ∧ e[j]? = some (some b) := fun j b h => by
    rcases get_set h with ⟨_, q⟩ | ⟨ne, q⟩
    · cases q
    · exact ⟨ne, q⟩
  refine ⟨by rw [List.length_set, List.length_set]; exact I.len, I.f0, I.fh, I.keep, fun j b h => ?_, fun j k p ⟨b, h1, h2, h3⟩ ⟨b', h1', h2', h3'⟩ => ?_, I.bo, I.nf, fun j d' v' h h' => ?_⟩
  · obtain ⟨ne, q⟩ := key j b h
    obtain ⟨w, h1, h2⟩ := I.slot j b q
    exact ⟨w, by rw [List.getElem?_set_ne (Ne.symm ne)]; exact h1, h2⟩
  · obtain ⟨ne, q⟩ := key j b h1
    obtain ⟨ne', q'⟩ := key k b' h1'
    rw [List.getElem?_set_ne (Ne.symm ne)] at h3
    rw [List.getElem?_set_ne (Ne.symm ne')] at h3'
    exact I.dist j k p ⟨b, q, h2, h3⟩ ⟨b', q', h2', h3'⟩
  · obtain ⟨ne, q⟩ := key j _ h
    rw [List.getElem?_set_ne (Ne.symm ne)] at h'
    exact I.brv j d' v' q h'

/-! ### what is handed on -/
/-- read: shared, or of a name -/
def View (c : Ct) (F H : Hp) (d : D) (v : V) : Prop := Rp c F d v ∨ ∃ p, v = .ref p ∧ Own c F H d p
def T.seal : T → T
  | .nw d => .vl d
  | t => t
def lookT (t : T) (e : DEnv) : Option D := match t with
  | .sl i => match e[i]? with
    | some (some (.ex _)) => none
    | some (some b) => some b.d
    | _ => none
  | .vl d => some d
  | .nw d => some d
def escape (t : T) (e : DEnv) : Option (D × DEnv) := match t with
  | .sl i => match e[i]? with
    | some (some (.sh d)) => some (d, e)
    | some (some (.ow d)) => some (d, e.set i (some (.sh d)))
    | _ => none
  | .vl d => some (d, e)
  | .nw d => some (d, e)
theorem TR.seal {t : T} {v : V} (I : I2 c z σ H F e) (h : TR c z F H σ e t v) : ∃ G, Ex F G ∧ I2 c z σ H G e ∧ TR c z G H σ e t.seal v := by
  cases t with
  | sl i => exact ⟨F, Ex.refl F, I, h⟩
  | vl d => exact ⟨F, Ex.refl F, I, h⟩
  | nw d =>
    obtain ⟨p, rfl, w, h0, hn⟩ := h
    exact I.sealNew w h0 hn
theorem TR.keep {t : T} {v : V} {e' : DEnv} (h : TR c z F H σ e t.seal v) (x : Ex F G) : TR c z G H' σ e' t.seal v := by
  cases t with
  | sl i => exact h
  | vl d => exact Rp.mono x d v h
  | nw d => exact Rp.mono x d v h
theorem TR.view {t : T} {v : V} {d : D} (I : I2 c z σ H F e) (h : TR c z F H σ e t v) (l : lookT t e = some d) : View c F H d v := by
  cases t with
  | sl i =>
    unfold lookT at l
    dsimp only at l
    split at l
    · cases l
    · rename_i b hne hb
      obtain ⟨w, hw, r⟩ := I.slot i b hb
      have h' : σ[i]? = some (some v) := h
      rw [h'] at hw; cases hw; cases l
      cases b with
      | sh d => exact .inl r
      | ow d => obtain ⟨p, rfl, o, _⟩ := r; exact .inr ⟨p, rfl, o⟩
      | br d => obtain ⟨p, rfl, o, _⟩ := r; exact .inr ⟨p, rfl, o⟩
      | ex y => exact (hne y rfl).elim
    · cases l
  | vl d => cases l; exact .inl h
  | nw d => cases l; obtain ⟨p, rfl, w, _⟩ := h; exact .inr ⟨p, rfl, w⟩
theorem TR.escape {t : T} {v : V} {d : D} {e' : DEnv} (I : I2 c z σ H F e) (h : TR c z F H σ e t v) (l : escape t e = some (d, e')) : ∃ G, Ex F G ∧ I2 c z σ H G e' ∧ Rp c G d v := by
  cases t with
  | sl i =>
    have h' : σ[i]? = some (some v) := h
    unfold DL.escape at l
    dsimp only at l
    split at l
    · rename_i d' hb
      obtain ⟨w, hw, r⟩ := I.slot i _ hb
      rw [h'] at hw; cases hw; cases l
      exact ⟨F, Ex.refl F, I, r⟩
    · rename_i d' hb
      obtain ⟨G, w, x, J, hw, r⟩ := I.freeze hb
      rw [h'] at hw; cases hw; cases l
      exact ⟨G, x, J, r⟩
    · cases l
  | vl d' => cases l; exact ⟨F, Ex.refl F, I, h⟩
  | nw d' =>
    cases l
    obtain ⟨p, rfl, w, h0, hn⟩ := h
    exact I.sealNew w h0 hn
end
end DL

/-! DL, part c: judgements of expressions (DE), tests (DT), arguments (DA) by what they do on data; operators. -/
namespace DL
open PySem L2 Evl

abbrev FE := DEnv → Res (T × DEnv)
abbrev FT := DEnv → Res (Bool × DEnv)
abbrev FA := DEnv → Res (List T × DEnv)
/-- what is wished of an exception -/
def Xp (c : Ct) (z : Zs) (W : WX) (σ : L2.St) (F : Hp) (x : XV) (e' : DEnv) : Prop := ∀ cls dd H' F', Ex F F' → I2 c z σ H' F' e' → XR c F' x cls dd → W cls dd σ H'
theorem Xp.mono {c : Ct} {z : Zs} {W : WX} {σ : L2.St} {F G : Hp} {x : XV} {e' : DEnv} (h : Xp c z W σ F x e') (k : Ex F G) : Xp c z W σ G x e' := fun cls dd H' F' k' I r => h cls dd H' F' (k.trans k') I r
def SndE (c : Ct) (W : WX) (te : TE) (f : FE) : Prop := ∀ (z : Zs) σ H F e (Q : VK), I2 c z σ H F e →
  Wp (f e) (fun r => ∀ v H' F', Ex F F' → I2 c z σ H' F' r.2 → TR c z F' H' σ r.2 r.1 v → Q v H') (Xp c z W σ F) → te σ H Q
def SndT (c : Ct) (W : WX) (tt : TT) (f : FT) : Prop := ∀ (z : Zs) σ H F e (Q : Bool → Hp → Prop), I2 c z σ H F e →
  Wp (f e) (fun r => ∀ H' F', Ex F F' → I2 c z σ H' F' r.2 → Q r.1 H') (Xp c z W σ F) → tt σ H Q
/-- tokens of arguments, all sealed -/
def TRs (c : Ct) (z : Zs) (F H : Hp) (σ : L2.St) (e : DEnv) : List T → List V → Prop
  | [], vs => vs = []
  | t :: ts, vs => ∃ v r, vs = v :: r ∧ t.seal = t ∧ TR c z F H σ e t v ∧ TRs c z F H σ e ts r
def SndA (c : Ct) (W : WX) (ta : TA) (f : FA) : Prop := ∀ (z : Zs) σ H F e (Q : List V → Hp → Prop), I2 c z σ H F e →
  Wp (f e) (fun r => ∀ vs H' F', Ex F F' → I2 c z σ H' F' r.2 → TRs c z F' H' σ r.2 r.1 vs → Q vs H') (Xp c z W σ F) → ta σ H Q

structure DE (X : Cx) (c : Ct) (W : WX) (ex : Expr) (te : TE) (f : FE) : Prop where
  pe : PE X ex te
  sn : SndE c W te f
structure DT (X : Cx) (c : Ct) (W : WX) (ex : Expr) (tt : TT) (f : FT) : Prop where
  pt : PT X ex tt
  sn : SndT c W tt f
structure DA (X : Cx) (c : Ct) (W : WX) (es : List Expr) (ta : TA) (f : FA) : Prop where
  pa : PA X es ta
  sn : SndA c W ta f

theorem T.seal_seal (t : T) : t.seal.seal = t.seal := by cases t <;> rfl
section
variable {X : Cx} {c : Ct} {z : Zs} {W : WX} {σ : L2.St} {H H' F G : Hp} {e : DEnv} {a b : Expr} {ta tb : TE} {fa fb : FE} {es : List Expr} {tr : TA} {fr : FA} {pos : Pos}
theorem TRs.keep {e' : DEnv} (x : Ex F G) : ∀ {ts : List T} {vs : List V}, TRs c z F H σ e ts vs → TRs c z G H' σ e' ts vs
  | [], _, h => h
  | t :: ts, _, ⟨v, r, h1, h2, h3, h4⟩ => ⟨v, r, h1, h2, by rw [← h2] at h3 ⊢; exact h3.keep x, TRs.keep x h4⟩
theorem TRs.len : ∀ {ts : List T} {vs : List V}, TRs c z F H σ e ts vs → ts.length = vs.length
  | [], _, h => by cases h; rfl
  | t :: ts, _, ⟨v, r, h1, h2, h3, h4⟩ => by subst h1; simp [TRs.len h4]

/-! ### names, constants -/
def fVar (i : Nat) : FE := fun e => match e[i]? with
  | some (some _) => .ok (.sl i, e)
  | _ => .stuck
theorem sn_var (i : Nat) : SndE c W (tVar i) (fVar i) := fun z σ H F e Q I h => by
  unfold fVar at h
  split at h
  · rename_i b hb
    obtain ⟨v, hv, r⟩ := I.slot i b hb
    exact ⟨v, hv, h v H F (Ex.refl F) I hv⟩
  · exact h.elim
def fC (d : D) : FE := fun e => .ok (.vl d, e)
theorem sn_c {d : D} {v : V} (h : ∀ F, Rp c F d v) : SndE c W (tC v) (fC d) := fun z σ H F e Q I k => k v H F (Ex.refl F) I (h F)
theorem de_var (i : Nat) {x : Str} (h : PE X (.Name x pos) (tVar i)) : DE X c W (.Name x pos) (tVar i) (fVar i) := ⟨h, sn_var i⟩
theorem de_int {n j} : DE X c W (.Constant (.int n) j pos) (tC (.int n)) (fC (.int n)) := ⟨pe_int, sn_c fun _ => rfl⟩
theorem de_bl {n j} : DE X c W (.Constant (.bool n) j pos) (tC (.bl n)) (fC (.bl n)) := ⟨pe_bl, sn_c fun _ => rfl⟩
theorem de_non {j} : DE X c W (.Constant .none j pos) (tC .non) (fC .non) := ⟨pe_non, sn_c fun _ => rfl⟩
theorem de_str {n j} : DE X c W (.Constant (.str n) j pos) (tC (.str n)) (fC (.str n)) := ⟨pe_str, sn_c fun _ => rfl⟩

/-! ### arguments -/
def fA0 : FA := fun e => .ok ([], e)
def fA1 (fa : FE) (fr : FA) : FA := fun e => (fa e).bind fun r => (fr r.2).bind fun q => .ok (r.1.seal :: q.1, q.2)
theorem da_nil : DA X c W [] tNil fA0 := ⟨pa_nil, fun z σ H F e Q I h => h [] H F (Ex.refl F) I rfl⟩
theorem da_cons (ha : DE X c W a ta fa) (hr : DA X c W es tr fr) (hs : starEach (a :: es) X.env = (false, eval a X.env) :: starEach es X.env := by rfl) : DA X c W (a :: es) (tCons ta tr) (fA1 fa fr) := by
  refine ⟨pa_cons ha.pe hr.pa hs, fun z σ H F e Q I h => ?_⟩
  unfold fA1 at h
  rw [Wp.bind] at h
  refine ha.sn z σ H F e _ I (h.mono (fun r _ h v H1 F1 x1 I1 t1 => ?_) fun _ _ h => h)
  obtain ⟨F2, x2, I2, t2⟩ := t1.seal I1
  rw [Wp.bind] at h
  refine hr.sn z σ H1 F2 _ _ I2 (h.mono (fun q _ h vs H3 F3 x3 I3 t3 => ?_) fun _ _ h => h.mono (x1.trans x2))
  exact h (v :: vs) H3 F3 ((x1.trans x2).trans x3) I3 ⟨v, vs, rfl, T.seal_seal _, t2.keep x3, t3⟩

/-! ### results of operations -/
inductive RV where
  | fl (d : D) | nl (ds : List D) | nt (ds : List D)
def RV.tok : RV → T
  | .fl d => .vl d | .nl ds => .nw (.lst ds) | .nt ds => .vl (.tup ds)
def RV.Post (c : Ct) (F H : Hp) (Q : VK) : RV → Prop
  | .fl d => ∀ v, Rp c F d v → Q v H
  | .nl ds => ∀ p vs, RpL c F ds vs → H p = none → Q (.ref p) (upd H p (.lst vs))
  | .nt ds => ∀ p vs, RpL c F ds vs → H p = none → Q (.ref p) (upd H p (.tup vs))
theorem RV.post_of {rv : RV} {Q : VK} (I : I2 c z σ H F e) (k : ∀ v H' F', Ex F F' → I2 c z σ H' F' e → TR c z F' H' σ e rv.tok v → Q v H') : rv.Post c F H Q := by
  cases rv with
  | fl d => exact fun v r => k v H F (Ex.refl F) I r
  | nl ds =>
    intro p vs r hp
    exact k _ _ F (Ex.refl F) (I.alloc (Ex.new hp)) ⟨p, rfl, ⟨fresh_back I.fh hp, vs, upd_same, r⟩, I.fresh0 hp, I.noroot hp⟩
  | nt ds =>
    intro p vs r hp
    have x := Ex.new (o := HO.tup vs) (fresh_back I.fh hp)
    exact k _ _ _ x (I.allocT hp) ⟨p, vs, rfl, st_of upd_same, RpL.mono x ds vs r⟩

/-! ### operators -/
def R2Ok (c : Ct) (r : R2) (op : D → D → Option RV) : Prop := ∀ F H d1 d2 v1 v2 rv (Q : VK), Ex F H → View c F H d1 v1 → View c F H d2 v2 → op d1 d2 = some rv → rv.Post c F H Q → r v1 v2 H Q
def R1Ok (c : Ct) (r : V → Hp → VK → Prop) (op : D → Option RV) : Prop := ∀ F H d1 v1 rv (Q : VK), Ex F H → View c F H d1 v1 → op d1 = some rv → rv.Post c F H Q → r v1 H Q
def fOp2 (op : D → D → Option RV) (fa fb : FE) : FE := fun e => (fa e).bind fun r => (fb r.2).bind fun q => Res.of ((lookT r.1.seal q.2).bind fun d1 => (lookT q.1 q.2).bind fun d2 => (op d1 d2).bind fun rv => some (rv.tok, q.2))
def fOp1 (op : D → Option RV) (fa : FE) : FE := fun e => (fa e).bind fun r => Res.of ((lookT r.1 r.2).bind fun d1 => (op d1).bind fun rv => some (rv.tok, r.2))
theorem obind {α β : Type} {o : Option α} {f : α → Option β} {b : β} (h : o.bind f = some b) : ∃ a, o = some a ∧ f a = some b := by
  cases o with
  | none => cases h
  | some a => exact ⟨a, rfl, h⟩
theorem sn_op2 {r : R2} {op : D → D → Option RV} (ho : R2Ok c r op) (ha : SndE c W ta fa) (hb : SndE c W tb fb) : SndE c W (tOp r ta tb) (fOp2 op fa fb) := fun z σ H F e Q I h => by
  unfold fOp2 at h
  rw [Wp.bind] at h
  refine ha z σ H F e _ I (h.mono (fun r _ h v H1 F1 x1 I1 t1 => ?_) fun _ _ h => h)
  obtain ⟨F2, x2, I2, t2⟩ := t1.seal I1
  rw [Wp.bind] at h
  refine hb z σ H1 F2 _ _ I2 (h.mono (fun q _ h w H3 F3 x3 I3 t3 => ?_) fun _ _ h => h.mono (x1.trans x2))
  obtain ⟨a, ea, h⟩ := Wp.of h
  obtain ⟨d1, l1, ea⟩ := obind ea
  obtain ⟨d2, l2, ea⟩ := obind ea
  obtain ⟨rv, l3, ea⟩ := obind ea
  cases ea
  refine ho F3 H3 d1 d2 v w rv Q I3.fh ((t2.keep (H' := H3) x3).view I3 l1) (t3.view I3 l2) l3 (RV.post_of I3 fun v' H' F' x' I' t' => ?_)
  exact h v' H' F' (((x1.trans x2).trans x3).trans x') I' t'
theorem sn_op1 {r : V → Hp → VK → Prop} {op : D → Option RV} (ho : R1Ok c r op) (ha : SndE c W ta fa) : SndE c W (tUn r ta) (fOp1 op fa) := fun z σ H F e Q I h => by
  unfold fOp1 at h
  rw [Wp.bind] at h
  refine ha z σ H F e _ I (h.mono (fun r _ h v H1 F1 x1 I1 t1 => ?_) fun _ _ h => h)
  obtain ⟨a, ea, h⟩ := Wp.of h
  obtain ⟨d1, l1, ea⟩ := obind ea
  obtain ⟨rv, l3, ea⟩ := obind ea
  cases ea
  exact ho F1 H1 d1 v rv Q I1.fh (t1.view I1 l1) l3 (RV.post_of I1 fun v' H' F' x' I' t' => h v' H' F' (x1.trans x') I' t')
theorem de_op {o : Operator} {r : R2} {op : D → D → Option RV} (hp : OpR X (binaryOp o) r) (ho : R2Ok c r op) (ha : DE X c W a ta fa) (hb : DE X c W b tb fb) : DE X c W (.BinOp a o b pos) (tOp r ta tb) (fOp2 op fa fb) :=
  ⟨pe_op hp ha.pe hb.pe, sn_op2 ho ha.sn hb.sn⟩
theorem de_un {o : UnaryOp} {r : V → Hp → VK → Prop} {op : D → Option RV} (hp : UnR X (unaryOp o) r) (ho : R1Ok c r op) (ha : DE X c W a ta fa) : DE X c W (.UnaryOp o a pos) (tUn r ta) (fOp1 op fa) :=
  ⟨pe_un hp ha.pe, sn_op1 ho ha.sn⟩
theorem de_cmp {o : CmpOp} {r : R2} {op : D → D → Option RV} (hp : OpR X (compareOp o) r) (ho : R2Ok c r op) (ha : DE X c W a ta fa) (hb : DE X c W b tb fb) (hm : behindInMarks o b = false) : DE X c W (.Compare a [o] [b] pos) (tOp r ta tb) (fOp2 op fa fb) :=
  ⟨pe_cmpR hp ha.pe hb.pe hm, sn_op2 ho ha.sn hb.sn⟩
/-- an item -/
theorem de_ix {r : R2} {op : D → D → Option RV} (hp : IxR X r) (ho : R2Ok c r op) (ha : DE X c W a ta fa) (hb : DE X c W b tb fb) (hs : PlainIx b) : DE X c W (.Subscript a b pos) (tOp r ta tb) (fOp2 op fa fb) :=
  ⟨pe_ix hp ha.pe hb.pe hs, sn_op2 ho ha.sn hb.sn⟩

/-! ### calls of what is built in -/
def lookTs : List T → DEnv → Option (List D)
  | [], _ => some []
  | t :: ts, e => (lookT t e).bind fun d => (lookTs ts e).bind fun ds => some (d :: ds)
def Views (c : Ct) (F H : Hp) : List D → List V → Prop
  | [], vs => vs = []
  | d :: ds, vs => ∃ v r, vs = v :: r ∧ View c F H d v ∧ Views c F H ds r
theorem TRs.views (I : I2 c z σ H F e) : ∀ {ts : List T} {vs : List V} {ds : List D}, TRs c z F H σ e ts vs → lookTs ts e = some ds → Views c F H ds vs
  | [], _, _, h, l => by cases l; exact h
  | t :: ts, _, _, ⟨v, r, h1, h2, h3, h4⟩, l => by
    obtain ⟨d, l1, l⟩ := obind l
    obtain ⟨ds, l2, l⟩ := obind l
    cases l
    exact ⟨v, r, h1, h3.view I l1, TRs.views I h4 l2⟩
def RlOk (c : Ct) (r : List V → Hp → VK → Prop) (op : List D → Option RV) : Prop := ∀ F H ds vs rv (Q : VK), Ex F H → Views c F H ds vs → op ds = some rv → rv.Post c F H Q → r vs H Q
def fCB (op : List D → Option RV) (fr : FA) : FE := fun e => (fr e).bind fun r => Res.of ((lookTs r.1 r.2).bind fun ds => (op ds).bind fun rv => some (rv.tok, r.2))
theorem sn_cb {r : List V → Hp → VK → Prop} {op : List D → Option RV} (ho : RlOk c r op) (ha : SndA c W tr fr) : SndE c W (tCB r tr) (fCB op fr) := fun z σ H F e Q I h => by
  unfold fCB at h
  rw [Wp.bind] at h
  refine ha z σ H F e _ I (h.mono (fun r _ h v H1 F1 x1 I1 t1 => ?_) fun _ _ h => h)
  obtain ⟨a, ea, h⟩ := Wp.of h
  obtain ⟨d1, l1, ea⟩ := obind ea
  obtain ⟨rv, l3, ea⟩ := obind ea
  cases ea
  exact ho F1 H1 d1 v rv Q I1.fh (t1.views I1 l1) l3 (RV.post_of I1 fun v' H' F' x' I' t' => h v' H' F' (x1.trans x') I' t')
theorem de_callB {r : List V → Hp → VK → Prop} {op : List D → Option RV} {x : Str} {id : String} {p : Pos} (hc : CallR X (.builtin id) r) (ho : RlOk c r op) (hg : Gl X x) (hm : X.mg x = none) (hv : bootBuiltins x = some (.builtin id)) (ha : DA X c W (a :: es) tr fr)
    (hn : x ≠ "__name__" := by decide) (hdb : (x == ("__debug__" : Str)) = false := by decide) (he : starEach (a :: es) X.env = (false, eval a X.env) :: starEach es X.env := by rfl) (hpl : (backTo pos (starEach es X.env)).any (·.1) = false := by rfl) :
    DE X c W (.Call (.Name x p) (a :: es) [] pos) (tCB r tr) (fCB op fr) := ⟨pe_callB hc hg hm hv ha.pa hn hdb he hpl, sn_cb ho ha.sn⟩
theorem de_callTy {r : List V → Hp → VK → Prop} {op : List D → Option RV} {x : Str} {id : String} {p : Pos} (hc : CallR X (.type id) r) (ho : RlOk c r op) (hg : Gl X x) (hm : X.mg x = none) (hv : bootBuiltins x = some (.type id)) (ha : DA X c W (a :: es) tr fr)
    (hn : x ≠ "__name__" := by decide) (hdb : (x == ("__debug__" : Str)) = false := by decide) (he : starEach (a :: es) X.env = (false, eval a X.env) :: starEach es X.env := by rfl) (hpl : (backTo pos (starEach es X.env)).any (·.1) = false := by rfl) :
    DE X c W (.Call (.Name x p) (a :: es) [] pos) (tCB r tr) (fCB op fr) := ⟨pe_callTy hc hg hm hv ha.pa hn hdb he hpl, sn_cb ho ha.sn⟩

/-! ### tests -/
def fB (f : FE) : FT := fun e => (f e).bind fun r => match lookT r.1 r.2 with
  | some (.bl b) => .ok (b, r.2)
  | _ => .stuck
theorem View.bl {b : Bool} {v : V} (h : View c F H (.bl b) v) : v = .bl b := by
  rcases h with h | ⟨p, _, h⟩
  · exact h
  · exact h.2.elim
theorem View.int {n : Int} {v : V} (h : View c F H (.int n) v) : v = .int n := by
  rcases h with h | ⟨p, _, h⟩
  · exact h
  · exact h.2.elim
theorem View.str {n : Str} {v : V} (h : View c F H (.str n) v) : v = .str n := by
  rcases h with h | ⟨p, _, h⟩
  · exact h
  · exact h.2.elim
theorem View.non {v : V} (h : View c F H .non v) : v = .non := by
  rcases h with h | ⟨p, _, h⟩
  · exact h
  · exact h.2.elim
theorem View.lst {ds : List D} {v : V} (x : Ex F H) (h : View c F H (.lst ds) v) : ∃ p vs, v = .ref p ∧ H p = some (.lst vs) ∧ RpL c F ds vs := by
  rcases h with ⟨p, vs, h1, h2, h3⟩ | ⟨p, h1, _, vs, h2, h3⟩
  · exact ⟨p, vs, h1, x _ _ h2, h3⟩
  · exact ⟨p, vs, h1, h2, h3⟩
theorem View.rol {ds : List D} {v : V} (x : Ex F H) (h : View c F H (.rol ds) v) : ∃ p vs, v = .ref p ∧ SqL c.K H p vs ∧ RpL c F ds vs := by
  rcases h with ⟨p, vs, h1, h2, h3⟩ | ⟨p, h1, h⟩
  · exact ⟨p, vs, h1, ex_l x h2, h3⟩
  · exact h.2.elim
theorem View.tup {ds : List D} {v : V} (x : Ex F H) (h : View c F H (.tup ds) v) : ∃ p vs, v = .ref p ∧ SqT c.K H p vs ∧ RpL c F ds vs := by
  rcases h with ⟨p, vs, h1, h2, h3⟩ | ⟨p, h1, h⟩
  · exact ⟨p, vs, h1, ex_t x h2, h3⟩
  · exact h.2.elim
theorem View.ins {k : Nat} {ds : List D} {v : V} (x : Ex F H) (h : View c F H (.ins k ds) v) : ∃ p dx vs, v = .ref p ∧ H p = some (.ins (c.cl k) dx ((c.fn k).zip vs)) ∧ RpL c F ds vs := by
  rcases h with ⟨p, dx, vs, h1, h2, h3⟩ | ⟨p, h1, _, dx, vs, h2, h3⟩
  · exact ⟨p, dx, vs, h1, x _ _ h2, h3⟩
  · exact ⟨p, dx, vs, h1, h2, h3⟩
theorem sn_B {t : TT} (h : ∀ σ H Q, (ta σ H fun x H1 => ∃ k, x = .bl k ∧ Q k H1) → t σ H Q) (ha : SndE c W ta fa) : SndT c W t (fB fa) := fun z σ H F e Q I k => by
  unfold fB at k
  rw [Wp.bind] at k
  refine h σ H Q (ha z σ H F e _ I (k.mono (fun r _ h v H1 F1 x1 I1 t1 => ?_) fun _ _ h => h))
  cases hl : lookT r.1 r.2 with
  | none => rw [hl] at h; exact h.elim
  | some d =>
    rw [hl] at h
    cases d <;> first | exact h.elim | skip
    rename_i b
    exact ⟨b, (t1.view I1 hl).bl, h H1 F1 x1 I1⟩
theorem dt_val (ha : DE X c W a ta fa) (he : ∀ whole, isTrue a X.env whole = (do let v ← whole; standAt a.pos; holding [v] (truthy v)) := by intro _; rfl) : DT X c W a (tB ta) (fB fa) := ⟨pt_val ha.pe he, sn_B (fun _ _ _ h => h) ha.sn⟩
theorem dt_cmp {o : CmpOp} {r : R2} {op : D → D → Option RV} (hp : OpR X (compareOp o) r) (ho : R2Ok c r op) (ha : DE X c W a ta fa) (hb : DE X c W b tb fb) (hm : behindInMarks o b = false) : DT X c W (.Compare a [o] [b] pos) (tTest (tOp r ta tb)) (fB (fOp2 op fa fb)) :=
  ⟨pt_cmpR hp ha.pe hb.pe hm, sn_B (fun _ _ _ h => h) (sn_op2 ho ha.sn hb.sn)⟩
variable {tA tB' : TT} {fA fB' : FT} {rest : List Expr}
def fNot (f : FT) : FT := fun e => (f e).bind fun r => .ok (!r.1, r.2)
def fAnd (f g : FT) : FT := fun e => (f e).bind fun r => if r.1 = true then g r.2 else .ok (false, r.2)
def fOr (f g : FT) : FT := fun e => (f e).bind fun r => if r.1 = true then .ok (true, r.2) else g r.2
theorem sn_not (ha : SndT c W tA fA) : SndT c W (tNot tA) (fNot fA) := fun z σ H F e Q I h => by
  unfold fNot at h
  rw [Wp.bind] at h
  exact ha z σ H F e _ I (h.mono (fun r _ h => h) fun _ _ h => h)
theorem sn_and (ha : SndT c W tA fA) (hb : SndT c W tB' fB') : SndT c W (tAnd tA tB') (fAnd fA fB') := fun z σ H F e Q I h => by
  unfold fAnd at h
  rw [Wp.bind] at h
  refine ha z σ H F e _ I (h.mono (fun r _ h H1 F1 x1 I1 => ?_) fun _ _ h => h)
  obtain ⟨b, e1⟩ := r
  cases b with
  | true =>
    rw [if_pos rfl] at h
    show tB' σ H1 Q
    exact hb z σ H1 F1 e1 Q I1 (h.mono (fun q _ h H2 F2 x2 I2 => h H2 F2 (x1.trans x2) I2) fun _ _ h => h.mono x1)
  | false =>
    rw [if_neg Bool.false_ne_true] at h
    exact h H1 F1 x1 I1
theorem sn_or (ha : SndT c W tA fA) (hb : SndT c W tB' fB') : SndT c W (tOr tA tB') (fOr fA fB') := fun z σ H F e Q I h => by
  unfold fOr at h
  rw [Wp.bind] at h
  refine ha z σ H F e _ I (h.mono (fun r _ h H1 F1 x1 I1 => ?_) fun _ _ h => h)
  obtain ⟨b, e1⟩ := r
  cases b with
  | false =>
    rw [if_neg Bool.false_ne_true] at h
    show tB' σ H1 Q
    exact hb z σ H1 F1 e1 Q I1 (h.mono (fun q _ h H2 F2 x2 I2 => h H2 F2 (x1.trans x2) I2) fun _ _ h => h.mono x1)
  | true =>
    rw [if_pos rfl] at h
    exact h H1 F1 x1 I1
/-- and, or: a test whatever its whole is -/
structure DW (X : Cx) (c : Ct) (W : WX) (ex : Expr) (tt : TT) (f : FT) : Prop where
  pw : PW X ex tt
  sn : SndT c W tt f
theorem DW.dt {ex : Expr} (h : DW X c W ex tA fA) : DT X c W ex tA fA := ⟨h.pw.pt, h.sn⟩
theorem dt_not (ha : DT X c W a tA fA) : DT X c W (.UnaryOp .Not a pos) (tNot tA) (fNot fA) := ⟨pt_not ha.pt, sn_not ha.sn⟩
theorem dw_and1 (ha : DT X c W a tA fA) : DW X c W (.BoolOp .And [a] pos) tA fA := ⟨pw_and1 ha.pt, ha.sn⟩
theorem dw_or1 (ha : DT X c W a tA fA) : DW X c W (.BoolOp .Or [a] pos) tA fA := ⟨pw_or1 ha.pt, ha.sn⟩
theorem dw_and (ha : DT X c W a tA fA) (hb : DW X c W (.BoolOp .And (b :: rest) pos) tB' fB') : DW X c W (.BoolOp .And (a :: b :: rest) pos) (tAnd tA tB') (fAnd fA fB') := ⟨pw_and ha.pt hb.pw, sn_and ha.sn hb.sn⟩
theorem dw_or (ha : DT X c W a tA fA) (hb : DW X c W (.BoolOp .Or (b :: rest) pos) tB' fB') : DW X c W (.BoolOp .Or (a :: b :: rest) pos) (tOr tA tB') (fOr fA fB') := ⟨pw_or ha.pt hb.pw, sn_or ha.sn hb.sn⟩
/-! as values -/
def fNotV (f : FE) : FE := fun e => (fB f e).bind fun r => .ok (.vl (.bl (!r.1)), r.2)
def fAndV (f g : FE) : FE := fun e => (fB f e).bind fun r => if r.1 = true then g r.2 else .ok (.vl (.bl false), r.2)
def fOrV (f g : FE) : FE := fun e => (fB f e).bind fun r => if r.1 = true then .ok (.vl (.bl true), r.2) else g r.2
theorem sn_notV (ha : SndE c W ta fa) : SndE c W (tNotV ta) (fNotV fa) := fun z σ H F e Q I h => by
  unfold fNotV at h
  rw [Wp.bind] at h
  exact sn_B (t := fun σ H Q => ta σ H fun x H1 => ∃ k, x = .bl k ∧ Q k H1) (fun _ _ _ h => h) ha z σ H F e (fun k H1 => Q (.bl (!k)) H1) I (h.mono (fun r _ h H1 F1 x1 I1 => h _ H1 F1 x1 I1 rfl) fun _ _ h => h)
theorem sn_andV (ha : SndE c W ta fa) (hb : SndE c W tb fb) : SndE c W (tAndV ta tb) (fAndV fa fb) := fun z σ H F e Q I h => by
  unfold fAndV at h
  rw [Wp.bind] at h
  refine sn_B (t := fun σ H Q => ta σ H fun x H1 => ∃ k, x = .bl k ∧ Q k H1) (fun _ _ _ h => h) ha z σ H F e (fun k H1 => if k = true then tb σ H1 Q else Q (.bl false) H1) I (h.mono (fun r _ h H1 F1 x1 I1 => ?_) fun _ _ h => h)
  obtain ⟨b, e1⟩ := r
  cases b with
  | true =>
    rw [if_pos rfl] at h ⊢
    exact hb z σ H1 F1 e1 Q I1 (h.mono (fun q _ h v H2 F2 x2 I2 t2 => h v H2 F2 (x1.trans x2) I2 t2) fun _ _ h => h.mono x1)
  | false =>
    rw [if_neg Bool.false_ne_true] at h ⊢
    exact h _ H1 F1 x1 I1 rfl
theorem sn_orV (ha : SndE c W ta fa) (hb : SndE c W tb fb) : SndE c W (tOrV ta tb) (fOrV fa fb) := fun z σ H F e Q I h => by
  unfold fOrV at h
  rw [Wp.bind] at h
  refine sn_B (t := fun σ H Q => ta σ H fun x H1 => ∃ k, x = .bl k ∧ Q k H1) (fun _ _ _ h => h) ha z σ H F e (fun k H1 => if k = true then Q (.bl true) H1 else tb σ H1 Q) I (h.mono (fun r _ h H1 F1 x1 I1 => ?_) fun _ _ h => h)
  obtain ⟨b, e1⟩ := r
  cases b with
  | false =>
    rw [if_neg Bool.false_ne_true] at h ⊢
    exact hb z σ H1 F1 e1 Q I1 (h.mono (fun q _ h v H2 F2 x2 I2 t2 => h v H2 F2 (x1.trans x2) I2 t2) fun _ _ h => h.mono x1)
  | true =>
    rw [if_pos rfl] at h ⊢
    exact h _ H1 F1 x1 I1 rfl
theorem de_notV (ha : DE X c W a ta fa) : DE X c W (.UnaryOp .Not a pos) (tNotV ta) (fNotV fa) := ⟨pe_not ha.pe, sn_notV ha.sn⟩
theorem de_and1 {o} (ha : DE X c W a ta fa) : DE X c W (.BoolOp o [a] pos) ta fa := ⟨pe_one ha.pe, ha.sn⟩
theorem de_and (ha : DE X c W a ta fa) (hb : DE X c W (.BoolOp .And (b :: rest) pos) tb fb) : DE X c W (.BoolOp .And (a :: b :: rest) pos) (tAndV ta tb) (fAndV fa fb) := ⟨pe_and ha.pe hb.pe, sn_andV ha.sn hb.sn⟩
theorem de_or (ha : DE X c W a ta fa) (hb : DE X c W (.BoolOp .Or (b :: rest) pos) tb fb) : DE X c W (.BoolOp .Or (a :: b :: rest) pos) (tOrV ta tb) (fOrV fa fb) := ⟨pe_or ha.pe hb.pe, sn_orV ha.sn hb.sn⟩
def fIf (t : FT) (f g : FE) : FE := fun e => (t e).bind fun r => if r.1 = true then f r.2 else g r.2
theorem sn_if (hc : SndT c W tA fA) (ha : SndE c W ta fa) (hb : SndE c W tb fb) : SndE c W (tIf tA ta tb) (fIf fA fa fb) := fun z σ H F e Q I h => by
  unfold fIf at h
  rw [Wp.bind] at h
  refine hc z σ H F e _ I (h.mono (fun r _ h H1 F1 x1 I1 => ?_) fun _ _ h => h)
  obtain ⟨b, e1⟩ := r
  cases b with
  | true =>
    rw [if_pos rfl] at h ⊢
    exact ha z σ H1 F1 e1 Q I1 (h.mono (fun q _ h v H2 F2 x2 I2 t2 => h v H2 F2 (x1.trans x2) I2 t2) fun _ _ h => h.mono x1)
  | false =>
    rw [if_neg Bool.false_ne_true] at h ⊢
    exact hb z σ H1 F1 e1 Q I1 (h.mono (fun q _ h v H2 F2 x2 I2 t2 => h v H2 F2 (x1.trans x2) I2 t2) fun _ _ h => h.mono x1)
theorem de_if {t : Expr} (hc : DT X c W t tA fA) (ha : DE X c W a ta fa) (hb : DE X c W b tb fb) : DE X c W (.IfExp t a b pos) (tIf tA ta tb) (fIf fA fa fb) := ⟨pe_ifExp hc.pt ha.pe hb.pe, sn_if hc.sn ha.sn hb.sn⟩
end
end DL

/-! DL, part d: the operators on data. -/
namespace DL
open PySem L2 Evl

def lim : Nat := 1000000
theorem lim_ok {n : Nat} (h : n ≤ lim) : n ≤ sizeLine := Nat.le_trans h (by decide)
theorem lim_lt {n : Nat} (h : n < lim) : n < sizeLine := Nat.lt_of_lt_of_le h (by decide)

/-! ### two ints -/
def opI (C : Int → Int → Bool) (g : Int → Int → D) (a b : D) : Option RV := match a, b with
  | .int i, .int j => if C i j then some (.fl (g i j)) else none
  | _, _ => none
section
variable {c : Ct}
theorem ok_rI {C : Int → Int → Prop} {B : Int → Int → Bool} {g : Int → Int → V} {G : Int → Int → D} (h : ∀ i j, B i j = true → C i j) (hg : ∀ i j F, Rp c F (G i j) (g i j)) : R2Ok c (rI C g) (opI B G) := by
  intro F H d1 d2 v1 v2 rv Q x k1 k2 l q
  cases d1 <;> cases d2 <;> try cases l
  rename_i i j
  unfold opI at l
  dsimp only at l
  split at l
  · rename_i hb
    cases l
    exact ⟨i, j, k1.int, k2.int, h i j hb, q _ (hg i j F)⟩
  · cases l
theorem ok_rI0 {g : Int → Int → V} {G : Int → Int → D} (hg : ∀ i j F, Rp c F (G i j) (g i j)) : R2Ok c (rI0 g) (opI (fun _ _ => true) G) := by
  intro F H d1 d2 v1 v2 rv Q x k1 k2 l q
  cases d1 <;> cases d2 <;> try cases l
  rename_i i j
  exact ⟨i, j, k1.int, k2.int, q _ (hg i j F)⟩
def opSub := opI (fun _ _ => true) fun i j => .int (i - j)
def mulOk (i j : Int) : Bool := decide (i.natAbs.log2 + j.natAbs.log2 < 1000000)
def divOk (_ j : Int) : Bool := decide (j ≠ 0) && decide (j.natAbs.log2 < 9000)
def modOk (_ j : Int) : Bool := decide (j ≠ 0)
def powOk (i j : Int) : Bool := decide (0 ≤ j) && decide (j ≤ 1000000) && decide (i.natAbs < 2 ^ 64)
def shlOk (i j : Int) : Bool := decide (0 ≤ j) && decide ((Builtin.Int.intBits i : Int) + j ≤ 2 ^ 27)
def shrOk (_ j : Int) : Bool := decide (0 ≤ j)
def opDiv := opI divOk fun i j => .int (i.fdiv j)
def opMod := opI modOk fun i j => .int (i.fmod j)
def opPow := opI powOk fun i j => .int (i ^ j.toNat)
def opShl := opI shlOk fun i j => .int (i * 2 ^ j.toNat)
def opShr := opI shrOk fun i j => .int (i / 2 ^ j.toNat)
def opAnd := opI (fun _ _ => true) fun i j => .int (Builtin.bitAnd i j)
def opOr := opI (fun _ _ => true) fun i j => .int (Builtin.bitOr i j)
def opXor := opI (fun _ _ => true) fun i j => .int (Builtin.bitXor i j)
def opLt := opI (fun _ _ => true) fun i j => .bl (decide (i < j))
def opLe := opI (fun _ _ => true) fun i j => .bl (decide (i ≤ j))
def opGt := opI (fun _ _ => true) fun i j => .bl (decide (j < i))
def opGe := opI (fun _ _ => true) fun i j => .bl (decide (j ≤ i))
def CDivD (i j : Int) : Prop := j ≠ 0 ∧ j.natAbs.log2 < 9000
section
variable {X : Cx}
theorem op_fdivD : OpR X (binaryOp .FloorDiv) (rI CDivD fun i j => .int (i.fdiv j)) := L2.opI fun _ _ _ _ _ _ _ hc q => PyProof.Rows.floordiv_int hc.1 q (.inl (PyProof.noPylong_of_log2 hc.2))
end
theorem ok_sub : R2Ok c (rI0 fun i j => .int (i - j)) opSub := ok_rI0 fun _ _ _ => rfl
theorem ok_div : R2Ok c (rI CDivD fun i j => .int (i.fdiv j)) opDiv := ok_rI (fun i j h => by simp [divOk] at h; exact h) fun _ _ _ => rfl
theorem ok_mod : R2Ok c (rI (fun _ j => j ≠ 0) fun i j => .int (i.fmod j)) opMod := ok_rI (fun i j h => by simp [modOk] at h; exact h) fun _ _ _ => rfl
theorem ok_pow : R2Ok c (rI CPow fun i j => .int (i ^ j.toNat)) opPow := ok_rI (fun i j h => by simp [powOk] at h; exact ⟨h.1.1, h.1.2, h.2⟩) fun _ _ _ => rfl
theorem ok_shl : R2Ok c (rI CShl fun i j => .int (i * 2 ^ j.toNat)) opShl := ok_rI (fun i j h => by
  unfold shlOk at h
  obtain ⟨h1, h2⟩ := Bool.and_eq_true_iff.mp h
  exact ⟨of_decide_eq_true h1, of_decide_eq_true h2⟩) fun _ _ _ => rfl
theorem ok_shr : R2Ok c (rI (fun _ j => 0 ≤ j) fun i j => .int (i / 2 ^ j.toNat)) opShr := ok_rI (fun i j h => by simp [shrOk] at h; exact h) fun _ _ _ => rfl
theorem ok_and : R2Ok c (rI0 fun i j => .int (Builtin.bitAnd i j)) opAnd := ok_rI0 fun _ _ _ => rfl
theorem ok_or : R2Ok c (rI0 fun i j => .int (Builtin.bitOr i j)) opOr := ok_rI0 fun _ _ _ => rfl
theorem ok_xor : R2Ok c (rI0 fun i j => .int (Builtin.bitXor i j)) opXor := ok_rI0 fun _ _ _ => rfl
theorem ok_lt : R2Ok c (rI0 fun i j => .bl (decide (i < j))) opLt := ok_rI0 fun _ _ _ => rfl
theorem ok_le : R2Ok c (rI0 fun i j => .bl (decide (i ≤ j))) opLe := ok_rI0 fun _ _ _ => rfl
theorem ok_gt : R2Ok c (rI0 fun i j => .bl (decide (j < i))) opGt := ok_rI0 fun _ _ _ => rfl
theorem ok_ge : R2Ok c (rI0 fun i j => .bl (decide (j ≤ i))) opGe := ok_rI0 fun _ _ _ => rfl
/-- one int -/
def opU (g : Int → D) (a : D) : Option RV := match a with
  | .int i => some (.fl (g i))
  | _ => none
theorem ok_rU {g : Int → V} {G : Int → D} (hg : ∀ i F, Rp c F (G i) (g i)) : R1Ok c (rU g) (opU G) := by
  intro F H d1 v1 rv Q x k1 l q
  cases d1 <;> try cases l
  rename_i i
  exact ⟨i, k1.int, q _ (hg i F)⟩
def opNeg := opU fun i => .int (-i)
def opInv := opU fun i => .int (Builtin.bitNot i)
theorem ok_neg : R1Ok c (rU fun i => .int (-i)) opNeg := ok_rU fun _ _ => rfl
theorem ok_inv : R1Ok c (rU fun i => .int (Builtin.bitNot i)) opInv := ok_rU fun _ _ => rfl

/-! ### + and * of any kind -/
def ROr (r r' : R2) : R2 := fun x y H Q => r x y H Q ∨ r' x y H Q
def rAddS' : R2 := fun x y H Q => ∃ i j, x = .str i ∧ y = .str j ∧ i.length + j.length ≤ sizeLine ∧ Q (.str (i ++ j)) H
def opAdd (a b : D) : Option RV := match a, b with
  | .int i, .int j => some (.fl (.int (i + j)))
  | .str i, .str j => if i.length + j.length ≤ lim then some (.fl (.str (i ++ j))) else none
  | .lst i, .lst j => if i.length + j.length ≤ lim then some (.nl (i ++ j)) else none
  | _, _ => none
theorem op_addA {X : Cx} : OpR X (binaryOp .Add) (ROr (rI0 fun i j => .int (i + j)) (ROr rAddS' rCat)) := op_add.or (op_add_str.or op_cat)
theorem ok_add : R2Ok c (ROr (rI0 fun i j => .int (i + j)) (ROr rAddS' rCat)) opAdd := by
  intro F H d1 d2 v1 v2 rv Q x k1 k2 l q
  cases d1 <;> cases d2 <;> try cases l
  · rename_i i j
    exact .inl ⟨i, j, k1.int, k2.int, q _ rfl⟩
  · rename_i i j
    unfold opAdd at l
    dsimp only at l
    split at l
    · rename_i h
      cases l
      exact .inr (.inl ⟨i, j, k1.str, k2.str, lim_ok h, q _ rfl⟩)
    · cases l
  · rename_i i j
    unfold opAdd at l
    dsimp only at l
    split at l
    · rename_i h
      cases l
      obtain ⟨p1, w1, e1, h1, r1⟩ := k1.lst x
      obtain ⟨p2, w2, e2, h2, r2⟩ := k2.lst x
      refine .inr (.inr ⟨p1, p2, w1, w2, e1, e2, h1, h2, ?_, fun p hp => q p _ (r1.app r2) hp⟩)
      rw [← r1.len, ← r2.len]
      exact lim_ok h
    · cases l
def opMul (a b : D) : Option RV := match a, b with
  | .int i, .int j => if mulOk i j then some (.fl (.int (i * j))) else none
  | .lst i, .int k => if decide (0 ≤ k) && decide (k ≤ 1000000) && decide (i.length * k.toNat ≤ lim) then some (.nl (List.replicate k.toNat i).flatten) else none
  | _, _ => none
theorem RpL.rep {F : Hp} {ds : List D} {vs : List V} (h : RpL c F ds vs) : ∀ n : Nat, RpL c F (List.replicate n ds).flatten (List.replicate n vs).flatten
  | 0 => rfl
  | n + 1 => by
    rw [List.replicate_succ, List.replicate_succ, List.flatten_cons, List.flatten_cons]
    exact h.app (RpL.rep h n)
theorem op_mulA {X : Cx} : OpR X (binaryOp .Mult) (ROr (rI CMulW fun i j => .int (i * j)) rRep) := op_mulW.or op_rep
theorem ok_mul : R2Ok c (ROr (rI CMulW fun i j => .int (i * j)) rRep) opMul := by
  intro F H d1 d2 v1 v2 rv Q x k1 k2 l q
  cases d1 <;> cases d2 <;> try cases l
  · rename_i i j
    unfold opMul at l
    dsimp only at l
    split at l
    · rename_i h
      cases l
      exact .inl ⟨i, j, k1.int, k2.int, show i.natAbs.log2 + j.natAbs.log2 < 1000000 from of_decide_eq_true h, q _ rfl⟩
    · cases l
  · rename_i i j
    unfold opMul at l
    dsimp only at l
    split at l
    · rename_i h
      cases l
      obtain ⟨h, h3⟩ := Bool.and_eq_true_iff.mp h
      obtain ⟨h1, h2⟩ := Bool.and_eq_true_iff.mp h
      have h1 := of_decide_eq_true h1
      have h2 := of_decide_eq_true h2
      have h3 := of_decide_eq_true h3
      obtain ⟨p1, w1, e1, h4, r1⟩ := k1.lst x
      refine .inr ⟨p1, j, w1, e1, k2.int, h4, by omega, by omega, ?_, fun p hp => q p _ (r1.rep _) hp⟩
      rw [← r1.len]
      exact lim_ok h3
    · cases l

/-! ### equality of data -/
mutual
def toPy : D → PyData
  | .non => .none
  | .bl b => .bool b
  | .int i => .int i
  | .str s => .str s
  | .lst ds => .list (toPyL ds)
  | .rol ds => .list (toPyL ds)
  | .tup ds => .tuple (toPyL ds)
  | .ins _ _ => .dict []
  | .dct _ _ _ => .dict []
def toPyL : List D → List PyData
  | [] => []
  | d :: ds => toPy d :: toPyL ds
end
def dOk (d : D) : Bool := SeqAt.shaped (toPy d)
def deq (a b : D) : Bool := PyData.eqv (toPy a) (toPy b)
mutual
theorem Rp.dp {F H : Hp} (x : Ex F H) : ∀ (d : D) (v : V), (toPy d).canLay0 = true → Rp c F d v → Dp c.K H v (toPy d)
  | .non, _, _, h => by cases h; exact .non
  | .bl _, _, _, h => by cases h; exact .bl _
  | .int _, _, _, h => by cases h; exact .int _
  | .str _, _, _, h => by cases h; exact .str _
  | .lst ds, _, k, ⟨p, vs, h1, h2, h3⟩ => by subst h1; exact .lst (sq_of (x _ _ h2)) (RpL.dp x ds vs k h3)
  | .rol ds, _, k, ⟨p, vs, h1, h2, h3⟩ => by subst h1; exact .lst (ex_l x h2) (RpL.dp x ds vs k h3)
  | .tup ds, _, k, ⟨p, vs, h1, h2, h3⟩ => by subst h1; exact .tup (ex_t x h2) (RpL.dp x ds vs k h3)
  | .ins _ ds, _, k, _ => by cases k
  | .dct _ _ _, _, k, _ => by cases k
theorem RpL.dp {F H : Hp} (x : Ex F H) : ∀ (ds : List D) (vs : List V), PyData.canLayAll0 (toPyL ds) = true → RpL c F ds vs → DpAll c.K H vs (toPyL ds)
  | [], _, _, h => by cases h; exact .nil
  | d :: ds, _, k, ⟨v, r, h1, h2, h3⟩ => by
    subst h1
    obtain ⟨k1, k2⟩ := Bool.and_eq_true_iff.mp k
    exact .cons (Rp.dp x d v k1 h2) (RpL.dp x ds r k2 h3)
end
theorem View.dp {F H : Hp} {d : D} {v : V} (x : Ex F H) (k : (toPy d).canLay0 = true) (h : View c F H d v) : Dp c.K H v (toPy d) := by
  rcases h with h | ⟨p, rfl, h⟩
  · exact h.dp x d v k
  · cases d with
    | lst ds => obtain ⟨_, vs, h1, h2⟩ := h; exact .lst (sq_of h1) (h2.dp x ds vs k)
    | ins j ds => cases k
    | dct t ks ds => cases k
    | _ => exact h.2.elim
theorem dOk.lay {d : D} (h : dOk d = true) : (toPy d).canLay0 = true := SeqAt.canLay_of_shaped h
def opEq (a b : D) : Option RV := if dOk a && dOk b then some (.fl (.bl (deq a b))) else none
def opNe (a b : D) : Option RV := if dOk a && dOk b then some (.fl (.bl (!deq a b))) else none
theorem ok_eq : R2Ok c (rEqD c.K) opEq := by
  intro F H d1 d2 v1 v2 rv Q x k1 k2 l q
  unfold opEq at l
  split at l
  · rename_i h
    obtain ⟨h1, h2⟩ := Bool.and_eq_true_iff.mp h
    cases l
    exact ⟨_, _, k1.dp x (dOk.lay h1), k2.dp x (dOk.lay h2), h1, h2, q _ rfl⟩
  · cases l
theorem ok_ne : R2Ok c (rNeD c.K) opNe := by
  intro F H d1 d2 v1 v2 rv Q x k1 k2 l q
  unfold opNe at l
  split at l
  · rename_i h
    obtain ⟨h1, h2⟩ := Bool.and_eq_true_iff.mp h
    cases l
    exact ⟨_, _, k1.dp x (dOk.lay h1), k2.dp x (dOk.lay h2), h1, h2, q _ rfl⟩
  · cases l
/-- x in a list -/
def opIn (a b : D) : Option RV := match b with
  | .lst ds => if dOk a && dOk b then some (.fl (.bl (ds.any fun y => deq y a))) else none
  | _ => none
def opNi (a b : D) : Option RV := match b with
  | .lst ds => if dOk a && dOk b then some (.fl (.bl (!ds.any fun y => deq y a))) else none
  | _ => none
theorem any_py (d : D) : ∀ ds : List D, ((toPyL ds).any fun y => PyData.eqv y (toPy d)) = ds.any fun y => deq y d
  | [] => rfl
  | e :: ds => by
    show (PyData.eqv (toPy e) (toPy d) || (toPyL ds).any fun y => PyData.eqv y (toPy d)) = (deq e d || ds.any fun y => deq y d)
    rw [any_py d ds]
    rfl
theorem ok_in : R2Ok c (rInD c.K) opIn := by
  intro F H d1 d2 v1 v2 rv Q x k1 k2 l q
  cases d2 <;> try cases l
  rename_i ds
  unfold opIn at l
  dsimp only at l
  split at l
  · rename_i h
    obtain ⟨h1, h2⟩ := Bool.and_eq_true_iff.mp h
    cases l
    refine ⟨_, _, k1.dp x (dOk.lay h1), k2.dp x (dOk.lay h2), h1, h2, ?_⟩
    rw [any_py]
    exact q _ rfl
  · cases l
theorem ok_ni : R2Ok c (rNotInD c.K) opNi := by
  intro F H d1 d2 v1 v2 rv Q x k1 k2 l q
  cases d2 <;> try cases l
  rename_i ds
  unfold opNi at l
  dsimp only at l
  split at l
  · rename_i h
    obtain ⟨h1, h2⟩ := Bool.and_eq_true_iff.mp h
    cases l
    refine ⟨_, _, k1.dp x (dOk.lay h1), k2.dp x (dOk.lay h2), h1, h2, ?_⟩
    rw [any_py]
    exact q _ rfl
  · cases l

/-! ### items, slices, lengths -/
def opIx (a b : D) : Option RV := match a, b with
  | .lst ds, .int i => (atI ds i).map .fl
  | .rol ds, .int i => (atI ds i).map .fl
  | .tup ds, .int i => (atI ds i).map .fl
  | .str z, .int i => if z.length ≤ lim then (atI z.cps.toList i).map fun c => .fl (.str ⟨#[c]⟩) else none
  | _, _ => none
theorem atI_rp {F : Hp} {ds : List D} {vs : List V} {i : Int} {d : D} (r : RpL c F ds vs) (h : atI ds i = some d) : ∃ v, atI vs i = some v ∧ Rp c F d v := by
  unfold atI at h ⊢
  rw [← r.len]
  obtain ⟨j, h1, h2⟩ := obind h
  obtain ⟨v, h3, h4⟩ := r.get h2
  exact ⟨v, by rw [h1]; exact h3, h4⟩
theorem omap {α β : Type} {o : Option α} {f : α → β} {b : β} (h : o.map f = some b) : ∃ a, o = some a ∧ f a = b := by
  cases o with
  | none => cases h
  | some a => exact ⟨a, rfl, Option.some.inj h⟩
theorem ok_ix : R2Ok c (rIx c.K) opIx := by
  intro F H d1 d2 v1 v2 rv Q x k1 k2 l q
  cases d1 <;> cases d2 <;> try cases l
  · rename_i z i
    unfold opIx at l
    dsimp only at l
    split at l
    · rename_i h
      obtain ⟨ch, h1, h2⟩ := omap l
      subst h2
      exact .inr (.inr ⟨z, i, ch, k1.str, k2.int, lim_ok h, h1, q _ rfl⟩)
    · cases l
  · rename_i ds i
    obtain ⟨d, h1, h2⟩ := omap l
    subst h2
    obtain ⟨p, vs, e1, h3, r⟩ := k1.lst x
    obtain ⟨v, h4, r'⟩ := atI_rp r h1
    exact .inl ⟨p, vs, i, v, e1, k2.int, sq_of h3, h4, q _ r'⟩
  · rename_i ds i
    obtain ⟨d, h1, h2⟩ := omap l
    subst h2
    obtain ⟨p, vs, e1, h3, r⟩ := k1.tup x
    obtain ⟨v, h4, r'⟩ := atI_rp r h1
    exact .inr (.inl ⟨p, vs, i, v, e1, k2.int, h3, h4, q _ r'⟩)
  · rename_i ds i
    obtain ⟨d, h1, h2⟩ := omap l
    subst h2
    obtain ⟨p, vs, e1, h3, r⟩ := k1.rol x
    obtain ⟨v, h4, r'⟩ := atI_rp r h1
    exact .inl ⟨p, vs, i, v, e1, k2.int, h3, h4, q _ r'⟩
def opLen (ds : List D) : Option RV := match ds with
  | [.lst xs] => some (.fl (.int xs.length))
  | [.rol xs] => some (.fl (.int xs.length))
  | [.tup xs] => some (.fl (.int xs.length))
  | [.str z] => if z.length ≤ lim then some (.fl (.int z.length)) else none
  | _ => none
abbrev rLen' (K : PySem.W.Frag) : List V → Hp → VK → Prop := fun xs H Q => (∃ p ys, xs = [.ref p] ∧ (SqL K H p ys ∨ SqT K H p ys) ∧ Q (.int ys.length) H) ∨ ∃ z, xs = [.str z] ∧ z.length ≤ sizeLine ∧ Q (.int z.length) H
theorem call_lenA {X : Cx} : CallR X (.builtin "len") (rLen' X.K) := call_len_seq.or call_len_str
theorem Views.one {F H : Hp} {d : D} {vs : List V} (h : Views c F H [d] vs) : ∃ v, vs = [v] ∧ View c F H d v := by
  obtain ⟨v, r, rfl, h1, h2⟩ := h
  cases h2
  exact ⟨v, rfl, h1⟩
theorem Views.two {F H : Hp} {d e : D} {vs : List V} (h : Views c F H [d, e] vs) : ∃ v w, vs = [v, w] ∧ View c F H d v ∧ View c F H e w := by
  obtain ⟨v, r, rfl, h1, h2⟩ := h
  obtain ⟨w, rfl, h3⟩ := h2.one
  exact ⟨v, w, rfl, h1, h3⟩
theorem ok_len : RlOk c (rLen' c.K) opLen := by
  intro F H ds vs rv Q x k l q
  unfold opLen at l
  split at l
  · rename_i xs
    cases l
    obtain ⟨v, rfl, y⟩ := k.one
    obtain ⟨p, ws, rfl, h, r⟩ := y.lst x
    exact .inl ⟨p, ws, rfl, .inl (sq_of h), by rw [← r.len]; exact q _ rfl⟩
  · rename_i xs
    cases l
    obtain ⟨v, rfl, y⟩ := k.one
    obtain ⟨p, ws, rfl, h, r⟩ := y.rol x
    exact .inl ⟨p, ws, rfl, .inl h, by rw [← r.len]; exact q _ rfl⟩
  · rename_i xs
    cases l
    obtain ⟨v, rfl, y⟩ := k.one
    obtain ⟨p, ws, rfl, h, r⟩ := y.tup x
    exact .inl ⟨p, ws, rfl, .inr h, by rw [← r.len]; exact q _ rfl⟩
  · rename_i z
    split at l
    · rename_i h
      cases l
      obtain ⟨v, rfl, y⟩ := k.one
      exact .inr ⟨z, by rw [y.str], lim_ok h, q _ rfl⟩
    · cases l
  · cases l
/-- list(x), tuple(x) -/
def opList (ds : List D) : Option RV := match ds with
  | [.lst xs] => some (.nl xs)
  | [.rol xs] => some (.nl xs)
  | [.tup xs] => some (.nl xs)
  | _ => none
abbrev rList' (K : PySem.W.Frag) : List V → Hp → VK → Prop := fun xs H Q => ∃ p ys, xs = [.ref p] ∧ (SqL K H p ys ∨ SqT K H p ys) ∧ ∀ l, H l = none → Q (.ref l) (upd H l (.lst ys))
theorem ok_list : RlOk c (rList' c.K) opList := by
  intro F H ds vs rv Q x k l q
  unfold opList at l
  split at l <;> try cases l
  · obtain ⟨v, rfl, y⟩ := k.one
    obtain ⟨p, ws, rfl, h, r⟩ := y.lst x
    exact ⟨p, ws, rfl, .inl (sq_of h), fun l hl => q l ws r hl⟩
  · obtain ⟨v, rfl, y⟩ := k.one
    obtain ⟨p, ws, rfl, h, r⟩ := y.rol x
    exact ⟨p, ws, rfl, .inl h, fun l hl => q l ws r hl⟩
  · obtain ⟨v, rfl, y⟩ := k.one
    obtain ⟨p, ws, rfl, h, r⟩ := y.tup x
    exact ⟨p, ws, rfl, .inr h, fun l hl => q l ws r hl⟩
def opTuple (ds : List D) : Option RV := match ds with
  | [.lst xs] => some (.nt xs)
  | [.rol xs] => some (.nt xs)
  | [.tup xs] => some (.fl (.tup xs))
  | _ => none
abbrev rTuple' (K : PySem.W.Frag) : List V → Hp → VK → Prop := fun xs H Q => ∃ p ys, xs = [.ref p] ∧ ((SqL K H p ys ∧ ∀ l, H l = none → Q (.ref l) (upd H l (.tup ys))) ∨ (SqT K H p ys ∧ Q (.ref p) H))
theorem ok_tuple : RlOk c (rTuple' c.K) opTuple := by
  intro F H ds vs rv Q x k l q
  unfold opTuple at l
  split at l <;> try cases l
  · obtain ⟨v, rfl, y⟩ := k.one
    obtain ⟨p, ws, rfl, h, r⟩ := y.lst x
    exact ⟨p, ws, rfl, .inl ⟨sq_of h, fun l hl => q l ws r hl⟩⟩
  · obtain ⟨v, rfl, y⟩ := k.one
    obtain ⟨p, ws, rfl, h, r⟩ := y.rol x
    exact ⟨p, ws, rfl, .inl ⟨h, fun l hl => q l ws r hl⟩⟩
  · rename_i xs
    obtain ⟨v, rfl, y⟩ := k.one
    rcases y with y | ⟨p, _, y⟩
    · obtain ⟨p, ws, rfl, h, r⟩ := id y
      exact ⟨p, ws, rfl, .inr ⟨ex_t x h, q _ y⟩⟩
    · exact y.2.elim
/-- int(n), int(flag); abs; min, max of two -/
def opInt (ds : List D) : Option RV := match ds with
  | [.int i] => some (.fl (.int i))
  | [.bl b] => some (.fl (.int (if b then 1 else 0)))
  | _ => none
abbrev rInt' : List V → Hp → VK → Prop := fun xs H Q => (∃ i, xs = [.int i] ∧ Q (.int i) H) ∨ ∃ k, xs = [.bl k] ∧ Q (.int (if k then 1 else 0)) H
theorem ok_int : RlOk c rInt' opInt := by
  intro F H ds vs rv Q x k l q
  unfold opInt at l
  split at l <;> try cases l
  · obtain ⟨v, rfl, y⟩ := k.one
    exact .inl ⟨_, by rw [y.int], q _ rfl⟩
  · obtain ⟨v, rfl, y⟩ := k.one
    exact .inr ⟨_, by rw [y.bl], q _ rfl⟩
def opAbs (ds : List D) : Option RV := match ds with
  | [.int i] => some (.fl (.int (if i < 0 then -i else i)))
  | _ => none
abbrev rAbs' : List V → Hp → VK → Prop := fun xs H Q => ∃ i, xs = [.int i] ∧ Q (.int (if i < 0 then -i else i)) H
theorem ok_abs : RlOk c rAbs' opAbs := by
  intro F H ds vs rv Q x k l q
  unfold opAbs at l
  split at l <;> try cases l
  obtain ⟨v, rfl, y⟩ := k.one
  exact ⟨_, by rw [y.int], q _ rfl⟩
def opMax2 (ds : List D) : Option RV := match ds with
  | [.int i, .int j] => some (.fl (.int (if j > i then j else i)))
  | _ => none
abbrev rMax2' : List V → Hp → VK → Prop := fun xs H Q => ∃ i j, xs = [.int i, .int j] ∧ Q (.int (if j > i then j else i)) H
theorem ok_max2 : RlOk c rMax2' opMax2 := by
  intro F H ds vs rv Q x k l q
  unfold opMax2 at l
  split at l <;> try cases l
  obtain ⟨v, w, rfl, k1, k2⟩ := k.two
  exact ⟨_, _, by rw [k1.int, k2.int], q _ rfl⟩
def opMin2 (ds : List D) : Option RV := match ds with
  | [.int i, .int j] => some (.fl (.int (if j < i then j else i)))
  | _ => none
abbrev rMin2' : List V → Hp → VK → Prop := fun xs H Q => ∃ i j, xs = [.int i, .int j] ∧ Q (.int (if j < i then j else i)) H
theorem ok_min2 : RlOk c rMin2' opMin2 := by
  intro F H ds vs rv Q x k l q
  unfold opMin2 at l
  split at l <;> try cases l
  obtain ⟨v, w, rfl, k1, k2⟩ := k.two
  exact ⟨_, _, by rw [k1.int, k2.int], q _ rfl⟩
end

/-! ### displays -/
section
variable {X : Cx} {c : Ct} {z : Zs} {W : WX} {es : List Expr} {ta : TA} {fa : FA} {pos : Pos}
def escs : List T → DEnv → Option (List D × DEnv)
  | [], e => some ([], e)
  | t :: ts, e => (escape t e).bind fun r => (escs ts r.2).bind fun q => some (r.1 :: q.1, q.2)
theorem TRs.escs {σ : L2.St} {H : Hp} : ∀ {ts : List T} {vs : List V} {F : Hp} {e : DEnv} {ds : List D} {e' : DEnv}, I2 c z σ H F e → TRs c z F H σ e ts vs → DL.escs ts e = some (ds, e') → ∃ G, Ex F G ∧ I2 c z σ H G e' ∧ RpL c G ds vs
  | [], vs, F, e, ds, e', I, h, l => by cases h; cases l; exact ⟨F, Ex.refl F, I, rfl⟩
  | t :: ts, vs, F, e, ds, e', I, h, l => by
    obtain ⟨v, r, rfl, h2, h3, h4⟩ := h
    obtain ⟨⟨d, e1⟩, l1, l⟩ := obind l
    obtain ⟨⟨ds', e2⟩, l2, l⟩ := obind l
    cases l
    obtain ⟨G, x1, I1, r1⟩ := h3.escape I l1
    obtain ⟨G2, x2, I2', r2⟩ := TRs.escs I1 (h4.keep x1) l2
    exact ⟨G2, x1.trans x2, I2', v, r, rfl, r1.mono x2 d v, r2⟩
def fLst (fa : FA) : FE := fun e => (fa e).bind fun r => Res.of ((escs r.1 r.2).bind fun q => if q.1.length ≤ lim then some (.nw (.lst q.1), q.2) else none)
def fTup (fa : FA) : FE := fun e => (fa e).bind fun r => Res.of ((escs r.1 r.2).bind fun q => if q.1.length ≤ lim then some (.vl (.tup q.1), q.2) else none)
theorem sn_lst (ha : SndA c W ta fa) : SndE c W (tLst ta) (fLst fa) := fun z σ H F e Q I h => by
  unfold fLst at h
  rw [Wp.bind] at h
  refine ha z σ H F e _ I (h.mono (fun r _ h vs H1 F1 x1 I1 t1 => ?_) fun _ _ h => h)
  obtain ⟨a, ea, h⟩ := Wp.of h
  obtain ⟨⟨ds, e2⟩, l1, ea⟩ := obind ea
  dsimp only at ea
  split at ea
  · rename_i hl
    cases ea
    obtain ⟨G, x2, J, rr⟩ := t1.escs I1 l1
    refine ⟨by rw [← rr.len]; exact lim_ok hl, fun p hp => ?_⟩
    exact h _ _ G (x1.trans x2) (J.alloc (Ex.new hp)) ⟨p, rfl, ⟨fresh_back J.fh hp, vs, upd_same, rr⟩, J.fresh0 hp, J.noroot hp⟩
  · cases ea
theorem sn_tup (ha : SndA c W ta fa) : SndE c W (tTup ta) (fTup fa) := fun z σ H F e Q I h => by
  unfold fTup at h
  rw [Wp.bind] at h
  refine ha z σ H F e _ I (h.mono (fun r _ h vs H1 F1 x1 I1 t1 => ?_) fun _ _ h => h)
  obtain ⟨a, ea, h⟩ := Wp.of h
  obtain ⟨⟨ds, e2⟩, l1, ea⟩ := obind ea
  dsimp only at ea
  split at ea
  · rename_i hl
    cases ea
    obtain ⟨G, x2, J, rr⟩ := t1.escs I1 l1
    refine ⟨by rw [← rr.len]; exact lim_ok hl, fun p hp => ?_⟩
    have x3 := Ex.new (o := HO.tup vs) (fresh_back J.fh hp)
    exact h _ _ _ ((x1.trans x2).trans x3) (J.allocT hp) ⟨p, vs, rfl, st_of upd_same, rr.mono x3 ds vs⟩
  · cases ea
theorem de_lst (ha : DA X c W es ta fa) : DE X c W (.List es pos) (tLst ta) (fLst fa) := ⟨pe_lst ha.pa, sn_lst ha.sn⟩
theorem de_tup {x1} (ha : DA X c W es ta fa) : DE X c W (.Tuple es x1 pos) (tTup ta) (fTup fa) := ⟨pe_tup ha.pa, sn_tup ha.sn⟩
end
end DL

/-! DL, part e: statements, loops, comprehensions. -/
namespace DL
open PySem L2 Evl

inductive Out where
  | nx (e : DEnv) | rt (t : T) (e : DEnv) | bk (e : DEnv) | ct (e : DEnv)
abbrev FS := DEnv → Res Out
def PoS (c : Ct) (z : Zs) (F : Hp) (D : Ends) : Out → Prop
  | .nx e' => ∀ σ' H' F', Ex F F' → I2 c z σ' H' F' e' → D.nx σ' H'
  | .rt t e' => ∀ v σ' H' F', Ex F F' → I2 c z σ' H' F' e' → TR c z F' H' σ' e' t v → D.rt v H'
  | .bk e' => ∀ σ' H' F', Ex F F' → I2 c z σ' H' F' e' → D.bk σ' H'
  | .ct e' => ∀ σ' H' F', Ex F F' → I2 c z σ' H' F' e' → D.ct σ' H'
def XpS (c : Ct) (z : Zs) (W : WX) (F : Hp) (x : XV) (e' : DEnv) : Prop := ∀ σ', Xp c z W σ' F x e'
def SndS (c : Ct) (W : WX) (ts : TS) (f : FS) : Prop := ∀ (z : Zs) σ H F e (D : Ends), I2 c z σ H F e → Wp (f e) (PoS c z F D) (XpS c z W F) → ts D σ H
structure DS (X : Cx) (c : Ct) (W : WX) (st : Stmt) (ts : TS) (f : FS) : Prop where
  ps : PS X st ts
  sn : SndS c W ts f
structure DSs (X : Cx) (c : Ct) (W : WX) (st : List Stmt) (ts : TS) (f : FS) : Prop where
  ps : PSs X st ts
  sn : SndS c W ts f
structure DG (X : Cx) (c : Ct) (tg : Expr) (g : TG) (fg : D → DEnv → Option DEnv) : Prop where
  pg : PG X tg g
  sn : ∀ (z : Zs) σ H F e d v e' (Q : L2.St → Hp → Prop), I2 c z σ H F e → Rp c F d v → fg d e = some e' → (∀ σ', I2 c z σ' H F e' → Q σ' H) → g v σ H Q

section
variable {X : Cx} {c : Ct} {z : Zs} {W : WX} {σ : L2.St} {H H' F G : Hp} {e : DEnv} {a b : Expr} {ta tb : TE} {fa fb : FE} {st : Stmt} {sts rest : List Stmt} {ts us : TS} {f g : FS} {tt : TT} {ft : FT} {pos : Pos}
theorem PoS.mono {D : Ends} {o : Out} (h : PoS c z F D o) (k : Ex F G) : PoS c z G D o := by
  cases o with
  | nx e' => exact fun σ' H' F' x I => h σ' H' F' (k.trans x) I
  | rt t e' => exact fun v σ' H' F' x I r => h v σ' H' F' (k.trans x) I r
  | bk e' => exact fun σ' H' F' x I => h σ' H' F' (k.trans x) I
  | ct e' => exact fun σ' H' F' x I => h σ' H' F' (k.trans x) I
theorem XpS.mono {x : XV} {e' : DEnv} (h : XpS c z W F x e') (k : Ex F G) : XpS c z W G x e' := fun σ' => (h σ').mono k

/-! ### stores -/
def storeT (i : Nat) (t : T) (e : DEnv) : Option DEnv := if i < e.length then (match t with
  | .vl d => some (e.set i (some (.sh d)))
  | .nw d => some (e.set i (some (.ow d)))
  | .sl j => match e[j]? with
    | some (some (.sh d)) => some (e.set i (some (.sh d)))
    | some (some (.ow d)) => some ((e.set j (some (.sh d))).set i (some (.sh d)))
    | _ => none) else none
theorem TR.store {i : Nat} {t : T} {v : V} {e' : DEnv} (I : I2 c z σ H F e) (h : TR c z F H σ e t v) (l : storeT i t e = some e') : ∃ G, Ex F G ∧ I2 c z (σ.set i (some v)) H G e' := by
  unfold storeT at l
  split at l
  · rename_i hi
    have hi' : i < σ.length := by rw [← I.len]; exact hi
    cases t with
    | vl d => cases l; exact ⟨F, Ex.refl F, I.store hi' h⟩
    | nw d => cases l; obtain ⟨p, rfl, w, h0, hn⟩ := h; exact ⟨F, Ex.refl F, I.storeN hi' w h0 hn⟩
    | sl j =>
      have h' : σ[j]? = some (some v) := h
      dsimp only at l
      split at l
      · rename_i d hb
        cases l
        obtain ⟨w, hw, r⟩ := I.slot j _ hb
        rw [h'] at hw; cases hw
        exact ⟨F, Ex.refl F, I.store hi' r⟩
      · rename_i d hb
        cases l
        obtain ⟨G, w, x, J, hw, r⟩ := I.freeze hb
        rw [h'] at hw; cases hw
        exact ⟨G, x, J.store hi' r⟩
      · cases l
  · cases l
def fSet (i : Nat) (f : FE) : FS := fun e => (f e).bind fun r => Res.of ((storeT i r.1 r.2).map .nx)
theorem sn_set {i : Nat} (ha : SndE c W ta fa) : SndS c W (tAsg ta (gName i)) (fSet i fa) := fun z σ H F e D I h => by
  unfold fSet at h
  rw [Wp.bind] at h
  refine ha z σ H F e _ I (h.mono (fun r _ h v H1 F1 x1 I1 t1 => ?_) fun _ _ h => h σ)
  obtain ⟨o, ea, h⟩ := Wp.of h
  obtain ⟨e', l1, rfl⟩ := omap ea
  obtain ⟨G, x2, J⟩ := t1.store I1 l1
  exact h _ _ _ (x1.trans x2) J
theorem ds_set {i : Nat} {x : Str} {pos' : Pos} (hN : X.N.Nodup) (hi : X.N[i]? = some x) (hx : Loc X.env.scope x) (ha : DE X c W a ta fa) (hs : swapsWith a (some (.Name x pos')) pos.line X.env = pure false := by rfl)
    (hf : X.fn x = true ∨ X.env.scope.names.lookup x = some .local := by first | exact .inl rfl | exact .inr rfl | assumption) : DS X c W (.Assign [.Name x pos'] a pos) (tAsg ta (gName i)) (fSet i fa) := ⟨ps_set hN hi hx ha.pe hs hf, sn_set ha.sn⟩

/-! ### plain statements -/
def fNext : FS := fun e => .ok (.nx e)
def fSeq (f g : FS) : FS := fun e => (f e).bind fun o => match o with
  | .nx e1 => g e1
  | .rt t e1 => .ok (.rt t e1)
  | .bk e1 => .ok (.bk e1)
  | .ct e1 => .ok (.ct e1)
theorem sn_next : SndS c W tNext fNext := fun z σ H F e D I h => h σ H F (Ex.refl F) I
theorem sn_seq (h1 : SndS c W ts f) (h2 : SndS c W us g) : SndS c W (tSeq ts us) (fSeq f g) := fun z σ H F e D I h => by
  unfold fSeq at h
  rw [Wp.bind] at h
  refine h1 z σ H F e { D with nx := us D } I (h.mono (fun o _ h => ?_) fun _ _ h => h)
  cases o with
  | nx e1 => exact fun σ' H' F' x I' => h2 z σ' H' F' e1 D I' (h.mono (fun _ _ h => h.mono x) fun _ _ h => h.mono x)
  | rt t e1 => exact h
  | bk e1 => exact h
  | ct e1 => exact h
theorem dss_nil : DSs X c W [] tNext fNext := ⟨pss_nil, sn_next⟩
theorem dss_cons (h1 : DS X c W st ts f) (h2 : DSs X c W rest us g) : DSs X c W (st :: rest) (tSeq ts us) (fSeq f g) := ⟨pss_cons h1.ps h2.ps, sn_seq h1.sn h2.sn⟩
theorem dss_one (h1 : DS X c W st ts f) : DSs X c W [st] ts f := ⟨pss_one h1.ps, h1.sn⟩
theorem ds_pass : DS X c W (.Pass pos) tNext fNext := ⟨ps_pass, sn_next⟩
def fBreak : FS := fun e => .ok (.bk e)
def fCont : FS := fun e => .ok (.ct e)
theorem ds_break : DS X c W (.Break pos) tBreak fBreak := ⟨ps_break, fun z σ H F e D I h => h σ H F (Ex.refl F) I⟩
theorem ds_cont : DS X c W (.Continue pos) tCont fCont := ⟨ps_continue, fun z σ H F e D I h => h σ H F (Ex.refl F) I⟩
def fDrop (f : FE) : FS := fun e => (f e).bind fun r => .ok (.nx r.2)
theorem sn_drop (ha : SndE c W ta fa) : SndS c W (tDrop ta) (fDrop fa) := fun z σ H F e D I h => by
  unfold fDrop at h
  rw [Wp.bind] at h
  exact ha z σ H F e _ I (h.mono (fun r _ h v H1 F1 x1 I1 t1 => h σ H1 F1 x1 I1) fun _ _ h => h σ)
theorem ds_expr (ha : DE X c W a ta fa) (hs : swapsWith a none pos.line X.env = pure false := by rfl) : DS X c W (.Expr a pos) (tDrop ta) (fDrop fa) := ⟨ps_expr ha.pe hs, sn_drop ha.sn⟩
def fRet (f : FE) : FS := fun e => (f e).bind fun r => .ok (.rt r.1 r.2)
theorem sn_ret (ha : SndE c W ta fa) : SndS c W (tRet ta) (fRet fa) := fun z σ H F e D I h => by
  unfold fRet at h
  rw [Wp.bind] at h
  exact ha z σ H F e _ I (h.mono (fun r _ h v H1 F1 x1 I1 t1 => h v σ H1 F1 x1 I1 t1) fun _ _ h => h σ)
theorem ds_ret (ha : DE X c W a ta fa) : DS X c W (.Return (some a) pos) (tRet ta) (fRet fa) := ⟨ps_ret ha.pe, sn_ret ha.sn⟩
def fRetN : FS := fun e => .ok (.rt (.vl .non) e)
theorem ds_retN : DS X c W (.Return none pos) tRetN fRetN := ⟨ps_retN, fun z σ H F e D I h => h _ σ H F (Ex.refl F) I rfl⟩
def fIfS (t : FT) (f g : FS) : FS := fun e => (t e).bind fun r => if r.1 = true then f r.2 else g r.2
theorem sn_ifS (hc : SndT c W tt ft) (h1 : SndS c W ts f) (h2 : SndS c W us g) : SndS c W (tIfS tt ts us) (fIfS ft f g) := fun z σ H F e D I h => by
  unfold fIfS at h
  rw [Wp.bind] at h
  refine hc z σ H F e _ I (h.mono (fun r _ h H1 F1 x1 I1 => ?_) fun _ _ h => h σ)
  obtain ⟨b, e1⟩ := r
  cases b with
  | true =>
    rw [if_pos rfl] at h ⊢
    exact h1 z σ H1 F1 e1 D I1 (h.mono (fun _ _ h => h.mono x1) fun _ _ h => h.mono x1)
  | false =>
    rw [if_neg Bool.false_ne_true] at h ⊢
    exact h2 z σ H1 F1 e1 D I1 (h.mono (fun _ _ h => h.mono x1) fun _ _ h => h.mono x1)
theorem ds_if {t : Expr} (hc : DT X c W t tt ft) (h1 : DSs X c W sts ts f) (h2 : DSs X c W rest us g) : DS X c W (.If t sts rest pos) (tIfS tt ts us) (fIfS ft f g) := ⟨ps_if hc.pt h1.ps h2.ps, sn_ifS hc.sn h1.sn h2.sn⟩

/-! ### targets -/
def fgName (i : Nat) (d : D) (e : DEnv) : Option DEnv := if i < e.length then some (e.set i (some (.sh d))) else none
theorem dg_name {i : Nat} {x : Str} (hN : X.N.Nodup) (hi : X.N[i]? = some x) (hx : Loc X.env.scope x) (hf : X.fn x = true ∨ X.env.scope.names.lookup x = some .local := by first | exact .inl rfl | exact .inr rfl | assumption) :
    DG X c (.Name x pos) (gName i) (fgName i) := by
  refine ⟨pg_name hN hi hx hf, fun z σ H F e d v e' Q I r l k => ?_⟩
  unfold fgName at l
  split at l
  · rename_i hl
    cases l
    exact k _ (I.store (by rw [← I.len]; exact hl) r)
  · cases l
/-- several targets for the items of a tuple -/
structure DGs (X : Cx) (c : Ct) (tgs : List Expr) (g : TGs) (fg : List D → DEnv → Option DEnv) : Prop where
  pg : PGs X tgs g
  sn : ∀ (z : Zs) σ H F e ds vs e' (Q : L2.St → Hp → Prop), I2 c z σ H F e → RpL c F ds vs → fg ds e = some e' → (∀ σ', I2 c z σ' H F e' → Q σ' H) → g vs σ H Q
def fgNil (ds : List D) (e : DEnv) : Option DEnv := match ds with
  | [] => some e
  | _ => none
def fgCons (f : D → DEnv → Option DEnv) (g : List D → DEnv → Option DEnv) (ds : List D) (e : DEnv) : Option DEnv := match ds with
  | [] => none
  | d :: ds => (f d e).bind fun e1 => g ds e1
theorem dgs_nil : DGs X c [] gNil fgNil := ⟨pgs_nil, fun z σ H F e ds vs e' Q I r l k => by
  cases ds with
  | nil => cases l; cases r; exact ⟨rfl, k σ I⟩
  | cons _ _ => cases l⟩
theorem dgs_cons {es : List Expr} {g1 : TG} {f1 : D → DEnv → Option DEnv} {gs : TGs} {fs : List D → DEnv → Option DEnv} (h1 : DG X c a g1 f1) (h2 : DGs X c es gs fs)
    (hs : (assignEach (a :: es) X.env).map (·.2) = assign a X.env :: (assignEach es X.env).map (·.2) := by rfl) : DGs X c (a :: es) (gCons g1 gs) (fgCons f1 fs) := ⟨pgs_cons h1.pg h2.pg hs, fun z σ H F e ds vs e' Q I r l k => by
  cases ds with
  | nil => cases l
  | cons d ds =>
    obtain ⟨v, w, rfl, r1, r2⟩ := r
    obtain ⟨e1, l1, l2⟩ := obind l
    exact ⟨v, w, rfl, h1.sn z σ H F e d v e1 _ I r1 l1 fun σ1 I1 => h2.sn z σ1 H F e1 ds w e' Q I1 r2 l2 k⟩⟩
def fgTup (n : Nat) (fg : List D → DEnv → Option DEnv) (d : D) (e : DEnv) : Option DEnv := match d with
  | .tup ds => if ds.length = n then fg ds e else none
  | _ => none
theorem dg_tup {es : List Expr} {k n : Nat} {gs : TGs} {fs : List D → DEnv → Option DEnv} (hK : X.K = c.K := by rfl) (hc : X.calm = true := by rfl) (h : DGs X c es gs fs) (hp : PG X (.Tuple es k pos) (gTup X.K n gs)) : DG X c (.Tuple es k pos) (gTup c.K n gs) (fgTup n fs) := by
  refine ⟨hK ▸ hp, fun z σ H F e d v e' Q I r l q => ?_⟩
  cases d <;> try cases l
  rename_i ds
  unfold fgTup at l
  dsimp only at l
  split at l
  · rename_i hl
    obtain ⟨p, vs, rfl, h1, h2⟩ := r
    exact ⟨p, vs, rfl, ex_t I.fh h1, by rw [← h2.len]; exact hl, h.sn z σ H F e ds vs e' Q I h2 l q⟩
  · cases l
/-- target = e -/
def fAsg (fg : D → DEnv → Option DEnv) (f : FE) : FS := fun e => (f e).bind fun r => Res.of ((escape r.1 r.2).bind fun q => (fg q.1 q.2).map .nx)
theorem sn_asg {gg : TG} {fg : D → DEnv → Option DEnv} (ha : SndE c W ta fa) (hg : ∀ (z : Zs) σ H F e d v e' (Q : L2.St → Hp → Prop), I2 c z σ H F e → Rp c F d v → fg d e = some e' → (∀ σ', I2 c z σ' H F e' → Q σ' H) → gg v σ H Q) :
    SndS c W (tAsg ta gg) (fAsg fg fa) := fun z σ H F e D I h => by
  unfold fAsg at h
  rw [Wp.bind] at h
  refine ha z σ H F e _ I (h.mono (fun r _ h v H1 F1 x1 I1 t1 => ?_) fun _ _ h => h σ)
  obtain ⟨o, ea, h⟩ := Wp.of h
  obtain ⟨⟨d, e1⟩, l1, ea⟩ := obind ea
  obtain ⟨e', l2, rfl⟩ := omap ea
  obtain ⟨G, x2, J, rr⟩ := t1.escape I1 l1
  exact hg z σ H1 G e1 d v e' D.nx J rr l2 fun σ' I' => h σ' H1 G (x1.trans x2) I'
theorem ds_asg {tg : Expr} {gg : TG} {fg : D → DEnv → Option DEnv} (ha : DE X c W a ta fa) (hg : DG X c tg gg fg) (hs : swapsWithSole [tg] a pos.line X.env = pure false := by rfl) (hw : swappedStores [tg] a X.env = pure none := by rfl) (h1 : (assignEach [tg] X.env).map (·.2) = [assign tg X.env] := by rfl) :
    DS X c W (.Assign [tg] a pos) (tAsg ta gg) (fAsg fg fa) := ⟨ps_asg ha.pe hg.pg hs hw h1, sn_asg ha.sn hg.sn⟩
/-- x, y = e1, e2 (two names) -/
def fPar (i j : Nat) (fr : FA) : FS := fun e => (fr e).bind fun r => Res.of (match r.1 with
  | [t, u] => (escape t r.2).bind fun q => (escape u q.2).bind fun q2 => if i < q2.2.length ∧ j < q2.2.length then some (.nx ((q2.2.set i (some (.sh q.1))).set j (some (.sh q2.1)))) else none
  | _ => none)
theorem sn_par {i j : Nat} {tr : TA} {fr : FA} (ha : SndA c W tr fr) : SndS c W (tPar i j tr) (fPar i j fr) := fun z σ H F e D I h => by
  unfold fPar at h
  rw [Wp.bind] at h
  refine ha z σ H F e _ I (h.mono (fun r _ h vs H1 F1 x1 I1 t1 => ?_) fun _ _ h => h σ)
  obtain ⟨o, ea, h⟩ := Wp.of h
  obtain ⟨ts, e1⟩ := r
  dsimp only at ea
  split at ea
  · rename_i t u _
    obtain ⟨v, r1, rfl, s1, k1, w, r2, rfl, s2, k2, k3⟩ := t1
    cases k3
    obtain ⟨⟨d1, e2⟩, l1, ea⟩ := obind ea
    obtain ⟨⟨d2, e3⟩, l2, ea⟩ := obind ea
    dsimp only at ea
    split at ea
    · rename_i hl
      cases ea
      obtain ⟨G1, y1, J1, q1⟩ := k1.escape I1 l1
      have k2' : TR c z G1 H1 σ e2 u w := by rw [← s2] at k2 ⊢; exact k2.keep y1
      obtain ⟨G2, y2, J2, q2⟩ := k2'.escape J1 l2
      have hi : i < σ.length := by rw [← J2.len]; exact hl.1
      have hj : j < σ.length := by rw [← J2.len]; exact hl.2
      have K1 := J2.store hi (q1.mono y2 d1 v)
      have K2 := K1.store (i := j) (by rw [List.length_set]; exact hj) q2
      exact ⟨v, w, rfl, h _ _ G2 ((x1.trans y1).trans y2) K2⟩
    · cases ea
  · cases ea
theorem ds_par {i j : Nat} {x y : Str} {px py pt : Pos} {kt k2 pt2} {tr : TA} {fr : FA} (hp : PS X (.Assign [.Tuple [.Name x px, .Name y py] kt pt] (.Tuple [a, b] k2 pt2) pos) (tPar i j tr)) (ha : DA X c W [a, b] tr fr) :
    DS X c W (.Assign [.Tuple [.Name x px, .Name y py] kt pt] (.Tuple [a, b] k2 pt2) pos) (tPar i j tr) (fPar i j fr) := ⟨hp, sn_par ha.sn⟩

/-! ### x += e, xs.append(e), xs[i] = e -/
def fAug (i : Nat) (op : D → D → Option RV) (f : FE) : FS := fun e => match e[i]? with
  | some (some (.sh d1)) => (f e).bind fun r => Res.of ((lookT r.1 r.2).bind fun d2 => (op d1 d2).bind fun rv => (storeT i rv.tok r.2).map .nx)
  | _ => .stuck
theorem sn_aug {i : Nat} {ti : TIp} {op : D → D → Option RV} (ho : ∀ F H d1 d2 v1 v2 rv (Q : VK), Ex F H → View c F H d1 v1 → View c F H d2 v2 → op d1 d2 = some rv → rv.Post c F H Q → ti v1 v2 H Q) (ha : SndE c W ta fa) :
    SndS c W (tAug i ta ti) (fAug i op fa) := fun z σ H F e D I h => by
  unfold fAug at h
  split at h
  · rename_i d1 hb
    obtain ⟨v1, hv1, r1⟩ := I.slot i _ hb
    refine ⟨v1, hv1, ?_⟩
    rw [Wp.bind] at h
    refine ha z σ H F e _ I (h.mono (fun r _ h v H1 F1 x1 I1 t1 => ?_) fun _ _ h => h σ)
    obtain ⟨o, ea, h⟩ := Wp.of h
    obtain ⟨d2, l1, ea⟩ := obind ea
    obtain ⟨rv, l2, ea⟩ := obind ea
    obtain ⟨e', l3, rfl⟩ := omap ea
    refine ho F1 H1 d1 d2 v1 v rv _ I1.fh (.inl (Rp.mono x1 d1 v1 r1)) (t1.view I1 l1) l2 (RV.post_of I1 fun w H2 F2 x2 I2' t2 => ?_)
    obtain ⟨G, x3, J⟩ := t2.store I2' l3
    exact h _ _ _ ((x1.trans x2).trans x3) J
  · exact h.elim
theorem ds_aug {i : Nat} {x : Str} {o : Operator} {ti : TIp} {op : D → D → Option RV} {pos' : Pos} (hN : X.N.Nodup) (hi : X.N[i]? = some x) (hx : Loc X.env.scope x) (ha : DE X c W a ta fa) (hp : PIp X o ti)
    (ho : ∀ F H d1 d2 v1 v2 rv (Q : VK), Ex F H → View c F H d1 v1 → View c F H d2 v2 → op d1 d2 = some rv → rv.Post c F H Q → ti v1 v2 H Q)
    (hf : X.fn x = true ∨ X.env.scope.names.lookup x = some .local := by first | exact .inl rfl | exact .inr rfl | assumption) : DS X c W (.AugAssign (.Name x pos') o a pos) (tAug i ta ti) (fAug i op fa) := ⟨ps_aug hN hi hx ha.pe hp hf, sn_aug ho ha.sn⟩
/-- a list that a name alone knows -/
def rootLst (e : DEnv) (j : Nat) : Option (List D) := match e[j]? with
  | some (some (.ow (.lst ds))) => some ds
  | some (some (.br (.lst ds))) => some ds
  | _ => none
def putLst (e : DEnv) (j : Nat) (ds : List D) : DEnv := match e[j]? with
  | some (some b) => e.set j (some (b.re (.lst ds)))
  | _ => e
theorem I2.rootLst {j : Nat} {ds : List D} (I : I2 c z σ H F e) (h : rootLst e j = some ds) : ∃ p vs, σ[j]? = some (some (.ref p)) ∧ H p = some (.lst vs) ∧ RpL c F ds vs ∧
    ∀ vs' ds', RpL c F ds' vs' → I2 c z σ (upd H p (.lst vs')) F (putLst e j ds') := by
  unfold DL.rootLst at h
  split at h <;> try cases h
  · rename_i hb
    obtain ⟨v, hv, p, rfl, ⟨hF, vs, h1, h2⟩, _⟩ := I.slot j _ hb
    refine ⟨p, vs, hv, h1, h2, fun vs' ds' r => ?_⟩
    unfold putLst
    rw [hb]
    exact I.mut (d := .lst ds') hb rfl hv ⟨hF, vs', upd_same, r⟩
  · rename_i hb
    obtain ⟨v, hv, p, rfl, ⟨hF, vs, h1, h2⟩, _⟩ := I.slot j _ hb
    refine ⟨p, vs, hv, h1, h2, fun vs' ds' r => ?_⟩
    unfold putLst
    rw [hb]
    exact I.mut (d := .lst ds') hb rfl hv ⟨hF, vs', upd_same, r⟩
/-- xs.append(e), xs a name -/
def fApp (j : Nat) (f : FE) : FE := fun e => (Res.of (rootLst e j)).bind fun _ => (f e).bind fun r => Res.of ((escape r.1 r.2).bind fun q => (rootLst q.2 j).bind fun ds => if ds.length < lim then some (.vl .non, putLst q.2 j (ds ++ [q.1])) else none)
theorem sn_app {j : Nat} (ha : SndE c W ta fa) : SndE c W (tBM c.K "list" rAppend (tVar j) (tCons ta tNil)) (fApp j fa) := fun z σ H F e Q I h => by
  unfold fApp at h
  rw [Wp.bind] at h
  obtain ⟨ds0, l0, h⟩ := Wp.of h
  obtain ⟨p0, vs0, hv0, h0, _, _⟩ := I.rootLst l0
  refine ⟨_, hv0, .inl ⟨rfl, _, sq_of h0⟩, ?_⟩
  rw [Wp.bind] at h
  refine ha z σ H F e _ I (h.mono (fun r _ h v H1 F1 x1 I1 t1 => ?_) fun _ _ h => h)
  obtain ⟨o, ea, h⟩ := Wp.of h
  obtain ⟨⟨d, e1⟩, l1, ea⟩ := obind ea
  obtain ⟨ds, l2, ea⟩ := obind ea
  dsimp only at ea
  split at ea
  · rename_i hl
    cases ea
    obtain ⟨G, x2, J, rr⟩ := t1.escape I1 l1
    obtain ⟨p, vs, hv, h1, r1, k⟩ := J.rootLst l2
    rw [hv0] at hv; cases hv
    refine ⟨p0, vs, v, rfl, rfl, h1, by rw [← r1.len]; exact lim_lt hl, ?_⟩
    exact h _ _ G (x1.trans x2) (k _ _ (r1.app (RpL.one rr))) rfl
  · cases ea
/-- xs.pop() -/
def fPop (j : Nat) : FE := fun e => Res.of ((rootLst e j).bind fun ds => (ds[ds.length - 1]?).bind fun d => some (.vl d, putLst e j ds.dropLast))
theorem RpL.dropLast {ds : List D} {vs : List V} (h : RpL c F ds vs) : RpL c F ds.dropLast vs.dropLast := by
  rw [List.dropLast_eq_take, List.dropLast_eq_take, h.len]
  exact h.take _
theorem sn_pop {j : Nat} : SndE c W (tBM0 c.K "list" rPop (tVar j)) (fPop j) := fun z σ H F e Q I h => by
  unfold fPop at h
  obtain ⟨o, ea, h⟩ := Wp.of h
  obtain ⟨ds, l1, ea⟩ := obind ea
  obtain ⟨d, l2, ea⟩ := obind ea
  cases ea
  obtain ⟨p, vs, hv, h1, r1, k⟩ := I.rootLst l1
  obtain ⟨v, h3, r3⟩ := r1.get l2
  refine ⟨_, hv, .inl ⟨rfl, _, sq_of h1⟩, p, vs, v, rfl, rfl, h1, by rw [← r1.len]; exact h3, ?_⟩
  exact h _ _ F (Ex.refl F) (k _ _ r1.dropLast) r3
/-- xs.extend(ys) -/
def fExt (j : Nat) (f : FE) : FE := fun e => (Res.of (rootLst e j)).bind fun _ => (f e).bind fun r => Res.of ((escape r.1 r.2).bind fun q => match q.1 with
  | .lst es => (rootLst q.2 j).bind fun ds => if ds.length + es.length ≤ lim then some (.vl .non, putLst q.2 j (ds ++ es)) else none
  | _ => none)
theorem sn_ext {j : Nat} (ha : SndE c W ta fa) : SndE c W (tBM c.K "list" rExtend (tVar j) (tCons ta tNil)) (fExt j fa) := fun z σ H F e Q I h => by
  unfold fExt at h
  rw [Wp.bind] at h
  obtain ⟨ds0, l0, h⟩ := Wp.of h
  obtain ⟨p0, vs0, hv0, h0, _, _⟩ := I.rootLst l0
  refine ⟨_, hv0, .inl ⟨rfl, _, sq_of h0⟩, ?_⟩
  rw [Wp.bind] at h
  refine ha z σ H F e _ I (h.mono (fun r _ h v H1 F1 x1 I1 t1 => ?_) fun _ _ h => h)
  obtain ⟨o, ea, h⟩ := Wp.of h
  obtain ⟨⟨d, e1⟩, l1, ea⟩ := obind ea
  obtain ⟨G, x2, J, rr⟩ := t1.escape I1 l1
  cases d <;> try cases ea
  rename_i es
  obtain ⟨ds, l2, ea⟩ := obind ea
  dsimp only at ea
  split at ea
  · rename_i hl
    cases ea
    obtain ⟨p, vs, hv, h1, r1, k⟩ := J.rootLst l2
    rw [hv0] at hv; cases hv
    obtain ⟨q, ws, rfl, h2, r2⟩ := rr
    refine ⟨p0, q, vs, ws, rfl, rfl, h1, J.fh _ _ h2, by rw [← r1.len, ← r2.len]; exact lim_ok hl, ?_⟩
    exact h _ _ G (x1.trans x2) (k _ _ (r1.app r2)) rfl
  · cases ea
/-- xs[i] = e, xs a name -/
def fSetIx (j : Nat) (fi fv : FE) : FS := fun e => (fv e).bind fun r => (Res.of ((escape r.1 r.2).bind fun q => (rootLst q.2 j).map fun _ => q)).bind fun q => (fi q.2).bind fun s => Res.of ((lookT s.1 s.2).bind fun k => match k with
  | .int k => (rootLst s.2 j).bind fun ds => (ixN ds.length k).map fun n => .nx (putLst s.2 j (ds.set n q.1))
  | _ => none)
theorem sn_setIx {j : Nat} {ti tv : TE} {fi fv : FE} (hi : SndE c W ti fi) (hv : SndE c W tv fv) : SndS c W (tAsg tv (gSub (tVar j) ti rSetL)) (fSetIx j fi fv) := fun z σ H F e D I h => by
  unfold fSetIx at h
  rw [Wp.bind] at h
  refine hv z σ H F e _ I (h.mono (fun r _ h v H1 F1 x1 I1 t1 => ?_) fun _ _ h => h σ)
  rw [Wp.bind] at h
  obtain ⟨⟨d, e1⟩, ea, h⟩ := Wp.of h
  obtain ⟨⟨d', e1'⟩, l1, ea⟩ := obind ea
  obtain ⟨ds0, l0, ea⟩ := omap ea
  cases ea
  obtain ⟨G, x2, J, rr⟩ := t1.escape I1 l1
  obtain ⟨p0, vs0, hv0, h0, _, _⟩ := J.rootLst l0
  refine ⟨_, hv0, ?_⟩
  rw [Wp.bind] at h
  refine hi z σ H1 G e1 _ J (h.mono (fun s _ h w H2 F2 x3 I2' t2 => ?_) fun _ _ h => (h.mono (x1.trans x2)) σ)
  obtain ⟨o, ea, h⟩ := Wp.of h
  obtain ⟨k, l2, ea⟩ := obind ea
  cases k <;> try cases ea
  rename_i k
  obtain ⟨ds, l3, ea⟩ := obind ea
  obtain ⟨n, l4, rfl⟩ := omap ea
  obtain ⟨p, vs, hv1, h1, r1, kk⟩ := I2'.rootLst l3
  rw [hv0] at hv1; cases hv1
  have ew := (t2.view I2' l2).int
  subst ew
  refine ⟨p0, vs, k, n, rfl, rfl, h1, by rw [← r1.len]; exact l4, ?_⟩
  exact h σ _ F2 ((x1.trans x2).trans x3) (kk _ _ (r1.set n (rr.mono x3 d v)))
theorem ds_setIx {j : Nat} {o i : Expr} {ti tv : TE} {fi fv : FE} {tgp : Pos} (hp : PS X (.Assign [.Subscript o i tgp] a pos) (tAsg tv (gSub (tVar j) ti rSetL))) (hi : SndE c W ti fi) (hv : SndE c W tv fv) : DS X c W (.Assign [.Subscript o i tgp] a pos) (tAsg tv (gSub (tVar j) ti rSetL)) (fSetIx j fi fv) := ⟨hp, sn_setIx hi hv⟩

/-! ### what is walked -/
/-- the iterator hands on the items -/
def ItOk (c : Ct) (z : Zs) (J : It) (F : Hp) (items : List D) : Prop := ∀ (i : Nat) (σ : L2.St) (H1 F1 : Hp) (e : DEnv), Ex F F1 → I2 c z σ H1 F1 e →
  (∀ d, items[i]? = some d → J.go i H1 ∧ ∀ x H2, J.yld i H1 x H2 → ∃ F2, Ex F1 F2 ∧ Ex H1 H2 ∧ I2 c z σ H2 F2 e ∧ Rp c F2 d x) ∧ (items.length ≤ i → J.stop i H1)
abbrev FI := DEnv → Res (List D × DEnv)
def SndI (c : Ct) (W : WX) (wi : TI) (fi : FI) : Prop := ∀ (z : Zs) σ H F e (R : It → Hp → Prop), I2 c z σ H F e →
  Wp (fi e) (fun r => ∀ J H' F', Ex F F' → I2 c z σ H' F' r.2 → (∀ z', ItOk c z' J F' r.1) → R J H') (Xp c z W σ F) → wi σ H R
structure DI (X : Cx) (c : Ct) (W : WX) (tg iter : Expr) (wi : TI) (fi : FI) : Prop where
  pi : PI X tg iter wi
  sn : SndI c W wi fi
/-- over a list -/
def fiL (f : FE) : FI := fun e => (f e).bind fun r => Res.of ((escape r.1 r.2).bind fun q => match q.1 with
  | .lst ds => some (ds, q.2)
  | .rol ds => some (ds, q.2)
  | _ => none)
theorem itOk_list {z' : Zs} {p : Addr} {vs : List V} {ds : List D} (h : SqL c.K F p vs) (r : RpL c F ds vs) : ItOk c z' (Itl c.K p) F ds := fun i σ H1 F1 e x I => by
  have h1 := ex_l (x.trans I.fh) h
  refine ⟨fun d hd => ?_, fun hl => ⟨vs, h1, by rw [← r.len]; exact hl⟩⟩
  obtain ⟨v, hv, rv⟩ := r.get hd
  refine ⟨⟨vs, v, h1, hv⟩, fun y H2 hy => ?_⟩
  obtain ⟨rfl, hy⟩ := hy
  have e1 := hy vs h1
  rw [hv] at e1; cases e1
  exact ⟨F1, Ex.refl F1, Ex.refl _, I, rv.mono x d v⟩
theorem sn_iL (ha : SndE c W ta fa) : SndI c W (iList c.K ta) (fiL fa) := fun z σ H F e R I h => by
  unfold fiL at h
  rw [Wp.bind] at h
  refine ha z σ H F e _ I (h.mono (fun r _ h v H1 F1 x1 I1 t1 => ?_) fun _ _ h => h)
  obtain ⟨o, ea, h⟩ := Wp.of h
  obtain ⟨⟨d, e1⟩, l1, ea⟩ := obind ea
  obtain ⟨G, x2, J, rr⟩ := t1.escape I1 l1
  cases d <;> try cases ea
  · obtain ⟨p, vs, rfl, h1, r⟩ := rr
    exact ⟨p, rfl, ⟨vs, sq_of (J.fh _ _ h1)⟩, h _ _ G (x1.trans x2) J fun z' => itOk_list (sq_of h1) r⟩
  · obtain ⟨p, vs, rfl, h1, r⟩ := rr
    exact ⟨p, rfl, ⟨vs, ex_l J.fh h1⟩, h _ _ G (x1.trans x2) J fun z' => itOk_list h1 r⟩
theorem di_list {tg : Expr} (hK : X.K = c.K := by rfl) (ha : DE X c W a ta fa) : DI X c W tg a (iList c.K ta) (fiL fa) := ⟨hK ▸ pi_list ha.pe, sn_iL ha.sn⟩
/-- over a tuple -/
def fiT (f : FE) : FI := fun e => (f e).bind fun r => Res.of ((escape r.1 r.2).bind fun q => match q.1 with
  | .tup ds => some (ds, q.2)
  | _ => none)
theorem itOk_tup {z' : Zs} {p : Addr} {vs : List V} {ds : List D} (h : SqT c.K F p vs) (r : RpL c F ds vs) : ItOk c z' (Itt c.K p) F ds := fun i σ H1 F1 e x I => by
  have h1 := ex_t (x.trans I.fh) h
  refine ⟨fun d hd => ?_, fun hl => ⟨vs, h1, by rw [← r.len]; exact hl⟩⟩
  obtain ⟨v, hv, rv⟩ := r.get hd
  refine ⟨⟨vs, v, h1, hv⟩, fun y H2 hy => ?_⟩
  obtain ⟨rfl, hy⟩ := hy
  have e1 := hy vs h1
  rw [hv] at e1; cases e1
  exact ⟨F1, Ex.refl F1, Ex.refl _, I, rv.mono x d v⟩
theorem sn_iT (ha : SndE c W ta fa) : SndI c W (iTup c.K ta) (fiT fa) := fun z σ H F e R I h => by
  unfold fiT at h
  rw [Wp.bind] at h
  refine ha z σ H F e _ I (h.mono (fun r _ h v H1 F1 x1 I1 t1 => ?_) fun _ _ h => h)
  obtain ⟨o, ea, h⟩ := Wp.of h
  obtain ⟨⟨d, e1⟩, l1, ea⟩ := obind ea
  obtain ⟨G, x2, J, rr⟩ := t1.escape I1 l1
  cases d <;> try cases ea
  obtain ⟨p, vs, rfl, h1, r⟩ := rr
  exact ⟨p, rfl, ⟨vs, ex_t J.fh h1⟩, h _ _ G (x1.trans x2) J fun z' => itOk_tup h1 r⟩
theorem di_tup {tg : Expr} (hK : X.K = c.K := by rfl) (ha : DE X c W a ta fa) : DI X c W tg a (iTup c.K ta) (fiT fa) := ⟨hK ▸ pi_tup ha.pe, sn_iT ha.sn⟩
/-- over range(n), range(a, b) -/
def irange (lo : Int) (n : Nat) : List D := (List.range n).map fun (i : Nat) => D.int (lo + (i : Int))
theorem itOk_range {z' : Zs} {lo : Int} {n : Nat} : ItOk c z' (Itr lo n) F (irange lo n) := fun i σ H1 F1 e x I => by
  refine ⟨fun d hd => ?_, fun hl => ?_⟩
  · unfold irange at hd
    rw [List.getElem?_map] at hd
    obtain ⟨k, hk, rfl⟩ := omap hd
    have hlt : i < n := by
      have := get_lt hk
      rwa [List.length_range] at this
    rw [List.getElem?_range hlt] at hk
    cases hk
    exact ⟨hlt, fun y H2 hy => ⟨F1, Ex.refl F1, by rw [hy.1]; exact Ex.refl _, by rw [hy.1]; exact I, hy.2⟩⟩
  · unfold irange at hl
    rw [List.length_map, List.length_range] at hl
    exact hl
def ok62 (i : Int) : Bool := decide (-(2 ^ 62) ≤ i) && decide (i < 2 ^ 62)
def fiR1 (fr : FA) : FI := fun e => (fr e).bind fun r => Res.of ((lookTs r.1 r.2).bind fun ds => match ds with
  | [.int n] => if ok62 n then some (irange 0 n.toNat, r.2) else none
  | _ => none)
def fiR2 (fr : FA) : FI := fun e => (fr e).bind fun r => Res.of ((lookTs r.1 r.2).bind fun ds => match ds with
  | [.int i, .int j] => if ok62 i && ok62 j then some (irange i (j - i).toNat, r.2) else none
  | _ => none)
theorem sn_iR1 {tr : TA} {fr : FA} (ha : SndA c W tr fr) : SndI c W (iRng1 tr) (fiR1 fr) := fun z σ H F e R I h => by
  unfold fiR1 at h
  rw [Wp.bind] at h
  refine ha z σ H F e _ I (h.mono (fun r _ h vs H1 F1 x1 I1 t1 => ?_) fun _ _ h => h)
  obtain ⟨o, ea, h⟩ := Wp.of h
  obtain ⟨ds, l1, ea⟩ := obind ea
  have k := t1.views I1 l1
  split at ea
  · rename_i n
    split at ea
    · rename_i hk
      cases ea
      obtain ⟨v, rfl, k'⟩ := k.one
      obtain ⟨b1, b2⟩ := Bool.and_eq_true_iff.mp hk
      exact ⟨n, by rw [k'.int], of_decide_eq_true b1, of_decide_eq_true b2, h _ H1 F1 x1 I1 fun z' => itOk_range⟩
    · cases ea
  · cases ea
theorem sn_iR2 {tr : TA} {fr : FA} (ha : SndA c W tr fr) : SndI c W (iRng2 tr) (fiR2 fr) := fun z σ H F e R I h => by
  unfold fiR2 at h
  rw [Wp.bind] at h
  refine ha z σ H F e _ I (h.mono (fun r _ h vs H1 F1 x1 I1 t1 => ?_) fun _ _ h => h)
  obtain ⟨o, ea, h⟩ := Wp.of h
  obtain ⟨ds, l1, ea⟩ := obind ea
  have k := t1.views I1 l1
  split at ea
  · rename_i i j
    split at ea
    · rename_i hk
      cases ea
      obtain ⟨v, w, rfl, k1, k2⟩ := k.two
      obtain ⟨b0, b3⟩ := Bool.and_eq_true_iff.mp hk
      obtain ⟨b1, b2⟩ := Bool.and_eq_true_iff.mp b0
      obtain ⟨b3, b4⟩ := Bool.and_eq_true_iff.mp b3
      exact ⟨i, j, by rw [k1.int, k2.int], ⟨of_decide_eq_true b1, of_decide_eq_true b2, of_decide_eq_true b3, of_decide_eq_true b4⟩, h _ H1 F1 x1 I1 fun z' => itOk_range⟩
    · cases ea
  · cases ea
theorem di_range1 {tg : Expr} {p : Pos} {tr : TA} {fr : FA} (hg : Gl X "range") (hm : X.mg "range" = none) (ha : DA X c W [a] tr fr) (hs : starEach [a] X.env = [(false, eval a X.env)] := by rfl) : DI X c W tg (.Call (.Name "range" p) [a] [] pos) (iRng1 tr) (fiR1 fr) := ⟨pi_range1 hg hm ha.pa hs, sn_iR1 ha.sn⟩
theorem di_range2 {tg : Expr} {p : Pos} {tr : TA} {fr : FA} (hg : Gl X "range") (hm : X.mg "range" = none) (ha : DA X c W [a, b] tr fr) (hs : starEach [a, b] X.env = [(false, eval a X.env), (false, eval b X.env)] := by rfl) (hs2 : starEach [b] X.env = [(false, eval b X.env)] := by rfl) :
    DI X c W tg (.Call (.Name "range" p) [a, b] [] pos) (iRng2 tr) (fiR2 fr) := ⟨pi_range2 hg hm ha.pa hs hs2, sn_iR2 ha.sn⟩

/-! ### for, while -/
def loopF (fg : D → DEnv → Option DEnv) (fb : FS) : List D → DEnv → Res Out
  | [], e => .ok (.nx e)
  | d :: ds, e => (Res.of (fg d e)).bind fun e1 => (fb e1).bind fun o => match o with
    | .nx e2 => loopF fg fb ds e2
    | .ct e2 => loopF fg fb ds e2
    | .bk e2 => .ok (.nx e2)
    | .rt t e2 => .ok (.rt t e2)
def fFor (fi : FI) (fg : D → DEnv → Option DEnv) (fb : FS) : FS := fun e => (fi e).bind fun r => loopF fg fb r.1 r.2
theorem sn_for {wi : TI} {fi : FI} {gg : TG} {fg : D → DEnv → Option DEnv} (hi : SndI c W wi fi) (hg : ∀ (z : Zs) σ H F e d v e' (Q : L2.St → Hp → Prop), I2 c z σ H F e → Rp c F d v → fg d e = some e' → (∀ σ', I2 c z σ' H F e' → Q σ' H) → gg v σ H Q) (hb : SndS c W ts f) :
    SndS c W (tFor wi gg ts) (fFor fi fg f) := fun z σ H F e D I h => by
  unfold fFor at h
  rw [Wp.bind] at h
  refine hi z σ H F e _ I (h.mono (fun r _ h J H1 F1 x1 I1 it => ?_) fun _ _ h => h σ)
  obtain ⟨items, e1⟩ := r
  refine ⟨fun i m σ' H' => m = items.length - i ∧ i ≤ items.length ∧ ∃ F' e', Ex F1 F' ∧ I2 c z σ' H' F' e' ∧ Wp (loopF fg f (items.drop i) e') (PoS c z F' D) (XpS c z W F'), ⟨items.length, rfl, Nat.zero_le _, F1, e1, Ex.refl F1, I1, h.mono (fun _ _ h => h.mono x1) fun _ _ h => h.mono x1⟩, ?_⟩
  rintro i m σ' H' ⟨rfl, hle, F', e', x', I', h'⟩
  obtain ⟨it1, it2⟩ := it z i σ' H' F' e' x' I'
  by_cases hlt : i < items.length
  · have hd : items[i]? = some items[i] := List.getElem?_eq_getElem hlt
    obtain ⟨go, yld⟩ := it1 _ hd
    rw [List.drop_eq_getElem_cons hlt] at h'
    unfold loopF at h'
    rw [Wp.bind] at h'
    obtain ⟨e2, l1, h'⟩ := Wp.of h'
    rw [Wp.bind] at h'
    refine .inr ⟨go, fun σ2 H2 => i + 1 ≤ items.length ∧ ∃ F2 e2, Ex F1 F2 ∧ I2 c z σ2 H2 F2 e2 ∧ Wp (loopF fg f (items.drop (i + 1)) e2) (PoS c z F2 D) (XpS c z W F2), fun σ2 H2 q => ⟨items.length - (i + 1), by omega, rfl, q⟩, fun y H2 hy => ?_⟩
    obtain ⟨F2, x2, _, J2, r2⟩ := yld y H2 hy
    refine hg z σ' H2 F2 e' _ y e2 _ J2 r2 l1 fun σ3 J3 => ?_
    refine hb z σ3 H2 F2 e2 _ J3 (h'.mono (fun o _ h => ?_) fun _ _ h => h.mono x2)
    cases o with
    | nx e4 => exact fun σ4 H4 F4 x4 I4 => ⟨hlt, F4, e4, (x'.trans x2).trans x4, I4, h.mono (fun _ _ h => h.mono (x2.trans x4)) fun _ _ h => h.mono (x2.trans x4)⟩
    | ct e4 => exact fun σ4 H4 F4 x4 I4 => ⟨hlt, F4, e4, (x'.trans x2).trans x4, I4, h.mono (fun _ _ h => h.mono (x2.trans x4)) fun _ _ h => h.mono (x2.trans x4)⟩
    | bk e4 => exact fun σ4 H4 F4 x4 I4 => h σ4 H4 F4 (x2.trans x4) I4
    | rt t e4 => exact fun v σ4 H4 F4 x4 I4 t4 => h v σ4 H4 F4 (x2.trans x4) I4 t4
  · have e0 : i = items.length := by omega
    subst e0
    rw [List.drop_length] at h'
    exact .inl ⟨it2 (Nat.le_refl _), h' σ' H' F' (Ex.refl F') I'⟩
theorem ds_for {tg iter : Expr} {wi : TI} {fi : FI} {gg : TG} {fg : D → DEnv → Option DEnv} (hp : PassesOwn (model X.prog X.w) X.A X.env X.xe) (hc : X.calm = true) (hi : DI X c W tg iter wi fi) (hg : DG X c tg gg fg) (hb : DSs X c W sts ts f)
    (hs : ∀ x, foldedSetIterable iter X.env x = pure x := by intro _; rfl) : DS X c W (.For tg iter sts [] pos) (tFor wi gg ts) (fFor fi fg f) := ⟨ps_for hp hc hi.pi hg.pg hb.ps hs, sn_for hi.sn hg.sn hb.sn⟩
def loopW (fc : FT) (fb : FS) : Nat → DEnv → Res Out
  | 0, _ => .stuck
  | n + 1, e => (fc e).bind fun r => if r.1 = true then (fb r.2).bind fun o => match o with
    | .nx e2 => loopW fc fb n e2
    | .ct e2 => loopW fc fb n e2
    | .bk e2 => .ok (.nx e2)
    | .rt t e2 => .ok (.rt t e2)
    else .ok (.nx r.2)
theorem sn_while (n : Nat) (hc : SndT c W tt ft) (hb : SndS c W ts f) : SndS c W (tWhile tt ts) (loopW ft f n) := fun z σ H F e D I h => by
  refine ⟨fun m σ' H' => ∃ F' e', Ex F F' ∧ I2 c z σ' H' F' e' ∧ Wp (loopW ft f m e') (PoS c z F' D) (XpS c z W F'), ⟨n, F, e, Ex.refl F, I, h⟩, ?_⟩
  rintro m σ' H' ⟨F', e', x', I', h'⟩
  cases m with
  | zero => exact h'.elim
  | succ m =>
    unfold loopW at h'
    rw [Wp.bind] at h'
    refine hc z σ' H' F' e' _ I' (h'.mono (fun r _ h H1 F1 x1 I1 => ?_) fun _ _ h => h σ')
    obtain ⟨b, e1⟩ := r
    cases b with
    | false =>
      rw [if_neg Bool.false_ne_true] at h
      show D.nx σ' H1
      exact h σ' H1 F1 x1 I1
    | true =>
      rw [if_pos rfl] at h ⊢
      rw [Wp.bind] at h
      refine ⟨fun σ2 H2 => ∃ F2 e2, Ex F F2 ∧ I2 c z σ2 H2 F2 e2 ∧ Wp (loopW ft f m e2) (PoS c z F2 D) (XpS c z W F2), fun σ2 H2 q => ⟨m, Nat.lt_succ_self _, q⟩, ?_⟩
      refine hb z σ' H1 F1 e1 _ I1 (h.mono (fun o _ h => ?_) fun _ _ h => h.mono x1)
      cases o with
      | nx e4 => exact fun σ4 H4 F4 x4 I4 => ⟨F4, e4, (x'.trans x1).trans x4, I4, h.mono (fun _ _ h => h.mono (x1.trans x4)) fun _ _ h => h.mono (x1.trans x4)⟩
      | ct e4 => exact fun σ4 H4 F4 x4 I4 => ⟨F4, e4, (x'.trans x1).trans x4, I4, h.mono (fun _ _ h => h.mono (x1.trans x4)) fun _ _ h => h.mono (x1.trans x4)⟩
      | bk e4 => exact fun σ4 H4 F4 x4 I4 => h σ4 H4 F4 (x1.trans x4) I4
      | rt t e4 => exact fun v σ4 H4 F4 x4 I4 t4 => h v σ4 H4 F4 (x1.trans x4) I4 t4
theorem ds_while {t : Expr} (n : Nat) (hp : PassesOwn (model X.prog X.w) X.A X.env X.xe) (hc : DT X c W t tt ft) (hb : DSs X c W sts ts f) : DS X c W (.While t sts [] pos) (tWhile tt ts) (loopW ft f n) := ⟨ps_while hp hc.pt hb.ps, sn_while n hc.sn hb.sn⟩
end
end DL

/-! DL, part f: comprehensions, defs and their calls, fields, new instances. -/
namespace DL
open PySem L2 Evl

section
variable {c : Ct} {z : Zs} {σ σw : L2.St} {H H' F F' G : Hp} {e e' : DEnv}
/-! ### a frame's names lent -/
def lendB : Option B → Option B
  | some (.ow d) => some (.br d)
  | some (.ex _) => none
  | x => x
def lendE (e : DEnv) : DEnv := e.map lendB
def lendZ (σ : L2.St) (H F : Hp) (e : DEnv) : Zs := ⟨H, F, fun p => ∃ i, RootAt σ e i p, fun i => ((σ[i]?).bind id).getD .non⟩
theorem lend_get {i : Nat} {b : B} (h : (lendE e)[i]? = some (some b)) : (∃ d, b = .sh d ∧ e[i]? = some (some (.sh d))) ∨ ∃ d b0, b = .br d ∧ e[i]? = some (some b0) ∧ b0.isRoot = true ∧ b0.d = d := by
  unfold lendE at h
  rw [List.getElem?_map] at h
  obtain ⟨x, h1, h2⟩ := omap h
  cases x with
  | none => cases h2
  | some b0 =>
    cases b0 with
    | sh d => cases h2; exact .inl ⟨d, rfl, h1⟩
    | ow d => cases h2; exact .inr ⟨d, _, rfl, h1, rfl, rfl⟩
    | br d => cases h2; exact .inr ⟨d, _, rfl, h1, rfl, rfl⟩
    | ex x => cases h2
theorem I2.lend (I : I2 c z σ H F e) : I2 c (lendZ σ H F e) σ H F (lendE e) := by
  refine ⟨by unfold lendE; rw [List.length_map]; exact I.len, Ex.refl F, I.fh, fun p o h _ => h, fun i b h => ?_, fun i j p ⟨b, h1, h2, h3⟩ ⟨b', h1', h2', h3'⟩ => ?_, fun p ⟨i, h⟩ => ?_, fun p _ h => h, fun i d v h hv => ?_⟩
  · rcases lend_get h with ⟨d, rfl, h1⟩ | ⟨d, b0, rfl, h1, h2, rfl⟩
    · exact I.slot i _ h1
    · obtain ⟨p, hp, o, _⟩ := I.own h1 h2
      exact ⟨_, hp, p, rfl, o, ⟨i, b0, h1, h2, hp⟩⟩
  · rcases lend_get h1 with ⟨d, rfl, q⟩ | ⟨d, b0, rfl, q, q2, rfl⟩
    · cases h2
    · rcases lend_get h1' with ⟨d', rfl, q'⟩ | ⟨d', b0', rfl, q', q2', rfl⟩
      · cases h2'
      · exact I.dist i j p ⟨b0, q, q2, h3⟩ ⟨b0', q', q2', h3'⟩
  · obtain ⟨d, o⟩ := I.rootAt h
    exact o.at
  · show ((σ[i]?).bind id).getD .non = v
    rw [hv]
    rfl
def backB : Option B → Option B → Option B
  | some (.sh d), _ => some (.sh d)
  | some (.ex x), _ => some (.ex x)
  | some (.ow _), some (.br d) => some (.ow d)
  | some (.br _), some (.br d) => some (.br d)
  | _, _ => none
def backE : DEnv → DEnv → DEnv
  | [], _ => []
  | b :: e, e2 => backB b (e2.headD none) :: backE e e2.tail
theorem back_len : ∀ (e e2 : DEnv), (backE e e2).length = e.length
  | [], _ => rfl
  | _ :: e, e2 => by unfold backE; rw [List.length_cons, List.length_cons, back_len e]
theorem back_get : ∀ {e e2 : DEnv} {i : Nat} {b : B}, (backE e e2)[i]? = some (some b) → ∃ b0, e[i]? = some (some b0) ∧ ((b = b0 ∧ b0.isRoot = false) ∨ (b0.isRoot = true ∧ ∃ d, e2[i]? = some (some (.br d)) ∧ b = b0.re d))
  | [], _, _, _, h => by simp [backE] at h
  | x :: e, e2, 0, b, h => by
    unfold backE at h
    have h' : backB x (e2.headD none) = some b := by simpa using h
    have e0 : e2.headD none ≠ none → e2[0]? = some (e2.headD none) := by
      cases e2 with
      | nil => exact fun z => absurd rfl z
      | cons y r => exact fun _ => rfl
    cases x with
    | none => cases h'
    | some b0 =>
      refine ⟨b0, rfl, ?_⟩
      cases b0 with
      | sh d => cases h'; exact .inl ⟨rfl, rfl⟩
      | ex x => cases h'; exact .inl ⟨rfl, rfl⟩
      | ow d =>
        generalize hq : e2.headD none = q at h' e0
        cases q with
        | none => cases h'
        | some b1 =>
          cases b1 <;> try cases h'
          rename_i d1
          exact .inr ⟨rfl, d1, e0 (fun z => nomatch z), rfl⟩
      | br d =>
        generalize hq : e2.headD none = q at h' e0
        cases q with
        | none => cases h'
        | some b1 =>
          cases b1 <;> try cases h'
          rename_i d1
          exact .inr ⟨rfl, d1, e0 (fun z => nomatch z), rfl⟩
  | x :: e, e2, i + 1, b, h => by
    unfold backE at h
    obtain ⟨b0, h1, h2⟩ := back_get (e := e) (e2 := e2.tail) (i := i) (b := b) (by simpa using h)
    refine ⟨b0, by simpa using h1, ?_⟩
    rcases h2 with h2 | ⟨h2, d, h3, h4⟩
    · exact .inl h2
    · refine .inr ⟨h2, d, ?_, h4⟩
      cases e2 with
      | nil => simp at h3
      | cons y r => simpa using h3
theorem I2.back (I : I2 c z σ H F e) (J : I2 c (lendZ σ H F e) σw H' F' e') : I2 c z σ H' F' (backE e e') := by
  have kb : ∀ p, H p ≠ none → H' p ≠ none := fun p h => by
    by_cases hb : (lendZ σ H F e).Bo p
    · obtain ⟨o, ho⟩ := J.bo p hb
      rw [ho]; exact fun z => nomatch z
    · cases q : H p with
      | none => exact absurd q h
      | some o => rw [J.keep p o q hb]; exact fun z => nomatch z
  refine I.change (L := List.range e.length) (back_len e e') J.f0 J.fh (fun p o h1 h2 => J.keep p o h1 fun ⟨i, hi⟩ => h2 i (List.mem_range.mpr (get_lt hi.choose_spec.1)) hi) kb (fun p h1 h2 => J.nf p h1 h2) fun i b h => ?_
  obtain ⟨b0, h1, h2⟩ := back_get h
  refine ⟨b0, h1, ?_⟩
  rcases h2 with ⟨rfl, h2⟩ | ⟨h2, d, h3, rfl⟩
  · exact .inl ⟨rfl, fun z => by rw [h2] at z; cases z⟩
  · obtain ⟨v, hv, p, rfl, o, _⟩ := J.slot i _ h3
    have e1 := J.brv i d _ h3 hv
    obtain ⟨p0, hp0, _⟩ := I.own h1 h2
    have e2 : ((σ[i]?).bind id).getD .non = V.ref p := e1
    rw [hp0] at e2
    have e3 : V.ref p0 = V.ref p := e2
    cases e3
    exact .inr ⟨h2, d, _, rfl, hp0, o⟩

/-! ### comprehensions -/
def wipeE (e : DEnv) : List Nat → DEnv
  | [] => e
  | v :: vs => (wipeE e vs).set v none
theorem I2.wipe (I : I2 c z σ H F e) : ∀ vs : List Nat, I2 c z (L2.wipe σ vs) H F (wipeE e vs)
  | [] => I
  | v :: vs => (I2.wipe I vs).unbind
end

/-- no name owns a new object -/
def noOw (e : DEnv) : Bool := e.all fun b => match b with
  | some (.ow _) => false
  | _ => true
/-- the block's slots bear nothing that is owned -/
def clearAt (e : DEnv) (vs : List Nat) : Bool := vs.all fun i => match e[i]? with
  | some (some (.ow _)) => false
  | some (some (.br _)) => false
  | _ => true
def loopC (fg : D → DEnv → Option DEnv) (ft : FT) (fe : FE) (vs : List Nat) : List D → List D → DEnv → Option (List D × DEnv)
  | [], acc, e => some (acc, e)
  | d :: ds, acc, e => if noOw e then (fg d e).bind fun e1 => match ft e1 with
    | .ok (true, e2) => match fe e2 with
      | .ok (t, e3) => (escape t e3).bind fun q => if noOw q.2 && decide (acc.length < lim) then loopC fg ft fe vs ds (acc ++ [q.1]) (wipeE q.2 vs) else none
      | _ => none
    | .ok (false, e2) => if noOw e2 then loopC fg ft fe vs ds acc (wipeE e2 vs) else none
    | _ => none
    else none
def fLc (fi : FI) (fg : D → DEnv → Option DEnv) (ft : FT) (fe : FE) (vs : List Nat) : FE := fun e => (fi e).bind fun r => Res.of (if clearAt r.2 vs then (loopC fg ft fe vs r.1 [] (wipeE (lendE r.2) vs)).map fun q => (.nw (.lst q.1), backE r.2 q.2) else none)
/-- no wish of an exception -/
abbrev W0 : WX := fun _ _ _ _ => False

section
variable {X : Cx} {c : Ct} {z : Zs} {W : WX} {σ σ' : L2.St} {H H' F F' G : Hp} {e e' : DEnv} {wi : TI} {fi : FI} {g : TG} {fg : D → DEnv → Option DEnv} {tt : TT} {ft : FT} {te : TE} {fe : FE} {vs : List Nat}
theorem noOw_get {i : Nat} {d : D} (h : noOw e = true) (h1 : e[i]? = some (some (.ow d))) : False := by
  have := List.all_eq_true.mp h _ (List.mem_of_getElem? h1)
  cases this
theorem I2.rebase (I : I2 c z σ H F e) (no : noOw e = true) : I2 c ⟨H, F, z.Bo, z.V0⟩ σ H F e := by
  refine ⟨I.len, Ex.refl F, I.fh, fun p o h _ => h, fun i b h => ?_, I.dist, I.bo, fun p _ h => h, I.brv⟩
  obtain ⟨v, hv, r⟩ := I.slot i b h
  refine ⟨v, hv, ?_⟩
  cases b with
  | sh d => exact r
  | ow d => exact (noOw_get no h).elim
  | br d => exact r
  | ex x => exact r
theorem I2.h0 (I : I2 c z σ H F e) {p : Addr} (h : z.H0 p ≠ none) : H p ≠ none := by
  cases q : z.H0 p with
  | none => exact absurd q h
  | some o =>
    by_cases hB : z.Bo p
    · obtain ⟨u, k⟩ := I.bo p hB; rw [k]; exact fun z => nomatch z
    · rw [I.keep p o q hB]; exact fun z => nomatch z
theorem I2.unbase (I : I2 c z σ H F e) (J : I2 c ⟨H, F, z.Bo, z.V0⟩ σ' H' F' e') (no : noOw e' = true) : I2 c z σ' H' F' e' := by
  refine ⟨J.len, I.f0.trans J.f0, J.fh, fun p o h hb => J.keep p o (I.keep p o h hb) hb, fun i b h => ?_, J.dist, J.bo, fun p h1 h2 => J.nf p (I.h0 h1) (I.nf p h1 h2), J.brv⟩
  obtain ⟨v, hv, r⟩ := J.slot i b h
  refine ⟨v, hv, ?_⟩
  cases b with
  | sh d => exact r
  | ow d => exact (noOw_get no h).elim
  | br d => exact r
  | ex x => exact r
theorem I2.other {Da : Addr} {o : HO} (I : I2 c z σ H F e) (no : noOw e = true) (hF : F Da = none) (h0 : z.H0 Da = none) (hb : ¬ z.Bo Da) : I2 c z σ (upd H Da o) F e := by
  refine ⟨I.len, I.f0, fun a u h => ?_, fun p u h hb' => ?_, fun i b h => ?_, I.dist, fun p h => ?_, I.nf, I.brv⟩
  · by_cases ha : a = Da
    · subst ha; rw [hF] at h; cases h
    · rw [upd_ne ha]; exact I.fh _ _ h
  · by_cases ha : p = Da
    · subst ha; rw [h0] at h; cases h
    · rw [upd_ne ha]; exact I.keep p u h hb'
  · obtain ⟨v, hv, r⟩ := I.slot i b h
    refine ⟨v, hv, ?_⟩
    cases b with
    | sh d => exact r
    | ow d => exact (noOw_get no h).elim
    | ex x => exact r
    | br d =>
      obtain ⟨p, rfl, w, hB⟩ := r
      have ne : p ≠ Da := fun z => hb (z ▸ hB)
      exact ⟨p, rfl, w.mono (Ex.refl F) w.1 (fun u hu => by rw [upd_ne ne]; exact hu), hB⟩
  · obtain ⟨u, hu⟩ := I.bo p h
    have ne : p ≠ Da := fun z => hb (z ▸ h)
    exact ⟨u, by rw [upd_ne ne]; exact hu⟩
theorem wipe_key : ∀ (vs : List Nat) (σ τ : L2.St), σ.length = τ.length → (∀ j, j ∉ vs → σ[j]? = τ[j]?) → L2.wipe σ vs = L2.wipe τ vs := by
  intro vs
  induction vs with
  | nil =>
    intro σ τ hl h
    exact List.ext_getElem? fun j => h j (by simp)
  | cons v vs ih =>
    intro σ τ hl h
    unfold L2.wipe
    have e1 : L2.wipe (σ.set v none) vs = L2.wipe (τ.set v none) vs := ih _ _ (by rw [List.length_set, List.length_set]; exact hl) fun j hj => by
      by_cases ej : v = j
      · subst ej
        rw [List.getElem?_set, List.getElem?_set, hl]
        simp
      · rw [List.getElem?_set_ne ej, List.getElem?_set_ne ej]
        exact h j (by simp; exact ⟨fun z => ej z.symm, hj⟩)
    have com : ∀ (vs : List Nat) (σ : L2.St), (L2.wipe σ vs).set v none = L2.wipe (σ.set v none) vs := by
      intro vs
      induction vs with
      | nil => intro σ; rfl
      | cons w vs ih2 =>
        intro σ
        unfold L2.wipe
        rw [← ih2 σ]
        by_cases ew : v = w
        · subst ew; rfl
        · exact List.set_comm _ _ (fun z => ew z.symm)
    rw [com, com]
    exact e1
theorem wipe_set {i : Nat} {x : Option V} (hi : i ∈ vs) : L2.wipe (σ.set i x) vs = L2.wipe σ vs := wipe_key vs _ _ (by rw [List.length_set]) fun j hj => by
  have hne : i ≠ j := fun z => hj (z ▸ hi)
  rw [List.getElem?_set_ne hne]
theorem wipe_idem : L2.wipe (L2.wipe σ vs) vs = L2.wipe σ vs := wipe_key vs _ _ (wipe_length _ _) fun j hj => wipe_out hj
theorem sn_lc (hi : SndI c W wi fi) (hg : ∀ (z : Zs) σ H F e d v e' (Q : L2.St → Hp → Prop), I2 c z σ H F e → Rp c F d v → fg d e = some e' → (∀ σ', I2 c z σ' H F e' → L2.wipe σ' vs = L2.wipe σ vs → Q σ' H) → g v σ H Q)
    (ht : SndT c W0 tt ft) (he : SndE c W0 te fe) : SndE c W (tLc wi g tt te vs) (fLc fi fg ft fe vs) := fun z σ H F e Q I h => by
  unfold fLc at h
  rw [Wp.bind] at h
  refine hi z σ H F e _ I (h.mono (fun r _ h J H1 F1 x1 I1 it => ?_) fun _ _ h => h)
  obtain ⟨items, e1⟩ := r
  obtain ⟨o, ea, h⟩ := Wp.of h
  dsimp only at ea
  split at ea
  · rename_i hclear
    obtain ⟨⟨res, eo⟩, lc, rfl⟩ := omap ea
    intro Da hDa
    have hF1 : F1 Da = none := fresh_back I1.fh hDa
    have hBo : ¬ (lendZ σ H1 F1 e1).Bo Da := fun ⟨i, hi⟩ => I1.noroot hDa i hi
    have hH0 : (lendZ σ H1 F1 e1).H0 Da = none := hDa
    refine ⟨fun i m H2 => m = items.length - i ∧ i ≤ items.length ∧ ∃ F2 e2 acc vs2, Ex F1 F2 ∧ H2 Da = some (.lst vs2) ∧ F2 Da = none ∧ RpL c F2 acc vs2 ∧
      I2 c (lendZ σ H1 F1 e1) (L2.wipe σ vs) H2 F2 e2 ∧ loopC fg ft fe vs (items.drop i) acc e2 = some (res, eo),
      ⟨items.length, rfl, Nat.zero_le _, F1, wipeE (lendE e1) vs, [], [], Ex.refl F1, upd_same, hF1, rfl, (I1.lend.wipe vs).alloc (Ex.new hDa), lc⟩, ?_⟩
    rintro i m H2 ⟨rfl, hle, F2, e2, acc, vs2, x2, hacc, hFD, racc, J2, lc'⟩
    by_cases hlt : i < items.length
    · have hd : items[i]? = some items[i] := List.getElem?_eq_getElem hlt
      rw [List.drop_eq_getElem_cons hlt] at lc'
      unfold loopC at lc'
      split at lc'
      · rename_i hno
        obtain ⟨e3, l3, lc'⟩ := obind lc'
        have R2 := J2.rebase hno
        obtain ⟨it1, _⟩ := it ⟨H2, F2, (lendZ σ H1 F1 e1).Bo, (lendZ σ H1 F1 e1).V0⟩ i _ H2 F2 e2 x2 R2
        obtain ⟨go, yld⟩ := it1 _ hd
        refine .inr ⟨go, fun H' => i + 1 ≤ items.length ∧ ∃ F2 e2 acc vs2, Ex F1 F2 ∧ H' Da = some (.lst vs2) ∧ F2 Da = none ∧ RpL c F2 acc vs2 ∧
          I2 c (lendZ σ H1 F1 e1) (L2.wipe σ vs) H' F2 e2 ∧ loopC fg ft fe vs (items.drop (i + 1)) acc e2 = some (res, eo), fun H' q => ⟨items.length - (i + 1), by omega, rfl, q⟩, fun y H3 hy => ?_⟩
        obtain ⟨F3, x3, xh3, J3, r3⟩ := yld y H3 hy
        refine hg _ (L2.wipe σ vs) H3 F3 e2 _ y e3 _ J3 r3 l3 fun σ4 J4 w4 => ?_
        have w4' : L2.wipe σ4 vs = L2.wipe σ vs := w4.trans wipe_idem
        refine ⟨w4', ?_⟩
        -- what stands at Da through a state of this turn
        have stays : ∀ {σ5 H5 F5 e5}, I2 c ⟨H2, F2, (lendZ σ H1 F1 e1).Bo, (lendZ σ H1 F1 e1).V0⟩ σ5 H5 F5 e5 → H5 Da = some (.lst vs2) ∧ F5 Da = none := fun {σ5 H5 F5 e5} K => ⟨K.keep Da _ hacc hBo, K.nf Da (by show H2 Da ≠ none; rw [hacc]; exact fun z => nomatch z) hFD⟩
        cases hft : ft e3 with
        | stuck => rw [hft] at lc'; cases lc'
        | exc x e' => rw [hft] at lc'; cases lc'
        | ok r =>
          obtain ⟨b, e5⟩ := r
          rw [hft] at lc'
          refine ht _ σ4 H3 F3 e3 _ J4 ?_
          rw [hft]
          show ∀ H' F', Ex F3 F' → I2 c _ σ4 H' F' e5 → _
          intro H5 F5 x5 J5
          cases b with
          | false =>
            dsimp only at lc'
            split at lc'
            · rename_i hno5
              rw [if_neg Bool.false_ne_true]
              obtain ⟨k1, k2⟩ := stays J5
              have U := (J2.unbase J5 hno5).wipe vs
              rw [w4'] at U
              exact ⟨hlt, F5, _, acc, vs2, (x2.trans x3).trans x5, k1, k2, racc.mono (x3.trans x5) _ _, U, lc'⟩
            · cases lc'
          | true =>
            dsimp only at lc'
            rw [if_pos rfl]
            cases hfe : fe e5 with
            | stuck => rw [hfe] at lc'; cases lc'
            | exc x e' => rw [hfe] at lc'; cases lc'
            | ok r =>
              obtain ⟨t, e6⟩ := r
              rw [hfe] at lc'
              refine he _ σ4 H5 F5 e5 _ J5 ?_
              rw [hfe]
              show ∀ v H' F', Ex F5 F' → I2 c _ σ4 H' F' e6 → TR c _ F' H' σ4 e6 t v → _
              intro v H6 F6 x6 J6 t6
              obtain ⟨⟨d, e7⟩, l7, lc'⟩ := obind lc'
              dsimp only at lc'
              split at lc'
              · rename_i hk
                obtain ⟨hno7, hlen⟩ := Bool.and_eq_true_iff.mp hk
                have hlen := of_decide_eq_true hlen
                obtain ⟨F7, x7, J7, r7⟩ := t6.escape J6 l7
                obtain ⟨k1, k2⟩ := stays J7
                have U0 := (J2.unbase J7 hno7)
                have U := (U0.other (o := .lst (vs2 ++ [v])) hno7 k2 hH0 hBo).wipe vs
                rw [w4'] at U
                have xx : Ex F2 F7 := ((x3.trans x5).trans x6).trans x7
                exact ⟨vs2, k1, by rw [← racc.len]; exact lim_lt hlen, hlt, F7, _, acc ++ [d], vs2 ++ [v], x2.trans xx, upd_same, k2, (racc.mono xx _ _).app (RpL.one r7), U, lc'⟩
              · cases lc'
      · cases lc'
    · have e0 : i = items.length := by omega
      subst e0
      rw [List.drop_length] at lc'
      cases lc'
      obtain ⟨_, it2⟩ := it (lendZ σ H1 F1 e1) items.length _ H2 F2 _ x2 J2
      have B := I1.back J2
      refine .inl ⟨it2 (Nat.le_refl _), h _ H2 F2 (x1.trans x2) B ⟨Da, rfl, ⟨hFD, vs2, hacc, racc⟩, I1.fresh0 hDa, fun i ⟨b, h1, h2, h3⟩ => ?_⟩⟩
      obtain ⟨b0, h4, h5⟩ := back_get h1
      have hr : b0.isRoot = true := by
        rcases h5 with ⟨rfl, h5⟩ | ⟨h5, _⟩
        · rw [h5] at h2; cases h2
        · exact h5
      exact I1.noroot hDa i ⟨b0, h4, hr, h3⟩
  · cases ea

/-- a target within a comprehension: it sets only the block's own names -/
structure DGC (X : Cx) (c : Ct) (vs : List Nat) (tg : Expr) (g : TG) (fg : D → DEnv → Option DEnv) : Prop where
  pg : PG X tg g
  sn : ∀ (z : Zs) σ H F e d v e' (Q : L2.St → Hp → Prop), I2 c z σ H F e → Rp c F d v → fg d e = some e' → (∀ σ', I2 c z σ' H F e' → L2.wipe σ' vs = L2.wipe σ vs → Q σ' H) → g v σ H Q
theorem dgc_name {i : Nat} {x : Str} {pos : Pos} (hN : X.N.Nodup) (hi : X.N[i]? = some x) (hx : Loc X.env.scope x) (hv : i ∈ vs) (hf : X.fn x = true ∨ X.env.scope.names.lookup x = some .local := by first | exact .inl rfl | exact .inr rfl | assumption) :
    DGC X c vs (.Name x pos) (gName i) (fgName i) := by
  refine ⟨pg_name hN hi hx hf, fun z σ H F e d v e' Q I r l k => ?_⟩
  unfold fgName at l
  split at l
  · rename_i hl
    cases l
    exact k _ (I.store (by rw [← I.len]; exact hl) r) (wipe_set hv)
  · cases l
structure DGCs (X : Cx) (c : Ct) (vs : List Nat) (tgs : List Expr) (g : TGs) (fg : List D → DEnv → Option DEnv) : Prop where
  pg : PGs X tgs g
  sn : ∀ (z : Zs) σ H F e ds ws e' (Q : L2.St → Hp → Prop), I2 c z σ H F e → RpL c F ds ws → fg ds e = some e' → (∀ σ', I2 c z σ' H F e' → L2.wipe σ' vs = L2.wipe σ vs → Q σ' H) → g ws σ H Q
theorem dgcs_nil : DGCs X c vs [] gNil fgNil := ⟨pgs_nil, fun z σ H F e ds ws e' Q I r l k => by
  cases ds with
  | nil => cases l; cases r; exact ⟨rfl, k σ I rfl⟩
  | cons _ _ => cases l⟩
theorem dgcs_cons {a : Expr} {es : List Expr} {g1 : TG} {f1 : D → DEnv → Option DEnv} {gs : TGs} {fs : List D → DEnv → Option DEnv} (h1 : DGC X c vs a g1 f1) (h2 : DGCs X c vs es gs fs)
    (hs : (assignEach (a :: es) X.env).map (·.2) = assign a X.env :: (assignEach es X.env).map (·.2) := by rfl) : DGCs X c vs (a :: es) (gCons g1 gs) (fgCons f1 fs) := ⟨pgs_cons h1.pg h2.pg hs, fun z σ H F e ds ws e' Q I r l k => by
  cases ds with
  | nil => cases l
  | cons d ds =>
    obtain ⟨v, w, rfl, r1, r2⟩ := r
    obtain ⟨e1, l1, l2⟩ := obind l
    exact ⟨v, w, rfl, h1.sn z σ H F e d v e1 _ I r1 l1 fun σ1 I1 w1 => h2.sn z σ1 H F e1 ds w e' Q I1 r2 l2 fun σ2 I2 w2 => k σ2 I2 (w2.trans w1)⟩⟩
theorem dgc_tup {es : List Expr} {k n : Nat} {pos : Pos} {gs : TGs} {fs : List D → DEnv → Option DEnv} (hK : X.K = c.K := by rfl) (h : DGCs X c vs es gs fs) (hc : X.calm = true := by rfl)
    (hn : (assignEach es X.env).length = n := by rfl) (hst : (assignEach es X.env).findIdx? (·.1) = none := by rfl) : DGC X c vs (.Tuple es k pos) (gTup c.K n gs) (fgTup n fs) := by
  refine ⟨hK ▸ pg_tup hc h.pg hn hst, fun z σ H F e d v e' Q I r l q => ?_⟩
  cases d <;> try cases l
  rename_i ds
  unfold fgTup at l
  dsimp only at l
  split at l
  · rename_i hl
    obtain ⟨p, ws, rfl, h1, h2⟩ := r
    exact ⟨p, ws, rfl, ex_t I.fh h1, by rw [← h2.len]; exact hl, h.sn z σ H F e ds ws e' Q I h2 l q⟩
  · cases l
theorem dg_tup' {es : List Expr} {k n : Nat} {pos : Pos} {gs : TGs} {fs : List D → DEnv → Option DEnv} (hK : X.K = c.K := by rfl) (h : DGs X c es gs fs) (hc : X.calm = true := by rfl)
    (hn : (assignEach es X.env).length = n := by rfl) (hst : (assignEach es X.env).findIdx? (·.1) = none := by rfl) : DG X c (.Tuple es k pos) (gTup c.K n gs) (fgTup n fs) := dg_tup hK hc h (pg_tup hc h.pg hn hst)

/-- the tests of a comprehension -/
structure DTs (X : Cx) (c : Ct) (W : WX) (ifs : List Expr) (tt : TT) (f : FT) : Prop where
  pts : PTs X ifs tt
  sn : SndT c W tt f
def fYes : FT := fun e => .ok (true, e)
theorem dts_nil : DTs X c W [] tYes fYes := ⟨pts_nil, fun z σ H F e Q I h => h H F (Ex.refl F) I⟩
theorem dts_one {a : Expr} (h : DT X c W a tt ft) : DTs X c W [a] tt ft := ⟨pts_one h.pt, h.sn⟩
abbrev Blk (X : Cx) (scope : Scope) (s : Shared) (H : Hp) (C : Addr) (cl : List (Str × Addr)) (fp : List Addr) : Cx := X.blk s H scope (compEnvC scope cl C X.env) fp
theorem de_lc {elt tg iter : Expr} {ifs : List Expr} {scope : Scope} {own : List (Str × Nat)} {pos : Pos} (hc : X.calm = true) (hN : X.N.Nodup) (hi : DI X c W tg iter wi fi) (ok : BlkOk X.N X.env.scope scope own)
    (hg : ∀ s H C cl fp, DGC (Blk X scope s H C cl fp) c (own.map (·.2)) tg g fg) (ht : ∀ s H C cl fp, DTs (Blk X scope s H C cl fp) c W0 ifs tt ft) (he : ∀ s H C cl fp, DE (Blk X scope s H C cl fp) c W0 elt te fe)
    (hs : ∀ x, foldedSetIterable iter X.env x = pure x := by intro _; rfl) : DE X c W (.ListComp elt [⟨tg, iter, ifs, 0⟩] scope pos) (tLc wi g tt te (own.map (·.2))) (fLc fi fg ft fe (own.map (·.2))) :=
  ⟨pe_lc hc hN hi.pi ok (fun s H C cl fp => (hg s H C cl fp).pg) (fun s H C cl fp => (ht s H C cl fp).pts) (fun s H C cl fp => (he s H C cl fp).pe) hs,
    sn_lc hi.sn (hg {} (fun _ => none) 0 [] []).sn (ht {} (fun _ => none) 0 [] []).sn (he {} (fun _ => none) 0 [] []).sn⟩
theorem ds_setLc {i : Nat} {y : Str} {py : Pos} {elt tg iter : Expr} {ifs : List Expr} {scope : Scope} {own : List (Str × Nat)} {pos spos : Pos} (hc : X.calm = true) (hN : X.N.Nodup) (hy : X.N[i]? = some y) (hyl : X.env.scope.names.lookup y = some .local)
    (hsw : swapsWith (.ListComp elt [⟨tg, iter, ifs, 0⟩] scope pos) (some (.Name y py)) spos.line X.env = pure true) (hi : DI X c W tg iter wi fi) (ok : BlkOk X.N X.env.scope scope own)
    (hg : ∀ s H C cl fp, DGC (Blk X scope s H C cl fp) c (own.map (·.2)) tg g fg) (ht : ∀ s H C cl fp, DTs (Blk X scope s H C cl fp) c W0 ifs tt ft) (he : ∀ s H C cl fp, DE (Blk X scope s H C cl fp) c W0 elt te fe)
    (hs : ∀ x, foldedSetIterable iter X.env x = pure x := by intro _; rfl) : DS X c W (.Assign [.Name y py] (.ListComp elt [⟨tg, iter, ifs, 0⟩] scope pos) spos) (tAsg (tLc wi g tt te (own.map (·.2))) (gName i)) (fSet i (fLc fi fg ft fe (own.map (·.2)))) :=
  ⟨ps_setLc hc hN hy hyl hsw hi.pi ok (fun s H C cl fp => (hg s H C cl fp).pg) (fun s H C cl fp => (ht s H C cl fp).pts) (fun s H C cl fp => (he s H C cl fp).pe) hs,
    sn_set (sn_lc hi.sn (hg {} (fun _ => none) 0 [] []).sn (ht {} (fun _ => none) 0 [] []).sn (he {} (fun _ => none) 0 [] []).sn)⟩
end
end DL

/-! DL, part g: defs as functions on data, their calls. -/
namespace DL
open PySem L2 Evl

/-- what a def hands back: its value, whether it is a new object, its arguments behind it -/
abbrev FnR := D × Bool × List B
abbrev Fn := List B → Res FnR
def ArgR (c : Ct) (F H : Hp) : B → V → Prop
  | .sh d, v => Rp c F d v
  | .br d, v => ∃ p, v = .ref p ∧ Own c F H d p
  | .ow _, _ => False
  | .ex _, _ => False
structure AR (c : Ct) (F H : Hp) (bs : List B) (vs : List V) : Prop where
  len : bs.length = vs.length
  get : ∀ (i : Nat) (b : B), bs[i]? = some b → ∃ v, vs[i]? = some v ∧ ArgR c F H b v
  dist : ∀ (i j : Nat) (p : Addr) (d d' : D), bs[i]? = some (.br d) → bs[j]? = some (.br d') → vs[i]? = some (.ref p) → vs[j]? = some (.ref p) → i = j
def BrAt (bs : List B) (vs : List V) (p : Addr) : Prop := ∃ (i : Nat) (d : D), bs[i]? = some (B.br d) ∧ vs[i]? = some (V.ref p)
structure Kp (H F H' F' : Hp) (Bo : Addr → Prop) : Prop where
  keep : ∀ p o, H p = some o → ¬ Bo p → H' p = some o
  nf : ∀ p, H p ≠ none → F p = none → F' p = none
  th : ∀ p, H p ≠ none → H' p ≠ none
def DR (c : Ct) (H F' H' : Hp) (d : D) (fr : Bool) (v : V) : Prop := match fr with
  | true => ∃ p, v = .ref p ∧ Own c F' H' d p ∧ H p = none
  | false => Rp c F' d v
/-- a def that does m on data -/
def spD (c : Ct) (n : Nat) (m : Fn) : Sp := fun vs H Q E => vs.length = n ∧ ∃ F bs, Ex F H ∧ AR c F H bs vs ∧
  Wp (m bs) (fun r => ∀ v H' F', Ex F F' → Ex F' H' → Kp H F H' F' (BrAt bs vs) → AR c F' H' r.2.2 vs → DR c H F' H' r.1 r.2.1 v → Q v H')
    (fun x _ => ∀ cls dd H' F', Ex F F' → Ex F' H' → Kp H F H' F' (BrAt bs vs) → XR c F' x cls dd → E cls dd H')

/-! ### from the body -/
def env0 (N : Nat) (bs : List B) : DEnv := bs.map some ++ List.replicate (N - bs.length) none
def outB : List B → DEnv → Option (List B)
  | [], _ => some []
  | b :: bs, e => match b with
    | .br _ => match e.head? with
      | some (some (.br d)) => (outB bs e.tail).map fun q => .br d :: q
      | _ => none
    | b => (outB bs e.tail).map fun q => b :: q
def fnRet (bs : List B) (t : T) (e : DEnv) : Option FnR := (outB bs e).bind fun q => match t with
  | .vl d => some (d, false, q)
  | .nw d => some (d, true, q)
  | .sl i => match e[i]? with
    | some (some (.sh d)) => some (d, false, q)
    | some (some (.ow d)) => some (d, true, q)
    | _ => none
def fFn (N : Nat) (body : FS) : Fn := fun bs => (body (env0 N bs)).bind fun o => Res.of (match o with
  | .nx e => fnRet bs (.vl .non) e
  | .rt t e => fnRet bs t e
  | _ => none)
section
variable {c : Ct} {z : Zs} {σ : L2.St} {H H' F F' G : Hp} {e : DEnv}
theorem outB_get : ∀ {bs : List B} {e : DEnv} {qs : List B}, outB bs e = some qs → qs.length = bs.length ∧ ∀ (i : Nat) (b : B), qs[i]? = some b → (∃ d0 d, bs[i]? = some (B.br d0) ∧ b = B.br d ∧ e[i]? = some (some (B.br d))) ∨ (bs[i]? = some b ∧ ∀ d, b ≠ B.br d)
  | [], e, qs, h => by cases h; exact ⟨rfl, fun i b h => by simp at h⟩
  | b0 :: bs, e, qs, h => by
    have tl : ∀ {i : Nat} {x : Option B}, e.tail[i]? = some x → e[i + 1]? = some x := fun {i x} h => by
      cases e with
      | nil => simp at h
      | cons y r => simpa using h
    cases b0 with
    | br d0 =>
      unfold outB at h
      dsimp only at h
      split at h
      · rename_i d hd
        obtain ⟨q, l1, rfl⟩ := omap h
        obtain ⟨l2, k⟩ := outB_get l1
        refine ⟨by rw [List.length_cons, List.length_cons, l2], fun i b hb => ?_⟩
        cases i with
        | zero =>
          simp at hb; subst hb
          refine .inl ⟨d0, d, rfl, rfl, ?_⟩
          cases e with
          | nil => simp at hd
          | cons y r => simpa using hd
        | succ i =>
          rcases k i b (by simpa using hb) with ⟨d1, d2, h1, h2, h3⟩ | ⟨h1, h2⟩
          · exact .inl ⟨d1, d2, by simpa using h1, h2, tl h3⟩
          · exact .inr ⟨by simpa using h1, h2⟩
      · cases h
    | sh d0 =>
      unfold outB at h
      dsimp only at h
      obtain ⟨q, l1, rfl⟩ := omap h
      obtain ⟨l2, k⟩ := outB_get l1
      refine ⟨by rw [List.length_cons, List.length_cons, l2], fun i b hb => ?_⟩
      cases i with
      | zero => simp at hb; subst hb; exact .inr ⟨rfl, fun d z => nomatch z⟩
      | succ i =>
        rcases k i b (by simpa using hb) with ⟨d1, d2, h1, h2, h3⟩ | ⟨h1, h2⟩
        · exact .inl ⟨d1, d2, by simpa using h1, h2, tl h3⟩
        · exact .inr ⟨by simpa using h1, h2⟩
    | ow d0 =>
      unfold outB at h
      dsimp only at h
      obtain ⟨q, l1, rfl⟩ := omap h
      obtain ⟨l2, k⟩ := outB_get l1
      refine ⟨by rw [List.length_cons, List.length_cons, l2], fun i b hb => ?_⟩
      cases i with
      | zero => simp at hb; subst hb; exact .inr ⟨rfl, fun d z => nomatch z⟩
      | succ i =>
        rcases k i b (by simpa using hb) with ⟨d1, d2, h1, h2, h3⟩ | ⟨h1, h2⟩
        · exact .inl ⟨d1, d2, by simpa using h1, h2, tl h3⟩
        · exact .inr ⟨by simpa using h1, h2⟩
    | ex d0 =>
      unfold outB at h
      dsimp only at h
      obtain ⟨q, l1, rfl⟩ := omap h
      obtain ⟨l2, k⟩ := outB_get l1
      refine ⟨by rw [List.length_cons, List.length_cons, l2], fun i b hb => ?_⟩
      cases i with
      | zero => simp at hb; subst hb; exact .inr ⟨rfl, fun d z => nomatch z⟩
      | succ i =>
        rcases k i b (by simpa using hb) with ⟨d1, d2, h1, h2, h3⟩ | ⟨h1, h2⟩
        · exact .inl ⟨d1, d2, by simpa using h1, h2, tl h3⟩
        · exact .inr ⟨by simpa using h1, h2⟩
def zOf (H F : Hp) (bs : List B) (vs : List V) : Zs := ⟨H, F, BrAt bs vs, fun i => (vs[i]?).getD .non⟩
theorem env0_get {N i : Nat} {bs : List B} {b : B} (h : (env0 N bs)[i]? = some (some b)) : bs[i]? = some b := by
  unfold env0 at h
  by_cases hi : i < bs.length
  · rw [List.getElem?_append_left (by simpa using hi), List.getElem?_map] at h
    obtain ⟨x, h1, h2⟩ := omap h
    cases h2
    exact h1
  · rw [List.getElem?_append_right (by simpa using hi)] at h
    rw [List.getElem?_replicate] at h
    split at h <;> cases h
theorem start_get {N : List Str} {vs : List V} {i : Nat} {v : V} (h : vs[i]? = some v) : (start N vs)[i]? = some (some v) := by
  unfold L2.start
  rw [List.getElem?_append_left (by simpa using get_lt h), List.getElem?_map, h]
  rfl
theorem start_get' {N : List Str} {vs : List V} {i : Nat} {v : V} (h : (start N vs)[i]? = some (some v)) : vs[i]? = some v := by
  unfold L2.start at h
  by_cases hi : i < vs.length
  · rw [List.getElem?_append_left (by simpa using hi), List.getElem?_map] at h
    obtain ⟨x, h1, h2⟩ := omap h
    cases h2
    exact h1
  · rw [List.getElem?_append_right (by simpa using hi)] at h
    rw [List.getElem?_replicate] at h
    split at h <;> cases h
theorem AR.start {N : List Str} {bs : List B} {vs : List V} (A : AR c F H bs vs) (x : Ex F H) : I2 c (zOf H F bs vs) (start N vs) H F (env0 N.length bs) := by
  refine ⟨?_, Ex.refl F, x, fun p o h _ => h, fun i b h => ?_, fun i j p ⟨b, h1, h2, h3⟩ ⟨b', h1', h2', h3'⟩ => ?_, fun p ⟨i, d, h1, h2⟩ => ?_, fun p _ h => h, fun i d v h hv => ?_⟩
  · unfold env0 L2.start
    simp [A.len]
  · have h1 := env0_get h
    obtain ⟨v, h2, r⟩ := A.get i b h1
    refine ⟨v, start_get h2, ?_⟩
    cases b with
    | sh d => exact r
    | ow d => exact r.elim
    | ex x => exact r.elim
    | br d => obtain ⟨p, rfl, o⟩ := r; exact ⟨p, rfl, o, i, d, h1, h2⟩
  · have g1 := env0_get h1
    have g2 := env0_get h1'
    have k1 := start_get' h3
    have k2 := start_get' h3'
    obtain ⟨v, _, r⟩ := A.get i b g1
    obtain ⟨v', _, r'⟩ := A.get j b' g2
    cases b with
    | sh d => cases h2
    | ow d => exact r.elim
    | ex x => cases h2
    | br d =>
      cases b' with
      | sh d => cases h2'
      | ow d => exact r'.elim
      | ex x => cases h2'
      | br d' => exact A.dist i j p d d' g1 g2 k1 k2
  · obtain ⟨v, h3, r⟩ := A.get i _ h1
    rw [h2] at h3; cases h3
    obtain ⟨q, e, o⟩ := r
    cases e
    exact o.at
  · have k1 := start_get' hv
    show (vs[i]?).getD .non = v
    rw [k1]; rfl
theorem I2.kp {bs : List B} {vs : List V} (J : I2 c (zOf H F bs vs) σ H' F' e) : Kp H F H' F' (BrAt bs vs) := ⟨fun p o h hb => J.keep p o h hb, fun p h1 h2 => J.nf p h1 h2, fun p h => J.h0 h⟩
theorem I2.outs {bs qs : List B} {vs : List V} (A : AR c F H bs vs) (J : I2 c (zOf H F bs vs) σ H' F' e) (h : outB bs e = some qs) : AR c F' H' qs vs := by
  obtain ⟨l, k⟩ := outB_get h
  refine ⟨l.trans A.len, fun i b hb => ?_, fun i j p d d' h1 h2 h3 h4 => ?_⟩
  · rcases k i b hb with ⟨d0, d, h1, rfl, h3⟩ | ⟨h1, h2⟩
    · obtain ⟨v, hv, r⟩ := J.slot i _ h3
      obtain ⟨p, rfl, o, _⟩ := r
      obtain ⟨v0, hv0, _⟩ := A.get i _ h1
      have e1 := J.brv i d _ h3 hv
      have e2 : (vs[i]?).getD .non = V.ref p := e1
      rw [hv0] at e2
      have e3 : v0 = V.ref p := e2
      subst e3
      exact ⟨_, hv0, p, rfl, o⟩
    · obtain ⟨v, hv, r⟩ := A.get i b h1
      refine ⟨v, hv, ?_⟩
      cases b with
      | sh d => exact Rp.mono J.f0 d v r
      | ow d => exact r.elim
      | ex x => exact r.elim
      | br d => exact (h2 d rfl).elim
  · rcases k i _ h1 with ⟨d0, _, g1, _, _⟩ | ⟨_, g⟩
    · rcases k j _ h2 with ⟨d1, _, g2, _, _⟩ | ⟨_, g⟩
      · exact A.dist i j p d0 d1 g1 g2 h3 h4
      · exact (g _ rfl).elim
    · exact (g _ rfl).elim
theorem I2.ret {bs : List B} {vs : List V} {t : T} {v : V} {r : FnR} (A : AR c F H bs vs) (J : I2 c (zOf H F bs vs) σ H' F' e) (ht : TR c (zOf H F bs vs) F' H' σ e t v) (h : fnRet bs t e = some r) :
    AR c F' H' r.2.2 vs ∧ DR c H F' H' r.1 r.2.1 v := by
  unfold fnRet at h
  obtain ⟨q, l1, h⟩ := obind h
  have a := J.outs A l1
  cases t with
  | vl d => cases h; exact ⟨a, ht⟩
  | nw d => cases h; obtain ⟨p, rfl, w, h0, _⟩ := ht; exact ⟨a, p, rfl, w, h0⟩
  | sl i =>
    have ht' : σ[i]? = some (some v) := ht
    dsimp only at h
    split at h
    · rename_i d hb
      obtain ⟨w, hw, k⟩ := J.slot i _ hb
      rw [ht'] at hw; cases hw; cases h
      exact ⟨a, k⟩
    · rename_i d hb
      obtain ⟨w, hw, p, rfl, o, h0⟩ := J.slot i _ hb
      rw [ht'] at hw; cases hw; cases h
      exact ⟨a, p, rfl, o, h0⟩
    · cases h
end
section
variable {P : Program} {w : World} {K : PySem.W.Frag} {mg : Str → Option Value} {base : Heap} {c : Ct}
/-- THE RULE of a def -/
theorem fn_ok {x qual : Str} {st : Stmt} {f : Addr} {fd : FuncData} {N ps : List Str} {k : Nat} {m : Fn} {body : FS} (F : Fun K x qual st f fd) (S : FnScope N ps (defScope st)) (hm : ∀ bs, bs.length = ps.length → fFn N.length body bs = m bs)
    (hb : ∀ (cdv : Value) (A : Around) (outer : List Env) (s : Shared) (H : Hp) (E : XK), Room k (A.deeper (PyProof.Rows.envOfC qual (defScope st) s.heap.objs.size f cdv)) →
      ∃ t, DSs (cxOf (CX P w) P w K mg base N qual (defScope st) f cdv A outer s H E) c (fun cls d _ H => E cls d H) (defBody st) t body) : FnOk P w K mg base (CX P w) (k + 1) f fd ps (spD c ps.length m) := by
  refine F.okX S (fun vs H Q E h => h.1) fun cdv A outer s H vs Q E hr h => ?_
  obtain ⟨t, dd⟩ := hb cdv A outer s H E hr
  refine ⟨t, dd.ps, ?_⟩
  obtain ⟨hl, FF, bs, x, a, h⟩ := h
  rw [← hm bs (a.len.trans hl)] at h
  unfold fFn at h
  rw [Wp.bind] at h
  refine dd.sn (zOf H FF bs vs) (start N vs) H FF _ _ (a.start x) (h.mono (fun o _ h => ?_) fun x e h σ' cls d H' F' x' J r => h cls d H' F' x' J.fh J.kp r)
  cases o with
  | nx e =>
    intro σ' H' F' x' J
    obtain ⟨r, l, h⟩ := Wp.of h
    obtain ⟨h1, h2⟩ := J.ret a (t := .vl .non) (v := .non) rfl l
    exact h .non H' F' x' J.fh J.kp h1 h2
  | rt t e =>
    intro v σ' H' F' x' J ht
    obtain ⟨r, l, h⟩ := Wp.of h
    obtain ⟨h1, h2⟩ := J.ret a ht l
    exact h v H' F' x' J.fh J.kp h1 h2
  | bk e => exact h.elim
  | ct e => exact h.elim
end
end DL

/-! DL, part h: calls. -/
namespace DL
open PySem L2 Evl

/-- arguments that are not lent are shared from here on -/
def escN : List Bool → List T → DEnv → Option (List T × DEnv)
  | _, [], e => some ([], e)
  | ms, t :: ts, e => match ms.headD false with
    | true => (escN ms.tail ts e).map fun q => (t :: q.1, q.2)
    | false => (escape t e).bind fun r => (escN ms.tail ts r.2).map fun q => (.vl r.1 :: q.1, q.2)
def argB (t : T) (e : DEnv) : Option B := match t with
  | .vl d => some (.sh d)
  | .nw _ => none
  | .sl i => match e[i]? with
    | some (some (.sh d)) => some (.sh d)
    | some (some (.ow d)) => some (.br d)
    | some (some (.br d)) => some (.br d)
    | _ => none
def argBs : List T → DEnv → Option (List B)
  | [], _ => some []
  | t :: ts, e => (argB t e).bind fun b => (argBs ts e).map fun bs => b :: bs
def isSl (i : Nat) : T → Bool
  | .sl j => i == j
  | _ => false
def nodupT : List T → Bool
  | [] => true
  | t :: ts => (match t with
    | .sl i => !ts.any (isSl i)
    | _ => true) && nodupT ts
/-- the lent names and what they hold behind the call -/
def upds : List T → List B → List (Nat × D)
  | [], _ => []
  | _, [] => []
  | t :: ts, b :: bs => match t, b with
    | .sl j, .br d => (j, d) :: upds ts bs
    | _, _ => upds ts bs
def isBr : B → Bool
  | .br _ => true
  | _ => false
def sameB (bs qs : List B) : Bool := bs.map isBr == qs.map isBr
def putAll (l : List (Nat × D)) : Nat → DEnv → DEnv
  | _, [] => []
  | k, x :: r => (match l.lookup k with
    | some d => x.map fun b => b.re d
    | none => x) :: putAll l (k + 1) r
def dropAll (l : List (Nat × D)) : Nat → DEnv → DEnv
  | _, [] => []
  | k, x :: r => (match l.lookup k with
    | some _ => none
    | none => x) :: dropAll l (k + 1) r
def callM (dds : List D) (m : Fn) (ts : List T) (e : DEnv) : Res (T × DEnv) :=
  (Res.of (argBs ts e)).bind fun bs => if nodupT ts then (match m (bs ++ dds.map .sh) with
    | .stuck => .stuck
    | .ok r => if sameB (bs ++ dds.map .sh) r.2.2 then .ok (if r.2.1 then .nw r.1 else .vl r.1, putAll (upds ts r.2.2) 0 e) else .stuck
    | .exc x _ => .exc x (dropAll (upds ts bs) 0 e)) else .stuck
def fCall (ms : List Bool) (dds : List D) (m : Fn) (fa : FA) : FE := fun e => (fa e).bind fun r => (Res.of (escN ms r.1 r.2)).bind fun q => callM dds m q.1 q.2

section
variable {c : Ct} {z : Zs} {W : WX} {σ : L2.St} {H H' F F' G : Hp} {e : DEnv} {ta : TA} {fa : FA}
theorem TRs.escN : ∀ {ts ts' : List T} {ms : List Bool} {vs : List V} {F : Hp} {e e' : DEnv}, I2 c z σ H F e → TRs c z F H σ e ts vs → DL.escN ms ts e = some (ts', e') → ∃ G, Ex F G ∧ I2 c z σ H G e' ∧ TRs c z G H σ e' ts' vs
  | [], ts', ms, vs, F, e, e', I, h, l => by
    unfold DL.escN at l
    cases l
    exact ⟨F, Ex.refl F, I, h⟩
  | t :: ts, ts', ms, vs, F, e, e', I, h, l => by
    obtain ⟨v, r, rfl, h1, h2, h3⟩ := h
    unfold DL.escN at l
    split at l
    · obtain ⟨⟨q, e2⟩, l1, eq1⟩ := omap l
      cases eq1
      obtain ⟨G, x, J, k⟩ := TRs.escN I h3 l1
      refine ⟨G, x, J, v, r, rfl, h1, ?_, k⟩
      rw [← h1] at h2 ⊢
      exact h2.keep x
    · obtain ⟨⟨d, e1⟩, l1, l⟩ := obind l
      obtain ⟨⟨q, e2⟩, l2, eq2⟩ := omap l
      cases eq2
      obtain ⟨G, x, J, rr⟩ := h2.escape I l1
      obtain ⟨G2, x2, J2, k⟩ := TRs.escN J (h3.keep x) l2
      exact ⟨G2, x.trans x2, J2, v, r, rfl, rfl, rr.mono x2 d v, k⟩
theorem argBs_get : ∀ {ts : List T} {bs : List B}, argBs ts e = some bs → ts.length = bs.length ∧ ∀ (i : Nat) (b : B), bs[i]? = some b → ∃ t, ts[i]? = some t ∧ argB t e = some b
  | [], bs, h => by cases h; exact ⟨rfl, fun i b h => by simp at h⟩
  | t :: ts, bs, h => by
    obtain ⟨b, l1, h⟩ := obind h
    obtain ⟨r, l2, rfl⟩ := omap h
    obtain ⟨l, k⟩ := argBs_get l2
    refine ⟨by simp [l], fun i b' hb => ?_⟩
    cases i with
    | zero => simp at hb; subst hb; exact ⟨t, rfl, l1⟩
    | succ i =>
      obtain ⟨t', h1, h2⟩ := k i b' (by simpa using hb)
      exact ⟨t', by simpa using h1, h2⟩
theorem TRs.get : ∀ {ts : List T} {vs : List V} {i : Nat} {t : T}, TRs c z F H σ e ts vs → ts[i]? = some t → ∃ v, vs[i]? = some v ∧ TR c z F H σ e t v
  | [], vs, i, t, h, g => by simp at g
  | t0 :: ts, vs, i, t, ⟨v, r, h1, h2, h3, h4⟩, g => by
    subst h1
    cases i with
    | zero => simp at g; subst g; exact ⟨v, rfl, h3⟩
    | succ i =>
      obtain ⟨w, h5, h6⟩ := TRs.get (i := i) h4 (by simpa using g)
      exact ⟨w, by simpa using h5, h6⟩
theorem nodupT_ix : ∀ {ts : List T} {i j s : Nat}, nodupT ts = true → ts[i]? = some (.sl s) → ts[j]? = some (.sl s) → i = j
  | [], i, j, s, h, g, _ => by simp at g
  | t :: ts, i, j, s, h, g1, g2 => by
    unfold nodupT at h
    obtain ⟨h1, h2⟩ := Bool.and_eq_true_iff.mp h
    have no : ∀ {k : Nat}, t = .sl s → ts[k]? = some (.sl s) → False := fun {k} e hk => by
      subst e
      have : ts.any (isSl s) = true := List.any_eq_true.mpr ⟨_, List.mem_of_getElem? hk, by simp [isSl]⟩
      have h1' : (!ts.any (isSl s)) = true := h1
      rw [this] at h1'; cases h1'
    cases i with
    | zero =>
      cases j with
      | zero => rfl
      | succ j => simp at g1 g2; exact (no g1 g2).elim
    | succ i =>
      cases j with
      | zero => simp at g1 g2; exact (no g2 g1).elim
      | succ j => exact congrArg (· + 1) (nodupT_ix (ts := ts) (i := i) (j := j) (s := s) h2 (by simpa using g1) (by simpa using g2))
/-- a lent argument: its token is a name's, which owns it -/
theorem argB_br {t : T} {d : D} (h : argB t e = some (.br d)) : ∃ j b, t = .sl j ∧ e[j]? = some (some b) ∧ b.isRoot = true ∧ b.d = d := by
  cases t with
  | vl d => cases h
  | nw d => cases h
  | sl j =>
    unfold argB at h
    dsimp only at h
    split at h <;> cases h
    · rename_i hb; exact ⟨j, _, rfl, hb, rfl, rfl⟩
    · rename_i hb; exact ⟨j, _, rfl, hb, rfl, rfl⟩
theorem argB_sh {t : T} {d : D} (h : argB t e = some (.sh d)) : t = .vl d ∨ ∃ j, t = .sl j ∧ e[j]? = some (some (.sh d)) := by
  cases t with
  | vl d => cases h; exact .inl rfl
  | nw d => cases h
  | sl j =>
    unfold argB at h
    dsimp only at h
    split at h <;> cases h
    rename_i hb; exact .inr ⟨j, rfl, hb⟩
theorem argB_ow {t : T} {d : D} (h : argB t e = some (.ow d)) : False := by
  cases t with
  | vl d => cases h
  | nw d => cases h
  | sl j =>
    unfold argB at h
    dsimp only at h
    split at h <;> cases h
theorem argB_ex {t : T} {x : XV} {e : DEnv} (h : argB t e = some (.ex x)) : False := by
  cases t with
  | vl d => cases h
  | nw d => cases h
  | sl j =>
    unfold argB at h
    dsimp only at h
    split at h <;> cases h
theorem args_ar {ts : List T} {bs : List B} {vs dvs : List V} {dds : List D} (I : I2 c z σ H F e) (h : TRs c z F H σ e ts vs) (l : argBs ts e = some bs) (nd : nodupT ts = true) (hd : RpL c F dds dvs) : AR c F H (bs ++ dds.map .sh) (vs ++ dvs) := by
  obtain ⟨ll, k⟩ := argBs_get l
  have lv : bs.length = vs.length := ll.symm.trans h.len
  have brs : ∀ {i : Nat} {d : D}, (bs ++ dds.map .sh)[i]? = some (.br d) → bs[i]? = some (.br d) := fun {i d} g => by
    by_cases hi : i < bs.length
    · rwa [List.getElem?_append_left hi] at g
    · rw [List.getElem?_append_right (by omega), List.getElem?_map] at g
      obtain ⟨x, _, q⟩ := omap g
      cases q
  refine ⟨by simp [lv, hd.len], fun i b g => ?_, fun i j p d d' g1 g2 g3 g4 => ?_⟩
  · by_cases hi : i < bs.length
    · rw [List.getElem?_append_left hi] at g
      obtain ⟨t, h1, h2⟩ := k i b g
      obtain ⟨v, h3, h4⟩ := h.get h1
      refine ⟨v, by rw [List.getElem?_append_left (by omega)]; exact h3, ?_⟩
      cases b with
      | sh d =>
        rcases argB_sh h2 with rfl | ⟨j, rfl, h5⟩
        · exact h4
        · obtain ⟨w, h6, r⟩ := I.slot j _ h5
          have h4' : σ[j]? = some (some v) := h4
          rw [h4'] at h6; cases h6
          exact r
      | ow d => exact (argB_ow h2).elim
      | ex x => exact (argB_ex h2).elim
      | br d =>
        obtain ⟨j, b0, rfl, h5, h6, rfl⟩ := argB_br h2
        obtain ⟨p, h7, o, _⟩ := I.own h5 h6
        have h4' : σ[j]? = some (some v) := h4
        rw [h4'] at h7; cases h7
        exact ⟨p, rfl, o⟩
    · rw [List.getElem?_append_right (by omega), List.getElem?_map] at g
      obtain ⟨d, h1, rfl⟩ := omap g
      obtain ⟨v, h2, r⟩ := hd.get h1
      exact ⟨v, by rw [List.getElem?_append_right (by omega), ← lv]; exact h2, r⟩
  · have k1 := brs g1
    have k2 := brs g2
    obtain ⟨t1, h1, h2⟩ := k i _ k1
    obtain ⟨t2, h3, h4⟩ := k j _ k2
    obtain ⟨s1, b1, rfl, h5, h6, _⟩ := argB_br h2
    obtain ⟨s2, b2, rfl, h7, h8, _⟩ := argB_br h4
    obtain ⟨v1, q1, r1⟩ := h.get h1
    obtain ⟨v2, q2, r2⟩ := h.get h3
    rw [List.getElem?_append_left (by have := get_lt q1; omega), q1] at g3
    rw [List.getElem?_append_left (by have := get_lt q2; omega), q2] at g4
    cases g3; cases g4
    have e12 := I.dist s1 s2 p ⟨b1, h5, h6, r1⟩ ⟨b2, h7, h8, r2⟩
    subst e12
    exact nodupT_ix nd h1 h3
theorem upds_mem : ∀ {ts : List T} {qs : List B} {j : Nat} {d : D}, (j, d) ∈ upds ts qs → ∃ (i : Nat), ts[i]? = some (T.sl j) ∧ qs[i]? = some (B.br d)
  | [], _, _, _, h => by simp [upds] at h
  | _ :: _, [], _, _, h => by simp [upds] at h
  | t :: ts, b :: qs, j, d, h => by
    unfold upds at h
    split at h
    · rcases List.mem_cons.mp h with h | h
      · cases h; exact ⟨0, rfl, rfl⟩
      · obtain ⟨i, h1, h2⟩ := upds_mem h
        exact ⟨i + 1, by simpa using h1, by simpa using h2⟩
    · obtain ⟨i, h1, h2⟩ := upds_mem h
      exact ⟨i + 1, by simpa using h1, by simpa using h2⟩
theorem mem_upds : ∀ {ts : List T} {qs : List B} {i j : Nat} {d : D}, ts[i]? = some (T.sl j) → qs[i]? = some (B.br d) → (j, d) ∈ upds ts qs
  | [], _, _, _, _, h, _ => by simp at h
  | _ :: _, [], _, _, _, _, h => by simp at h
  | t :: ts, b :: qs, 0, j, d, h, h' => by
    simp at h h'
    subst h; subst h'
    unfold upds
    exact List.mem_cons_self
  | t :: ts, b :: qs, i + 1, j, d, h, h' => by
    have r := mem_upds (ts := ts) (qs := qs) (i := i) (j := j) (d := d) (by simpa using h) (by simpa using h')
    unfold upds
    split
    · exact List.mem_cons_of_mem _ r
    · exact r
theorem lookup_mem' : ∀ {l : List (Nat × D)} {k : Nat} {d : D}, l.lookup k = some d → (k, d) ∈ l
  | [], _, _, h => by cases h
  | (a, x) :: l, k, d, h => by
    rw [List.lookup_cons] at h
    cases q : k == a with
    | true => rw [q] at h; cases h; rw [beq_iff_eq.mp q]; exact List.mem_cons_self
    | false => rw [q] at h; exact List.mem_cons_of_mem _ (lookup_mem' h)
theorem lookup_none' : ∀ {l : List (Nat × D)} {k : Nat}, l.lookup k = none → ∀ d, (k, d) ∉ l
  | [], _, _, _ => by simp
  | (a, x) :: l, k, h, d => by
    rw [List.lookup_cons] at h
    cases q : k == a with
    | true => rw [q] at h; cases h
    | false =>
      rw [q] at h
      intro hm
      rcases List.mem_cons.mp hm with hm | hm
      · cases hm; simp at q
      · exact lookup_none' h d hm
theorem putAll_len (l : List (Nat × D)) : ∀ (k : Nat) (e : DEnv), (putAll l k e).length = e.length
  | _, [] => rfl
  | k, x :: r => by unfold putAll; rw [List.length_cons, List.length_cons, putAll_len l (k + 1) r]
theorem putAll_get (l : List (Nat × D)) : ∀ (k : Nat) (e : DEnv) (j : Nat), (putAll l k e)[j]? = (e[j]?).map fun x => match l.lookup (k + j) with
    | some d => x.map fun b => b.re d
    | none => x
  | _, [], j => by simp [putAll]
  | k, x :: r, 0 => by simp [putAll]
  | k, x :: r, j + 1 => by
    unfold putAll
    rw [List.getElem?_cons_succ, List.getElem?_cons_succ, putAll_get l (k + 1) r j, show k + 1 + j = k + (j + 1) by omega]
theorem dropAll_len (l : List (Nat × D)) : ∀ (k : Nat) (e : DEnv), (dropAll l k e).length = e.length
  | _, [] => rfl
  | k, x :: r => by unfold dropAll; rw [List.length_cons, List.length_cons, dropAll_len l (k + 1) r]
theorem dropAll_get (l : List (Nat × D)) : ∀ (k : Nat) (e : DEnv) (j : Nat), (dropAll l k e)[j]? = (e[j]?).map fun x => match l.lookup (k + j) with
    | some d => none
    | none => x
  | _, [], j => by simp [dropAll]
  | k, x :: r, 0 => by simp [dropAll]
  | k, x :: r, j + 1 => by
    unfold dropAll
    rw [List.getElem?_cons_succ, List.getElem?_cons_succ, dropAll_get l (k + 1) r j, show k + 1 + j = k + (j + 1) by omega]
theorem sameB_get {bs qs : List B} (h : sameB bs qs = true) {i : Nat} {d : D} (g : bs[i]? = some (.br d)) : ∃ d', qs[i]? = some (.br d') := by
  have e : bs.map isBr = qs.map isBr := eq_of_beq h
  have h1 : (bs.map isBr)[i]? = some true := by rw [List.getElem?_map, g]; rfl
  rw [e, List.getElem?_map] at h1
  obtain ⟨b, h2, h3⟩ := omap h1
  cases b <;> cases h3
  exact ⟨_, h2⟩
theorem sameB_get' {bs qs : List B} (h : sameB bs qs = true) {i : Nat} {d : D} (g : qs[i]? = some (.br d)) : ∃ d', bs[i]? = some (.br d') := by
  have e : bs.map isBr = qs.map isBr := eq_of_beq h
  have h1 : (qs.map isBr)[i]? = some true := by rw [List.getElem?_map, g]; rfl
  rw [← e, List.getElem?_map] at h1
  obtain ⟨b, h2, h3⟩ := omap h1
  cases b <;> cases h3
  exact ⟨_, h2⟩
/-- the caller's frame behind the call -/
theorem I2.called {ts : List T} {bs qs : List B} {vs dvs : List V} {dds : List D} (I : I2 c z σ H F e) (h : TRs c z F H σ e ts vs) (l : argBs ts e = some bs) (nd : nodupT ts = true)
    (x : Ex F F') (y : Ex F' H') (kp : Kp H F H' F' (BrAt (bs ++ dds.map .sh) (vs ++ dvs))) (a : AR c F' H' qs (vs ++ dvs)) (sm : sameB (bs ++ dds.map .sh) qs = true) : I2 c z σ H' F' (putAll (upds ts qs) 0 e) := by
  obtain ⟨ll, k⟩ := argBs_get l
  have lv : bs.length = vs.length := ll.symm.trans h.len
  have brs : ∀ {i : Nat} {d : D}, (bs ++ dds.map .sh)[i]? = some (.br d) → bs[i]? = some (.br d) := fun {i d} g => by
    by_cases hi : i < bs.length
    · rwa [List.getElem?_append_left hi] at g
    · rw [List.getElem?_append_right (by omega), List.getElem?_map] at g
      obtain ⟨x, _, q⟩ := omap g
      cases q
  -- a lent place: its token and the name that owns it
  have lent : ∀ {i : Nat} {d : D}, bs[i]? = some (.br d) → ∃ j b0 p, ts[i]? = some (.sl j) ∧ e[j]? = some (some b0) ∧ b0.isRoot = true ∧ vs[i]? = some (.ref p) ∧ σ[j]? = some (some (.ref p)) := fun {i d} g => by
    obtain ⟨t, h1, h2⟩ := k i _ g
    obtain ⟨j, b0, rfl, h5, h6, _⟩ := argB_br h2
    obtain ⟨v, q1, r1⟩ := h.get h1
    obtain ⟨p, h7, _⟩ := I.own h5 h6
    have r1' : σ[j]? = some (some v) := r1
    rw [r1'] at h7; cases h7
    exact ⟨j, b0, p, h1, h5, h6, q1, r1⟩
  refine I.change (L := (upds ts qs).map (·.1)) (putAll_len _ _ _) x y (fun p o h1 h2 => kp.keep p o h1 fun ⟨i, d, g1, g2⟩ => ?_) kp.th kp.nf fun j b hb => ?_
  · obtain ⟨j, b0, p', t1, t2, t3, t4, t5⟩ := lent (brs g1)
    rw [List.getElem?_append_left (by have := get_lt t4; omega), t4] at g2
    cases g2
    obtain ⟨d', g3⟩ := sameB_get sm g1
    exact h2 j (List.mem_map.mpr ⟨(j, d'), mem_upds t1 g3, rfl⟩) ⟨b0, t2, t3, t5⟩
  · rw [putAll_get] at hb
    obtain ⟨xo, h1, h2⟩ := omap hb
    rw [Nat.zero_add] at h2
    cases hl : (upds ts qs).lookup j with
    | none =>
      rw [hl] at h2
      have h2' : xo = some b := h2
      subst h2'
      exact ⟨b, h1, .inl ⟨rfl, fun _ hm => by
        obtain ⟨⟨j', d⟩, m1, m2⟩ := List.mem_map.mp hm
        have m2' : j' = j := m2
        subst m2'
        exact lookup_none' hl d m1⟩⟩
    | some d =>
      rw [hl] at h2
      obtain ⟨i, g1, g2⟩ := upds_mem (lookup_mem' hl)
      obtain ⟨d0, g3⟩ := sameB_get' sm g2
      obtain ⟨j', b0, p, t1, t2, t3, t4, t5⟩ := lent (brs g3)
      rw [g1] at t1; cases t1
      rw [t2] at h1; cases h1
      have h2' : some (b0.re d) = some b := h2
      cases h2'
      obtain ⟨v, a1, a2⟩ := a.get i _ g2
      rw [List.getElem?_append_left (by have := get_lt t4; omega), t4] at a1
      cases a1
      obtain ⟨p', ep, o⟩ := a2
      cases ep
      exact ⟨b0, t2, .inr ⟨t3, d, p, rfl, t5, o⟩⟩
theorem I2.thrown {ts : List T} {bs : List B} {vs dvs : List V} {dds : List D} (I : I2 c z σ H F e) (h : TRs c z F H σ e ts vs) (l : argBs ts e = some bs)
    (x : Ex F F') (y : Ex F' H') (kp : Kp H F H' F' (BrAt (bs ++ dds.map .sh) (vs ++ dvs))) : I2 c z σ H' F' (dropAll (upds ts bs) 0 e) := by
  obtain ⟨ll, k⟩ := argBs_get l
  have lv : bs.length = vs.length := ll.symm.trans h.len
  have brs : ∀ {i : Nat} {d : D}, (bs ++ dds.map .sh)[i]? = some (.br d) → bs[i]? = some (.br d) := fun {i d} g => by
    by_cases hi : i < bs.length
    · rwa [List.getElem?_append_left hi] at g
    · rw [List.getElem?_append_right (by omega), List.getElem?_map] at g
      obtain ⟨x, _, q⟩ := omap g
      cases q
  refine I.change (L := (upds ts bs).map (·.1)) (dropAll_len _ _ _) x y (fun p o h1 h2 => kp.keep p o h1 fun ⟨i, d, g1, g2⟩ => ?_) kp.th kp.nf fun j b hb => ?_
  · have g3 := brs g1
    obtain ⟨t, h3, h4⟩ := k i _ g3
    obtain ⟨j, b0, rfl, h5, h6, _⟩ := argB_br h4
    obtain ⟨v, q1, r1⟩ := h.get h3
    rw [List.getElem?_append_left (by have := get_lt q1; omega), q1] at g2
    cases g2
    exact h2 j (List.mem_map.mpr ⟨(j, d), mem_upds h3 g3, rfl⟩) ⟨b0, h5, h6, r1⟩
  · rw [dropAll_get] at hb
    obtain ⟨xo, h1, h2⟩ := omap hb
    rw [Nat.zero_add] at h2
    cases hl : (upds ts bs).lookup j with
    | none =>
      rw [hl] at h2
      have h2' : xo = some b := h2
      subst h2'
      exact ⟨b, h1, .inl ⟨rfl, fun _ hm => by
        obtain ⟨⟨j', d⟩, m1, m2⟩ := List.mem_map.mp hm
        have m2' : j' = j := m2
        subst m2'
        exact lookup_none' hl d m1⟩⟩
    | some d =>
      rw [hl] at h2
      cases h2
/-- a call by its promise, its arguments' tokens at hand -/
theorem sp_call {n : Nat} {m : Fn} {ts : List T} {vs dvs : List V} {dds : List D} {Q : VK} (I : I2 c z σ H F e) (h : TRs c z F H σ e ts vs) (hn : (vs ++ dvs).length = n) (hd : RpL c F dds dvs)
    (k : Wp (callM dds m ts e) (fun r => ∀ v H' F', Ex F F' → I2 c z σ H' F' r.2 → TR c z F' H' σ r.2 r.1 v → Q v H') (Xp c z W σ F)) : spD c n m (vs ++ dvs) H Q (WE W σ) := by
  unfold callM at k
  rw [Wp.bind] at k
  obtain ⟨bs, l, k⟩ := Wp.of k
  split at k
  · rename_i nd
    refine ⟨hn, F, bs ++ dds.map .sh, I.fh, args_ar I h l nd hd, ?_⟩
    cases hm : m (bs ++ dds.map .sh) with
    | stuck => rw [hm] at k; exact k.elim
    | ok r =>
      rw [hm] at k
      obtain ⟨d, fr, qs⟩ := r
      dsimp only at k
      split at k
      · rename_i sm
        intro v H' F' x y kp a dr
        have J := I.called h l nd x y kp a sm
        refine k v H' F' x J ?_
        cases fr with
        | false => exact dr
        | true =>
          obtain ⟨p, rfl, o, hp⟩ := dr
          refine ⟨p, rfl, o, I.fresh0 hp, fun i ⟨b, h1, h2, h3⟩ => ?_⟩
          rw [putAll_get] at h1
          obtain ⟨xo, h4, h5⟩ := omap h1
          have : ∃ b0, xo = some b0 ∧ b0.isRoot = true := by
            cases hl : (upds ts qs).lookup (0 + i) with
            | none => rw [hl] at h5; exact ⟨b, h5, h2⟩
            | some d' =>
              rw [hl] at h5
              obtain ⟨b0, e1, e2⟩ := omap (show xo.map (fun b => b.re d') = some b from h5)
              exact ⟨b0, e1, by rw [← e2, B.re_root] at h2; exact h2⟩
          obtain ⟨b0, rfl, h6⟩ := this
          exact I.noroot hp i ⟨b0, h4, h6, h3⟩
      · exact k.elim
    | exc x e' =>
      rw [hm] at k
      intro cls dd H' F' x' y kp r
      exact k cls dd H' F' x' (I.thrown h l x' y kp) r
  · exact k.elim
theorem sn_call {n : Nat} {ms : List Bool} {m : Fn} {dvs : List V} {dds : List D} (hn : ∀ vs, (∃ e r, fa e = .ok r ∧ r.1.length = vs.length) → (vs ++ dvs).length = n) (hd : ∀ F, RpL c F dds dvs) (ha : SndA c W ta fa) :
    SndE c W (tCallSD (spD c n m) dvs (WE W) ta) (fCall ms dds m fa) := fun z σ H F e Q I h => by
  unfold fCall at h
  rw [Wp.bind] at h
  refine ha z σ H F e _ I (h.mono (fun r hr h vs H1 F1 x1 I1 t1 => ?_) fun _ _ h => h)
  rw [Wp.bind] at h
  obtain ⟨⟨ts, e2⟩, l, h⟩ := Wp.of h
  obtain ⟨G, x2, J, t2⟩ := t1.escN I1 l
  exact sp_call J t2 (hn vs ⟨e, r, hr, t1.len⟩) (hd G) (h.mono (fun r _ h v H' F' x' I' t' => h v H' F' ((x1.trans x2).trans x') I' t') fun _ _ h => h.mono (x1.trans x2))
end
end DL

/-! DL, part i: rules of calls, fields, methods, properties, new instances. -/
namespace DL
open PySem L2 Evl

def LenA (fa : FA) (k : Nat) : Prop := ∀ e r, fa e = .ok r → r.1.length = k
theorem lenA0 : LenA fA0 0 := fun e r h => by cases h; rfl
theorem lenA1 {fa : FE} {fr : FA} {k : Nat} (h : LenA fr k) : LenA (fA1 fa fr) (k + 1) := fun e r hr => by
  unfold fA1 at hr
  cases h1 : fa e with
  | stuck => rw [h1] at hr; cases hr
  | exc x e' => rw [h1] at hr; cases hr
  | ok q =>
    rw [h1] at hr
    cases h2 : fr q.2 with
    | stuck => simp only [Res.bind, h2] at hr; cases hr
    | exc x e' => simp only [Res.bind, h2] at hr; cases hr
    | ok q2 =>
      simp only [Res.bind, h2] at hr
      cases hr
      simp [h q.2 q2 h2]

section
variable {X : Cx} {c : Ct} {W : WX} {k n j : Nat} {f C : Addr} {fd : FuncData} {ps : List Str} {m : Fn} {x y : Str} {p pos apos : Pos} {a o : Expr} {es : List Expr} {ta to : TE} {tr : TA} {fa fo : FE} {fr : FA} {dvs : List V} {ds : List Value} {dds : List D} {ms : List Bool} {sp : Sp}
/-- f(a, ..) -/
theorem de_call (tk : Takes X W) (F : FnOk X.prog X.w X.K X.mg X.base (CX X.prog X.w) k f fd ps (spD c n m)) (hr : Room k X.A) (hg : Gl X x) (hm : X.mg x = some (.ref f)) (hk : PySem.W.keepIn X.K (.ref f) = true) (hb : Binds X.K fd ps ds) (hd : Vals dvs ds) (hdd : ∀ F, RpL c F dds dvs)
    (hlen : LenA fr j) (hn : j + dvs.length = n) (ha : DA X c W (a :: es) tr fr) (hdb : (x == ("__debug__" : Str)) = false := by decide) (he : starEach (a :: es) X.env = (false, eval a X.env) :: starEach es X.env := by rfl) (hpl : (backTo pos (starEach es X.env)).any (·.1) = false := by rfl) :
    DE X c W (.Call (.Name x p) (a :: es) [] pos) (tCallSD (spD c n m) dvs (WE W) tr) (fCall ms dds m fr) :=
  ⟨pe_callSD F hr hg hm hk hb hd (fun σ => passAt tk σ) ha.pa hdb he hpl, sn_call (fun vs ⟨e, r, h1, h2⟩ => by rw [List.length_append, ← h2, hlen e r h1]; exact hn) hdd ha.sn⟩
theorem de_call0 (tk : Takes X W) (F : FnOk X.prog X.w X.K X.mg X.base (CX X.prog X.w) k f fd ps (spD c n m)) (hr : Room k X.A) (hg : Gl X x) (hm : X.mg x = some (.ref f)) (hk : PySem.W.keepIn X.K (.ref f) = true) (hb : Binds X.K fd ps ds) (hd : Vals dvs ds) (hdd : ∀ F, RpL c F dds dvs)
    (hn : dvs.length = n) (hdb : (x == ("__debug__" : Str)) = false := by decide) : DE X c W (.Call (.Name x p) [] [] pos) (tCallSD (spD c n m) dvs (WE W) tNil) (fCall ms dds m fA0) := by
  refine ⟨⟨fun pins s σ H Q I h => ?_⟩, sn_call (fun vs ⟨e, r, h1, h2⟩ => by rw [List.length_append, ← h2, lenA0 e r h1, Nat.zero_add]; exact hn) hdd (da_nil (X := X)).sn⟩
  refine wpAny_Call_Name_kw (ld_glob I hg hm ?_ hdb)
  exact PySem.W.callWith_K0 I.kIn hk (run_fnSD (us := []) F hr hb hd (passAt tk σ) I .nil h)

/-! ### fields -/
def fldOf (ns : List Str) (f : Str) (ds : List D) : Option D := (ns.zip ds).lookup f
theorem zip_look {F : Hp} : ∀ {ns : List Str} {ds : List D} {vs : List V} {d : D}, RpL c F ds vs → (ns.zip ds).lookup x = some d → ∃ v, (ns.zip vs).lookup x = some v ∧ Rp c F d v
  | [], _, _, _, _, h => by simp at h
  | _ :: _, [], _, _, _, h => by simp at h
  | n0 :: ns, d0 :: ds, vs, d, ⟨v, r, e, h1, h2⟩, h => by
    subst e
    rw [List.zip_cons_cons, List.lookup_cons] at h
    rw [List.zip_cons_cons, List.lookup_cons]
    cases q : x == n0 with
    | true => rw [q] at h; cases h; exact ⟨v, rfl, h1⟩
    | false => rw [q] at h; exact zip_look h2 h
def fFld (ns : List Str) (k : Nat) (f : Str) (fo : FE) : FE := fun e => (fo e).bind fun r => Res.of ((lookT r.1 r.2).bind fun d => match d with
  | .ins k' ds => if k' = k then (fldOf ns f ds).map fun d => (.vl d, r.2) else none
  | _ => none)
theorem sn_fld {i : Nat} (cl : Cls c.K (c.cl i)) (na : NoAttr c.K (c.cl i) x) (ho : SndE c W to fo) : SndE c W (tFld c.K to x) (fFld (c.fn i) i x fo) := fun z σ H F e Q I h => by
  unfold fFld at h
  rw [Wp.bind] at h
  refine ho z σ H F e _ I (h.mono (fun r _ h v H1 F1 x1 I1 t1 => ?_) fun _ _ h => h)
  obtain ⟨q, ea, h⟩ := Wp.of h
  obtain ⟨d, l1, ea⟩ := obind ea
  cases d <;> try cases ea
  rename_i k' ds
  dsimp only at ea
  split at ea
  · rename_i ek
    subst ek
    obtain ⟨d, l2, rfl⟩ := omap ea
    obtain ⟨p, dx, vs, rfl, h2, r2⟩ := (t1.view I1 l1).ins I1.fh
    obtain ⟨v, h3, r3⟩ := zip_look r2 l2
    exact ⟨p, _, dx, _, v, rfl, h2, cl, na, h3, h _ H1 F1 x1 I1 r3⟩
  · cases ea
theorem de_fld {i : Nat} (hK : X.K = c.K) (cl : Cls c.K (c.cl i)) (na : NoAttr c.K (c.cl i) x) (ho : DE X c W o to fo) (hb : attributeBase o x X.env (eval o X.env) = eval o X.env := by rfl) : DE X c W (.Attribute o x pos) (tFld c.K to x) (fFld (c.fn i) i x fo) := ⟨hK ▸ pe_fld ho.pe hb, sn_fld cl na ho.sn⟩
/-- self.f = e -/
def putD (ns : List Str) (f : Str) (d : D) (ds : List D) : Option (List D) := match ns.idxOf? f with
  | some i => if i < ds.length then some (ds.set i d) else if i = ds.length then some (ds ++ [d]) else none
  | none => none
theorem putF_zip {f : Str} {y : V} : ∀ {ns : List Str} {vs : List V} {i : Nat}, ns.idxOf? f = some i → i ≤ vs.length → putF f y (ns.zip vs) = ns.zip (if i < vs.length then vs.set i y else vs ++ [y])
  | [], _, _, h, _ => by simp at h
  | n :: ns, vs, i, h, hl => by
    rw [List.idxOf?_cons] at h
    split at h
    · rename_i hn
      cases h
      have hn' : n = f := by simpa using hn
      cases vs with
      | nil =>
        rw [if_neg (by simp), List.zip_nil_right]
        show [(f, y)] = (n :: ns).zip ([] ++ [y])
        rw [hn']
        simp
      | cons v vs =>
        rw [if_pos (by simp), List.zip_cons_cons]
        show (if n = f then (n, y) :: ns.zip vs else (n, v) :: putF f y (ns.zip vs)) = (n :: ns).zip ((v :: vs).set 0 y)
        rw [if_pos hn']
        simp
    · rename_i hn
      obtain ⟨i', h1, rfl⟩ := omap h
      have hn' : ¬ n = f := by simpa using hn
      cases vs with
      | nil => simp at hl
      | cons v vs =>
        have ih := putF_zip (y := y) (vs := vs) h1 (by simpa using hl)
        rw [List.zip_cons_cons]
        show (if n = f then (n, y) :: ns.zip vs else (n, v) :: putF f y (ns.zip vs)) = _
        rw [if_neg hn', ih]
        by_cases hi : i' < vs.length
        · rw [if_pos hi, if_pos (by simpa using hi)]
          simp
        · rw [if_neg hi, if_neg (by simpa using hi)]
          simp
def rootIns (k : Nat) (e : DEnv) (j : Nat) : Option (List D) := match e[j]? with
  | some (some (.ow (.ins k' ds))) => if k' = k then some ds else none
  | some (some (.br (.ins k' ds))) => if k' = k then some ds else none
  | _ => none
def putIns (k : Nat) (e : DEnv) (j : Nat) (ds : List D) : DEnv := match e[j]? with
  | some (some b) => e.set j (some (b.re (.ins k ds)))
  | _ => e
theorem I2.rootIns {z : Zs} {σ : L2.St} {H F : Hp} {e : DEnv} {k j : Nat} {ds : List D} (I : I2 c z σ H F e) (h : rootIns k e j = some ds) : ∃ p dx vs, σ[j]? = some (some (.ref p)) ∧ H p = some (.ins (c.cl k) dx ((c.fn k).zip vs)) ∧ RpL c F ds vs ∧
    ∀ vs' ds', RpL c F ds' vs' → I2 c z σ (upd H p (.ins (c.cl k) dx ((c.fn k).zip vs'))) F (putIns k e j ds') := by
  unfold DL.rootIns at h
  split at h <;> try cases h
  · rename_i hb
    split at h
    · rename_i ek
      subst ek; cases h
      obtain ⟨v, hv, p, rfl, ⟨hF, dx, vs, h1, h2⟩, _⟩ := I.slot j _ hb
      refine ⟨p, dx, vs, hv, h1, h2, fun vs' ds' r => ?_⟩
      unfold putIns
      rw [hb]
      exact I.mut hb rfl hv ⟨hF, dx, vs', upd_same, r⟩
    · cases h
  · rename_i hb
    split at h
    · rename_i ek
      subst ek; cases h
      obtain ⟨v, hv, p, rfl, ⟨hF, dx, vs, h1, h2⟩, _⟩ := I.slot j _ hb
      refine ⟨p, dx, vs, hv, h1, h2, fun vs' ds' r => ?_⟩
      unfold putIns
      rw [hb]
      exact I.mut hb rfl hv ⟨hF, dx, vs', upd_same, r⟩
    · cases h
def fPutF (ns : List Str) (k j : Nat) (f : Str) (fv : FE) : FS := fun e => (fv e).bind fun r => Res.of ((escape r.1 r.2).bind fun q => (rootIns k q.2 j).bind fun ds => (putD ns f q.1 ds).bind fun ds' => if ds.length < 900 then some (.nx (putIns k q.2 j ds')) else none)
theorem sn_putF {i j : Nat} {tv : TE} {fv : FE} (cl : Cls c.K (c.cl i)) (na : NoAttr c.K (c.cl i) x) (hv : SndE c W tv fv) : SndS c W (sFld c.K (tVar j) tv x) (fPutF (c.fn i) i j x fv) := fun z σ H F e D I h => by
  unfold fPutF at h
  rw [Wp.bind] at h
  refine hv z σ H F e _ I (h.mono (fun r _ h v H1 F1 x1 I1 t1 => ?_) fun _ _ h => h σ)
  obtain ⟨q, ea, h⟩ := Wp.of h
  obtain ⟨⟨d, e1⟩, l1, ea⟩ := obind ea
  obtain ⟨ds, l2, ea⟩ := obind ea
  obtain ⟨ds', l3, ea⟩ := obind ea
  dsimp only at ea
  split at ea
  · rename_i hlen
    cases ea
    obtain ⟨G, x2, J, rr⟩ := t1.escape I1 l1
    obtain ⟨p, dx, vs, hp, h2, r2, kk⟩ := J.rootIns l2
    refine ⟨_, hp, p, _, dx, _, rfl, h2, cl, na, ?_, ?_⟩
    · rw [List.length_zip]
      have := r2.len
      omega
    · unfold putD at l3
      split at l3
      · rename_i ix hix
        split at l3
        · rename_i hi
          cases l3
          rw [putF_zip hix (by rw [← r2.len]; omega), if_pos (by rw [← r2.len]; exact hi)]
          exact h σ _ G (x1.trans x2) (kk _ _ (r2.set ix rr))
        · split at l3
          · rename_i hi hi2
            cases l3
            rw [putF_zip hix (by rw [← r2.len]; omega), if_neg (by rw [← r2.len]; exact hi)]
            exact h σ _ G (x1.trans x2) (kk _ _ (r2.app (RpL.one rr)))
          · cases l3
      · cases l3
  · cases ea
theorem ds_putF {i j : Nat} {v : Expr} {tv : TE} {fv : FE} {pos' : Pos} (hK : X.K = c.K) (cl : Cls c.K (c.cl i)) (na : NoAttr c.K (c.cl i) x) (ho : PE X (.Name y p) (tVar j)) (hv : DE X c W v tv fv) (hs : swapsWith v (some (.Attribute (.Name y p) x pos')) pos.line X.env = pure false := by rfl) :
    DS X c W (.Assign [.Attribute (.Name y p) x pos'] v pos) (sFld c.K (tVar j) tv x) (fPutF (c.fn i) i j x fv) := ⟨hK ▸ ps_fld ho hv.pe hs, sn_putF cl na hv.sn⟩

/-! ### methods, properties -/
/-- the object first, then the arguments -/
def fMeth (k : Nat) (ms : List Bool) (dds : List D) (m : Fn) (fo : FE) (fa : FA) : FE := fun e => (fo e).bind fun r0 => match lookT r0.1.seal r0.2 with
  | some (.ins k' _) => if k' = k then (fa r0.2).bind fun r => (Res.of (escN ms (r0.1.seal :: r.1) r.2)).bind fun q => callM dds m q.1 q.2 else .stuck
  | _ => .stuck
def tMethS (C : Addr) (m : Str) (sp : Sp) (dvs : List V) (E : L2.St → XK) (ta : TE) (t : TA) : TE := fun σ H Q => ta σ H fun x H1 => ∃ a dx fs, x = .ref a ∧ H1 a = some (.ins C dx fs) ∧ fs.lookup m = none ∧
  t σ H1 fun vs H2 => sp (x :: (vs ++ dvs)) H2 Q (E σ)
theorem zip_none {vs : List V} : ∀ {ns : List Str}, x ∉ ns → (ns.zip vs).lookup x = none := by
  induction vs with
  | nil => intro ns h; simp
  | cons v vs ih =>
    intro ns h
    cases ns with
    | nil => simp
    | cons n ns =>
      rw [List.zip_cons_cons, List.lookup_cons]
      have h1 : (x == n) = false := by simp; exact fun z => h (z ▸ List.mem_cons_self)
      rw [h1]
      exact ih fun z => h (List.mem_cons_of_mem _ z)
theorem lookT_seal {t : T} {e : DEnv} : lookT t.seal e = lookT t e := by cases t <;> rfl
theorem sn_meth {i : Nat} (hx : x ∉ c.fn i) (hn : ∀ vs : List V, (∃ e r, fr e = .ok r ∧ r.1.length = vs.length) → vs.length + dvs.length + 1 = n) (hd : ∀ F, RpL c F dds dvs) (ho : SndE c W to fo) (ha : SndA c W tr fr) :
    SndE c W (tMethS (c.cl i) x (spD c n m) dvs (WE W) to tr) (fMeth i ms dds m fo fr) := fun z σ H F e Q I h => by
  unfold fMeth at h
  rw [Wp.bind] at h
  refine ho z σ H F e _ I (h.mono (fun r0 _ g v H1 F1 x1 I1 t1 => ?_) fun _ _ h => h)
  clear h
  obtain ⟨F2, x2, J, t2⟩ := t1.seal I1
  split at g
  · rename_i k' ds hl
    split at g
    · rename_i ek
      subst ek
      obtain ⟨p, dx, vs, rfl, h2, r2⟩ := (t2.view J hl).ins J.fh
      refine ⟨p, dx, _, rfl, h2, zip_none hx, ?_⟩
      rw [Wp.bind] at g
      refine ha z σ H1 F2 _ _ J (g.mono (fun r hr h vs H3 F3 x3 I3 t3 => ?_) fun _ _ h => h.mono (x1.trans x2))
      rw [Wp.bind] at h
      obtain ⟨⟨ts, e3⟩, l, h⟩ := Wp.of h
      have t4 : TRs c z F3 H3 σ r.2 (r0.1.seal :: r.1) (V.ref p :: vs) := ⟨_, _, rfl, T.seal_seal _, t2.keep x3, t3⟩
      obtain ⟨G, x4, K, t5⟩ := t4.escN I3 l
      have sc := sp_call (n := n) (m := m) (dvs := dvs) (W := W) (Q := Q) K t5 (by
        have := hn vs ⟨_, r, hr, t3.len⟩
        simp; omega) (hd G) (h.mono (fun r _ h v H' F' x' I' t' => h v H' F' (((x1.trans x2).trans (x3.trans x4)).trans x') I' t') fun _ _ h => h.mono ((x1.trans x2).trans (x3.trans x4)))
      exact sc
    · exact g.elim
  · exact g.elim
theorem pe_methS {E : L2.St → XK} {CX : CXT} {pl : Sem Bool} {t : TA} (he : PE X o to) (cl : Cls X.K C) (hm : Meth X.K C x f) (F : FnOk X.prog X.w X.K X.mg X.base CX k f fd ps sp) (hr : Room k X.A) (hb : Binds X.K fd ps ds) (hd : Vals dvs ds) (hx : ∀ σ, PassesAt CX X σ (E σ)) (ha : PA X (a :: es) t)
    (hst : starEach (a :: es) X.env = (false, eval a X.env) :: starEach es X.env := by rfl) (hpl : (backTo pos (starEach es X.env)).any (·.1) = false := by rfl)
    (ht : eval (.Call (.Attribute o x apos) (a :: es) [] pos) X.env = (do
      let ov ← eval o X.env
      standAt apos.atName
      let (f, first) ← holding [ov] (getMethod ov x pl)
      callWith pos f first (backTo pos (starEach (a :: es) X.env)) (backToKw pos (keywordEach [] X.env))) := by rfl) :
    PE X (.Call (.Attribute o x apos) (a :: es) [] pos) (tMethS C x sp dvs E to t) := by
  refine ⟨fun pins s σ H Q I h => ?_⟩
  refine PySem.W.methodCall_KW (pl := pl) (thn (he.run pins s σ H _ I h) fun u s1 ⟨x, H1, I1, rx, a, dx, fs, ex, ea, l, q⟩ => ?_) ht
  subst ex
  obtain rfl : u = Value.ref a := rx
  refine getmeth_ok I1 ea cl hm l ?_
  refine PySem.W.callWith_K (first := [.ref a]) (h₀ := X.base) I.ok.mod.kin hm.kp (thn (ha.run pos pins s1 σ H1 _ I1 q) fun us s2 ⟨vs, H2, I2, r, q2⟩ => ⟨I2.kIn, ?_⟩) hst hpl
  exact run_fnSD (us := .ref a :: us) (vs := .ref a :: vs) F hr hb hd (hx σ) I2 (.cons rfl r) q2
theorem pe_methS0 {E : L2.St → XK} {CX : CXT} {pl : Sem Bool} (he : PE X o to) (cl : Cls X.K C) (hm : Meth X.K C x f) (F : FnOk X.prog X.w X.K X.mg X.base CX k f fd ps sp) (hr : Room k X.A) (hb : Binds X.K fd ps ds) (hd : Vals dvs ds) (hx : ∀ σ, PassesAt CX X σ (E σ))
    (ht : eval (.Call (.Attribute o x apos) [] [] pos) X.env = (do
      let ov ← eval o X.env
      standAt apos.atName
      let (f, first) ← holding [ov] (getMethod ov x pl)
      callWith pos f first (backTo pos (starEach [] X.env)) (backToKw pos (keywordEach [] X.env))) := by rfl) :
    PE X (.Call (.Attribute o x apos) [] [] pos) (tMethS C x sp dvs E to tNil) := by
  refine ⟨fun pins s σ H Q I h => ?_⟩
  refine PySem.W.methodCall_KW (pl := pl) (thn (he.run pins s σ H _ I h) fun u s1 ⟨x, H1, I1, rx, a, dx, fs, ex, ea, l, q⟩ => ?_) ht
  subst ex
  obtain rfl : u = Value.ref a := rx
  refine getmeth_ok I1 ea cl hm l ?_
  exact PySem.W.callWith_K0 (first := [.ref a]) I1.kIn hm.kp (run_fnSD (us := [.ref a]) (vs := [.ref a]) F hr hb hd (hx σ) I1 (.cons rfl .nil) q)
/-- o.m(a, ..) -/
theorem de_meth {i : Nat} {pl : Sem Bool} (tk : Takes X W) (hK : X.K = c.K) (hx : x ∉ c.fn i) (cl : Cls c.K (c.cl i)) (hm : Meth c.K (c.cl i) x f) (F : FnOk X.prog X.w X.K X.mg X.base (CX X.prog X.w) k f fd ps (spD c n m)) (hr : Room k X.A) (hb : Binds X.K fd ps ds) (hd : Vals dvs ds) (hdd : ∀ F, RpL c F dds dvs)
    (hlen : LenA fr j) (hn : j + dvs.length + 1 = n) (ho : DE X c W o to fo) (ha : DA X c W (a :: es) tr fr)
    (hst : starEach (a :: es) X.env = (false, eval a X.env) :: starEach es X.env := by rfl) (hpl : (backTo pos (starEach es X.env)).any (·.1) = false := by rfl)
    (ht : eval (.Call (.Attribute o x apos) (a :: es) [] pos) X.env = (do
      let ov ← eval o X.env
      standAt apos.atName
      let (f, first) ← holding [ov] (getMethod ov x pl)
      callWith pos f first (backTo pos (starEach (a :: es) X.env)) (backToKw pos (keywordEach [] X.env))) := by rfl) :
    DE X c W (.Call (.Attribute o x apos) (a :: es) [] pos) (tMethS (c.cl i) x (spD c n m) dvs (WE W) to tr) (fMeth i ms dds m fo fr) :=
  ⟨pe_methS (pl := pl) ho.pe (hK ▸ cl) (hK ▸ hm) F hr hb hd (fun σ => passAt tk σ) ha.pa hst hpl ht, sn_meth hx (fun vs ⟨e, r, h1, h2⟩ => by rw [← h2, hlen e r h1]; exact hn) hdd ho.sn ha.sn⟩
theorem de_meth0 {i : Nat} {pl : Sem Bool} (tk : Takes X W) (hK : X.K = c.K) (hx : x ∉ c.fn i) (cl : Cls c.K (c.cl i)) (hm : Meth c.K (c.cl i) x f) (F : FnOk X.prog X.w X.K X.mg X.base (CX X.prog X.w) k f fd ps (spD c n m)) (hr : Room k X.A) (hb : Binds X.K fd ps ds) (hd : Vals dvs ds) (hdd : ∀ F, RpL c F dds dvs)
    (hn : dvs.length + 1 = n) (ho : DE X c W o to fo)
    (ht : eval (.Call (.Attribute o x apos) [] [] pos) X.env = (do
      let ov ← eval o X.env
      standAt apos.atName
      let (f, first) ← holding [ov] (getMethod ov x pl)
      callWith pos f first (backTo pos (starEach [] X.env)) (backToKw pos (keywordEach [] X.env))) := by rfl) :
    DE X c W (.Call (.Attribute o x apos) [] [] pos) (tMethS (c.cl i) x (spD c n m) dvs (WE W) to tNil) (fMeth i ms dds m fo fA0) :=
  ⟨pe_methS0 (pl := pl) ho.pe (hK ▸ cl) (hK ▸ hm) F hr hb hd (fun σ => passAt tk σ) ht, sn_meth hx (fun vs ⟨e, r, h1, h2⟩ => by rw [← h2, lenA0 e r h1, Nat.zero_add]; exact hn) hdd ho.sn (da_nil (X := X)).sn⟩
/-- o.p, a property -/
def noExc (r : Res (T × DEnv)) : Res (T × DEnv) := match r with
  | .exc _ _ => .stuck
  | r => r
def fProp (k : Nat) (m : Fn) (fo : FE) : FE := fun e => (fo e).bind fun r0 => match lookT r0.1.seal r0.2 with
  | some (.ins k' _) => if k' = k then (Res.of (escN [false] [r0.1.seal] r0.2)).bind fun q => noExc (callM [] m q.1 q.2) else .stuck
  | _ => .stuck
theorem sn_prop {i : Nat} (ho : SndE c W to fo) : SndE c W (tProp (c.cl i) (spD c 1 m) [] E0 to) (fProp i m fo) := fun z σ H F e Q I h => by
  unfold fProp at h
  rw [Wp.bind] at h
  refine ho z σ H F e _ I (h.mono (fun r0 _ g v H1 F1 x1 I1 t1 => ?_) fun _ _ h => h)
  clear h
  obtain ⟨F2, x2, J, t2⟩ := t1.seal I1
  split at g
  · rename_i k' ds hl
    split at g
    · rename_i ek
      subst ek
      obtain ⟨p, dx, vs, rfl, h2, r2⟩ := (t2.view J hl).ins J.fh
      refine ⟨p, dx, _, rfl, h2, ?_⟩
      rw [Wp.bind] at g
      obtain ⟨⟨ts, e3⟩, l, h⟩ := Wp.of g
      have t4 : TRs c z F2 H1 σ r0.2 [r0.1.seal] [V.ref p] := ⟨_, _, rfl, T.seal_seal _, t2, rfl⟩
      obtain ⟨G, x4, K, t5⟩ := t4.escN J l
      have h' : Wp (callM [] m ts e3) (fun r => ∀ v H' F', Ex F F' → I2 c z σ H' F' r.2 → TR c z F' H' σ r.2 r.1 v → Q v H') (fun _ _ => False) := by
        unfold noExc at h
        cases hq : callM [] m ts e3 with
        | stuck => rw [hq] at h; exact h
        | ok r => rw [hq] at h; exact h
        | exc x e' => rw [hq] at h; exact h.elim
      have sc := sp_call (n := 1) (m := m) (dvs := []) (dds := []) (W := W0) (Q := Q) K t5 rfl rfl (h'.mono (fun r _ h v H' F' x' I' t' => h v H' F' (((x1.trans x2).trans x4).trans x') I' t') fun _ _ h => h.elim)
      exact sc
    · exact g.elim
  · exact g.elim
theorem de_prop {i : Nat} {pp g : Addr} (hK : X.K = c.K) (cl : Cls c.K (c.cl i)) (hp : PropOf c.K (c.cl i) x pp g) (F : FnOk X.prog X.w X.K X.mg X.base (CX X.prog X.w) k g fd ps (spD c 1 m)) (hr : Room (k + 1) X.A) (hb : Binds X.K fd ps []) (ho : DE X c W o to fo)
    (hab : attributeBase o x X.env (eval o X.env) = eval o X.env := by rfl) : DE X c W (.Attribute o x pos) (tProp (c.cl i) (spD c 1 m) [] E0 to) (fProp i m fo) :=
  ⟨pe_prop (E := E0) ho.pe (hK ▸ cl) (hK ▸ hp) F hr hb .nil passL hab, sn_prop ho.sn⟩
end
end DL

/-! DL, part j: new instances, isinstance, zip. -/
namespace DL
open PySem L2 Evl

section
variable {c : Ct} {z : Zs} {W : WX} {σ σ' : L2.St} {H H' F F' G : Hp} {e e' : DEnv}
/-! ### a frame with one more name -/
theorem get_app {α : Type} {l : List α} {x y : α} {i : Nat} (h : (l ++ [x])[i]? = some y) : (i < l.length ∧ l[i]? = some y) ∨ (i = l.length ∧ y = x) := by
  by_cases hi : i < l.length
  · rw [List.getElem?_append_left hi] at h; exact .inl ⟨hi, h⟩
  · rw [List.getElem?_append_right (by omega)] at h
    cases hk : i - l.length with
    | zero => rw [hk] at h; simp at h; exact .inr ⟨by omega, h.symm⟩
    | succ n => rw [hk] at h; simp at h
theorem I2.ext {x : Addr} {d : D} (I : I2 c z σ H F e) (w : Own c F H d x) (h0 : z.H0 x = none) (hn : ∀ i, ¬ RootAt σ e i x) : I2 c z (σ ++ [some (.ref x)]) H F (e ++ [some (.ow d)]) := by
  have key : ∀ (j : Nat) (q : Addr), RootAt (σ ++ [some (.ref x)]) (e ++ [some (.ow d)]) j q → (j = e.length ∧ q = x) ∨ RootAt σ e j q := fun j q ⟨b, h1, h2, h3⟩ => by
    rcases get_app h1 with ⟨l1, g1⟩ | ⟨l1, g1⟩
    · rcases get_app h3 with ⟨_, g3⟩ | ⟨l3, _⟩
      · exact .inr ⟨b, g1, h2, g3⟩
      · rw [← I.len] at l3; omega
    · rcases get_app h3 with ⟨l3, _⟩ | ⟨_, g3⟩
      · rw [← I.len] at l3; omega
      · cases g3; exact .inl ⟨l1, rfl⟩
  refine ⟨by simp [I.len], I.f0, I.fh, I.keep, fun i b h => ?_, fun i j p h1 h2 => ?_, I.bo, I.nf, fun i d' v h h' => ?_⟩
  · rcases get_app h with ⟨l1, g1⟩ | ⟨l1, g1⟩
    · obtain ⟨v, hv, r⟩ := I.slot i b g1
      exact ⟨v, by rw [List.getElem?_append_left (get_lt hv)]; exact hv, r⟩
    · cases g1
      exact ⟨.ref x, by rw [l1, I.len]; simp, x, rfl, w, h0⟩
  · rcases key i p h1 with ⟨rfl, rfl⟩ | r1
    · rcases key j _ h2 with ⟨rfl, _⟩ | r2
      · rfl
      · exact (hn j r2).elim
    · rcases key j p h2 with ⟨rfl, rfl⟩ | r2
      · exact (hn i r1).elim
      · exact I.dist i j p r1 r2
  · rcases get_app h with ⟨l1, g1⟩ | ⟨l1, g1⟩
    · rcases get_app h' with ⟨_, g2⟩ | ⟨l2, _⟩
      · exact I.brv i d' v g1 g2
      · rw [← I.len] at l2; omega
    · cases g1
theorem I2.unext {x : Option V} {b : Option B} (I : I2 c z (σ ++ [x]) H F (e ++ [b])) : I2 c z σ H F e := by
  have hl : e.length = σ.length := by have := I.len; simp at this; exact this
  have upe : ∀ {i : Nat} {y : Option B}, e[i]? = some y → (e ++ [b])[i]? = some y := fun {i y} h => by rw [List.getElem?_append_left (get_lt h)]; exact h
  have ups : ∀ {i : Nat} {y : Option V}, σ[i]? = some y → (σ ++ [x])[i]? = some y := fun {i y} h => by rw [List.getElem?_append_left (get_lt h)]; exact h
  have key : ∀ (i : Nat) (p : Addr), RootAt σ e i p → RootAt (σ ++ [x]) (e ++ [b]) i p := fun i p ⟨b', h1, h2, h3⟩ => ⟨b', upe h1, h2, ups h3⟩
  refine ⟨hl, I.f0, I.fh, I.keep, fun i b' h => ?_, fun i j p h1 h2 => I.dist i j p (key _ _ h1) (key _ _ h2), I.bo, I.nf, fun i d v h h' => I.brv i d v (upe h) (ups h')⟩
  obtain ⟨v, hv, r⟩ := I.slot i b' (upe h)
  rcases get_app hv with ⟨_, g⟩ | ⟨l, _⟩
  · exact ⟨v, g, r⟩
  · have := get_lt h; omega
/-- C(..): a new instance is laid behind the frame's names, handed to __init__, and taken back -/
def fMake (k : Nat) (ms : List Bool) (dds : List D) (m : Fn) (fa : FA) : FE := fun e => (fa e).bind fun r => (Res.of (escN ms r.1 r.2)).bind fun q => match callM dds m (.sl q.2.length :: q.1) (q.2 ++ [some (.ow (.ins k []))]) with
  | .stuck => .stuck
  | .exc x e' => .exc x e'.dropLast
  | .ok (.vl .non, e') => match e'.getLast? with
    | some (some (.ow (.ins k' ds))) => .ok (.nw (.ins k' ds), e'.dropLast)
    | _ => .stuck
  | .ok _ => .stuck
def tMakeS (C : Addr) (sp : Sp) (dvs : List V) (E : L2.St → XK) (t : TA) : TE := fun σ H Q => t σ H fun vs H1 => ∀ x dx, H1 x = none → H1 dx = none → dx ≠ x →
  sp (.ref x :: (vs ++ dvs)) (upd (upd H1 dx (.own x)) x (.ins C dx [])) (fun v H2 => v = .non ∧ Q (.ref x) H2) (E σ)
theorem TRs.ext {x : Option V} {b : Option B} : ∀ {ts : List T} {vs : List V}, TRs c z F H σ e ts vs → TRs c z F H' (σ ++ [x]) (e ++ [b]) ts vs
  | [], _, h => h
  | t :: ts, _, ⟨v, r, h1, h2, h3, h4⟩ => by
    have h5 : TR c z F H' (σ ++ [x]) (e ++ [b]) t v := by
      cases t with
      | sl i =>
        have h3' : σ[i]? = some (some v) := h3
        show (σ ++ [x])[i]? = some (some v)
        rw [List.getElem?_append_left (get_lt h3')]; exact h3'
      | vl d => exact h3
      | nw d => cases h2
    exact ⟨v, r, h1, h2, h5, TRs.ext h4⟩
theorem drop_last_of {e : DEnv} {n : Nat} (h : e.length = n + 1) : ∃ e0 b, e = e0 ++ [b] ∧ e0.length = n ∧ e.dropLast = e0 ∧ e.getLast? = some b := by
  have hne : e ≠ [] := fun z => by rw [z] at h; cases h
  refine ⟨e.dropLast, e.getLast hne, (List.dropLast_concat_getLast hne).symm, by simp [h], rfl, by rw [List.getLast?_eq_some_getLast hne]⟩
theorem sn_make {n k : Nat} {ms : List Bool} {m : Fn} {dvs : List V} {dds : List D} {ta : TA} {fa : FA} (hn : ∀ vs : List V, (∃ e r, fa e = .ok r ∧ r.1.length = vs.length) → vs.length + dvs.length + 1 = n) (hd : ∀ F, RpL c F dds dvs) (ha : SndA c W ta fa)
    (hW : ∀ cls dd σ H, W cls dd σ H → W cls dd σ H) : SndE c W (tMakeS (c.cl k) (spD c n m) dvs (WE W) ta) (fMake k ms dds m fa) := fun z σ H F e Q I h => by
  unfold fMake at h
  rw [Wp.bind] at h
  refine ha z σ H F e _ I (h.mono (fun r hr g vs H1 F1 x1 I1 t1 => ?_) fun _ _ h => h)
  clear h
  rw [Wp.bind] at g
  obtain ⟨⟨ts, e2⟩, l, g⟩ := Wp.of g
  obtain ⟨G, x2, J, t2⟩ := t1.escN I1 l
  intro x dx hx hdx hne
  -- the heap with the new instance
  have eH : Ex H1 (upd (upd H1 dx (.own x)) x (.ins (c.cl k) dx [])) := (Ex.new hdx).trans (Ex.new (by rw [upd_ne hne.symm]; exact hx))
  have J1 := J.alloc eH
  have hz : (c.fn k).zip ([] : List V) = [] := by simp
  have w : Own c G (upd (upd H1 dx (.own x)) x (.ins (c.cl k) dx [])) (.ins k []) x := ⟨fresh_back J.fh hx, dx, [], by rw [upd_same, hz], rfl⟩
  have J2 := J1.ext w (J.fresh0 hx) (J.noroot hx)
  have t3 : TRs c z G (upd (upd H1 dx (.own x)) x (.ins (c.cl k) dx [])) (σ ++ [some (.ref x)]) (e2 ++ [some (.ow (.ins k []))]) (.sl e2.length :: ts) (.ref x :: vs) :=
    ⟨_, _, rfl, rfl, by show (σ ++ [some (V.ref x)])[e2.length]? = _; rw [J.len]; simp, TRs.ext t2⟩
  have sc := sp_call (n := n) (m := m) (dvs := dvs) (dds := dds) (W := fun cls dd _ H => W cls dd σ H) (Q := fun v H2 => v = .non ∧ Q (.ref x) H2) J2 t3 (by
    have := hn vs ⟨_, r, hr, t1.len⟩
    simp; omega) (hd G) ?_
  · exact sc
  · have hln : ∀ {e' : DEnv} {H' F' : Hp}, I2 c z (σ ++ [some (V.ref x)]) H' F' e' → e'.length = e2.length + 1 := fun {e' H' F'} K => by rw [K.len]; simp [J.len]
    cases hq : callM dds m (.sl e2.length :: ts) (e2 ++ [some (.ow (.ins k []))]) with
    | stuck => rw [hq] at g; exact g.elim
    | exc xv e' =>
      rw [hq] at g
      intro cls dd H' F' x' K r'
      obtain ⟨e0, b, rfl, l0, ed, _⟩ := drop_last_of (hln K)
      have K0 := K.unext
      dsimp only at g
      rw [show List.dropLast (e0 ++ [b]) = e0 from ed] at g
      exact g cls dd H' F' ((x1.trans x2).trans x') K0 r'
    | ok r' =>
      rw [hq] at g
      obtain ⟨t, e'⟩ := r'
      intro v H' F' x' K t'
      obtain ⟨e0, b, rfl, l0, ed, eg⟩ := drop_last_of (hln K)
      cases t with
      | sl i => exact g.elim
      | nw d => exact g.elim
      | vl d =>
        cases d <;> try exact g.elim
        have ev : v = .non := t'
        refine ⟨ev, ?_⟩
        dsimp only at g
        rw [show List.getLast? (e0 ++ [b]) = some b from eg, show List.dropLast (e0 ++ [b]) = e0 from ed] at g
        cases b with
        | none => exact g.elim
        | some b =>
          cases b <;> try exact g.elim
          rename_i d
          cases d <;> try exact g.elim
          rename_i k' ds
          have K0 := K.unext
          have hs : (e0 ++ [some (B.ow (.ins k' ds))])[e0.length]? = some (some (.ow (.ins k' ds))) := by simp
          obtain ⟨v0, hv0, p, rfl, w', h0'⟩ := K.slot e0.length _ hs
          have hp : (σ ++ [some (V.ref x)])[e0.length]? = some (some (.ref x)) := by rw [l0, J.len]; simp
          rw [hp] at hv0; cases hv0
          refine g (.ref x) H' F' ((x1.trans x2).trans x') K0 ⟨x, rfl, w', h0', fun i ⟨b', q1, q2, q3⟩ => ?_⟩
          have := K.dist i e0.length x ⟨b', by rw [List.getElem?_append_left (get_lt q1)]; exact q1, q2, by rw [List.getElem?_append_left (get_lt q3)]; exact q3⟩ ⟨_, hs, rfl, hp⟩
          have hlt := get_lt q1
          dsimp only at hlt
          omega
end

section
variable {X : Cx} {c : Ct} {W : WX} {k n j : Nat} {f C : Addr} {fd : FuncData} {ps : List Str} {m : Fn} {x y : Str} {p pos apos : Pos} {a o : Expr} {es : List Expr} {ta to : TE} {tr : TA} {fa fo : FE} {fr : FA} {dvs : List V} {ds : List Value} {dds : List D} {ms : List Bool} {sp : Sp} {E : L2.St → XK} {CX : CXT}
theorem run_makeS {pins : List (Addr × Obj)} {σ : L2.St} {H : Hp} {s : Shared} {Q : VK} {us : List Value} {vs : List V} (M : Mk X.K C f) (F : FnOk X.prog X.w X.K X.mg X.base CX k f fd ps sp) (hr : Room (k + 1) X.A) (hb : Binds X.K fd ps ds) (hd : Vals dvs ds)
    (hx : PassesAt CX X σ (E σ)) (hx2 : ∀ (H : Hp) (s : Shared) (C : Addr) (e : Value) (s' : Shared), Inv X pins σ H s → CX X.stack H s (E σ) e s' → X.xe e s') (I : Inv X pins σ H s) (r : Vals vs us)
    (h : ∀ x dx, H x = none → H dx = none → dx ≠ x → sp (.ref x :: (vs ++ dvs)) (upd (upd H dx (.own x)) x (.ins C dx [])) (fun v H2 => v = .non ∧ Q (.ref x) H2) (E σ)) :
    wpAny (model X.prog X.w) X.A (call (.ref C) us) (EP X pins σ Q) X.xe s := by
  have hq := h (s.heap.objs.size + 1) s.heap.objs.size (I.hok.fresh (Nat.le_succ _)) (I.hok.fresh (Nat.le_refl _)) (Nat.ne_of_lt (Nat.lt_succ_self _))
  have I2 := Inv.made (C := C) I
  have r2 : Vals (V.ref (s.heap.objs.size + 1) :: (vs ++ dvs)) (Value.ref (s.heap.objs.size + 1) :: (us ++ ds)) := .cons rfl (r.append hd)
  have hl : (Value.ref (s.heap.objs.size + 1) :: us ++ ds).length = ps.length := by
    have e := r2.length
    rw [F.len _ _ _ _ hq] at e
    exact e.symm
  refine wpAny_call (make_map (f := f) I.kIn M.makes M.init (beq_iff_eq.mp M.fn) (codeAny_mono (F.run _ X.stack _ _ ⟨Value.ref (s.heap.objs.size + 1) :: us, []⟩ (Value.ref (s.heap.objs.size + 1) :: (us ++ ds)) _ _ (E σ) (hr.make C us [])
    (I2.env0.make C us []) (hb _ (Value.ref (s.heap.objs.size + 1) :: us) I2.kIn hl) r2 hq) fun r s' hq' => ?_))
  cases r with
  | error e => exact hx pins _ _ e s' I2 hq'
  | ok fl =>
    cases fl with
    | ret u =>
      obtain ⟨v, H', I3, rv, ev, q3⟩ := I2.after hq'
      subst ev
      exact ⟨rv, ⟨V.ref (s.heap.objs.size + 1), H', I3, rfl, q3⟩⟩
    | next => exact False.elim hq'
    | brk => exact False.elim hq'
    | cont => exact False.elim hq'
theorem pe_makeS (M : Mk X.K C f) (F : FnOk X.prog X.w X.K X.mg X.base CX k f fd ps sp) (hr : Room (k + 1) X.A) (hg : Gl X x) (hm : X.mg x = some (.ref C)) (hb : Binds X.K fd ps ds) (hd : Vals dvs ds) (hx : ∀ σ, PassesAt CX X σ (E σ))
    (ha : PA X (a :: es) tr) (hdb : (x == ("__debug__" : Str)) = false := by decide) (he : starEach (a :: es) X.env = (false, eval a X.env) :: starEach es X.env := by rfl) (hpl : (backTo pos (starEach es X.env)).any (·.1) = false := by rfl) :
    PE X (.Call (.Name x p) (a :: es) [] pos) (tMakeS C sp dvs E tr) := by
  refine ⟨fun pins s σ H Q I h => ?_⟩
  refine wpAny_Call_Name_kw (ld_glob I hg hm ?_ hdb)
  refine PySem.W.callWith_K (h₀ := X.base) I.ok.mod.kin M.kp (thn (ha.run pos pins s σ H _ I h) fun us s1 ⟨vs, H1, I1, r, q⟩ => ⟨I1.kIn, ?_⟩) he hpl
  exact run_makeS M F hr hb hd (hx σ) (fun H s _ e s' I h => hx σ pins H s e s' I h) I1 r q
/-- C(a, ..) -/
theorem de_make {i : Nat} (tk : Takes X W) (hK : X.K = c.K) (M : Mk c.K (c.cl i) f) (F : FnOk X.prog X.w X.K X.mg X.base (L2.CX X.prog X.w) k f fd ps (spD c n m)) (hr : Room (k + 1) X.A) (hg : Gl X x) (hm : X.mg x = some (.ref (c.cl i))) (hb : Binds X.K fd ps ds) (hd : Vals dvs ds) (hdd : ∀ F, RpL c F dds dvs)
    (hlen : LenA fr j) (hn : j + dvs.length + 1 = n) (ha : DA X c W (a :: es) tr fr) (hdb : (x == ("__debug__" : Str)) = false := by decide) (he : starEach (a :: es) X.env = (false, eval a X.env) :: starEach es X.env := by rfl) (hpl : (backTo pos (starEach es X.env)).any (·.1) = false := by rfl) :
    DE X c W (.Call (.Name x p) (a :: es) [] pos) (tMakeS (c.cl i) (spD c n m) dvs (WE W) tr) (fMake i ms dds m fr) :=
  ⟨pe_makeS (hK ▸ M) F hr hg hm hb hd (fun σ => passAt tk σ) ha.pa hdb he hpl, sn_make (fun vs ⟨e, r, h1, h2⟩ => by rw [← h2, hlen e r h1]; exact hn) hdd ha.sn fun _ _ _ _ h => h⟩

/-! ### isinstance -/
/-- of a class of one's own: what isinstance asks -/
structure InsT (K : PySem.W.Frag) (C : Addr) : Prop where
  cl : Cls K C
  ha : PySem.W.findIn K (.ref C) "__class__" = some (some (.builtin "object.__class__"))
  hn : PySem.W.specialIn K (.builtin "object.__class__") "__get__" = some (some (.builtin "getset_descriptor.__get__"))
  ht : PySem.W.takesIn K (.builtin "object.__class__") = some true
  hm : PySem.W.mroIn K C (.type "object") = some true
def isiP (tbl : Nat → Option Bool) (bt : String → Option Bool) : D → Option Bool
  | .non => bt "NoneType"
  | .bl _ => bt "bool"
  | .int _ => bt "int"
  | .str _ => bt "str"
  | .lst _ => bt "list"
  | .tup _ => bt "tuple"
  | .rol _ => none
  | .ins k _ => tbl k
  | .dct _ _ _ => none
def IsiOk (c : Ct) (u : Value) (tbl : Nat → Option Bool) (bt : String → Option Bool) : Prop := (∀ T b, bt T = some b → PySem.W.kitOne c.K (.type T) u = some b) ∧ ∀ k b, tbl k = some b → InsT c.K (c.cl k) ∧ PySem.W.kitOne c.K (.ref (c.cl k)) u = some b
theorem SqT.tyX {K : PySem.W.Frag} {H : Hp} {a : Addr} {xs : List V} (h : SqT K H a xs) : TyX K H (.ref a) (.type "tuple") := by
  rcases h with (h | ⟨o, h⟩) | h
  · exact .base (.tup h)
  · exact .fTuple h
  · obtain ⟨o, its, n, h1, h2, _⟩ := h
    exact .kTuple h1 h2
theorem isi_ty {u : Value} {tbl : Nat → Option Bool} {bt : String → Option Bool} (ok : IsiOk c u tbl bt) {F H : Hp} {d : D} {v : V} {b : Bool} (x : Ex F H) (k : View c F H d v) (h : isiP tbl bt d = some b) : ∃ t, TyX c.K H v t ∧ PySem.W.kitOne c.K t u = some b := by
  cases d with
  | non => rw [k.non]; exact ⟨_, .base .non, ok.1 _ _ h⟩
  | bl i => rw [k.bl]; exact ⟨_, .base (.bl i), ok.1 _ _ h⟩
  | int i => rw [k.int]; exact ⟨_, .base (.int i), ok.1 _ _ h⟩
  | str i => rw [k.str]; exact ⟨_, .base (.str i), ok.1 _ _ h⟩
  | lst ds => obtain ⟨p, vs, rfl, h1, _⟩ := k.lst x; exact ⟨_, .base (.lst h1), ok.1 _ _ h⟩
  | tup ds => obtain ⟨p, vs, rfl, h1, _⟩ := k.tup x; exact ⟨_, SqT.tyX h1, ok.1 _ _ h⟩
  | rol ds => cases h
  | dct t ks ds => cases h
  | ins j ds =>
    obtain ⟨p, dx, vs, rfl, h1, _⟩ := k.ins x
    obtain ⟨i, h2⟩ := ok.2 j b h
    exact ⟨_, .base (.ins h1 i.cl i.ha i.hn i.ht i.hm), h2⟩
def fIsi (P : D → Option Bool) (fa : FE) : FE := fun e => (fa e).bind fun r => Res.of ((lookT r.1 r.2).bind fun d => (P d).map fun b => (.vl (.bl b), r.2))
theorem sn_isi {cv : V} {u : Value} {tbl : Nat → Option Bool} {bt : String → Option Bool} (cu : ClsV cv u) (ok : IsiOk c u tbl bt) (ha : SndE c W ta fa) : SndE c W (tCB (rIsi c.K) (tCons ta (tCons (tC cv) tNil))) (fIsi (isiP tbl bt) fa) := fun z σ H F e Q I h => by
  unfold fIsi at h
  rw [Wp.bind] at h
  refine ha z σ H F e _ I (h.mono (fun r _ h v H1 F1 x1 I1 t1 => ?_) fun _ _ h => h)
  obtain ⟨q, ea, h⟩ := Wp.of h
  obtain ⟨d, l1, ea⟩ := obind ea
  obtain ⟨b, l2, rfl⟩ := omap ea
  obtain ⟨t, h1, h2⟩ := isi_ty ok I1.fh (t1.view I1 l1) l2
  exact ⟨v, cv, t, u, b, rfl, cu, h1, h2, h _ H1 F1 x1 I1 rfl⟩
theorem de_isi {cv : V} {u : Value} {tbl : Nat → Option Bool} {bt : String → Option Bool} {b : Expr} (hK : X.K = c.K) (cu : ClsV cv u) (ok : IsiOk c u tbl bt) (hg : Gl X "isinstance") (hm : X.mg "isinstance" = none) (ha : DE X c W a ta fa) (hb : PE X b (tC cv))
    (he : starEach [a, b] X.env = (false, eval a X.env) :: starEach [b] X.env := by rfl) (he2 : starEach [b] X.env = (false, eval b X.env) :: starEach [] X.env := by rfl) (hpl : (backTo pos (starEach [b] X.env)).any (·.1) = false := by rfl) :
    DE X c W (.Call (.Name "isinstance" p) [a, b] [] pos) (tCB (rIsi c.K) (tCons ta (tCons (tC cv) tNil))) (fIsi (isiP tbl bt) fa) :=
  ⟨pe_callB (hK ▸ call_isi) hg hm (by decide +kernel) (pa_cons ha.pe (pa_cons hb pa_nil he2) he) (by decide) (by decide) he hpl, sn_isi cu ok ha.sn⟩

/-! ### zip of two lists, of two tuples -/
def izip (xs ys : List D) : List D := (xs.zip ys).map fun p => .tup [p.1, p.2]
def fiZip (fr : FA) : FI := fun e => (fr e).bind fun r => Res.of ((escs r.1 r.2).bind fun q => match q.1 with
  | [.lst xs, .lst ys] => some (izip xs ys, q.2)
  | [.tup xs, .tup ys] => some (izip xs ys, q.2)
  | _ => none)
theorem zip_ix {xs ys : List D} {i : Nat} {d : D} (h : (izip xs ys)[i]? = some d) : ∃ x y, xs[i]? = some x ∧ ys[i]? = some y ∧ d = .tup [x, y] := by
  unfold izip at h
  rw [List.getElem?_map] at h
  obtain ⟨q, h1, rfl⟩ := omap h
  rw [List.getElem?_zip_eq_some] at h1
  exact ⟨q.1, q.2, h1.1, h1.2, rfl⟩
theorem itOk_zipT {F : Hp} {z' : Zs} {p q : Addr} {vs ws : List V} {xs ys : List D} (h : SqT c.K F p vs) (r : RpL c F xs vs) (h' : SqT c.K F q ws) (r' : RpL c F ys ws) : ItOk c z' (RZ.ItzT c.K p q) F (izip xs ys) := fun i σ H1 F1 e x I => by
  have h1 := ex_t (x.trans I.fh) h
  have h2 := ex_t (x.trans I.fh) h'
  refine ⟨fun d hd => ?_, fun hl => ⟨vs, ws, h1, h2, ?_⟩⟩
  · obtain ⟨a, b, hx, hy, rfl⟩ := zip_ix hd
    obtain ⟨v, hv, rv⟩ := r.get hx
    obtain ⟨w, hw, rw'⟩ := r'.get hy
    refine ⟨⟨vs, ws, v, w, h1, h2, hv, hw⟩, fun y H2 hy => ?_⟩
    obtain ⟨T, v', w', rfl, hT, rfl, k1, k2⟩ := hy
    have e1 := k1 vs h1
    have e2 := k2 ws h2
    rw [hv] at e1; cases e1
    rw [hw] at e2; cases e2
    have xn := Ex.new (o := HO.tup [v, w]) (fresh_back I.fh hT)
    exact ⟨_, xn, Ex.new hT, I.allocT hT, T, [v, w], rfl, st_of upd_same, v, [w], rfl, rv.mono (x.trans xn) _ _, w, [], rfl, rw'.mono (x.trans xn) _ _, rfl⟩
  · unfold izip at hl
    rw [List.length_map, List.length_zip, r.len, r'.len] at hl
    omega
theorem itOk_zipL {F : Hp} {z' : Zs} {p q : Addr} {vs ws : List V} {xs ys : List D} (h : SqL c.K F p vs) (r : RpL c F xs vs) (h' : SqL c.K F q ws) (r' : RpL c F ys ws) : ItOk c z' (Itz c.K p q) F (izip xs ys) := fun i σ H1 F1 e x I => by
  have h1 := ex_l (x.trans I.fh) h
  have h2 := ex_l (x.trans I.fh) h'
  refine ⟨fun d hd => ?_, fun hl => ⟨vs, ws, h1, h2, ?_⟩⟩
  · obtain ⟨a, b, hx, hy, rfl⟩ := zip_ix hd
    obtain ⟨v, hv, rv⟩ := r.get hx
    obtain ⟨w, hw, rw'⟩ := r'.get hy
    refine ⟨⟨vs, ws, v, w, h1, h2, hv, hw⟩, fun y H2 hy => ?_⟩
    obtain ⟨T, v', w', rfl, hT, rfl, k1, k2⟩ := hy
    have e1 := k1 vs h1
    have e2 := k2 ws h2
    rw [hv] at e1; cases e1
    rw [hw] at e2; cases e2
    have xn := Ex.new (o := HO.tup [v, w]) (fresh_back I.fh hT)
    exact ⟨_, xn, Ex.new hT, I.allocT hT, T, [v, w], rfl, st_of upd_same, v, [w], rfl, rv.mono (x.trans xn) _ _, w, [], rfl, rw'.mono (x.trans xn) _ _, rfl⟩
  · unfold izip at hl
    rw [List.length_map, List.length_zip, r.len, r'.len] at hl
    omega
theorem sn_iZip (ha : SndA c W tr fr) : SndI c W (RZ.iZipA c.K tr) (fiZip fr) := fun z σ H F e R I h => by
  unfold fiZip at h
  rw [Wp.bind] at h
  refine ha z σ H F e _ I (h.mono (fun r _ h vs H1 F1 x1 I1 t1 => ?_) fun _ _ h => h)
  obtain ⟨o, ea, h⟩ := Wp.of h
  obtain ⟨⟨ds, e1⟩, l1, ea⟩ := obind ea
  obtain ⟨G, x2, J, rr⟩ := t1.escs I1 l1
  dsimp only at ea
  split at ea <;> try cases ea
  · obtain ⟨v, r1, rfl, ⟨p, vs1, rfl, h1, q1⟩, w, r2, rfl, ⟨q, vs2, rfl, h2, q2⟩, rfl⟩ := rr
    exact ⟨p, q, vs1, vs2, rfl, .inl ⟨sq_of (J.fh _ _ h1), sq_of (J.fh _ _ h2), h _ _ G (x1.trans x2) J fun z' => itOk_zipL (sq_of h1) q1 (sq_of h2) q2⟩⟩
  · obtain ⟨v, r1, rfl, ⟨p, vs1, rfl, h1, q1⟩, w, r2, rfl, ⟨q, vs2, rfl, h2, q2⟩, rfl⟩ := rr
    exact ⟨p, q, vs1, vs2, rfl, .inr ⟨ex_t J.fh h1, ex_t J.fh h2, h _ _ G (x1.trans x2) J fun z' => itOk_zipT h1 q1 h2 q2⟩⟩
theorem di_zip {b : Expr} {elts : List Expr} {kk : Nat} {tpos : Pos} (hK : X.K = c.K) (hg : Gl X "zip") (hm : X.mg "zip" = none) (ha : DA X c W [a, b] tr fr)
    (hs : starEach [a, b] X.env = (false, eval a X.env) :: starEach [b] X.env := by rfl) (hpl : (backTo pos (starEach [b] X.env)).any (·.1) = false := by rfl) :
    DI X c W (.Tuple elts kk tpos) (.Call (.Name "zip" p) [a, b] [] pos) (RZ.iZipA c.K tr) (fiZip fr) := ⟨hK ▸ RZ.pi_zipA hg hm ha.pa hs hpl, sn_iZip ha.sn⟩
end
end DL

/-! DL, part k: operators that a class of one's own defines. -/
namespace PySem.W
open PySem PySem.Calls PyProof.Rows
section
variable {prog : Program} {w : World} {A : Around} {E : Value → Shared → Prop} {s : Shared} {K : Frag} {x C L f g : Addr} {h₀ : Heap} {m : Str → Option Value} {ox : Obj} {od : Option Obj}
/-- an int on the left, an own instance on the right: its reflected method -/
theorem dl_binR {op : Operator} {i : Int} {t : Tok} {id : String} {B : Builtin} {Q : Value → Shared → Prop} (F : Fr h₀ L s.heap m) (X₀ : K.In h₀) (I : InstAt s.heap x ox C od) (hc : selfFirst K C = true)
    (hs : findIn K (.ref C) (PySem.dunder op.info.2) = some (some (.ref f))) (hr : findIn K (.ref C) (dunderR op.info.2) = some (some (.ref g))) (hg : isFn K (.ref g) = true) (hsub : subIn K (.ref C) (.type "int") = some false)
    (fills : fillsNumberSlot (.type "int") op.info.2 = pure true) (slot : Slot "int" (PySem.dunder op.info.2) id) (entry : entryFor table id = some B) (args : argsOk id ⟨[.int i t, .ref x], []⟩)
    (dec : ∀ (A : Around) (E : Value → Shared → Prop) (Q : Fin → Shared → Prop), Q (.done (.ret .notImplemented)) s → wpAny (model prog w) A (B ⟨[.int i t, .ref x], []⟩) Q E s)
    (h : wpAny (model prog w) A (call (.ref g) [.ref x, .int i t]) (CmpBack Q) E s) : wpAny (model prog w) A (binaryOp op (.int i t) (.ref x)) Q E s := by
  have X := X₀.keeps F.keep
  obtain ⟨cd, rest, hcd, hm⟩ := ksp_first hc
  rcases hi : op.info with ⟨sym, nm'⟩
  rw [hi] at hs hr fills slot
  dsimp only at hs hr fills slot
  have one := ksp_try X I hr hg h
  have left : wpAny (model prog w) A (tryMethod (.int i t) (PySem.dunder nm') (.ref x)) (fun r s' => r = none ∧ s' = s) E s :=
    wpAny_tryMethod_declines (typeIs_int s i t) slot (wpAny_call (codeAny_call_builtin slot.plain entry (slot.check _ _ _ _ _ _ _ _ (typeIs_int s i t) args (dec _ _ _ ⟨rfl, rfl, rfl⟩))))
  have L1 : Looks (model prog w) s.heap (typeOf (.ref x)) (.ref C) := I.type
  have L2 : Looks (model prog w) s.heap (typeOf (.int i t)) (.type "int") := Looks.of_pure rfl
  have L3 : Looks (model prog w) s.heap (fillsNumberSlot (.ref C) nm') true := fills_K X hcd hm hs
  have L4 : Looks (model prog w) s.heap (fillsNumberSlot (.type "int") nm') true := Looks.of_pure fills
  have L5 : Looks (model prog w) s.heap (isSubtype (.ref C) (.type "int")) false := looks_subIn X hsub
  have L7 : Looks (model prog w) s.heap (numberSlotInPython (.type "int") nm') false := Looks.of_pure rfl
  have hne : (Value.type "int" == Value.ref C) = false := Bool.eq_false_iff.mpr fun q => by cases beq_iff_eq.mp q
  simp only [binaryOp, hi]
  refine wpAny_holding (wpAny_bind ?_)
  unfold binaryOp1
  refine wpAny_bind (L2.here (wpAny_bind (L1.here (wpAny_bind (L4.here ?_)))))
  simp only [hne, Bool.false_eq_true, if_false]
  refine wpAny_bind (L3.here ?_)
  simp only [Bool.and_self, if_true]
  refine wpAny_bind (L5.here ?_)
  simp only [Bool.false_eq_true, if_false, pure_bind, Bool.not_false, Bool.and_self, if_true]
  refine wpAny_bind (L7.here ?_)
  simp only [Bool.false_eq_true, if_false, pure_bind]
  refine wpAny_bind (wpAny_mono left (fun r s' hr' => ?_) fun _ _ e => e)
  obtain ⟨rfl, rfl⟩ := hr'
  dsimp only
  first
    | (refine wpAny_bind (wpAny_mono one (fun r s' hr' => ?_) fun _ _ e => e)
       obtain ⟨v, rfl, hq⟩ := hr'
       exact wpAny_bind (wpAny_rule (wpAny_pure (wpAny_pure hq))))
    | trace_state
theorem dl_decAdd {i : Int} {t : Tok} {dx : Addr} (hx : s.heap.get? x = some (instObj C dx)) (A : Around) (E : Value → Shared → Prop) (Q : Fin → Shared → Prop) (h : Q (.done (.ret .notImplemented)) s) : wpAny (model prog w) A (Builtin.«int.__add__» ⟨[.int i t, .ref x], []⟩) Q E s := by
  obtain ⟨hp, g, d, tk, os⟩ := s
  wp_walk using wpAny_load hx
  all_goals first | exact h | trace_state
theorem dl_decSub {i : Int} {t : Tok} {dx : Addr} (hx : s.heap.get? x = some (instObj C dx)) (A : Around) (E : Value → Shared → Prop) (Q : Fin → Shared → Prop) (h : Q (.done (.ret .notImplemented)) s) : wpAny (model prog w) A (Builtin.«int.__sub__» ⟨[.int i t, .ref x], []⟩) Q E s := by
  obtain ⟨hp, g, d, tk, os⟩ := s
  wp_walk using wpAny_load hx
  all_goals first | exact h | trace_state
theorem dl_decMul {i : Int} {t : Tok} {dx : Addr} (hx : s.heap.get? x = some (instObj C dx)) (A : Around) (E : Value → Shared → Prop) (Q : Fin → Shared → Prop) (h : Q (.done (.ret .notImplemented)) s) : wpAny (model prog w) A (Builtin.«int.__mul__» ⟨[.int i t, .ref x], []⟩) Q E s := by
  obtain ⟨hp, g, d, tk, os⟩ := s
  wp_walk using wpAny_load hx
  all_goals first | exact h | trace_state
end
end PySem.W

namespace DL
open PySem L2 Evl

section
variable {X : Cx} {c : Ct} {W : WX} {k n j : Nat} {f g C : Addr} {fd : FuncData} {ps : List Str} {m : Fn} {x y : Str} {p pos apos : Pos} {a b o : Expr} {es : List Expr} {ta tb to : TE} {tr : TA} {fa fb fo : FE} {fr : FA} {sp : Sp} {E : L2.St → XK} {CX : CXT} {op : Operator}

/-- a class's own operator: the def, and that it is asked first -/
structure Own2 (K : PySem.W.Frag) (C f : Addr) (op : Operator) : Prop where
  s : PySem.W.findIn K (.ref C) (PySem.dunder op.info.2) = some (some (.ref f))
  fn : PySem.W.isFn K (.ref f) = true
  fst : PySem.W.selfFirst K C = true
/-- .. with an int on the right -/
structure Own2I (K : PySem.W.Frag) (C : Addr) (op : Operator) : Prop where
  r : ∃ rc, PySem.W.findIn K (.ref C) (dunderR op.info.2) = some rc ∧ (rc = none ∨ ∃ g : Addr, rc = some (.ref g))
  h1 : ∃ fo, PySem.W.findIn K (.type "int") (PySem.dunder op.info.2) = some fo
  h2 : ∃ ro, PySem.W.findIn K (.type "int") (dunderR op.info.2) = some ro
  sub : PySem.W.subIn K (.type "int") (.ref C) = some false
/-- .. with an int on the left -/
structure Own2R (K : PySem.W.Frag) (C g : Addr) (op : Operator) : Prop where
  s : ∃ f : Addr, PySem.W.findIn K (.ref C) (PySem.dunder op.info.2) = some (some (.ref f))
  r : PySem.W.findIn K (.ref C) (dunderR op.info.2) = some (some (.ref g))
  fn : PySem.W.isFn K (.ref g) = true
  fst : PySem.W.selfFirst K C = true
  sub : PySem.W.subIn K (.ref C) (.type "int") = some false
theorem EP.back {pins : List (Addr × Obj)} {σ : L2.St} {Q : VK} {u : Value} {s' : Shared} (h : EP X pins σ Q u s') : PySem.W.CmpBack (EP X pins σ Q) u s' := by
  cases u <;> first | exact h | skip
  obtain ⟨v, H', _, r, _⟩ := h
  cases v with
  | non => cases r
  | bl _ => cases r
  | int _ => obtain ⟨_, r⟩ := r; cases r
  | str _ => obtain ⟨_, r⟩ := r; cases r
  | byt _ => obtain ⟨_, r⟩ := r; cases r
  | flt _ => obtain ⟨_, r⟩ := r; cases r
  | ref _ => cases r
  | ty _ => cases r
theorem Inv.inst {pins : List (Addr × Obj)} {σ : L2.St} {H : Hp} {s : Shared} {a dx : Addr} {fs : List (Str × V)} (I : Inv X pins σ H s) (h : H a = some (.ins C dx fs)) : s.heap.get? a = some (PySem.W.instObj C dx) ∧ ∃ od, PySem.W.InstAt s.heap a (PySem.W.instObj C dx) C (some od) := by
  obtain ⟨mA, O, _⟩ := ins_get I.hok h
  obtain ⟨od, J, _⟩ := O.look
  exact ⟨O.1, od, J⟩
def tOwnLL (C : Addr) (sp : Sp) (E : L2.St → XK) (ta tb : TE) : TE := fun σ H Q => ta σ H fun x H1 => tb σ H1 fun y H2 => ∃ a dx fs b dy gs, x = .ref a ∧ H2 a = some (.ins C dx fs) ∧ y = .ref b ∧ H2 b = some (.ins C dy gs) ∧ sp [x, y] H2 Q (E σ)
def tOwnLI (C : Addr) (sp : Sp) (E : L2.St → XK) (ta tb : TE) : TE := fun σ H Q => ta σ H fun x H1 => tb σ H1 fun y H2 => ∃ a dx fs i, x = .ref a ∧ H2 a = some (.ins C dx fs) ∧ y = .int i ∧ sp [x, y] H2 Q (E σ)
def tOwnIL (C : Addr) (sp : Sp) (E : L2.St → XK) (ta tb : TE) : TE := fun σ H Q => ta σ H fun x H1 => tb σ H1 fun y H2 => ∃ b dy gs i, x = .int i ∧ y = .ref b ∧ H2 b = some (.ins C dy gs) ∧ sp [y, x] H2 Q (E σ)
theorem binS {pins : List (Addr × Obj)} {s : Shared} {σ : L2.St} {H : Hp} {R : V → V → Hp → Prop} (ha : PE X a ta) (hb : PE X b tb) (I : Inv X pins σ H s) (h : ta σ H fun x H1 => tb σ H1 fun y H2 => R x y H2)
    {Q : Value → Shared → Prop} {fn : Value → Value → Sem Value}
    (hf : ∀ v u s2 x y H2, Inv X pins σ H2 s2 → RelV x v → RelV y u → R x y H2 → wpAny (model X.prog X.w) X.A (fn v u) Q X.xe s2) :
    wpAny (model X.prog X.w) X.A (eval a X.env) (fun v s₁ => wpAny (model X.prog X.w) X.A (eval b X.env) (fun u s₂ => wpAny (model X.prog X.w) X.A (fn v u) Q X.xe s₂) X.xe s₁) X.xe s := bin ha hb I h hf
theorem pe_ownLL (w2 : Own2 X.K C f op) (F : FnOk X.prog X.w X.K X.mg X.base CX k f fd ps sp) (hr : Room k X.A) (hb : Binds X.K fd ps []) (hx : ∀ σ, PassesAt CX X σ (E σ)) (ha : PE X a ta) (hb' : PE X b tb) : PE X (.BinOp a op b pos) (tOwnLL C sp E ta tb) := by
  refine ⟨fun pins s σ H Q I h => ?_⟩
  refine wpAny_BinOp (bin ha hb' I h fun v u s2 x y H2 I2 rx ry q => ?_)
  obtain ⟨p, dx, fs, q', dy, gs, rfl, h1, rfl, h2, hsp⟩ := q
  cases rx; cases ry
  obtain ⟨_, od, J⟩ := Inv.inst I2 h1
  obtain ⟨_, od', J'⟩ := Inv.inst I2 h2
  obtain ⟨m, hF⟩ := I2.fr
  refine PySem.W.binop_K hF I2.ok.mod.kin J J'.type w2.fst w2.s w2.fn (wpAny_mono (run_fnSD (us := [.ref p, .ref q']) (vs := [.ref p, .ref q']) F hr hb .nil (hx σ) I2 (.cons rfl (.cons rfl .nil)) hsp) (fun _ _ h => EP.back h) fun _ _ h => h)
theorem pe_ownLI (w2 : Own2 X.K C f op) (wi : Own2I X.K C op) (F : FnOk X.prog X.w X.K X.mg X.base CX k f fd ps sp) (hr : Room k X.A) (hb : Binds X.K fd ps []) (hx : ∀ σ, PassesAt CX X σ (E σ)) (ha : PE X a ta) (hb' : PE X b tb) : PE X (.BinOp a op b pos) (tOwnLI C sp E ta tb) := by
  refine ⟨fun pins s σ H Q I h => ?_⟩
  refine wpAny_BinOp (bin ha hb' I h fun v u s2 x y H2 I2 rx ry q => ?_)
  obtain ⟨p, dx, fs, i, rfl, h1, rfl, hsp⟩ := q
  cases rx
  obtain ⟨t, rfl⟩ := ry
  obtain ⟨_, od, J⟩ := Inv.inst I2 h1
  obtain ⟨m, hF⟩ := I2.fr
  obtain ⟨⟨rc, r1, r2⟩, ⟨fo, e1⟩, ⟨ro, e2⟩, hsub⟩ := wi
  refine PySem.W.ksp_binT hF I2.ok.mod.kin J (T := "int") rfl w2.fst w2.s w2.fn r1 r2 e1 e2 hsub (wpAny_mono (run_fnSD (us := [.ref p, .int i t]) (vs := [.ref p, .int i]) F hr hb .nil (hx σ) I2 (.cons rfl (.cons ⟨t, rfl⟩ .nil)) hsp) (fun _ _ h => EP.back h) fun _ _ h => h)
/-- the ints' own part in it: they decline -/
def Declines (op : Operator) : Prop := ∃ (id : String) (B : Builtin), fillsNumberSlot (.type "int") op.info.2 = pure true ∧ Nonempty (PLift (Slot "int" (PySem.dunder op.info.2) id)) ∧ entryFor table id = some B ∧ (∀ i t x, argsOk id ⟨[.int i t, .ref x], []⟩) ∧
  ∀ (prog : Program) (w : World) (s : Shared) (C x dx : Addr) (i : Int) (t : Tok), s.heap.get? x = some (PySem.W.instObj C dx) → ∀ (A : Around) (E : Value → Shared → Prop) (Q : Fin → Shared → Prop), Q (.done (.ret .notImplemented)) s → wpAny (model prog w) A (B ⟨[.int i t, .ref x], []⟩) Q E s
theorem decl_add : Declines .Add := ⟨_, _, F.fills_int_add, ⟨⟨F.slot_int_add⟩⟩, F.entry_int_add, fun _ _ _ => F.args_int_add_2 _ _, fun _ _ _ _ _ _ _ _ hx A E Q h => PySem.W.dl_decAdd hx A E Q h⟩
theorem decl_sub : Declines .Sub := ⟨_, _, F.fills_int_sub, ⟨⟨F.slot_int_sub⟩⟩, F.entry_int_sub, fun _ _ _ => F.args_int_sub_2 _ _, fun _ _ _ _ _ _ _ _ hx A E Q h => PySem.W.dl_decSub hx A E Q h⟩
theorem decl_mul : Declines .Mult := ⟨_, _, F.fills_int_mul, ⟨⟨F.slot_int_mul⟩⟩, F.entry_int_mul, fun _ _ _ => F.args_int_mul_2 _ _, fun _ _ _ _ _ _ _ _ hx A E Q h => PySem.W.dl_decMul hx A E Q h⟩
theorem pe_ownIL (d : Declines op) (w2 : Own2R X.K C g op) (F : FnOk X.prog X.w X.K X.mg X.base CX k g fd ps sp) (hr : Room k X.A) (hb : Binds X.K fd ps []) (hx : ∀ σ, PassesAt CX X σ (E σ)) (ha : PE X a ta) (hb' : PE X b tb) : PE X (.BinOp a op b pos) (tOwnIL C sp E ta tb) := by
  refine ⟨fun pins s σ H Q I h => ?_⟩
  refine wpAny_BinOp (bin ha hb' I h fun v u s2 x y H2 I2 rx ry q => ?_)
  obtain ⟨p, dx, fs, i, rfl, rfl, h1, hsp⟩ := q
  cases ry
  obtain ⟨t, rfl⟩ := rx
  obtain ⟨ho, od, J⟩ := Inv.inst I2 h1
  obtain ⟨m, hF⟩ := I2.fr
  obtain ⟨id, B, d1, ⟨⟨d2⟩⟩, d3, d4, d5⟩ := d
  obtain ⟨f0, hs⟩ := w2.s
  refine PySem.W.dl_binR hF I2.ok.mod.kin J w2.fst hs w2.r w2.fn w2.sub d1 d2 d3 (d4 _ _ _) (d5 X.prog X.w s2 C p dx i t ho) (wpAny_mono (run_fnSD (us := [.ref p, .int i t]) (vs := [.ref p, .int i]) F hr hb .nil (hx σ) I2 (.cons rfl (.cons ⟨t, rfl⟩ .nil)) hsp) (fun _ _ h => EP.back h) fun _ _ h => h)

def isIns (k : Nat) : D → Bool
  | .ins k' _ => k' == k
  | _ => false
def isInt : D → Bool
  | .int _ => true
  | _ => false
def fOwn2 (p1 p2 : D → Bool) (sw : Bool) (m : Fn) (fa fb : FE) : FE := fun e => (fa e).bind fun r => (fb r.2).bind fun q => match lookT r.1.seal q.2, lookT q.1.seal q.2 with
  | some d1, some d2 => if p1 d1 && p2 d2 then (Res.of (escN [] (if sw then [q.1.seal, r.1.seal] else [r.1.seal, q.1.seal]) q.2)).bind fun q => callM [] m q.1 q.2 else .stuck
  | _, _ => .stuck
theorem isIns_eq {d : D} (h : isIns k d = true) : ∃ ds, d = .ins k ds := by
  cases d <;> try cases h
  exact ⟨_, by rw [show _ = k from beq_iff_eq.mp h]⟩
theorem isInt_eq {d : D} (h : isInt d = true) : ∃ i, d = .int i := by
  cases d <;> try cases h
  exact ⟨_, rfl⟩
theorem sn_own2 {R : L2.St → V → V → Hp → VK → Prop} {p1 p2 : D → Bool} {sw : Bool} (hR : ∀ σ x y H2 Q F d1 d2, Ex F H2 → View c F H2 d1 x → View c F H2 d2 y → p1 d1 = true → p2 d2 = true → spD c 2 m (if sw then [y, x] else [x, y]) H2 Q (WE W σ) → R σ x y H2 Q)
    (ha : SndE c W ta fa) (hb : SndE c W tb fb) : SndE c W (fun σ H Q => ta σ H fun x H1 => tb σ H1 fun y H2 => R σ x y H2 Q) (fOwn2 p1 p2 sw m fa fb) := fun z σ H F e Q I h => by
  unfold fOwn2 at h
  rw [Wp.bind] at h
  refine ha z σ H F e _ I (h.mono (fun r _ h v H1 F1 x1 I1 t1 => ?_) fun _ _ h => h)
  obtain ⟨F2, x2, J, t2⟩ := t1.seal I1
  rw [Wp.bind] at h
  refine hb z σ H1 F2 _ _ J (h.mono (fun q _ h w H3 F3 x3 I3 t3 => ?_) fun _ _ h => h.mono (x1.trans x2))
  obtain ⟨F4, x4, K, t4⟩ := t3.seal I3
  have t2' : TR c z F4 H3 σ q.2 r.1.seal v := t2.keep (x3.trans x4)
  cases h1 : lookT r.1.seal q.2 with
  | none => rw [h1] at h; exact h.elim
  | some d1 =>
    cases h2 : lookT q.1.seal q.2 with
    | none => rw [h1, h2] at h; exact h.elim
    | some d2 =>
      rw [h1, h2] at h
      dsimp only at h
      split at h
      · rename_i hp
        obtain ⟨hp1, hp2⟩ := Bool.and_eq_true_iff.mp hp
        refine hR σ v w H3 Q F4 d1 d2 K.fh (t2'.view K h1) (t4.view K h2) hp1 hp2 ?_
        rw [Wp.bind] at h
        obtain ⟨⟨ts, e3⟩, l, g⟩ := Wp.of h
        have xx := (x1.trans x2).trans (x3.trans x4)
        cases sw with
        | false =>
          have t5 : TRs c z F4 H3 σ q.2 [r.1.seal, q.1.seal] [v, w] := ⟨v, [w], rfl, T.seal_seal _, t2', w, [], rfl, T.seal_seal _, t4, rfl⟩
          obtain ⟨G, x5, K2, t6⟩ := t5.escN K l
          have sc := sp_call (n := 2) (m := m) (dvs := []) (dds := []) (W := W) (Q := Q) K2 t6 rfl rfl (g.mono (fun r _ h v H' F' x' I' t' => h v H' F' ((xx.trans x5).trans x') I' t') fun _ _ h => h.mono (xx.trans x5))
          exact sc
        | true =>
          have t5 : TRs c z F4 H3 σ q.2 [q.1.seal, r.1.seal] [w, v] := ⟨w, [v], rfl, T.seal_seal _, t4, v, [], rfl, T.seal_seal _, t2', rfl⟩
          obtain ⟨G, x5, K2, t6⟩ := t5.escN K l
          have sc := sp_call (n := 2) (m := m) (dvs := []) (dds := []) (W := W) (Q := Q) K2 t6 rfl rfl (g.mono (fun r _ h v H' F' x' I' t' => h v H' F' ((xx.trans x5).trans x') I' t') fun _ _ h => h.mono (xx.trans x5))
          exact sc
      · exact h.elim
theorem de_ownLL {i : Nat} (tk : Takes X W) (hK : X.K = c.K) (w2 : Own2 c.K (c.cl i) f op) (F : FnOk X.prog X.w X.K X.mg X.base (L2.CX X.prog X.w) k f fd ps (spD c 2 m)) (hr : Room k X.A) (hb : Binds X.K fd ps []) (ha : DE X c W a ta fa) (hb' : DE X c W b tb fb) :
    DE X c W (.BinOp a op b pos) (tOwnLL (c.cl i) (spD c 2 m) (WE W) ta tb) (fOwn2 (isIns i) (isIns i) false m fa fb) :=
  ⟨pe_ownLL (hK ▸ w2) F hr hb (fun σ => passAt tk σ) ha.pe hb'.pe, sn_own2 (R := fun σ x y H2 Q => ∃ a dx fs b dy gs, x = .ref a ∧ H2 a = some (.ins (c.cl i) dx fs) ∧ y = .ref b ∧ H2 b = some (.ins (c.cl i) dy gs) ∧ spD c 2 m [x, y] H2 Q (WE W σ)) (fun σ x y H2 Q F d1 d2 e v1 v2 h1 h2 hs => by
    obtain ⟨ds, rfl⟩ := isIns_eq h1
    obtain ⟨es, rfl⟩ := isIns_eq h2
    obtain ⟨p, dx, vs, rfl, g1, _⟩ := v1.ins e
    obtain ⟨q, dy, ws, rfl, g2, _⟩ := v2.ins e
    exact ⟨p, dx, _, q, dy, _, rfl, g1, rfl, g2, hs⟩) ha.sn hb'.sn⟩
theorem de_ownLI {i : Nat} (tk : Takes X W) (hK : X.K = c.K) (w2 : Own2 c.K (c.cl i) f op) (wi : Own2I c.K (c.cl i) op) (F : FnOk X.prog X.w X.K X.mg X.base (L2.CX X.prog X.w) k f fd ps (spD c 2 m)) (hr : Room k X.A) (hb : Binds X.K fd ps []) (ha : DE X c W a ta fa) (hb' : DE X c W b tb fb) :
    DE X c W (.BinOp a op b pos) (tOwnLI (c.cl i) (spD c 2 m) (WE W) ta tb) (fOwn2 (isIns i) isInt false m fa fb) :=
  ⟨pe_ownLI (hK ▸ w2) (hK ▸ wi) F hr hb (fun σ => passAt tk σ) ha.pe hb'.pe, sn_own2 (R := fun σ x y H2 Q => ∃ a dx fs j, x = .ref a ∧ H2 a = some (.ins (c.cl i) dx fs) ∧ y = .int j ∧ spD c 2 m [x, y] H2 Q (WE W σ)) (fun σ x y H2 Q F d1 d2 e v1 v2 h1 h2 hs => by
    obtain ⟨ds, rfl⟩ := isIns_eq h1
    obtain ⟨j, rfl⟩ := isInt_eq h2
    obtain ⟨p, dx, vs, rfl, g1, _⟩ := v1.ins e
    exact ⟨p, dx, _, j, rfl, g1, v2.int, hs⟩) ha.sn hb'.sn⟩
theorem de_ownIL {i : Nat} (tk : Takes X W) (hK : X.K = c.K) (d : Declines op) (w2 : Own2R c.K (c.cl i) g op) (F : FnOk X.prog X.w X.K X.mg X.base (L2.CX X.prog X.w) k g fd ps (spD c 2 m)) (hr : Room k X.A) (hb : Binds X.K fd ps []) (ha : DE X c W a ta fa) (hb' : DE X c W b tb fb) :
    DE X c W (.BinOp a op b pos) (tOwnIL (c.cl i) (spD c 2 m) (WE W) ta tb) (fOwn2 isInt (isIns i) true m fa fb) :=
  ⟨pe_ownIL d (hK ▸ w2) F hr hb (fun σ => passAt tk σ) ha.pe hb'.pe, sn_own2 (R := fun σ x y H2 Q => ∃ b dy gs j, x = .int j ∧ y = .ref b ∧ H2 b = some (.ins (c.cl i) dy gs) ∧ spD c 2 m [y, x] H2 Q (WE W σ)) (fun σ x y H2 Q F d1 d2 e v1 v2 h1 h2 hs => by
    obtain ⟨j, rfl⟩ := isInt_eq h1
    obtain ⟨ds, rfl⟩ := isIns_eq h2
    obtain ⟨p, dx, vs, rfl, g1, _⟩ := v2.ins e
    exact ⟨p, dx, _, j, v1.int, rfl, g1, hs⟩) ha.sn hb'.sn⟩

/-! ### one operand -/
/-- the method of an operator of one operand -/
def un1 : UnaryOp → Str
  | .USub => "__neg__"
  | .UAdd => "__pos__"
  | .Invert => "__invert__"
  | .Not => "__bool__"
structure Own1 (K : PySem.W.Frag) (C f : Addr) (n : Str) : Prop where
  s : PySem.W.findIn K (.ref C) n = some (some (.ref f))
  fn : PySem.W.isFn K (.ref f) = true
def tOwn1 (C : Addr) (sp : Sp) (E : L2.St → XK) (ta : TE) : TE := fun σ H Q => ta σ H fun x H1 => ∃ a dx fs, x = .ref a ∧ H1 a = some (.ins C dx fs) ∧ sp [x] H1 Q (E σ)
theorem pe_own1 {o : UnaryOp} (ho : o = .USub ∨ o = .Invert) (w1 : Own1 X.K C f (un1 o)) (F : FnOk X.prog X.w X.K X.mg X.base CX k f fd ps sp) (hr : Room k X.A) (hb : Binds X.K fd ps []) (hx : ∀ σ, PassesAt CX X σ (E σ)) (ha : PE X a ta) : PE X (.UnaryOp o a pos) (tOwn1 C sp E ta) := by
  refine ⟨fun pins s σ H Q I h => ?_⟩
  refine PyProof.Rows.UnaryOp_ (thn (ha.run pins s σ H _ I h) fun v s1 ⟨x, H1, I1, r1, p, dx, fs, ex, h1, hsp⟩ => ?_)
  subst ex
  cases r1
  obtain ⟨_, od, J⟩ := Inv.inst I1 h1
  obtain ⟨m, hF⟩ := I1.fr
  have cl := run_fnSD (us := [.ref p]) (vs := [.ref p]) F hr hb .nil (hx σ) I1 (.cons rfl .nil) hsp
  rcases ho with rfl | rfl
  · exact PySem.W.ksp_neg hF I1.ok.mod.kin J w1.s w1.fn cl
  · exact PySem.W.ksp_inv hF I1.ok.mod.kin J w1.s w1.fn cl
def fOwn1 (i : Nat) (m : Fn) (fa : FE) : FE := fun e => (fa e).bind fun r => match lookT r.1.seal r.2 with
  | some d => if isIns i d then (Res.of (escN [] [r.1.seal] r.2)).bind fun q => callM [] m q.1 q.2 else .stuck
  | _ => .stuck
theorem sn_own1 {i : Nat} (ha : SndE c W ta fa) : SndE c W (tOwn1 (c.cl i) (spD c 1 m) (WE W) ta) (fOwn1 i m fa) := fun z σ H F e Q I h => by
  unfold fOwn1 at h
  rw [Wp.bind] at h
  refine ha z σ H F e _ I (h.mono (fun r _ h v H1 F1 x1 I1 t1 => ?_) fun _ _ h => h)
  obtain ⟨F2, x2, J, t2⟩ := t1.seal I1
  cases h1 : lookT r.1.seal r.2 with
  | none => rw [h1] at h; exact h.elim
  | some d =>
    rw [h1] at h
    dsimp only at h
    split at h
    · rename_i hp
      obtain ⟨ds, rfl⟩ := isIns_eq hp
      obtain ⟨p, dx, vs, rfl, g1, _⟩ := (t2.view J h1).ins J.fh
      refine ⟨p, dx, _, rfl, g1, ?_⟩
      rw [Wp.bind] at h
      obtain ⟨⟨ts, e3⟩, l, g⟩ := Wp.of h
      have t5 : TRs c z F2 H1 σ r.2 [r.1.seal] [V.ref p] := ⟨_, [], rfl, T.seal_seal _, t2, rfl⟩
      obtain ⟨G, x5, K2, t6⟩ := t5.escN J l
      have sc := sp_call (n := 1) (m := m) (dvs := []) (dds := []) (W := W) (Q := Q) K2 t6 rfl rfl (g.mono (fun r _ h v H' F' x' I' t' => h v H' F' (((x1.trans x2).trans x5).trans x') I' t') fun _ _ h => h.mono ((x1.trans x2).trans x5))
      exact sc
    · exact h.elim
theorem de_own1 {i : Nat} {o : UnaryOp} (ho : o = .USub ∨ o = .Invert) (tk : Takes X W) (hK : X.K = c.K) (w1 : Own1 c.K (c.cl i) f (un1 o)) (F : FnOk X.prog X.w X.K X.mg X.base (L2.CX X.prog X.w) k f fd ps (spD c 1 m)) (hr : Room k X.A) (hb : Binds X.K fd ps []) (ha : DE X c W a ta fa) :
    DE X c W (.UnaryOp o a pos) (tOwn1 (c.cl i) (spD c 1 m) (WE W) ta) (fOwn1 i m fa) := ⟨pe_own1 ho (hK ▸ w1) F hr hb (fun σ => passAt tk σ) ha.pe, sn_own1 ha.sn⟩
end
end DL

/-! DL, part l: == and != that a class of one's own defines (its != is the built-in one over its ==). -/
namespace PySem.W
open PySem PySem.Calls PyProof.Rows
section
variable {prog : Program} {w : World} {A : Around} {E : Value → Shared → Prop} {s : Shared} {K : Frag} {x C L f : Addr} {h₀ : Heap} {m : Str → Option Value} {ox : Obj} {od : Option Obj} {b tb : Value} {name : Str}
theorem dl_ifBoundB {M : Model} {id : String} {args : List Value} {Q : Option Value → Shared → Prop} (X : K.In s.heap) (I : InstAt s.heap x ox C od) (hs : findIn K (.ref C) name = some (some (.builtin id)))
    (hb : ∀ self, bindSpecial (.builtin id) self = pure (.builtin id, [self]))
    (h : wpAny M A (call (.builtin id) (.ref x :: args)) (fun v => Q (some v)) E s) : wpAny M A (callSpecialIfBound? (.ref x) name args) Q E s := by
  simp only [callSpecialIfBound?, bindSpecialIfBound?]
  refine wpAny_holding (wpAny_bind (wpAny_bind (wpAny_bind (I.type.here ((looks_findIn X hs).here ?_)))))
  refine wpAny_bind (wpAny_askSetting (wpAny_ite ?_))
  have fin : wpAny M A (call (.builtin id) ([.ref x] ++ args) >>= fun v => pure (some v)) Q E s := wpAny_bind (wpAny_mono h (fun v s' h' => wpAny_pure h') fun _ _ h' => h')
  split
  · exact wpAny_bind ((Looks.of_pure (hb _)).here (wpAny_pure (by exact fin)))
  · exact wpAny_tryCatch (wpAny_bind ((Looks.of_pure (hb _)).here (wpAny_pure (by exact fin))))
open Builtin in
theorem dl_ne {Q : Value → Shared → Prop} (hu : A.units < cLine) (hu1 : A.in1.units < cLine) (F : Fr h₀ L s.heap m) (X₀ : K.In h₀) (I : InstAt s.heap x ox C od) (hb : Looks (model prog w) s.heap (typeOf b) tb) (hn : notFirst K C tb = true)
    (hm : mroIn K C (.type "object") = some true) (hs : findIn K (.ref C) "__ne__" = some (some (.builtin "object.__ne__"))) (he : findIn K (.ref C) "__eq__" = some (some (.ref f))) (hf : isFn K (.ref f) = true)
    (h : wpAny (model prog w) A.in1 (call (.ref f) [.ref x, b]) (fun v s' => ∃ k, v = .bool k ∧ Q (.bool (!k)) s') E s) : wpAny (model prog w) A (richCompare .NotEq (.ref x) b) Q E s := by
  have X := X₀.keeps F.keep
  have one : wpAny (model prog w) A (tryCompare (.ref x) (cmpInfo .NotEq).2.1 b) (fun r s' => ∃ v, r = some v ∧ Q v s') E s := by
    unfold tryCompare
    refine wpAny_bind (dl_ifBoundB X I (name := (cmpInfo .NotEq).2.1) hs PySem.F.slot_object_ne.bind ?_)
    refine wpAny_call (codeAny_call_builtin PySem.F.slot_object_ne.plain PySem.F.entry_object_ne (check_slot (i := "object.__ne__") (owner := "object") (n := "__ne__") (by decide +kernel) (by decide +kernel) (I.type.andThen (looks_mroIn X hm)) (PySem.F.args_object_ne_2 _ _) ?_))
    unfold Builtin.«object.__ne__»
    refine wpAny_bind (m := slotArgs "__ne__" 1 _) (wpAny_pure ?_)
    refine wpAny_bind (m := cRoomFor _ _) (wpAny_cRoomFor hu1 ?_)
    refine wpAny_bind (m := callSpecialIfBound? (.ref x) (Str.ofString "__eq__") _) (ifBound_K X I he hf (wpAny_mono h (fun r s' hq => ?_) fun _ _ y => y))
    obtain ⟨k, rfl, hq⟩ := hq
    refine wpAny_bind (m := truthy (.bool k)) (wpAny_truthy_bool ?_)
    exact wpAny_pure (wpAny_pure ⟨_, rfl, hq⟩)
  unfold richCompare
  simp only [oneThing_ref]
  refine wpAny_holding (wpAny_bind (wpAny_cRoomFor hu ?_))
  refine wpAny_bind (I.type.here (wpAny_bind (hb.here ?_)))
  split
  · rename_i q
    have e : subIn K tb (.ref C) = some false := by
      rcases Bool.or_eq_true_iff.mp hn with e | e
      · rw [beq_iff_eq.mp e] at q; simp at q
      · exact beq_iff_eq.mp e
    refine wpAny_bind ((looks_subIn X e).here ?_)
    simp only [Bool.false_eq_true, if_false]
    refine wpAny_bind (wpAny_mono one (fun r s' z => ?_) fun _ _ e => e)
    obtain ⟨v, rfl, hq⟩ := z
    exact wpAny_pure hq
  · refine wpAny_bind (wpAny_pure ?_)
    simp only [Bool.false_eq_true, if_false]
    refine wpAny_bind (wpAny_mono one (fun r s' z => ?_) fun _ _ e => e)
    obtain ⟨v, rfl, hq⟩ := z
    exact wpAny_pure hq
end
end PySem.W

namespace DL
open PySem L2 Evl
section
variable {X : Cx} {c : Ct} {W : WX} {k n j : Nat} {f g C : Addr} {fd : FuncData} {ps : List Str} {m : Fn} {p pos apos : Pos} {a b o : Expr} {ta tb : TE} {fa fb : FE} {sp : Sp} {E : L2.St → XK} {CX : CXT}

/-- the class's own == -/
structure OwnE (K : PySem.W.Frag) (C f : Addr) : Prop where
  s : PySem.W.findIn K (.ref C) "__eq__" = some (some (.ref f))
  fn : PySem.W.isFn K (.ref f) = true
/-- .. and the != that is built in -/
structure OwnN (K : PySem.W.Frag) (C : Addr) : Prop where
  n : PySem.W.findIn K (.ref C) "__ne__" = some (some (.builtin "object.__ne__"))
  m : PySem.W.mroIn K C (.type "object") = some true
/-- what may stand on the right -/
def eqR (tbl : Nat → Bool) (bt : String → Bool) : D → Bool
  | .non => bt "NoneType"
  | .bl _ => bt "bool"
  | .int _ => bt "int"
  | .str _ => bt "str"
  | .lst _ => bt "list"
  | .tup _ => bt "tuple"
  | .rol _ => false
  | .ins k _ => tbl k
  | .dct _ _ _ => false
def EqROk (c : Ct) (C : Addr) (tbl : Nat → Bool) (bt : String → Bool) : Prop := (∀ T, bt T = true → PySem.W.notFirst c.K C (.type T) = true) ∧ ∀ k, tbl k = true → InsT c.K (c.cl k) ∧ PySem.W.notFirst c.K C (.ref (c.cl k)) = true
theorem eqR_ty {tbl : Nat → Bool} {bt : String → Bool} (ok : EqROk c C tbl bt) {F H : Hp} {d : D} {v : V} (x : Ex F H) (k : View c F H d v) (h : eqR tbl bt d = true) : ∃ t, TyX c.K H v t ∧ PySem.W.notFirst c.K C t = true := by
  cases d with
  | non => rw [k.non]; exact ⟨_, .base .non, ok.1 _ h⟩
  | bl i => rw [k.bl]; exact ⟨_, .base (.bl i), ok.1 _ h⟩
  | int i => rw [k.int]; exact ⟨_, .base (.int i), ok.1 _ h⟩
  | str i => rw [k.str]; exact ⟨_, .base (.str i), ok.1 _ h⟩
  | lst ds => obtain ⟨p, vs, rfl, h1, _⟩ := k.lst x; exact ⟨_, .base (.lst h1), ok.1 _ h⟩
  | tup ds => obtain ⟨p, vs, rfl, h1, _⟩ := k.tup x; exact ⟨_, SqT.tyX h1, ok.1 _ h⟩
  | rol ds => cases h
  | dct t ks ds => cases h
  | ins j ds =>
    obtain ⟨p, dx, vs, rfl, h1, _⟩ := k.ins x
    obtain ⟨i, h2⟩ := ok.2 j h
    exact ⟨_, .base (.ins h1 i.cl i.ha i.hn i.ht i.hm), h2⟩
/-- an operation of two operands, by the frame's slots -/
def OpS (X : Cx) (f : Value → Value → Sem Value) (r : L2.St → R2) : Prop :=
  ∀ (pins : List (Addr × Obj)) (s : Shared) (σ : L2.St) (H : Hp) (x y : V) (v u : Value) (Q : VK), Inv X pins σ H s → RelV x v → RelV y u → r σ x y H Q →
    wpAny (model X.prog X.w) X.A (f v u) (EP X pins σ Q) X.xe s
def tOpS (r : L2.St → R2) (ta tb : TE) : TE := fun σ H Q => ta σ H fun x H1 => tb σ H1 fun y H2 => r σ x y H2 Q
theorem pe_cmpS {op : CmpOp} {r : L2.St → R2} (ho : OpS X (compareOp op) r) (ha : PE X a ta) (hb : PE X b tb) (hm : behindInMarks op b = false) : PE X (.Compare a [op] [b] pos) (tOpS r ta tb) := by
  refine ⟨fun pins s σ H Q I h => ?_⟩
  exact wpAny_Compare1 (binT ha hb I h fun v u s2 x y H2 I2 rx ry q => ho pins s2 σ H2 x y v u Q I2 rx ry q) hm
theorem pt_cmpS {op : CmpOp} {r : L2.St → R2} (ho : OpS X (compareOp op) r) (ha : PE X a ta) (hb : PE X b tb) (hm : behindInMarks op b = false) : PT X (.Compare a [op] [b] pos) (tTest (tOpS r ta tb)) := by
  refine ⟨fun pins s σ H Q I h => ?_⟩
  refine wpAny_isTrue_Compare1 (thn (ha.run pins s σ H _ I h) fun v s1 ⟨x, H1, I1, r1, q1⟩ => thn (hb.run pins s1 σ H1 _ I1 q1) fun u s2 ⟨y, H2, I2, r2, q2⟩ =>
    thn (ho pins s2 σ H2 x y v u _ I2 r1 r2 q2) fun c s3 ⟨z, H3, I3, r3, k, e, q3⟩ => ?_) hm
  subst e
  cases r3
  exact wpAny_truthy_bool ⟨H3, I3, q3⟩
def rOwnE (K : PySem.W.Frag) (C : Addr) (sp : Sp) (E : L2.St → XK) : L2.St → R2 := fun σ x y H2 Q => ∃ a dx fs t, x = .ref a ∧ H2 a = some (.ins C dx fs) ∧ TyX K H2 y t ∧ PySem.W.notFirst K C t = true ∧ sp [x, y] H2 Q (E σ)
def rOwnN (K : PySem.W.Frag) (C : Addr) (sp : Sp) (E : L2.St → XK) : L2.St → R2 := fun σ x y H2 Q => ∃ a dx fs t, x = .ref a ∧ H2 a = some (.ins C dx fs) ∧ TyX K H2 y t ∧ PySem.W.notFirst K C t = true ∧ sp [x, y] H2 (fun v H3 => ∃ b, v = .bl b ∧ Q (.bl (!b)) H3) (E σ)
theorem ops_ownE (w : OwnE X.K C f) (F : FnOk X.prog X.w X.K X.mg X.base CX k f fd ps sp) (hr : Room k X.A) (hb : Binds X.K fd ps []) (hx : ∀ σ, PassesAt CX X σ (E σ)) : OpS X (compareOp .Eq) (rOwnE X.K C sp E) := by
  intro pins s σ H x y v u Q I rx ry q
  obtain ⟨p, dx, fs, t, rfl, h1, ty, nf, hsp⟩ := q
  cases rx
  obtain ⟨_, od, J⟩ := Inv.inst I h1
  obtain ⟨m, hF⟩ := I.fr
  obtain ⟨P, kit, hP, _⟩ := kit_of I ry ty
  have cl := run_fnSD (us := [.ref p, u]) (vs := [.ref p, y]) F hr hb .nil (hx σ) I (.cons rfl (.cons ry .nil)) hsp
  show wpAny _ _ (compareOp .Eq (.ref p) u) _ _ _
  unfold compareOp
  exact PySem.W.cmp_K hr.units0 hF I.ok.mod.kin J (kit.ty _ _ I.kIn hP) nf w.s w.fn (wpAny_mono cl (fun _ _ h => EP.back h) fun _ _ h => h)
theorem ops_ownN (w : OwnE X.K C f) (wn : OwnN X.K C) (F : FnOk X.prog X.w X.K X.mg X.base CX k f fd ps sp) (hr : Room (k + 1) X.A) (hb : Binds X.K fd ps []) (hx : ∀ σ, PassesAt CX X σ (E σ)) : OpS X (compareOp .NotEq) (rOwnN X.K C sp E) := by
  intro pins s σ H x y v u Q I rx ry q
  obtain ⟨p, dx, fs, t, rfl, h1, ty, nf, hsp⟩ := q
  cases rx
  obtain ⟨_, od, J⟩ := Inv.inst I h1
  obtain ⟨m, hF⟩ := I.fr
  obtain ⟨P, kit, hP, _⟩ := kit_of I ry ty
  have r2 : Vals [V.ref p, y] [Value.ref p, u] := .cons rfl (.cons ry .nil)
  have hl := F.len _ _ _ _ hsp
  show wpAny _ _ (compareOp .NotEq (.ref p) u) _ _ _
  unfold compareOp
  refine PySem.W.dl_ne hr.units0 hr.in1.units0 hF I.ok.mod.kin J (kit.ty _ _ I.kIn hP) nf wn.m wn.n w.s w.fn ?_
  refine wpAny_call (codeAny_mono (F.run X.A.in1 X.stack s H ⟨[.ref p, u], []⟩ [.ref p, u] [.ref p, y] _ (E σ) hr.in1 I.env0.in1 (by
    have := hb s [.ref p, u] I.kIn (by simpa using hl)
    simpa using this) r2 hsp) fun r s' hq => ?_)
  cases r with
  | error e => exact hx σ pins H s e s' I hq
  | ok fl =>
    cases fl with
    | ret u =>
      obtain ⟨v', H', I', rv, b, eb, q'⟩ := I.after hq
      subst eb
      cases rv
      exact ⟨b, rfl, V.bl (!b), H', I', rfl, q'⟩
    | next => exact False.elim hq
    | brk => exact False.elim hq
    | cont => exact False.elim hq
/-- .. on data -/
def fOwnE (i : Nat) (P : D → Bool) (m : Fn) (fa fb : FE) : FE := fOwn2 (isIns i) P false m fa fb
def fOwnN (i : Nat) (P : D → Bool) (m : Fn) (fa fb : FE) : FE := fun e => (fOwn2 (isIns i) P false m fa fb e).bind fun r => match r.1 with
  | .vl (.bl b) => .ok (.vl (.bl (!b)), r.2)
  | _ => .stuck
theorem sn_ownE {i : Nat} {tbl : Nat → Bool} {bt : String → Bool} (ok : EqROk c (c.cl i) tbl bt) (ha : SndE c W ta fa) (hb : SndE c W tb fb) : SndE c W (tOpS (rOwnE c.K (c.cl i) (spD c 2 m) (WE W)) ta tb) (fOwnE i (eqR tbl bt) m fa fb) :=
  sn_own2 (R := fun σ x y H2 Q => rOwnE c.K (c.cl i) (spD c 2 m) (WE W) σ x y H2 Q) (fun σ x y H2 Q F d1 d2 e v1 v2 h1 h2 hs => by
    obtain ⟨ds, rfl⟩ := isIns_eq h1
    obtain ⟨p, dx, vs, rfl, g1, _⟩ := v1.ins e
    obtain ⟨t, ty, nf⟩ := eqR_ty ok e v2 h2
    exact ⟨p, dx, _, t, rfl, g1, ty, nf, hs⟩) ha hb
theorem sn_ownN {i : Nat} {tbl : Nat → Bool} {bt : String → Bool} (ok : EqROk c (c.cl i) tbl bt) (ha : SndE c W ta fa) (hb : SndE c W tb fb) : SndE c W (tOpS (rOwnN c.K (c.cl i) (spD c 2 m) (WE W)) ta tb) (fOwnN i (eqR tbl bt) m fa fb) := fun z σ H F e Q I h => by
  unfold fOwnN at h
  rw [Wp.bind] at h
  exact sn_own2 (R := fun σ x y H2 Q => ∃ a dx fs t, x = .ref a ∧ H2 a = some (.ins (c.cl i) dx fs) ∧ TyX c.K H2 y t ∧ PySem.W.notFirst c.K (c.cl i) t = true ∧ spD c 2 m [x, y] H2 Q (WE W σ)) (fun σ x y H2 Q F d1 d2 e v1 v2 h1 h2 hs => by
    obtain ⟨ds, rfl⟩ := isIns_eq h1
    obtain ⟨p, dx, vs, rfl, g1, _⟩ := v1.ins e
    obtain ⟨t, ty, nf⟩ := eqR_ty ok e v2 h2
    exact ⟨p, dx, _, t, rfl, g1, ty, nf, hs⟩) ha hb z σ H F e (fun v H3 => ∃ b, v = .bl b ∧ Q (.bl (!b)) H3) I (h.mono (fun r _ h v H' F' x' I' t' => by
      obtain ⟨t, e1⟩ := r
      dsimp only at h
      split at h
      · rename_i b q
        exact ⟨b, t', h _ H' F' x' I' rfl⟩
      · exact h.elim) fun _ _ h => h)
theorem de_ownE {i : Nat} {tbl : Nat → Bool} {bt : String → Bool} (tk : Takes X W) (hK : X.K = c.K) (w : OwnE c.K (c.cl i) f) (ok : EqROk c (c.cl i) tbl bt) (F : FnOk X.prog X.w X.K X.mg X.base (L2.CX X.prog X.w) k f fd ps (spD c 2 m)) (hr : Room k X.A) (hb : Binds X.K fd ps []) (ha : DE X c W a ta fa) (hb' : DE X c W b tb fb) (hm : behindInMarks .Eq b = false := by rfl) :
    DE X c W (.Compare a [.Eq] [b] pos) (tOpS (rOwnE c.K (c.cl i) (spD c 2 m) (WE W)) ta tb) (fOwnE i (eqR tbl bt) m fa fb) :=
  ⟨pe_cmpS (hK ▸ ops_ownE (hK ▸ w) F hr hb fun σ => passAt tk σ) ha.pe hb'.pe hm, sn_ownE ok ha.sn hb'.sn⟩
theorem dt_ownE {i : Nat} {tbl : Nat → Bool} {bt : String → Bool} (tk : Takes X W) (hK : X.K = c.K) (w : OwnE c.K (c.cl i) f) (ok : EqROk c (c.cl i) tbl bt) (F : FnOk X.prog X.w X.K X.mg X.base (L2.CX X.prog X.w) k f fd ps (spD c 2 m)) (hr : Room k X.A) (hb : Binds X.K fd ps []) (ha : DE X c W a ta fa) (hb' : DE X c W b tb fb) (hm : behindInMarks .Eq b = false := by rfl) :
    DT X c W (.Compare a [.Eq] [b] pos) (tTest (tOpS (rOwnE c.K (c.cl i) (spD c 2 m) (WE W)) ta tb)) (fB (fOwnE i (eqR tbl bt) m fa fb)) :=
  ⟨pt_cmpS (hK ▸ ops_ownE (hK ▸ w) F hr hb fun σ => passAt tk σ) ha.pe hb'.pe hm, sn_B (fun _ _ _ h => h) (sn_ownE ok ha.sn hb'.sn)⟩
theorem de_ownN {i : Nat} {tbl : Nat → Bool} {bt : String → Bool} (tk : Takes X W) (hK : X.K = c.K) (w : OwnE c.K (c.cl i) f) (wn : OwnN c.K (c.cl i)) (ok : EqROk c (c.cl i) tbl bt) (F : FnOk X.prog X.w X.K X.mg X.base (L2.CX X.prog X.w) k f fd ps (spD c 2 m)) (hr : Room (k + 1) X.A) (hb : Binds X.K fd ps []) (ha : DE X c W a ta fa) (hb' : DE X c W b tb fb) (hm : behindInMarks .NotEq b = false := by rfl) :
    DE X c W (.Compare a [.NotEq] [b] pos) (tOpS (rOwnN c.K (c.cl i) (spD c 2 m) (WE W)) ta tb) (fOwnN i (eqR tbl bt) m fa fb) :=
  ⟨pe_cmpS (hK ▸ ops_ownN (hK ▸ w) (hK ▸ wn) F hr hb fun σ => passAt tk σ) ha.pe hb'.pe hm, sn_ownN ok ha.sn hb'.sn⟩
theorem dt_ownN {i : Nat} {tbl : Nat → Bool} {bt : String → Bool} (tk : Takes X W) (hK : X.K = c.K) (w : OwnE c.K (c.cl i) f) (wn : OwnN c.K (c.cl i)) (ok : EqROk c (c.cl i) tbl bt) (F : FnOk X.prog X.w X.K X.mg X.base (L2.CX X.prog X.w) k f fd ps (spD c 2 m)) (hr : Room (k + 1) X.A) (hb : Binds X.K fd ps []) (ha : DE X c W a ta fa) (hb' : DE X c W b tb fb) (hm : behindInMarks .NotEq b = false := by rfl) :
    DT X c W (.Compare a [.NotEq] [b] pos) (tTest (tOpS (rOwnN c.K (c.cl i) (spD c 2 m) (WE W)) ta tb)) (fB (fOwnN i (eqR tbl bt) m fa fb)) :=
  ⟨pt_cmpS (hK ▸ ops_ownN (hK ▸ w) (hK ▸ wn) F hr hb fun σ => passAt tk σ) ha.pe hb'.pe hm, sn_B (fun _ _ _ h => h) (sn_ownN ok ha.sn hb'.sn)⟩
end
end DL

/-! DL, part m: a call whose first argument is a new object that the callee may change; short names for the rules. -/
namespace DL
open PySem L2 Evl

section
variable {c : Ct} {z : Zs} {W : WX} {σ σ' : L2.St} {H H' F F' G : Hp} {e e' : DEnv} {p : Addr} {o : HO}
/-! ### an object put aside -/
def hideZ (z : Zs) (p : Addr) (o : HO) : Zs := ⟨upd z.H0 p o, z.F0, fun q => z.Bo q ∧ q ≠ p, z.V0⟩
theorem I2.hide (I : I2 c z σ H F e) (w : H p = some o) (hF : F p = none) (hr : ∀ i, ¬ RootAt σ e i p) : I2 c (hideZ z p o) σ H F e := by
  refine ⟨I.len, I.f0, I.fh, fun q u hq hb => ?_, fun i b h => ?_, I.dist, fun q h => I.bo q h.1, fun q h1 h2 => ?_, I.brv⟩
  · by_cases e : q = p
    · subst e
      have hq' : upd z.H0 q o q = some u := hq
      rw [upd_same] at hq'; cases hq'; exact w
    · have hq' : upd z.H0 p o q = some u := hq
      rw [upd_ne e] at hq'
      exact I.keep q u hq' fun hB => hb ⟨hB, e⟩
  · obtain ⟨v, hv, r⟩ := I.slot i b h
    refine ⟨v, hv, ?_⟩
    cases b with
    | sh d => exact r
    | ow d =>
      obtain ⟨q, rfl, w', h0⟩ := r
      have ne : q ≠ p := fun z => hr i ⟨_, h, rfl, z ▸ hv⟩
      exact ⟨q, rfl, w', by show upd z.H0 p o q = none; rw [upd_ne ne]; exact h0⟩
    | br d =>
      obtain ⟨q, rfl, w', hB⟩ := r
      have ne : q ≠ p := fun z => hr i ⟨_, h, rfl, z ▸ hv⟩
      exact ⟨q, rfl, w', hB, ne⟩
    | ex x => exact r
  · by_cases e : q = p
    · subst e; exact hF
    · have h1' : upd z.H0 p o q ≠ none := h1
      rw [upd_ne e] at h1'
      exact I.nf q h1' h2
theorem I2.unhide (I : I2 c (hideZ z p o) σ H F e) (h0 : z.H0 p = none) (hF : z.F0 p = none) : I2 c z σ H F e ∧ H p = some o ∧ F p = none ∧ ∀ i, ¬ RootAt σ e i p := by
  have hp : H p = some o := I.keep p o (by show upd z.H0 p o p = _; rw [upd_same]) fun h => h.2 rfl
  refine ⟨⟨I.len, I.f0, I.fh, fun q u hq hb => ?_, fun i b h => ?_, I.dist, fun q h => ?_, fun q h1 h2 => ?_, I.brv⟩, hp, I.nf p (by show upd z.H0 p o p ≠ none; rw [upd_same]; exact fun z => nomatch z) hF, fun i ⟨b, h1, h2, h3⟩ => ?_⟩
  · have e : q ≠ p := fun z => by rw [z, h0] at hq; cases hq
    exact I.keep q u (by show upd z.H0 p o q = _; rw [upd_ne e]; exact hq) fun h => hb h.1
  · obtain ⟨v, hv, r⟩ := I.slot i b h
    refine ⟨v, hv, ?_⟩
    cases b with
    | sh d => exact r
    | ow d =>
      obtain ⟨q, rfl, w', h1⟩ := r
      have h1' : upd z.H0 p o q = none := h1
      have ne : q ≠ p := fun z => by rw [z, upd_same] at h1'; cases h1'
      rw [upd_ne ne] at h1'
      exact ⟨q, rfl, w', h1'⟩
    | br d => obtain ⟨q, rfl, w', hB⟩ := r; exact ⟨q, rfl, w', hB.1⟩
    | ex x => exact r
  · by_cases e : q = p
    · subst e; exact ⟨o, hp⟩
    · exact I.bo q ⟨h, e⟩
  · have e : q ≠ p := fun z => h1 (by rw [z]; exact h0)
    exact I.nf q (by show upd z.H0 p o q ≠ none; rw [upd_ne e]; exact h1) h2
  · obtain ⟨v, hv, r⟩ := I.slot i b h1
    rw [h3] at hv; cases hv
    cases b with
    | sh d => cases h2
    | ow d =>
      obtain ⟨q, e, w', h1⟩ := r
      cases e
      have h1' : upd z.H0 p o p = none := h1
      rw [upd_same] at h1'; cases h1'
    | br d => obtain ⟨q, e, w', hB⟩ := r; cases e; exact hB.2 rfl
    | ex x => cases h2

def dropG (r : Res (T × DEnv)) : Res (T × DEnv) := match r with
  | .stuck => .stuck
  | .exc x e => .exc x e.dropLast
  | .ok (.sl _, _) => .stuck
  | .ok (.vl d, e) => .ok (.vl d, e.dropLast)
  | .ok (.nw d, e) => .ok (.nw d, e.dropLast)
/-- f(a new object, ..) -/
def fCallF (ms : List Bool) (dds : List D) (m : Fn) (f1 : FE) (fr : FA) : FE := fun e => (f1 e).bind fun r1 => match r1.1 with
  | .nw d => (fr r1.2).bind fun r => (Res.of (escN ms r.1 r.2)).bind fun q => dropG (callM dds m (.sl q.2.length :: q.1) (q.2 ++ [some (.ow d)]))
  | _ => .stuck
theorem sn_callF {n : Nat} {ms : List Bool} {m : Fn} {dvs : List V} {dds : List D} {t1 : TE} {f1 : FE} {ta : TA} {fa : FA} (hn : ∀ vs : List V, (∃ e r, fa e = .ok r ∧ r.1.length = vs.length) → vs.length + dvs.length + 1 = n) (hd : ∀ F, RpL c F dds dvs) (h1 : SndE c W t1 f1) (ha : SndA c W ta fa) :
    SndE c W (tCallSD (spD c n m) dvs (WE W) (tCons t1 ta)) (fCallF ms dds m f1 fa) := fun z σ H F e Q I h => by
  unfold fCallF at h
  rw [Wp.bind] at h
  refine h1 z σ H F e _ I (h.mono (fun r1 _ g v H1 F1 x1 I1 t1 => ?_) fun _ _ h => h)
  clear h
  obtain ⟨t, e1⟩ := r1
  cases t with
  | sl i => exact g.elim
  | vl d => exact g.elim
  | nw d =>
    obtain ⟨x, rfl, w, h0, hr⟩ := t1
    obtain ⟨o, ho⟩ := w.at
    have hF0 : z.F0 x = none := by
      cases q : z.F0 x with
      | none => rfl
      | some u => have := I1.f0 _ _ q; rw [w.1] at this; cases this
    dsimp only at g
    rw [Wp.bind] at g
    refine ha (hideZ z x o) σ H1 F1 e1 _ (I1.hide ho w.1 hr) (g.mono (fun r hrr g vs H2 F2 x2 K1 t2 => ?_) fun xv e' g cls dd H' F' x' K r => g cls dd H' F' (x1.trans x') (K.unhide h0 hF0).1 r)
    rw [Wp.bind] at g
    obtain ⟨⟨ts, e2⟩, l, g⟩ := Wp.of g
    obtain ⟨G, x3, J, t3⟩ := t2.escN K1 l
    obtain ⟨J0, hp, hG, nr⟩ := J.unhide h0 hF0
    have w2 : Own c G H2 d x := w.mono (x2.trans x3) hG fun u hu => by rw [ho] at hu; cases hu; exact hp
    have J2 := J0.ext w2 h0 nr
    have t3' : TRs c z G H2 σ e2 ts vs := by
      have key : ∀ {ts : List T} {vs : List V}, TRs c (hideZ z x o) G H2 σ e2 ts vs → TRs c z G H2 σ e2 ts vs := by
        intro ts
        induction ts with
        | nil => intro vs h; exact h
        | cons t ts ih =>
          intro vs ⟨v, r, q1, q2, q3, q4⟩
          refine ⟨v, r, q1, q2, ?_, ih q4⟩
          cases t with
          | sl i => exact q3
          | vl d => exact q3
          | nw d => cases q2
      exact key t3
    have t4 : TRs c z G H2 (σ ++ [some (.ref x)]) (e2 ++ [some (.ow d)]) (.sl e2.length :: ts) (.ref x :: vs) :=
      ⟨_, _, rfl, rfl, by show (σ ++ [some (V.ref x)])[e2.length]? = _; rw [J.len]; simp, TRs.ext t3'⟩
    have sc := sp_call (n := n) (m := m) (dvs := dvs) (dds := dds) (W := fun cls dd _ H => W cls dd σ H) (Q := Q) J2 t4 (by
      have := hn vs ⟨_, r, hrr, t2.len⟩
      simp; omega) (hd G) ?_
    · exact sc
    · have hln : ∀ {e' : DEnv} {H' F' : Hp}, I2 c z (σ ++ [some (V.ref x)]) H' F' e' → e'.length = e2.length + 1 := fun {e' H' F'} K => by rw [K.len]; simp [J.len]
      cases hq : callM dds m (.sl e2.length :: ts) (e2 ++ [some (.ow d)]) with
      | stuck => rw [hq] at g; exact g.elim
      | exc xv e' =>
        rw [hq] at g
        intro cls dd H' F' x' K r'
        obtain ⟨e0, b, rfl, l0, ed, _⟩ := drop_last_of (hln K)
        have K0 := K.unext
        have g' : Xp c z W σ F xv (List.dropLast (e0 ++ [b])) := g
        rw [ed] at g'
        exact g' cls dd H' F' (((x1.trans x2).trans x3).trans x') K0 r'
      | ok r' =>
        rw [hq] at g
        obtain ⟨t, e'⟩ := r'
        intro v H' F' x' K t'
        obtain ⟨e0, b, rfl, l0, ed, eg⟩ := drop_last_of (hln K)
        have K0 := K.unext
        cases t with
        | sl i => exact g.elim
        | nw d' =>
          have g' : ∀ v H' F', Ex F F' → I2 c z σ H' F' (List.dropLast (e0 ++ [b])) → TR c z F' H' σ (List.dropLast (e0 ++ [b])) (.nw d') v → Q v H' := g
          rw [ed] at g'
          obtain ⟨q, rfl, w', h0', hn'⟩ := t'
          refine g' _ H' F' (((x1.trans x2).trans x3).trans x') K0 ⟨q, rfl, w', h0', fun i ⟨b', q1, q2, q3⟩ => hn' i ⟨b', ?_, q2, ?_⟩⟩
          · show (e0 ++ [b])[i]? = _
            rw [List.getElem?_append_left (get_lt q1)]; exact q1
          · rw [List.getElem?_append_left (get_lt q3)]; exact q3
        | vl d' =>
          have g' : ∀ v H' F', Ex F F' → I2 c z σ H' F' (List.dropLast (e0 ++ [b])) → TR c z F' H' σ (List.dropLast (e0 ++ [b])) (.vl d') v → Q v H' := g
          rw [ed] at g'
          exact g' v H' F' (((x1.trans x2).trans x3).trans x') K0 t'
end

section
variable {X : Cx} {c : Ct} {W : WX} {k n j : Nat} {f C : Addr} {fd : FuncData} {ps : List Str} {m : Fn} {x y : Str} {p pos apos : Pos} {a b o : Expr} {es : List Expr} {ta tb to : TE} {tr : TA} {fa fb fo : FE} {fr : FA} {dvs : List V} {ds : List Value} {dds : List D} {ms : List Bool} {i : Nat}
theorem de_callF (tk : Takes X W) (F : FnOk X.prog X.w X.K X.mg X.base (CX X.prog X.w) k f fd ps (spD c n m)) (hr : Room k X.A) (hg : Gl X x) (hm : X.mg x = some (.ref f)) (hk : PySem.W.keepIn X.K (.ref f) = true) (hb : Binds X.K fd ps ds) (hd : Vals dvs ds) (hdd : ∀ F, RpL c F dds dvs)
    (hlen : LenA fr j) (hn : j + dvs.length + 1 = n) (h1 : DE X c W a ta fa) (ha : DA X c W es tr fr) (hs : starEach (a :: es) X.env = (false, eval a X.env) :: starEach es X.env := by rfl) (hdb : (x == ("__debug__" : Str)) = false := by decide) (hpl : (backTo pos (starEach es X.env)).any (·.1) = false := by rfl) :
    DE X c W (.Call (.Name x p) (a :: es) [] pos) (tCallSD (spD c n m) dvs (WE W) (tCons ta tr)) (fCallF ms dds m fa fr) :=
  ⟨pe_callSD F hr hg hm hk hb hd (fun σ => passAt tk σ) (pa_cons h1.pe ha.pa hs) hdb hs hpl, sn_callF (fun vs ⟨e, r, q1, q2⟩ => by rw [← q2, hlen e r q1]; exact hn) hdd h1.sn ha.sn⟩

/-! ### short names -/
theorem de_v (i : Nat) {x : Str} {pos : Pos} (hN : X.N[i]? = some x := by rfl) (hv : Vis X.env.scope x := by first | exact Or.inl rfl | exact Or.inr (Or.inl rfl) | exact Or.inr (Or.inr rfl)) (hd : (x == ("__debug__" : Str)) = false := by decide)
    (hcd : (x == ("__classdict__" : Str)) = false := by decide) : DE X c W (.Name x pos) (tVar i) (fVar i) := de_var i (pe_var hN hv hd hcd)
/-- xs.append(e) and kin, xs a name -/
theorem de_app {j : Nat} (ho : PE X o (tVar j)) (hK : X.K = c.K) (ha : DE X c W a ta fa)
    (hbase : attributeBase o "append" X.env (eval o X.env) = eval o X.env := by rfl)
    (hfew : ((backTo pos (starEach [a] X.env)).all (fun x => !x.1) && (backToKw pos (keywordEach [] X.env)).all (fun x => x.1.isSome)
      && decide (([a] : List Expr).length + ([] : List Keyword).length + (if ([] : List Keyword).isEmpty then 0 else 1) < 30)) = true := by rfl)
    (hline : (apos.endLine == pos.line) = true := by rfl) (hs : starEach [a] X.env = (false, eval a X.env) :: starEach [] X.env := by rfl) :
    DE X c W (.Call (.Attribute o "append" apos) [a] [] pos) (tBM c.K "list" rAppend (tVar j) (tCons ta tNil)) (fApp j fa) :=
  ⟨hK ▸ pe_bm PySem.F.plainAttrs_list PySem.F.slot_list_append PySem.F.type_list_append mt_append ho (pa_cons ha.pe pa_nil hs) hbase hfew hline hs, sn_app ha.sn⟩
theorem de_extend {j : Nat} (ho : PE X o (tVar j)) (hK : X.K = c.K) (ha : DE X c W a ta fa)
    (hbase : attributeBase o "extend" X.env (eval o X.env) = eval o X.env := by rfl)
    (hfew : ((backTo pos (starEach [a] X.env)).all (fun x => !x.1) && (backToKw pos (keywordEach [] X.env)).all (fun x => x.1.isSome)
      && decide (([a] : List Expr).length + ([] : List Keyword).length + (if ([] : List Keyword).isEmpty then 0 else 1) < 30)) = true := by rfl)
    (hline : (apos.endLine == pos.line) = true := by rfl) (hs : starEach [a] X.env = (false, eval a X.env) :: starEach [] X.env := by rfl) :
    DE X c W (.Call (.Attribute o "extend" apos) [a] [] pos) (tBM c.K "list" rExtend (tVar j) (tCons ta tNil)) (fExt j fa) :=
  ⟨hK ▸ pe_bm PySem.F.plainAttrs_list PySem.F.slot_list_extend PySem.F.type_list_extend mt_extend ho (pa_cons ha.pe pa_nil hs) hbase hfew hline hs, sn_ext ha.sn⟩
theorem de_pop {j : Nat} (ho : PE X o (tVar j)) (hK : X.K = c.K)
    (hbase : attributeBase o "pop" X.env (eval o X.env) = eval o X.env := by rfl) (hline : (apos.endLine == pos.line) = true := by rfl) :
    DE X c W (.Call (.Attribute o "pop" apos) [] [] pos) (tBM0 c.K "list" rPop (tVar j)) (fPop j) :=
  ⟨hK ▸ pe_bm0 PySem.F.plainAttrs_list PySem.F.slot_list_pop PySem.F.type_list_pop mt_pop ho hbase hline, sn_pop⟩
end
end DL

/-! DL, part n: what a text of facts needs. -/
namespace DL
open PySem L2 Evl
def AllT (K : PySem.W.Frag) (u : Value) : List (String × Bool) → Prop
  | [] => True
  | q :: r => PySem.W.kitOne K (.type q.1) u = some q.2 ∧ AllT K u r
def AllI (c : Ct) (u : Value) : List (Nat × Bool) → Prop
  | [] => True
  | q :: r => (InsT c.K (c.cl q.1) ∧ PySem.W.kitOne c.K (.ref (c.cl q.1)) u = some q.2) ∧ AllI c u r
def lkT (l : List (String × Bool)) (T : String) : Option Bool := l.lookup T
def lkI (l : List (Nat × Bool)) (k : Nat) : Option Bool := l.lookup k
theorem lkT_all {K : PySem.W.Frag} {u : Value} : ∀ {l : List (String × Bool)}, AllT K u l → ∀ T b, lkT l T = some b → PySem.W.kitOne K (.type T) u = some b
  | [], _, T, b, h => by cases h
  | (a, x) :: l, h, T, b, e => by
    unfold lkT at e
    rw [List.lookup_cons] at e
    cases q : T == a with
    | true => rw [q] at e; cases e; rw [beq_iff_eq.mp q]; exact h.1
    | false => rw [q] at e; exact lkT_all h.2 T b e
theorem lkI_all {c : Ct} {u : Value} : ∀ {l : List (Nat × Bool)}, AllI c u l → ∀ k b, lkI l k = some b → InsT c.K (c.cl k) ∧ PySem.W.kitOne c.K (.ref (c.cl k)) u = some b
  | [], _, T, b, h => by cases h
  | (a, x) :: l, h, T, b, e => by
    unfold lkI at e
    rw [List.lookup_cons] at e
    cases q : T == a with
    | true => rw [q] at e; cases e; rw [beq_iff_eq.mp q]; exact h.1
    | false => rw [q] at e; exact lkI_all h.2 T b e
theorem isi_mk {c : Ct} {u : Value} {lT : List (String × Bool)} {lI : List (Nat × Bool)} (h1 : AllT c.K u lT) (h2 : AllI c u lI) : IsiOk c u (lkI lI) (lkT lT) := ⟨fun T b h => lkT_all h1 T b h, fun k b h => lkI_all h2 k b h⟩
/-- isinstance of a handled exception -/
def AllX (c : Ct) (u : Value) : List (Nat × Bool) → Prop
  | [] => True
  | q :: r => (ExcC c.K (c.cl q.1) ∧ PySem.W.kitOne c.K (.ref (c.cl q.1)) u = some q.2) ∧ AllX c u r
theorem lkX_all {c : Ct} {u : Value} : ∀ {l : List (Nat × Bool)}, AllX c u l → ∀ k b, lkI l k = some b → ExcC c.K (c.cl k) ∧ PySem.W.kitOne c.K (.ref (c.cl k)) u = some b
  | [], _, T, b, h => by cases h
  | (a, x) :: l, h, T, b, e => by
    unfold lkI at e
    rw [List.lookup_cons] at e
    cases q : T == a with
    | true => rw [q] at e; cases e; rw [beq_iff_eq.mp q]; exact h.1
    | false => rw [q] at e; exact lkX_all h.2 T b e
/-- what may stand right of an own == -/
def AllE (K : PySem.W.Frag) (C : Addr) : List String → Prop
  | [] => True
  | q :: r => PySem.W.notFirst K C (.type q) = true ∧ AllE K C r
def AllF (c : Ct) (C : Addr) : List Nat → Prop
  | [] => True
  | q :: r => (InsT c.K (c.cl q) ∧ PySem.W.notFirst c.K C (.ref (c.cl q)) = true) ∧ AllF c C r
def inT (l : List String) (T : String) : Bool := l.contains T
def inI (l : List Nat) (k : Nat) : Bool := l.contains k
theorem inT_all {K : PySem.W.Frag} {C : Addr} : ∀ {l : List String}, AllE K C l → ∀ T, T ∈ l → PySem.W.notFirst K C (.type T) = true
  | [], _, T, h => by cases h
  | a :: l, h, T, e => by
    rcases List.mem_cons.mp e with rfl | e
    · exact h.1
    · exact inT_all h.2 T e
theorem inI_all {c : Ct} {C : Addr} : ∀ {l : List Nat}, AllF c C l → ∀ k, k ∈ l → InsT c.K (c.cl k) ∧ PySem.W.notFirst c.K C (.ref (c.cl k)) = true
  | [], _, T, h => by cases h
  | a :: l, h, T, e => by
    rcases List.mem_cons.mp e with rfl | e
    · exact h.1
    · exact inI_all h.2 T e
theorem eqr_mk {c : Ct} {C : Addr} {lT : List String} {lI : List Nat} (h1 : AllE c.K C lT) (h2 : AllF c C lI) : EqROk c C (inI lI) (inT lT) := ⟨fun T h => inT_all h1 T (List.contains_iff_mem.mp h), fun k h => inI_all h2 k (List.contains_iff_mem.mp h)⟩
theorem takes0 {X : Cx} : Takes X W0 := fun u s' ⟨_, _, _, _, _, _, _, _, _, _, _, _, _, _, _, _, w⟩ => w.elim
/-- law's promise: a list of at most 63 ints is handed in, True comes out -/
def spLawD (K : PySem.W.Frag) : Sp := fun vs H Q _ => ∃ (a : Addr) (ns : List Int), vs = [.ref a] ∧ SqL K H a (ns.map V.int) ∧ ns.length ≤ 63 ∧ ∀ H', Q (.bl true) H'
theorem law_fn {P : Program} {w : World} {K : PySem.W.Frag} {mg : Str → Option Value} {base : Heap} {c : Ct} {CX : CXT} {k : Nat} {f : Addr} {fd : FuncData} {ps : List Str} {m : Fn} (hK : c.K = K) (F : FnOk P w K mg base CX k f fd ps (spD c 1 m))
    (hs : ∀ ns : List Int, ns.length ≤ 63 → ∃ q, m [.sh (.rol (ns.map .int))] = .ok (.bl true, false, q)) : FnOk P w K mg base CX k f fd ps (spLawD K) := by
  have key : ∀ vs H Q E, spLawD K vs H Q E → spD c 1 m vs H Q E := fun vs H Q E ⟨a, ns, e, hS, hl, hq⟩ => by
    subst e
    obtain ⟨q, hm⟩ := hs ns hl
    refine ⟨rfl, H, [.sh (.rol (ns.map .int))], Ex.refl H, ⟨rfl, fun i b hb => ?_, fun i j p d d' h1 => ?_⟩, ?_⟩
    · cases i with
      | zero => cases hb; exact ⟨_, rfl, a, ns.map V.int, rfl, hK ▸ hS, RpL.of_ints ns⟩
      | succ i => simp at hb
    · cases i with
      | zero => cases h1
      | succ i => simp at h1
    · rw [hm]
      intro v H' F' _ _ _ _ hd
      have e : v = .bl true := hd
      rw [e]
      exact hq H'
  exact F.imp key
/-- fields of a class by their order -/
def fieldsOf (l : List (List Str)) (k : Nat) : List Str := l.getD k []
def nthA (l : List Addr) (k : Nat) : Addr := l.getD k 0
end DL

/-! DL, part o: slices. -/
namespace DL
open PySem L2 Evl
abbrev FO := DEnv → Res (Option Int × DEnv)
def SndO (c : Ct) (W : WX) (to : TO) (f : FO) : Prop := ∀ (z : Zs) σ H F e (Q : Option Int → Hp → Prop), I2 c z σ H F e →
  Wp (f e) (fun r => ∀ H' F', Ex F F' → I2 c z σ H' F' r.2 → Q r.1 H') (Xp c z W σ F) → to σ H Q
structure DO (X : Cx) (c : Ct) (W : WX) (o : Option Expr) (to : TO) (f : FO) : Prop where
  po : PO X o to
  sn : SndO c W to f
def fNoP : FO := fun e => .ok (none, e)
def fPo (f : FE) : FO := fun e => (f e).bind fun r => match lookT r.1 r.2 with
  | some (.int i) => .ok (some i, r.2)
  | _ => .stuck
section
variable {X : Cx} {c : Ct} {W : WX} {a : Expr} {ta : TE} {fa : FE} {lo hi : Option Expr} {tl th : TO} {fl fh : FO} {pos p2 : Pos}
theorem do_none : DO X c W none tNoPart fNoP := ⟨po_none, fun z σ H F e Q I h => h H F (Ex.refl F) I⟩
theorem do_some (ha : DE X c W a ta fa) : DO X c W (some a) (tPart ta) (fPo fa) := ⟨po_some ha.pe, fun z σ H F e Q I h => by
  unfold fPo at h
  rw [Wp.bind] at h
  refine ha.sn z σ H F e _ I (h.mono (fun r _ h v H1 F1 x1 I1 t1 => ?_) fun _ _ h => h)
  cases hl : lookT r.1 r.2 with
  | none => rw [hl] at h; exact h.elim
  | some d =>
    rw [hl] at h
    cases d <;> first | exact h.elim | skip
    rename_i i
    exact ⟨i, (t1.view I1 hl).int, h H1 F1 x1 I1⟩⟩
def cutD (xs : List D) (lo hi : Option Int) : List D := (xs.drop (HT.sIx xs.length 0 lo)).take (HT.sIx xs.length xs.length hi - HT.sIx xs.length 0 lo)
def opSl (d : D) (lo hi : Option Int) : Option RV := match d with
  | .lst ds => some (.nl (cutD ds lo hi))
  | .rol ds => some (.nl (cutD ds lo hi))
  | .tup ds => if HT.sIx ds.length 0 lo = 0 ∧ HT.sIx ds.length ds.length hi = ds.length then some (.fl (.tup ds)) else some (.nt (cutD ds lo hi))
  | .str z => if z.length ≤ lim then some (.fl (.str (cutS z lo hi))) else none
  | _ => none
theorem RpL.cut {F : Hp} {ds : List D} {vs : List V} (h : RpL c F ds vs) (lo hi : Option Int) : RpL c F (cutD ds lo hi) (cutV vs lo hi) := by
  unfold cutD cutV
  rw [h.len]
  exact (h.drop _).take _
abbrev rSlAll (K : PySem.W.Frag) : V → Option Int → Option Int → Hp → VK → Prop := fun x lo hi H Q => rSlL K x lo hi H Q ∨ (rSlA K x lo hi H Q ∨ rSlS x lo hi H Q)
theorem sl_all : SlR X (rSlAll X.K) := sl_list.or (sl_tupA.or sl_str)
theorem ok_sl {F H : Hp} {d : D} {v : V} {lo hi : Option Int} {rv : RV} {Q : VK} (x : Ex F H) (k : View c F H d v) (l : opSl d lo hi = some rv) (q : rv.Post c F H Q) : rSlAll c.K v lo hi H Q := by
  cases d <;> try cases l
  · rename_i z
    unfold opSl at l
    dsimp only at l
    split at l
    · rename_i h
      cases l
      exact .inr (.inr ⟨z, k.str, lim_ok h, q _ rfl⟩)
    · cases l
  · rename_i ds
    obtain ⟨p, vs, rfl, h1, r⟩ := k.lst x
    exact .inl ⟨p, vs, rfl, sq_of h1, fun p hp => q p _ (r.cut lo hi) hp⟩
  · rename_i ds
    obtain ⟨p, vs, rfl, h1, r⟩ := k.tup x
    unfold opSl at l
    dsimp only at l
    refine .inr (.inl ⟨p, vs, rfl, h1, fun hw => ?_, fun hw p hp => ?_⟩)
    · rw [if_pos (by rw [r.len]; exact hw)] at l
      cases l
      rcases k with k | ⟨_, _, k⟩
      · exact q _ k
      · exact k.2.elim
    · rw [if_neg (by rw [r.len]; exact hw)] at l
      cases l
      exact q p _ (r.cut lo hi) hp
  · rename_i ds
    obtain ⟨p, vs, rfl, h1, r⟩ := k.rol x
    exact .inl ⟨p, vs, rfl, h1, fun p hp => q p _ (r.cut lo hi) hp⟩
def fSl (fa : FE) (fl fh : FO) : FE := fun e => (fa e).bind fun r => (fl r.2).bind fun l => (fh l.2).bind fun h => Res.of ((lookT r.1.seal h.2).bind fun d => (opSl d l.1 h.1).map fun rv => (rv.tok, h.2))
theorem sn_sl (ha : SndE c W ta fa) (hl : SndO c W tl fl) (hh : SndO c W th fh) : SndE c W (tSl (rSlAll c.K) ta tl th) (fSl fa fl fh) := fun z σ H F e Q I h => by
  unfold fSl at h
  rw [Wp.bind] at h
  refine ha z σ H F e _ I (h.mono (fun r _ h v H1 F1 x1 I1 t1 => ?_) fun _ _ h => h)
  obtain ⟨F2, x2, J, t2⟩ := t1.seal I1
  rw [Wp.bind] at h
  refine hl z σ H1 F2 _ _ J (h.mono (fun l _ h H3 F3 x3 I3 => ?_) fun _ _ h => h.mono (x1.trans x2))
  rw [Wp.bind] at h
  refine hh z σ H3 F3 _ _ I3 (h.mono (fun u _ h H4 F4 x4 I4 => ?_) fun _ _ h => h.mono ((x1.trans x2).trans x3))
  obtain ⟨a, ea, h⟩ := Wp.of h
  obtain ⟨d1, l1, ea⟩ := obind ea
  obtain ⟨rv, l3, rfl⟩ := omap ea
  exact ok_sl I4.fh ((t2.keep (H' := H4) (x3.trans x4)).view I4 l1) l3 (RV.post_of I4 fun v' H' F' x' I' t' => h v' H' F' ((((x1.trans x2).trans x3).trans x4).trans x') I' t')
theorem de_sl (hK : X.K = c.K) (ha : DE X c W a ta fa) (hl : DO X c W lo tl fl) (hh : DO X c W hi th fh) : DE X c W (.Subscript a (.Slice lo hi none p2) pos) (tSl (rSlAll c.K) ta tl th) (fSl fa fl fh) := ⟨hK ▸ pe_slice sl_all ha.pe hl.po hh.po, sn_sl ha.sn hl.sn hh.sn⟩
end
section
variable {X : Cx} {c : Ct} {W : WX} {a b o i : Expr} {ti tv : TE} {fi fv : FE} {tr : TA} {fr : FA} {pos tgp : Pos} {j : Nat}
theorem ds_setL (ho : PE X o (tVar j)) (hi : DE X c W i ti fi) (hv : DE X c W a tv fv)
    (ha : ∀ v, assign (.Subscript o i tgp) X.env v = (do
      let ov ← holding [v] (eval o X.env)
      let iv ← holding [v, ov] (eval i X.env)
      standAt tgp
      holding [v, ov, iv] (setItem ov iv v)
      release [v, ov, iv] []) := by intro _; rfl)
    (hs : swapsWithSole [.Subscript o i tgp] a pos.line X.env = pure false := by rfl) (hw : swappedStores [.Subscript o i tgp] a X.env = pure none := by rfl) (h1 : (assignEach [.Subscript o i tgp] X.env).map (·.2) = [assign (.Subscript o i tgp) X.env] := by rfl) :
    DS X c W (.Assign [.Subscript o i tgp] a pos) (tAsg tv (gSub (tVar j) ti rSetL)) (fSetIx j fi fv) := ds_setIx (ps_asg hv.pe (pg_sub ho hi.pe set_list ha) hs hw h1) hi.sn hv.sn
theorem ds_par2 {i j : Nat} {x y : Str} {px py pt : Pos} {kt k2 pt2} (hc : X.calm = true) (hN : X.N.Nodup) (hi : X.N[i]? = some x) (hj : X.N[j]? = some y) (hij : i ≠ j)
    (hx : X.env.scope.names.lookup x = some .local) (hy : X.env.scope.names.lookup y = some .local) (ha : DA X c W [a, b] tr fr)
    (hw : swappedStores [.Tuple [.Name x px, .Name y py] kt pt] (.Tuple [a, b] k2 pt2) X.env = pure (some [x, y]))
    (hs : swapsWithSole [.Tuple [.Name x px, .Name y py] kt pt] (.Tuple [a, b] k2 pt2) pos.line X.env = pure false := by rfl) :
    DS X c W (.Assign [.Tuple [.Name x px, .Name y py] kt pt] (.Tuple [a, b] k2 pt2) pos) (tPar i j tr) (fPar i j fr) := ds_par (ps_par hc hN hi hj hij hx hy ha.pa hw hs) ha
end
theorem u65 {A : Around} {k : Nat} (hr : Room k A) : A.units + 65 < cLine := by have := hr.un; omega
end DL

/-! DL, part p: try, except. -/
namespace DL
open PySem L2 Evl
/-- .. while an exception is handled -/
abbrev Ct.hd (c : Ct) (o : Option (Addr × Value × Option Addr)) : Ct := ⟨c.K, c.cl, c.fn, o, c.w⟩
section
variable {c : Ct} {o : Option (Addr × Value × Option Addr)} {F H : Hp}
mutual
theorem Rp.hd : ∀ (d : D) (v : V), Rp (c.hd o) F d v ↔ Rp c F d v
  | .non, v => Iff.rfl
  | .bl b, v => Iff.rfl
  | .int i, v => Iff.rfl
  | .str s, v => Iff.rfl
  | .lst ds, v => ⟨fun ⟨p, vs, h1, h2, h3⟩ => ⟨p, vs, h1, h2, (RpL.hd ds vs).mp h3⟩, fun ⟨p, vs, h1, h2, h3⟩ => ⟨p, vs, h1, h2, (RpL.hd ds vs).mpr h3⟩⟩
  | .tup ds, v => ⟨fun ⟨p, vs, h1, h2, h3⟩ => ⟨p, vs, h1, h2, (RpL.hd ds vs).mp h3⟩, fun ⟨p, vs, h1, h2, h3⟩ => ⟨p, vs, h1, h2, (RpL.hd ds vs).mpr h3⟩⟩
  | .rol ds, v => ⟨fun ⟨p, vs, h1, h2, h3⟩ => ⟨p, vs, h1, h2, (RpL.hd ds vs).mp h3⟩, fun ⟨p, vs, h1, h2, h3⟩ => ⟨p, vs, h1, h2, (RpL.hd ds vs).mpr h3⟩⟩
  | .ins k ds, v => ⟨fun ⟨p, dx, vs, h1, h2, h3⟩ => ⟨p, dx, vs, h1, h2, (RpL.hd ds vs).mp h3⟩, fun ⟨p, dx, vs, h1, h2, h3⟩ => ⟨p, dx, vs, h1, h2, (RpL.hd ds vs).mpr h3⟩⟩
  | .dct t ks ds, v => ⟨fun ⟨p, ws, vs, h1, h2, h3, h4⟩ => ⟨p, ws, vs, h1, h2, (RpL.hd ks ws).mp h3, (RpL.hd ds vs).mp h4⟩, fun ⟨p, ws, vs, h1, h2, h3, h4⟩ => ⟨p, ws, vs, h1, h2, (RpL.hd ks ws).mpr h3, (RpL.hd ds vs).mpr h4⟩⟩
theorem RpL.hd : ∀ (ds : List D) (vs : List V), RpL (c.hd o) F ds vs ↔ RpL c F ds vs
  | [], _ => Iff.rfl
  | d :: ds, _ => ⟨fun ⟨v, r, h1, h2, h3⟩ => ⟨v, r, h1, (Rp.hd d v).mp h2, (RpL.hd ds r).mp h3⟩, fun ⟨v, r, h1, h2, h3⟩ => ⟨v, r, h1, (Rp.hd d v).mpr h2, (RpL.hd ds r).mpr h3⟩⟩
end
theorem Own.hd {d : D} {p : Addr} : Own (c.hd o) F H d p ↔ Own c F H d p := by
  cases d with
  | lst ds => exact ⟨fun ⟨h, vs, h1, h2⟩ => ⟨h, vs, h1, (RpL.hd ds vs).mp h2⟩, fun ⟨h, vs, h1, h2⟩ => ⟨h, vs, h1, (RpL.hd ds vs).mpr h2⟩⟩
  | ins k ds => exact ⟨fun ⟨h, dx, vs, h1, h2⟩ => ⟨h, dx, vs, h1, (RpL.hd ds vs).mp h2⟩, fun ⟨h, dx, vs, h1, h2⟩ => ⟨h, dx, vs, h1, (RpL.hd ds vs).mpr h2⟩⟩
  | dct t ks ds => exact ⟨fun ⟨h, ws, vs, h1, h2, h3⟩ => ⟨h, ws, vs, h1, (RpL.hd ks ws).mp h2, (RpL.hd ds vs).mp h3⟩, fun ⟨h, ws, vs, h1, h2, h3⟩ => ⟨h, ws, vs, h1, (RpL.hd ks ws).mpr h2, (RpL.hd ds vs).mpr h3⟩⟩
  | _ => exact ⟨fun h => h.2.elim, fun h => h.2.elim⟩
theorem XR.hd {x : XV} {cls : Value} {dd : Option Addr} : XR (c.hd o) F x cls dd ↔ XR c F x cls dd := by
  unfold XR
  refine ⟨fun ⟨h1, h2⟩ => ⟨h1, ?_⟩, fun ⟨h1, h2⟩ => ⟨h1, ?_⟩⟩
  · rcases h2 with h2 | ⟨h0, a, fs, vs, h2, h3, h4, h5⟩
    · exact .inl h2
    · exact .inr ⟨h0, a, fs, vs, h2, h3, (RpL.hd _ _).mp h4, h5⟩
  · rcases h2 with h2 | ⟨h0, a, fs, vs, h2, h3, h4, h5⟩
    · exact .inl h2
    · exact .inr ⟨h0, a, fs, vs, h2, h3, (RpL.hd _ _).mpr h4, h5⟩
theorem ArgR.hd {b : B} {v : V} : ArgR (c.hd o) F H b v ↔ ArgR c F H b v := by
  cases b with
  | sh d => exact Rp.hd d v
  | br d => exact ⟨fun ⟨p, h1, h2⟩ => ⟨p, h1, Own.hd.mp h2⟩, fun ⟨p, h1, h2⟩ => ⟨p, h1, Own.hd.mpr h2⟩⟩
  | ow d => exact Iff.rfl
  | ex x => exact Iff.rfl
theorem AR.hd {bs : List B} {vs : List V} : AR (c.hd o) F H bs vs ↔ AR c F H bs vs :=
  ⟨fun h => ⟨h.len, fun i b g => by obtain ⟨v, h1, h2⟩ := h.get i b g; exact ⟨v, h1, ArgR.hd.mp h2⟩, h.dist⟩, fun h => ⟨h.len, fun i b g => by obtain ⟨v, h1, h2⟩ := h.get i b g; exact ⟨v, h1, ArgR.hd.mpr h2⟩, h.dist⟩⟩
theorem DR.hd {F' H' : Hp} {d : D} {fr : Bool} {v : V} : DR (c.hd o) H F' H' d fr v ↔ DR c H F' H' d fr v := by
  cases fr with
  | false => exact Rp.hd d v
  | true => exact ⟨fun ⟨p, h1, h2, h3⟩ => ⟨p, h1, Own.hd.mp h2, h3⟩, fun ⟨p, h1, h2, h3⟩ => ⟨p, h1, Own.hd.mpr h2, h3⟩⟩
theorem spD_hd {n : Nat} {m : Fn} : spD (c.hd o) n m = spD c n m := by
  funext vs H Q E
  refine propext ⟨fun ⟨h0, F, bs, h1, h2, h3⟩ => ⟨h0, F, bs, h1, AR.hd.mp h2, ?_⟩, fun ⟨h0, F, bs, h1, h2, h3⟩ => ⟨h0, F, bs, h1, AR.hd.mpr h2, ?_⟩⟩
  · exact h3.mono (fun r _ h v H' F' a b k q d => h v H' F' a b k (AR.hd.mpr q) (DR.hd.mpr d)) fun x _ h cls dd H' F' a b k r => h cls dd H' F' a b k (XR.hd.mpr r)
  · exact h3.mono (fun r _ h v H' F' a b k q d => h v H' F' a b k (AR.hd.mp q) (DR.hd.mp d)) fun x _ h cls dd H' F' a b k r => h cls dd H' F' a b k (XR.hd.mp r)
/-- a callee's promise in a suite -/
theorem fn_hd {P : Program} {w : World} {K : PySem.W.Frag} {mg : Str → Option Value} {base : Heap} {CX : CXT} {k n : Nat} {f : Addr} {fd : FuncData} {ps : List Str} {m : Fn} (F : FnOk P w K mg base CX k f fd ps (spD c n m)) : FnOk P w K mg base CX k f fd ps (spD (c.hd o) n m) := by
  rw [spD_hd]; exact F
end
/-- no exception is bound -/
def noX (e : DEnv) : Bool := e.all fun b => match b with
  | some (.ex _) => false
  | _ => true
section
variable {c : Ct} {z : Zs} {W : WX} {σ σ' : L2.St} {H H' F F' G : Hp} {e e' : DEnv} {o : Option (Addr × Value × Option Addr)}
theorem noX_get {i : Nat} {x : XV} (h : noX e = true) (h1 : e[i]? = some (some (.ex x))) : False := by
  have := List.all_eq_true.mp h _ (List.mem_of_getElem? h1)
  cases this
theorem I2.hd (I : I2 c z σ H F e) (no : noX e = true) : I2 (c.hd o) z σ H F e := by
  refine ⟨I.len, I.f0, I.fh, I.keep, fun i b h => ?_, I.dist, I.bo, I.nf, I.brv⟩
  obtain ⟨v, hv, r⟩ := I.slot i b h
  refine ⟨v, hv, ?_⟩
  cases b with
  | sh d => exact (Rp.hd d v).mpr r
  | ow d => obtain ⟨p, h1, h2, h3⟩ := r; exact ⟨p, h1, Own.hd.mpr h2, h3⟩
  | br d => obtain ⟨p, h1, h2, h3⟩ := r; exact ⟨p, h1, Own.hd.mpr h2, h3⟩
  | ex x => exact (noX_get no h).elim
theorem I2.unhd (I : I2 (c.hd o) z σ H F e) (no : noX e = true) : I2 c z σ H F e := by
  refine ⟨I.len, I.f0, I.fh, I.keep, fun i b h => ?_, I.dist, I.bo, I.nf, I.brv⟩
  obtain ⟨v, hv, r⟩ := I.slot i b h
  refine ⟨v, hv, ?_⟩
  cases b with
  | sh d => exact (Rp.hd d v).mp r
  | ow d => obtain ⟨p, h1, h2, h3⟩ := r; exact ⟨p, h1, Own.hd.mp h2, h3⟩
  | br d => obtain ⟨p, h1, h2, h3⟩ := r; exact ⟨p, h1, Own.hd.mp h2, h3⟩
  | ex x => exact (noX_get no h).elim
theorem I2.storeX {i : Nat} {v : V} {x : XV} (I : I2 c z σ H F e) (hi : i < σ.length) (r : BR c z F H (.ex x) v) : I2 c z (σ.set i (some v)) H F (e.set i (some (.ex x))) := by
  have key : ∀ (j : Nat) (p : Addr), RootAt (σ.set i (some v)) (e.set i (some (.ex x))) j p → RootAt σ e j p := fun j p ⟨b, h1, h2, h3⟩ => by
    rcases get_set h1 with ⟨_, q⟩ | ⟨ne, q⟩
    · cases q; cases h2
    · rcases get_set h3 with ⟨q', _⟩ | ⟨_, q'⟩
      · exact absurd q' ne
      · exact ⟨b, q, h2, q'⟩
  refine ⟨by rw [List.length_set, List.length_set]; exact I.len, I.f0, I.fh, I.keep, fun j b h => ?_, fun j k p h1 h2 => I.dist j k p (key _ _ h1) (key _ _ h2), I.bo, I.nf, fun j d' v' h h' => ?_⟩
  · rcases get_set h with ⟨rfl, q⟩ | ⟨ne, q⟩
    · cases q; exact ⟨v, get_setS hi, r⟩
    · obtain ⟨w, h1, h2⟩ := I.slot j b q
      exact ⟨w, by rw [List.getElem?_set_ne (Ne.symm ne)]; exact h1, h2⟩
  · rcases get_set h with ⟨_, q⟩ | ⟨ne, q⟩
    · cases q
    · rw [List.getElem?_set_ne (Ne.symm ne)] at h'
      exact I.brv j d' v' q h'
/-- a token that does not name the slot i -/
def offT (i : Nat) : T → Bool
  | .sl j => j != i
  | _ => true
/-- the end of an except suite: its name goes -/
def goneO (i : Nat) : Out → Res Out
  | .nx e => if noX (e.set i none) then .ok (.nx (e.set i none)) else .stuck
  | .bk e => if noX (e.set i none) then .ok (.bk (e.set i none)) else .stuck
  | .ct e => if noX (e.set i none) then .ok (.ct (e.set i none)) else .stuck
  | .rt t e => if noX (e.set i none) && offT i t then .ok (.rt t (e.set i none)) else .stuck
/-- try: f, except X as i: g -/
def fTry (tbl : Nat → Option Bool) (i : Nat) (f : FS) (g : FS) : FS := fun e => match f e with
  | .exc x e' => (match tbl x.k with
    | some true => if noX e' && decide (i < e'.length) then (match g (e'.set i (some (.ex x))) with
        | .ok out => goneO i out
        | _ => .stuck) else .stuck
    | some false => .exc x e'
    | none => .stuck)
  | r => r
def TryOk (c : Ct) (cv : Value) (tbl : Nat → Option Bool) : Prop := ∀ k b, tbl k = some b → PySem.W.exmOne c.K (.ref (c.cl k)) cv = some b
theorem TR.unhd {t : T} {v : V} {i : Nat} (h : TR (c.hd o) z F H σ e t v) (ht : offT i t = true) : TR c z F H (σ.set i none) (e.set i none) t v := by
  cases t with
  | sl j =>
    have hj : j ≠ i := by simpa [offT] using ht
    have h' : σ[j]? = some (some v) := h
    show (σ.set i none)[j]? = some (some v)
    rw [List.getElem?_set_ne (Ne.symm hj)]
    exact h'
  | vl d => exact (Rp.hd d v).mp h
  | nw d =>
    obtain ⟨p, rfl, w, h0, hn⟩ := h
    refine ⟨p, rfl, Own.hd.mp w, h0, fun j ⟨b, h1, h2, h3⟩ => ?_⟩
    rcases get_set h1 with ⟨_, q⟩ | ⟨ne, q⟩
    · cases q
    · rw [List.getElem?_set_ne (Ne.symm ne)] at h3
      exact hn j ⟨b, q, h2, h3⟩
theorem Res.bind_wp {α β : Type} {r : Res α} {f : α → Res β} {ok : β → Prop} {ex : XV → DEnv → Prop} (h : Wp (r.bind f) ok ex) : Wp r (fun a => Wp (f a) ok ex) ex := by rw [← Wp.bind]; exact h
theorem sn_try {cv : Value} {tbl : Nat → Option Bool} {i : Nat} {tb : WX → TS} {ts : Addr → Value → Option Addr → TS} {f g : FS} (ok : TryOk c cv tbl) (hb : ∀ W', SndS c W' (tb W') f) (hg : ∀ a cls d, SndS (c.hd (some (a, cls, d))) W0 (ts a cls d) g) :
    SndS c W (fun D σ H => tb (wAs c.K cv i ts W D) D σ H) (fTry tbl i f g) := fun z σ H F e D I h => by
  refine hb (wAs c.K cv i ts W D) z σ H F e D I ?_
  unfold fTry at h
  cases hf : f e with
  | stuck => rw [hf] at h; exact h
  | ok r => rw [hf] at h; exact h
  | exc x e' =>
    rw [hf] at h
    dsimp only at h
    intro σ' cls dd H' F' x1 J r
    have hc : cls = .ref (c.cl x.k) := r.1
    cases ht : tbl x.k with
    | none => rw [ht] at h; exact h.elim
    | some b =>
      rw [ht] at h
      refine ⟨b, by rw [hc]; exact ok _ _ ht, fun hb1 a ha => ?_, fun hb0 => ?_⟩
      · subst hb1
        dsimp only at h
        split at h
        · rename_i hk
          obtain ⟨no, hi⟩ := Bool.and_eq_true_iff.mp hk
          have hi := of_decide_eq_true hi
          have J1 := (J.hd (o := some (a, cls, dd)) no).storeX (i := i) (v := .ref a) (x := x) (by rw [← J.len]; exact hi) ⟨a, cls, dd, rfl, rfl, XR.hd.mpr r⟩
          refine hg a cls dd z (σ'.set i (some (.ref a))) H' F' _ _ J1 ?_
          cases hq : g (e'.set i (some (.ex x))) with
          | stuck => rw [hq] at h; exact h
          | exc x2 e2 => rw [hq] at h; exact h.elim
          | ok out =>
            rw [hq] at h
            cases out with
            | nx e2 =>
              intro σ2 H2 F2 x2 K
              have h' : Wp (if noX (e2.set i none) then (Res.ok (Out.nx (e2.set i none))) else .stuck) (PoS c z F D) (XpS c z W F) := h
              split at h'
              · rename_i hn
                exact h' _ H2 F2 (x1.trans x2) (K.unbind.unhd hn)
              · exact h'.elim
            | bk e2 =>
              intro σ2 H2 F2 x2 K
              have h' : Wp (if noX (e2.set i none) then (Res.ok (Out.bk (e2.set i none))) else .stuck) (PoS c z F D) (XpS c z W F) := h
              split at h'
              · rename_i hn
                exact h' _ H2 F2 (x1.trans x2) (K.unbind.unhd hn)
              · exact h'.elim
            | ct e2 =>
              intro σ2 H2 F2 x2 K
              have h' : Wp (if noX (e2.set i none) then (Res.ok (Out.ct (e2.set i none))) else .stuck) (PoS c z F D) (XpS c z W F) := h
              split at h'
              · rename_i hn
                exact h' _ H2 F2 (x1.trans x2) (K.unbind.unhd hn)
              · exact h'.elim
            | rt t e2 =>
              intro v σ2 H2 F2 x2 K tr
              have h' : Wp (if noX (e2.set i none) && offT i t then (Res.ok (Out.rt t (e2.set i none))) else .stuck) (PoS c z F D) (XpS c z W F) := h
              split at h'
              · rename_i hn
                obtain ⟨hn, ho⟩ := Bool.and_eq_true_iff.mp hn
                exact h' v _ H2 F2 (x1.trans x2) (K.unbind.unhd hn) (tr.unhd ho)
              · exact h'.elim
        · exact h.elim
      · subst hb0
        exact h σ' cls dd H' F' x1 J r
/-- .. except X: g -/
def fTryO (tbl : Nat → Option Bool) (f : FS) (g : FS) : FS := fun e => match f e with
  | .exc x e' => (match tbl x.k with
    | some true => (match g e' with
        | .ok out => .ok out
        | _ => .stuck)
    | some false => .exc x e'
    | none => .stuck)
  | r => r
theorem sn_tryO {cv : Value} {tbl : Nat → Option Bool} {tb : WX → TS} {ts : Addr → Value → Option Addr → TS} {f g : FS} (ok : TryOk c cv tbl) (hb : ∀ W', SndS c W' (tb W') f) (hg : ∀ a cls d, SndS c W0 (ts a cls d) g) :
    SndS c W (fun D σ H => tb (wOnly c.K cv ts W D) D σ H) (fTryO tbl f g) := fun z σ H F e D I h => by
  refine hb (wOnly c.K cv ts W D) z σ H F e D I ?_
  unfold fTryO at h
  cases hf : f e with
  | stuck => rw [hf] at h; exact h
  | ok r => rw [hf] at h; exact h
  | exc x e' =>
    rw [hf] at h
    dsimp only at h
    intro σ' cls dd H' F' x1 J r
    have hc : cls = .ref (c.cl x.k) := r.1
    cases ht : tbl x.k with
    | none => rw [ht] at h; exact h.elim
    | some b =>
      rw [ht] at h
      refine ⟨b, by rw [hc]; exact ok _ _ ht, fun hb1 a ha => ?_, fun hb0 => ?_⟩
      · subst hb1
        dsimp only at h
        refine hg a cls dd z σ' H' F' _ _ J ?_
        cases hq : g e' with
        | stuck => rw [hq] at h; exact h
        | exc x2 e2 => rw [hq] at h; exact h.elim
        | ok out =>
          rw [hq] at h
          have h' : PoS c z F D out := h
          exact h'.mono x1
      · subst hb0
        exact h σ' cls dd H' F' x1 J r
end
/-! ### the rules -/
section
variable {X : Cx} {c : Ct} {W : WX}
def xeT (X : Cx) : Value → Shared → Prop := fun e s₁ => wpAny (model X.prog X.w) X.A (noteFrame e X.env) (fun _ s₂ => wpAny (model X.prog X.w) X.A (setFlight e none) (fun _ _ => True) (fun _ _ => True) s₂) (fun _ _ => True) s₁
theorem pass_T : PassesOwn (model X.prog X.w) X.A X.env (xeT X) := PassesOwn.looking (K := fun e s₂ => wpAny (model X.prog X.w) X.A (setFlight e none) (fun _ _ => True) (fun _ _ => True) s₂)
theorem takes_T {W' : WX} {pn : List (Addr × Obj)} (hs : X.stack = X.env :: X.outer) (hf : X.env.frame = some X.env.locals) : Takes (X.tr pn (xeT X)) W' := fun u s' ⟨a, B, sI, pins, σ, H, cls, d, e, J, nb, up, sky, na, os, ag, w⟩ => by
  subst e
  have hfr : X.A.frames = some (X.env :: X.outer) := by rw [← hs]; exact J.ok.frames
  have sky' : Sky B (X.env :: X.outer) a (Zc cls d) X.env.locals s'.heap := by rw [← hs]; exact sky
  exact Sky.land Zc.steady hfr hf sky' fun _ _ _ => trivial
theorem ds_try_as {x n : Str} {cv : Value} {i : Nat} {body suite : List Stmt} {b₀ : Stmt} {np pos pos' : Pos} {tb : WX → TS} {ts : Addr → Value → Option Addr → TS} {tbl : Nat → Option Bool} {f g : FS} (hs : X.stack = X.env :: X.outer) (hf : X.env.frame = some X.env.locals) (hN : X.N.Nodup) (hi : X.N[i]? = some n) (hln : X.env.kindOf n = some .local) (hc : Names X x cv) (tk : Takes X W) (hK : X.K = c.K) (ok : TryOk c cv tbl)
    (hb : ∀ (W' : WX) (pn : List (Addr × Obj)) (xe : Value → Shared → Prop), Takes (X.tr pn xe) W' → PassesOwn (model X.prog X.w) X.A X.env xe → DSs (X.tr pn xe) c W' body (tb W') f)
    (hsu : ∀ (a : Addr) (oe : Obj) (cls : Value) (d : Option Addr) (pn : List (Addr × Obj)), Zc cls d oe → (∃ vs, oe.data = .fields vs) → DSs (X.suite a ((a, oe) :: pn)) (c.hd (some (a, cls, d))) W0 (b₀ :: suite) (ts a cls d) g) :
    DS X c W (.Try body [.ExceptHandler (some (.Name x np)) (some n) (b₀ :: suite) pos'] [] [] pos) (fun D σ H => tb (wAs c.K cv i ts W D) D σ H) (fTry tbl i f g) :=
  ⟨hK ▸ ps_try_as hs hf hN hi hln hc tk (fun W' pn xe tk' pa => (hb W' pn xe tk' pa).ps) (fun a oe cls d pn hz hf => (hsu a oe cls d pn hz hf).ps),
    sn_try ok (fun W' => (hb W' [] (xeT X) (takes_T hs hf) pass_T).sn) fun a cls d => (hsu a ⟨cls, d, .fields #[], #[]⟩ cls d [] ⟨rfl, rfl⟩ ⟨_, rfl⟩).sn⟩
theorem ds_try_only {x : Str} {cv : Value} {body suite : List Stmt} {b₀ : Stmt} {np pos pos' : Pos} {tb : WX → TS} {ts : Addr → Value → Option Addr → TS} {tbl : Nat → Option Bool} {f g : FS} (hs : X.stack = X.env :: X.outer) (hf : X.env.frame = some X.env.locals) (hc : Names X x cv) (tk : Takes X W) (hK : X.K = c.K) (ok : TryOk c cv tbl)
    (hb : ∀ (W' : WX) (pn : List (Addr × Obj)) (xe : Value → Shared → Prop), Takes (X.tr pn xe) W' → PassesOwn (model X.prog X.w) X.A X.env xe → DSs (X.tr pn xe) c W' body (tb W') f)
    (hsu : ∀ (a : Addr) (oe : Obj) (cls : Value) (d : Option Addr) (pn : List (Addr × Obj)), Zc cls d oe → (∃ vs, oe.data = .fields vs) → DSs (X.suite a ((a, oe) :: pn)) c W0 (b₀ :: suite) (ts a cls d) g) :
    DS X c W (.Try body [.ExceptHandler (some (.Name x np)) none (b₀ :: suite) pos'] [] [] pos) (fun D σ H => tb (wOnly c.K cv ts W D) D σ H) (fTryO tbl f g) :=
  ⟨hK ▸ ps_try_only hs hf hc tk (fun W' pn xe tk' pa => (hb W' pn xe tk' pa).ps) (fun a oe cls d pn hz hf => (hsu a oe cls d pn hz hf).ps),
    sn_tryO ok (fun W' => (hb W' [] (xeT X) (takes_T hs hf) pass_T).sn) fun a cls d => (hsu a ⟨cls, d, .fields #[], #[]⟩ cls d [] ⟨rfl, rfl⟩ ⟨_, rfl⟩).sn⟩

/-! ### e.f, e the exception that is handled -/
def fXf (ns : List Str) (k i : Nat) (f : Str) : FE := fun e => match e[i]? with
  | some (some (.ex x)) => if x.k = k then (match (ns.zip x.ds).lookup f with
    | some d => .ok (.vl d, e)
    | none => .stuck) else .stuck
  | _ => .stuck
theorem idx_look {f : Str} {d : D} : ∀ {ns : List Str} {ds : List D}, (ns.zip ds).lookup f = some d → ∃ i : Nat, ns[i]? = some f ∧ ds[i]? = some d
  | [], _, h => by simp at h
  | _ :: _, [], h => by simp at h
  | n :: ns, d0 :: ds, h => by
    rw [List.zip_cons_cons, List.lookup_cons] at h
    cases q : f == n with
    | true => rw [q] at h; cases h; exact ⟨0, by rw [beq_iff_eq.mp q]; rfl, rfl⟩
    | false =>
      rw [q] at h
      obtain ⟨i, h1, h2⟩ := idx_look h
      exact ⟨i + 1, h1, h2⟩
theorem sn_xf {a : Addr} {cls : Value} {dd : Option Addr} {i k : Nat} {f : Str} : SndE (c.hd (some (a, cls, dd))) W (tXf a cls dd (c.cl k) f (tVar i)) (fXf (c.fn k) k i f) := fun z σ H F e Q I h => by
  unfold fXf at h
  split at h
  · rename_i x hx
    split at h
    · rename_i hk
      split at h
      · rename_i d hd
        obtain ⟨v, hv, a', cls', dd', ha, rfl, r⟩ := I.slot i _ hx
        cases ha
        subst hk
        refine ⟨_, hv, rfl, r.1, ?_⟩
        obtain ⟨j, h1, h2⟩ := idx_look hd
        rcases r.2 with ⟨h3, _⟩ | ⟨_, p, fs, vs, h3, h4, h5, h6⟩
        · rw [h3] at h2; simp at h2
        · obtain ⟨w, h7, h8⟩ := h5.get h2
          exact ⟨p, fs, w, h3, I.fh _ _ h4, h6 j f w h1 h7, h w H F (Ex.refl F) I h8⟩
      · exact h.elim
    · exact h.elim
  · exact h.elim
theorem de_xf {a : Addr} {oe : Obj} {cls : Value} {d : Option Addr} {pn : List (Addr × Obj)} {o : Expr} {pos : Pos} {f : Str} {i k : Nat} (hK : X.K = c.K) (T : XfC c.K (c.cl k)) (hno : PySem.W.findIn c.K (.ref (c.cl k)) f = some none)
    (hz : Zc cls d oe) (hf : ∃ vs, oe.data = .fields vs) (he : PE (X.suite a ((a, oe) :: pn)) o (tVar i)) (hb : attributeBase o f X.env (eval o X.env) = eval o X.env := by rfl) :
    DE (X.suite a ((a, oe) :: pn)) (c.hd (some (a, cls, d))) W (.Attribute o f pos) (tXf a cls d (c.cl k) f (tVar i)) (fXf (c.fn k) k i f) := ⟨pe_xf (hK ▸ T) (hK ▸ hno) hz hf he hb, sn_xf⟩
/-! ### a, b = a list -/
def fgLst (n : Nat) (fg : List D → DEnv → Option DEnv) (d : D) (e : DEnv) : Option DEnv := match d with
  | .lst ds => if ds.length = n then fg ds e else none
  | _ => none
theorem dg_lst' {es : List Expr} {k n : Nat} {pos : Pos} {gs : TGs} {fs : List D → DEnv → Option DEnv} (hK : X.K = c.K := by rfl) (h : DGs X c es gs fs) (hc : X.calm = true := by rfl)
    (hn : (assignEach es X.env).length = n := by rfl) (hst : (assignEach es X.env).findIdx? (·.1) = none := by rfl) : DG X c (.Tuple es k pos) (gLst c.K n gs) (fgLst n fs) := by
  refine ⟨hK ▸ pg_lst hc h.pg hn hst, fun z σ H F e d v e' Q I r l q => ?_⟩
  cases d <;> try cases l
  rename_i ds
  unfold fgLst at l
  dsimp only at l
  split at l
  · rename_i hl
    obtain ⟨p, vs, rfl, h1, h2⟩ := r
    exact ⟨p, vs, rfl, sq_of (I.fh _ _ h1), by rw [← h2.len]; exact hl, h.sn z σ H F e ds vs e' Q I h2 l q⟩
  · cases l
/-! ### isinstance(e, C), e the exception that is handled, made without arguments -/
def fIsX (tbl : Nat → Option Bool) (i : Nat) : FE := fun e => match e[i]? with
  | some (some (.ex x)) => if x.ds.isEmpty then (match tbl x.k with
    | some b => .ok (.vl (.bl b), e)
    | none => .stuck) else .stuck
  | _ => .stuck
def rIsX (K : PySem.W.Frag) (cls : Value) (d : Option Addr) (a : Addr) : List V → Hp → VK → Prop := fun xs H Q => ∃ C, cls = .ref C ∧ d = none ∧ ExcC K C ∧ rIsE K C a xs H Q
theorem call_isX {a : Addr} {oe : Obj} {cls : Value} {d : Option Addr} {pn : List (Addr × Obj)} (hz : Zc cls d oe) (hf : ∃ vs, oe.data = .fields vs) : CallR (X.suite a ((a, oe) :: pn)) (.builtin "isinstance") (rIsX X.K cls d a) := by
  intro pins s σ H xs us Q I r h
  obtain ⟨C, rfl, rfl, hC, h⟩ := h
  exact call_isE hC hz hf pins s σ H xs us Q I r h
def IsXOk (c : Ct) (u : Value) (tbl : Nat → Option Bool) : Prop := ∀ k b, tbl k = some b → ExcC c.K (c.cl k) ∧ PySem.W.kitOne c.K (.ref (c.cl k)) u = some b
theorem isx_mk {c : Ct} {u : Value} {l : List (Nat × Bool)} (h : AllX c u l) : IsXOk c u (lkI l) := fun k b e => lkX_all h k b e
theorem sn_isX {a : Addr} {cls : Value} {dd : Option Addr} {i : Nat} {cv : V} {u : Value} {tbl : Nat → Option Bool} (cu : ClsV cv u) (ok : IsXOk c u tbl) : SndE (c.hd (some (a, cls, dd))) W (tCB (rIsX c.K cls dd a) (tCons (tVar i) (tCons (tC cv) tNil))) (fIsX tbl i) := fun z σ H F e Q I h => by
  unfold fIsX at h
  split at h
  · rename_i x hx
    split at h
    · rename_i hk
      split at h
      · rename_i b hb
        obtain ⟨v, hv, a', cls', dd', ha, rfl, r⟩ := I.slot i _ hx
        cases ha
        obtain ⟨h1, h2⟩ := ok x.k b hb
        refine ⟨_, hv, c.cl x.k, r.1, ?_, h1, cv, u, b, rfl, fun w hw => cu.eq hw, h2, h _ H F (Ex.refl F) I rfl⟩
        rcases r.2 with ⟨_, h3⟩ | ⟨h3, _⟩
        · exact h3
        · exact absurd (List.isEmpty_iff.mp hk) h3
      · exact h.elim
    · exact h.elim
  · exact h.elim
theorem de_isX {a : Addr} {oe : Obj} {cls : Value} {d : Option Addr} {pn : List (Addr × Obj)} {o b : Expr} {p pos : Pos} {i : Nat} {cv : V} {u : Value} {tbl : Nat → Option Bool} (hK : X.K = c.K) (hz : Zc cls d oe) (hf : ∃ vs, oe.data = .fields vs) (cu : ClsV cv u) (ok : IsXOk c u tbl)
    (hg : Gl (X.suite a ((a, oe) :: pn)) "isinstance") (hm : (X.suite a ((a, oe) :: pn)).mg "isinstance" = none) (he : PE (X.suite a ((a, oe) :: pn)) o (tVar i)) (hb : PE (X.suite a ((a, oe) :: pn)) b (tC cv))
    (hs : starEach [o, b] (X.suite a ((a, oe) :: pn)).env = (false, eval o (X.suite a ((a, oe) :: pn)).env) :: starEach [b] (X.suite a ((a, oe) :: pn)).env := by rfl) (hs2 : starEach [b] (X.suite a ((a, oe) :: pn)).env = (false, eval b (X.suite a ((a, oe) :: pn)).env) :: starEach [] (X.suite a ((a, oe) :: pn)).env := by rfl) (hpl : (backTo pos (starEach [b] (X.suite a ((a, oe) :: pn)).env)).any (·.1) = false := by rfl) :
    DE (X.suite a ((a, oe) :: pn)) (c.hd (some (a, cls, d))) W (.Call (.Name "isinstance" p) [o, b] [] pos) (tCB (rIsX c.K cls d a) (tCons (tVar i) (tCons (tC cv) tNil))) (fIsX tbl i) :=
  ⟨pe_callB (hK ▸ call_isX hz hf) hg hm (by decide +kernel) (pa_cons he (pa_cons hb pa_nil hs2) hs) (by decide) (by decide) hs hpl, sn_isX cu ok⟩
end
end DL

/-! DL, part q: raise C(..), C an error with an own __init__ that stores its arguments. -/
namespace DL
open PySem L2 Evl
/-- such an __init__'s promise: the attributes ns, by the arguments -/
def spXi (C : Addr) (ns : List Str) : Sp := fun vs H Q _ => ∃ (a : Addr) (ws : List V), vs = .ref a :: ws ∧ ws.length = ns.length ∧ H a = some (exo a C none) ∧
  ∀ (d : Addr) (fs : List (Str × V)) (H2 : Hp), H d = none → H2 a = some (exo a C (some d)) → H2 d = some (exd d fs) → (∀ b, b ≠ a → b ≠ d → H2 b = H b) → (∀ (i : Nat) (f : Str) (v : V), ns[i]? = some f → ws[i]? = some v → fs.lookup f = some v) → Q .non H2
/-- self.f = (a parameter), one after the other -/
def tOsts (K : PySem.W.Frag) : List (Nat × Str) → TS
  | [] => tNext
  | [q] => tOst K q.2 (tVar 0) (tVar q.1)
  | q :: r => tSeq (tOst K q.2 (tVar 0) (tVar q.1)) (tOsts K r)
section
variable {K : PySem.W.Frag} {C : Addr}
theorem tOsts_cons {D : Ends} {σ : L2.St} {H : Hp} {q : Nat × Str} {r : List (Nat × Str)} (h : tSeq (tOst K q.2 (tVar 0) (tVar q.1)) (tOsts K r) D σ H) : tOsts K (q :: r) D σ H := by
  cases r with
  | nil => exact h
  | cons _ _ => exact h
theorem osts_run (T : OexC K C) {σ : L2.St} {a dx : Addr} (ha : σ[0]? = some (some (.ref a))) {D : Ends} : ∀ (l : List (Nat × Str)) (H : Hp) (fs : List (Str × V)), (∀ q ∈ l, PySem.W.findIn K (.ref C) q.2 = some none) → (∀ q ∈ l, ∃ v, σ[q.1]? = some (some v)) →
    H a = some (exo a C (some dx)) → H dx = some (exd dx fs) → a ≠ dx → fs.length + l.length ≤ 900 → (l.map (·.2)).Nodup → (∀ q ∈ l, fs.lookup q.2 = none) →
    (∀ (H2 : Hp) (fs2 : List (Str × V)), H2 a = some (exo a C (some dx)) → H2 dx = some (exd dx fs2) → (∀ b, b ≠ dx → H2 b = H b) → (∀ g v, fs.lookup g = some v → fs2.lookup g = some v) → (∀ q ∈ l, ∀ v, σ[q.1]? = some (some v) → fs2.lookup q.2 = some v) → D.nx σ H2) →
    tOsts K l D σ H
  | [], H, fs, _, _, h1, h2, _, _, _, _, k => k H fs h1 h2 (fun _ _ => rfl) (fun _ _ h => h) fun q hq => nomatch hq
  | q :: r, H, fs, hn, hv, h1, h2, ne, hl, nd, hf, k => by
    refine tOsts_cons ?_
    obtain ⟨v, hv1⟩ := hv q List.mem_cons_self
    rw [List.map_cons, List.nodup_cons] at nd
    refine ⟨v, hv1, .ref a, ha, a, C, rfl, T, hn q List.mem_cons_self, .inr ⟨dx, fs, h1, h2, by simp at hl; omega, ?_⟩⟩
    refine osts_run T ha r _ ((q.2, v) :: fs) (fun x hx => hn x (List.mem_cons_of_mem _ hx)) (fun x hx => hv x (List.mem_cons_of_mem _ hx)) (by rw [upd_ne ne]; exact h1) upd_same ne (by simp at hl ⊢; omega) nd.2 (fun x hx => ?_) fun H2 fs2 g1 g2 g3 g4 g5 => ?_
    · rw [lookup_put]
      rw [if_neg fun z => nd.1 (by rw [← z]; exact List.mem_map.mpr ⟨x, hx, rfl⟩)]
      exact hf x (List.mem_cons_of_mem _ hx)
    · refine k H2 fs2 g1 g2 (fun b hb => by rw [g3 b hb, upd_ne hb]) (fun g w hw => g4 g w ?_) fun x hx w hw => ?_
      · rw [lookup_put]
        rw [if_neg fun z => by rw [z, hf q List.mem_cons_self] at hw; cases hw]
        exact hw
      · rcases List.mem_cons.mp hx with rfl | hx
        · rw [hv1] at hw; cases hw
          exact g4 _ _ (by rw [lookup_put, if_pos rfl])
        · exact g5 x hx w hw
/-- .. from the start -/
theorem osts_new (T : OexC K C) {σ : L2.St} {a : Addr} (ha : σ[0]? = some (some (.ref a))) {D : Ends} (q : Nat × Str) (r : List (Nat × Str)) (H : Hp) (hn : ∀ x ∈ q :: r, PySem.W.findIn K (.ref C) x.2 = some none) (hv : ∀ x ∈ q :: r, ∃ v, σ[x.1]? = some (some v))
    (h1 : H a = some (exo a C none)) (hl : r.length ≤ 800) (nd : ((q :: r).map (·.2)).Nodup)
    (k : ∀ (d : Addr) (H2 : Hp) (fs2 : List (Str × V)), H d = none → H2 a = some (exo a C (some d)) → H2 d = some (exd d fs2) → (∀ b, b ≠ a → b ≠ d → H2 b = H b) → (∀ x ∈ q :: r, ∀ v, σ[x.1]? = some (some v) → fs2.lookup x.2 = some v) → D.nx σ H2) :
    tOsts K (q :: r) D σ H := by
  refine tOsts_cons ?_
  obtain ⟨v, hv1⟩ := hv q List.mem_cons_self
  rw [List.map_cons, List.nodup_cons] at nd
  refine ⟨v, hv1, .ref a, ha, a, C, rfl, T, hn q List.mem_cons_self, .inl ⟨h1, fun dx hdx ne => ?_⟩⟩
  refine osts_run T ha r _ [(q.2, v)] (fun x hx => hn x (List.mem_cons_of_mem _ hx)) (fun x hx => hv x (List.mem_cons_of_mem _ hx)) upd_same (by rw [upd_ne ne]; exact upd_same) ne.symm (by simp; omega) nd.2 (fun x hx => ?_) fun H2 fs2 g1 g2 g3 g4 g5 => ?_
  · rw [lookup_put, if_neg fun z => nd.1 (by rw [← z]; exact List.mem_map.mpr ⟨x, hx, rfl⟩)]
    rfl
  · refine k dx H2 fs2 hdx g1 g2 (fun b hb hb2 => by rw [g3 b hb2, upd_ne hb, upd_ne hb2]) fun x hx w hw => ?_
    rcases List.mem_cons.mp hx with rfl | hx
    · rw [hv1] at hw; cases hw
      exact g4 _ _ (by rw [lookup_put, if_pos rfl])
    · exact g5 x hx w hw
end
/-- the slots and attributes of such an __init__: self in slot 0, then the arguments -/
def slotsX (ns : List Str) : List (Nat × Str) := (List.range ns.length).zip ns |>.map fun q => (q.1 + 1, q.2)
theorem slotsX_len (ns : List Str) : (slotsX ns).length = ns.length := by simp [slotsX]
theorem slotsX_mem {ns : List Str} {q : Nat × Str} (h : q ∈ slotsX ns) : ∃ i, i < ns.length ∧ q.1 = i + 1 ∧ ns[i]? = some q.2 := by
  obtain ⟨⟨i, f⟩, h1, rfl⟩ := List.mem_map.mp h
  obtain ⟨j, h2⟩ := List.getElem?_of_mem h1
  rw [List.getElem?_zip_eq_some] at h2
  have hj : j < ns.length := get_lt h2.2
  rw [List.getElem?_range hj] at h2
  have e : j = i := Option.some.inj h2.1
  subst e
  exact ⟨j, hj, rfl, h2.2⟩
theorem slotsX_get {ns : List Str} {i : Nat} {f : Str} (h : ns[i]? = some f) : (i + 1, f) ∈ slotsX ns := by
  refine List.mem_map.mpr ⟨(i, f), ?_, rfl⟩
  have hi := get_lt h
  refine List.mem_of_getElem? (i := i) ?_
  rw [List.getElem?_zip_eq_some]
  exact ⟨List.getElem?_range hi, h⟩
theorem slotsX_nd {ns : List Str} (h : ns.Nodup) : ((slotsX ns).map (·.2)).Nodup := by
  have e : (slotsX ns).map (·.2) = ns := by
    unfold slotsX
    rw [List.map_map]
    have : ((fun x : Nat × Str => x.2) ∘ fun q : Nat × Str => (q.1 + 1, q.2)) = Prod.snd := rfl
    rw [this, List.map_snd_zip]
    simp
  rw [e]; exact h
section
variable {P : Program} {w : World} {K : PySem.W.Frag} {mg : Str → Option Value} {base : Heap}
/-- THE RULE of such an __init__ -/
theorem fn_xinit {x qual : Str} {st : Stmt} {f C : Addr} {fd : FuncData} {ps ns : List Str} (F : Fun K x qual st f fd) (S : FnScope ps ps (defScope st)) (T : OexC K C) (hp : ps.length = ns.length + 1) (h0 : 0 < ns.length) (h9 : ns.length ≤ 800) (nd : ns.Nodup) (hn : ∀ g ∈ ns, PySem.W.findIn K (.ref C) g = some none)
    (hb : ∀ (cdv : Value) (A : Around) (outer : List Env) (s : Shared) (H : Hp) (E : XK), PSs (cxOf CX0 P w K mg base ps qual (defScope st) f cdv A outer s H E).nox (defBody st) (tOsts K (slotsX ns))) : FnOk P w K mg base CX0 1 f fd ps (spXi C ns) := by
  refine F.ok S (fun vs H Q E h => ?_) (fun cdv A outer s H vs Q E hr h => ?_)
  · obtain ⟨a, ws, rfl, hl, _⟩ := h
    simp [hl, hp]
  · obtain ⟨a, ws, rfl, hl, h1, k⟩ := h
    refine ⟨_, hb cdv A outer s H E, ?_⟩
    have hs : ∀ (i : Nat) (v : V), ws[i]? = some v → (start ps (.ref a :: ws))[i + 1]? = some (some v) := fun i v h => start_get (by simpa using h)
    have hs' : ∀ (i : Nat) (v : V), (start ps (.ref a :: ws))[i + 1]? = some (some v) → ws[i]? = some v := fun i v h => by simpa using start_get' h
    have hw : ∀ i, i < ns.length → ∃ v, ws[i]? = some v := fun i hi => ⟨_, List.getElem?_eq_getElem (by omega)⟩
    cases hq : slotsX ns with
    | nil =>
      have : (slotsX ns).length = 0 := by rw [hq]; rfl
      rw [slotsX_len] at this
      omega
    | cons q r =>
      have hr : r.length ≤ 800 := by
        have : (slotsX ns).length = r.length + 1 := by rw [hq]; rfl
        rw [slotsX_len] at this
        omega
      refine osts_new T (start_get rfl) q r H (fun x hx => ?_) (fun x hx => ?_) h1 hr (by rw [← hq]; exact slotsX_nd nd) fun d H2 fs g1 g2 g3 g4 g5 => ?_
      · rw [← hq] at hx
        obtain ⟨i, hi, _, h2⟩ := slotsX_mem hx
        exact hn _ (List.mem_of_getElem? h2)
      · rw [← hq] at hx
        obtain ⟨i, hi, e, _⟩ := slotsX_mem hx
        obtain ⟨v, hv⟩ := hw i hi
        exact ⟨v, by rw [e]; exact hs i v hv⟩
      · refine k d fs H2 g1 g2 g3 g4 fun i f v hf hv => ?_
        exact g5 (i + 1, f) (by rw [← hq]; exact slotsX_get hf) v (hs i v hv)
end
/-- raise C(..) -/
def fRaise (k n : Nat) (fa : FA) : FS := fun e => (fa e).bind fun r => (Res.of (escs r.1 r.2)).bind fun q => if q.1.length = n then .exc ⟨k, q.1⟩ q.2 else .stuck
section
variable {X : Cx} {c : Ct} {W : WX} {k j : Nat} {f : Addr} {fd : FuncData} {ps : List Str} {x : Str} {p pos rpos : Pos} {a : Expr} {es : List Expr} {tr : TA} {fr : FA}
theorem sn_raise {C : Addr} {n : Nat} (hC : C = c.cl k) (hn : (c.fn k).length = n) (h9 : n ≤ 800) (h0 : 0 < n) (ha : SndA c W tr fr) : SndS c W (fun _ σ H => tMkO C (spXi C (c.fn k)) [] tr σ H fun cls d H' => W cls d σ H') (fRaise k n fr) := fun z σ H F e D I h => by
  unfold fRaise at h
  rw [Wp.bind] at h
  refine ha z σ H F e _ I (h.mono (fun r _ h vs H1 F1 x1 I1 t1 => ?_) fun _ _ h => h σ)
  rw [Wp.bind] at h
  obtain ⟨⟨ds, e1⟩, l1, h⟩ := Wp.of h
  obtain ⟨G, x2, J, rr⟩ := t1.escs I1 l1
  dsimp only at h
  split at h
  · rename_i hl
    have hlen : vs.length = n := by rw [← rr.len]; exact hl
    refine ⟨by omega, fun a ha => ⟨a, vs, by rw [List.append_nil], by rw [hlen, hn], upd_same, fun d fs H2 g1 g2 g3 g4 g5 => ?_⟩⟩
    have nda : d ≠ a := fun z => by rw [z, upd_same] at g1; cases g1
    have hd : H1 d = none := by rw [upd_ne nda] at g1; exact g1
    refine ⟨rfl, d, fs, g2, g3, hd, ?_⟩
    have e2 : upd (del H2 a) d (.xd fs) = upd H1 d (.xd fs) := by
      funext b
      by_cases hb : b = d
      · subst hb; rw [upd_same, upd_same]
      · rw [upd_ne hb, upd_ne hb]
        by_cases hba : b = a
        · subst hba; rw [del_same, ha]
        · rw [del_ne hba, g4 b hba hb, upd_ne hba]
    rw [e2]
    have xn := Ex.new (o := HO.xd fs) (fresh_back J.fh hd)
    refine h σ (.ref C) (some d) _ _ ((x1.trans x2).trans xn) (J.allocT hd) ⟨by rw [hC], .inr ⟨fun z => by rw [show ds = [] from z] at hl; simp at hl; omega, d, fs, vs, rfl, upd_same, rr.mono xn _ _, g5⟩⟩
  · exact h.elim
theorem ds_raise {n : Nat} (hc : X.calm = true) (tk : Takes X W) (hK : X.K = c.K) (T : OexC c.K (c.cl k)) (iC : PySem.W.findIn c.K (.ref (c.cl k)) "__init__" = some (some (.ref f))) (tI : PySem.W.typeIn c.K (.ref f) = some (.type "function"))
    (F : FnOk X.prog X.w X.K X.mg X.base CX0 j f fd ps (spXi (c.cl k) (c.fn k))) (hr : Room (j + 1) X.A) (hb : Binds X.K fd ps []) (hg : Gl X x) (hm : X.mg x = some (.ref (c.cl k))) (hn : (c.fn k).length = n) (h9 : n ≤ 800) (ha : DA X c W (a :: es) tr fr)
    (hdb : (x == ("__debug__" : Str)) = false := by decide) (he : starEach (a :: es) X.env = (false, eval a X.env) :: starEach es X.env := by rfl) (hpl : (backTo pos (starEach es X.env)).any (·.1) = false := by rfl) (h0 : 0 < n := by decide) :
    DS X c W (.Raise (some (.Call (.Name x p) (a :: es) [] pos)) none rpos) (fun _ σ H => tMkO (c.cl k) (spXi (c.cl k) (c.fn k)) [] tr σ H fun cls d H' => W cls d σ H') (fRaise k n fr) :=
  ⟨ps_raise hc tk (pmk_oex (hK ▸ T) (hK ▸ iC) (hK ▸ tI) F hr hb .nil pass0 hg hm ha.pa hdb he hpl), sn_raise rfl hn h9 h0 ha.sn⟩
/-- raise C(), C without own __init__ -/
theorem pmk_own0 {C : Addr} {bmB : List Value} {B newId initId : String} {x : Str} {p : Pos} (F : ExcBaseFacts B newId initId bmB) (q : PySem.W.excIn X.K C bmB newId = true) (gC : X.mg x = some (.ref C))
    (kC : PySem.W.keepIn X.K (.ref C) = true) (r : Raises X (.ref C)) (hg : Gl X x) (hdb : (x == ("__debug__" : Str)) = false := by decide) : PMk X (.Call (.Name x p) [] [] pos) (fun _ H Q => Q (.ref C) none H) := by
  intro pins s σ H Q I h
  refine wpAny_Call_Name_kw (ld_glob I hg gC ?_ hdb)
  refine PySem.W.callWith_K0 I.kIn kC ?_
  show wpAny _ _ (call (.ref C) []) _ _ _
  obtain ⟨bm, N, nm, qn, bs, hdct, sn, sub, ab, col, dd, k0, k1, k2, k3, k5, mN, hC, hN, hni, T⟩ := exc_obj I.kIn q
  refine wpAny_call_exc_subT F T hC hN hni (fun h' e hm => ?_) (Nat.zero_le _)
  exact mk_of I hm r h (I.hok.gone hm.new)
def fRaise0 (k : Nat) : FS := fun e => .exc ⟨k, []⟩ e
theorem sn_raise0 : SndS c W (fun _ σ H => W (.ref (c.cl k)) none σ H) (fRaise0 k) := fun z σ H F e D I h => by
  have h' : XpS c z W F ⟨k, []⟩ e := h
  exact h' σ (.ref (c.cl k)) none H F (Ex.refl F) I ⟨rfl, .inl ⟨rfl, rfl⟩⟩
theorem ds_raise0 {bmB : List Value} {B newId initId : String} (hc : X.calm = true) (tk : Takes X W) (hK : X.K = c.K) (F : ExcBaseFacts B newId initId bmB) (q : PySem.W.excIn c.K (c.cl k) bmB newId = true) (hm : X.mg x = some (.ref (c.cl k)))
    (kC : PySem.W.keepIn c.K (.ref (c.cl k)) = true) (r1 : PySem.W.subIn c.K (.ref (c.cl k)) (.type "BaseException") = some true) (r2 : PySem.W.typeIn c.K (.ref (c.cl k)) = some (.type "type")) (hg : Gl X x) (hdb : (x == ("__debug__" : Str)) = false := by decide) :
    DS X c W (.Raise (some (.Call (.Name x p) [] [] pos)) none rpos) (fun _ σ H => W (.ref (c.cl k)) none σ H) (fRaise0 k) :=
  ⟨ps_raise hc tk (pmk_own0 F (hK ▸ q) hm (hK ▸ kC) (raises_own (hK ▸ r1) (hK ▸ r2)) hg hdb), sn_raise0⟩
end
/-- an error class without own __init__ -/
structure XcC (K : PySem.W.Frag) (C : Addr) : Prop where
  q : PySem.W.excIn K C [.type "ValueError", .type "Exception", .type "BaseException", .type "object"] "ValueError.__new__" = true
  kC : PySem.W.keepIn K (.ref C) = true
  r1 : PySem.W.subIn K (.ref C) (.type "BaseException") = some true
  r2 : PySem.W.typeIn K (.ref C) = some (.type "type")
/-- .. with one -/
structure XiC (K : PySem.W.Frag) (C fI : Addr) : Prop where
  T : OexC K C
  iC : PySem.W.findIn K (.ref C) "__init__" = some (some (.ref fI))
  tI : PySem.W.typeIn K (.ref fI) = some (.type "function")
def AllY (c : Ct) (cv : Value) : List (Nat × Bool) → Prop
  | [] => True
  | q :: r => PySem.W.exmOne c.K (.ref (c.cl q.1)) cv = some q.2 ∧ AllY c cv r
theorem try_mk {c : Ct} {cv : Value} : ∀ {l : List (Nat × Bool)}, AllY c cv l → TryOk c cv (lkI l)
  | [], _, k, b, e => by cases e
  | q :: l, h, k, b, e => by
    unfold lkI at e
    rw [List.lookup_cons] at e
    cases hq : k == q.1 with
    | true => rw [hq] at e; cases e; rw [beq_iff_eq.mp hq]; exact h.1
    | false => rw [hq] at e; exact try_mk h.2 k b e
def AllN (K : PySem.W.Frag) (C : Addr) : List Str → Prop
  | [] => True
  | g :: r => NoAttr K C g ∧ AllN K C r
theorem xnone {K : PySem.W.Frag} {C : Addr} : ∀ {ns : List Str}, AllN K C ns → ∀ g ∈ ns, PySem.W.findIn K (.ref C) g = some none
  | [], _, g, h => by cases h
  | n :: ns, h, g, e => by
    rcases List.mem_cons.mp e with rfl | e
    · exact h.1
    · exact xnone h.2 g e
end DL

/-! DL, part r: operators in place, attributes changed in place, ranges with a step, lists of ranges. -/
namespace DL
open PySem L2 Evl
section
variable {X : Cx}
theorem ip_of {op : Operator} {C : Int → Int → Prop} {g : Int → Int → Int} (hf : ∀ (s : Shared) (i j : Int) (t u : Tok) (Q : Value → Shared → Prop), C i j → Q (.int (g i j) s.toks) { s with toks := s.toks + 1 } → wpAny (model X.prog X.w) X.A (inplaceOp op (.int i t) (.int j u)) Q X.xe s) : PIp X op (rI C fun i j => .int (g i j)) := by
  intro pins s σ H x y v u Q I r1 r2 h
  obtain ⟨i, j, e1, e2, c, q⟩ := h
  subst e1; subst e2
  obtain ⟨t, rfl⟩ := r1
  obtain ⟨t', rfl⟩ := r2
  exact hf _ _ _ _ _ _ c ⟨.int _, H, I.tok _, ⟨_, rfl⟩, q⟩
theorem ip_of0 {op : Operator} {g : Int → Int → Int} (hf : ∀ (s : Shared) (i j : Int) (t u : Tok) (Q : Value → Shared → Prop), Q (.int (g i j) s.toks) { s with toks := s.toks + 1 } → wpAny (model X.prog X.w) X.A (inplaceOp op (.int i t) (.int j u)) Q X.xe s) : PIp X op (rI0 fun i j => .int (g i j)) := by
  intro pins s σ H x y v u Q I r1 r2 h
  obtain ⟨i, j, e1, e2, q⟩ := h
  subst e1; subst e2
  obtain ⟨t, rfl⟩ := r1
  obtain ⟨t', rfl⟩ := r2
  exact hf _ _ _ _ _ _ ⟨.int _, H, I.tok _, ⟨_, rfl⟩, q⟩
theorem ipd_and : PIp X .BitAnd (rI0 fun i j => .int (Builtin.bitAnd i j)) := ip_of0 fun _ _ _ _ _ _ q => PyProof.Rows.iand_int q
theorem ipd_or : PIp X .BitOr (rI0 fun i j => .int (Builtin.bitOr i j)) := ip_of0 fun _ _ _ _ _ _ q => PyProof.Rows.ior_int q
theorem ipd_xor : PIp X .BitXor (rI0 fun i j => .int (Builtin.bitXor i j)) := ip_of0 fun _ _ _ _ _ _ q => PyProof.Rows.ixor_int q
theorem ipd_sub : PIp X .Sub (rI0 fun i j => .int (i - j)) := ip_of0 fun _ _ _ _ _ _ q => PyProof.Rows.isub_int q
theorem ipd_mul : PIp X .Mult (rI CMulW fun i j => .int (i * j)) := ip_of fun _ _ _ _ _ _ c q => PyProof.Rows.imul_int q c.ok
theorem ipd_mod : PIp X .Mod (rI (fun _ j => j ≠ 0) fun i j => .int (i.fmod j)) := ip_of fun _ _ _ _ _ _ c q => PyProof.Rows.imod_int c q
theorem ipd_div : PIp X .FloorDiv (rI CDivD fun i j => .int (i.fdiv j)) := ip_of fun _ _ _ _ _ _ c q => PyProof.Rows.ifloordiv_int c.1 q (.inl (PyProof.noPylong_of_log2 c.2))
theorem ipd_shl : PIp X .LShift (rI CShl fun i j => .int (i * 2 ^ j.toNat)) := ip_of fun _ _ _ _ _ _ c q => PyProof.Rows.ilshift_int c.1 c.2 q
/-- += of ints, of texts -/
def opAddIS (a b : D) : Option RV := match a, b with
  | .int i, .int j => some (.fl (.int (i + j)))
  | .str i, .str j => if i.length + j.length ≤ lim then some (.fl (.str (i ++ j))) else none
  | _, _ => none
theorem ipd_addI : PIp X .Add (rI0 fun i j => .int (i + j)) := ip_of0 fun _ _ _ _ _ _ q => PyProof.Rows.iadd_int q
theorem ipd_addS : PIp X .Add rAddS' := by
  intro pins s σ H x y v u Q I r1 r2 h
  obtain ⟨i, j, e1, e2, hl, q⟩ := h
  subst e1; subst e2
  obtain ⟨t, rfl⟩ := r1
  obtain ⟨t', rfl⟩ := r2
  exact PyProof.Rows.iadd_str (fun t' tk => ⟨.str _, H, I.tok tk, ⟨_, rfl⟩, q⟩) hl
theorem ipd_add : PIp X .Add (ROr (rI0 fun i j => .int (i + j)) rAddS') := by
  intro pins s σ H x y v u Q I r1 r2 h
  rcases h with h | h
  · exact ipd_addI pins s σ H x y v u Q I r1 r2 h
  · exact ipd_addS pins s σ H x y v u Q I r1 r2 h
theorem ok_addIS {c : Ct} : R2Ok c (ROr (rI0 fun i j => .int (i + j)) rAddS') opAddIS := by
  intro F H d1 d2 v1 v2 rv Q x k1 k2 l q
  cases d1 <;> cases d2 <;> try cases l
  · rename_i i j
    exact .inl ⟨i, j, k1.int, k2.int, q _ rfl⟩
  · rename_i i j
    unfold opAddIS at l
    dsimp only at l
    split at l
    · rename_i h
      cases l
      exact .inr ⟨i, j, k1.str, k2.str, lim_ok h, q _ rfl⟩
    · cases l
end
/-! ### range(i, j, c) -/
def rg3n (i j c : Int) : Nat := (Builtin.Range.rangeSize i j c).toNat
def rg3ok (i j c : Int) : Bool := decide (c ≠ 0) && decide (c.natAbs < 1073741824) && Builtin.Range.small i j c && decide (Builtin.Range.rangeSize i j c = (rg3n i j c : Int))
theorem rg3_ok {i j c : Int} (h : rg3ok i j c = true) : RgC i j c (rg3n i j c) := by
  obtain ⟨h, h4⟩ := Bool.and_eq_true_iff.mp h
  obtain ⟨h, h3⟩ := Bool.and_eq_true_iff.mp h
  obtain ⟨h1, h2⟩ := Bool.and_eq_true_iff.mp h
  exact ⟨of_decide_eq_true h1, of_decide_eq_true h2, h3, of_decide_eq_true h4⟩
def irange3 (lo c : Int) (n : Nat) : List D := (List.range n).map fun (i : Nat) => D.int (lo + (i : Int) * c)
section
variable {X : Cx} {c : Ct} {W : WX} {F : Hp} {ta : TA} {fr : FA} {a b d e : Expr} {pos : Pos}
theorem itOk_range3 {z' : Zs} {lo st : Int} {n : Nat} : ItOk c z' (Itc lo st n) F (irange3 lo st n) := fun i σ H1 F1 e x I => by
  refine ⟨fun d hd => ?_, fun hl => ?_⟩
  · unfold irange3 at hd
    rw [List.getElem?_map] at hd
    obtain ⟨k, hk, rfl⟩ := omap hd
    have hlt : i < n := by
      have := get_lt hk
      rwa [List.length_range] at this
    rw [List.getElem?_range hlt] at hk
    cases hk
    exact ⟨hlt, fun y H2 hy => ⟨F1, Ex.refl F1, by rw [hy.1]; exact Ex.refl _, by rw [hy.1]; exact I, hy.2⟩⟩
  · unfold irange3 at hl
    rw [List.length_map, List.length_range] at hl
    exact hl
def fiR3 (fr : FA) : FI := fun e => (fr e).bind fun r => Res.of ((lookTs r.1 r.2).bind fun ds => match ds with
  | [.int i, .int j, .int st] => if rg3ok i j st then some (irange3 i st (rg3n i j st), r.2) else none
  | _ => none)
theorem Views.three {F H : Hp} {d e g : D} {vs : List V} (h : Views c F H [d, e, g] vs) : ∃ v w u, vs = [v, w, u] ∧ View c F H d v ∧ View c F H e w ∧ View c F H g u := by
  obtain ⟨v, r, rfl, h1, h2⟩ := h
  obtain ⟨w, u, rfl, h3, h4⟩ := Views.two h2
  exact ⟨v, w, u, rfl, h1, h3, h4⟩
theorem sn_iR3 (ha : SndA c W ta fr) : SndI c W (iRng3 ta) (fiR3 fr) := fun z σ H F e R I h => by
  unfold fiR3 at h
  rw [Wp.bind] at h
  refine ha z σ H F e _ I (h.mono (fun r _ h vs H1 F1 x1 I1 t1 => ?_) fun _ _ h => h)
  obtain ⟨o, ea, h⟩ := Wp.of h
  obtain ⟨ds, l1, ea⟩ := obind ea
  have k := t1.views I1 l1
  split at ea
  · rename_i i j st
    split at ea
    · rename_i hk
      cases ea
      obtain ⟨v, w, u, rfl, k1, k2, k3⟩ := k.three
      exact ⟨i, j, st, _, by rw [k1.int, k2.int, k3.int], rg3_ok hk, h _ H1 F1 x1 I1 fun z' => itOk_range3⟩
    · cases ea
  · cases ea
theorem di_range3 {tg : Expr} {p : Pos} (hg : Gl X "range") (hm : X.mg "range" = none) (ha : DA X c W [a, b, d] ta fr)
    (hs : starEach [a, b, d] X.env = (false, eval a X.env) :: starEach [b, d] X.env := by rfl) (hpl : (backTo pos (starEach [b, d] X.env)).any (·.1) = false := by rfl) :
    DI X c W tg (.Call (.Name "range" p) [a, b, d] [] pos) (iRng3 ta) (fiR3 fr) := ⟨pi_range3 hg hm ha.pa hs hpl, sn_iR3 ha.sn⟩
/-! ### list(range(..)) -/
def ok24 (i j : Int) : Bool := ok62 i && ok62 j && decide ((j - i).toNat ≤ 1000000)
theorem rgOk_of {i j : Int} (h : ok24 i j = true) : RgOk i j := by
  obtain ⟨h, h3⟩ := Bool.and_eq_true_iff.mp h
  obtain ⟨h1, h2⟩ := Bool.and_eq_true_iff.mp h
  obtain ⟨a1, a2⟩ := Bool.and_eq_true_iff.mp h1
  obtain ⟨b1, b2⟩ := Bool.and_eq_true_iff.mp h2
  have h3 := of_decide_eq_true h3
  exact ⟨of_decide_eq_true a1, of_decide_eq_true a2, of_decide_eq_true b1, of_decide_eq_true b2, by omega⟩
theorem RpL.rg (i j : Int) : RpL c F (irange i (j - i).toNat) (rgV i j) := by
  have h := RpL.of_ints (c := c) (F := F) ((List.range (j - i).toNat).map fun (k : Nat) => i + (k : Int))
  rw [List.map_map, List.map_map] at h
  exact h
def fLR1 (fa : FE) : FE := fun e => (fa e).bind fun r => Res.of ((lookT r.1 r.2).bind fun d => match d with
  | .int n => if ok24 0 n then some (.nw (.lst (irange 0 (n - 0).toNat)), r.2) else none
  | _ => none)
def fLR2 (fa fb : FE) : FE := fun e => (fa e).bind fun r => (fb r.2).bind fun q => Res.of ((lookT r.1.seal q.2).bind fun d1 => (lookT q.1 q.2).bind fun d2 => match d1, d2 with
  | .int i, .int j => if ok24 i j then some (.nw (.lst (irange i (j - i).toNat)), q.2) else none
  | _, _ => none)
variable {ta1 tb1 : TE} {fa fb : FE}
theorem lay_new {z : Zs} {σ : L2.St} {H : Hp} {e : DEnv} {Q : VK} {ds : List D} {vs : List V} (I : I2 c z σ H F e) (r : RpL c F ds vs) (h : ∀ v H' F', Ex F F' → I2 c z σ H' F' e → TR c z F' H' σ e (.nw (.lst ds)) v → Q v H') : ∀ p, H p = none → Q (.ref p) (upd H p (.lst vs)) := fun p hp =>
  h _ _ F (Ex.refl F) (I.alloc (Ex.new hp)) ⟨p, rfl, ⟨fresh_back I.fh hp, vs, upd_same, r⟩, I.fresh0 hp, I.noroot hp⟩
theorem sn_lr1 (ha : SndE c W ta1 fa) : SndE c W (tLstRg (tRg1 ta1)) (fLR1 fa) := fun z σ H F e Q I h => by
  unfold fLR1 at h
  rw [Wp.bind] at h
  refine ha z σ H F e _ I (h.mono (fun r _ h v H1 F1 x1 I1 t1 => ?_) fun _ _ h => h)
  obtain ⟨o, ea, h⟩ := Wp.of h
  obtain ⟨d, l1, ea⟩ := obind ea
  cases d <;> try cases ea
  rename_i n
  dsimp only at ea
  split at ea
  · rename_i hk
    cases ea
    exact ⟨n, (t1.view I1 l1).int, rgOk_of hk, lay_new I1 (RpL.rg 0 n) fun v' H' F' x' I' t' => h v' H' F' (x1.trans x') I' t'⟩
  · cases ea
theorem sn_lr2 (ha : SndE c W ta1 fa) (hb : SndE c W tb1 fb) : SndE c W (tLstRg (tRg2 ta1 tb1)) (fLR2 fa fb) := fun z σ H F e Q I h => by
  unfold fLR2 at h
  rw [Wp.bind] at h
  refine ha z σ H F e _ I (h.mono (fun r _ h v H1 F1 x1 I1 t1 => ?_) fun _ _ h => h)
  obtain ⟨F2, x2, J, t2⟩ := t1.seal I1
  rw [Wp.bind] at h
  refine hb z σ H1 F2 _ _ J (h.mono (fun q _ h w H3 F3 x3 I3 t3 => ?_) fun _ _ h => h.mono (x1.trans x2))
  obtain ⟨o, ea, h⟩ := Wp.of h
  obtain ⟨d1, l1, ea⟩ := obind ea
  obtain ⟨d2, l2, ea⟩ := obind ea
  cases d1 <;> cases d2 <;> try cases ea
  rename_i i _ j
  dsimp only at ea
  split at ea
  · rename_i hk
    cases ea
    exact ⟨i, j, ((t2.keep (H' := H3) x3).view I3 l1).int, (t3.view I3 l2).int, rgOk_of hk, lay_new I3 (RpL.rg i j) fun v' H' F' x' I' t' => h v' H' F' (((x1.trans x2).trans x3).trans x') I' t'⟩
  · cases ea
theorem de_lr1 {p p2 pos2 : Pos} (hc : X.calm = true) (hg : Gl X "list") (hm : X.mg "list" = none) (hg2 : Gl X "range") (hm2 : X.mg "range" = none) (ha : DE X c W a ta1 fa)
    (na : starEach [.Call (.Name "range" p2) [a] [] pos2] X.env = (false, eval (.Call (.Name "range" p2) [a] [] pos2) X.env) :: starEach [] X.env := by rfl) (nb : starEach [a] X.env = (false, eval a X.env) :: starEach [] X.env := by rfl) :
    DE X c W (.Call (.Name "list" p) [.Call (.Name "range" p2) [a] [] pos2] [] pos) (tLstRg (tRg1 ta1)) (fLR1 fa) := ⟨pe_listRg hc hg hm (prg_1 hg2 hm2 ha.pe nb) na, sn_lr1 ha.sn⟩
theorem de_lr2 {p p2 pos2 : Pos} (hc : X.calm = true) (hg : Gl X "list") (hm : X.mg "list" = none) (hg2 : Gl X "range") (hm2 : X.mg "range" = none) (ha : DE X c W a ta1 fa) (hb : DE X c W b tb1 fb)
    (na : starEach [.Call (.Name "range" p2) [a, b] [] pos2] X.env = (false, eval (.Call (.Name "range" p2) [a, b] [] pos2) X.env) :: starEach [] X.env := by rfl) (nb : starEach [a, b] X.env = (false, eval a X.env) :: starEach [b] X.env := by rfl)
    (nc : starEach [b] X.env = (false, eval b X.env) :: starEach [] X.env := by rfl) (hp : (backTo pos2 (starEach [b] X.env)).any (·.1) = false := by rfl) :
    DE X c W (.Call (.Name "list" p) [.Call (.Name "range" p2) [a, b] [] pos2] [] pos) (tLstRg (tRg2 ta1 tb1)) (fLR2 fa fb) := ⟨pe_listRg hc hg hm (prg_2 hg2 hm2 ha.pe hb.pe nb nc hp) na, sn_lr2 ha.sn hb.sn⟩
/-! .. with a step -/
open PySem.Spec PyProof.Rows
def PRg3 (X : Cx) (e : Expr) (t : L2.St → Hp → (Int → Int → Int → Hp → Prop) → Prop) : Prop :=
  ∀ (pins : List (Addr × Obj)) (s : Shared) (σ : L2.St) (H : Hp) (Q : Int → Int → Int → Hp → Prop), Inv X pins σ H s → t σ H Q →
    wpAny (model X.prog X.w) X.A (eval e X.env) (fun x s' => ∃ r a b c t u v H', x = .ref r ∧ IsRange s'.heap r a b c t u v ∧ Inv X pins σ H' s' ∧ Q a b c H') X.xe s
def tRg3 (ta : TA) : L2.St → Hp → (Int → Int → Int → Hp → Prop) → Prop := fun σ H Q => ta σ H fun vs H1 => ∃ i j c : Int, vs = [.int i, .int j, .int c] ∧ c ≠ 0 ∧ c.natAbs < 1073741824 ∧ Q i j c H1
theorem prg_3 {p : Pos} (hg : Gl X "range") (hm : X.mg "range" = none) (ha : PA X [a, b, d] ta) (hs : starEach [a, b, d] X.env = (false, eval a X.env) :: starEach [b, d] X.env := by rfl) (hpl : (backTo pos (starEach [b, d] X.env)).any (·.1) = false := by rfl) :
    PRg3 X (.Call (.Name "range" p) [a, b, d] [] pos) (tRg3 ta) := by
  intro pins s σ H Q I h
  refine Call_ (ld_blt I hg hm boot_range (PyProof.Rows.callWith_type1 (thn (ha.run pos pins s σ H _ I h) fun us s1 ⟨vs, H1, I1, r1, q1⟩ => ?_) hs hpl))
  obtain ⟨i, j, k, e, c0, c1, q⟩ := q1
  subst e
  cases r1 with
  | cons r rr =>
    cases rr with
    | cons r' rr =>
      cases rr with
      | cons r'' rr =>
        cases rr
        obtain ⟨t, rfl⟩ := r
        obtain ⟨t', rfl⟩ := r'
        obtain ⟨t'', rfl⟩ := r''
        refine call_range_3 c0 ?_ (.inl (PyProof.noPylong_small c1))
        exact ⟨_, i, j, k, _, _, _, H1, rfl, IsRange.new _ _ _ _ _ _ _, I1.kept fun b u e => Heap.get?_push_of_some _ e, q⟩
def rg3V (i c : Int) (n : Nat) : List V := (List.range n).map fun k => V.int (i + (k : Nat) * c)
theorem vals_rg3 {a c : Int} {n : Nat} {acc : Array Value} (h : ItemsOf (fun i v => ∃ t, v = .int (a + i * c) t) acc n) : Vals (rg3V a c n) acc.toList := by
  have e : acc.toList.length = n := by rw [Array.length_toList]; exact h.1
  unfold rg3V
  rw [← e]
  refine vals_of_get acc.toList _ fun j u hj => ?_
  obtain ⟨t, rfl⟩ := h.2 j u (by rw [← hj, Array.getElem?_toList])
  exact ⟨t, rfl⟩
def tLstRg3 (te : L2.St → Hp → (Int → Int → Int → Hp → Prop) → Prop) : TE := fun σ H Q => te σ H fun a b c H1 => RgC a b c (rg3n a b c) ∧ rg3n a b c ≤ 2 ^ 24 ∧ ∀ q, H1 q = none → Q (.ref q) (upd H1 q (.lst (rg3V a c (rg3n a b c))))
theorem pe_listRg3 {te : L2.St → Hp → (Int → Int → Int → Hp → Prop) → Prop} {p : Pos} (hc : X.calm = true) (hg : Gl X "list") (hm : X.mg "list" = none) (he : PRg3 X e te) (na : starEach [e] X.env = (false, eval e X.env) :: starEach [] X.env := by rfl) : PE X (.Call (.Name "list" p) [e] [] pos) (tLstRg3 te) := by
  refine ⟨fun pins s σ H Q I h => ?_⟩
  refine Call_ (ld_blt I hg hm boot_list (PyProof.Rows.callWith_type1 (args_cons (thn (he pins s σ H _ I h) fun x s1 ⟨r, a, b, st, t, u, v, H1, ex, hr, I1, ok, h24, q⟩ => args_nil ?_) na) na))
  subst ex
  obtain ⟨b1, b2, b3, b4⟩ := ok
  refine call_list_range (n := rg3n a b st) (I1.ok.hd hc) hr b3 b4 h24 fun h' tk acc c' hk e' hi => ?_
  refine ⟨.ref s1.heap.objs.size, upd H1 s1.heap.objs.size (.lst (rg3V a st (rg3n a b st))), I1.laid hk (Nat.le_refl _) (show ObjOk X.prog X.w _ _ _ (.lst (rg3V a st (rg3n a b st))) from ⟨?_, acc.toList, c', vals_rg3 hi, ?_⟩), rfl, q _ (I1.hok.fresh (Nat.le_refl _))⟩
  · unfold rg3V
    rw [List.length_map, List.length_range, sizeLine_eq]
    omega
  · rw [Array.toArray_toList]; exact e'
theorem RpL.rg3 (i st : Int) (n : Nat) : RpL c F (irange3 i st n) (rg3V i st n) := by
  have h := RpL.of_ints (c := c) (F := F) ((List.range n).map fun (k : Nat) => i + (k : Int) * st)
  rw [List.map_map, List.map_map] at h
  exact h
def fLR3 (fr : FA) : FE := fun e => (fr e).bind fun r => Res.of ((lookTs r.1 r.2).bind fun ds => match ds with
  | [.int i, .int j, .int st] => if rg3ok i j st && decide (rg3n i j st ≤ 1000000) then some (.nw (.lst (irange3 i st (rg3n i j st))), r.2) else none
  | _ => none)
theorem sn_lr3 (ha : SndA c W ta fr) : SndE c W (tLstRg3 (tRg3 ta)) (fLR3 fr) := fun z σ H F e Q I h => by
  unfold fLR3 at h
  rw [Wp.bind] at h
  refine ha z σ H F e _ I (h.mono (fun r _ h vs H1 F1 x1 I1 t1 => ?_) fun _ _ h => h)
  obtain ⟨o, ea, h⟩ := Wp.of h
  obtain ⟨ds, l1, ea⟩ := obind ea
  have k := t1.views I1 l1
  split at ea
  · rename_i i j st
    split at ea
    · rename_i hk
      cases ea
      obtain ⟨hk, h24⟩ := Bool.and_eq_true_iff.mp hk
      have h24 := of_decide_eq_true h24
      obtain ⟨v, w, u, rfl, k1, k2, k3⟩ := k.three
      have rc := rg3_ok hk
      exact ⟨i, j, st, by rw [k1.int, k2.int, k3.int], rc.1, rc.2.1, rc, by omega, lay_new I1 (RpL.rg3 i st _) fun v' H' F' x' I' t' => h v' H' F' (x1.trans x') I' t'⟩
    · cases ea
  · cases ea
theorem de_lr3 {p p2 pos2 : Pos} (hc : X.calm = true) (hg : Gl X "list") (hm : X.mg "list" = none) (hg2 : Gl X "range") (hm2 : X.mg "range" = none) (ha : DA X c W [a, b, d] ta fr)
    (na : starEach [.Call (.Name "range" p2) [a, b, d] [] pos2] X.env = (false, eval (.Call (.Name "range" p2) [a, b, d] [] pos2) X.env) :: starEach [] X.env := by rfl) (hs : starEach [a, b, d] X.env = (false, eval a X.env) :: starEach [b, d] X.env := by rfl) (hpl : (backTo pos2 (starEach [b, d] X.env)).any (·.1) = false := by rfl) :
    DE X c W (.Call (.Name "list" p) [.Call (.Name "range" p2) [a, b, d] [] pos2] [] pos) (tLstRg3 (tRg3 ta)) (fLR3 fr) := ⟨pe_listRg3 hc hg hm (prg_3 hg2 hm2 ha.pa hs hpl) na, sn_lr3 ha.sn⟩
end
end DL

/-! DL, part u: xs[::-1]. -/
namespace DL
open PySem L2 Evl
theorem fm_congr {α β : Type} {f g : α → Option β} : ∀ {l : List α}, (∀ a ∈ l, f a = g a) → l.filterMap f = l.filterMap g
  | [], _ => rfl
  | a :: l, h => by rw [List.filterMap_cons, List.filterMap_cons, h a List.mem_cons_self, fm_congr fun b hb => h b (List.mem_cons_of_mem _ hb)]
theorem slicePick_rev (its : List Value) : slicePick its.toArray none none (some (-1)) = its.reverse.toArray := by
  have e : sliceBounds none none (some (-1)) its.toArray.size = ((its.length : Int) - 1, -1, -1) := by simp [sliceBounds]
  unfold slicePick
  rw [e]
  dsimp only
  have e2 : sliceRange ((its.length : Int) - 1) (-1) (-1) = (List.range its.length).map fun (k : Nat) => its.length - 1 - k := by
    unfold sliceRange
    have hc : ¬ ((-1 : Int) > 0) := by decide
    simp only [hc, if_false]
    by_cases h : (its.length : Int) - 1 > -1
    · rw [if_pos h]
      have e3 : (((its.length : Int) - 1 - -1 - -1 - 1) / (- -1)).toNat = its.length := by
        have : (its.length : Int) - 1 - -1 - -1 - 1 = its.length := by omega
        rw [this, show (- -1 : Int) = 1 by decide, Int.ediv_one]
        omega
      rw [e3]
      refine List.map_congr_left fun k _ => ?_
      omega
    · have h0 : its.length = 0 := by omega
      simp [h0]
  rw [e2]
  have e4 : ((List.range its.length).map fun (k : Nat) => its.length - 1 - k).filterMap (its.toArray[·]?) = ((List.range its.length).map (0 + ·)).filterMap (its.reverse.toArray[·]?) := by
    rw [List.filterMap_map, List.filterMap_map]
    refine fm_congr fun k hk => ?_
    have hk' : k < its.length := List.mem_range.mp hk
    show its.toArray[its.length - 1 - k]? = its.reverse.toArray[0 + k]?
    rw [List.getElem?_toArray, List.getElem?_toArray, Nat.zero_add, List.getElem?_reverse hk']
  rw [e4, pick_run]
  simp
  exact List.take_of_length_le (by simp)
section
variable {X : Cx} {c : Ct} {W : WX} {a : Expr} {ta : TE} {fa : FE} {pos p2 p3 p4 : Pos}
def rRevL (K : PySem.W.Frag) : V → Hp → VK → Prop := fun x H Q => ∃ a xs, x = .ref a ∧ SqL K H a xs ∧ ∀ p, H p = none → Q (.ref p) (upd H p (.lst xs.reverse))
open PySem.Spec PyProof.Rows in
theorem pe_rev {j : Nat} (he : PE X a ta) : PE X (.Subscript a (.Slice none none (some (.UnaryOp .USub (.Constant (.int 1) j p4) p3)) p2) pos) (tUn (rRevL X.K) ta) := by
  refine ⟨fun pins s σ H Q I h => ?_⟩
  refine Subscript_ (thn (he.run pins s σ H _ I h) fun v s1 ⟨x, H1, I1, r1, b, xs, ex, hx, q⟩ => ?_)
  subst ex
  cases r1
  refine wpAny_Slice ?_
  rw [evalPart_none]
  refine wpAny_pure ?_
  refine wpAny_pure ?_
  rw [evalPart_some]
  have e1 : PE X (.UnaryOp .USub (.Constant (.int 1) j p4) p3) (tUn (rU fun i => .int (-i)) (tC (.int 1))) := pe_un un_neg pe_int
  refine thn (e1.run pins s1 σ H1 (fun y H2 => y = .int (-1) ∧ H2 = H1) I1 ⟨1, rfl, rfl, rfl⟩) fun u s2 ⟨y, H2, I2, r2, ey, eH⟩ => ?_
  subst ey; subst eH
  obtain ⟨t, rfl⟩ := r2
  have I3 : Inv X pins σ H2 { s2 with heap := s2.heap.push { cls := .type "slice", data := .fields #[.none, .none, .int (-1) t] } } := I2.kept (t' := s2.toks) fun b ob q => Heap.get?_push_of_some _ q
  obtain ⟨its, r, ht, hz⟩ := I3.list hx
  have hlen := r.length
  show wpAny (model X.prog X.w) X.A (subscriptTail a (.Slice none none (some (.UnaryOp .USub (.Constant (.int 1) j p4) p3)) p2) (.ref b) (.ref s2.heap.objs.size)) (EP X pins σ Q) X.xe { s2 with heap := s2.heap.push { cls := .type "slice", data := .fields #[.none, .none, .int (-1) t] } }
  refine tail_any (ops := [.ref b, .ref s2.heap.objs.size]) ht.isList.typeIs slot_list_getitem.lookup ?_ (by with_unfolding_all rfl)
  refine wpAny_getItem_list_slice (st := some (-1)) ht.isList (Heap.IsSliceOf.new ..) .none .none (.int _ _) (by simp) ?_ (by rw [List.size_toArray] <;> omega)
  rw [slicePick_rev]
  have hr : Vals xs.reverse its.reverse := by
    have : ∀ {xs : List V} {its : List Value}, Vals xs its → Vals xs.reverse its.reverse := by
      intro xs its h
      induction h with
      | nil => exact .nil
      | cons a b ih => rw [List.reverse_cons, List.reverse_cons]; exact ih.append (.cons a .nil)
    exact this r
  refine ⟨.ref _, _, I3.laid (t' := s2.toks) (o := .lst xs.reverse) (fun b ob q => Heap.get?_push_of_some _ q) (Nat.le_refl _) ?_, rfl, q _ (I3.hok.fresh (Nat.le_refl _))⟩
  exact ⟨by rw [List.length_reverse]; exact hz, _, 0, hr, Heap.get?_push_size _ rfl⟩
def opRev (a : D) : Option RV := match a with
  | .lst ds => some (.nl ds.reverse)
  | .rol ds => some (.nl ds.reverse)
  | _ => none
theorem ok_rev : R1Ok c (rRevL c.K) opRev := by
  intro F H d1 v1 rv Q x k1 l q
  cases d1 <;> try cases l
  · obtain ⟨p, vs, rfl, h1, r⟩ := k1.lst x
    exact ⟨p, vs, rfl, sq_of h1, fun p hp => q p _ r.rev hp⟩
  · obtain ⟨p, vs, rfl, h1, r⟩ := k1.rol x
    exact ⟨p, vs, rfl, h1, fun p hp => q p _ r.rev hp⟩
theorem de_rev {j : Nat} (hK : X.K = c.K) (ha : DE X c W a ta fa) : DE X c W (.Subscript a (.Slice none none (some (.UnaryOp .USub (.Constant (.int 1) j p4) p3)) p2) pos) (tUn (rRevL c.K) ta) (fOp1 opRev fa) := ⟨hK ▸ pe_rev ha.pe, sn_op1 ok_rev ha.sn⟩
end
end DL

/-! DL, part v: a, *b = a tuple. -/
namespace PySem.W
open PySem PySem.Spec PySem.Calls PyProof.Rows
section
variable {prog : Program} {w : World} {A : Around} {E : Value → Shared → Prop} {s : Shared} {env : Env} {elts : List Expr} {k : Nat} {pos : Pos}
theorem dl_starT {l : Addr} {items : Array Value} {n i : Nat} {Q : List Value → Shared → Prop} (hl : IsTup s.heap l items) (hh : A.handled = none) (hi : i < n) (hn : n ≤ items.size + 1) (hz : items.size ≤ 16384)
    (h : ∀ h2 tk, Heap.ExtBut s.heap.objs.size s.heap h2 → Q (items.toList.take i ++ [.ref h2.objs.size] ++ (items.toList.drop i).drop (items.size + 1 - n)) { s with heap := h2.push { cls := .type "list", data := .seq ((items.toList.drop i).take (items.size + 1 - n)).toArray }, toks := tk }) :
    wpAny (model prog w) A (unpackItems (.ref l) n (some i)) Q E s := by
  have hlt : l ≠ s.heap.objs.size := by obtain ⟨o, ho, _⟩ := hl; exact Nat.ne_of_lt (Heap.lt_size ho)
  unfold unpackItems
  refine wpAny_bind ?_
  unfold notIterableAtAll
  refine wpAny_bind (wpAny_specialOf hl.typeIs slot_tuple_iter.lookup (wpAny_pure ?_))
  simp only [Bool.false_eq_true, if_false]
  refine wpAny_bind (wpAny_holding (iter_tuple hl ?_))
  refine wpAny_bind (wpAny_holding (draw_tuple hlt i 0 _ _ ⟨_, Heap.get?_push_size _ rfl, rfl, rfl⟩ (hl.push _) (by omega) fun h₁ hit₁ hs₁ => ?_))
  have hl₁ : IsTup h₁ l items := (hl.push _).extBut hs₁.extBut hlt
  rw [Nat.zero_add] at hit₁
  obtain ⟨oi, hoi, _⟩ := id hit₁
  obtain ⟨ol, hol, _⟩ := id hl₁
  rw [List.drop_zero]
  have hfl : (items.toList.take i).length = i := by rw [List.length_take, Array.length_toList]; omega
  rw [if_neg (show ¬ ((items.toList.take i).length < i) by rw [hfl]; omega)]
  refine wpAny_bind (wpAny_holding (kun_collect (s := { s with heap := h₁ }) (T := "tuple_iterator") (.inr (.inr (.inr rfl))) (Walks.tuple (A := A.in1) hh s.heap.objs.size l hlt items) (fun j u st => st.1.typeIs)
    (k := i) (by omega) ⟨hit₁, hl₁⟩ (Heap.lt_size hoi) (Heap.lt_size hol) (fun h₂ tk hk => ?_) (by rw [sizeLine_eq]; omega)))
  have hrl : (items.toList.drop i).length = items.size - i := by rw [List.length_drop, Array.length_toList]
  have hmid : (items.toList.drop i).length - (n - 1 - i) = items.size + 1 - n := by rw [hrl]; omega
  show wpAny _ _ (if (items.toList.drop i).length < n - 1 - i then _ else _) _ _ _
  rw [if_neg (by rw [hrl]; omega)]
  show wpAny _ _ (newList ((items.toList.drop i).take ((items.toList.drop i).length - (n - 1 - i))) >>= fun d => pure (items.toList.take i ++ [d] ++ (items.toList.drop i).drop ((items.toList.drop i).length - (n - 1 - i)))) _ _ _
  rw [hmid]
  have he : Heap.ExtBut s.heap.objs.size s.heap h₂ := fun b o hb e => hk b o hb (hs₁.extBut b o hb (Heap.get?_push_of_some _ e))
  unfold newList
  exact wpAny_bind (wpAny_newObj_type (wpAny_pure (h h₂ tk he)) (by show ((items.toList.drop i).take (items.size + 1 - n)).toArray.size ≤ sizeLine; rw [List.size_toArray, List.length_take, hrl, sizeLine_eq]; omega))
end
end PySem.W
namespace DL
open PySem L2 Evl
section
variable {X : Cx} {c : Ct} {W : WX} {a : Expr} {ta : TE} {fa : FE} {pos tpos : Pos} {es : List Expr} {gs : TGs} {fs : List D → DEnv → Option DEnv} {n i k : Nat}
def gStar (K : PySem.W.Frag) (n i : Nat) (t : TGs) : TG := fun v σ H Q => ∃ a xs, v = .ref a ∧ SqT K H a xs ∧ n ≤ xs.length + 1 ∧ xs.length ≤ 16384 ∧
  ∀ q, H q = none → t (xs.take i ++ [.ref q] ++ (xs.drop i).drop (xs.length + 1 - n)) σ (upd H q (.lst ((xs.drop i).take (xs.length + 1 - n)))) Q
open PySem.Spec PyProof.Rows in
theorem pg_star (hc : X.calm = true) (h : PGs X es gs) (hi : i < n) (hn : (assignEach es X.env).length = n := by rfl) (hst : (assignEach es X.env).findIdx? (·.1) = some i := by rfl) : PG X (.Tuple es k pos) (gStar X.K n i gs) := by
  refine ⟨fun pins s σ H v u Q I r hw => ?_⟩
  obtain ⟨a, xs, e1, hq, hl, hz, hw⟩ := hw
  subst e1
  cases r
  obtain ⟨its, rv, ht, hz'⟩ := I.tuple hq
  have hlen : xs.length = its.length := rv.length
  rw [assign_Tuple]
  refine wpAny_bind (wpAny_standAt ?_)
  unfold unpack
  rw [hn, hst]
  refine wpAny_bind (wpAny_holding (PySem.W.dl_starT ht (I.ok.hd hc) hi (by rw [List.size_toArray]; omega) (by rw [List.size_toArray]; omega) fun h2 tk hx => ?_))
  have es' : its.toArray.size = xs.length := by rw [List.size_toArray, hlen]
  rw [es']
  have I1 : L2.Inv X pins σ H { s with heap := h2, toks := tk } := I.kept (t' := tk) fun b o e => hx b o (Nat.ne_of_lt (Heap.lt_size e)) e
  have I2 : L2.Inv X pins σ (upd H h2.objs.size (.lst ((xs.drop i).take (xs.length + 1 - n)))) { s with heap := h2.push { cls := .type "list", data := .seq ((its.drop i).take (xs.length + 1 - n)).toArray }, toks := tk } :=
    I1.laid (t' := tk) (fun b ob q => Heap.get?_push_of_some _ q) (Nat.le_refl _) (show ObjOk X.prog X.w _ _ _ (.lst _) from ⟨by rw [List.length_take, List.length_drop, sizeLine_eq]; omega, _, 0, (rv.drop i).take (xs.length + 1 - n), Heap.get?_push_size _ rfl⟩)
  exact h.run pins _ σ _ _ _ Q I2 (((rv.take i).append (show Vals [V.ref h2.objs.size] [Value.ref h2.objs.size] from .cons rfl .nil)).append ((rv.drop i).drop (xs.length + 1 - n))) (hw _ (I1.hok.fresh (Nat.le_refl _)))
def fStar (n i : Nat) (fs : List D → DEnv → Option DEnv) (f : FE) : FS := fun e => (f e).bind fun r => Res.of ((escape r.1 r.2).bind fun q => match q.1 with
  | .tup ds => if decide (n ≤ ds.length + 1) && decide (ds.length ≤ 16384) then (fs (ds.take i ++ [.lst ((ds.drop i).take (ds.length + 1 - n))] ++ (ds.drop i).drop (ds.length + 1 - n)) q.2).map .nx else none
  | _ => none)
theorem sn_star (ha : SndE c W ta fa) (hg : ∀ (z : Zs) σ H F e ds vs e' (Q : L2.St → Hp → Prop), I2 c z σ H F e → RpL c F ds vs → fs ds e = some e' → (∀ σ', I2 c z σ' H F e' → Q σ' H) → gs vs σ H Q) : SndS c W (tAsg ta (gStar c.K n i gs)) (fStar n i fs fa) := fun z σ H F e D I h => by
  unfold fStar at h
  rw [Wp.bind] at h
  refine ha z σ H F e _ I (h.mono (fun r _ h v H1 F1 x1 I1 t1 => ?_) fun _ _ h => h σ)
  obtain ⟨o, ea, h⟩ := Wp.of h
  obtain ⟨⟨d, e1⟩, l1, ea⟩ := obind ea
  obtain ⟨G, x2, J, rr⟩ := t1.escape I1 l1
  cases d <;> try cases ea
  rename_i ds
  dsimp only at ea
  split at ea
  · rename_i hk
    obtain ⟨hk1, hk2⟩ := Bool.and_eq_true_iff.mp hk
    have hk1 := of_decide_eq_true hk1
    have hk2 := of_decide_eq_true hk2
    obtain ⟨e2, l2, rfl⟩ := omap ea
    obtain ⟨p, vs, rfl, h1, h2⟩ := rr
    have hlen := h2.len
    refine ⟨p, vs, rfl, ex_t J.fh h1, by omega, by omega, fun q hq => ?_⟩
    have xn := Ex.new (o := HO.lst ((vs.drop i).take (vs.length + 1 - n))) (fresh_back J.fh hq)
    have J2 := J.allocT (o := HO.lst ((vs.drop i).take (vs.length + 1 - n))) hq
    refine hg z σ _ _ e1 _ _ e2 _ J2 ?_ l2 fun σ' K => h σ' _ _ ((x1.trans x2).trans xn) K
    have r2 := RpL.mono xn ds vs h2
    rw [hlen]
    have r3 : Rp c (upd G q (HO.lst ((vs.drop i).take (vs.length + 1 - n)))) (.lst ((ds.drop i).take (vs.length + 1 - n))) (.ref q) := ⟨q, _, rfl, upd_same, (r2.drop i).take _⟩
    exact ((r2.take i).app (RpL.one r3)).app ((r2.drop i).drop _)
  · cases ea
theorem ds_star (hK : X.K = c.K) (hc : X.calm = true) (ha : DE X c W a ta fa) (hp : PGs X es gs) (hg : ∀ (z : Zs) σ H F e ds vs e' (Q : L2.St → Hp → Prop), I2 c z σ H F e → RpL c F ds vs → fs ds e = some e' → (∀ σ', I2 c z σ' H F e' → Q σ' H) → gs vs σ H Q) (hi : i < n)
    (hn : (assignEach es X.env).length = n := by rfl) (hst : (assignEach es X.env).findIdx? (·.1) = some i := by rfl)
    (hs : swapsWithSole [.Tuple es k tpos] a pos.line X.env = pure false := by rfl) (hw : swappedStores [.Tuple es k tpos] a X.env = pure none := by rfl) (h1 : (assignEach [.Tuple es k tpos] X.env).map (·.2) = [assign (.Tuple es k tpos) X.env] := by rfl) :
    DS X c W (.Assign [.Tuple es k tpos] a pos) (tAsg ta (gStar c.K n i gs)) (fStar n i fs fa) := ⟨hK ▸ ps_asg ha.pe (pg_star hc hp hi hn hst) hs hw h1, sn_star ha.sn hg⟩
/-- a, *b = e -/
theorem ds_star2 {i1 i2 : Nat} {x y : Str} {p1 p2 p3 : Pos} (hK : X.K = c.K) (hc : X.calm = true) (ha : DE X c W a ta fa) (h1 : DG X c (.Name x p1) (gName i1) (fgName i1)) (h2 : DG X c (.Name y p3) (gName i2) (fgName i2))
    (hn : (assignEach [.Name x p1, .Starred (.Name y p3) p2] X.env).length = 2 := by rfl) (hst : (assignEach [.Name x p1, .Starred (.Name y p3) p2] X.env).findIdx? (·.1) = some 1 := by rfl)
    (hs : swapsWithSole [.Tuple [.Name x p1, .Starred (.Name y p3) p2] k tpos] a pos.line X.env = pure false := by rfl) (hw : swappedStores [.Tuple [.Name x p1, .Starred (.Name y p3) p2] k tpos] a X.env = pure none := by rfl)
    (h3 : (assignEach [.Tuple [.Name x p1, .Starred (.Name y p3) p2] k tpos] X.env).map (·.2) = [assign (.Tuple [.Name x p1, .Starred (.Name y p3) p2] k tpos) X.env] := by rfl)
    (hm : (assignEach [.Name x p1, .Starred (.Name y p3) p2] X.env).map (·.2) = (assignEach [.Name x p1, .Name y p3] X.env).map (·.2) := by rfl) :
    DS X c W (.Assign [.Tuple [.Name x p1, .Starred (.Name y p3) p2] k tpos] a pos) (tAsg ta (gStar c.K 2 1 (gCons (gName i1) (gCons (gName i2) gNil)))) (fStar 2 1 (fgCons (fgName i1) (fgCons (fgName i2) fgNil)) fa) :=
  ds_star hK hc ha ⟨fun pins s σ H vs us Q I r h => by rw [hm]; exact (dgs_cons h1 (dgs_cons h2 dgs_nil)).pg.run pins s σ H vs us Q I r h⟩ (dgs_cons h1 (dgs_cons h2 dgs_nil)).sn (by decide) hn hst hs hw h3
end
end DL

/-! DL, part aa: chains of comparisons, truth, is None, in (lists, tuples, texts), walks over anything. -/
namespace DL
open PySem L2 Evl
section
variable {X : Cx} {c : Ct} {z : Zs} {W : WX} {σ : L2.St} {H F : Hp} {e : DEnv} {a b d : Expr} {ta tb tc : TE} {fa fb fc : FE} {pos : Pos}
/-! ### a < b < c -/
def fChain (op op' : D → D → Option RV) (fa fb fc : FE) : FE := fun e => (fa e).bind fun r => (fb r.2).bind fun q => match (lookT r.1.seal q.2).bind fun d1 => (lookT q.1.seal q.2).bind fun d2 => op d1 d2 with
  | some (.fl (.bl true)) => (fc q.2).bind fun u => Res.of ((lookT q.1.seal u.2).bind fun d2 => (lookT u.1 u.2).bind fun d3 => (op' d2 d3).bind fun rv => some (rv.tok, u.2))
  | some (.fl (.bl false)) => .ok (.vl (.bl false), q.2)
  | _ => .stuck
theorem sn_chain {r r' : R2} {op op' : D → D → Option RV} (ho : R2Ok c r op) (ho' : R2Ok c r' op') (ha : SndE c W ta fa) (hb : SndE c W tb fb) (hc : SndE c W tc fc) : SndE c W (tChain r r' ta tb tc) (fChain op op' fa fb fc) := fun z σ H F e Q I h => by
  unfold fChain at h
  rw [Wp.bind] at h
  refine ha z σ H F e _ I (h.mono (fun r1 _ h v H1 F1 x1 I1 t1 => ?_) fun _ _ h => h)
  obtain ⟨F2, x2, I2, t2⟩ := t1.seal I1
  rw [Wp.bind] at h
  refine hb z σ H1 F2 _ _ I2 (h.mono (fun q _ h w H3 F3 x3 I3 t3 => ?_) fun _ _ h => h.mono (x1.trans x2))
  obtain ⟨F4, x4, I4, t4⟩ := t3.seal I3
  cases hop : (lookT r1.1.seal q.2).bind fun d1 => (lookT q.1.seal q.2).bind fun d2 => op d1 d2 with
  | none => rw [hop] at h; exact h.elim
  | some rv =>
    rw [hop] at h
    obtain ⟨d1, l1, hop⟩ := obind hop
    obtain ⟨d2, l2, hop⟩ := obind hop
    have t5 := t2.keep (H' := H3) (x3.trans x4) (e' := q.2)
    have t6 : TR c z F4 H3 σ q.2 q.1.seal w := t4
    have base : ∀ k, rv = .fl (.bl k) → (if k = true then tc σ H3 (fun w' H4 => r' w w' H4 Q) else Q (.bl false) H3) → r v w H3 fun z' H5 => ∃ k, z' = .bl k ∧ (if k = true then tc σ H5 (fun w' H4 => r' w w' H4 Q) else Q (.bl false) H5) := fun k hk g => by
      subst hk
      refine ho F4 H3 d1 d2 v w _ _ I4.fh (t5.view I4 l1) (t6.view I4 l2) hop fun v' hv' => ?_
      cases hv'
      exact ⟨k, rfl, g⟩
    cases rv with
    | nl _ => exact h.elim
    | nt _ => exact h.elim
    | fl d3 =>
      obtain ⟨k, rfl⟩ : ∃ k, d3 = .bl k := by cases d3 <;> first | exact h.elim | exact ⟨_, rfl⟩
      refine base k rfl ?_
      cases k with
      | false =>
        rw [if_neg Bool.false_ne_true]
        exact h _ H3 F4 (((x1.trans x2).trans x3).trans x4) I4 rfl
      | true =>
        rw [if_pos rfl]
        dsimp only at h
        rw [Wp.bind] at h
        refine hc z σ H3 F4 _ _ I4 (h.mono (fun u _ h w' H5 F5 x5 I5 t7 => ?_) fun _ _ h => h.mono (((x1.trans x2).trans x3).trans x4))
        obtain ⟨o, eo, h⟩ := Wp.of h
        obtain ⟨d2', l3, eo⟩ := obind eo
        obtain ⟨d3, l4, eo⟩ := obind eo
        obtain ⟨rv', l5, eo⟩ := obind eo
        cases eo
        have t8 : TR c z F5 H5 σ u.2 q.1.seal w := t6.keep (H' := H5) x5 (e' := u.2)
        refine ho' F5 H5 d2' d3 w w' rv' Q I5.fh (t8.view I5 l3) (t7.view I5 l4) l5 (RV.post_of I5 fun v' H' F' x' I' t' => ?_)
        exact h v' H' F' (((((x1.trans x2).trans x3).trans x4).trans x5).trans x') I' t'
theorem de_chain {o o' : CmpOp} {r r' : R2} {op op' : D → D → Option RV} (hp : OpR X (compareOp o) r) (ho : R2Ok c r op) (hp' : OpR X (compareOp o') r') (ho' : R2Ok c r' op') (ha : DE X c W a ta fa) (hb : DE X c W b tb fb) (hc : DE X c W d tc fc) (hm : lastMarks [o, o'] [b, d] = false := by rfl) :
    DE X c W (.Compare a [o, o'] [b, d] pos) (tChain r r' ta tb tc) (fChain op op' fa fb fc) := ⟨pe_chain hp hp' ha.pe hb.pe hc.pe hm, sn_chain ho ho' ha.sn hb.sn hc.sn⟩
theorem dt_chain {o o' : CmpOp} {r r' : R2} {op op' : D → D → Option RV} (hp : OpR X (compareOp o) r) (ho : R2Ok c r op) (hp' : OpR X (compareOp o') r') (ho' : R2Ok c r' op') (ha : DE X c W a ta fa) (hb : DE X c W b tb fb) (hc : DE X c W d tc fc) (hm : lastMarks [o, o'] [b, d] = false := by rfl) :
    DT X c W (.Compare a [o, o'] [b, d] pos) (tTest (tChain r r' ta tb tc)) (fB (fChain op op' fa fb fc)) := ⟨pt_chain hp hp' ha.pe hb.pe hc.pe hm, sn_B (fun _ _ _ h => h) (sn_chain ho ho' ha.sn hb.sn hc.sn)⟩
/-! ### truth -/
def truD : D → Option Bool
  | .non => some false
  | .bl b => some b
  | .int i => some (i != 0)
  | .str s => if s.length ≤ lim then some ((s.length : Int) != 0) else none
  | .lst ds => some (!ds.isEmpty)
  | .rol ds => some (!ds.isEmpty)
  | .tup ds => some (!ds.isEmpty)
  | .ins _ _ => none
  | .dct _ _ _ => none
theorem RpL.emp {ds : List D} {vs : List V} (h : RpL c F ds vs) : ds.isEmpty = vs.isEmpty := by
  cases ds with
  | nil => cases h; rfl
  | cons d ds => obtain ⟨v, r, rfl, _⟩ := h; rfl
theorem tru_of {d : D} {v : V} {k : Bool} (x : Ex F H) (y : View c F H d v) (h : truD d = some k) : TruV c.K v H k := by
  cases d with
  | non => cases h; rw [show v = .non from by rcases y with y | ⟨_, _, y⟩; exact y; exact y.2.elim]; rfl
  | bl b => cases h; rw [y.bl]; rfl
  | int i => cases h; rw [y.int]; rfl
  | str s =>
    unfold truD at h
    dsimp only at h
    split at h
    · rename_i hl
      cases h; rw [y.str]; exact ⟨lim_ok hl, rfl⟩
    · cases h
  | lst ds => cases h; obtain ⟨p, vs, rfl, h1, r⟩ := y.lst x; exact .inl ⟨vs, sq_of h1, by rw [r.emp]⟩
  | rol ds => cases h; obtain ⟨p, vs, rfl, h1, r⟩ := y.rol x; exact .inl ⟨vs, h1, by rw [r.emp]⟩
  | tup ds => cases h; obtain ⟨p, vs, rfl, h1, r⟩ := y.tup x; exact .inr (.inl ⟨vs, h1, by rw [r.emp]⟩)
  | ins k ds => cases h
  | dct t ks ds => cases h
def fTru (f : FE) : FT := fun e => (f e).bind fun r => match (lookT r.1 r.2).bind truD with
  | some b => .ok (b, r.2)
  | none => .stuck
theorem sn_tru (ha : SndE c W ta fa) : SndT c W (fun σ H Q => ta σ H fun x H' => ∃ k, TruV c.K x H' k ∧ Q k H') (fTru fa) := fun z σ H F e Q I h => by
  unfold fTru at h
  rw [Wp.bind] at h
  refine ha z σ H F e _ I (h.mono (fun r _ h v H1 F1 x1 I1 t1 => ?_) fun _ _ h => h)
  cases hl : (lookT r.1 r.2).bind truD with
  | none => rw [hl] at h; exact h.elim
  | some k =>
    rw [hl] at h
    obtain ⟨d, l1, l2⟩ := obind hl
    exact ⟨k, tru_of I1.fh (t1.view I1 l1) l2, h H1 F1 x1 I1⟩
theorem dt_tru (hK : X.K = c.K) (ha : DE X c W a ta fa) (he : ∀ whole, isTrue a X.env whole = (do let v ← whole; standAt a.pos; holding [v] (truthy v)) := by intro _; rfl) :
    DT X c W a (fun σ H Q => ta σ H fun x H' => ∃ k, TruV c.K x H' k ∧ Q k H') (fTru fa) := ⟨hK ▸ pt_truth ha.pe he, sn_tru ha.sn⟩
/-! ### is None -/
def isNon : D → Bool
  | .non => true
  | _ => false
def opIsN (a b : D) : Option RV := match b with
  | .non => some (.fl (.bl (isNon a)))
  | _ => none
def opNotN (a b : D) : Option RV := match b with
  | .non => some (.fl (.bl (!isNon a)))
  | _ => none
theorem isNon_of {d : D} {v : V} (x : Ex F H) (y : View c F H d v) : decide (v = .non) = isNon d := by
  have no : ∀ {p : Addr}, (V.ref p = .non) = False := by intro p; simp
  cases d with
  | non => rw [y.non]; rfl
  | bl b => rw [y.bl]; exact decide_eq_false (by simp)
  | int i => rw [y.int]; exact decide_eq_false (by simp)
  | str s => rw [y.str]; exact decide_eq_false (by simp)
  | lst ds => obtain ⟨p, vs, rfl, _⟩ := y.lst x; exact decide_eq_false (by simp)
  | rol ds => obtain ⟨p, vs, rfl, _⟩ := y.rol x; exact decide_eq_false (by simp)
  | tup ds => obtain ⟨p, vs, rfl, _⟩ := y.tup x; exact decide_eq_false (by simp)
  | ins k ds =>
    rcases y with ⟨p, dx, vs, rfl, _⟩ | ⟨p, rfl, _⟩ <;> exact decide_eq_false (by simp)
  | dct t ks ds =>
    rcases y with ⟨p, ws, vs, rfl, _⟩ | ⟨p, rfl, _⟩ <;> exact decide_eq_false (by simp)
theorem ok_isN : R2Ok c (fun x y H Q => y = .non ∧ Q (.bl (decide (x = .non))) H) opIsN := by
  intro F H d1 d2 v1 v2 rv Q x k1 k2 l q
  cases d2 <;> try cases l
  exact ⟨k2.non, by rw [isNon_of x k1]; exact q _ rfl⟩
theorem ok_notN : R2Ok c (fun x y H Q => y = .non ∧ Q (.bl (!decide (x = .non))) H) opNotN := by
  intro F H d1 d2 v1 v2 rv Q x k1 k2 l q
  cases d2 <;> try cases l
  exact ⟨k2.non, by rw [isNon_of x k1]; exact q _ rfl⟩
/-! ### in -/
def strIn (a b : Str) : Bool := !(Builtin.Str.occurrences b a 0 b.length 1).isEmpty
def opInA (a b : D) : Option RV := match a, b with
  | .str x, .str y => some (.fl (.bl (strIn x y)))
  | a, .lst ds => if dOk a && dOk (.lst ds) then some (.fl (.bl (ds.any fun y => deq y a))) else none
  | a, .rol ds => if dOk a && dOk (.rol ds) then some (.fl (.bl (ds.any fun y => deq y a))) else none
  | a, .tup ds => if dOk a && dOk (.tup ds) then some (.fl (.bl (ds.any fun y => deq y a))) else none
  | _, _ => none
def opNiA (a b : D) : Option RV := match opInA a b with
  | some (.fl (.bl k)) => some (.fl (.bl (!k)))
  | _ => none
def rInT (neg : Bool) (K : PySem.W.Frag) : R2 := fun x y H Q => ∃ u us, Dp K H x u ∧ Dp K H y (.tuple us) ∧ SeqAt.shaped u = true ∧ SeqAt.shaped (.tuple us) = true ∧ Q (.bl (if neg then !(us.any fun t => PyData.eqv t u) else us.any fun t => PyData.eqv t u)) H
theorem op_inT (hu : X.A.units + 65 < cLine) : OpR X (compareOp .In) (rInT false X.K) := by
  intro pins s σ H x y v u Q I rx ry ⟨d, ds, g1, g2, g3, g4, q⟩
  obtain ⟨l1, w1⟩ := Dp.reads I _ _ _ g1 rx
  obtain ⟨l2, w2⟩ := Dp.reads I _ _ _ g2 ry
  exact SeqAt.in_tuple_reads w2 w1 (SeqAt.canLay_of_shaped g4) (SeqAt.canLay_of_shaped g3) (PyProof.Rows.room_in_shaped g3 hu) ⟨.bl _, H, I, rfl, q⟩
theorem op_notInT (hu : X.A.units + 65 < cLine) : OpR X (compareOp .NotIn) (rInT true X.K) := by
  intro pins s σ H x y v u Q I rx ry ⟨d, ds, g1, g2, g3, g4, q⟩
  obtain ⟨l1, w1⟩ := Dp.reads I _ _ _ g1 rx
  obtain ⟨l2, w2⟩ := Dp.reads I _ _ _ g2 ry
  exact SeqAt.notIn_tuple_reads w2 w1 (SeqAt.canLay_of_shaped g4) (SeqAt.canLay_of_shaped g3) (PyProof.Rows.room_in_shaped g3 hu) ⟨.bl _, H, I, rfl, q⟩
abbrev rInSt : R2 := fun x y H Q => ∃ i j, x = .str i ∧ y = .str j ∧ Q (.bl (!(Builtin.Str.occurrences j i 0 j.length 1).isEmpty)) H
abbrev rNiSt : R2 := fun x y H Q => ∃ i j, x = .str i ∧ y = .str j ∧ Q (.bl (!(!(Builtin.Str.occurrences j i 0 j.length 1).isEmpty))) H
theorem op_inA (hu : X.A.units + 65 < cLine) : OpR X (compareOp .In) (ROr (rInD X.K) (ROr (rInT false X.K) rInSt)) := (op_inD hu).or ((op_inT hu).or op_in_str)
theorem op_niA (hu : X.A.units + 65 < cLine) : OpR X (compareOp .NotIn) (ROr (rNotInD X.K) (ROr (rInT true X.K) rNiSt)) := (op_notInD hu).or ((op_notInT hu).or op_notin_str)
theorem ok_inA : R2Ok c (ROr (rInD c.K) (ROr (rInT false c.K) rInSt)) opInA := by
  intro F H d1 d2 v1 v2 rv Q x k1 k2 l q
  unfold opInA at l
  split at l
  · cases l
    exact .inr (.inr ⟨_, _, k1.str, k2.str, q _ rfl⟩)
  · split at l
    · rename_i h
      obtain ⟨h1, h2⟩ := Bool.and_eq_true_iff.mp h
      cases l
      refine .inl ⟨_, _, k1.dp x (dOk.lay h1), k2.dp x (dOk.lay h2), h1, h2, ?_⟩
      rw [any_py]
      exact q _ rfl
    · cases l
  · split at l
    · rename_i h
      obtain ⟨h1, h2⟩ := Bool.and_eq_true_iff.mp h
      cases l
      refine .inl ⟨_, _, k1.dp x (dOk.lay h1), k2.dp x (dOk.lay h2), h1, h2, ?_⟩
      rw [any_py]
      exact q _ rfl
    · cases l
  · split at l
    · rename_i h
      obtain ⟨h1, h2⟩ := Bool.and_eq_true_iff.mp h
      cases l
      refine .inr (.inl ⟨_, _, k1.dp x (dOk.lay h1), k2.dp x (dOk.lay h2), h1, h2, ?_⟩)
      rw [any_py]
      exact q _ rfl
    · cases l
  · cases l
theorem ok_niA : R2Ok c (ROr (rNotInD c.K) (ROr (rInT true c.K) rNiSt)) opNiA := by
  intro F H d1 d2 v1 v2 rv Q x k1 k2 l q
  unfold opNiA opInA at l
  split at l <;> try cases l
  rename_i k hk
  split at hk
  · cases hk
    exact .inr (.inr ⟨_, _, k1.str, k2.str, q _ rfl⟩)
  · split at hk
    · rename_i h
      obtain ⟨h1, h2⟩ := Bool.and_eq_true_iff.mp h
      cases hk
      refine .inl ⟨_, _, k1.dp x (dOk.lay h1), k2.dp x (dOk.lay h2), h1, h2, ?_⟩
      rw [any_py]
      exact q _ rfl
    · cases hk
  · split at hk
    · rename_i h
      obtain ⟨h1, h2⟩ := Bool.and_eq_true_iff.mp h
      cases hk
      refine .inl ⟨_, _, k1.dp x (dOk.lay h1), k2.dp x (dOk.lay h2), h1, h2, ?_⟩
      rw [any_py]
      exact q _ rfl
    · cases hk
  · split at hk
    · rename_i h
      obtain ⟨h1, h2⟩ := Bool.and_eq_true_iff.mp h
      cases hk
      refine .inr (.inl ⟨_, _, k1.dp x (dOk.lay h1), k2.dp x (dOk.lay h2), h1, h2, ?_⟩)
      rw [any_py]
      exact q _ rfl
    · cases hk
  · cases hk
end
end DL

/-! DL, part ab: methods of texts, walks over anything, constants of modules, more built-ins. -/
namespace DL
open PySem L2 Evl
section
variable {X : Cx} {c : Ct} {z : Zs} {W : WX} {σ : L2.St} {H F : Hp} {e : DEnv} {a b d : Expr} {ta tb tc : TE} {fa fb fc : FE} {tr : TA} {fr : FA} {pos apos p : Pos}
/-! ### s.m(e) -/
def fM1 (op : Str → D → Option RV) (fo fe : FE) : FE := fun e => (fo e).bind fun r => match lookT r.1.seal r.2 with
  | some (.str a) => (fe r.2).bind fun q => Res.of ((lookT q.1 q.2).bind fun d => (op a d).bind fun rv => some (rv.tok, q.2))
  | _ => .stuck
def M1Ok (c : Ct) (r : V → List V → Hp → VK → Prop) (op : Str → D → Option RV) : Prop := ∀ F H a d v rv (Q : VK), Ex F H → View c F H d v → op a d = some rv → rv.Post c F H Q → r (.str a) [v] H Q
theorem sn_m1 {r : V → List V → Hp → VK → Prop} {op : Str → D → Option RV} (ho : M1Ok c r op) (ha : SndE c W ta fa) (hb : SndE c W tb fb) : SndE c W (tM1 r ta tb) (fM1 op fa fb) := fun z σ H F e Q I h => by
  unfold fM1 at h
  rw [Wp.bind] at h
  refine ha z σ H F e _ I (h.mono (fun r1 _ h v H1 F1 x1 I1 t1 => ?_) fun _ _ h => h)
  obtain ⟨F2, x2, I2, t2⟩ := t1.seal I1
  cases hl : lookT r1.1.seal r1.2 with
  | none => rw [hl] at h; exact h.elim
  | some d1 =>
    rw [hl] at h
    obtain ⟨s, rfl⟩ : ∃ s, d1 = .str s := by cases d1 <;> first | exact h.elim | exact ⟨_, rfl⟩
    have hv := (t2.view I2 hl).str
    subst hv
    refine ⟨⟨s, rfl⟩, ?_⟩
    dsimp only at h
    rw [Wp.bind] at h
    refine hb z σ H1 F2 _ _ I2 (h.mono (fun q _ h w H3 F3 x3 I3 t3 => ?_) fun _ _ h => h.mono (x1.trans x2))
    obtain ⟨o, eo, h⟩ := Wp.of h
    obtain ⟨d2, l2, eo⟩ := obind eo
    obtain ⟨rv, l3, eo⟩ := obind eo
    cases eo
    exact ho F3 H3 s d2 w rv Q I3.fh (t3.view I3 l2) l3 (RV.post_of I3 fun v' H' F' x' I' t' => h v' H' F' (((x1.trans x2).trans x3).trans x') I' t')
theorem de_m1 {id : String} {name : Str} {r : V → List V → Hp → VK → Prop} {op : Str → D → Option RV} (slot : Slot "str" name id) (ty : typeOf (.builtin id) = pure (.type "method_descriptor")) (rule : MtR X id r) (ho : M1Ok c r op) (ha : DE X c W a ta fa) (hb : DE X c W b tb fb)
    (hs : starEach [b] X.env = [(false, eval b X.env)] := by rfl) (hbase : attributeBase a name X.env (eval a X.env) = eval a X.env := by rfl) (hline : (apos.endLine == pos.line) = true := by rfl) :
    DE X c W (.Call (.Attribute a name apos) [b] [] pos) (tM1 r ta tb) (fM1 op fa fb) := ⟨pe_m1 slot ty rule ha.pe hb.pe hs hbase hline, sn_m1 ho ha.sn hb.sn⟩
theorem RpL.strs : ∀ {ys : List Str} {vs : List V}, RpL c F (ys.map D.str) vs → vs = ys.map V.str
  | [], _, h => h
  | y :: ys, vs, ⟨v, r, h1, h2, h3⟩ => by subst h1; rw [List.map_cons, RpL.strs h3, show v = V.str y from h2]
def opSplit (s : Str) (d : D) : Option RV := match d with
  | .str b => if (b.length == 0) = false ∧ s.length + 2 ≤ lim then some (.nl ((Txt.split s b).map .str)) else none
  | _ => none
abbrev rSplit : V → List V → Hp → VK → Prop := fun x xs H Q => ∃ a b, x = .str a ∧ xs = [.str b] ∧ (b.length == 0) = false ∧ a.length + 2 ≤ sizeLine ∧ rNewStrs (Txt.split a b) H Q
theorem ok_split : M1Ok c rSplit opSplit := by
  intro F H s d v rv Q x k l q
  cases d <;> try cases l
  unfold opSplit at l
  dsimp only at l
  split at l
  · rename_i h
    cases l
    refine ⟨_, _, rfl, by rw [k.str], h.1, lim_ok h.2, fun p hp => ?_⟩
    exact q p _ (by
      generalize Txt.split s _ = ys
      induction ys with
      | nil => exact rfl
      | cons y ys ih => exact ⟨_, _, rfl, rfl, ih⟩) hp
  · cases l
/-- texts among data -/
def strsOf : List D → Option (List Str)
  | [] => some []
  | .str s :: ds => (strsOf ds).map fun ys => s :: ys
  | _ :: _ => none
theorem strsOf_map : ∀ {ds : List D} {ys : List Str}, strsOf ds = some ys → ds = ys.map D.str
  | [], _, h => by cases h; rfl
  | d :: ds, ys, h => by
    cases d <;> try cases h
    obtain ⟨zs, h1, rfl⟩ := omap h
    rw [List.map_cons, ← strsOf_map h1]
def opJoin (s : Str) (d : D) : Option RV := match d with
  | .lst ds => (strsOf ds).bind fun ys => if (ys.map (·.length)).sum + ys.length * s.length ≤ lim then some (.fl (.str (Txt.join s ys))) else none
  | .rol ds => (strsOf ds).bind fun ys => if (ys.map (·.length)).sum + ys.length * s.length ≤ lim then some (.fl (.str (Txt.join s ys))) else none
  | .tup ds => (strsOf ds).bind fun ys => if (ys.map (·.length)).sum + ys.length * s.length ≤ lim then some (.fl (.str (Txt.join s ys))) else none
  | _ => none
abbrev rJoin (K : PySem.W.Frag) : V → List V → Hp → VK → Prop := fun x xs H Q => ∃ a p, ∃ ys : List Str, x = .str a ∧ xs = [.ref p] ∧ (SqL K H p (ys.map V.str) ∨ SqT K H p (ys.map V.str)) ∧ (ys.map (·.length)).sum + ys.length * a.length ≤ 16777216 ∧ Q (.str (Txt.join a ys)) H
theorem lim16 {n : Nat} (h : n ≤ lim) : n ≤ 16777216 := Nat.le_trans h (by decide)
theorem ok_join : M1Ok c (rJoin c.K) opJoin := by
  intro F H s d v rv Q x k l q
  cases d <;> try cases l
  all_goals
    obtain ⟨ys, h1, l⟩ := obind l
    split at l
    · rename_i h
      cases l
      have e := strsOf_map h1
      subst e
      first
        | (obtain ⟨p, vs, rfl, h2, r⟩ := k.lst x
           rw [r.strs] at h2
           exact ⟨_, p, ys, rfl, rfl, .inl (sq_of h2), lim16 h, q _ rfl⟩)
        | (obtain ⟨p, vs, rfl, h2, r⟩ := k.rol x
           rw [r.strs] at h2
           exact ⟨_, p, ys, rfl, rfl, .inl h2, lim16 h, q _ rfl⟩)
        | (obtain ⟨p, vs, rfl, h2, r⟩ := k.tup x
           rw [r.strs] at h2
           exact ⟨_, p, ys, rfl, rfl, .inr h2, lim16 h, q _ rfl⟩)
    · cases l
def opStripC (s : Str) (d : D) : Option RV := match d with
  | .str b => if s.length ≤ lim then some (.fl (.str (Txt.stripChars s b))) else none
  | _ => none
theorem ok_stripC : M1Ok c (fun x xs H Q => ∃ a b, x = .str a ∧ xs = [.str b] ∧ a.length ≤ sizeLine ∧ Q (.str (Txt.stripChars a b)) H) opStripC := by
  intro F H s d v rv Q x k l q
  cases d <;> try cases l
  unfold opStripC at l
  dsimp only at l
  split at l
  · rename_i h
    cases l
    exact ⟨_, _, rfl, by rw [k.str], lim_ok h, q _ rfl⟩
  · cases l
/-! ### str(n), int(s), sum -/
def opStrI (ds : List D) : Option RV := match ds with
  | [.int i] => if i.natAbs.log2 < 1920 then some (.fl (.str (toString i))) else none
  | _ => none
theorem ok_strI : RlOk c (fun xs H Q => ∃ i, xs = [.int i] ∧ i.natAbs.log2 < 1920 ∧ Q (.str (toString i)) H) opStrI := by
  intro F H ds vs rv Q x k l q
  unfold opStrI at l
  split at l <;> try cases l
  split at l
  · rename_i h
    cases l
    obtain ⟨v, rfl, y⟩ := k.one
    exact ⟨_, by rw [y.int], h, q _ rfl⟩
  · cases l
def opIntA (ds : List D) : Option RV := match ds with
  | [.str s] => if s.length ≤ 640 then (PySem.intText? s).map fun n => .fl (.int n) else none
  | ds => opInt ds
abbrev rIntA : List V → Hp → VK → Prop := fun xs H Q => rInt' xs H Q ∨ ∃ a n, xs = [.str a] ∧ PySem.intText? a = some n ∧ a.length ≤ 640 ∧ Q (.int n) H
theorem call_intA : CallR X (.type "int") rIntA := CallR.or call_int1 call_int_str
theorem ok_intA : RlOk c rIntA opIntA := by
  intro F H ds vs rv Q x k l q
  unfold opIntA at l
  split at l
  · split at l
    · rename_i h
      obtain ⟨n, h1, rfl⟩ := omap l
      obtain ⟨v, rfl, y⟩ := k.one
      exact .inr ⟨_, n, by rw [y.str], h1, h, q _ rfl⟩
    · cases l
  · exact .inl (ok_int F H _ vs rv Q x k l q)
def intsOf : List D → Option (List Int)
  | [] => some []
  | .int s :: ds => (intsOf ds).map fun ys => s :: ys
  | _ :: _ => none
theorem intsOf_map : ∀ {ds : List D} {ys : List Int}, intsOf ds = some ys → ds = ys.map D.int
  | [], _, h => by cases h; rfl
  | d :: ds, ys, h => by
    cases d <;> try cases h
    obtain ⟨zs, h1, rfl⟩ := omap h
    rw [List.map_cons, ← intsOf_map h1]
def opSum (ds : List D) : Option RV := match ds with
  | [.lst xs] => (intsOf xs).map fun ns => .fl (.int ns.sum)
  | [.rol xs] => (intsOf xs).map fun ns => .fl (.int ns.sum)
  | _ => none
theorem ok_sum : RlOk c (rSum c.K) opSum := by
  intro F H ds vs rv Q x k l q
  unfold opSum at l
  split at l <;> try cases l
  all_goals
    obtain ⟨ns, h1, rfl⟩ := omap l
    have e := intsOf_map h1
    subst e
    obtain ⟨v, rfl, y⟩ := k.one
    first
      | (obtain ⟨p, ws, rfl, h, r⟩ := y.lst x
         rw [r.ints] at h
         exact ⟨p, ns, rfl, sq_of h, q _ rfl⟩)
      | (obtain ⟨p, ws, rfl, h, r⟩ := y.rol x
         rw [r.ints] at h
         exact ⟨p, ns, rfl, h, q _ rfl⟩)
/-! ### walks -/
def signs (s : Str) : List D := s.cps.toList.map fun k => D.str ⟨#[k]⟩
def fiS (f : FE) : FI := fun e => (f e).bind fun r => Res.of ((lookT r.1 r.2).bind fun d => match d with
  | .str s => some (signs s, r.2)
  | _ => none)
theorem itOk_str {z' : Zs} {s : Str} : ItOk c z' (Its s) F (signs s) := fun i σ H1 F1 e x I => by
  unfold signs
  refine ⟨fun d hd => ?_, fun hl => by rw [List.length_map] at hl; exact hl⟩
  rw [List.getElem?_map] at hd
  obtain ⟨k, hk, rfl⟩ := omap hd
  have hlt : i < s.cps.size := get_lt hk
  refine ⟨hlt, fun y H2 ⟨e1, ch, hc, hy⟩ => ?_⟩
  subst e1
  rw [← Array.getElem?_toList, hk] at hc
  cases hc
  exact ⟨F1, Ex.refl F1, Ex.refl _, I, hy⟩
theorem sn_iS (ha : SndE c W ta fa) : SndI c W (iStr ta) (fiS fa) := fun z σ H F e R I h => by
  unfold fiS at h
  rw [Wp.bind] at h
  refine ha z σ H F e _ I (h.mono (fun r _ h v H1 F1 x1 I1 t1 => ?_) fun _ _ h => h)
  obtain ⟨o, ea, h⟩ := Wp.of h
  obtain ⟨d, l1, ea⟩ := obind ea
  cases d <;> try cases ea
  exact ⟨_, (t1.view I1 l1).str, h _ _ F1 x1 I1 fun z' => itOk_str⟩
theorem di_str {tg : Expr} (ha : DE X c W a ta fa) : DI X c W tg a (iStr ta) (fiS fa) := ⟨pi_str ha.pe, sn_iS ha.sn⟩
/-- enumerate of a list -/
def ienum (xs : List D) : List D := xs.mapIdx fun i d => .tup [.int (i : Nat), d]
def fiE (fr : FA) : FI := fun e => (fr e).bind fun r => Res.of ((escs r.1 r.2).bind fun q => match q.1 with
  | [.lst xs] => some (ienum xs, q.2)
  | [.rol xs] => some (ienum xs, q.2)
  | _ => none)
theorem itOk_enum {z' : Zs} {q : Addr} {vs : List V} {xs : List D} (h : SqL c.K F q vs) (r : RpL c F xs vs) : ItOk c z' (Ite c.K q) F (ienum xs) := fun i σ H1 F1 e x I => by
  have h1 := ex_l (x.trans I.fh) h
  unfold ienum
  refine ⟨fun d hd => ?_, fun hl => ⟨vs, h1, by rw [List.length_mapIdx] at hl; rw [← r.len]; exact hl⟩⟩
  rw [List.getElem?_mapIdx] at hd
  obtain ⟨d0, hx, rfl⟩ := omap hd
  obtain ⟨v, hv, rv⟩ := r.get hx
  refine ⟨⟨vs, v, h1, hv⟩, fun y H2 ⟨T, v', e1, hT, e2, k1⟩ => ?_⟩
  subst e1 e2
  have e1 := k1 vs h1
  rw [hv] at e1; cases e1
  have xn := Ex.new (o := HO.tup [.int (i : Nat), v]) (fresh_back I.fh hT)
  exact ⟨_, xn, Ex.new hT, I.allocT hT, T, [.int (i : Nat), v], rfl, st_of upd_same, _, [v], rfl, rfl, v, [], rfl, rv.mono (x.trans xn) _ _, rfl⟩
theorem sn_iE (ha : SndA c W tr fr) : SndI c W (iEnum c.K tr) (fiE fr) := fun z σ H F e R I h => by
  unfold fiE at h
  rw [Wp.bind] at h
  refine ha z σ H F e _ I (h.mono (fun r _ h vs H1 F1 x1 I1 t1 => ?_) fun _ _ h => h)
  obtain ⟨o, ea, h⟩ := Wp.of h
  obtain ⟨⟨ds, e1⟩, l1, ea⟩ := obind ea
  obtain ⟨G, x2, J, rr⟩ := t1.escs I1 l1
  dsimp only at ea
  split at ea <;> try cases ea
  · obtain ⟨v, r1, rfl, ⟨q, vs1, rfl, h1, q1⟩, rfl⟩ := rr
    exact ⟨q, vs1, rfl, sq_of (J.fh _ _ h1), h _ _ G (x1.trans x2) J fun z' => itOk_enum (sq_of h1) q1⟩
  · obtain ⟨v, r1, rfl, ⟨q, vs1, rfl, h1, q1⟩, rfl⟩ := rr
    exact ⟨q, vs1, rfl, ex_l J.fh h1, h _ _ G (x1.trans x2) J fun z' => itOk_enum h1 q1⟩
theorem di_enum {elts : List Expr} {kk : Nat} {tpos : Pos} (hK : X.K = c.K) (hg : Gl X "enumerate") (hm : X.mg "enumerate" = none) (ha : DA X c W [a] tr fr) (hs : starEach [a] X.env = [(false, eval a X.env)] := by rfl) :
    DI X c W (.Tuple elts kk tpos) (.Call (.Name "enumerate" p) [a] [] pos) (iEnum c.K tr) (fiE fr) := ⟨hK ▸ pi_enum hg hm ha.pa hs, sn_iE ha.sn⟩
/-- reversed of a list -/
def fiV (fr : FA) : FI := fun e => (fr e).bind fun r => Res.of ((escs r.1 r.2).bind fun q => match q.1 with
  | [.lst xs] => some (xs.reverse, q.2)
  | [.rol xs] => some (xs.reverse, q.2)
  | _ => none)
theorem itOk_rev {z' : Zs} {q : Addr} {vs : List V} {xs : List D} (h : SqL c.K F q vs) (r : RpL c F xs vs) : ItOk c z' (Itv c.K q vs.length) F xs.reverse := fun i σ H1 F1 e x I => by
  have h1 := ex_l (x.trans I.fh) h
  refine ⟨fun d hd => ?_, fun hl => by rw [List.length_reverse, r.len] at hl; exact hl⟩
  have hi := get_lt hd
  rw [List.length_reverse] at hi
  rw [List.getElem?_reverse hi] at hd
  obtain ⟨v, hv, rv⟩ := r.get hd
  rw [r.len] at hi hv
  refine ⟨⟨hi, vs, v, h1, hv⟩, fun y H2 ⟨e1, k1⟩ => ?_⟩
  subst e1
  have e1 := k1 vs h1
  rw [hv] at e1; cases e1
  exact ⟨F1, Ex.refl F1, Ex.refl _, I, rv.mono x d v⟩
theorem sn_iV (ha : SndA c W tr fr) : SndI c W (L2.iRev c.K tr) (fiV fr) := fun z σ H F e R I h => by
  unfold fiV at h
  rw [Wp.bind] at h
  refine ha z σ H F e _ I (h.mono (fun r _ h vs H1 F1 x1 I1 t1 => ?_) fun _ _ h => h)
  obtain ⟨o, ea, h⟩ := Wp.of h
  obtain ⟨⟨ds, e1⟩, l1, ea⟩ := obind ea
  obtain ⟨G, x2, J, rr⟩ := t1.escs I1 l1
  dsimp only at ea
  split at ea <;> try cases ea
  · obtain ⟨v, r1, rfl, ⟨q, vs1, rfl, h1, q1⟩, rfl⟩ := rr
    exact ⟨q, vs1, rfl, sq_of (J.fh _ _ h1), h _ _ G (x1.trans x2) J fun z' => itOk_rev (sq_of h1) q1⟩
  · obtain ⟨v, r1, rfl, ⟨q, vs1, rfl, h1, q1⟩, rfl⟩ := rr
    exact ⟨q, vs1, rfl, ex_l J.fh h1, h _ _ G (x1.trans x2) J fun z' => itOk_rev h1 q1⟩
theorem di_rev {tg : Expr} (hK : X.K = c.K) (hg : Gl X "reversed") (hm : X.mg "reversed" = none) (ha : DA X c W [a] tr fr) (hs : starEach [a] X.env = [(false, eval a X.env)] := by rfl) :
    DI X c W tg (.Call (.Name "reversed" p) [a] [] pos) (L2.iRev c.K tr) (fiV fr) := ⟨hK ▸ pi_reversed hg hm ha.pa hs, sn_iV ha.sn⟩
/-! ### constants of modules -/
structure GD (c : Ct) (mg : Str → Option Value) (x : Str) (d : D) : Prop where
  ex : ∃ u v, mg x = some u ∧ RelV v u ∧ ∀ F, Rp c F d v
theorem sn_cV {d : D} {v : V} (h : ∀ F, Rp c F d v) : SndE c W (tC v) (fC d) := fun z σ H F e Q I k => k v H F (Ex.refl F) I (h F)
/-- a constant: whatever stands for d everywhere -/
def tGd (c : Ct) (d : D) : TE := fun _ H Q => ∀ v, (∀ F, Rp c F d v) → Q v H
theorem pe_gd {x : Str} {d : D} (h : GD c X.mg x d) (hg : Gl X x) (hd : (x == ("__debug__" : Str)) = false) : PE X (.Name x pos) (tGd c d) := by
  obtain ⟨u, v, h1, h2, h3⟩ := h
  exact ⟨fun pins s σ H Q I q => (pe_glob hg h1 h2 hd).run pins s σ H Q I (q v h3)⟩
theorem de_glob {x : Str} {d : D} (h : GD c X.mg x d) (hg : Gl X x := by rfl) (hd : (x == ("__debug__" : Str)) = false := by decide) : DE X c W (.Name x pos) (tGd c d) (fC d) :=
  ⟨pe_gd h hg hd, fun z σ H F e Q I k v hv => k v H F (Ex.refl F) I (hv F)⟩
theorem gd_int {mg : Str → Option Value} {x : Str} {i : Int} {t : Tok} (h : mg x = some (.int i t)) : GD c mg x (.int i) := ⟨_, .int i, h, ⟨t, rfl⟩, fun _ => rfl⟩
theorem gd_str {mg : Str → Option Value} {x : Str} {s : Str} {t : Tok} (h : mg x = some (.str s t)) : GD c mg x (.str s) := ⟨_, .str s, h, ⟨t, rfl⟩, fun _ => rfl⟩
/-- items of a constant tuple -/
inductive CItems : List D → List Value → Prop
  | z : CItems [] []
  | s {s : Str} {t : Tok} {ds : List D} {us : List Value} : CItems ds us → CItems (.str s :: ds) (.str s t :: us)
  | i {i : Int} {t : Tok} {ds : List D} {us : List Value} : CItems ds us → CItems (.int i :: ds) (.int i t :: us)
theorem CItems.vals {ds : List D} {us : List Value} (h : CItems ds us) : ∃ vs, Vals vs us ∧ ∀ F, RpL c F ds vs := by
  induction h with
  | z => exact ⟨[], .nil, fun _ => rfl⟩
  | s h ih => obtain ⟨vs, h1, h2⟩ := ih; exact ⟨.str _ :: vs, .cons ⟨_, rfl⟩ h1, fun F => ⟨_, _, rfl, rfl, h2 F⟩⟩
  | i h ih => obtain ⟨vs, h1, h2⟩ := ih; exact ⟨.int _ :: vs, .cons ⟨_, rfl⟩ h1, fun F => ⟨_, _, rfl, rfl, h2 F⟩⟩
theorem gd_tup {mg : Str → Option Value} {x : Str} {ds : List D} {q : Addr} {o : Obj} {us : List Value} {n : Nat} (h : mg x = some (.ref q)) (ho : c.K.lookup q = some o) (hc : o.cls = .type "tuple") (hd : o.data = .seq us.toArray n) (hl : us.length ≤ 1000) (hi : CItems ds us) : GD c mg x (.tup ds) := by
  obtain ⟨vs, h1, h2⟩ := hi.vals (c := c)
  exact ⟨_, .ref q, h, rfl, fun F => ⟨q, vs, rfl, .inr ⟨o, us.toArray, n, ho, hc, hd, by rw [List.size_toArray]; exact lim_ok (Nat.le_trans hl (by decide)), h1⟩, h2 F⟩⟩
end
end DL

/-! DL, part ac: walks over a list, a tuple or a text; starred items; f-strings; >>=. -/
namespace DL
open PySem L2 Evl
section
variable {X : Cx} {c : Ct} {z : Zs} {W : WX} {σ : L2.St} {H F : Hp} {e : DEnv} {a b d : Expr} {es : List Expr} {ta tb tc : TE} {fa fb fc : FE} {tr : TA} {fr : FA} {pos apos p : Pos}
/-! ### a list, a tuple or a text -/
def iAll (K : PySem.W.Frag) (te : TE) : TI := fun σ H R => te σ H fun x H1 => ∃ J, R J H1 ∧ ((∃ q, x = V.ref q ∧ J = Itl K q ∧ ∃ xs, SqL K H1 q xs) ∨ (∃ q, x = V.ref q ∧ J = Itt K q ∧ ∃ xs, SqT K H1 q xs) ∨ ∃ s, x = V.str s ∧ J = Its s)
theorem new_it {pins : List (Addr × Obj)} {tg : Expr} {R : It → Hp → Prop} {J : It} {s : Shared} {o : Obj} {tn : Nat → Heap → Prop} (I : Inv X pins σ H s) (T : Turn X.prog X.w X.K tg J [s.heap.objs.size] s.heap.objs.size tn) (h0 : tn 0 (s.heap.push o)) (q : R J H) :
    PIE X pins σ tg R (.ref s.heap.objs.size) { s with heap := s.heap.push o } :=
  ⟨_, _, tn, J, H, rfl, I.kept (t' := s.toks) (fun b u g => Heap.get?_push_of_some _ g), T, h0, fun b hb => by
    rw [List.mem_singleton.mp hb]
    exact I.fpOk (Nat.le_refl _) (I.hok.fresh (Nat.le_refl _)), q⟩
theorem pi_all {tg : Expr} (ha : PE X a ta) : PI X tg a (iAll X.K ta) := by
  constructor
  intro pins s σ H R I h
  refine thn (ha.run pins s σ H _ I h) fun v s1 g => ?_
  obtain ⟨x, H1, I1, rx, J, q, g⟩ := g
  rcases g with ⟨l, rfl, rfl, xs, hq⟩ | ⟨l, rfl, rfl, xs, hq⟩ | ⟨y, rfl, rfl⟩
  · cases rx
    obtain ⟨its, _, pl, _⟩ := I1.list hq
    exact wpAny_pyIter_list pl.isList (new_it I1 (turn_list l _) ⟨_, Heap.get?_push_size _ rfl, rfl, rfl⟩ q)
  · cases rx
    obtain ⟨its, _, pl, _⟩ := I1.tuple hq
    exact wpAny_pyIter_tuple (show s1.heap.IsTuple l its.toArray from pl) (new_it I1 (turn_tuple l _) ⟨_, Heap.get?_push_size _ rfl, rfl, rfl⟩ q)
  · obtain ⟨t, rfl⟩ := rx
    cases ha : y.cps.all (· < 128)
    · exact wpAny_pyIter_wide ha (new_it I1 (turn_str _ y t "str_iterator" (.inr rfl)) ⟨_, Heap.get?_push_size _ rfl, rfl, rfl⟩ q)
    · exact wpAny_pyIter_ascii ha (new_it I1 (turn_str _ y t "str_ascii_iterator" (.inl rfl)) ⟨_, Heap.get?_push_size _ rfl, rfl, rfl⟩ q)
def itemsD : D → Option (List D)
  | .lst ds => some ds
  | .rol ds => some ds
  | .tup ds => some ds
  | .str s => some (signs s)
  | _ => none
def fiA (f : FE) : FI := fun e => (f e).bind fun r => Res.of ((escape r.1 r.2).bind fun q => (itemsD q.1).map fun ds => (ds, q.2))
theorem sn_iA (ha : SndE c W ta fa) : SndI c W (iAll c.K ta) (fiA fa) := fun z σ H F e R I h => by
  unfold fiA at h
  rw [Wp.bind] at h
  refine ha z σ H F e _ I (h.mono (fun r _ h v H1 F1 x1 I1 t1 => ?_) fun _ _ h => h)
  obtain ⟨o, ea, h⟩ := Wp.of h
  obtain ⟨⟨d, e1⟩, l1, ea⟩ := obind ea
  obtain ⟨G, x2, J, rr⟩ := t1.escape I1 l1
  obtain ⟨ds, l2, rfl⟩ := omap ea
  cases d <;> try cases l2
  · cases rr
    exact ⟨_, h _ _ G (x1.trans x2) J fun z' => itOk_str, .inr (.inr ⟨_, rfl, rfl⟩)⟩
  · obtain ⟨q, vs, rfl, h1, r⟩ := rr
    exact ⟨_, h _ _ G (x1.trans x2) J fun z' => itOk_list (sq_of h1) r, .inl ⟨q, rfl, rfl, vs, sq_of (J.fh _ _ h1)⟩⟩
  · obtain ⟨q, vs, rfl, h1, r⟩ := rr
    exact ⟨_, h _ _ G (x1.trans x2) J fun z' => itOk_tup h1 r, .inr (.inl ⟨q, rfl, rfl, vs, ex_t J.fh h1⟩)⟩
  · obtain ⟨q, vs, rfl, h1, r⟩ := rr
    exact ⟨_, h _ _ G (x1.trans x2) J fun z' => itOk_list h1 r, .inl ⟨q, rfl, rfl, vs, ex_l J.fh h1⟩⟩
theorem di_all {tg : Expr} (hK : X.K = c.K := by rfl) (ha : DE X c W a ta fa) : DI X c W tg a (iAll c.K ta) (fiA fa) := ⟨hK ▸ pi_all ha.pe, sn_iA ha.sn⟩
/-! ### *xs among items -/
def fAS (fa : FE) (fr : FA) : FA := fun e => (fa e).bind fun r => match lookT r.1 r.2 with
  | some (.lst ds) => (fr r.2).bind fun q => .ok (ds.map .vl ++ q.1, q.2)
  | some (.rol ds) => (fr r.2).bind fun q => .ok (ds.map .vl ++ q.1, q.2)
  | some (.tup ds) => (fr r.2).bind fun q => .ok (ds.map .vl ++ q.1, q.2)
  | _ => .stuck
theorem TRs.splice {ts : List T} {ws : List V} (h : TRs c z F H σ e ts ws) : ∀ {ds : List D} {vs : List V}, RpL c F ds vs → TRs c z F H σ e (ds.map .vl ++ ts) (vs ++ ws)
  | [], _, r => by cases r; exact h
  | d :: ds, _, ⟨v, r, h1, h2, h3⟩ => by subst h1; exact ⟨v, _, rfl, rfl, h2, TRs.splice h h3⟩
theorem sn_as (ha : SndE c W ta fa) (hr : SndA c W tr fr) : SndA c W (StX.tStar c.K ta tr) (fAS fa fr) := fun z σ H F e Q I h => by
  unfold fAS at h
  rw [Wp.bind] at h
  refine ha z σ H F e _ I (h.mono (fun r _ h v H1 F1 x1 I1 t1 => ?_) fun _ _ h => h)
  cases hl : lookT r.1 r.2 with
  | none => rw [hl] at h; exact h.elim
  | some d1 =>
    rw [hl] at h
    have y := t1.view I1 hl
    have go : ∀ (ds : List D) (vs : List V), RpL c F1 ds vs → Wp ((fr r.2).bind fun q => .ok (ds.map T.vl ++ q.1, q.2)) (fun r => ∀ vs H' F', Ex F F' → I2 c z σ H' F' r.2 → TRs c z F' H' σ r.2 r.1 vs → Q vs H') (Xp c z W σ F) → tr σ H1 fun ys H2 => Q (vs ++ ys) H2 := fun ds vs rr h => by
      rw [Wp.bind] at h
      refine hr z σ H1 F1 _ _ I1 (h.mono (fun q _ h ws H2 F2 x2 I2 t2 => ?_) fun _ _ h => h.mono x1)
      exact h _ H2 F2 (x1.trans x2) I2 (TRs.splice t2 (rr.mono x2))
    cases d1 <;> first | exact h.elim | skip
    · obtain ⟨q, vs, rfl, h1, rr⟩ := y.lst I1.fh
      obtain ⟨F9, vs9, e9, rr9⟩ : ∃ F9 vs9, vs9 = vs ∧ RpL c F1 _ vs9 := by
        rcases y with ⟨q', vs', e', h', r'⟩ | ⟨q', e', o'⟩
        · cases e'
          have := I1.fh _ _ h'
          rw [h1] at this; cases this
          exact ⟨F1, _, rfl, r'⟩
        · cases e'
          obtain ⟨_, vs', h', r'⟩ := o'
          rw [h1] at h'; cases h'
          exact ⟨F1, _, rfl, r'⟩
      subst e9
      exact ⟨q, _, rfl, .inr (sq_of h1), go _ _ rr9 h⟩
    · rcases y with ⟨q, vs, rfl, h1, rr⟩ | ⟨_, _, o⟩
      · exact ⟨q, _, rfl, .inl (ex_t I1.fh h1), go _ _ rr h⟩
      · exact o.2.elim
    · rcases y with ⟨q, vs, rfl, h1, rr⟩ | ⟨_, _, o⟩
      · exact ⟨q, _, rfl, .inr (ex_l I1.fh h1), go _ _ rr h⟩
      · exact o.2.elim
theorem da_star (hK : X.K = c.K := by rfl) (ha : DE X c W a ta fa) (hr : DA X c W es tr fr) (hs : starEach (.Starred a p :: es) X.env = (true, eval a X.env) :: starEach es X.env := by rfl) : DA X c W (.Starred a p :: es) (StX.tStar c.K ta tr) (fAS fa fr) := ⟨hK ▸ StX.pa_star ha.pe hr.pa hs, sn_as ha.sn hr.sn⟩
/-! ### f-strings -/
def fmtD : D → Option Str
  | .str s => if s.length ≤ lim then some s else none
  | .int i => if i.natAbs.log2 < 1920 then some (toString i) else none
  | _ => none
def fFmt (f : FE) : FE := fun e => (f e).bind fun r => Res.of ((lookT r.1 r.2).bind fun d => (fmtD d).map fun s => (.vl (.str s), r.2))
theorem sn_fmt (ha : SndE c W ta fa) : SndE c W (tFmt ta) (fFmt fa) := fun z σ H F e Q I h => by
  unfold fFmt at h
  rw [Wp.bind] at h
  refine ha z σ H F e _ I (h.mono (fun r _ h v H1 F1 x1 I1 t1 => ?_) fun _ _ h => h)
  obtain ⟨o, ea, h⟩ := Wp.of h
  obtain ⟨d, l1, ea⟩ := obind ea
  obtain ⟨s, l2, rfl⟩ := omap ea
  have y := t1.view I1 l1
  unfold fmtD at l2
  cases d <;> try cases l2
  · dsimp only at l2
    split at l2
    · rename_i hl
      cases l2
      exact .inr ⟨_, y.int, hl, h _ H1 F1 x1 I1 rfl⟩
    · cases l2
  · dsimp only at l2
    split at l2
    · rename_i hl
      cases l2
      exact .inl ⟨_, y.str, lim_ok hl, h _ H1 F1 x1 I1 rfl⟩
    · cases l2
theorem de_fmt (ha : DE X c W a ta fa) : DE X c W (.FormattedValue a (-1) none pos) (tFmt ta) (fFmt fa) := ⟨pe_fmt ha.pe, sn_fmt ha.sn⟩
/-- parts one behind the other -/
structure DJ (X : Cx) (c : Ct) (W : WX) (es : List Expr) (ts : List TE) (f : Str → DEnv → Res (Str × DEnv)) : Prop where
  pj : PJ X es ts
  sn : ∀ (acc : Str) (z : Zs) σ H F e (Q : Str → Hp → Prop), I2 c z σ H F e → Wp (f acc e) (fun r => ∀ H' F', Ex F F' → I2 c z σ H' F' r.2 → Q r.1 H') (Xp c z W σ F) → tJs ts acc σ H Q
def fJ0 : Str → DEnv → Res (Str × DEnv) := fun acc e => .ok (acc, e)
def fJ1 (f : FE) (g : Str → DEnv → Res (Str × DEnv)) : Str → DEnv → Res (Str × DEnv) := fun acc e => (f e).bind fun r => match lookT r.1 r.2 with
  | some (.str y) => if (acc ++ y).length ≤ lim then g (acc ++ y) r.2 else .stuck
  | _ => .stuck
theorem dj_nil : DJ X c W [] [] fJ0 := ⟨.nil, fun acc z σ H F e Q I h => h H F (Ex.refl F) I⟩
theorem dj_cons {ts : List TE} {g : Str → DEnv → Res (Str × DEnv)} (ha : DE X c W a ta fa) (hr : DJ X c W es ts g) : DJ X c W (a :: es) (ta :: ts) (fJ1 fa g) := ⟨.cons ha.pe hr.pj, fun acc z σ H F e Q I h => by
  unfold fJ1 at h
  rw [Wp.bind] at h
  refine ha.sn z σ H F e _ I (h.mono (fun r _ h v H1 F1 x1 I1 t1 => ?_) fun _ _ h => h)
  cases hl : lookT r.1 r.2 with
  | none => rw [hl] at h; exact h.elim
  | some d1 =>
    rw [hl] at h
    obtain ⟨y, rfl⟩ : ∃ y, d1 = .str y := by cases d1 <;> first | exact h.elim | exact ⟨_, rfl⟩
    dsimp only at h
    by_cases hy : (acc ++ y).length ≤ lim
    · rw [if_pos hy] at h
      exact ⟨y, (t1.view I1 hl).str, lim_ok hy, hr.sn _ z σ H1 F1 _ _ I1 (h.mono (fun q _ h H2 F2 x2 I2 => h H2 F2 (x1.trans x2) I2) fun _ _ h => h.mono x1)⟩
    · rw [if_neg hy] at h
      exact h.elim⟩
def fJoin (g : Str → DEnv → Res (Str × DEnv)) : FE := fun e => (g Str.empty e).bind fun r => .ok (.vl (.str r.1), r.2)
theorem de_joined {v1 v2 : Expr} {rest : List Expr} {ts : List TE} {g : Str → DEnv → Res (Str × DEnv)} (h : DJ X c W (v1 :: v2 :: rest) ts g) : DE X c W (.JoinedStr (v1 :: v2 :: rest) pos) (fun σ H Q => tJs ts Str.empty σ H fun out H1 => Q (.str out) H1) (fJoin g) :=
  ⟨pe_joined h.pj, fun z σ H F e Q I k => by
    unfold fJoin at k
    rw [Wp.bind] at k
    exact h.sn Str.empty z σ H F e _ I (k.mono (fun r _ k H' F' x I' => k _ H' F' x I' rfl) fun _ _ k => k)⟩
theorem de_joined1 (ha : DE X c W a ta fa) : DE X c W (.JoinedStr [a] pos) ta fa := ⟨pe_joined1 ha.pe, ha.sn⟩
/-! ### >>= -/
theorem ipd_shr : PIp X .RShift (rI (fun _ j => 0 ≤ j) fun i j => .int (i / 2 ^ j.toNat)) := ip_of fun _ _ _ _ _ _ c q => PyProof.Rows.irshift_int c (by rw [Int.fdiv_eq_ediv_of_nonneg _ (by exact Int.le_of_lt (Int.pow_pos (by decide)))]; exact q)
end
end DL

/-! DL, part ad: a text many times; not of anything; x.f op= e. -/
namespace DL
open PySem L2 Evl
section
variable {X : Cx} {c : Ct} {z : Zs} {W : WX} {σ : L2.St} {H F : Hp} {e : DEnv} {a b d : Expr} {es : List Expr} {ta tb tc : TE} {fa fb fc : FE} {tr : TA} {fr : FA} {pos apos p : Pos}
def strRep (x : Str) (n : Int) : Str := ⟨(List.replicate n.toNat x.cps.toList).flatten.toArray⟩
theorem joinA (l : List Nat) : ∀ (n : Nat) (s : List Nat), (List.replicate n l.toArray).foldl (fun u v => u ++ v) s.toArray = (s ++ (List.replicate n l).flatten).toArray
  | 0, s => by simp
  | n + 1, s => by
    rw [List.replicate_succ, List.foldl_cons, List.append_toArray, joinA l n, List.replicate_succ, List.flatten_cons, List.append_assoc]
theorem strRep_fold (x : Str) (n : Int) : (⟨(List.replicate n.toNat x.cps).foldl (fun u v => u ++ v) #[]⟩ : Str) = strRep x n := by
  have := joinA x.cps.toList n.toNat []
  rw [List.nil_append, Array.toArray_toList] at this
  unfold strRep
  rw [← this]
abbrev rMulS : R2 := fun x y H Q => ∃ (s : Str) (n : Int), x = .str s ∧ y = .int n ∧ -1000000 ≤ n ∧ n ≤ 1000000 ∧ s.length * n.toNat ≤ 1000000 ∧ Q (.str (strRep s n)) H
theorem op_mulS : OpR X (binaryOp .Mult) rMulS := by
  intro pins s σ H x y v u Q I rx ry ⟨w, n, e1, e2, g1, g2, g3, q⟩
  subst e1; subst e2
  obtain ⟨t, rfl⟩ := rx
  obtain ⟨t', rfl⟩ := ry
  have big : sizeLine ≥ 1000000 := by rw [sizeLine_eq]; decide
  have fits : (strRep w n).length ≤ sizeLine := by
    have : (strRep w n).length = n.toNat * w.length := by
      unfold strRep Str.length
      simp [List.length_flatten, List.map_replicate]
    rw [this, Nat.mul_comm]
    omega
  refine PySem.P.mul_str (by rw [decide_eq_false (by omega), decide_eq_false (by omega)]; rfl) (fun h1 _ => ?_) (fun _ _ => ?_) ?_
  · have h2 : (w.length : Int) ≤ 1000000 := by
      have : 1 ≤ n.toNat := by omega
      have : w.length * 1 ≤ w.length * n.toNat := Nat.mul_le_mul_left _ this
      omega
    have h3 : (9223372036854 : Int) ≤ (2 ^ 63 - 1) / n := by
      rw [Int.le_ediv_iff_mul_le (by omega)]
      have : (9223372036854 : Int) * n ≤ 9223372036854 * 1000000 := Int.mul_le_mul_of_nonneg_left g2 (by decide)
      omega
    omega
  · show decide _ = false
    exact decide_eq_false (by omega)
  · split
    · rename_i h
      have e0 : strRep w n = Str.empty := by
        unfold strRep
        rw [show n.toNat = 0 by omega]
        rfl
      rw [e0] at q
      exact ⟨by decide, .str _, H, I.tok _, ⟨_, rfl⟩, q⟩
    · split
      · rename_i h1 h2
        have e0 : strRep w n = w := by
          unfold strRep
          rcases Bool.or_eq_true_iff.mp h2 with h3 | h3
          · have : n = 1 := by simpa using h3
            subst this
            simp
          · have h4 : w.cps.size = 0 := by simpa [Str.length] using h3
            have h5 : w.cps = #[] := Array.eq_empty_of_size_eq_zero h4
            have h6 : (List.replicate n.toNat ([] : List Nat)).flatten = [] := by
              induction n.toNat with
              | zero => rfl
              | succ k ih => rw [List.replicate_succ, List.flatten_cons, ih]; rfl
            obtain ⟨cps⟩ := w
            have h7 : cps = #[] := h5
            subst h7
            rw [show (#[] : Array Nat).toList = [] from rfl, h6]
        rw [e0] at q
        exact ⟨.str _, H, I, ⟨_, rfl⟩, q⟩
      · rw [show (⟨(List.replicate n.toNat w.cps).foldl (· ++ ·) #[]⟩ : Str) = strRep w n from strRep_fold w n]
        exact ⟨fits, .str _, H, I.tok _, ⟨_, rfl⟩, q⟩
def opMulA (a b : D) : Option RV := match a, b with
  | .str s, .int n => if decide (-1000000 ≤ n) && decide (n ≤ 1000000) && decide (s.length * n.toNat ≤ lim) then some (.fl (.str (strRep s n))) else none
  | a, b => opMul a b
theorem op_mulAS : OpR X (binaryOp .Mult) (ROr rMulS (ROr (rI CMulW fun i j => .int (i * j)) rRep)) := op_mulS.or op_mulA
theorem ok_mulA : R2Ok c (ROr rMulS (ROr (rI CMulW fun i j => .int (i * j)) rRep)) opMulA := by
  intro F H d1 d2 v1 v2 rv Q x k1 k2 l q
  unfold opMulA at l
  split at l
  · split at l
    · rename_i h
      cases l
      obtain ⟨h, h3⟩ := Bool.and_eq_true_iff.mp h
      obtain ⟨h1, h2⟩ := Bool.and_eq_true_iff.mp h
      exact .inl ⟨_, _, k1.str, k2.int, of_decide_eq_true h1, of_decide_eq_true h2, of_decide_eq_true h3, q _ rfl⟩
    · cases l
  · exact .inr (ok_mul F H _ _ v1 v2 rv Q x k1 k2 l q)
/-! ### not -/
def fNotT (f : FE) : FE := fun e => (fTru f e).bind fun r => .ok (.vl (.bl (!r.1)), r.2)
theorem sn_notT (ha : SndE c W ta fa) : SndE c W (tNotT c.K ta) (fNotT fa) := fun z σ H F e Q I h => by
  unfold fNotT at h
  rw [Wp.bind] at h
  exact sn_tru ha z σ H F e (fun k H1 => Q (.bl (!k)) H1) I (h.mono (fun r _ h H1 F1 x1 I1 => h _ H1 F1 x1 I1 rfl) fun _ _ h => h)
theorem de_notT (hK : X.K = c.K) (ha : DE X c W a ta fa) : DE X c W (.UnaryOp .Not a pos) (tNotT c.K ta) (fNotT fa) := ⟨hK ▸ pe_notT ha.pe, sn_notT ha.sn⟩
/-! ### x.f op= e -/
def fAugF (ns : List Str) (k j : Nat) (f : Str) (op : D → D → Option RV) (fv : FE) : FS := fun e => match (rootIns k e j).bind (fldOf ns f) with
  | some d1 => (fv e).bind fun r => Res.of ((lookT r.1 r.2).bind fun d2 => (op d1 d2).bind fun rv => match rv with
    | .fl d => (rootIns k r.2 j).bind fun ds => (putD ns f d ds).bind fun ds' => if ds.length < 900 then some (.nx (putIns k r.2 j ds')) else none
    | _ => none)
  | none => .stuck
theorem sn_augF {i j : Nat} {f : Str} {tv : TE} {fv : FE} {ti : TIp} {op : D → D → Option RV} (cl : Cls c.K (c.cl i)) (na : NoAttr c.K (c.cl i) f) (ho : ∀ F H d1 d2 v1 v2 rv (Q : VK), Ex F H → View c F H d1 v1 → View c F H d2 v2 → op d1 d2 = some rv → rv.Post c F H Q → ti v1 v2 H Q) (hv : SndE c W tv fv) :
    SndS c W (sFldAug c.K (tVar j) tv ti f) (fAugF (c.fn i) i j f op fv) := fun z σ H F e D I h => by
  unfold fAugF at h
  cases hr : (rootIns i e j).bind (fldOf (c.fn i) f) with
  | none => rw [hr] at h; exact h.elim
  | some d1 =>
    rw [hr] at h
    obtain ⟨ds, l1, l2⟩ := obind hr
    obtain ⟨q, dx, vs, hq, h2, r2, _⟩ := I.rootIns l1
    obtain ⟨v1, h3, r3⟩ := zip_look r2 l2
    refine ⟨_, hq, q, _, dx, _, v1, rfl, h2, cl, na, h3, ?_⟩
    rw [Wp.bind] at h
    refine hv z σ H F e _ I (h.mono (fun r _ h v H1 F1 x1 I1 t1 => ?_) fun _ _ h => h σ)
    obtain ⟨o, ea, h⟩ := Wp.of h
    obtain ⟨d2, l3, ea⟩ := obind ea
    obtain ⟨rv, l4, ea⟩ := obind ea
    cases rv with
    | nl _ => cases ea
    | nt _ => cases ea
    | fl d =>
      obtain ⟨ds1, l5, ea⟩ := obind ea
      obtain ⟨ds2, l6, ea⟩ := obind ea
      split at ea
      · rename_i hlen
        cases ea
        refine ho F1 H1 d1 d2 v1 v (.fl d) _ I1.fh (.inl (Rp.mono x1 d1 v1 r3)) (t1.view I1 l3) l4 fun w rr => ?_
        obtain ⟨q', dx', vs', hq', h2', r2', kk⟩ := I1.rootIns l5
        rw [hq] at hq'; cases hq'
        refine ⟨dx', _, h2', ?_, ?_⟩
        · rw [List.length_zip]
          have := r2'.len
          omega
        · unfold putD at l6
          split at l6
          · rename_i ix hix
            split at l6
            · rename_i hi
              cases l6
              rw [putF_zip hix (by rw [← r2'.len]; omega), if_pos (by rw [← r2'.len]; exact hi)]
              exact h σ _ F1 x1 (kk _ _ (r2'.set ix rr))
            · split at l6
              · rename_i hi hi2
                cases l6
                rw [putF_zip hix (by rw [← r2'.len]; omega), if_neg (by rw [← r2'.len]; exact hi)]
                exact h σ _ F1 x1 (kk _ _ (r2'.app (RpL.one rr)))
              · cases l6
          · cases l6
      · cases ea
theorem ds_augF {i j : Nat} {f y : Str} {v : Expr} {tv : TE} {fv : FE} {o : Operator} {ti : TIp} {op : D → D → Option RV} {pos' : Pos} (hK : X.K = c.K) (cl : Cls c.K (c.cl i)) (na : NoAttr c.K (c.cl i) f) (hy : PE X (.Name y p) (tVar j)) (hv : DE X c W v tv fv) (hp : PIp X o ti)
    (ho : ∀ F H d1 d2 v1 v2 rv (Q : VK), Ex F H → View c F H d1 v1 → View c F H d2 v2 → op d1 d2 = some rv → rv.Post c F H Q → ti v1 v2 H Q) :
    DS X c W (.AugAssign (.Attribute (.Name y p) f pos') o v pos) (sFldAug c.K (tVar j) tv ti f) (fAugF (c.fn i) i j f op fv) := ⟨hK ▸ ps_fldaug hy hv.pe (fun pins s σ H x y u v Q I rx ry h => hp pins s σ H x y u v Q I rx ry h), sn_augF cl na ho hv.sn⟩
end
end DL

/-! DL, part ae: try with several excepts, each with a name or without. -/
namespace DL
open PySem PySem.Spec PyProof.Rows L2 Evl
/-- what an except clause names, what it binds, its suite -/
structure Cl where
  c : Value
  i : Option Nat
  ts : Addr → Value → Option Addr → TS
def Cl.ends (k : Cl) (D : Ends) : Ends := match k.i with
  | none => D
  | some i => { nx := fun t g => D.nx (t.set i none) g, rt := D.rt, bk := fun t g => D.bk (t.set i none) g, ct := fun t g => D.ct (t.set i none) g }
def Cl.st (k : Cl) (a : Addr) (t : L2.St) : L2.St := match k.i with
  | none => t
  | some i => t.set i (some (.ref a))
def wCl (K : PySem.W.Frag) (Wo : WX) (D : Ends) : List Cl → WX
  | [] => Wo
  | k :: r => fun q d t g => ∃ y, PySem.W.exmOne K q k.c = some y ∧ (y = true → ∀ a, g a = none → k.ts a q d (k.ends D) (k.st a t) g) ∧ (y = false → wCl K Wo D r q d t g)
/-- a suite of a clause -/
abbrev SuOk (X : Cx) (st : List Stmt) (ts : Addr → Value → Option Addr → TS) : Prop := ∀ (a : Addr) (u : Obj) (q : Value) (d : Option Addr) (pn : List (Addr × Obj)), Zc q d u → (∃ us, u.data = .fields us) → PSs (X.suite a ((a, u) :: pn)) st (ts a q d)
inductive ClOk (X : Cx) : List ExceptHandler → List Cl → Prop
  | nil : ClOk X [] []
  | no {x : Str} {c : Value} {ts : Addr → Value → Option Addr → TS} {s0 : Stmt} {st : List Stmt} {p1 p2 : Pos} {hs : List ExceptHandler} {l : List Cl} (hc : Names X x c) (hu : SuOk X (s0 :: st) ts) (r : ClOk X hs l) : ClOk X (.ExceptHandler (some (.Name x p1)) none (s0 :: st) p2 :: hs) (⟨c, none, ts⟩ :: l)
  | as {x n : Str} {i : Nat} {c : Value} {ts : Addr → Value → Option Addr → TS} {s0 : Stmt} {st : List Stmt} {p1 p2 : Pos} {hs : List ExceptHandler} {l : List Cl} (hN : X.N.Nodup) (hi : X.N[i]? = some n) (hn : X.env.kindOf n = some .local) (hc : Names X x c) (hu : SuOk X (s0 :: st) ts) (r : ClOk X hs l) :
      ClOk X (.ExceptHandler (some (.Name x p1)) (some n) (s0 :: st) p2 :: hs) (⟨c, some i, ts⟩ :: l)
section
variable {X : Cx} {Wo : WX} {D : Ends} {pins : List (Addr × Obj)} {t : L2.St} {g : Hp} {sI s0 : Shared} {B : Heap} {a : Addr} {q : Value} {d : Option Addr} {h3 : Heap}
/-- an exception that has been caught, ahead of the clauses -/
structure Cau (X : Cx) (pins : List (Addr × Obj)) (t : L2.St) (g : Hp) (sI s0 : Shared) (B : Heap) (a : Addr) (q : Value) (d : Option Addr) (h3 : Heap) : Prop where
  ok : X.Ok
  stk : X.stack = X.env :: X.outer
  fr : X.env.frame = some X.env.locals
  inv : Inv X pins t g sI
  nb : ∀ b o, sI.heap.get? b = some o → b ∉ frs X.stack → B.get? b = some o
  fly : HandSPX.FlyingZ B (X.env :: X.outer) a (Zc q d) h3
  up : sI.heap.UpToSlots h3
  na : g a = none
  os : s0.os = sI.os
  ag : AllBare s0.gens
theorem Cau.again (C : Cau X pins t g sI s0 B a q d h3) {h4 : Heap} (f : HandSPX.FlyingZ B (X.env :: X.outer) a (Zc q d) h4) (u : h3.UpToSlots h4) : Cau X pins t g sI s0 B a q d h4 :=
  ⟨C.ok, C.stk, C.fr, C.inv, C.nb, f, C.up.trans u, C.na, C.os, C.ag⟩
theorem Cau.here (C : Cau X pins t g sI s0 B a q d h3) : Inv X pins t g { s0 with heap := h3 } := C.inv.landed C.nb C.fly.1 C.up C.os C.ag
theorem Cau.obj (C : Cau X pins t g sI s0 B a q d h3) : ∃ u us, h3.get? a = some u ∧ Zc q d u ∧ u.data = .fields us ∧ Inv (X.suite a ((a, u) :: (X.pn ++ pins))) [] t g { s0 with heap := h3 } := by
  obtain ⟨u, us, g1, g2, g3⟩ := C.fly.there
  have out : a ∉ frs (X.env :: X.outer) := fun m => by
    obtain ⟨_, u', w1, w2⟩ := C.fly.2.2.1.mem m
    rw [g1] at w1; cases w1
    exact w2 _ g3
  refine ⟨u, us, g1, g2, g3, C.here.suite g1 g3 C.na (fun z => out ?_) fun m => ?_⟩
  · exact List.mem_filterMap.mpr ⟨X.env, List.mem_cons_self, by rw [C.fr, z]⟩
  · obtain ⟨v, w1, w2⟩ := List.mem_filterMap.mp m
    exact out (List.mem_filterMap.mpr ⟨v, List.mem_cons_of_mem _ w1, w2⟩)
/-- no clause takes it -/
theorem Cau.pass (C : Cau X pins t g sI s0 B a q d h3) (tk : Takes X Wo) (w : Wo q d t g) : wpAny (model X.prog X.w) X.A (handleBy (.ref a) X.env []) (SP X pins D) X.xe { s0 with heap := h3 } := by
  refine wpAny_handleBy_nil ?_
  have fl := C.fly
  obtain ⟨_, _, _, u, us, T, _, _, z1, _, z3, z4, _⟩ := id fl
  unfold PySem.passOn
  refine wpAny_bind (wpAny_field z1 z3 z4 ?_)
  have nz : ¬ ((Value.ref T == Value.none) = true) := by simp
  rw [if_neg nz]
  have last : wpAny (model X.prog X.w) X.A (setFlight (.ref a) X.env.frame) (fun _ v => wpAny (model X.prog X.w) X.A (throw (.ref a) : Sem Flow) (SP X pins D) X.xe v) X.xe { s0 with heap := h3 } := by
    rw [C.fr]
    refine HandSPX.setFlight_upZ fl fun k hk uk => wpAny_throw (tk _ _ ?_)
    exact ⟨a, B, sI, pins, t, g, q, d, rfl, C.inv, C.nb, C.up.trans uk, .inr (.inr (by rw [C.stk]; exact hk)), C.na, C.os, C.ag, w⟩
  first
    | exact wpAny_bind last
    | exact wpAny_bind (wpAny_pure (wpAny_bind last))
/-- a clause's class is looked up -/
theorem Cau.test (C : Cau X pins t g sI s0 B a q d h3) {x : Str} {c : Value} {p1 : Pos} (hc : Names X x c) {Q : Value → Shared → Prop} {E : Value → Shared → Prop} (k : Q c { s0 with heap := h3 }) : wpAny (model X.prog X.w) (X.A.mark (some (.ref a))) (eval (.Name x p1) X.env) Q E { s0 with heap := h3 } := by
  obtain ⟨u, us, _, _, _, S⟩ := C.obj
  obtain ⟨w1, w2, w3 | ⟨w3, w4, w5⟩⟩ := hc
  · exact ld_glob S w1 w3 k w2
  · exact ld_blt S w1 w3 w4 k w5 w2
/-- is it of the class? -/
theorem Cau.looks (C : Cau X pins t g sI s0 B a q d h3) {c : Value} {y : Bool} (e : PySem.W.exmOne X.K q c = some y) : PySem.W.Looks (model X.prog X.w) h3 (excMatches (.ref a) c) y := by
  obtain ⟨u, us, g1, g2, _, _⟩ := C.obj
  exact PySem.W.exm_one C.here.kIn (fun A Q E s k z => wpAny_typeOf_ref (k _ _ g1) (by rw [g2.1]; exact z)) e
theorem Cau.all (tk : Takes X Wo) : ∀ {hs : List ExceptHandler} {l : List Cl}, ClOk X hs l → ∀ {h3 : Heap}, Cau X pins t g sI s0 B a q d h3 → wCl X.K Wo D l q d t g → wpAny (model X.prog X.w) X.A (handleBy (.ref a) X.env hs) (SP X pins D) X.xe { s0 with heap := h3 } := by
  intro hs l hk
  induction hk with
  | nil => intro h3 C w; exact C.pass tk w
  | @no x c ts s1 st p1 p2 hs l hc hu r ih =>
    intro h3 C ⟨y, e1, e2, e3⟩
    refine wpAny_handleBy_cons (codeAny_handlers_test ?_) (by intro z; cases z)
    refine C.test hc ((C.looks e1).here ?_)
    cases y with
    | false => exact ih C (e3 rfl)
    | true =>
      refine codeAny_handlers_suite (HandSPX.lands_againZ C.fly fun h4 f4 u4 => ?_)
      obtain ⟨u, us, g1, g2, g3, S⟩ := (C.again f4 u4).obj
      refine wpAny_mono ((hu a u q d (X.pn ++ pins) g2 ⟨_, g3⟩).run [] _ t g _ S (e2 rfl a C.na)) (fun o v z => ?_) (fun _ _ z => z.elim)
      cases o with
      | next => obtain ⟨t', g', I, z⟩ := z; exact ⟨t', g', I.unsuite C.ok, z⟩
      | brk => obtain ⟨t', g', I, z⟩ := z; exact ⟨t', g', I.unsuite C.ok, z⟩
      | cont => obtain ⟨t', g', I, z⟩ := z; exact ⟨t', g', I.unsuite C.ok, z⟩
      | ret _ => obtain ⟨v', t', g', I, y1, z⟩ := z; exact ⟨v', t', g', I.unsuite C.ok, y1, z⟩
  | @as x n i c ts s1 st p1 p2 hs l hN hi hn hc hu r ih =>
    intro h3 C ⟨y, e1, e2, e3⟩
    refine wpAny_handleBy_cons (codeAny_handlers_test ?_) (by intro z; cases z)
    refine C.test hc ((C.looks e1).here ?_)
    cases y with
    | false => exact ih C (e3 rfl)
    | true =>
      refine codeAny_handlers_suite_as (HandSPX.lands_againZ C.fly fun h4 f4 u4 => ?_)
      obtain ⟨u, us, g1, g2, g3, S⟩ := (C.again f4 u4).obj
      refine store_ok (X := X.suite a ((a, u) :: (X.pn ++ pins))) (v := .ref a) S hN hi (.inl hn) rfl (fun v5 S5 => ?_) (.inr hn)
      refine wpAny_mono ((hu a u q d (X.pn ++ pins) g2 ⟨_, g3⟩).run [] v5 _ g _ S5 (e2 rfl a C.na)) (fun o v z => ?_) (fun _ _ z => z.elim)
      have gone : ∀ {t' : L2.St} {g' : Hp} {Q : Shared → Prop}, Inv (X.suite a ((a, u) :: (X.pn ++ pins))) [] t' g' v → (∀ v', Inv X pins (t'.set i none) g' v' → Q v') →
          wpAny (model X.prog X.w) X.A (do bindName X.env n .none; unbindBehindTheSuite X.env n p2) (fun _ v' => Q v') X.xe v := fun {_ _ _} I k => gone_ok (I.unsuite C.ok) hN hi hn k
      cases o with
      | next => obtain ⟨t', g', I, z⟩ := z; exact gone I fun v' J => ⟨_, g', J, z⟩
      | brk => obtain ⟨t', g', I, z⟩ := z; exact gone I fun v' J => ⟨_, g', J, z⟩
      | cont => obtain ⟨t', g', I, z⟩ := z; exact gone I fun v' J => ⟨_, g', J, z⟩
      | ret _ => obtain ⟨v9, t', g', I, y1, z⟩ := z; exact gone I fun v' J => ⟨v9, _, g', J, y1, z⟩
theorem ps_try_cl {body : List Stmt} {k0 : ExceptHandler} {hs : List ExceptHandler} {l : List Cl} {pos : Pos} {tb : WX → TS} (stk : X.stack = X.env :: X.outer) (fr : X.env.frame = some X.env.locals) (tk : Takes X Wo)
    (hb : ∀ (V : WX) (pn : List (Addr × Obj)) (xe : Value → Shared → Prop), Takes (X.tr pn xe) V → PassesOwn (model X.prog X.w) X.A X.env xe → PSs (X.tr pn xe) body (tb V)) (hk : ClOk X (k0 :: hs) l) :
    PS X (.Try body (k0 :: hs) [] [] pos) (fun D t g => tb (wCl X.K Wo D l) D t g) := by
  constructor
  intro pins s t g D I k
  have ok := I.ok
  have fs : X.A.frames = some (X.env :: X.outer) := by rw [ok.frames, stk]
  refine wpAny_Try_except (wpAny_mono ((hb (wCl X.K Wo D l) (X.pn ++ pins) _ (fun u s' xx => ?_) PassesOwn.looking).run [] s t g D (I.toTry _) k) (fun f v z => ?_) (fun e v z => z))
  · obtain ⟨a, B, sI, pins', t', g', q, d, rfl, J, nb, up, sky, na, os, ag, w⟩ := xx
    have sky2 : Sky B (X.env :: X.outer) a (Zc q d) X.env.locals s'.heap := by rw [← stk]; exact sky
    refine Sky.land Zc.steady fs fr sky2 fun h3 f3 u3 => ?_
    exact Cau.all (D := D) tk hk ⟨ok, stk, fr, J.ofTry ok, nb, f3, up.trans u3, na, os, ag⟩ w
  · cases f with
    | next => obtain ⟨t', g', J, z⟩ := z; exact wpAny_execs_nil ⟨t', g', J.ofTry ok, z⟩
    | brk => obtain ⟨t', g', J, z⟩ := z; exact ⟨t', g', J.ofTry ok, z⟩
    | cont => obtain ⟨t', g', J, z⟩ := z; exact ⟨t', g', J.ofTry ok, z⟩
    | ret _ => obtain ⟨v9, t', g', J, y, z⟩ := z; exact ⟨v9, t', g', J.ofTry ok, y, z⟩
end
/-! ### .. on data -/
/-- a clause on data -/
abbrev Cf := (Nat → Option Bool) × Option Nat × FS
def fCls : List Cf → XV → DEnv → Res Out
  | [], x, e => .exc x e
  | (tbl, none, g) :: r, x, e => (match tbl x.k with
    | some true => (match g e with
      | .ok out => .ok out
      | _ => .stuck)
    | some false => fCls r x e
    | none => .stuck)
  | (tbl, some i, g) :: r, x, e => (match tbl x.k with
    | some true => if noX e && decide (i < e.length) then (match g (e.set i (some (.ex x))) with
      | .ok out => goneO i out
      | _ => .stuck) else .stuck
    | some false => fCls r x e
    | none => .stuck)
/-- try: f, except ..: .., except ..: .. -/
def fTryM (l : List Cf) (f : FS) : FS := fun e => match f e with
  | .exc x e' => fCls l x e'
  | r => r
/-- the clauses' walks and what they are on data -/
inductive ClSn (c : Ct) : List Cl → List Cf → Prop
  | nil : ClSn c [] []
  | no {cv : Value} {tbl : Nat → Option Bool} {ts : Addr → Value → Option Addr → TS} {g : FS} {l : List Cl} {lf : List Cf} (ok : TryOk c cv tbl) (hg : ∀ a cls d, SndS c W0 (ts a cls d) g) (r : ClSn c l lf) : ClSn c (⟨cv, none, ts⟩ :: l) ((tbl, none, g) :: lf)
  | as {cv : Value} {tbl : Nat → Option Bool} {i : Nat} {ts : Addr → Value → Option Addr → TS} {g : FS} {l : List Cl} {lf : List Cf} (ok : TryOk c cv tbl) (hg : ∀ a cls d, SndS (c.hd (some (a, cls, d))) W0 (ts a cls d) g) (r : ClSn c l lf) : ClSn c (⟨cv, some i, ts⟩ :: l) ((tbl, some i, g) :: lf)
section
variable {c : Ct} {W : WX}
theorem sn_clauses {z : Zs} {F : Hp} {D : Ends} : ∀ {l : List Cl} {lf : List Cf}, ClSn c l lf → ∀ {x : XV} {e' : DEnv}, Wp (fCls lf x e') (PoS c z F D) (XpS c z W F) →
    ∀ (σ' : L2.St) (cls : Value) (dd : Option Addr) (H' F' : Hp), Ex F F' → I2 c z σ' H' F' e' → XR c F' x cls dd → wCl c.K W D l cls dd σ' H' := by
  intro l lf hk
  induction hk with
  | nil => intro x e' h σ' cls dd H' F' x1 J r; exact h σ' cls dd H' F' x1 J r
  | @no cv tbl ts g l lf ok hg _ ih =>
    intro x e' h σ' cls dd H' F' x1 J r
    have hc : cls = .ref (c.cl x.k) := r.1
    unfold fCls at h
    cases ht : tbl x.k with
    | none => rw [ht] at h; exact h.elim
    | some b =>
      rw [ht] at h
      refine ⟨b, by rw [hc]; exact ok _ _ ht, fun hb1 a ha => ?_, fun hb0 => ?_⟩
      · subst hb1
        dsimp only at h
        refine hg a cls dd z σ' H' F' _ _ J ?_
        cases hq : g e' with
        | stuck => rw [hq] at h; exact h
        | exc x2 e2 => rw [hq] at h; exact h.elim
        | ok out =>
          rw [hq] at h
          have h' : PoS c z F D out := h
          exact h'.mono x1
      · subst hb0
        exact ih h σ' cls dd H' F' x1 J r
  | @as cv tbl i ts g l lf ok hg _ ih =>
    intro x e' h σ' cls dd H' F' x1 J r
    have hc : cls = .ref (c.cl x.k) := r.1
    unfold fCls at h
    cases ht : tbl x.k with
    | none => rw [ht] at h; exact h.elim
    | some b =>
      rw [ht] at h
      refine ⟨b, by rw [hc]; exact ok _ _ ht, fun hb1 a ha => ?_, fun hb0 => ?_⟩
      · subst hb1
        dsimp only at h
        split at h
        · rename_i hk
          obtain ⟨no, hi⟩ := Bool.and_eq_true_iff.mp hk
          have hi := of_decide_eq_true hi
          have J1 := (J.hd (o := some (a, cls, dd)) no).storeX (i := i) (v := .ref a) (x := x) (by rw [← J.len]; exact hi) ⟨a, cls, dd, rfl, rfl, XR.hd.mpr r⟩
          refine hg a cls dd z (σ'.set i (some (.ref a))) H' F' _ _ J1 ?_
          cases hq : g (e'.set i (some (.ex x))) with
          | stuck => rw [hq] at h; exact h
          | exc x2 e2 => rw [hq] at h; exact h.elim
          | ok out =>
            rw [hq] at h
            cases out with
            | nx e2 =>
              intro σ2 H2 F2 x2 K
              have h' : Wp (if noX (e2.set i none) then (Res.ok (Out.nx (e2.set i none))) else .stuck) (PoS c z F D) (XpS c z W F) := h
              split at h'
              · rename_i hn
                exact h' _ H2 F2 (x1.trans x2) (K.unbind.unhd hn)
              · exact h'.elim
            | bk e2 =>
              intro σ2 H2 F2 x2 K
              have h' : Wp (if noX (e2.set i none) then (Res.ok (Out.bk (e2.set i none))) else .stuck) (PoS c z F D) (XpS c z W F) := h
              split at h'
              · rename_i hn
                exact h' _ H2 F2 (x1.trans x2) (K.unbind.unhd hn)
              · exact h'.elim
            | ct e2 =>
              intro σ2 H2 F2 x2 K
              have h' : Wp (if noX (e2.set i none) then (Res.ok (Out.ct (e2.set i none))) else .stuck) (PoS c z F D) (XpS c z W F) := h
              split at h'
              · rename_i hn
                exact h' _ H2 F2 (x1.trans x2) (K.unbind.unhd hn)
              · exact h'.elim
            | rt t e2 =>
              intro v σ2 H2 F2 x2 K tr
              have h' : Wp (if noX (e2.set i none) && offT i t then (Res.ok (Out.rt t (e2.set i none))) else .stuck) (PoS c z F D) (XpS c z W F) := h
              split at h'
              · rename_i hn
                obtain ⟨hn, ho⟩ := Bool.and_eq_true_iff.mp hn
                exact h' v _ H2 F2 (x1.trans x2) (K.unbind.unhd hn) (tr.unhd ho)
              · exact h'.elim
        · exact h.elim
      · subst hb0
        exact ih h σ' cls dd H' F' x1 J r
theorem sn_tryM {tb : WX → TS} {f : FS} {l : List Cl} {lf : List Cf} (hl : ClSn c l lf) (hb : ∀ W', SndS c W' (tb W') f) : SndS c W (fun D σ H => tb (wCl c.K W D l) D σ H) (fTryM lf f) := fun z σ H F e D I h => by
  refine hb (wCl c.K W D l) z σ H F e D I ?_
  unfold fTryM at h
  cases hf : f e with
  | stuck => rw [hf] at h; exact h
  | ok r => rw [hf] at h; exact h
  | exc x e' =>
    rw [hf] at h
    exact fun σ' cls dd H' F' x1 J r => sn_clauses hl h σ' cls dd H' F' x1 J r
/-- the clauses' derivations -/
inductive DCl (X : Cx) (c : Ct) : List ExceptHandler → List Cl → List Cf → Prop
  | nil : DCl X c [] [] []
  | no {x : Str} {cv : Value} {tbl : Nat → Option Bool} {ts : Addr → Value → Option Addr → TS} {g : FS} {s0 : Stmt} {st : List Stmt} {p1 p2 : Pos} {hs : List ExceptHandler} {l : List Cl} {lf : List Cf} (hc : Names X x cv) (ok : TryOk c cv tbl)
      (hu : ∀ (a : Addr) (u : Obj) (q : Value) (d : Option Addr) (pn : List (Addr × Obj)), Zc q d u → (∃ us, u.data = .fields us) → DSs (X.suite a ((a, u) :: pn)) c W0 (s0 :: st) (ts a q d) g) (r : DCl X c hs l lf) :
      DCl X c (.ExceptHandler (some (.Name x p1)) none (s0 :: st) p2 :: hs) (⟨cv, none, ts⟩ :: l) ((tbl, none, g) :: lf)
  | as {x n : Str} {i : Nat} {cv : Value} {tbl : Nat → Option Bool} {ts : Addr → Value → Option Addr → TS} {g : FS} {s0 : Stmt} {st : List Stmt} {p1 p2 : Pos} {hs : List ExceptHandler} {l : List Cl} {lf : List Cf} (hN : X.N.Nodup) (hi : X.N[i]? = some n) (hn : X.env.kindOf n = some .local) (hc : Names X x cv) (ok : TryOk c cv tbl)
      (hu : ∀ (a : Addr) (u : Obj) (q : Value) (d : Option Addr) (pn : List (Addr × Obj)), Zc q d u → (∃ us, u.data = .fields us) → DSs (X.suite a ((a, u) :: pn)) (c.hd (some (a, q, d))) W0 (s0 :: st) (ts a q d) g) (r : DCl X c hs l lf) :
      DCl X c (.ExceptHandler (some (.Name x p1)) (some n) (s0 :: st) p2 :: hs) (⟨cv, some i, ts⟩ :: l) ((tbl, some i, g) :: lf)
theorem DCl.walk {X : Cx} {hs : List ExceptHandler} {l : List Cl} {lf : List Cf} (h : DCl X c hs l lf) : ClOk X hs l ∧ ClSn c l lf := by
  induction h with
  | nil => exact ⟨.nil, .nil⟩
  | no hc ok hu _ ih => exact ⟨.no hc (fun a u q d pn z1 z2 => (hu a u q d pn z1 z2).ps) ih.1, .no ok (fun a q d => (hu a ⟨q, d, .fields #[], #[]⟩ q d [] ⟨rfl, rfl⟩ ⟨_, rfl⟩).sn) ih.2⟩
  | as hN hi hn hc ok hu _ ih => exact ⟨.as hN hi hn hc (fun a u q d pn z1 z2 => (hu a u q d pn z1 z2).ps) ih.1, .as ok (fun a q d => (hu a ⟨q, d, .fields #[], #[]⟩ q d [] ⟨rfl, rfl⟩ ⟨_, rfl⟩).sn) ih.2⟩
theorem ds_try_many {X : Cx} {body : List Stmt} {k0 : ExceptHandler} {hs : List ExceptHandler} {l : List Cl} {lf : List Cf} {pos : Pos} {tb : WX → TS} {f : FS} (stk : X.stack = X.env :: X.outer) (fr : X.env.frame = some X.env.locals) (tk : Takes X W) (hK : X.K = c.K)
    (hb : ∀ (W' : WX) (pn : List (Addr × Obj)) (xe : Value → Shared → Prop), Takes (X.tr pn xe) W' → PassesOwn (model X.prog X.w) X.A X.env xe → DSs (X.tr pn xe) c W' body (tb W') f) (hk : DCl X c (k0 :: hs) l lf) :
    DS X c W (.Try body (k0 :: hs) [] [] pos) (fun D σ H => tb (wCl c.K W D l) D σ H) (fTryM lf f) :=
  ⟨hK ▸ ps_try_cl stk fr tk (fun V pn xe t p => (hb V pn xe t p).ps) hk.walk.1, sn_tryM hk.walk.2 fun V => (hb V [] (xeT X) (takes_T stk fr) pass_T).sn⟩
end
end DL

/-! DL, part af: an own operator whose right side is an int or an instance of another class (which has no such operator). -/
namespace PySem.W
open PySem PySem.Calls PyProof.Rows
/-- a class right under object -/
def underObj (K : Frag) (C : Addr) : Bool := (clsIn K C).any fun cd => cd.mro == [.ref C, .type "object"]
section
variable {prog : Program} {w : World} {M : Model} {A : Around} {E : Value → Shared → Prop} {s : Shared} {K : Frag} {x C D L f : Addr} {h₀ : Heap} {m : Str → Option Value} {ox : Obj} {od : Option Obj} {nm : String}
theorem lacks_K {h : Heap} (X : K.In h) (u : underObj K D = true) (n1 : findIn K (.ref D) (PySem.dunder nm) = some none) (n2 : findIn K (.ref D) (dunderR nm) = some none)
    (o1 : findIn K (.type "object") (PySem.dunder nm) = some none) (o2 : findIn K (.type "object") (dunderR nm) = some none) : Looks M h (fillsNumberSlot (.ref D) nm) false := by
  intro A Q E s k q
  obtain ⟨cd, hc, hm⟩ := any_some u
  have hm := beq_iff_eq.mp hm
  unfold fillsNumberSlot
  refine wpAny_bind ((looks_clsIn X hc).andThen (f := fun cd => pure cd.mro) .now A _ E s k ?_)
  rw [hm, List.anyM_cons]
  refine wpAny_bind ?_
  show wpAny M A (List.anyM _ [PySem.dunder nm, dunderR nm]) _ _ _
  rw [List.anyM_cons]
  refine wpAny_bind (wpAny_bind (looks_findIn X n1 A _ E s k (wpAny_pure ?_)))
  rw [if_neg (by decide), List.anyM_cons]
  refine wpAny_bind (wpAny_bind (looks_findIn X n2 A _ E s k (wpAny_pure ?_)))
  rw [if_neg (by decide), List.anyM_nil]
  refine wpAny_pure ?_
  rw [if_neg (by decide), List.anyM_cons]
  refine wpAny_bind (wpAny_bind (looks_findIn X o1 A _ E s k (wpAny_bind (looks_findIn X o2 A _ E s k (wpAny_pure ?_)))))
  rw [if_neg (by decide), List.anyM_nil]
  exact wpAny_pure q
theorem dl_binO {op : Operator} {b : Value} {Q : Value → Shared → Prop} (F : Fr h₀ L s.heap m) (X₀ : K.In h₀) (I : InstAt s.heap x ox C od) (hb : Looks (model prog w) s.heap (typeOf b) (.ref D)) (hne : (C == D) = false) (hc : selfFirst K C = true)
    (hs : findIn K (.ref C) (PySem.dunder op.info.2) = some (some (.ref f))) (hf : isFn K (.ref f) = true)
    (u : underObj K D = true) (n1 : findIn K (.ref D) (PySem.dunder op.info.2) = some none) (n2 : findIn K (.ref D) (dunderR op.info.2) = some none)
    (o1 : findIn K (.type "object") (PySem.dunder op.info.2) = some none) (o2 : findIn K (.type "object") (dunderR op.info.2) = some none)
    (h : wpAny (model prog w) A (call (.ref f) [.ref x, b]) (CmpBack Q) E s) : wpAny (model prog w) A (binaryOp op (.ref x) b) Q E s := by
  have X := X₀.keeps F.keep
  obtain ⟨cd, rest, hcd, hm⟩ := ksp_first hc
  have ne : (Value.ref C == Value.ref D) = false := Bool.eq_false_iff.mpr fun q => by
    have := beq_iff_eq.mp q
    cases this
    simp at hne
  unfold binaryOp
  refine wpAny_holding (wpAny_bind ?_)
  unfold binaryOp1
  refine wpAny_bind (I.type.here (wpAny_bind (hb.here (wpAny_bind ((fills_K X hcd hm hs).here ?_)))))
  rw [ne]
  simp only [Bool.false_eq_true, if_false]
  refine wpAny_bind ((lacks_K X u n1 n2 o1 o2).here ?_)
  simp only [Bool.and_false, Bool.false_eq_true, if_false, Bool.false_and, pure_bind]
  refine wpAny_bind (m := tryMethod (.ref x) _ b) ?_
  unfold tryMethod
  refine wpAny_bind (special_fn X I hs (beq_iff_eq.mp hf) (wpAny_mono h (fun v s' hv => ?_) fun _ _ e => e))
  cases v <;> first | exact hv.elim | exact wpAny_pure (wpAny_pure (wpAny_pure hv))
end
end PySem.W
namespace DL
open PySem L2 Evl
section
variable {X : Cx} {c : Ct} {W : WX} {k n j : Nat} {f g C : Addr} {fd : FuncData} {ps : List Str} {m : Fn} {p pos apos : Pos} {a b o : Expr} {ta tb : TE} {fa fb : FE} {sp : Sp} {E : L2.St → XK} {CX : CXT} {op : Operator}
/-- .. with an instance of the class at D on the right -/
structure Own2O (K : PySem.W.Frag) (C D : Addr) (op : Operator) : Prop where
  ne : (C == D) = false
  u : PySem.W.underObj K D = true
  n1 : PySem.W.findIn K (.ref D) (PySem.dunder op.info.2) = some none
  n2 : PySem.W.findIn K (.ref D) (dunderR op.info.2) = some none
  o1 : PySem.W.findIn K (.type "object") (PySem.dunder op.info.2) = some none
  o2 : PySem.W.findIn K (.type "object") (dunderR op.info.2) = some none
def rOwnR (K : PySem.W.Frag) (C D : Addr) (sp : Sp) (E : L2.St → XK) : L2.St → R2 := fun σ x y H Q => ∃ a dx fs, x = .ref a ∧ H a = some (.ins C dx fs) ∧ ((∃ i, y = .int i) ∨ ∃ b dy gs, y = .ref b ∧ H b = some (.ins D dy gs)) ∧ sp [x, y] H Q (E σ)
theorem pe_ownR {D : Addr} (w2 : Own2 X.K C f op) (wi : Own2I X.K C op) (wo : Own2O X.K C D op) (F : FnOk X.prog X.w X.K X.mg X.base CX k f fd ps sp) (hr : Room k X.A) (hb : Binds X.K fd ps []) (hx : ∀ σ, PassesAt CX X σ (E σ)) (ha : PE X a ta) (hb' : PE X b tb) : PE X (.BinOp a op b pos) (tOpS (rOwnR X.K C D sp E) ta tb) := by
  refine ⟨fun pins s σ H Q I h => ?_⟩
  refine wpAny_BinOp (bin ha hb' I h fun v u s2 x y H2 I2 rx ry q => ?_)
  obtain ⟨p, dx, fs, rfl, h1, h2, hsp⟩ := q
  cases rx
  obtain ⟨_, od, J⟩ := Inv.inst I2 h1
  obtain ⟨m, hF⟩ := I2.fr
  rcases h2 with ⟨i, rfl⟩ | ⟨q', dy, gs, rfl, h2⟩
  · obtain ⟨t, rfl⟩ := ry
    obtain ⟨⟨rc, r1, r2⟩, ⟨fo, e1⟩, ⟨ro, e2⟩, hsub⟩ := wi
    exact PySem.W.ksp_binT hF I2.ok.mod.kin J (T := "int") rfl w2.fst w2.s w2.fn r1 r2 e1 e2 hsub (wpAny_mono (run_fnSD (us := [.ref p, .int i t]) (vs := [.ref p, .int i]) F hr hb .nil (hx σ) I2 (.cons rfl (.cons ⟨t, rfl⟩ .nil)) hsp) (fun _ _ h => EP.back h) fun _ _ h => h)
  · cases ry
    obtain ⟨_, od', J'⟩ := Inv.inst I2 h2
    exact PySem.W.dl_binO hF I2.ok.mod.kin J J'.type wo.ne w2.fst w2.s w2.fn wo.u wo.n1 wo.n2 wo.o1 wo.o2 (wpAny_mono (run_fnSD (us := [.ref p, .ref q']) (vs := [.ref p, .ref q']) F hr hb .nil (hx σ) I2 (.cons rfl (.cons rfl .nil)) hsp) (fun _ _ h => EP.back h) fun _ _ h => h)
def isR (j : Nat) : D → Bool
  | .int _ => true
  | .ins k _ => k == j
  | _ => false
theorem de_ownR {i j : Nat} (tk : Takes X W) (hK : X.K = c.K) (w2 : Own2 c.K (c.cl i) f op) (wi : Own2I c.K (c.cl i) op) (wo : Own2O c.K (c.cl i) (c.cl j) op) (F : FnOk X.prog X.w X.K X.mg X.base (L2.CX X.prog X.w) k f fd ps (spD c 2 m)) (hr : Room k X.A) (hb : Binds X.K fd ps []) (ha : DE X c W a ta fa) (hb' : DE X c W b tb fb) :
    DE X c W (.BinOp a op b pos) (tOpS (rOwnR c.K (c.cl i) (c.cl j) (spD c 2 m) (WE W)) ta tb) (fOwn2 (isIns i) (isR j) false m fa fb) :=
  ⟨hK ▸ pe_ownR (hK ▸ w2) (hK ▸ wi) (hK ▸ wo) F hr hb (fun σ => passAt tk σ) ha.pe hb'.pe, sn_own2 (R := fun σ x y H2 Q => rOwnR c.K (c.cl i) (c.cl j) (spD c 2 m) (WE W) σ x y H2 Q) (fun σ x y H2 Q F d1 d2 e v1 v2 h1 h2 hs => by
    obtain ⟨ds, rfl⟩ := isIns_eq h1
    obtain ⟨p, dx, vs, rfl, g1, _⟩ := v1.ins e
    cases d2 with
    | int n => exact ⟨p, dx, _, rfl, g1, .inl ⟨n, v2.int⟩, hs⟩
    | ins q es =>
      have : q = j := beq_iff_eq.mp h2
      subst this
      obtain ⟨r, dy, ws, rfl, g2, _⟩ := v2.ins e
      exact ⟨p, dx, _, rfl, g1, .inr ⟨r, dy, _, rfl, g2⟩, hs⟩
    | _ => cases h2) ha.sn hb'.sn⟩
end
end DL

/-! DL, part ag: == and != of lists that hold instances with an own ==, where they are equal. -/
namespace DLQ
open PySem PySem.SeqAt GQ
open AutoSeq1 (wpAny_loadPart')
open MeetsSeq MeetsSeq2 MeetsSeq3 SeqRoads2
section
variable {P : Program} {w : World} {A : Around} {R : Result → Shared → Prop}
theorem differ_turns (p q : Addr) (N : Nat) (J : Nat → Shared → Prop) (look : ListI P w A (fun e t => R (.error e) t) p q N J) (last : ∀ t, J N t → R (.ok (.ret (.bool false))) t) (left : Nat) :
    ∀ at_ : Nat, N - at_ = left → at_ ≤ N → ∀ t, J at_ t →
      wpAny (model P w) A.in1 (Builtin.«list.__eq__.loop» ⟨[.ref p, .ref q, rawInt at_, rawInt 3], []⟩) (FinOf P w A R) (fun e t => R (.error e) t) t := by
  induction left with
  | zero =>
    intro at_ le1 le2 t j
    obtain ⟨us, vs, m1, m2, at1, at2, z1, z2, _⟩ := look _ _ j
    obtain rfl : at_ = N := by omega
    have done_ := last t j
    obtain ⟨hp, g, d, tk, os⟩ := t
    wp_walk using wpAny_loadPart' at1, wpAny_loadPart' at2
    have none1 : us[((at_ : Nat) : Int).toNat]? = none := by simp; omega
    have none2 : vs[((at_ : Nat) : Int).toNat]? = none := by simp; omega
    rw [none1, none2]
    wp_walk using wpAny_loadPart' at1, wpAny_loadPart' at2
    show R (.ok (.ret (.bool (us.size != vs.size)))) _
    rw [z1, z2]
    simpa using done_
  | succ left more =>
    intro at_ le1 le2 t j
    obtain ⟨us, vs, m1, m2, at1, at2, z1, z2, each⟩ := look _ _ j
    have lt1 : at_ < us.size := by omega
    have lt2 : at_ < vs.size := by omega
    have this_ := each lt1 lt2
    obtain ⟨hp, g, d, tk, os⟩ := t
    wp_walk using wpAny_loadPart' at1, wpAny_loadPart' at2
    have some1 : us[((at_ : Nat) : Int).toNat]? = some us[at_] := by simp [lt1]
    have some2 : vs[((at_ : Nat) : Int).toNat]? = some vs[at_] := by simp [lt2]
    have up : ((at_ : Int) + 1) = ((at_ + 1 : Nat) : Int) := by omega
    rw [some1, some2]
    refine wpAny_bind (wpAny_mono this_ (fun y t2 z => ?_) fun _ _ z => z)
    obtain ⟨y1, z⟩ := z
    subst y1
    have rest_ := more (at_ + 1) (by omega) (by omega) t2 z
    obtain ⟨hp2, g2, d2, tk2, os2⟩ := t2
    wp_walk
    rw [up]
    refine ⟨plainId_quiet plain_eq_loop _, codeAny_builtin entry_eq_loop ?_⟩
    rw [Around.under_plainId plain_eq_loop _]; exact rest_
theorem differ_lists (p q : Addr) (N : Nat) (J : Nat → Shared → Prop) (look : ListI P w A (fun e t => R (.error e) t) p q N J) (last : ∀ t, J N t → R (.ok (.ret (.bool false))) t) {t : Shared} (j : J 0 t) :
    wpAny (model P w) A.in1 (Builtin.«list.__ne__» ⟨[.ref p, .ref q], []⟩) (FinOf P w A R) (fun e t => R (.error e) t) t := by
  obtain ⟨us, vs, m1, m2, at1, at2, z1, z2, _⟩ := look _ _ j
  have turns := differ_turns (A := A) (R := R) p q N J look last _ 0 rfl (Nat.zero_le _) t j
  obtain ⟨hp, g, d, tk, os⟩ := t
  have sub_ := AutoSeq1.sub_list_list
  have same_ : ¬ (us.size != vs.size) = true := by simp [z1, z2]
  wp_walk using wpAny_loadPart' at1, wpAny_loadPart' at2
  refine ⟨plainId_quiet plain_eq_loop _, codeAny_builtin entry_eq_loop ?_⟩
  rw [Around.under_plainId plain_eq_loop _]; exact turns
end
theorem rc_differ {P : Program} {w : World} {A : Around} {E : Value → Shared → Prop} {t : Shared} {p q : Addr} {N : Nat} {Q : Value → Shared → Prop} (hu : A.units < cLine) (J : Nat → Shared → Prop) (look : ListI P w A E p q N J)
    (last : ∀ t, J N t → Q (.bool false) t) (j : J 0 t) : wpAny (model P w) A (richCompare .NotEq (.ref p) (.ref q)) Q E t := by
  obtain ⟨us, vs, m1, m2, at1, at2, _, _, _⟩ := look _ _ j
  refine wpAny_richCompare_same_room (op := .NotEq) ⟨_, at1, rfl⟩ ⟨_, at2, rfl⟩ F.slot_list_ne (call_here F.slot_list_ne ⟨_, at1, rfl⟩ F.entry_list_ne (F.args_list_ne_2 _ _) ?_) hu
  exact differ_lists (R := wants (fun v t' => v ≠ .notImplemented ∧ Q v t') E) p q N J look (fun t' z => ⟨(fun y => nomatch y), last t' z⟩) j
end DLQ
namespace DL
open PySem L2 Evl
/-- == of plain things -/
def flatD : D → D → Bool
  | .non, .non => true
  | .bl a, .bl b => a == b
  | .int a, .int b => a == b
  | .str a, .str b => a == b
  | _, _ => false
/-- things that are equal, seen to the depth n; q: the own == -/
def deqI (q : D → D → Bool) : Nat → D → D → Bool
  | 0, a, b => flatD a b
  | n + 1, .lst xs, .lst ys => xs.length == ys.length && (xs.zip ys).all fun p => deqI q n p.1 p.2
  | n + 1, .tup xs, .tup ys => xs.length == ys.length && (xs.zip ys).all fun p => deqI q n p.1 p.2
  | _ + 1, .ins k xs, .ins j ys => q (.ins k xs) (.ins j ys)
  | _ + 1, a, b => flatD a b
/-- the own == of the class k says True -/
def ownQ (k : Nat) (m : Fn) (a b : D) : Bool := isIns k a && isIns k b && (match m [.sh a, .sh b] with
  | .ok r => (match r.1 with
    | .bl true => !r.2.1
    | _ => false)
  | _ => false)
section
variable {X : Cx} {c : Ct} {z : Zs} {W : WX} {k n lv : Nat} {f : Addr} {fd : FuncData} {ps : List Str} {m : Fn} {p pos : Pos} {a b : Expr} {ta tb : TE} {fa fb : FE} {q : D → D → Bool} {F H : Hp}
/-- they stand for things that are equal -/
def DDat (c : Ct) (r : D → D → Bool) : Eqv := fun x y H => ∃ F d1 d2, Ex F H ∧ Rp c F d1 x ∧ Rp c F d2 y ∧ r d1 d2 = true
theorem mon_dat {r : D → D → Bool} : Mon (DDat c r) := fun _ _ _ _ x ⟨F, d1, d2, h0, h1, h2, h3⟩ => ⟨F, d1, d2, fun a o e => x a o (h0 a o e), h1, h2, h3⟩
theorem flat_dat {x y : V} (h : DDat c flatD x y H) : DFlat x y H := by
  obtain ⟨F, d1, d2, h0, h1, h2, h3⟩ := h
  cases d1 <;> cases d2 <;> try cases h3
  · have e1 : x = .non := h1
    have e2 : y = .non := h2
    subst e1; subst e2
    exact ⟨rfl, rfl, rfl⟩
  · have e1 := beq_iff_eq.mp h3
    have e2 : x = .bl _ := h1
    have e3 : y = .bl _ := h2
    subst e1; subst e2; subst e3
    refine ⟨rfl, rfl, ?_⟩
    simp [eqV]
  · have e1 := beq_iff_eq.mp h3
    have e2 : x = .int _ := h1
    have e3 : y = .int _ := h2
    subst e1; subst e2; subst e3
    refine ⟨rfl, rfl, ?_⟩
    simp [eqV]
  · have e1 := beq_iff_eq.mp h3
    have e2 : x = .str _ := h1
    have e3 : y = .str _ := h2
    subst e1; subst e2; subst e3
    refine ⟨rfl, rfl, ?_⟩
    simp [eqV]
theorem prs_dat {r : D → D → Bool} {xs ys : List D} {us vs : List V} (x : Ex F H) (h1 : RpL c F xs us) (h2 : RpL c F ys vs) (hl : (xs.length == ys.length) = true) (ha : ((xs.zip ys).all fun p => r p.1 p.2) = true) : Prs (DDat c r) us vs H := by
  refine ⟨by rw [← h1.len, ← h2.len]; exact beq_iff_eq.mp hl, fun i u v g1 g2 => ?_⟩
  obtain ⟨d1, e1, r1⟩ := h1.getV g1
  obtain ⟨d2, e2, r2⟩ := h2.getV g2
  refine ⟨F, d1, d2, x, r1, r2, ?_⟩
  have := List.all_eq_true.mp ha (d1, d2) (List.mem_of_getElem? (i := i) (by rw [List.getElem?_zip_eq_some]; exact ⟨e1, e2⟩))
  exact this
/-- == to the depth n -/
theorem eqG_dat (hK : X.K = c.K) (ho : EqG X lv (DDat c q)) : ∀ n, EqG X (lv + n) (DDat c (deqI q n))
  | 0 => (eqG_flat.mono (Nat.zero_le _)).imp fun x y H h => flat_dat h
  | n + 1 => by
    have ih := eqG_dat hK ho n
    refine ((((eqG_list mon_dat ih).or (eqG_tup mon_dat ih)).or (ho.mono (m := lv + (n + 1)) (Nat.le_add_right _ _))).or (eqG_flat.mono (Nat.zero_le _))).imp fun x y H h => ?_
    obtain ⟨F, d1, d2, h0, h1, h2, h3⟩ := h
    by_cases e : ∃ xs ys, d1 = .lst xs ∧ d2 = .lst ys
    · obtain ⟨xs, ys, rfl, rfl⟩ := e
      obtain ⟨p1, us, rfl, a1, b1⟩ := h1
      obtain ⟨p2, vs, rfl, a2, b2⟩ := h2
      obtain ⟨g1, g2⟩ := Bool.and_eq_true_iff.mp h3
      exact .inl (.inl (.inl ⟨p1, p2, us, vs, rfl, rfl, h0 _ _ a1, h0 _ _ a2, prs_dat h0 b1 b2 g1 g2⟩))
    · by_cases e' : ∃ xs ys, d1 = .tup xs ∧ d2 = .tup ys
      · obtain ⟨xs, ys, rfl, rfl⟩ := e'
        obtain ⟨p1, us, rfl, a1, b1⟩ := h1
        obtain ⟨p2, vs, rfl, a2, b2⟩ := h2
        obtain ⟨g1, g2⟩ := Bool.and_eq_true_iff.mp h3
        exact .inl (.inl (.inr ⟨p1, p2, us, vs, rfl, rfl, hK ▸ ex_t h0 a1, hK ▸ ex_t h0 a2, prs_dat h0 b1 b2 g1 g2⟩))
      · by_cases e'' : ∃ i xs j ys, d1 = .ins i xs ∧ d2 = .ins j ys
        · obtain ⟨i, xs, j, ys, rfl, rfl⟩ := e''
          exact .inl (.inr ⟨F, _, _, h0, h1, h2, h3⟩)
        · refine .inr (flat_dat ⟨F, d1, d2, h0, h1, h2, ?_⟩)
          cases d1 <;> cases d2 <;> first
            | exact h3
            | exact absurd ⟨_, _, rfl, rfl⟩ e
            | exact absurd ⟨_, _, rfl, rfl⟩ e'
            | exact absurd ⟨_, _, _, _, rfl, rfl⟩ e''
theorem noBr {d1 d2 d : D} {i : Nat} (h : [B.sh d1, B.sh d2][i]? = some (.br d)) : False := by
  match i, h with
  | 0, h => cases h
  | 1, h => cases h
  | i + 2, h => simp at h
theorem eqG_own (hK : X.K = c.K) (w : OwnE c.K (c.cl k) f) (G : FnOk X.prog X.w X.K X.mg X.base (L2.CX X.prog X.w) lv f fd ps (spD c 2 m)) (hb : Binds X.K fd ps []) : EqG X lv (DDat c (ownQ k m)) := by
  have G' : FnOk X.prog X.w X.K X.mg X.base (L2.CX X.prog X.w) lv f fd ps (spEq fun a b H => DDat c (ownQ k m) (.ref a) (.ref b) H) := G.imp fun vs H Q E h => by
    obtain ⟨a, b, rfl, ⟨F, d1, d2, x, r1, r2, e⟩, hQ⟩ := h
    refine ⟨rfl, F, [.sh d1, .sh d2], x, ⟨rfl, fun i b' g => ?_, fun i j p w w' h1 => ?_⟩, ?_⟩
    · match i, g with
      | 0, g => cases g; exact ⟨_, rfl, r1⟩
      | 1, g => cases g; exact ⟨_, rfl, r2⟩
    · exact (noBr h1).elim
    · unfold ownQ at e
      obtain ⟨e1, e2⟩ := Bool.and_eq_true_iff.mp e
      split at e2
      · rename_i r hm
        split at e2
        · rename_i hr
          rw [hm]
          intro v H' F' y1 y2 kp _ dr
          rw [hr] at dr
          cases hf : r.2.1 with
          | true => rw [hf] at e2; cases e2
          | false =>
            rw [hf] at dr
            have dr : v = .bl true := dr
            subst dr
            exact hQ H' fun p o g => kp.keep p o g fun ⟨i, d, g1, _⟩ => noBr g1
        · cases e2
      · cases e2
  refine (eqG_ins (E := WE W0 []) G' (hK ▸ w.s) (hK ▸ w.fn) hb fun pins σ => passAt takes0 σ pins).imp fun x y H h => ?_
  obtain ⟨F, d1, d2, h0, h1, h2, h3⟩ := h
  obtain ⟨e1, e2⟩ := Bool.and_eq_true_iff.mp h3
  obtain ⟨e1, e3⟩ := Bool.and_eq_true_iff.mp e1
  obtain ⟨xs, rfl⟩ := isIns_eq e1
  obtain ⟨ys, rfl⟩ := isIns_eq e3
  obtain ⟨p1, dx, us, rfl, a1, b1⟩ := id h1
  obtain ⟨p2, dy, vs, rfl, a2, b2⟩ := id h2
  exact ⟨p1, p2, dx, dy, _, _, rfl, rfl, h0 _ _ a1, h0 _ _ a2, F, _, _, h0, h1, h2, h3⟩
/-! ### lists -/
/-- the two lists hold equal things -/
def DLs (c : Ct) (q : D → D → Bool) (n : Nat) : Eqv := DList (DDat c (deqI q n))
theorem ops_eqI (hK : X.K = c.K) (ho : EqG X lv (DDat c q)) (hr : Room (lv + n + 1) X.A) : OpR X (compareOp .Eq) (rEqG (DLs c q n)) := op_eqG (rcG_list mon_dat (eqG_dat hK ho n)) hr
def rNeG (D : Eqv) : R2 := fun x y H Q => D x y H ∧ ∀ H', Ext H H' → Q (.bl false) H'
theorem ops_neI (hK : X.K = c.K) (ho : EqG X lv (DDat c q)) (hr : Room (lv + n + 1) X.A) : OpR X (compareOp .NotEq) (rNeG (DLs c q n)) := by
  intro pins s σ H x y v u Q I rx ry hq
  obtain ⟨⟨p1, p2, us, vs, rfl, rfl, g1, g2, pr⟩, hq⟩ := hq
  cases rx
  cases ry
  have sb : Sub X (lv + n + 1) X.A := ⟨hr, rfl⟩
  show wpAny (model X.prog X.w) X.A (richCompare .NotEq (.ref p1) (.ref p2)) (EP X pins σ Q) X.xe s
  refine DLQ.rc_differ (N := us.length) hr.units0 (fun _ t => LoopI X pins σ H t) (fun i t l => ?_) (fun t l => ?_) ⟨H, I, Ext.rfl'⟩
  · obtain ⟨H1, I1, e1⟩ := id l
    obtain ⟨_, k1, n1, r1, m1⟩ := I1.hok p1 _ (e1 _ _ g1)
    obtain ⟨_, k2, n2, r2, m2⟩ := I1.hok p2 _ (e1 _ _ g2)
    exact ⟨k1.toArray, k2.toArray, n1, n2, m1, m2, by rw [List.size_toArray, ← r1.length], by rw [List.size_toArray, ← r2.length, ← pr.1], fun h1 h2 => turnG mon_dat (eqG_dat hK ho n) sb pr r1 r2 i h1 h2 t l⟩
  · obtain ⟨H1, I1, e1⟩ := l
    exact ⟨.bl false, H1, I1, rfl, hq H1 e1⟩
/-- == (neg: !=) of lists that are equal -/
def fEqI (q : D → D → Bool) (n : Nat) (neg : Bool) (fa fb : FE) : FE := fun e => (fa e).bind fun r => (fb r.2).bind fun s => Res.of ((lookT r.1.seal s.2).bind fun d1 => (lookT s.1 s.2).bind fun d2 => match d1, d2 with
  | .lst xs, .lst ys => if deqI q (n + 1) (.lst xs) (.lst ys) then some (T.vl (.bl (!neg)), s.2) else none
  | _, _ => none)
theorem sn_eqI {neg : Bool} {R : R2} (hR : ∀ x y H Q, DLs c q n x y H → (∀ H', Ext H H' → Q (.bl (!neg)) H') → R x y H Q) (ha : SndE c W ta fa) (hb : SndE c W tb fb) : SndE c W (tOp R ta tb) (fEqI q n neg fa fb) := fun z σ H F e Q I h => by
  unfold fEqI at h
  rw [Wp.bind] at h
  refine ha z σ H F e _ I (h.mono (fun r _ h v H1 F1 x1 I1 t1 => ?_) fun _ _ h => h)
  obtain ⟨F2, x2, I2, t2⟩ := t1.seal I1
  rw [Wp.bind] at h
  refine hb z σ H1 F2 _ _ I2 (h.mono (fun s _ h w H3 F3 x3 I3 t3 => ?_) fun _ _ h => h.mono (x1.trans x2))
  obtain ⟨a, ea, h⟩ := Wp.of h
  obtain ⟨d1, l1, ea⟩ := obind ea
  obtain ⟨d2, l2, ea⟩ := obind ea
  have k1 := (t2.keep (H' := H3) x3).view I3 l1
  have k2 := t3.view I3 l2
  split at ea <;> try cases ea
  split at ea
  · rename_i hd
    cases ea
    obtain ⟨p1, us, rfl, g1, b1⟩ := k1.lst I3.fh
    obtain ⟨p2, vs, rfl, g2, b2⟩ := k2.lst I3.fh
    obtain ⟨q1, q2⟩ := Bool.and_eq_true_iff.mp hd
    exact hR _ _ H3 Q ⟨p1, p2, us, vs, rfl, rfl, g1, g2, prs_dat I3.fh b1 b2 q1 q2⟩ fun H' x => h _ H' F3 ((x1.trans x2).trans x3) (I3.alloc x) rfl
  · cases ea
theorem de_eqI (hK : X.K = c.K) (ho : EqG X lv (DDat c q)) (hr : Room (lv + n + 1) X.A) (ha : DE X c W a ta fa) (hb : DE X c W b tb fb) (hm : behindInMarks .Eq b = false) :
    DE X c W (.Compare a [.Eq] [b] pos) (tOp (rEqG (DLs c q n)) ta tb) (fEqI q n false fa fb) := ⟨pe_cmpR (ops_eqI hK ho hr) ha.pe hb.pe hm, sn_eqI (fun _ _ _ _ h k => ⟨h, k⟩) ha.sn hb.sn⟩
theorem dt_eqI (hK : X.K = c.K) (ho : EqG X lv (DDat c q)) (hr : Room (lv + n + 1) X.A) (ha : DE X c W a ta fa) (hb : DE X c W b tb fb) (hm : behindInMarks .Eq b = false) :
    DT X c W (.Compare a [.Eq] [b] pos) (tTest (tOp (rEqG (DLs c q n)) ta tb)) (fB (fEqI q n false fa fb)) := ⟨pt_cmpR (ops_eqI hK ho hr) ha.pe hb.pe hm, sn_B (fun _ _ _ h => h) (sn_eqI (fun _ _ _ _ h k => ⟨h, k⟩) ha.sn hb.sn)⟩
theorem de_neI (hK : X.K = c.K) (ho : EqG X lv (DDat c q)) (hr : Room (lv + n + 1) X.A) (ha : DE X c W a ta fa) (hb : DE X c W b tb fb) (hm : behindInMarks .NotEq b = false) :
    DE X c W (.Compare a [.NotEq] [b] pos) (tOp (rNeG (DLs c q n)) ta tb) (fEqI q n true fa fb) := ⟨pe_cmpR (ops_neI hK ho hr) ha.pe hb.pe hm, sn_eqI (fun _ _ _ _ h k => ⟨h, k⟩) ha.sn hb.sn⟩
theorem dt_neI (hK : X.K = c.K) (ho : EqG X lv (DDat c q)) (hr : Room (lv + n + 1) X.A) (ha : DE X c W a ta fa) (hb : DE X c W b tb fb) (hm : behindInMarks .NotEq b = false) :
    DT X c W (.Compare a [.NotEq] [b] pos) (tTest (tOp (rNeG (DLs c q n)) ta tb)) (fB (fEqI q n true fa fb)) := ⟨pt_cmpR (ops_neI hK ho hr) ha.pe hb.pe hm, sn_B (fun _ _ _ h => h) (sn_eqI (fun _ _ _ _ h k => ⟨h, k⟩) ha.sn hb.sn)⟩
end
end DL

/-! DL, part ah: dicts. -/
namespace DL
open PySem PyProof.Rows L2 Evl
/-- the object of a dict of the kind t at p -/
def EntAt (c : Ct) (H : Hp) (t : Bool) (ks : List D) (ws vs : List V) (p : Addr) : Prop := (t = false ∧ ∃ kvs : List (Key × V), H p = some (.dK kvs) ∧ ks = kvs.map (fun x => keyD x.1) ∧ ws = kvs.map (fun x => kV x.1) ∧ vs = kvs.map (·.2)) ∨
  t = true ∧ ∃ xs : TEs, H p = some (tdO c.w p xs) ∧ nkOfL ks = some (xs.map (·.1)) ∧ ws = xs.map (fun x => V.ref x.2.1) ∧ vs = xs.map (·.2.2)
/-- an int or a text as a key -/
def atomK : D → Option Key
  | .int i => some (.inl i)
  | .str s => some (.inr s)
  | _ => none
/-- a tuple as a key -/
def tupK : D → Option NestedKey
  | .tup ds => (nkOf (.tup ds)).bind fun k => if k.depth ≤ 8 then some k else none
  | _ => none
/-- what the dict holds at the key k (none: k is no key of its kind) -/
def dLook (t : Bool) (ks ds : List D) (k : D) : Option (Option D) := if t then (tupK k).map fun q => ((ks.zip ds).find? fun e => decide (nkOf e.1 = some q)).map (·.2)
  else (atomK k).map fun q => ((ks.zip ds).find? fun e => decide (atomK e.1 = some q)).map (·.2)
section
variable {X : Cx} {c : Ct} {z : Zs} {W : WX} {F H : Hp} {σ : L2.St} {s : Shared} {pins : List (Addr × Obj)} {t : Bool} {ks ds : List D} {ws vs : List V} {p : Addr} {a b : Expr} {ta tb : TE} {fa fb : FE} {pos : Pos}
theorem View.dct {v : V} (x : Ex F H) (h : View c F H (.dct t ks ds) v) : ∃ p ws vs, v = .ref p ∧ EntAt c H t ks ws vs p ∧ RpL c F ks ws ∧ RpL c F ds vs := by
  rcases h with ⟨p, ws, vs, h1, h2, h3, h4⟩ | ⟨p, h1, _, ws, vs, h2, h3, h4⟩
  · refine ⟨p, ws, vs, h1, ?_, h3, h4⟩
    rcases h2 with ⟨g0, kvs, g1, g2⟩ | ⟨g0, xs, g1, g2⟩
    · exact .inl ⟨g0, kvs, x _ _ g1, g2⟩
    · exact .inr ⟨g0, xs, x _ _ g1, g2⟩
  · exact ⟨p, ws, vs, h1, h2, h3, h4⟩
/-! ### keys -/
mutual
theorem Rp.nk (I : Inv X pins σ H s) (hK : X.K = c.K) (x : Ex F H) : ∀ (d : D) (k : NestedKey) (v : V) (u : Value), nkOf d = some k → Rp c F d v → RelV v u → NestedIs s.heap k u
  | .non, _, _, _, h, r, q => by cases h; cases r; cases q; exact .none
  | .bl b, _, _, _, h, r, q => by cases h; cases r; cases q; exact .bool rfl
  | .int i, _, _, _, h, r, q => by cases h; cases r; obtain ⟨t, rfl⟩ := q; exact .int i t
  | .str i, _, _, _, h, r, q => by cases h; cases r; obtain ⟨t, rfl⟩ := q; exact .text i t
  | .tup ds, _, _, _, h, r, q => by
    obtain ⟨ks, h1, rfl⟩ := omap h
    obtain ⟨p, vs, rfl, h2, h3⟩ := r
    cases q
    obtain ⟨its, r, ⟨o, e1, e2, n, e3⟩, _⟩ := I.tuple (show SqT X.K H p vs from hK ▸ ex_t x h2)
    exact .tup e1 e2 e3 (by simpa using RpL.nk I hK x ds ks vs its h1 h3 r)
  | .lst _, _, _, _, h, _, _ => by cases h
  | .rol _, _, _, _, h, _, _ => by cases h
  | .ins _ _, _, _, _, h, _, _ => by cases h
  | .dct _ _ _, _, _, _, h, _, _ => by cases h
theorem RpL.nk (I : Inv X pins σ H s) (hK : X.K = c.K) (x : Ex F H) : ∀ (ds : List D) (ks : List NestedKey) (vs : List V) (us : List Value), nkOfL ds = some ks → RpL c F ds vs → Vals vs us → NestedAll s.heap ks us
  | [], _, _, _, h, r, q => by cases h; cases r; cases q; exact .nil
  | d :: ds, _, _, _, h, r, q => by
    obtain ⟨k, h1, h⟩ := obind h
    obtain ⟨ks, h2, rfl⟩ := omap h
    obtain ⟨v, vs, rfl, r1, r2⟩ := r
    cases q with
    | cons q1 q2 => exact .cons (Rp.nk I hK x d k v _ h1 r1 q1) (RpL.nk I hK x ds ks vs _ h2 r2 q2)
end
theorem atomK_keyD (k : Key) : atomK (keyD k) = some k := by cases k <;> rfl
theorem atomK_V {d : D} {k : Key} {v : V} (h : atomK d = some k) (r : Rp c F d v) : v = kV k := by
  cases d <;> try cases h
  · exact r
  · exact r
theorem tupK_of {d : D} {k : NestedKey} (h : tupK d = some k) : ∃ es, d = .tup es ∧ nkOf d = some k ∧ k.depth ≤ 8 := by
  cases d <;> try cases h
  obtain ⟨q, h1, h2⟩ := obind h
  split at h2
  · cases h2; exact ⟨_, rfl, h1, by assumption⟩
  · cases h2
/-- what a dict of ints and texts holds -/
theorem look_atom {k : Key} : ∀ {kvs : List (Key × V)} {ds : List D}, RpL c F ds (kvs.map (·.2)) →
    (((kvs.map fun x => keyD x.1).zip ds).find? (fun e => decide (atomK e.1 = some k)) = none → valV kvs k = none) ∧
    ∀ e, ((kvs.map fun x => keyD x.1).zip ds).find? (fun e => decide (atomK e.1 = some k)) = some e → ∃ v, valV kvs k = some v ∧ Rp c F e.2 v
  | [], _, _ => ⟨fun _ => rfl, fun e h => by simp at h⟩
  | p :: kvs, ds, h => by
    obtain ⟨d, ds, rfl, h1, h2⟩ : ∃ d es, ds = d :: es ∧ Rp c F d p.2 ∧ RpL c F es (kvs.map (·.2)) := by
      cases ds with
      | nil => cases h
      | cons d es => obtain ⟨v, r, e, g1, g2⟩ := h; cases e; exact ⟨d, es, rfl, g1, g2⟩
    obtain ⟨i1, i2⟩ := look_atom (k := k) h2
    rw [List.map_cons, List.zip_cons_cons, List.find?_cons]
    by_cases e : p.1 = k
    · subst e
      rw [show decide (atomK (keyD p.1, d).1 = some p.1) = true from decide_eq_true (atomK_keyD _)]
      exact ⟨fun q => (nomatch q), fun e q => by cases q; exact ⟨p.2, valV_pos rfl, h1⟩⟩
    · rw [show decide (atomK (keyD p.1, d).1 = some k) = false from decide_eq_false fun q => e (Option.some.inj ((atomK_keyD _).symm.trans q)), valV_neg e]
      exact ⟨i1, i2⟩
/-- .. whose keys are tuples -/
theorem look_tup {k : NestedKey} : ∀ {xs : TEs} {ys : List (NestedKey × Addr × Value)} {ks ds : List D}, nkOfL ks = some (xs.map (·.1)) → RpL c F ds (xs.map (·.2.2)) →
    Paired (fun (a : NestedKey × Addr × V) (b : NestedKey × Addr × Value) => a.1 = b.1 ∧ a.2.1 = b.2.1 ∧ RelV a.2.2 b.2.2) xs ys →
    ((ks.zip ds).find? (fun e => decide (nkOf e.1 = some k)) = none → atKey ys k = none) ∧
    ∀ e, (ks.zip ds).find? (fun e => decide (nkOf e.1 = some k)) = some e → ∃ p v, atKey ys k = some p ∧ Rp c F e.2 v ∧ RelV v p.2
  | [], _, ks, _, h, _, q => by
    cases q
    cases ks with
    | nil => exact ⟨fun _ => rfl, fun e h => by simp at h⟩
    | cons a l => obtain ⟨_, _, h⟩ := obind h; obtain ⟨_, _, h⟩ := omap h; cases h
  | x :: xs, _, ks, ds, h, g, q => by
    cases q with
    | @cons _ y _ ys q1 q2 =>
    cases ks with
    | nil => cases h
    | cons a l =>
      obtain ⟨k0, e1, h⟩ := obind h
      obtain ⟨r, e2, h⟩ := omap h
      cases h
      cases ds with
      | nil => cases g
      | cons d es =>
        obtain ⟨v, w, e, g1, g2⟩ := g
        cases e
        obtain ⟨i1, i2⟩ := look_tup (k := k) e2 g2 q2
        rw [List.zip_cons_cons, List.find?_cons]
        by_cases e : x.1 = k
        · subst e
          rw [show decide (nkOf (a, d).1 = some x.1) = true from decide_eq_true e1]
          refine ⟨fun q => (nomatch q), fun e q => ?_⟩
          cases q
          refine ⟨y.2, x.2.2, ?_, g1, q1.2.2⟩
          unfold atKey
          rw [List.find?_cons, show decide (y.1 = x.1) = true from decide_eq_true q1.1.symm]
          rfl
        · rw [show decide (nkOf (a, d).1 = some k) = false from decide_eq_false fun q => e (Option.some.inj (e1.symm.trans q))]
          have ey : atKey (y :: ys) k = atKey ys k := by
            unfold atKey
            rw [List.find?_cons, show decide (y.1 = k) = false from decide_eq_false fun q => e (q1.1.trans q)]
          rw [ey]
          exact ⟨i1, i2⟩
/-! ### d[k], k in d -/
/-- x is the dict, y the key -/
structure DRep (c : Ct) (F H : Hp) (t : Bool) (ks ds : List D) (kd : D) (x y : V) (p : Addr) (ws vs : List V) : Prop where
  ref : x = .ref p
  ent : EntAt c H t ks ws vs p
  keys : RpL c F ks ws
  vals : RpL c F ds vs
  key : Rp c F kd y
  ext : Ex F H
/-- a dict of tuples as the library has it -/
theorem ent_tup {xs : TEs} (I : Inv X pins σ H s) (hK : X.K = c.K) (hW : X.w = c.w) (x : Ex F H) (h : H p = some (tdO c.w p xs)) (hk : nkOfL ks = some (xs.map (·.1))) (r : RpL c F ks (xs.map fun x => V.ref x.2.1)) :
    ∃ ys : List (NestedKey × Addr × Value), Paired (fun (a : NestedKey × Addr × V) (b : NestedKey × Addr × Value) => a.1 = b.1 ∧ a.2.1 = b.2.1 ∧ RelV a.2.2 b.2.2) xs ys ∧ s.heap.DictOfH (nestedKind X.prog X.w) p ys ∧ xs.length ≤ sizeLine ∧ (p == sysModules) = false := by
  obtain ⟨⟨z1, z2, z3, ys, pr, o, es, ep, e1, e2, e3, e4, e5⟩, _, _⟩ := I.hok p _ h
  refine ⟨ys, pr, ⟨o, es, ep, e1, e2, e3, by rw [e4, ← hW]; rfl, ?_, e5⟩, z1, z2⟩
  have key : ∀ {xs : TEs} {ys : List (NestedKey × Addr × Value)} {ks : List D}, (∀ x ∈ xs, x.1.depth ≤ 8) → nkOfL ks = some (xs.map (·.1)) → RpL c F ks (xs.map fun x => V.ref x.2.1) →
      Paired (fun (a : NestedKey × Addr × V) (b : NestedKey × Addr × Value) => a.1 = b.1 ∧ a.2.1 = b.2.1 ∧ RelV a.2.2 b.2.2) xs ys → ∀ y ∈ ys, (nestedKind X.prog X.w).is s.heap y.1 y.2.1 := by
    intro xs ys ks z hk r pr
    induction pr generalizing ks with
    | nil => intro y hy; cases hy
    | @cons a b as bs q1 q2 ih =>
      cases ks with
      | nil => cases hk
      | cons d l =>
        obtain ⟨k0, g1, hk⟩ := obind hk
        obtain ⟨r0, g2, hk⟩ := omap hk
        cases hk
        obtain ⟨v, w, e, r1, r2⟩ := r
        cases e
        intro y hy
        rcases List.mem_cons.mp hy with e | hy
        · subst e
          exact ⟨by rw [← q1.1, ← q1.2.1]; exact Rp.nk I hK x d _ _ _ g1 r1 rfl, by rw [← q1.1]; exact z _ List.mem_cons_self⟩
        · exact ih (fun x hx => z x (List.mem_cons_of_mem _ hx)) g2 r2 y hy
  exact key z3 hk r pr
def rDGet (c : Ct) : R2 := fun x y H Q => ∃ F t ks ds kd d p ws vs, DRep c F H t ks ds kd x y p ws vs ∧ dLook t ks ds kd = some (some d) ∧ ∀ v, Rp c F d v → Q v H
def rDIn (c : Ct) (neg : Bool) : R2 := fun y x H Q => ∃ F t ks ds kd r p ws vs, DRep c F H t ks ds kd x y p ws vs ∧ dLook t ks ds kd = some r ∧ Q (.bl (r.isSome != neg)) H
theorem room8 {A : Around} (hu : A.units + 65 < cLine) : (nestedKind X.prog X.w).room A.in1 := by
  show A.in1.units + 8 < cLine
  have : A.in1.units = A.units + 1 := rfl
  omega
theorem omapL {α β : Type} {o : Option α} {f : α → β} {b : β} (h : o.map f = some b) : ∃ a, o = some a ∧ f a = b := omap h
theorem d_get {kd d : D} {x y : V} {v u : Value} {Q : VK} (hu : X.A.units + 65 < cLine) (hK : X.K = c.K) (hW : X.w = c.w) (I : Inv X pins σ H s) (rx : RelV x v) (ry : RelV y u) (R : DRep c F H t ks ds kd x y p ws vs) (l : dLook t ks ds kd = some (some d)) (q : ∀ v, Rp c F d v → Q v H) :
    s.TypeIs v "dict" ∧ wpAny (model X.prog X.w) X.A (getItem v u) (EP X pins σ Q) X.xe s := by
  obtain ⟨rfl, ent, hk, hv, hy, x⟩ := R
  cases rx
  unfold dLook at l
  rcases ent with ⟨rfl, kvs, e1, rfl, rfl, rfl⟩ | ⟨rfl, xs, e1, e2, rfl, rfl⟩
  · rw [if_neg (by decide)] at l
    obtain ⟨k, l1, l2⟩ := omapL l
    obtain ⟨e, l3, l4⟩ := omapL l2
    obtain ⟨w, g1, g2⟩ := (look_atom hv).2 e l3
    have G : DGet H p y (some w) := by rw [atomK_V l1 hy, ← g1]; exact .k e1
    refine ⟨dict_typeIs I G, d_getItem (by omega) I G ry fun w' s' I' rw' => ⟨w, H, I', rw', q w ?_⟩⟩
    rw [← l4]; exact g2
  · rw [if_pos rfl] at l
    obtain ⟨k, l1, l2⟩ := omapL l
    obtain ⟨e, l3, l4⟩ := omapL l2
    obtain ⟨es, rfl, n1, n2⟩ := tupK_of l1
    obtain ⟨ys, pr, dd, z1, z2⟩ := ent_tup I hK hW x e1 e2 hk
    obtain ⟨b, w, g1, g2, g3⟩ := (look_tup e2 hv pr).2 e l3
    obtain ⟨r, rs, rfl, _⟩ := id hy
    cases ry
    have kk := Rp.nk I hK x _ _ _ _ n1 hy (show RelV (.ref r) (.ref r) from rfl)
    refine ⟨let ⟨o, _, _, ho, h1, _⟩ := dd; ⟨o, ho, h1.1⟩, wpAny_getItem_heap (room8 hu) ⟨kk, n2⟩ dd g1 ⟨w, H, I.tok _, g3, q w ?_⟩⟩
    rw [← l4]; exact g2
theorem d_has {kd : D} {r : Option D} {x y : V} {v u : Value} {neg : Bool} {Q : VK} (hu : X.A.units + 65 < cLine) (hK : X.K = c.K) (hW : X.w = c.w) (I : Inv X pins σ H s) (rx : RelV x v) (ry : RelV y u) (R : DRep c F H t ks ds kd x y p ws vs) (l : dLook t ks ds kd = some r) (q : Q (.bl (r.isSome != neg)) H) :
    wpAny (model X.prog X.w) X.A (compareOp (if neg then .NotIn else .In) u v) (EP X pins σ Q) X.xe s := by
  obtain ⟨rfl, ent, hk, hv, hy, x⟩ := R
  cases rx
  unfold dLook at l
  rcases ent with ⟨rfl, kvs, e1, rfl, rfl, rfl⟩ | ⟨rfl, xs, e1, e2, rfl, rfl⟩
  · rw [if_neg (by decide)] at l
    obtain ⟨k, l1, l2⟩ := omapL l
    have hs : (valV kvs k).isSome = r.isSome := by
      cases hf : ((kvs.map fun x => keyD x.1).zip ds).find? (fun e => decide (atomK e.1 = some k)) with
      | none => rw [(look_atom hv).1 hf, ← l2, hf]; rfl
      | some e =>
        obtain ⟨w, g1, _⟩ := (look_atom hv).2 e hf
        rw [g1, ← l2, hf]; rfl
    have G : DGet H p y (valV kvs k) := by rw [atomK_V l1 hy]; exact .k e1
    cases neg with
    | false => exact d_in (by omega) I G ry fun s' I' => ⟨.bl r.isSome, H, I', by rw [hs]; rfl, by simpa using q⟩
    | true => exact d_notIn (by omega) I G ry fun s' I' => ⟨.bl (!r.isSome), H, I', by rw [hs]; rfl, by simpa using q⟩
  · rw [if_pos rfl] at l
    obtain ⟨k, l1, l2⟩ := omapL l
    obtain ⟨es, rfl, n1, n2⟩ := tupK_of l1
    obtain ⟨ys, pr, dd, z1, z2⟩ := ent_tup I hK hW x e1 e2 hk
    have hs : (atKey ys k).isSome = r.isSome := by
      cases hf : (ks.zip ds).find? (fun e => decide (nkOf e.1 = some k)) with
      | none => rw [(look_tup e2 hv pr).1 hf, ← l2, hf]; rfl
      | some e =>
        obtain ⟨b, w, g1, _⟩ := (look_tup e2 hv pr).2 e hf
        rw [g1, ← l2, hf]; rfl
    obtain ⟨a, rs, rfl, _⟩ := id hy
    cases ry
    have kk := Rp.nk I hK x _ _ _ _ n1 hy (show RelV (.ref a) (.ref a) from rfl)
    cases neg with
    | false => exact wpAny_in_heap (room8 hu) ⟨kk, n2⟩ z2 dd ⟨.bl r.isSome, H, I.tok _, by rw [hs]; rfl, by simpa using q⟩
    | true => exact wpAny_notIn_heap (room8 hu) ⟨kk, n2⟩ z2 dd ⟨.bl (!r.isSome), H, I.tok _, by rw [hs]; rfl, by simpa using q⟩
theorem op_inD (hu : X.A.units + 65 < cLine) (hK : X.K = c.K) (hW : X.w = c.w) : OpR X (compareOp .In) (rDIn c false) := fun pins s σ H x y v u Q I rx ry ⟨F, t, ks, ds, kd, r, p, ws, vs, R, l, q⟩ => d_has (neg := false) hu hK hW I ry rx R l q
theorem op_niD (hu : X.A.units + 65 < cLine) (hK : X.K = c.K) (hW : X.w = c.w) : OpR X (compareOp .NotIn) (rDIn c true) := fun pins s σ H x y v u Q I rx ry ⟨F, t, ks, ds, kd, r, p, ws, vs, R, l, q⟩ => d_has (neg := true) hu hK hW I ry rx R l q
def opDGet (a b : D) : Option RV := match a with
  | .dct t ks ds => (dLook t ks ds b).bind fun r => r.map .fl
  | _ => none
def opInD (a b : D) : Option RV := match b with
  | .dct t ks ds => (dLook t ks ds a).map fun r => .fl (.bl r.isSome)
  | _ => none
def opNiD (a b : D) : Option RV := match b with
  | .dct t ks ds => (dLook t ks ds a).map fun r => .fl (.bl (!r.isSome))
  | _ => none
/-- a key is shared -/
theorem look_sh {kd : D} {r : Option D} {v : V} (h : dLook t ks ds kd = some r) (y : View c F H kd v) : Rp c F kd v := by
  rcases y with y | ⟨q, _, y⟩
  · exact y
  · unfold dLook at h
    split at h
    · obtain ⟨k, l1, _⟩ := omapL h
      obtain ⟨es, rfl, _⟩ := tupK_of l1
      exact y.2.elim
    · obtain ⟨k, l1, _⟩ := omapL h
      cases kd <;> first | exact y.2.elim | cases l1
theorem ok_dget : R2Ok c (rDGet c) opDGet := by
  intro F H d1 d2 v1 v2 rv Q x k1 k2 l q
  cases d1 <;> try cases l
  obtain ⟨r, l1, l2⟩ := obind l
  obtain ⟨d, rfl, rfl⟩ := omapL l2
  obtain ⟨p, ws, vs, rfl, h1, h2, h3⟩ := k1.dct x
  exact ⟨F, _, _, _, _, d, p, ws, vs, ⟨rfl, h1, h2, h3, look_sh l1 k2, x⟩, l1, q⟩
theorem ok_inD : R2Ok c (rDIn c false) opInD := by
  intro F H d1 d2 v1 v2 rv Q x k1 k2 l q
  cases d2 <;> try cases l
  obtain ⟨r, l1, rfl⟩ := omapL l
  obtain ⟨p, ws, vs, rfl, h1, h2, h3⟩ := k2.dct x
  exact ⟨F, _, _, _, _, r, p, ws, vs, ⟨rfl, h1, h2, h3, look_sh l1 k1, x⟩, l1, by simpa using q _ rfl⟩
theorem ok_niD : R2Ok c (rDIn c true) opNiD := by
  intro F H d1 d2 v1 v2 rv Q x k1 k2 l q
  cases d2 <;> try cases l
  obtain ⟨r, l1, rfl⟩ := omapL l
  obtain ⟨p, ws, vs, rfl, h1, h2, h3⟩ := k2.dct x
  exact ⟨F, _, _, _, _, r, p, ws, vs, ⟨rfl, h1, h2, h3, look_sh l1 k1, x⟩, l1, by simpa using q _ rfl⟩
/-- d[k] -/
theorem de_dget (hu : X.A.units + 65 < cLine) (hK : X.K = c.K) (hW : X.w = c.w) (ha : DE X c W a ta fa) (hb : DE X c W b tb fb) (hs : NoSl b) : DE X c W (.Subscript a b pos) (tOp (rDGet c) ta tb) (fOp2 opDGet fa fb) :=
  ⟨⟨fun pins s σ H Q I h => subD_of PySem.F.slot_dict_getitem.lookup hs (thn (ha.pe.run pins s σ H _ I h) fun u s1 ⟨x, H1, I1, rx, q1⟩ => thn (hb.pe.run pins s1 σ H1 _ I1 q1) fun iv s2 ⟨y, H2, I2, ry, F, t, ks, ds, kd, d, p, ws, vs, R, l, q⟩ => d_get hu hK hW I2 rx ry R l q)⟩,
    sn_op2 ok_dget ha.sn hb.sn⟩
/-! ### {k: v, ..} -/
def unfl : List V → List (V × V)
  | x :: y :: r => (x, y) :: unfl r
  | _ => []
def chainT : List (TE × TE) → TA
  | [] => tNil
  | p :: r => tCons p.1 (tCons p.2 (chainT r))
theorem pairs_eq : ∀ (trs : List (TE × TE)) (σ : L2.St) (H : Hp) (R : List (V × V) → Hp → Prop), tPairs trs σ H R = chainT trs σ H fun vs H' => R (unfl vs) H'
  | [], _, _, _ => rfl
  | p :: r, σ, H, R => by
    show p.1 σ H (fun x H1 => p.2 σ H1 fun y H2 => tPairs r σ H2 fun ps H3 => R ((x, y) :: ps) H3) = p.1 σ H (fun x H1 => p.2 σ H1 fun y H2 => chainT r σ H2 fun vs H3 => R ((x, y) :: unfl vs) H3)
    simp only [pairs_eq r]
/-- the object that was put aside is another one now -/
theorem I2.unhideTo {e : DEnv} {o o' : HO} (I : I2 c (hideZ z p o) σ H F e) (h0 : z.H0 p = none) (hF : z.F0 p = none) : I2 c z σ (upd H p o') F e ∧ H p = some o ∧ F p = none ∧ ∀ i, ¬ RootAt σ e i p := by
  obtain ⟨J, hp, hF', nr⟩ := I.unhide h0 hF
  have off : ∀ {d : D} {q : Addr}, q ≠ p → Own c F H d q → Own c F (upd H p o') d q := fun ne w => w.mono (Ex.refl F) w.1 fun o h => by rw [upd_ne ne]; exact h
  refine ⟨⟨J.len, J.f0, fun a u h => ?_, fun a u h hb => ?_, fun i b h => ?_, J.dist, fun a h => ?_, J.nf, J.brv⟩, hp, hF', nr⟩
  · have ne : a ≠ p := fun q => by rw [q, hF'] at h; cases h
    rw [upd_ne ne]; exact J.fh a u h
  · have ne : a ≠ p := fun q => by rw [q, h0] at h; cases h
    rw [upd_ne ne]; exact J.keep a u h hb
  · obtain ⟨v, hv, r⟩ := J.slot i b h
    refine ⟨v, hv, ?_⟩
    cases b with
    | sh d => exact r
    | ow d =>
      obtain ⟨q, rfl, w', h1⟩ := r
      exact ⟨q, rfl, off (fun e => nr i ⟨_, h, rfl, e ▸ hv⟩) w', h1⟩
    | br d =>
      obtain ⟨q, rfl, w', hB⟩ := r
      exact ⟨q, rfl, off (fun e => nr i ⟨_, h, rfl, e ▸ hv⟩) w', hB⟩
    | ex x => exact r
  · by_cases q : a = p
    · subst q; exact ⟨o', upd_same⟩
    · obtain ⟨u, hu⟩ := J.bo a h; exact ⟨u, by rw [upd_ne q]; exact hu⟩
/-- the pairs of a display -/
def pairsA : List D → Option (List Key × List D)
  | [] => some ([], [])
  | k :: v :: r => (atomK k).bind fun q => (pairsA r).map fun u => (q :: u.1, v :: u.2)
  | _ => none
theorem pairsA_V : ∀ {ds : List D} {vs : List V} {ks : List Key} {es : List D}, RpL c F ds vs → pairsA ds = some (ks, es) → ∃ kvs : List (Key × V), unfl vs = kvs.map (fun x => (kV x.1, x.2)) ∧ kvs.map (·.1) = ks ∧ RpL c F es (kvs.map (·.2))
  | [], _, _, _, h, l => by cases h; cases l; exact ⟨[], rfl, rfl, rfl⟩
  | [_], _, _, _, _, l => by cases l
  | k :: v :: r, _, _, _, ⟨a, w, e1, r1, b, w', e2, r2, r3⟩, l => by
    subst e1; subst e2
    obtain ⟨q, l1, l⟩ := obind l
    obtain ⟨u, l2, l⟩ := omapL l
    obtain ⟨ks, es⟩ := u
    cases l
    obtain ⟨kvs, h1, h2, h3⟩ := pairsA_V r3 l2
    refine ⟨(q, b) :: kvs, ?_, by rw [List.map_cons, h2], ⟨b, _, rfl, r2, h3⟩⟩
    show (a, b) :: unfl w' = _
    rw [h1, List.map_cons, atomK_V l1 r1]
theorem merge_new : ∀ {kvs acc : List (Key × V)}, (acc.map (·.1) ++ kvs.map (·.1)).Nodup → mergeK acc kvs = acc ++ kvs
  | [], acc, _ => by rw [List.append_nil]; rfl
  | p :: r, acc, h => by
    have h1 : (acc.any fun kv => decide (kv.1 = p.1)) = false := by
      rw [List.any_eq_false]
      intro x hx
      rw [decide_eq_true_eq]
      intro e
      have := (List.nodup_append.mp h).2.2 x.1 (List.mem_map.mpr ⟨x, hx, rfl⟩) p.1 (by rw [List.map_cons]; exact List.mem_cons_self)
      exact this e
    show mergeK (putK acc p.1 p.2) r = _
    have e : putK acc p.1 p.2 = acc ++ [(p.1, p.2)] := by
      unfold putK
      rw [if_neg (by rw [h1]; decide)]
    rw [e, merge_new (by simpa using h), List.append_assoc]
    rfl
def fDisp (fr : FA) : FE := fun e => (fr e).bind fun r => Res.of ((escs r.1 r.2).bind fun q => (pairsA q.1).bind fun u => if decide u.1.Nodup && decide (u.1.length ≤ 15) then some (T.nw (.dct false (u.1.map keyD) u.2), q.2) else none)
theorem sn_disp {trs : List (TE × TE)} {fr : FA} (ha : SndA c W (chainT trs) fr) : SndE c W (tDisp trs) (fDisp fr) := fun z σ H F e Q I h => by
  intro p hp
  rw [pairs_eq]
  have hF : F p = none := by
    cases q : F p with
    | none => rfl
    | some u => have := I.fh _ _ q; rw [hp] at this; cases this
  have h0 := I.fresh0 hp
  have hF0 : z.F0 p = none := by
    cases q : z.F0 p with
    | none => rfl
    | some u => have := I.f0 _ _ q; rw [hF] at this; cases this
  have I1 := I.alloc (Ex.new (o := .dK []) hp)
  unfold fDisp at h
  rw [Wp.bind] at h
  refine ha (hideZ z p (.dK [])) σ _ F e _ (I1.hide upd_same hF fun i => I.noroot hp i) (h.mono (fun r _ h vs H1 F1 x1 K1 t1 => ?_) fun xv e' g cls dd H' F' x' K r => g cls dd H' F' x' (K.unhide h0 hF0).1 r)
  obtain ⟨o, ea, h⟩ := Wp.of h
  obtain ⟨⟨ds, e1⟩, l1, ea⟩ := obind ea
  obtain ⟨⟨ks, es⟩, l2, ea⟩ := obind ea
  split at ea
  · rename_i hk
    cases ea
    obtain ⟨hk1, hk2⟩ := Bool.and_eq_true_iff.mp hk
    obtain ⟨G, x2, J, rr⟩ := t1.escs K1 l1
    obtain ⟨kvs, g1, g2, g3⟩ := pairsA_V rr l2
    obtain ⟨J0, hp1, hG, nr⟩ := J.unhideTo (o' := .dK kvs) h0 hF0
    have em : mergeK [] kvs = kvs := merge_new (by simpa [g2] using of_decide_eq_true hk1)
    refine ⟨hp1, kvs, g1, by have := of_decide_eq_true hk2; rw [← g2, List.length_map] at this; exact this, ?_⟩
    rw [em]
    exact h _ _ G (x1.trans x2) J0 ⟨p, rfl, ⟨hG, kvs.map (fun x => kV x.1), kvs.map (·.2), .inl ⟨rfl, kvs, upd_same, by rw [← g2, List.map_map]; rfl, rfl, rfl⟩, by
      have : ∀ {ks : List Key}, RpL c G (ks.map keyD) (ks.map kV) := by
        intro ks
        induction ks with
        | nil => exact rfl
        | cons k r ih => exact ⟨kV k, _, rfl, by cases k <;> exact rfl, ih⟩
      have h2 := this (ks := ks)
      rw [← g2] at h2 ⊢
      rw [List.map_map, List.map_map] at h2
      rw [List.map_map]
      exact h2, g3⟩, h0, nr⟩
  · cases ea
theorem sn_consA {tr : TA} {fr : FA} (ha : SndE c W ta fa) (hr : SndA c W tr fr) : SndA c W (tCons ta tr) (fA1 fa fr) := fun z σ H F e Q I h => by
  unfold fA1 at h
  rw [Wp.bind] at h
  refine ha z σ H F e _ I (h.mono (fun r _ h v H1 F1 x1 I1 t1 => ?_) fun _ _ h => h)
  obtain ⟨F2, x2, I2, t2⟩ := t1.seal I1
  rw [Wp.bind] at h
  refine hr z σ H1 F2 _ _ I2 (h.mono (fun q _ h vs H3 F3 x3 I3 t3 => ?_) fun _ _ h => h.mono (x1.trans x2))
  exact h (v :: vs) H3 F3 ((x1.trans x2).trans x3) I3 ⟨v, vs, rfl, T.seal_seal _, t2.keep x3, t3⟩
structure DPs (X : Cx) (c : Ct) (W : WX) (pos : Pos) (keys : List (Option Expr)) (values : List Expr) (trs : List (TE × TE)) (fr : FA) : Prop where
  pps : PPs X pos keys values trs
  sn : SndA c W (chainT trs) fr
theorem dps_nil : DPs X c W pos [] [] [] fA0 := ⟨pps_nil, (da_nil (X := X)).sn⟩
theorem dps_cons {keys : List (Option Expr)} {values : List Expr} {trs : List (TE × TE)} {fr : FA} (hk : DE X c W a ta fa) (hv : DE X c W b tb fb) (r : DPs X c W pos keys values trs fr) : DPs X c W pos (some a :: keys) (b :: values) ((ta, tb) :: trs) (fA1 fa (fA1 fb fr)) :=
  ⟨pps_cons hk.pe hv.pe r.pps, sn_consA hk.sn (sn_consA hv.sn r.sn)⟩
theorem de_disp {keys : List (Option Expr)} {values : List Expr} {trs : List (TE × TE)} {fr : FA} (h : DPs X c W pos keys values trs fr) (h1 : keys.all (·.isSome) = true := by rfl) (h2 : keys.length = values.length := by rfl) (h3 : keys ≠ [] := by simp) (h4 : keys.length ≤ 15 := by decide) :
    DE X c W (.Dict keys values pos) (tDisp trs) (fDisp fr) := ⟨pe_disp h.pps h1 h2 h3 h4, sn_disp h.sn⟩
end
end DL

/-! DL, part ai: {} and d[k] = v. -/
namespace DL
open PySem PyProof.Rows L2 Evl
abbrev TPair (xs : TEs) (ys : List (NestedKey × Addr × Value)) : Prop := Paired (fun (a : NestedKey × Addr × V) (b : NestedKey × Addr × Value) => a.1 = b.1 ∧ a.2.1 = b.2.1 ∧ RelV a.2.2 b.2.2) xs ys
theorem td_ok {P : Program} {w : World} {H : Hp} {h : Heap} {p : Addr} {xs : TEs} {ys : List (NestedKey × Addr × Value)} {o : Obj} {es ep} (z : xs.length ≤ sizeLine) (hd : (p == sysModules) = false) (hdep : ∀ x ∈ xs, x.1.depth ≤ 8) (pr : TPair xs ys)
    (e1 : h.get? p = some o) (e2 : o.ExactDict) (e3 : o.data = .dict es ep) (e4 : es.toList = ys.map (fun x => (⟨x.1.hash w, .ref x.2.1, x.2.2⟩ : DictEntry))) (e5 : (ys.map (·.1)).Nodup) : ObjOk P w H h p (tdO w p xs) :=
  ⟨⟨z, hd, hdep, ys, pr, o, es, ep, e1, e2, e3, e4, e5⟩, ⟨o, e1⟩, fun h1 h2 ⟨a1, a2, a3, zs, a4, o', es', ep', g1, g2⟩ k => ⟨a1, a2, a3, zs, a4, o', es', ep', k _ g1, g2⟩⟩
def tDNewX (w : World) : TE := fun _ H Q => ∀ p, H p = none → Q (.ref p) (upd H p (tdO w p []))
/-- {} -/
def fD0 (t : Bool) : FE := fun e => .ok (.nw (.dct t [] []), e)
section
variable {X : Cx} {c : Ct} {z : Zs} {W : WX} {F H : Hp} {σ : L2.St} {s : Shared} {pins : List (Addr × Obj)} {t : Bool} {ks ds : List D} {ws vs : List V} {p : Addr} {a b : Expr} {ta tb : TE} {fa fb : FE} {pos : Pos} {e : DEnv}
theorem pe_dnewX : PE X (.Dict [] [] pos) (tDNewX X.w) := ⟨fun pins s σ H Q I h =>
  wpAny_Dict_empty ⟨.ref s.heap.objs.size, _, I.laid (a := s.heap.objs.size) (o := tdO X.w s.heap.objs.size []) (t' := s.toks) (fun _ _ q => Heap.get?_push_of_some _ q) (Nat.le_refl _)
    (td_ok (ys := []) (Nat.zero_le _) (beq_eq_false_iff_ne.mpr (Ne.symm (Nat.ne_of_lt I.big))) (fun x hx => by cases hx) .nil (Heap.get?_push_size _ rfl) ⟨rfl, rfl, rfl⟩ rfl rfl List.nodup_nil), rfl, h _ (I.hok.fresh (Nat.le_refl _))⟩⟩
theorem sn_d0K : SndE c W tDNewK (fD0 false) := fun z σ H F e Q I h p hp =>
  h _ _ F (Ex.refl F) (I.alloc (Ex.new (o := .dK []) hp)) ⟨p, rfl, ⟨fresh_back I.fh hp, [], [], .inl ⟨rfl, [], upd_same, rfl, rfl, rfl⟩, rfl, rfl⟩, I.fresh0 hp, fun i => I.noroot hp i⟩
theorem sn_d0X : SndE c W (tDNewX c.w) (fD0 true) := fun z σ H F e Q I h p hp =>
  h _ _ F (Ex.refl F) (I.alloc (Ex.new (o := tdO c.w p []) hp)) ⟨p, rfl, ⟨fresh_back I.fh hp, [], [], .inr ⟨rfl, [], upd_same, rfl, rfl, rfl⟩, rfl, rfl⟩, I.fresh0 hp, fun i => I.noroot hp i⟩
theorem de_d0K : DE X c W (.Dict [] [] pos) tDNewK (fD0 false) := ⟨pe_dnewK, sn_d0K⟩
theorem de_d0X (hW : X.w = c.w) : DE X c W (.Dict [] [] pos) (tDNewX c.w) (fD0 true) := ⟨hW ▸ pe_dnewX, sn_d0X⟩
/-! ### d[k] = v -/
def setAt (p : D → Bool) (d : D) : List D → List D → List D
  | k :: ks, x :: xs => (if p k then d else x) :: setAt p d ks xs
  | _, xs => xs
def dPutP (p : D → Bool) (ks ds : List D) (k d : D) : List D × List D := if ks.any p then (ks, setAt p d ks ds) else (ks ++ [k], ds ++ [d])
/-- the keys and values behind d[k] = v -/
def dPut (t : Bool) (ks ds : List D) (k d : D) : Option (List D × List D) := if t then (tupK k).bind fun q => if ks.length < lim then some (dPutP (fun x => decide (nkOf x = some q)) ks ds k d) else none
  else (atomK k).bind fun q => if ks.length < lim then some (dPutP (fun x => decide (atomK x = some q)) ks ds (keyD q) d) else none
theorem put_sh {d kd : D} {r : List D × List D} {v : V} (h : dPut t ks ds kd d = some r) (y : View c F H kd v) : Rp c F kd v := by
  rcases y with y | ⟨q, _, y⟩
  · exact y
  · unfold dPut at h
    split at h
    · obtain ⟨k, l1, _⟩ := obind h
      obtain ⟨es, rfl, _⟩ := tupK_of l1
      exact y.2.elim
    · obtain ⟨k, l1, _⟩ := obind h
      cases kd <;> first | exact y.2.elim | cases l1
theorem set_atom {k : Key} {d : D} {v : V} (r : Rp c F d v) : ∀ {kvs : List (Key × V)} {ds : List D}, RpL c F ds (kvs.map (·.2)) →
    RpL c F (setAt (fun x => decide (atomK x = some k)) d (kvs.map fun x => keyD x.1) ds) ((kvs.map fun kv => if kv.1 = k then (kv.1, v) else kv).map (·.2))
  | [], [], _ => rfl
  | [], _ :: _, h => by obtain ⟨_, _, h, _⟩ := h; cases h
  | x :: kvs, [], h => by cases h
  | x :: kvs, d0 :: ds, ⟨v0, l, e, h1, h2⟩ => by
    cases e
    have ih := set_atom (k := k) r (kvs := kvs) h2
    show RpL c F ((if decide (atomK (keyD x.1) = some k) = true then d else d0) :: _) _
    rw [List.map_cons, List.map_cons]
    refine ⟨_, _, rfl, ?_, ih⟩
    by_cases e : x.1 = k
    · rw [if_pos (decide_eq_true ((atomK_keyD _).trans (congrArg some e))), if_pos e]; exact r
    · rw [if_neg (by rw [decide_eq_true_eq, atomK_keyD]; exact fun z => e (Option.some.inj z)), if_neg e]; exact h1
theorem any_atom {k : Key} (kvs : List (Key × V)) : ((kvs.map fun x => keyD x.1).any fun x => decide (atomK x = some k)) = kvs.any fun kv => decide (kv.1 = k) := by
  rw [List.any_map]
  congr 1
  funext x
  show decide (atomK (keyD x.1) = some k) = _
  rw [atomK_keyD]
  simp
theorem put_atom {k : Key} {d : D} {v : V} {kvs : List (Key × V)} {ds : List D} (r : Rp c F d v) (h : RpL c F ds (kvs.map (·.2))) :
    (dPutP (fun x => decide (atomK x = some k)) (kvs.map fun x => keyD x.1) ds (keyD k) d).1 = (putK kvs k v).map (fun x => keyD x.1) ∧
    RpL c F (dPutP (fun x => decide (atomK x = some k)) (kvs.map fun x => keyD x.1) ds (keyD k) d).2 ((putK kvs k v).map (·.2)) := by
  unfold dPutP putK
  rw [any_atom]
  split
  · refine ⟨?_, set_atom r h⟩
    rw [List.map_map]
    apply List.map_congr_left
    intro x _
    show _ = keyD (if x.1 = k then (x.1, v) else x).1
    split <;> rfl
  · refine ⟨by rw [List.map_append]; rfl, ?_⟩
    rw [List.map_append]
    exact h.app (RpL.one r)
theorem keys_atom : ∀ {ks : List Key}, RpL c F (ks.map keyD) (ks.map kV)
  | [] => rfl
  | k :: r => ⟨kV k, _, rfl, by cases k <;> exact rfl, keys_atom⟩
def putT (xs : TEs) (k : NestedKey) (b : Addr) (v : V) : TEs := if (xs.any fun x => decide (x.1 = k)) then xs.map (fun x => if x.1 = k then (x.1, x.2.1, v) else x) else xs ++ [(k, b, v)]
theorem any_tup {k : NestedKey} : ∀ {xs : TEs} {ks : List D}, nkOfL ks = some (xs.map (·.1)) → (ks.any fun x => decide (nkOf x = some k)) = xs.any fun x => decide (x.1 = k)
  | [], [], _ => rfl
  | [], a :: l, h => by obtain ⟨_, _, h⟩ := obind h; obtain ⟨_, _, h⟩ := omap h; cases h
  | x :: xs, [], h => by cases h
  | x :: xs, a :: l, h => by
    obtain ⟨k0, e1, h⟩ := obind h
    obtain ⟨r, e2, h⟩ := omap h
    cases h
    rw [List.any_cons, List.any_cons, any_tup e2, e1]
    simp
theorem set_tup {k : NestedKey} {d : D} {v : V} (r : Rp c F d v) : ∀ {xs : TEs} {ks ds : List D}, nkOfL ks = some (xs.map (·.1)) → RpL c F ds (xs.map (·.2.2)) →
    RpL c F (setAt (fun x => decide (nkOf x = some k)) d ks ds) ((xs.map fun x => if x.1 = k then (x.1, x.2.1, v) else x).map (·.2.2))
  | [], [], [], _, _ => rfl
  | [], [], _ :: _, _, h => by obtain ⟨_, _, h, _⟩ := h; cases h
  | [], a :: l, _, h, _ => by obtain ⟨_, _, h⟩ := obind h; obtain ⟨_, _, h⟩ := omap h; cases h
  | x :: xs, [], _, h, _ => by cases h
  | x :: xs, a :: l, [], _, h => by cases h
  | x :: xs, a :: l, d0 :: ds, h, ⟨v0, w, e, h1, h2⟩ => by
    obtain ⟨k0, e1, h⟩ := obind h
    obtain ⟨q, e2, h⟩ := omap h
    cases h; cases e
    have ih := set_tup (k := k) r e2 h2
    show RpL c F ((if decide (nkOf a = some k) = true then d else d0) :: _) _
    rw [List.map_cons, List.map_cons]
    refine ⟨_, _, rfl, ?_, ih⟩
    by_cases e : x.1 = k
    · rw [if_pos (decide_eq_true (e1.trans (congrArg some e))), if_pos e]; exact r
    · rw [if_neg (by rw [decide_eq_true_eq, e1]; exact fun z => e (Option.some.inj z)), if_neg e]; exact h1
theorem put_keys {xs : TEs} {k : NestedKey} {b : Addr} {v : V} {d0 kd : D} {ks ds : List D} (hk : nkOf kd = some k) (h : nkOfL ks = some (xs.map (·.1))) :
    nkOfL (dPutP (fun x => decide (nkOf x = some k)) ks ds kd d0).1 = some ((putT xs k b v).map (·.1)) := by
  unfold dPutP putT
  rw [any_tup h]
  split
  · show nkOfL ks = _
    rw [h, List.map_map]
    congr 1
    apply List.map_congr_left
    intro x _
    show x.1 = (if x.1 = k then (x.1, x.2.1, v) else x).1
    split <;> rfl
  · show nkOfL (ks ++ [kd]) = _
    rw [List.map_append]
    have : ∀ {ks : List D} {l : List NestedKey}, nkOfL ks = some l → nkOfL (ks ++ [kd]) = some (l ++ [k]) := by
      intro ks
      induction ks with
      | nil => intro l h; cases h; show (nkOf kd).bind _ = _; rw [hk]; rfl
      | cons a ks ih =>
        intro l h
        obtain ⟨k0, e1, h⟩ := obind h
        obtain ⟨q, e2, h⟩ := omap h
        cases h
        show (nkOf a).bind (fun k => (nkOfL (ks ++ [kd])).map fun r => k :: r) = _
        rw [e1, ih e2]; rfl
    exact this h
theorem put_tup {xs : TEs} {k : NestedKey} {b : Addr} {v : V} {d kd : D} {ks ds : List D} (r : Rp c F d v) (h : nkOfL ks = some (xs.map (·.1))) (g : RpL c F ds (xs.map (·.2.2))) :
    RpL c F (dPutP (fun x => decide (nkOf x = some k)) ks ds kd d).2 ((putT xs k b v).map (·.2.2)) := by
  unfold dPutP putT
  rw [any_tup h]
  split
  · exact set_tup r h g
  · rw [List.map_append]; exact g.app (RpL.one r)
theorem put_addr {xs : TEs} {k : NestedKey} {b : Addr} {v : V} {d kd : D} {ks ds : List D} (hb : Rp c F kd (.ref b)) (h : nkOfL ks = some (xs.map (·.1))) (g : RpL c F ks (xs.map fun x => V.ref x.2.1)) :
    RpL c F (dPutP (fun x => decide (nkOf x = some k)) ks ds kd d).1 ((putT xs k b v).map fun x => V.ref x.2.1) := by
  unfold dPutP putT
  rw [any_tup h]
  split
  · have : (xs.map fun x => if x.1 = k then (x.1, x.2.1, v) else x).map (fun x => V.ref x.2.1) = xs.map fun x => V.ref x.2.1 := by
      rw [List.map_map]
      apply List.map_congr_left
      intro x _
      show V.ref (if x.1 = k then (x.1, x.2.1, v) else x).2.1 = _
      split <;> rfl
    rw [this]; exact g
  · rw [List.map_append]; exact g.app (RpL.one hb)
theorem any_pair {k : NestedKey} {xs : TEs} {ys : List (NestedKey × Addr × Value)} (pr : TPair xs ys) : (xs.any fun x => decide (x.1 = k)) = (atKey ys k).isSome := by
  induction pr with
  | nil => rfl
  | @cons x y xs ys q1 q2 ih =>
    unfold atKey
    rw [List.any_cons, List.find?_cons, q1.1]
    by_cases e : y.1 = k
    · rw [decide_eq_true e]; rfl
    · rw [decide_eq_false e, Bool.false_or]; exact ih
theorem pair_put {k : NestedKey} {b : Addr} {v : V} {u : Value} {xs : TEs} {ys : List (NestedKey × Addr × Value)} (pr : TPair xs ys) (rv : RelV v u) : TPair (putT xs k b v) (storedH ys k b u) := by
  unfold putT storedH
  rw [any_pair pr]
  split
  · rename_i hh
    clear hh
    induction pr with
    | nil => exact .nil
    | @cons x y xs ys q1 q2 ih =>
      refine .cons ?_ ih
      unfold putAt
      dsimp only
      by_cases e : y.1 = k
      · rw [if_pos (q1.1.trans e), if_pos e]; exact ⟨q1.1, q1.2.1, rv⟩
      · rw [if_neg (fun h => e (q1.1.symm.trans h)), if_neg e]; exact q1
  · exact pr.snoc ⟨rfl, rfl, rv⟩
theorem putT_len {k : NestedKey} {b : Addr} {v : V} (xs : TEs) : (putT xs k b v).length ≤ xs.length + 1 := by
  unfold putT
  split
  · rw [List.length_map]; omega
  · rw [List.length_append]; exact Nat.le_refl _
theorem putT_mem {k : NestedKey} {b : Addr} {v : V} {xs : TEs} (h : ∀ x ∈ xs, x.1.depth ≤ 8) (hk : k.depth ≤ 8) : ∀ x ∈ putT xs k b v, x.1.depth ≤ 8 := by
  unfold putT
  split
  · intro x hx
    obtain ⟨y, hy, rfl⟩ := List.mem_map.mp hx
    split <;> exact h y hy
  · intro x hx
    rcases List.mem_append.mp hx with hx | hx
    · exact h x hx
    · cases List.mem_singleton.mp hx; exact hk
theorem nkOfL_len : ∀ {ks : List D} {l : List NestedKey}, nkOfL ks = some l → ks.length = l.length
  | [], _, h => by cases h; rfl
  | a :: ks, _, h => by
    obtain ⟨k0, e1, h⟩ := obind h
    obtain ⟨q, e2, h⟩ := omap h
    cases h
    rw [List.length_cons, List.length_cons, nkOfL_len e2]
structure DPutR (c : Ct) (F H : Hp) (t : Bool) (ks ds : List D) (kd d : D) (x y v : V) (p : Addr) (ws vs : List V) : Prop where
  ref : x = .ref p
  ent : EntAt c H t ks ws vs p
  keys : RpL c F ks ws
  vals : RpL c F ds vs
  key : Rp c F kd y
  val : Rp c F d v
  ext : Ex F H
def rPutD (c : Ct) : TSet := fun o i v H Q => ∃ F t ks ds kd d p ws vs, DPutR c F H t ks ds kd d o i v p ws vs ∧ ∃ r, dPut t ks ds kd d = some r ∧ ∀ o' ws' vs', EntAt c (upd H p o') t r.1 ws' vs' p → RpL c F r.1 ws' → RpL c F r.2 vs' → Q (upd H p o')
theorem set_dct (hu : X.A.units + 65 < cLine) (hK : X.K = c.K) (hW : X.w = c.w) : PSet X (rPutD c) := by
  intro pins s σ H x y v ox iy u Q I rx ry rv h
  obtain ⟨F, t, ks, ds, kd, d, p, ws, vs, ⟨rfl, ent, hk, hv, hy, hd, x⟩, r, l, q⟩ := h
  cases rx
  unfold dPut at l
  rcases ent with ⟨rfl, kvs, e1, rfl, rfl, rfl⟩ | ⟨rfl, xs, e1, e2, rfl, rfl⟩
  · rw [if_neg (by decide)] at l
    obtain ⟨k, l1, l2⟩ := obind l
    split at l2
    · rename_i hl
      cases l2
      rw [List.length_map] at hl
      have ey := atomK_V l1 hy
      subst ey
      obtain ⟨g1, g2⟩ := put_atom (k := k) hd hv
      refine d_setItem (by omega) I (DPut.k (k := k) (v := v) e1 (Nat.lt_trans hl (by decide))) ry rv fun s' I' => ⟨_, I', q _ _ _ (.inl ⟨rfl, _, upd_same, g1, rfl, rfl⟩) ?_ g2⟩
      rw [g1]
      have h2 := keys_atom (c := c) (F := F) (ks := (putK kvs k v).map (·.1))
      rw [List.map_map, List.map_map] at h2
      exact h2
    · cases l2
  · rw [if_pos rfl] at l
    obtain ⟨k, l1, l2⟩ := obind l
    split at l2
    · rename_i hl
      cases l2
      obtain ⟨es, rfl, n1, n2⟩ := tupK_of l1
      obtain ⟨⟨z1, z2, z3, _⟩, _, _⟩ := I.hok p _ e1
      obtain ⟨ys, pr, dd, _, _⟩ := ent_tup I hK hW x e1 e2 hk
      obtain ⟨b, rs, rfl, _⟩ := id hy
      cases ry
      have kk := Rp.nk I hK x _ _ _ _ n1 hy (show RelV (.ref b) (.ref b) from rfl)
      have hz : ys.length ≤ sizeLine := by rw [← Paired.length pr]; exact z1
      have hlx : xs.length < lim := by rw [nkOfL_len e2, List.length_map] at hl; exact hl
      refine wpAny_setItem_heap (hsz := hz) (room8 hu) ⟨kk, n2⟩ dd fun h' dd' hs => ?_
      obtain ⟨qo, es', ep', hq, h2, h3, h4, _, h5⟩ := dd'
      refine ⟨_, I.write (x := p) (e := p) (by rw [e1]; exact True.intro) (.inl rfl) (fun b' q' hb z' => (hs.2 b' hb).trans z') ⟨qo, hq⟩
        (td_ok (xs := putT xs k b v) (Nat.le_trans (putT_len xs) (lim_ok hlx)) z2 (putT_mem z3 n2) (pair_put pr rv) hq h2 h3 (by rw [h4]; rfl) h5), ?_⟩
      rw [hW]
      refine q _ _ _ (.inr ⟨rfl, putT xs k b v, upd_same, put_keys (b := b) (v := v) n1 e2, rfl, rfl⟩) (put_addr hy e2 hk) (put_tup hd e2 hv)
    · cases l2
def rootDct (e : DEnv) (j : Nat) : Option (Bool × List D × List D) := match e[j]? with
  | some (some (.ow (.dct t ks ds))) => some (t, ks, ds)
  | some (some (.br (.dct t ks ds))) => some (t, ks, ds)
  | _ => none
def putDct (e : DEnv) (j : Nat) (t : Bool) (ks ds : List D) : DEnv := match e[j]? with
  | some (some b) => e.set j (some (b.re (.dct t ks ds)))
  | _ => e
theorem I2.rootDct {j : Nat} {u : Bool × List D × List D} (I : I2 c z σ H F e) (h : rootDct e j = some u) : ∃ p ws vs, σ[j]? = some (some (.ref p)) ∧ EntAt c H u.1 u.2.1 ws vs p ∧ RpL c F u.2.1 ws ∧ RpL c F u.2.2 vs ∧
    ∀ o' ks' ds' ws' vs', EntAt c (upd H p o') u.1 ks' ws' vs' p → RpL c F ks' ws' → RpL c F ds' vs' → I2 c z σ (upd H p o') F (putDct e j u.1 ks' ds') := by
  unfold DL.rootDct at h
  split at h <;> try cases h
  · rename_i t ks ds hb
    obtain ⟨v, hv, p, rfl, ⟨hF, ws, vs, h1, h2, h3⟩, _⟩ := I.slot j _ hb
    refine ⟨p, ws, vs, hv, h1, h2, h3, fun o' ks' ds' ws' vs' g r r2 => ?_⟩
    unfold putDct
    rw [hb]
    exact I.mut (d := .dct t ks' ds') hb rfl hv ⟨hF, ws', vs', g, r, r2⟩
  · rename_i t ks ds hb
    obtain ⟨v, hv, p, rfl, ⟨hF, ws, vs, h1, h2, h3⟩, _⟩ := I.slot j _ hb
    refine ⟨p, ws, vs, hv, h1, h2, h3, fun o' ks' ds' ws' vs' g r r2 => ?_⟩
    unfold putDct
    rw [hb]
    exact I.mut (d := .dct t ks' ds') hb rfl hv ⟨hF, ws', vs', g, r, r2⟩
/-- d[k] = v, d a name -/
def fSetD (j : Nat) (fi fv : FE) : FS := fun e => (fv e).bind fun r => (Res.of ((escape r.1 r.2).bind fun q => (rootDct q.2 j).map fun _ => q)).bind fun q => (fi q.2).bind fun s => Res.of ((lookT s.1 s.2).bind fun k => (rootDct s.2 j).bind fun u => (dPut u.1 u.2.1 u.2.2 k q.1).map fun w => .nx (putDct s.2 j u.1 w.1 w.2))
theorem sn_setD {j : Nat} {ti tv : TE} {fi fv : FE} (hi : SndE c W ti fi) (hv : SndE c W tv fv) : SndS c W (tAsg tv (gSub (tVar j) ti (rPutD c))) (fSetD j fi fv) := fun z σ H F e D I h => by
  unfold fSetD at h
  rw [Wp.bind] at h
  refine hv z σ H F e _ I (h.mono (fun r _ h v H1 F1 x1 I1 t1 => ?_) fun _ _ h => h σ)
  rw [Wp.bind] at h
  obtain ⟨⟨d, e1⟩, ea, h⟩ := Wp.of h
  obtain ⟨⟨d', e1'⟩, l1, ea⟩ := obind ea
  obtain ⟨ds0, l0, ea⟩ := omap ea
  cases ea
  obtain ⟨G, x2, J, rr⟩ := t1.escape I1 l1
  obtain ⟨p0, ws0, vs0, hv0, h0, _, _, _⟩ := J.rootDct l0
  refine ⟨_, hv0, ?_⟩
  rw [Wp.bind] at h
  refine hi z σ H1 G e1 _ J (h.mono (fun s _ h w H2 F2 x3 I2' t2 => ?_) fun _ _ h => (h.mono (x1.trans x2)) σ)
  obtain ⟨o, ea, h⟩ := Wp.of h
  obtain ⟨k, l2, ea⟩ := obind ea
  obtain ⟨⟨t, ks, ds⟩, l3, ea⟩ := obind ea
  obtain ⟨r', l4, rfl⟩ := omap ea
  obtain ⟨p, ws, vs, hv1, h1, r1, r2, kk⟩ := I2'.rootDct l3
  rw [hv0] at hv1; cases hv1
  have ew := put_sh l4 (t2.view I2' l2)
  refine ⟨F2, t, ks, ds, k, d, p0, ws, vs, ⟨rfl, h1, r1, r2, ew, rr.mono x3 d v, I2'.fh⟩, r', l4, fun o' ws' vs' g1 g2 g3 => ?_⟩
  exact h σ _ F2 ((x1.trans x2).trans x3) (kk _ _ _ _ _ g1 g2 g3)
theorem ds_setD {o i : Expr} {ti tv : TE} {fi fv : FE} {j : Nat} {tgp : Pos} (hu : X.A.units + 65 < cLine) (hK : X.K = c.K) (hW : X.w = c.w) (ho : PE X o (tVar j)) (hi : DE X c W i ti fi) (hv : DE X c W a tv fv)
    (ha : ∀ v, assign (.Subscript o i tgp) X.env v = (do
      let ov ← holding [v] (eval o X.env)
      let iv ← holding [v, ov] (eval i X.env)
      standAt tgp
      holding [v, ov, iv] (setItem ov iv v)
      release [v, ov, iv] []) := by intro _; rfl)
    (hs : swapsWithSole [.Subscript o i tgp] a pos.line X.env = pure false := by rfl) (hw : swappedStores [.Subscript o i tgp] a X.env = pure none := by rfl) (h1 : (assignEach [.Subscript o i tgp] X.env).map (·.2) = [assign (.Subscript o i tgp) X.env] := by rfl) :
    DS X c W (.Assign [.Subscript o i tgp] a pos) (tAsg tv (gSub (tVar j) ti (rPutD c))) (fSetD j fi fv) := ⟨ps_asg hv.pe (pg_sub ho hi.pe (set_dct hu hK hW) ha) hs hw h1, sn_setD hi.sn hv.sn⟩
end
end DL

/-! DL, part aj: calls with keywords; defaults. -/
namespace DL
open PySem PyProof.Rows L2 Evl
def selL {α : Type} (pm : List Nat) (l : List α) : List α := pm.filterMap fun i => l[i]?
theorem selL_cons {α : Type} (i : Nat) (pm : List Nat) (l : List α) : selL (i :: pm) l = (match l[i]? with | some x => x :: selL pm l | none => selL pm l) := by
  unfold selL; rw [List.filterMap_cons]; cases l[i]? <;> rfl
section
variable {c : Ct} {z : Zs} {σ : L2.St} {H F : Hp} {e : DEnv}
theorem TRs.app : ∀ {ts us : List T} {vs ws : List V}, TRs c z F H σ e ts vs → TRs c z F H σ e us ws → TRs c z F H σ e (ts ++ us) (vs ++ ws)
  | [], us, vs, ws, h, g => by have h' : vs = [] := h; subst h'; exact g
  | t :: ts, us, vs, ws, h, g => by
    obtain ⟨v, r, rfl, h1, h2, h3⟩ := h
    exact ⟨v, r ++ ws, rfl, h1, h2, TRs.app h3 g⟩
theorem TRs.at : ∀ {ts : List T} {vs : List V} {i : Nat} {t : T}, TRs c z F H σ e ts vs → ts[i]? = some t → ∃ v, vs[i]? = some v ∧ t.seal = t ∧ TR c z F H σ e t v
  | [], vs, i, t, h, g => by simp at g
  | t0 :: ts, vs, i, t, h, g => by
    obtain ⟨v, r, rfl, h2, h3, h4⟩ := h
    cases i with
    | zero => simp at g; subst g; exact ⟨v, rfl, h2, h3⟩
    | succ i =>
      obtain ⟨w, h5, h6⟩ := TRs.at (i := i) h4 (by simpa using g)
      exact ⟨w, by simpa using h5, h6⟩
theorem TRs.sel {ts : List T} {vs : List V} (h : TRs c z F H σ e ts vs) : ∀ pm : List Nat, TRs c z F H σ e (selL pm ts) (selL pm vs)
  | [] => rfl
  | i :: pm => by
    rw [selL_cons, selL_cons]
    cases ht : ts[i]? with
    | none =>
      have : vs[i]? = none := by
        rw [List.getElem?_eq_none_iff] at ht ⊢
        rw [← h.len]; exact ht
      rw [this]
      exact TRs.sel h pm
    | some t =>
      obtain ⟨v, h1, h2, h3⟩ := h.at ht
      rw [h1]
      exact ⟨v, _, rfl, h2, h3, TRs.sel h pm⟩
theorem vals_get {vs : List V} {us : List Value} (h : Vals vs us) (i : Nat) : (vs[i]? = none ∧ us[i]? = none) ∨ ∃ v u, vs[i]? = some v ∧ us[i]? = some u ∧ RelV v u := by
  induction h generalizing i with
  | nil => exact .inl ⟨rfl, rfl⟩
  | cons r _ ih =>
    cases i with
    | zero => exact .inr ⟨_, _, rfl, rfl, r⟩
    | succ i => simpa using ih i
theorem vals_sel {vs : List V} {us : List Value} (h : Vals vs us) : ∀ pm : List Nat, Vals (selL pm vs) (selL pm us)
  | [] => .nil
  | i :: pm => by
    rw [selL_cons, selL_cons]
    rcases vals_get h i with ⟨h1, h2⟩ | ⟨v, u, h1, h2, r⟩
    · rw [h1, h2]; exact vals_sel h pm
    · rw [h1, h2]; exact .cons r (vals_sel h pm)
end
/-- f(e, .., k = v, ..): the values are put in the parameters' order by pm; dds: the defaults -/
def fCallK (n m' : Nat) (pm : List Nat) (dds : List D) (m : Fn) (fa fk : FA) : FE := fun e => (fa e).bind fun r => (fk r.2).bind fun q => if r.1.length = n ∧ q.1.length = m' then (Res.of (escN [] (selL pm (r.1 ++ q.1 ++ dds.map .vl)) q.2)).bind fun q => callM [] m q.1 q.2 else .stuck
def tCallNS (n m : Nat) (sp : Sp) (gV : List V → List V → List V) (E : L2.St → XK) (t tk : TA) : TE := fun σ H Q => t σ H fun vs H1 => tk σ H1 fun zs H2 => vs.length = n ∧ zs.length = m ∧ sp (gV vs zs) H2 Q (E σ)
section
variable {X : Cx} {c : Ct} {W : WX} {k n np : Nat} {f : Addr} {fd : FuncData} {ps ks : List Str} {m : Fn} {x : Str} {p pos kpos : Pos} {a : Expr} {es : List Expr} {kws : List Keyword} {tr tkw : TA} {fr fk : FA} {dvs : List V} {dds : List D} {pm : List Nat} {g : List Value → List Value → List Value} {nm : Option Str} {ta : TE} {fa : FE}
structure DK (X : Cx) (c : Ct) (W : WX) (kws : List Keyword) (ta : TA) (f : FA) : Prop where
  pk : PK X kws ta
  sn : SndA c W ta f
theorem dk_nil : DK X c W [] tNil fA0 := ⟨pk_nil, (da_nil (X := X)).sn⟩
theorem dk_cons (ha : DE X c W a ta fa) (hr : DK X c W kws tr fr) : DK X c W (⟨nm, a, kpos⟩ :: kws) (tCons ta tr) (fA1 fa fr) := ⟨pk_cons ha.pe hr.pk, sn_consA ha.sn hr.sn⟩
theorem sn_callK {np : Nat} (hd : ∀ F, RpL c F dds dvs) (hl : ∀ vs zs : List V, vs.length = n → zs.length = ks.length → (selL pm (vs ++ zs ++ dvs)).length = np) (ha : SndA c W tr fr) (hk : SndA c W tkw fk) :
    SndE c W (tCallNS n ks.length (spD c np m) (fun vs zs => selL pm (vs ++ zs ++ dvs)) (WE W) tr tkw) (fCallK n ks.length pm dds m fr fk) := fun z σ H F e Q I h => by
  unfold fCallK at h
  rw [Wp.bind] at h
  refine ha z σ H F e _ I (h.mono (fun r hr h vs H1 F1 x1 I1 t1 => ?_) fun _ _ h => h)
  rw [Wp.bind] at h
  refine hk z σ H1 F1 _ _ I1 (h.mono (fun q hq h zs H2 F2 x2 I2 t2 => ?_) fun _ _ h => h.mono x1)
  split at h
  · rename_i hlen
    have l1 : vs.length = n := by rw [← t1.len]; exact hlen.1
    have l2 : zs.length = ks.length := by rw [← t2.len]; exact hlen.2
    refine ⟨l1, l2, ?_⟩
    rw [Wp.bind] at h
    obtain ⟨⟨ts, e2⟩, l, h⟩ := Wp.of h
    have td : TRs c z F2 H2 σ q.2 (dds.map .vl) dvs := by
      have := TRs.splice (c := c) (z := z) (F := F2) (H := H2) (σ := σ) (e := q.2) (ts := []) (ws := []) rfl (hd F2)
      simpa using this
    have t3 := (((t1.keep x2 (H' := H2) (e' := q.2)).app t2).app td).sel pm
    obtain ⟨G, x3, J, t4⟩ := t3.escN I2 l
    have := sp_call (dvs := []) (dds := []) (n := np) J t4 (by rw [List.append_nil]; exact hl vs zs l1 l2) rfl (h.mono (fun r _ h v H' F' x' I' t' => h v H' F' (((x1.trans x2).trans x3).trans x') I' t') fun _ _ h => h.mono ((x1.trans x2).trans x3))
    rw [List.append_nil] at this
    exact this
  · exact h.elim
theorem run_fnNS {pins : List (Addr × Obj)} {σ : L2.St} {H : Hp} {s : Shared} {Q : VK} {us ws : List Value} {vs zs : List V} {sp : Sp} {gV : List V → List V → List V} {E : XK} {CX : CXT} (F : FnOk X.prog X.w X.K X.mg X.base CX k f fd ps sp) (hr : Room k X.A) (hb : KBn X.K fd ps n ks g gV) (hx : PassesAt CX X σ E)
    (I : Inv X pins σ H s) (r : Vals vs us) (rz : Vals zs ws) (l1 : vs.length = n) (l2 : zs.length = ks.length) (h : sp (gV vs zs) H Q E) : wpAny (model X.prog X.w) X.A (call (.ref f) us (ks.zip ws)) (EP X pins σ Q) X.xe s := by
  have r2 := hb.rel r rz
  refine wpAny_call (codeAny_mono (F.run X.A X.stack s H ⟨us, ks.zip ws⟩ (g us ws) (gV vs zs) Q E hr I.env0 (hb.to s us ws I.kIn (r.length.symm.trans l1) (rz.length.symm.trans l2)) r2 h) fun r s' hq => ?_)
  cases r with
  | error e => exact hx pins H s e s' I hq
  | ok fl =>
    cases fl with
    | ret u => exact I.after hq
    | next => exact False.elim hq
    | brk => exact False.elim hq
    | cont => exact False.elim hq
theorem pe_callNS {sp : Sp} {gV : List V → List V → List V} {E : L2.St → XK} {CX : CXT} (F : FnOk X.prog X.w X.K X.mg X.base CX k f fd ps sp) (hr : Room k X.A) (hg : Gl X x) (hm : X.mg x = some (.ref f)) (hk : PySem.W.keepIn X.K (.ref f) = true) (hb : KBn X.K fd ps n ks g gV) (hx : ∀ σ, PassesAt CX X σ (E σ))
    (ha : PA X (a :: es) tr) (hkw : PK X kws tkw) (hall : (backToKw pos (keywordEach kws X.env)).all (·.1.isSome) = true := by rfl) (hks : (backToKw pos (keywordEach kws X.env)).filterMap (·.1) = ks := by rfl)
    (hdb : (x == ("__debug__" : Str)) = false := by decide) (he : starEach (a :: es) X.env = (false, eval a X.env) :: starEach es X.env := by rfl)
    (hpl : ((backTo pos (starEach (a :: es) X.env)).any (·.1) || (backToKw pos (keywordEach kws X.env)).any (·.1.isNone)) = false := by rfl) :
    PE X (.Call (.Name x p) (a :: es) kws pos) (tCallNS n ks.length sp gV E tr tkw) := by
  refine ⟨fun pins s σ H Q I h => ?_⟩
  refine wpAny_Call_Name_kw (ld_glob I hg hm ?_ hdb)
  refine PySem.W.callWith_KW (h₀ := X.base) I.ok.mod.kin hk hall (thn (ha.run pos pins s σ H _ I h) fun us s1 ⟨vs, H1, I1, r, q⟩ => ?_) hpl he
  refine thn (hkw.run pos pins s1 σ H1 _ I1 q) fun ws s2 ⟨zs, H2, I2, rz, l1, l2, q2⟩ => ⟨I2.kIn, ?_⟩
  rw [hks]
  exact run_fnNS F hr hb (hx σ) I2 r rz l1 l2 q2
theorem pe_callNS0 {sp : Sp} {gV : List V → List V → List V} {E : L2.St → XK} {CX : CXT} (F : FnOk X.prog X.w X.K X.mg X.base CX k f fd ps sp) (hr : Room k X.A) (hg : Gl X x) (hm : X.mg x = some (.ref f)) (hk : PySem.W.keepIn X.K (.ref f) = true) (hb : KBn X.K fd ps 0 ks g gV) (hx : ∀ σ, PassesAt CX X σ (E σ))
    (hkw : PK X kws tkw) (hall : (backToKw pos (keywordEach kws X.env)).all (·.1.isSome) = true := by rfl) (hks : (backToKw pos (keywordEach kws X.env)).filterMap (·.1) = ks := by rfl)
    (hdb : (x == ("__debug__" : Str)) = false := by decide)
    (hpl : ((backTo pos (starEach [] X.env)).any (·.1) || (backToKw pos (keywordEach kws X.env)).any (·.1.isNone)) = false := by rfl) :
    PE X (.Call (.Name x p) [] kws pos) (tCallNS 0 ks.length sp gV E tNil tkw) := by
  refine ⟨fun pins s σ H Q I h => ?_⟩
  refine wpAny_Call_Name_kw (ld_glob I hg hm ?_ hdb)
  refine PySem.W.callWith_KW0 (h₀ := X.base) I.ok.mod.kin hk hall (thn (hkw.run pos pins s σ H _ I h) fun ws s2 ⟨zs, H2, I2, rz, l1, l2, q2⟩ => ⟨I2.kIn, ?_⟩) hpl
  rw [hks]
  exact run_fnNS F hr hb (hx σ) I2 .nil rz l1 l2 q2
/-- f(a, .., k = v, ..) -/
theorem de_callK (tk : Takes X W) (F : FnOk X.prog X.w X.K X.mg X.base (CX X.prog X.w) k f fd ps (spD c np m)) (hr : Room k X.A) (hg : Gl X x) (hm : X.mg x = some (.ref f)) (hk : PySem.W.keepIn X.K (.ref f) = true) (hb : ∃ g, KBn X.K fd ps n ks g (fun vs zs => selL pm (vs ++ zs ++ dvs))) (hdd : ∀ F, RpL c F dds dvs)
    (hl : ∀ vs zs : List V, vs.length = n → zs.length = ks.length → (selL pm (vs ++ zs ++ dvs)).length = np) (ha : DA X c W (a :: es) tr fr) (hkw : DK X c W kws tkw fk) (hall : (backToKw pos (keywordEach kws X.env)).all (·.1.isSome) = true := by rfl) (hks : (backToKw pos (keywordEach kws X.env)).filterMap (·.1) = ks := by rfl)
    (hdb : (x == ("__debug__" : Str)) = false := by decide) (he : starEach (a :: es) X.env = (false, eval a X.env) :: starEach es X.env := by rfl)
    (hpl : ((backTo pos (starEach (a :: es) X.env)).any (·.1) || (backToKw pos (keywordEach kws X.env)).any (·.1.isNone)) = false := by rfl) :
    DE X c W (.Call (.Name x p) (a :: es) kws pos) (tCallNS n ks.length (spD c np m) (fun vs zs => selL pm (vs ++ zs ++ dvs)) (WE W) tr tkw) (fCallK n ks.length pm dds m fr fk) :=
  ⟨hb.elim fun _ hb => pe_callNS F hr hg hm hk hb (fun σ => passAt tk σ) ha.pa hkw.pk hall hks hdb he hpl, sn_callK hdd hl ha.sn hkw.sn⟩
theorem de_callK0 (tk : Takes X W) (F : FnOk X.prog X.w X.K X.mg X.base (CX X.prog X.w) k f fd ps (spD c np m)) (hr : Room k X.A) (hg : Gl X x) (hm : X.mg x = some (.ref f)) (hk : PySem.W.keepIn X.K (.ref f) = true) (hb : ∃ g, KBn X.K fd ps 0 ks g (fun vs zs => selL pm (vs ++ zs ++ dvs))) (hdd : ∀ F, RpL c F dds dvs)
    (hl : ∀ vs zs : List V, vs.length = 0 → zs.length = ks.length → (selL pm (vs ++ zs ++ dvs)).length = np) (hkw : DK X c W kws tkw fk) (hall : (backToKw pos (keywordEach kws X.env)).all (·.1.isSome) = true := by rfl) (hks : (backToKw pos (keywordEach kws X.env)).filterMap (·.1) = ks := by rfl)
    (hdb : (x == ("__debug__" : Str)) = false := by decide)
    (hpl : ((backTo pos (starEach [] X.env)).any (·.1) || (backToKw pos (keywordEach kws X.env)).any (·.1.isNone)) = false := by rfl) :
    DE X c W (.Call (.Name x p) [] kws pos) (tCallNS 0 ks.length (spD c np m) (fun vs zs => selL pm (vs ++ zs ++ dvs)) (WE W) tNil tkw) (fCallK 0 ks.length pm dds m fA0 fk) :=
  ⟨hb.elim fun _ hb => pe_callNS0 F hr hg hm hk hb (fun σ => passAt tk σ) hkw.pk hall hks hdb hpl, sn_callK hdd hl (da_nil (X := X)).sn hkw.sn⟩
end
/-- keywords of a def without defaults -/
theorem kbn_mk {K : PySem.W.Frag} {fd : FuncData} {ps ks : List Str} {n : Nat} {pm : List Nat} (h : ∀ us ws : List Value, us.length = n → ws.length = ks.length → bindArgs fd ⟨us, ks.zip ws⟩ = pure (ps.zip (selL pm (us ++ ws ++ [])))) :
    KBn K fd ps n ks (fun us ws => selL pm (us ++ ws ++ [])) (fun vs zs => selL pm (vs ++ zs ++ [])) :=
  ⟨fun s us ws _ h1 h2 => .of_eq (h us ws h1 h2), fun r1 r2 => vals_sel ((r1.append r2).append .nil) pm⟩
/-- .. of a def with defaults -/
theorem kbn_mkD {K : PySem.W.Frag} {fd : FuncData} {ps ks : List Str} {n : Nat} {pm : List Nat} {dvs : List V} {its : List Value} {T : Addr} {o : Obj} {j : Nat} (hT : K.lookup T = some o) (ho : o.data = .seq its.toArray j) (r : Vals dvs its)
    (h : ∀ us ws : List Value, us.length = n → ws.length = ks.length → ∃ kk, bindArgs fd ⟨us, ks.zip ws⟩ = seqItems? (.ref T) >>= kk ∧ kk (some its.toArray) = pure (ps.zip (selL pm (us ++ ws ++ its)))) :
    KBn K fd ps n ks (fun us ws => selL pm (us ++ ws ++ its)) (fun vs zs => selL pm (vs ++ zs ++ dvs)) :=
  ⟨fun s us ws X h1 h2 => by
    obtain ⟨kk, e1, e2⟩ := h us ws h1 h2
    refine BindsTo.of_looks fun M => ?_
    rw [e1]
    exact looks_items X hT ho (.of_pure e2), fun r1 r2 => vals_sel ((r1.append r2).append r) pm⟩
/-- positional arguments of a def with defaults: n are written, the defaults behind the first j fill up -/
theorem binds_mkD {K : PySem.W.Frag} {fd : FuncData} {ps : List Str} {n i : Nat} {its : List Value} {T : Addr} {o : Obj} {j : Nat} (hT : K.lookup T = some o) (ho : o.data = .seq its.toArray j) (hn : n + (its.drop i).length = ps.length)
    (h : ∀ us : List Value, us.length = n → ∃ kk, bindArgs fd ⟨us, []⟩ = seqItems? (.ref T) >>= kk ∧ kk (some its.toArray) = pure (ps.zip (us ++ its.drop i))) : Binds K fd ps (its.drop i) := fun s us X hl => by
  obtain ⟨kk, e1, e2⟩ := h us (by rw [List.length_append] at hl; omega)
  refine BindsTo.of_looks fun M => ?_
  rw [e1]
  exact looks_items X hT ho (.of_pure e2)
end DL

/-! DL, part ak: len(x), y in x of classes of one's own. -/
namespace DL
open PySem PyProof.Rows L2 Evl
section
variable {X : Cx} {c : Ct} {W : WX} {k n j : Nat} {f g C : Addr} {fd : FuncData} {ps : List Str} {m : Fn} {p pos apos : Pos} {a b o : Expr} {ta tb : TE} {fa fb : FE} {sp : Sp} {E : L2.St → XK} {CX : CXT}
/-! ### in -/
structure OwnIn (K : PySem.W.Frag) (C f : Addr) : Prop where
  s : PySem.W.findIn K (.ref C) "__contains__" = some (some (.ref f))
  fn : PySem.W.isFn K (.ref f) = true
def cmpIn (neg : Bool) : CmpOp := if neg then .NotIn else .In
def rOwnIn (C : Addr) (sp : Sp) (E : L2.St → XK) (neg : Bool) : L2.St → R2 := fun σ x y H2 Q => ∃ a dx fs, y = .ref a ∧ H2 a = some (.ins C dx fs) ∧ sp [y, x] H2 (fun v H3 => ∃ b, v = .bl b ∧ Q (.bl (b != neg)) H3) (E σ)
theorem ops_ownIn (neg : Bool) (w : OwnIn X.K C f) (F : FnOk X.prog X.w X.K X.mg X.base CX k f fd ps sp) (hr : Room k X.A) (hb : Binds X.K fd ps []) (hx : ∀ σ, PassesAt CX X σ (E σ)) : OpS X (compareOp (cmpIn neg)) (rOwnIn C sp E neg) := by
  intro pins s σ H x y v u Q I rx ry q
  obtain ⟨p, dx, fs, rfl, h1, hsp⟩ := q
  cases ry
  obtain ⟨_, od, J⟩ := Inv.inst I h1
  obtain ⟨m, hF⟩ := I.fr
  have cl := run_fnSD (us := [.ref p, v]) (vs := [.ref p, x]) F hr hb .nil (hx σ) I (.cons rfl (.cons rx .nil)) hsp
  cases neg with
  | false =>
    refine PySem.W.in_K hF I.ok.mod.kin J w.s w.fn (wpAny_mono cl (fun r s' hq => ?_) fun _ _ h => h)
    obtain ⟨v', H', I', rv, b, eb, q'⟩ := hq
    subst eb
    cases rv
    exact wpAny_truthy_bool ⟨.bl b, H', I', rfl, by simpa using q'⟩
  | true =>
    refine PySem.W.notIn_K hF I.ok.mod.kin J w.s w.fn (wpAny_mono cl (fun r s' hq => ?_) fun _ _ h => h)
    obtain ⟨v', H', I', rv, b, eb, q'⟩ := hq
    subst eb
    cases rv
    exact wpAny_truthy_bool ⟨.bl (!b), H', I', rfl, by simpa using q'⟩
def isAny (_ : D) : Bool := true
def fOwnIn (i : Nat) (neg : Bool) (m : Fn) (fa fb : FE) : FE := fun e => (fOwn2 isAny (isIns i) true m fa fb e).bind fun r => match r.1 with
  | .vl (.bl b) => .ok (.vl (.bl (b != neg)), r.2)
  | _ => .stuck
theorem sn_ownIn {i : Nat} {neg : Bool} (ha : SndE c W ta fa) (hb : SndE c W tb fb) : SndE c W (tOpS (rOwnIn (c.cl i) (spD c 2 m) (WE W) neg) ta tb) (fOwnIn i neg m fa fb) := fun z σ H F e Q I h => by
  unfold fOwnIn at h
  rw [Wp.bind] at h
  exact sn_own2 (R := fun σ x y H2 Q => ∃ a dx fs, y = .ref a ∧ H2 a = some (.ins (c.cl i) dx fs) ∧ spD c 2 m [y, x] H2 Q (WE W σ)) (fun σ x y H2 Q F d1 d2 e v1 v2 h1 h2 hs => by
    obtain ⟨ds, rfl⟩ := isIns_eq h2
    obtain ⟨p, dx, vs, rfl, g1, _⟩ := v2.ins e
    exact ⟨p, dx, _, rfl, g1, hs⟩) ha hb z σ H F e (fun v H3 => ∃ b, v = .bl b ∧ Q (.bl (b != neg)) H3) I (h.mono (fun r _ h v H' F' x' I' t' => by
      obtain ⟨t, e1⟩ := r
      dsimp only at h
      split at h
      · rename_i b q
        exact ⟨b, t', h _ H' F' x' I' rfl⟩
      · exact h.elim) fun _ _ h => h)
theorem de_ownIn {i : Nat} (neg : Bool) (tk : Takes X W) (hK : X.K = c.K) (w : OwnIn c.K (c.cl i) f) (F : FnOk X.prog X.w X.K X.mg X.base (L2.CX X.prog X.w) k f fd ps (spD c 2 m)) (hr : Room k X.A) (hb : Binds X.K fd ps []) (ha : DE X c W a ta fa) (hb' : DE X c W b tb fb) (hm : behindInMarks (cmpIn neg) b = false := by rfl) :
    DE X c W (.Compare a [cmpIn neg] [b] pos) (tOpS (rOwnIn (c.cl i) (spD c 2 m) (WE W) neg) ta tb) (fOwnIn i neg m fa fb) :=
  ⟨pe_cmpS (ops_ownIn neg (hK ▸ w) F hr hb fun σ => passAt tk σ) ha.pe hb'.pe hm, sn_ownIn ha.sn hb'.sn⟩
theorem dt_ownIn {i : Nat} (neg : Bool) (tk : Takes X W) (hK : X.K = c.K) (w : OwnIn c.K (c.cl i) f) (F : FnOk X.prog X.w X.K X.mg X.base (L2.CX X.prog X.w) k f fd ps (spD c 2 m)) (hr : Room k X.A) (hb : Binds X.K fd ps []) (ha : DE X c W a ta fa) (hb' : DE X c W b tb fb) (hm : behindInMarks (cmpIn neg) b = false := by rfl) :
    DT X c W (.Compare a [cmpIn neg] [b] pos) (tTest (tOpS (rOwnIn (c.cl i) (spD c 2 m) (WE W) neg) ta tb)) (fB (fOwnIn i neg m fa fb)) :=
  ⟨pt_cmpS (ops_ownIn neg (hK ▸ w) F hr hb fun σ => passAt tk σ) ha.pe hb'.pe hm, sn_B (fun _ _ _ h => h) (sn_ownIn ha.sn hb'.sn)⟩
/-! ### len -/
structure OwnLen (K : PySem.W.Frag) (C f : Addr) : Prop where
  s : PySem.W.findIn K (.ref C) "__len__" = some (some (.ref f))
  fn : PySem.W.isFn K (.ref f) = true
def rOwnLen (C : Addr) (sp : Sp) : List V → Hp → VK → Prop := fun xs H Q => ∃ a dx fs, xs = [.ref a] ∧ H a = some (.ins C dx fs) ∧ sp [.ref a] H (fun v H' => ∃ n : Int, v = .int n ∧ (0 ≤ n ∧ n < 2 ^ 63) ∧ Q (.int n) H') E0
theorem call_ownLen (w : OwnLen X.K C f) (F : FnOk X.prog X.w X.K X.mg X.base CX k f fd ps sp) (hr : Room (k + 1) X.A) (hb : Binds X.K fd ps []) (hx : Passes CX X.nox E0) : CallR X (.builtin "len") (rOwnLen C sp) := by
  intro pins s σ H xs us Q I r q
  obtain ⟨p, dx, fs, rfl, h1, hsp⟩ := q
  obtain rfl := Vals.ref1 r
  obtain ⟨_, od, J⟩ := Inv.inst I h1
  obtain ⟨m, hF⟩ := I.fr
  have hl := F.len _ _ _ _ hsp
  have r2 : Vals [V.ref p] [Value.ref p] := .cons rfl .nil
  refine PySem.W.len_K hF I.ok.mod.kin J w.s w.fn ?_
  refine wpAny_call (codeAny_mono (F.run X.A.in1 X.stack s H ⟨[.ref p], []⟩ [.ref p] [.ref p] _ E0 hr.in1 I.env0.in1 (by
    have := hb s [.ref p] I.kIn (by simpa using hl)
    simpa using this) r2 hsp) fun r s' hq => ?_)
  cases r with
  | error er => exact False.elim (hx pins σ H s er s' (I.wish _) hq)
  | ok fl =>
    cases fl with
    | ret u =>
      obtain ⟨v', H', I', rv, n, en, hn, q'⟩ := I.after hq
      subst en
      obtain ⟨t, rfl⟩ := rv
      exact ⟨hn, V.int n, H', I'.tok _, ⟨_, rfl⟩, q'⟩
    | next => exact False.elim hq
    | brk => exact False.elim hq
    | cont => exact False.elim hq
def fOwnLen (i : Nat) (m : Fn) (fo : FE) : FE := fun e => (fo e).bind fun r0 => match lookT r0.1.seal r0.2 with
  | some (.ins k' _) => if k' = i then (Res.of (escN [false] [r0.1.seal] r0.2)).bind fun q => (noExc (callM [] m q.1 q.2)).bind fun r => match r.1 with
    | .vl (.int n) => if 0 ≤ n ∧ n < 2 ^ 63 then .ok (.vl (.int n), r.2) else .stuck
    | _ => .stuck
    else .stuck
  | _ => .stuck
theorem sn_ownLen {i : Nat} (ho : SndE c W ta fa) : SndE c W (tCB (rOwnLen (c.cl i) (spD c 1 m)) (tCons ta tNil)) (fOwnLen i m fa) := fun z σ H F e Q I h => by
  unfold fOwnLen at h
  rw [Wp.bind] at h
  refine ho z σ H F e _ I (h.mono (fun r0 _ g v H1 F1 x1 I1 t1 => ?_) fun _ _ h => h)
  clear h
  obtain ⟨F2, x2, J, t2⟩ := t1.seal I1
  split at g
  · rename_i k' ds hl
    split at g
    · rename_i ek
      subst ek
      obtain ⟨p, dx, vs, rfl, h2, r2⟩ := (t2.view J hl).ins J.fh
      refine ⟨p, dx, _, rfl, h2, ?_⟩
      rw [Wp.bind] at g
      obtain ⟨⟨ts, e3⟩, l, h⟩ := Wp.of g
      have t4 : TRs c z F2 H1 σ r0.2 [r0.1.seal] [V.ref p] := ⟨_, _, rfl, T.seal_seal _, t2, rfl⟩
      obtain ⟨G, x4, K, t5⟩ := t4.escN J l
      rw [Wp.bind] at h
      have h' : Wp (callM [] m ts e3) (fun r => ∀ v H' F', Ex F F' → I2 c z σ H' F' r.2 → TR c z F' H' σ r.2 r.1 v → ∃ n : Int, v = .int n ∧ (0 ≤ n ∧ n < 2 ^ 63) ∧ Q (.int n) H') (fun _ _ => False) := by
        unfold noExc at h
        cases hq : callM [] m ts e3 with
        | stuck => rw [hq] at h; exact h
        | ok r =>
          rw [hq] at h
          intro v H' F' x' I' t'
          obtain ⟨t, e4⟩ := r
          replace h := (show Wp (match t with
            | .vl (.int n) => if 0 ≤ n ∧ n < 2 ^ 63 then Res.ok (T.vl (.int n), e4) else .stuck
            | _ => .stuck) _ _ from h)
          split at h
          · rename_i n
            split at h
            · rename_i hn
              exact ⟨n, t', hn, h _ H' F' x' I' rfl⟩
            · exact h.elim
          · exact h.elim
        | exc x e' => rw [hq] at h; exact h.elim
      have sc := sp_call (n := 1) (m := m) (dvs := []) (dds := []) (W := W0) (Q := fun v H' => ∃ n : Int, v = .int n ∧ (0 ≤ n ∧ n < 2 ^ 63) ∧ Q (.int n) H') K t5 rfl rfl (h'.mono (fun r _ h v H' F' x' I' t' => h v H' F' (((x1.trans x2).trans x4).trans x') I' t') fun _ _ h => h.elim)
      exact sc
    · exact g.elim
  · exact g.elim
theorem de_ownLen {i : Nat} (hK : X.K = c.K) (w : OwnLen c.K (c.cl i) f) (F : FnOk X.prog X.w X.K X.mg X.base (L2.CX X.prog X.w) k f fd ps (spD c 1 m)) (hr : Room (k + 1) X.A) (hb : Binds X.K fd ps []) (hg : Gl X "len") (hm : X.mg "len" = none) (ha : DE X c W a ta fa)
    (he : starEach [a] X.env = (false, eval a X.env) :: starEach [] X.env := by rfl) : DE X c W (.Call (.Name "len" p) [a] [] pos) (tCB (rOwnLen (c.cl i) (spD c 1 m)) (tCons ta tNil)) (fOwnLen i m fa) :=
  ⟨pe_callB (call_ownLen (hK ▸ w) F hr hb passL) hg hm (by decide +kernel) (pa_cons ha.pe pa_nil he) (by decide) (by decide) he rfl, sn_ownLen ha.sn⟩
end
end DL

/-! DL, part al: a for over a name's own list: the list is lent to the loop, and is the name's own again behind it. -/
namespace DL
open PySem PyProof.Rows L2 Evl
def lenZ1 (z : Zs) (j : Nat) (p : Addr) : Zs := { z with Bo := fun a => z.Bo a ∨ a = p, V0 := fun i => if i = j then .ref p else z.V0 i }
section
variable {c : Ct} {z : Zs} {W : WX} {F H : Hp} {σ : L2.St} {e : DEnv} {j : Nat} {p : Addr} {d : D}
theorem root_set {b b' : B} (hr : b.isRoot = b'.isRoot) (hb : e[j]? = some (some b)) : ∀ i q, RootAt σ (e.set j (some b')) i q ↔ RootAt σ e i q := fun i q => by
  have hl := get_lt hb
  constructor
  · rintro ⟨x, h1, h2, h3⟩
    rcases get_set h1 with ⟨rfl, k⟩ | ⟨_, k⟩
    · cases k; exact ⟨b, hb, hr.trans h2, h3⟩
    · exact ⟨x, k, h2, h3⟩
  · rintro ⟨x, h1, h2, h3⟩
    by_cases ej : i = j
    · subst ej
      rw [hb] at h1; cases h1
      exact ⟨b', get_setS hl, hr.symm.trans h2, h3⟩
    · exact ⟨x, by rw [List.getElem?_set_ne (fun h => ej h.symm)]; exact h1, h2, h3⟩
theorem I2.lendJ (I : I2 c z σ H F e) (hb : e[j]? = some (some (.ow d))) (hv : σ[j]? = some (some (.ref p))) : I2 c (lenZ1 z j p) σ H F (e.set j (some (.br d))) := by
  obtain ⟨v, hv', q, e1, own, h0⟩ := I.slot j _ hb
  subst e1
  rw [hv] at hv'; cases hv'
  have rt := root_set (σ := σ) (b := .ow d) (b' := .br d) rfl hb
  refine ⟨by rw [List.length_set]; exact I.len, I.f0, I.fh, fun q o h nb => I.keep q o h fun k => nb (.inl k), fun i b h => ?_, fun i k q h1 h2 => I.dist i k q ((rt i q).mp h1) ((rt k q).mp h2), fun q h => ?_, I.nf, fun i d' v h hv1 => ?_⟩
  · rcases get_set h with ⟨rfl, k⟩ | ⟨_, k⟩
    · cases k; exact ⟨_, hv, p, rfl, own, .inr rfl⟩
    · obtain ⟨v, hv1, r⟩ := I.slot i b k
      refine ⟨v, hv1, ?_⟩
      cases b with
      | sh d => exact r
      | ow d => exact r
      | br d => obtain ⟨q, e1, o, k1⟩ := r; exact ⟨q, e1, o, .inl k1⟩
      | ex x => exact r
  · rcases h with h | h
    · exact I.bo q h
    · subst h; exact own.at
  · rcases get_set h with ⟨rfl, k⟩ | ⟨ne, k⟩
    · rw [hv] at hv1; cases hv1
      show (if i = i then _ else _) = _
      rw [if_pos rfl]
    · show (if i = j then _ else _) = _
      rw [if_neg ne]
      exact I.brv i d' v k hv1
theorem I2.unlendJ (I : I2 c (lenZ1 z j p) σ H F e) (h0 : z.H0 p = none) (hb : e[j]? = some (some (.br d))) : I2 c z σ H F (e.set j (some (.ow d))) := by
  obtain ⟨v, hv, q, e1, own, _⟩ := I.slot j _ hb
  subst e1
  have ev := I.brv j d _ hb hv
  have eq : q = p := by
    have : (if j = j then V.ref p else z.V0 j) = .ref q := ev
    rw [if_pos rfl] at this; cases this; rfl
  subst eq
  have rt := root_set (σ := σ) (b := .br d) (b' := .ow d) rfl hb
  refine ⟨by rw [List.length_set]; exact I.len, I.f0, I.fh, fun a o h nb => I.keep a o h fun k => k.elim nb (fun ea => by rw [ea, h0] at h; cases h), fun i b h => ?_, fun i k q h1 h2 => I.dist i k q ((rt i q).mp h1) ((rt k q).mp h2), fun a h => I.bo a (.inl h), I.nf, fun i d' v h hv1 => ?_⟩
  · rcases get_set h with ⟨rfl, k⟩ | ⟨ne, k⟩
    · cases k; exact ⟨_, hv, q, rfl, own, h0⟩
    · obtain ⟨v, hv1, r⟩ := I.slot i b k
      refine ⟨v, hv1, ?_⟩
      cases b with
      | sh d => exact r
      | ow d => exact r
      | br d =>
        obtain ⟨a, e1, o, k1⟩ := r
        refine ⟨a, e1, o, k1.elim id fun ea => ?_⟩
        subst ea e1
        exact absurd (I.dist i j a ⟨_, k, rfl, hv1⟩ ⟨_, hb, rfl, hv⟩) ne
      | ex x => exact r
  · rcases get_set h with ⟨rfl, k⟩ | ⟨ne, k⟩
    · cases k
    · have := I.brv i d' v k hv1
      have : (if i = j then V.ref q else z.V0 i) = v := this
      rw [if_neg ne] at this
      exact this
def loopO (j : Nat) (wr : Nat → D → D) (fg : D → DEnv → Option DEnv) (fb : FS) : Nat → Nat → DEnv → Res Out
  | 0, _, _ => .stuck
  | n + 1, i, e => match e[j]? with
    | some (some (.br (.lst ds))) => match ds[i]? with
      | none => .ok (.nx e)
      | some d => (Res.of (fg (wr i d) e)).bind fun e1 => (fb e1).bind fun o => match o with
        | .nx e2 => loopO j wr fg fb n (i + 1) e2
        | .ct e2 => loopO j wr fg fb n (i + 1) e2
        | .bk e2 => .ok (.nx e2)
        | .rt t e2 => .ok (.rt t e2)
    | _ => .stuck
def unbr (j : Nat) (e : DEnv) : Option DEnv := match e[j]? with
  | some (some (.br d)) => some (e.set j (some (.ow d)))
  | _ => none
def unbrO (j : Nat) : Res Out → Res Out
  | .ok (.nx e) => (Res.of (unbr j e)).bind fun e => .ok (.nx e)
  | .ok (.rt t e) => (Res.of (unbr j e)).bind fun e => .ok (.rt t e)
  | .ok _ => .stuck
  | .exc x e => match unbr j e with
    | some e' => .exc x e'
    | none => .stuck
  | .stuck => .stuck
def fForO (j : Nat) (wr : Nat → D → D) (fall : FS) (fg : D → DEnv → Option DEnv) (fb : FS) : FS := fun e => match e[j]? with
  | some (some (.ow (.lst ds))) => unbrO j (loopO j wr fg fb (ds.length + 1) 0 (e.set j (some (.br (.lst ds)))))
  | some (some (.br (.lst ds))) => loopO j wr fg fb (ds.length + 1) 0 e
  | _ => fall e
theorem unbr_eq {e' : DEnv} (h : unbr j e = some e') : ∃ d, e[j]? = some (some (.br d)) ∧ e' = e.set j (some (.ow d)) := by
  unfold unbr at h
  split at h
  · cases h; exact ⟨_, by assumption, rfl⟩
  · cases h
/-- from the loop with the lent list to the loop that is asked for -/
theorem lend_back {r : Res Out} {D : Ends} (h0 : z.H0 p = none) (h : Wp (unbrO j r) (PoS c z F D) (XpS c z W F)) : Wp r (PoS c (lenZ1 z j p) F D) (XpS c (lenZ1 z j p) W F) := by
  cases r with
  | stuck => exact h
  | exc x e =>
    unfold unbrO at h
    dsimp only at h
    split at h
    · rename_i e' hu
      obtain ⟨d, hb, rfl⟩ := unbr_eq hu
      exact fun σ' cls dd H' F' x' I r => h σ' cls dd H' F' x' (I.unlendJ h0 hb) r
    · exact h.elim
  | ok o =>
    cases o with
    | nx e =>
      unfold unbrO at h
      dsimp only at h
      rw [Wp.bind] at h
      obtain ⟨e', hu, h⟩ := Wp.of h
      obtain ⟨d, hb, rfl⟩ := unbr_eq hu
      exact fun σ' H' F' x' I => h σ' H' F' x' (I.unlendJ h0 hb)
    | rt t e =>
      unfold unbrO at h
      dsimp only at h
      rw [Wp.bind] at h
      obtain ⟨e', hu, h⟩ := Wp.of h
      obtain ⟨d, hb, rfl⟩ := unbr_eq hu
      refine fun v σ' H' F' x' I ht => h v σ' H' F' x' (I.unlendJ h0 hb) ?_
      cases t with
      | sl i => exact ht
      | vl d => exact ht
      | nw d =>
        obtain ⟨q, e1, own, h1, h2⟩ := ht
        exact ⟨q, e1, own, h1, fun i hi => h2 i ((root_set (b := .br _) (b' := .ow _) rfl hb i q).mp hi)⟩
    | bk e => exact h.elim
    | ct e => exact h.elim
section
variable {J : It} {gg : TG} {fg : D → DEnv → Option DEnv} {ts : TS} {f : FS} {wr : Nat → D → D}
theorem sn_loopO (hV : z.V0 j = .ref p)
    (turn : ∀ (i : Nat) (σ' : L2.St) (H' F' : Hp) (e' : DEnv) (ds : List D) (vs : List V), I2 c z σ' H' F' e' → H' p = some (.lst vs) → RpL c F' ds vs →
      (∀ d, ds[i]? = some d → J.go i H' ∧ ∀ y H2, J.yld i H' y H2 → ∃ F2, Ex F' F2 ∧ I2 c z σ' H2 F2 e' ∧ Rp c F2 (wr i d) y) ∧ (ds[i]? = none → J.stop i H'))
    (hg : ∀ (z : Zs) σ H F e d v e' (Q : L2.St → Hp → Prop), I2 c z σ H F e → Rp c F d v → fg d e = some e' → (∀ σ', I2 c z σ' H F e' → Q σ' H) → gg v σ H Q) (hb : SndS c W ts f)
    {D : Ends} {n : Nat} (I : I2 c z σ H F e) (h : Wp (loopO j wr fg f n 0 e) (PoS c z F D) (XpS c z W F)) :
    ∃ Wi : Nat → Nat → L2.St → Hp → Prop, (∃ m, Wi 0 m σ H) ∧ ∀ i m σ H, Wi i m σ H →
      (J.stop i H ∧ D.nx σ H) ∨ (J.go i H ∧ ∃ N : L2.St → Hp → Prop, (∀ σ' H', N σ' H' → ∃ m', m' < m ∧ Wi (i + 1) m' σ' H') ∧ ∀ x H', J.yld i H x H' → gg x σ H' fun σ2 H2 => ts { D with nx := N, ct := N, bk := D.nx } σ2 H2) := by
  refine ⟨fun i m σ' H' => ∃ F' e', Ex F F' ∧ I2 c z σ' H' F' e' ∧ Wp (loopO j wr fg f m i e') (PoS c z F' D) (XpS c z W F'), ⟨n, F, e, Ex.refl F, I, h⟩, ?_⟩
  rintro i m σ' H' ⟨F', e', x', I', h'⟩
  cases m with
  | zero => exact h'.elim
  | succ m =>
    unfold loopO at h'
    split at h'
    · rename_i ds hbj
      obtain ⟨v, hv, q, e1, own, _⟩ := I'.slot j _ hbj
      subst e1
      have eq := (I'.brv j _ _ hbj hv).symm.trans hV
      cases eq
      obtain ⟨_, vs, hH, r⟩ := own
      obtain ⟨t1, t2⟩ := turn i σ' H' F' e' ds vs I' hH r
      split at h'
      · rename_i hd
        exact .inl ⟨t2 hd, h' σ' H' F' (Ex.refl F') I'⟩
      · rename_i d hd
        obtain ⟨go, yld⟩ := t1 d hd
        rw [Wp.bind] at h'
        obtain ⟨e2, l1, h'⟩ := Wp.of h'
        rw [Wp.bind] at h'
        refine .inr ⟨go, fun σ2 H2 => ∃ F2 e2, Ex F F2 ∧ I2 c z σ2 H2 F2 e2 ∧ Wp (loopO j wr fg f m (i + 1) e2) (PoS c z F2 D) (XpS c z W F2), fun σ2 H2 q => ⟨m, Nat.lt_succ_self _, q⟩, fun y H2 hy => ?_⟩
        obtain ⟨F2, x2, J2, r2⟩ := yld y H2 hy
        refine hg z σ' H2 F2 e' _ y e2 _ J2 r2 l1 fun σ3 J3 => ?_
        refine hb z σ3 H2 F2 e2 _ J3 (h'.mono (fun o _ h => ?_) fun _ _ h => h.mono x2)
        cases o with
        | nx e4 => exact fun σ4 H4 F4 x4 I4 => ⟨F4, e4, (x'.trans x2).trans x4, I4, h.mono (fun _ _ h => h.mono (x2.trans x4)) fun _ _ h => h.mono (x2.trans x4)⟩
        | ct e4 => exact fun σ4 H4 F4 x4 I4 => ⟨F4, e4, (x'.trans x2).trans x4, I4, h.mono (fun _ _ h => h.mono (x2.trans x4)) fun _ _ h => h.mono (x2.trans x4)⟩
        | bk e4 => exact fun σ4 H4 F4 x4 I4 => h σ4 H4 F4 (x2.trans x4) I4
        | rt t e4 => exact fun v σ4 H4 F4 x4 I4 t4 => h v σ4 H4 F4 (x2.trans x4) I4 t4
    · exact h'.elim
end
section
variable {X : Cx} {a tg : Expr} {gg : TG} {fg : D → DEnv → Option DEnv} {ts : TS} {f fall : FS} {sts : List Stmt} {pos : Pos}
theorem turn_list (i : Nat) (σ' : L2.St) (H' F' : Hp) (e' : DEnv) (ds : List D) (vs : List V) (I' : I2 c z σ' H' F' e') (hH : H' p = some (.lst vs)) (r : RpL c F' ds vs) :
    (∀ d, ds[i]? = some d → (Itl c.K p).go i H' ∧ ∀ y H2, (Itl c.K p).yld i H' y H2 → ∃ F2, Ex F' F2 ∧ I2 c z σ' H2 F2 e' ∧ Rp c F2 d y) ∧ (ds[i]? = none → (Itl c.K p).stop i H') := by
  refine ⟨fun d hd => ?_, fun hd => ⟨vs, sq_of hH, by rw [← r.len]; exact List.getElem?_eq_none_iff.mp hd⟩⟩
  obtain ⟨v, hv, rv⟩ := r.get hd
  refine ⟨⟨vs, v, sq_of hH, hv⟩, fun y H2 hy => ?_⟩
  obtain ⟨e1, hy⟩ := hy
  subst e1
  have e1 := hy vs (sq_of hH)
  rw [hv] at e1; cases e1
  exact ⟨F', Ex.refl F', I', rv⟩
theorem turn_enum (i : Nat) (σ' : L2.St) (H' F' : Hp) (e' : DEnv) (ds : List D) (vs : List V) (I' : I2 c z σ' H' F' e') (hH : H' p = some (.lst vs)) (r : RpL c F' ds vs) :
    (∀ d, ds[i]? = some d → (Ite c.K p).go i H' ∧ ∀ y H2, (Ite c.K p).yld i H' y H2 → ∃ F2, Ex F' F2 ∧ I2 c z σ' H2 F2 e' ∧ Rp c F2 (.tup [.int (i : Nat), d]) y) ∧ (ds[i]? = none → (Ite c.K p).stop i H') := by
  refine ⟨fun d hd => ?_, fun hd => ⟨vs, sq_of hH, by rw [← r.len]; exact List.getElem?_eq_none_iff.mp hd⟩⟩
  obtain ⟨v, hv, rv⟩ := r.get hd
  refine ⟨⟨vs, v, sq_of hH, hv⟩, fun y H2 ⟨T, v', e1, hT, e2, k1⟩ => ?_⟩
  subst e1 e2
  have e1 := k1 vs (sq_of hH)
  rw [hv] at e1; cases e1
  have xn := Ex.new (o := HO.tup [.int (i : Nat), v]) (fresh_back I'.fh hT)
  exact ⟨_, xn, I'.allocT hT, T, [.int (i : Nat), v], rfl, st_of upd_same, _, [v], rfl, rfl, v, [], rfl, rv.mono xn _ _, rfl⟩
theorem sn_forO {wi : TI} {wr : Nat → D → D} (K : Addr → It) (hw : ∀ (σ : L2.St) (H : Hp) (p : Addr) (vs : List V) (R : It → Hp → Prop), σ[j]? = some (some (.ref p)) → H p = some (.lst vs) → R (K p) H → wi σ H R)
    (turn : ∀ (z : Zs) (p : Addr) (i : Nat) (σ' : L2.St) (H' F' : Hp) (e' : DEnv) (ds : List D) (vs : List V), I2 c z σ' H' F' e' → H' p = some (.lst vs) → RpL c F' ds vs →
      (∀ d, ds[i]? = some d → (K p).go i H' ∧ ∀ y H2, (K p).yld i H' y H2 → ∃ F2, Ex F' F2 ∧ I2 c z σ' H2 F2 e' ∧ Rp c F2 (wr i d) y) ∧ (ds[i]? = none → (K p).stop i H'))
    (hf : SndS c W (tFor wi gg ts) fall) (hg : ∀ (z : Zs) σ H F e d v e' (Q : L2.St → Hp → Prop), I2 c z σ H F e → Rp c F d v → fg d e = some e' → (∀ σ', I2 c z σ' H F e' → Q σ' H) → gg v σ H Q) (hb : SndS c W ts f) :
    SndS c W (tFor wi gg ts) (fForO j wr fall fg f) := fun z σ H F e D I h => by
  unfold fForO at h
  split at h
  · rename_i ds hbj
    obtain ⟨v, hv, q, e1, own, h0⟩ := I.slot j _ hbj
    subst e1
    obtain ⟨_, vs, hH, r⟩ := id own
    exact hw σ H q vs _ hv hH (sn_loopO (z := lenZ1 z j q) (p := q) (show (if j = j then _ else _) = _ by rw [if_pos rfl]) (turn _ q) hg hb (I.lendJ hbj hv) (lend_back h0 h))
  · rename_i ds hbj
    obtain ⟨v, hv, q, e1, own, h0⟩ := I.slot j _ hbj
    subst e1
    obtain ⟨_, vs, hH, r⟩ := id own
    exact hw σ H q vs _ hv hH (sn_loopO (p := q) (I.brv j _ _ hbj hv) (turn _ q) hg hb I h)
  · exact hf z σ H F e D I h
/-- for x in xs, xs a name -/
theorem ds_forL (hp : PassesOwn (model X.prog X.w) X.A X.env X.xe) (hc : X.calm = true) (hK : X.K = c.K) (ha : DE X c W a (tVar j) (fVar j)) (hg : DG X c tg gg fg) (hb : DSs X c W sts ts f)
    (hs : ∀ x, foldedSetIterable a X.env x = pure x := by intro _; rfl) : DS X c W (.For tg a sts [] pos) (tFor (iList c.K (tVar j)) gg ts) (fForO j (fun _ d => d) (fFor (fiL (fVar j)) fg f) fg f) :=
  ⟨ps_for hp hc (hK ▸ pi_list ha.pe) hg.pg hb.ps hs, sn_forO (Itl c.K) (fun σ H p vs R h1 h2 h3 => ⟨.ref p, h1, p, rfl, ⟨vs, sq_of h2⟩, h3⟩) (fun z p i σ' H' F' e' ds vs I' hH r => turn_list i σ' H' F' e' ds vs I' hH r) (sn_for (sn_iL ha.sn) hg.sn hb.sn) hg.sn hb.sn⟩
/-- for i, x in enumerate(xs), xs a name -/
theorem ds_forE {elts : List Expr} {kk : Nat} {p tpos : Pos} (hp : PassesOwn (model X.prog X.w) X.A X.env X.xe) (hc : X.calm = true) (hK : X.K = c.K) (hgl : Gl X "enumerate") (hm : X.mg "enumerate" = none) (ha : DE X c W a (tVar j) (fVar j)) (hst : starEach [a] X.env = [(false, eval a X.env)]) (hg : DG X c (.Tuple elts kk tpos) gg fg) (hb : DSs X c W sts ts f)
    (hs : ∀ x, foldedSetIterable (.Call (.Name "enumerate" p) [a] [] pos) X.env x = pure x := by intro _; rfl) {pos2 : Pos} :
    DS X c W (.For (.Tuple elts kk tpos) (.Call (.Name "enumerate" p) [a] [] pos) sts [] pos2) (tFor (iEnum c.K (tCons (tVar j) tNil)) gg ts) (fForO j (fun i d => .tup [.int (i : Nat), d]) (fFor (fiE (fA1 (fVar j) fA0)) fg f) fg f) :=
  ⟨ps_for hp hc (hK ▸ pi_enum hgl hm (pa_cons ha.pe pa_nil hst) hst) hg.pg hb.ps hs, sn_forO (Ite c.K) (fun σ H p vs R h1 h2 h3 => ⟨.ref p, h1, p, vs, rfl, sq_of h2, h3⟩) (fun z p i σ' H' F' e' ds vs I' hH r => turn_enum i σ' H' F' e' ds vs I' hH r) (sn_for (sn_iE (sn_consA ha.sn (da_nil (X := X)).sn)) hg.sn hb.sn) hg.sn hb.sn⟩
end
end
end DL

/-! DL, part am: e.append(x) of a new list that no name holds. -/
namespace DL
open PySem PyProof.Rows L2 Evl
section
variable {X : Cx} {c : Ct} {z : Zs} {W : WX} {F H : Hp} {σ : L2.St} {a o : Expr} {ta to : TE} {fa fo : FE}
def fAppN (fo fa : FE) : FE := fun e => (fo e).bind fun q => match q.1 with
  | .nw (.lst ds) => if ds.length < lim then (fa q.2).bind fun r => (Res.of (escape r.1 r.2)).bind fun s => .ok (.vl .non, s.2) else .stuck
  | _ => .stuck
theorem sn_appN (ho : SndE c W to fo) (ha : SndE c W ta fa) : SndE c W (tBM c.K "list" rAppend to (tCons ta tNil)) (fAppN fo fa) := fun z σ H F e Q I h => by
  unfold fAppN at h
  rw [Wp.bind] at h
  refine ho z σ H F e _ I (h.mono (fun q _ h x H1 F1 x1 I1 t1 => ?_) fun _ _ h => h)
  obtain ⟨t, e1⟩ := q
  dsimp only at h t1 I1
  split at h
  · rename_i ds
    split at h
    · rename_i hl
      obtain ⟨p, rfl, ⟨hF, vs, hp, r⟩, h0, nr⟩ := t1
      have hF0 : z.F0 p = none := by
        cases q : z.F0 p with
        | none => rfl
        | some u => have := I1.f0 _ _ q; rw [hF] at this; cases this
      refine ⟨.inl ⟨rfl, _, sq_of hp⟩, ?_⟩
      rw [Wp.bind] at h
      refine ha (hideZ z p (.lst vs)) σ H1 F1 e1 _ (I1.hide hp hF nr) (h.mono (fun r' _ h v H2 F2 x2 K2 t2 => ?_) fun xv e' g cls dd H' F' x' K r => g cls dd H' F' (x1.trans x') (K.unhide h0 hF0).1 r)
      rw [Wp.bind] at h
      obtain ⟨⟨d, e3⟩, l, h⟩ := Wp.of h
      obtain ⟨G, x3, J, rr⟩ := t2.escape K2 l
      obtain ⟨J0, hp1, hG, nr'⟩ := J.unhideTo (o' := .lst (vs ++ [v])) h0 hF0
      refine ⟨p, vs, v, rfl, rfl, hp1, by rw [← r.len]; exact Nat.lt_trans hl (by decide), ?_⟩
      exact h _ _ G ((x1.trans x2).trans x3) J0 rfl
    · exact h.elim
  · exact h.elim
theorem de_appN {apos pos : Pos} (ho : DE X c W o to fo) (hK : X.K = c.K) (ha : DE X c W a ta fa)
    (hbase : attributeBase o "append" X.env (eval o X.env) = eval o X.env := by rfl)
    (hfew : ((backTo pos (starEach [a] X.env)).all (fun x => !x.1) && (backToKw pos (keywordEach [] X.env)).all (fun x => x.1.isSome)
      && decide (([a] : List Expr).length + ([] : List Keyword).length + (if ([] : List Keyword).isEmpty then 0 else 1) < 30)) = true := by rfl)
    (hline : (apos.endLine == pos.line) = true := by rfl) (hs : starEach [a] X.env = (false, eval a X.env) :: starEach [] X.env := by rfl) :
    DE X c W (.Call (.Attribute o "append" apos) [a] [] pos) (tBM c.K "list" rAppend to (tCons ta tNil)) (fAppN fo fa) :=
  ⟨hK ▸ pe_bm PySem.F.plainAttrs_list PySem.F.slot_list_append PySem.F.type_list_append mt_append ho.pe (pa_cons ha.pe pa_nil hs) hbase hfew hline hs, sn_appN ho.sn ha.sn⟩
/-! ### a, b, c = x, y, z -/
def fPar3 (i j l : Nat) (fr : FA) : FS := fun e => (fr e).bind fun r => Res.of ((escs r.1 r.2).bind fun q => match q.1 with
  | [d1, d2, d3] => if i < q.2.length ∧ j < q.2.length ∧ l < q.2.length then some (.nx (((q.2.set i (some (.sh d1))).set j (some (.sh d2))).set l (some (.sh d3)))) else none
  | _ => none)
theorem sn_par3 {i j l : Nat} {tr : TA} {fr : FA} (ha : SndA c W tr fr) : SndS c W (tPar3 i j l tr) (fPar3 i j l fr) := fun z σ H F e D I h => by
  unfold fPar3 at h
  rw [Wp.bind] at h
  refine ha z σ H F e _ I (h.mono (fun r _ h vs H1 F1 x1 I1 t1 => ?_) fun _ _ h => h σ)
  obtain ⟨o, ea, h⟩ := Wp.of h
  obtain ⟨⟨ds, e1⟩, l1, ea⟩ := obind ea
  obtain ⟨G, x2, J, rr⟩ := t1.escs I1 l1
  dsimp only at ea
  split at ea
  · rename_i d1 d2 d3
    split at ea
    · rename_i hl
      cases ea
      obtain ⟨v1, r1, rfl, q1, v2, r2, rfl, q2, v3, r3, rfl, q3, e3⟩ := rr
      cases e3
      have hi : i < σ.length := by rw [← J.len]; exact hl.1
      have hj : j < σ.length := by rw [← J.len]; exact hl.2.1
      have hk : l < σ.length := by rw [← J.len]; exact hl.2.2
      have K1 := J.store hi q1
      have K2 := K1.store (i := j) (by rw [List.length_set]; exact hj) q2
      have K3 := K2.store (i := l) (by rw [List.length_set, List.length_set]; exact hk) q3
      exact ⟨v1, v2, v3, rfl, h _ _ G (x1.trans x2) K3⟩
    · cases ea
  · cases ea
theorem ds_par3 {i j l : Nat} {x y zz : Str} {a b d : Expr} {tr : TA} {fr : FA} {px py pz pt pos : Pos} {kt k2 pt2} (hc : X.calm = true) (hN : X.N.Nodup) (hi : X.N[i]? = some x) (hj : X.N[j]? = some y) (hl : X.N[l]? = some zz) (hij : i ≠ j) (hil : i ≠ l) (hjl : j ≠ l)
    (hx : X.env.scope.names.lookup x = some .local) (hy : X.env.scope.names.lookup y = some .local) (hz : X.env.scope.names.lookup zz = some .local) (ha : DA X c W [a, b, d] tr fr)
    (hw : swappedStores [.Tuple [.Name x px, .Name y py, .Name zz pz] kt pt] (.Tuple [a, b, d] k2 pt2) X.env = pure (some [x, y, zz]))
    (hs : swapsWithSole [.Tuple [.Name x px, .Name y py, .Name zz pz] kt pt] (.Tuple [a, b, d] k2 pt2) pos.line X.env = pure false := by rfl) :
    DS X c W (.Assign [.Tuple [.Name x px, .Name y py, .Name zz pz] kt pt] (.Tuple [a, b, d] k2 pt2) pos) (tPar3 i j l tr) (fPar3 i j l fr) := ⟨ps_par3 hc hN hi hj hl hij hil hjl hx hy hz ha.pa hw hs, sn_par3 ha.sn⟩
end
end DL

/-! DL, part an: max, min, sorted of a list of integers. -/
namespace DL
open PySem L2 Evl
variable {X : Ctx} {c : Ct} {W : WX}
def maxI : List Int → Option Int
  | [] => none
  | n :: ns => match maxI ns with
    | none => some n
    | some m => some (if m ≤ n then n else m)
def minI : List Int → Option Int
  | [] => none
  | n :: ns => match minI ns with
    | none => some n
    | some m => some (if n ≤ m then n else m)
theorem maxI_none : ∀ {ns : List Int}, maxI ns = none → ns = []
  | [], _ => rfl
  | n :: ns, h => by unfold maxI at h; split at h <;> cases h
theorem minI_none : ∀ {ns : List Int}, minI ns = none → ns = []
  | [], _ => rfl
  | n :: ns, h => by unfold minI at h; split at h <;> cases h
theorem maxI_ok : ∀ {ns : List Int} {m : Int}, maxI ns = some m → m ∈ ns ∧ ∀ y ∈ ns, y ≤ m
  | [], _, h => by cases h
  | n :: ns, m, h => by
    unfold maxI at h
    split at h
    · rename_i hn
      cases h
      rw [maxI_none hn]
      exact ⟨List.mem_cons_self, fun y hy => by simp at hy; omega⟩
    · rename_i k hk
      obtain ⟨h1, h2⟩ := maxI_ok hk
      cases h
      split
      · exact ⟨List.mem_cons_self, fun y hy => (List.mem_cons.mp hy).elim (fun e => by omega) fun z => by have := h2 y z; omega⟩
      · exact ⟨List.mem_cons_of_mem _ h1, fun y hy => (List.mem_cons.mp hy).elim (fun e => by omega) (h2 y)⟩
theorem minI_ok : ∀ {ns : List Int} {m : Int}, minI ns = some m → m ∈ ns ∧ ∀ y ∈ ns, m ≤ y
  | [], _, h => by cases h
  | n :: ns, m, h => by
    unfold minI at h
    split at h
    · rename_i hn
      cases h
      rw [minI_none hn]
      exact ⟨List.mem_cons_self, fun y hy => by simp at hy; omega⟩
    · rename_i k hk
      obtain ⟨h1, h2⟩ := minI_ok hk
      cases h
      split
      · exact ⟨List.mem_cons_self, fun y hy => (List.mem_cons.mp hy).elim (fun e => by omega) fun z => by have := h2 y z; omega⟩
      · exact ⟨List.mem_cons_of_mem _ h1, fun y hy => (List.mem_cons.mp hy).elim (fun e => by omega) (h2 y)⟩
def opMax (ds : List D) : Option RV := match ds with
  | [.lst xs] => (intsOf xs).bind fun ns => (maxI ns).map fun m => .fl (.int m)
  | [.rol xs] => (intsOf xs).bind fun ns => (maxI ns).map fun m => .fl (.int m)
  | _ => none
def opMin (ds : List D) : Option RV := match ds with
  | [.lst xs] => (intsOf xs).bind fun ns => (minI ns).map fun m => .fl (.int m)
  | [.rol xs] => (intsOf xs).bind fun ns => (minI ns).map fun m => .fl (.int m)
  | _ => none
theorem ok_max : RlOk c (rMax c.K) opMax := by
  intro F H ds vs rv Q x k l q
  unfold opMax at l
  split at l <;> try cases l
  all_goals
    obtain ⟨ns, h1, l⟩ := (Option.bind_eq_some_iff.mp l)
    obtain ⟨m, h2, rfl⟩ := omap l
    have e := intsOf_map h1
    subst e
    obtain ⟨g1, g2⟩ := maxI_ok h2
    have g0 : 0 < ns.length := List.length_pos_of_mem g1
    have u : ∀ j, j ∈ ns → (∀ y, y ∈ ns → y ≤ j) → j = m := fun j a b => by have := b m g1; have := g2 j a; omega
    obtain ⟨v, rfl, y⟩ := k.one
    first
      | (obtain ⟨p, ws, rfl, h, r⟩ := y.lst x
         rw [r.ints] at h
         exact ⟨p, ns, rfl, sq_of h, g0, fun j a b => by rw [u j a b]; exact q _ rfl⟩)
      | (obtain ⟨p, ws, rfl, h, r⟩ := y.rol x
         rw [r.ints] at h
         exact ⟨p, ns, rfl, h, g0, fun j a b => by rw [u j a b]; exact q _ rfl⟩)
theorem ok_min : RlOk c (rMin c.K) opMin := by
  intro F H ds vs rv Q x k l q
  unfold opMin at l
  split at l <;> try cases l
  all_goals
    obtain ⟨ns, h1, l⟩ := (Option.bind_eq_some_iff.mp l)
    obtain ⟨m, h2, rfl⟩ := omap l
    have e := intsOf_map h1
    subst e
    obtain ⟨g1, g2⟩ := minI_ok h2
    have g0 : 0 < ns.length := List.length_pos_of_mem g1
    have u : ∀ j, j ∈ ns → (∀ y, y ∈ ns → j ≤ y) → j = m := fun j a b => by have := b m g1; have := g2 j a; omega
    obtain ⟨v, rfl, y⟩ := k.one
    first
      | (obtain ⟨p, ws, rfl, h, r⟩ := y.lst x
         rw [r.ints] at h
         exact ⟨p, ns, rfl, sq_of h, g0, fun j a b => by rw [u j a b]; exact q _ rfl⟩)
      | (obtain ⟨p, ws, rfl, h, r⟩ := y.rol x
         rw [r.ints] at h
         exact ⟨p, ns, rfl, h, g0, fun j a b => by rw [u j a b]; exact q _ rfl⟩)
/-! ### sorted -/
def insI (a : Int) : List Int → List Int
  | [] => [a]
  | b :: bs => if a ≤ b then a :: b :: bs else b :: insI a bs
def sortI : List Int → List Int
  | [] => []
  | a :: as => insI a (sortI as)
theorem insI_perm (a : Int) : ∀ bs : List Int, (insI a bs).Perm (a :: bs)
  | [] => .refl _
  | b :: bs => by
    unfold insI
    split
    · exact .refl _
    · exact ((insI_perm a bs).cons b).trans (.swap a b bs)
theorem insI_sorted (a : Int) : ∀ {bs : List Int}, bs.Pairwise (· ≤ ·) → (insI a bs).Pairwise (· ≤ ·)
  | [], _ => by simp [insI]
  | b :: bs, h => by
    unfold insI
    obtain ⟨h1, h2⟩ := List.pairwise_cons.mp h
    split
    · rename_i hab
      refine List.pairwise_cons.mpr ⟨fun y hy => ?_, h⟩
      rcases List.mem_cons.mp hy with rfl | hy
      · exact hab
      · have := h1 y hy; omega
    · rename_i hab
      refine List.pairwise_cons.mpr ⟨fun y hy => ?_, insI_sorted a h2⟩
      rcases List.mem_cons.mp ((insI_perm a bs).mem_iff.mp hy) with rfl | hy
      · omega
      · exact h1 y hy
theorem sortI_perm : ∀ as : List Int, (sortI as).Perm as
  | [] => .refl _
  | a :: as => (insI_perm a _).trans ((sortI_perm as).cons a)
theorem sortI_sorted : ∀ as : List Int, (sortI as).Pairwise (· ≤ ·)
  | [] => .nil
  | a :: as => insI_sorted a (sortI_sorted as)
theorem sorted_uniq : ∀ {as bs : List Int}, as.Perm bs → as.Pairwise (· ≤ ·) → bs.Pairwise (· ≤ ·) → as = bs
  | [], bs, p, _, _ => (List.nil_perm.mp p).symm
  | a :: as, [], p, _, _ => absurd p.length_eq (by simp)
  | a :: as, b :: bs, p, h, g => by
    obtain ⟨h1, h2⟩ := List.pairwise_cons.mp h
    obtain ⟨g1, g2⟩ := List.pairwise_cons.mp g
    have e : a = b := by
      have ha := List.mem_cons.mp (p.mem_iff.mp (List.mem_cons_self (a := a) (l := as)))
      have hb := List.mem_cons.mp (p.mem_iff.mpr (List.mem_cons_self (a := b) (l := bs)))
      rcases ha with rfl | ha
      · rfl
      · rcases hb with rfl | hb
        · rfl
        · have := g1 a ha; have := h1 b hb; omega
    subst e
    rw [sorted_uniq ((List.perm_cons a).mp p) h2 g2]
def opSorted (ds : List D) : Option RV := match ds with
  | [.lst xs] => (intsOf xs).map fun ns => .nl ((sortI ns).map .int)
  | [.rol xs] => (intsOf xs).map fun ns => .nl ((sortI ns).map .int)
  | _ => none
theorem ok_sorted : RlOk c (rSortedI c.K) opSorted := by
  intro F H ds vs rv Q x k l q
  unfold opSorted at l
  split at l <;> try cases l
  all_goals
    obtain ⟨ns, h1, rfl⟩ := omap l
    have e := intsOf_map h1
    subst e
    have u : ∀ ys : List Int, ys.Perm ns → ys.Pairwise (· ≤ ·) → ys = sortI ns := fun ys a b => sorted_uniq (a.trans (sortI_perm ns).symm) b (sortI_sorted ns)
    obtain ⟨v, rfl, y⟩ := k.one
    first
      | (obtain ⟨p, ws, rfl, h, r⟩ := y.lst x
         rw [r.ints] at h
         exact ⟨p, ns, rfl, sq_of h, fun ys l a b hl => by rw [u ys a b]; exact q l _ (RpL.of_ints _) hl⟩)
      | (obtain ⟨p, ws, rfl, h, r⟩ := y.rol x
         rw [r.ints] at h
         exact ⟨p, ns, rfl, h, fun ys l a b hl => by rw [u ys a b]; exact q l _ (RpL.of_ints _) hl⟩)
end DL

/-! The text by places, what each def does on data. Printed by emit.py. -/
namespace K12
open PySem L2 Evl DL
def top (i : Nat) : Stmt := PySem.Challenge.pw_boardbits_k12_texts_of_lengths.main.body.getD i (.Pass ⟨0, 0, 0, 0⟩)
abbrev s0 : Stmt := inClass (top 8) 0
abbrev N0 : List Str := ["self", "whole", "rows", "columns"]
abbrev s1 : Stmt := inClass (top 8) 1
abbrev N1 : List Str := ["self"]
abbrev s2 : Stmt := inClass (top 8) 2
abbrev N2 : List Str := ["self"]
abbrev s3 : Stmt := inClass (top 8) 3
abbrev N3 : List Str := ["self"]
abbrev s11 : Stmt := inClass (top 8) 11
abbrev N11 : List Str := ["self", "factor"]
abbrev s13 : Stmt := inClass (top 8) 13
abbrev N13 : List Str := ["self", "found", "amount", "letter"]
abbrev s14 : Stmt := top 9
abbrev N14 : List Str := ["amount", "letter"]
abbrev s15 : Stmt := top 10
abbrev N15 : List Str := ["first", "second", "sign", "members", "one", "other"]
abbrev s17 : Stmt := top 12
abbrev N17 : List Str := []
abbrev s18 : Stmt := top 13
abbrev N18 : List Str := []
abbrev s19 : Stmt := top 14
abbrev N19 : List Str := ["text", "start", "end"]
abbrev s20 : Stmt := top 15
abbrev N20 : List Str := ["text", "found", "at", "end", "sign"]
abbrev s21 : Stmt := top 16
abbrev N21 : List Str := ["part", "sign"]
abbrev s22 : Stmt := top 17
abbrev N22 : List Str := ["parts", "at", "letters", "number"]
abbrev s23 : Stmt := top 18
abbrev N23 : List Str := ["parts", "at", "sign", "found", "term"]
abbrev s24 : Stmt := top 19
abbrev N24 : List Str := ["parts", "at", "start", "found", "end"]
abbrev s25 : Stmt := top 20
abbrev N25 : List Str := ["text", "parts", "found"]
abbrev s26 : Stmt := top 22
abbrev N26 : List Str := ["_law_script", "_law_k", "_law_cell"]
abbrev s27 : Stmt := top 23
abbrev N27 : List Str := ["_law_tape_here", "_law_many", "_law_mixed", "_law_digit"]
abbrev s28 : Stmt := top 24
abbrev N28 : List Str := ["_law_tape_here"]
abbrev s29 : Stmt := top 25
abbrev N29 : List Str := ["_law_tape_here", "_law_parts", "_law_members", "_law_many", "_law_k", "_law_sign", "_law_amount", "_law_kind"]
abbrev s30 : Stmt := top 26
abbrev N30 : List Str := ["_law_parts", "_law_choice", "_law_spot", "_law_at", "_law_numbers", "_law_bad", "_law_k"]
abbrev s31 : Stmt := top 27
abbrev N31 : List Str := ["_law_kind", "_law_found"]
abbrev s32 : Stmt := top 28
abbrev N32 : List Str := ["_law_members", "_law_found", "_law_k", "_law_amount", "_law_sign", "_law_letter", "_law_term"]
abbrev s33 : Stmt := top 29
abbrev N33 : List Str := ["_law_text_here", "_law_length", "e"]
abbrev s34 : Stmt := top 30
abbrev N34 : List Str := ["_law_script", "_law_tape_here", "_law_choice", "_law_spot", "_law_deep", "_law_parts", "_law_members", "_law_text_here", "_law_great", "_law_length", "_law_member", "_law_part"]
def fnT (k : Nat) : List Str := fieldsOf [[], [], ["line"], ["line", "name"], ["name"], ["number"], ["length"], [], ["width", "height"], ["row", "column"], ["name"], ["index"], ["name"], ["step"], [], ["members"], ["heights", "widths", "parts"], ["tree"], ["width", "height", "boards"], ["words", "position"], ["parts"], ["parts", "across", "down", "amounts", "known_tables"], ["parts", "views", "conditions", "aside", "along", "period", "strips"], ["width", "height", "boards", "history"], ["parts", "place", "known", "missing"], ["boards", "result"]] k
abbrev ct (w : World) (K : PySem.W.Frag) (cl : Nat → Addr) : Ct := ⟨K, cl, fnT, none, w⟩
/-! Length.__init__ -/
abbrev b_Length___init__ : FS := (fPutF ["members"] 15 0 "members" (fTup (fA1 (fVar 1) (fA1 (fVar 2) (fA1 (fVar 3) fA0)))))
def m_Length___init__ : Fn := fFn 4 b_Length___init__
/-! Length.whole -/
abbrev b_Length_whole : FS := (fRet (fOp2 opIx (fFld ["members"] 15 "members" (fVar 0)) (fC (.int 0))))
def m_Length_whole : Fn := fFn 1 b_Length_whole
/-! Length.rows -/
abbrev b_Length_rows : FS := (fRet (fOp2 opIx (fFld ["members"] 15 "members" (fVar 0)) (fC (.int 1))))
def m_Length_rows : Fn := fFn 1 b_Length_rows
/-! Length.columns -/
abbrev b_Length_columns : FS := (fRet (fOp2 opIx (fFld ["members"] 15 "members" (fVar 0)) (fC (.int 2))))
def m_Length_columns : Fn := fFn 1 b_Length_columns
/-! Length.__rmul__ -/
abbrev b_Length___rmul__ : FS := (fRet (fMake 15 [false, false, false] [] m_Length___init__ (fA1 (fOp2 opMul (fOp2 opIx (fFld ["members"] 15 "members" (fVar 0)) (fC (.int 0))) (fVar 1)) (fA1 (fOp2 opMul (fOp2 opIx (fFld ["members"] 15 "members" (fVar 0)) (fC (.int 1))) (fVar 1)) (fA1 (fOp2 opMul (fOp2 opIx (fFld ["members"] 15 "members" (fVar 0)) (fC (.int 2))) (fVar 1)) fA0)))))
def m_Length___rmul__ : Fn := fFn 2 b_Length___rmul__
/-! term_text -/
abbrev b_lengths_term_text : FS := (fSeq (fIfS (fB (fOp2 opEq (fVar 1) (fC (.str ""))))
  (fRet (fCB opStrI (fA1 (fVar 0) fA0))) fNext)
  (fRet (fIf (fB (fOp2 opEq (fVar 0) (fC (.int 1)))) (fVar 1) (fJoin (fJ1 (fFmt (fVar 0)) (fJ1 (fC (.str " * ")) (fJ1 (fFmt (fVar 1)) fJ0)))))))
def m_lengths_term_text : Fn := fFn 2 b_lengths_term_text
/-! Length.text -/
def b_Length_text_0 : FS := (fIfS (fB (fOp2 opNe (fVar 2) (fC (.int 0))))
  (fSeq (fAug 1 opAddIS (fIf (fB (fOp2 opLt (fVar 2) (fC (.int 0)))) (fIf (fTru (fVar 1)) (fC (.str " - ")) (fC (.str "-"))) (fIf (fTru (fVar 1)) (fC (.str " + ")) (fC (.str "")))))
  (fAug 1 opAddIS (fCall [false, false] [] m_lengths_term_text (fA1 (fCB opAbs (fA1 (fVar 2) fA0)) (fA1 (fVar 3) fA0))))) fNext)
abbrev b_Length_text : FS := (fSeq (fSet 1 (fC (.str "")))
  (fSeq (fFor (fiZip (fA1 (fFld ["members"] 15 "members" (fVar 0)) (fA1 (fTup (fA1 (fC (.str "N")) (fA1 (fC (.str "W")) (fA1 (fC (.str "")) fA0)))) fA0))) (fgTup 2 (fgCons (fgName 2) (fgCons (fgName 3) fgNil))) b_Length_text_0)
  (fRet (fIf (fTru (fVar 1)) (fVar 1) (fC (.str "0"))))))
def m_Length_text : Fn := fFn 4 b_Length_text
/-! joined -/
def c_lengths_joined_0 : FE := (fOp2 opAdd (fVar 4) (fOp2 opMul (fVar 2) (fVar 5)))
abbrev b_lengths_joined : FS := (fSeq (fSet 3 (fLc (fiZip (fA1 (fFld ["members"] 15 "members" (fVar 0)) (fA1 (fFld ["members"] 15 "members" (fVar 1)) fA0))) (fgTup 2 (fgCons (fgName 4) (fgCons (fgName 5) fgNil))) fYes c_lengths_joined_0 [4, 5]))
  (fRet (fMake 15 [false, false, false] [] m_Length___init__ (fA1 (fOp2 opIx (fVar 3) (fC (.int 0))) (fA1 (fOp2 opIx (fVar 3) (fC (.int 1))) (fA1 (fOp2 opIx (fVar 3) (fC (.int 2))) fA0))))))
def m_lengths_joined : Fn := fFn 6 b_lengths_joined
/-! width -/
abbrev b_lengths_width : FS := (fRet (fMake 15 [false, false, false] [] m_Length___init__ (fA1 (fC (.int 0)) (fA1 (fC (.int 1)) (fA1 (fC (.int 0)) fA0)))))
def m_lengths_width : Fn := fFn 0 b_lengths_width
/-! squares -/
abbrev b_lengths_squares : FS := (fRet (fMake 15 [false, false, false] [] m_Length___init__ (fA1 (fC (.int 1)) (fA1 (fC (.int 0)) (fA1 (fC (.int 0)) fA0)))))
def m_lengths_squares : Fn := fFn 0 b_lengths_squares
/-! word_end -/
def b_lengths_word_end_0 : FS := (fAug 2 opAddIS (fC (.int 1)))
def t_lengths_word_end_1 : FT := (fAnd (fB (fOp2 opLt (fVar 2) (fCB opLen (fA1 (fVar 0) fA0)))) (fB (fOp2 opInA (fOp2 opIx (fVar 0) (fVar 2)) (fOp2 opAdd (fC (.str "abcdefghijklmnopqrstuvwxyz")) (fC (.str "0123456789"))))))
abbrev b_lengths_word_end : FS := (fSeq (fSet 2 (fVar 1))
  (fSeq (loopW t_lengths_word_end_1 b_lengths_word_end_0 100000)
  (fRet (fVar 2))))
def m_lengths_word_end : Fn := fFn 3 b_lengths_word_end
/-! parts_of -/
def b_lengths_parts_of_0 : FS := (fSeq (fSet 3 (fCall [false, false] [] m_lengths_word_end (fA1 (fVar 0) (fA1 (fVar 2) fA0))))
  (fIfS (fB (fOp2 opGt (fVar 3) (fVar 2)))
  (fSeq (fDrop (fApp 1 (fSl (fVar 0) (fPo (fVar 2)) (fPo (fVar 3)))))
  (fSet 2 (fVar 3))) (fIfS (fB (fOp2 opEq (fOp2 opIx (fVar 0) (fVar 2)) (fC (.str " "))))
  (fAug 2 opAddIS (fC (.int 1))) (fIfS (fB (fOp2 opInA (fOp2 opIx (fVar 0) (fVar 2)) (fC (.str "WN"))))
  (fSeq (fDrop (fApp 1 (fOp2 opIx (fVar 0) (fVar 2))))
  (fAug 2 opAddIS (fC (.int 1)))) (fSeq (fSet 4 (fIf (fB (fOp2 opInA (fSl (fVar 0) (fPo (fVar 2)) (fPo (fOp2 opAdd (fVar 2) (fC (.int 2))))) (fC (.tup [.str "<<", .str ">>", .str "&", .str "|", .str "^", .str "~", .str "(", .str ")", .str "=", .str "+", .str "-", .str "*", .str ","])))) (fSl (fVar 0) (fPo (fVar 2)) (fPo (fOp2 opAdd (fVar 2) (fC (.int 2))))) (fOp2 opIx (fVar 0) (fVar 2))))
  (fSeq (fIfS (fB (fOp2 opNiA (fVar 4) (fC (.tup [.str "<<", .str ">>", .str "&", .str "|", .str "^", .str "~", .str "(", .str ")", .str "=", .str "+", .str "-", .str "*", .str ","]))))
  (fRet (fC .non)) fNext)
  (fSeq (fDrop (fApp 1 (fVar 4)))
  (fAug 2 opAddIS (fCB opLen (fA1 (fVar 4) fA0))))))))))
def t_lengths_parts_of_1 : FT := (fB (fOp2 opLt (fVar 2) (fCB opLen (fA1 (fVar 0) fA0))))
abbrev q_lengths_parts_of_0 : FS := (fSet 1 (fLst fA0))
abbrev q_lengths_parts_of_1 : FS := (fSet 2 (fC (.int 0)))
abbrev q_lengths_parts_of_2 : FS := (loopW t_lengths_parts_of_1 b_lengths_parts_of_0 100000)
abbrev q_lengths_parts_of_3 : FS := (fRet (fVar 1))
abbrev k_lengths_parts_of_3 : FS := q_lengths_parts_of_3
abbrev k_lengths_parts_of_2 : FS := fSeq q_lengths_parts_of_2 k_lengths_parts_of_3
abbrev k_lengths_parts_of_1 : FS := fSeq q_lengths_parts_of_1 k_lengths_parts_of_2
abbrev k_lengths_parts_of_0 : FS := fSeq q_lengths_parts_of_0 k_lengths_parts_of_1
abbrev b_lengths_parts_of : FS := k_lengths_parts_of_0
def m_lengths_parts_of : Fn := fFn 5 b_lengths_parts_of
/-! number_of -/
def c_lengths_number_of_0 : FE := (fVar 1)
def t_lengths_number_of_1 : FT := (fB (fOp2 opNiA (fVar 1) (fC (.str "0123456789"))))
abbrev b_lengths_number_of : FS := (fSeq (fIfS (fOr (fNot (fB (fChain opLe opLe (fC (.int 1)) (fCB opLen (fA1 (fVar 0) fA0)) (fC (.int 4))))) (fTru (fLc (fiA (fVar 0)) (fgName 1) t_lengths_number_of_1 c_lengths_number_of_0 [1])))
  (fRet (fC .non)) fNext)
  (fRet (fIf (fAnd (fB (fOp2 opEq (fOp2 opIx (fVar 0) (fC (.int 0))) (fC (.str "0")))) (fB (fOp2 opGt (fCB opLen (fA1 (fVar 0) fA0)) (fC (.int 1))))) (fC .non) (fCB opIntA (fA1 (fVar 0) fA0)))))
def m_lengths_number_of : Fn := fFn 2 b_lengths_number_of
/-! term_at -/
abbrev q_lengths_term_at_0 : FS := (fSet 2 (fDisp (fA1 (fC (.str "W")) (fA1 (fCall [] [] m_lengths_width fA0) (fA1 (fC (.str "N")) (fA1 (fCall [] [] m_lengths_squares fA0) fA0))))))
abbrev q_lengths_term_at_1 : FS := (fIfS (fAnd (fB (fOp2 opLt (fVar 1) (fCB opLen (fA1 (fVar 0) fA0)))) (fB (fOp2 opInD (fOp2 opIx (fVar 0) (fVar 1)) (fVar 2))))
  (fRet (fTup (fA1 (fOp2 opDGet (fVar 2) (fOp2 opIx (fVar 0) (fVar 1))) (fA1 (fOp2 opAdd (fVar 1) (fC (.int 1))) fA0)))) fNext)
abbrev q_lengths_term_at_2 : FS := (fSet 3 (fIf (fB (fOp2 opLt (fVar 1) (fCB opLen (fA1 (fVar 0) fA0)))) (fCall [false] [] m_lengths_number_of (fA1 (fOp2 opIx (fVar 0) (fVar 1)) fA0)) (fC .non)))
abbrev q_lengths_term_at_3 : FS := (fIfS (fB (fOp2 opIsN (fVar 3) (fC .non)))
  (fRet (fC .non)) fNext)
abbrev q_lengths_term_at_4 : FS := (fIfS (fAnd (fB (fOp2 opLt (fOp2 opAdd (fVar 1) (fC (.int 1))) (fCB opLen (fA1 (fVar 0) fA0)))) (fB (fOp2 opEq (fOp2 opIx (fVar 0) (fOp2 opAdd (fVar 1) (fC (.int 1)))) (fC (.str "*")))))
  (fSeq (fIfS (fAnd (fB (fOp2 opLt (fOp2 opAdd (fVar 1) (fC (.int 2))) (fCB opLen (fA1 (fVar 0) fA0)))) (fB (fOp2 opInD (fOp2 opIx (fVar 0) (fOp2 opAdd (fVar 1) (fC (.int 2)))) (fVar 2))))
  (fRet (fTup (fA1 (fOwn2 isInt (isIns 15) true m_Length___rmul__ (fVar 3) (fOp2 opDGet (fVar 2) (fOp2 opIx (fVar 0) (fOp2 opAdd (fVar 1) (fC (.int 2)))))) (fA1 (fOp2 opAdd (fVar 1) (fC (.int 3))) fA0)))) fNext)
  (fRet (fC .non))) fNext)
abbrev q_lengths_term_at_5 : FS := (fRet (fTup (fA1 (fMake 15 [false, false, false] [] m_Length___init__ (fA1 (fC (.int 0)) (fA1 (fC (.int 0)) (fA1 (fVar 3) fA0)))) (fA1 (fOp2 opAdd (fVar 1) (fC (.int 1))) fA0))))
abbrev k_lengths_term_at_5 : FS := q_lengths_term_at_5
abbrev k_lengths_term_at_4 : FS := fSeq q_lengths_term_at_4 k_lengths_term_at_5
abbrev k_lengths_term_at_3 : FS := fSeq q_lengths_term_at_3 k_lengths_term_at_4
abbrev k_lengths_term_at_2 : FS := fSeq q_lengths_term_at_2 k_lengths_term_at_3
abbrev k_lengths_term_at_1 : FS := fSeq q_lengths_term_at_1 k_lengths_term_at_2
abbrev k_lengths_term_at_0 : FS := fSeq q_lengths_term_at_0 k_lengths_term_at_1
abbrev b_lengths_term_at : FS := k_lengths_term_at_0
def m_lengths_term_at : Fn := fFn 4 b_lengths_term_at
/-! sum_at -/
def b_lengths_sum_at_0 : FS := (fSeq (fSet 4 (fCall [false, false] [] m_lengths_term_at (fA1 (fVar 0) (fA1 (fVar 1) fA0))))
  (fSeq (fIfS (fB (fOp2 opIsN (fVar 4) (fC .non)))
  (fRet (fC .non)) fNext)
  (fSeq (fSet 3 (fCall [false, false, false] [] m_lengths_joined (fA1 (fVar 3) (fA1 (fOp2 opIx (fVar 4) (fC (.int 0))) (fA1 (fVar 2) fA0)))))
  (fSeq (fSet 1 (fOp2 opIx (fVar 4) (fC (.int 1))))
  (fSeq (fIfS (fOr (fB (fOp2 opGe (fVar 1) (fCB opLen (fA1 (fVar 0) fA0)))) (fB (fOp2 opNiA (fOp2 opIx (fVar 0) (fVar 1)) (fTup (fA1 (fC (.str "+")) (fA1 (fC (.str "-")) fA0))))))
  (fRet (fTup (fA1 (fVar 3) (fA1 (fVar 1) fA0)))) fNext)
  (fSeq (fSet 2 (fIf (fB (fOp2 opEq (fOp2 opIx (fVar 0) (fVar 1)) (fC (.str "+")))) (fC (.int 1)) (fOp1 opNeg (fC (.int 1)))))
  (fAug 1 opAddIS (fC (.int 1)))))))))
def t_lengths_sum_at_1 : FT := (fB (fC (.bl true)))
abbrev q_lengths_sum_at_0 : FS := (fSet 2 (fC (.int 1)))
abbrev q_lengths_sum_at_1 : FS := (fIfS (fAnd (fB (fOp2 opLt (fVar 1) (fCB opLen (fA1 (fVar 0) fA0)))) (fB (fOp2 opEq (fOp2 opIx (fVar 0) (fVar 1)) (fC (.str "-")))))
  (fSeq (fSet 2 (fOp1 opNeg (fC (.int 1))))
  (fAug 1 opAddIS (fC (.int 1)))) fNext)
abbrev q_lengths_sum_at_2 : FS := (fSet 3 (fMake 15 [false, false, false] [] m_Length___init__ (fA1 (fC (.int 0)) (fA1 (fC (.int 0)) (fA1 (fC (.int 0)) fA0)))))
abbrev q_lengths_sum_at_3 : FS := (loopW t_lengths_sum_at_1 b_lengths_sum_at_0 100000)
abbrev k_lengths_sum_at_3 : FS := q_lengths_sum_at_3
abbrev k_lengths_sum_at_2 : FS := fSeq q_lengths_sum_at_2 k_lengths_sum_at_3
abbrev k_lengths_sum_at_1 : FS := fSeq q_lengths_sum_at_1 k_lengths_sum_at_2
abbrev k_lengths_sum_at_0 : FS := fSeq q_lengths_sum_at_0 k_lengths_sum_at_1
abbrev b_lengths_sum_at : FS := k_lengths_sum_at_0
def m_lengths_sum_at : Fn := fFn 5 b_lengths_sum_at
/-! length_at -/
def b_lengths_length_at_0 : FS := (fAug 2 opAddIS (fC (.int 1)))
def t_lengths_length_at_1 : FT := (fAnd (fB (fOp2 opLt (fVar 2) (fCB opLen (fA1 (fVar 0) fA0)))) (fB (fOp2 opEq (fOp2 opIx (fVar 0) (fVar 2)) (fC (.str "(")))))
abbrev q_lengths_length_at_0 : FS := (fSet 2 (fVar 1))
abbrev q_lengths_length_at_1 : FS := (loopW t_lengths_length_at_1 b_lengths_length_at_0 100000)
abbrev q_lengths_length_at_2 : FS := (fSet 3 (fCall [false, false] [] m_lengths_sum_at (fA1 (fVar 0) (fA1 (fVar 2) fA0))))
abbrev q_lengths_length_at_3 : FS := (fIfS (fB (fOp2 opIsN (fVar 3) (fC .non)))
  (fRet (fC .non)) fNext)
abbrev q_lengths_length_at_4 : FS := (fSet 4 (fOp2 opSub (fOp2 opAdd (fOp2 opIx (fVar 3) (fC (.int 1))) (fVar 2)) (fVar 1)))
abbrev q_lengths_length_at_5 : FS := (fIfS (fB (fOp2 opNe (fSl (fVar 0) (fPo (fOp2 opIx (fVar 3) (fC (.int 1)))) (fPo (fVar 4))) (fOp2 opMul (fLst (fA1 (fC (.str ")")) fA0)) (fOp2 opSub (fVar 2) (fVar 1)))))
  (fRet (fC .non)) fNext)
abbrev q_lengths_length_at_6 : FS := (fRet (fTup (fA1 (fOp2 opIx (fVar 3) (fC (.int 0))) (fA1 (fVar 4) fA0))))
abbrev k_lengths_length_at_6 : FS := q_lengths_length_at_6
abbrev k_lengths_length_at_5 : FS := fSeq q_lengths_length_at_5 k_lengths_length_at_6
abbrev k_lengths_length_at_4 : FS := fSeq q_lengths_length_at_4 k_lengths_length_at_5
abbrev k_lengths_length_at_3 : FS := fSeq q_lengths_length_at_3 k_lengths_length_at_4
abbrev k_lengths_length_at_2 : FS := fSeq q_lengths_length_at_2 k_lengths_length_at_3
abbrev k_lengths_length_at_1 : FS := fSeq q_lengths_length_at_1 k_lengths_length_at_2
abbrev k_lengths_length_at_0 : FS := fSeq q_lengths_length_at_0 k_lengths_length_at_1
abbrev b_lengths_length_at : FS := k_lengths_length_at_0
def m_lengths_length_at : Fn := fFn 5 b_lengths_length_at
/-! read_length -/
abbrev q_lengths_read_length_0 : FS := (fSet 1 (fCall [false] [] m_lengths_parts_of (fA1 (fVar 0) fA0)))
abbrev q_lengths_read_length_1 : FS := (fSet 2 (fIf (fB (fOp2 opIsN (fVar 1) (fC .non))) (fC .non) (fCall [false, false] [] m_lengths_length_at (fA1 (fVar 1) (fA1 (fC (.int 0)) fA0)))))
abbrev q_lengths_read_length_2 : FS := (fIfS (fOr (fB (fOp2 opIsN (fVar 1) (fC .non))) (fOr (fB (fOp2 opIsN (fVar 2) (fC .non))) (fB (fOp2 opNe (fOp2 opIx (fVar 2) (fC (.int 1))) (fCB opLen (fA1 (fVar 1) fA0))))))
  (fRaise0 1) fNext)
abbrev q_lengths_read_length_3 : FS := (fRet (fOp2 opIx (fVar 2) (fC (.int 0))))
abbrev k_lengths_read_length_3 : FS := q_lengths_read_length_3
abbrev k_lengths_read_length_2 : FS := fSeq q_lengths_read_length_2 k_lengths_read_length_3
abbrev k_lengths_read_length_1 : FS := fSeq q_lengths_read_length_1 k_lengths_read_length_2
abbrev k_lengths_read_length_0 : FS := fSeq q_lengths_read_length_0 k_lengths_read_length_1
abbrev b_lengths_read_length : FS := k_lengths_read_length_0
def m_lengths_read_length : Fn := fFn 3 b_lengths_read_length
/-! _law_tape -/
abbrev b_law_tape : FS := (fSeq (fSet 2 (fIf (fB (fOp2 opLt (fVar 1) (fCB opLen (fA1 (fVar 0) fA0)))) (fOp2 opIx (fVar 0) (fVar 1)) (fC (.int 0))))
  (fRet (fLst (fA1 (fCB opAbs (fA1 (fVar 2) fA0)) (fA1 (fOp2 opAdd (fOp2 opMul (fC (.int 7919)) (fVar 1)) (fC (.int 104729))) fA0)))))
def m_law_tape : Fn := fFn 3 b_law_tape
/-! _law_pick -/
abbrev q_law_pick_0 : FS := (fIfS (fB (fOp2 opGe (fOp2 opIx (fVar 0) (fC (.int 0))) (fOp2 opPow (fC (.int 10)) (fC (.int 18)))))
  (fSeq (fSet 3 (fOp2 opMod (fCB opInt (fA1 (fOp2 opIx (fVar 0) (fC (.int 0))) fA0)) (fVar 1)))
  (fSeq (fSetIx 0 (fC (.int 0)) (fOp2 opDiv (fOp2 opIx (fVar 0) (fC (.int 0))) (fVar 1)))
  (fRet (fVar 3)))) fNext)
abbrev q_law_pick_1 : FS := (fSetIx 0 (fC (.int 1)) (fOp2 opMod (fCB opInt (fA1 (fOp2 opAdd (fOp2 opAdd (fOp2 opMul (fOp2 opIx (fVar 0) (fC (.int 1))) (fC (.int 48271))) (fOp2 opMul (fOp2 opIx (fVar 0) (fC (.int 0))) (fC (.int 69621)))) (fC (.int 11))) fA0)) (fC (.int 2147483647))))
abbrev q_law_pick_2 : FS := (fSet 2 (fOp2 opMod (fCB opInt (fA1 (fOp2 opAdd (fOp2 opAdd (fOp2 opMul (fOp2 opIx (fVar 0) (fC (.int 1))) (fOp2 opIx (fVar 0) (fC (.int 1)))) (fOp2 opMul (fOp2 opIx (fVar 0) (fC (.int 1))) (fC (.int 40692)))) (fC (.int 7))) fA0)) (fC (.int 2147483399))))
abbrev q_law_pick_3 : FS := (fRet (fOp2 opMod (fCB opInt (fA1 (fOp2 opDiv (fVar 2) (fC (.int 64))) fA0)) (fVar 1)))
abbrev k_law_pick_3 : FS := q_law_pick_3
abbrev k_law_pick_2 : FS := fSeq q_law_pick_2 k_law_pick_3
abbrev k_law_pick_1 : FS := fSeq q_law_pick_1 k_law_pick_2
abbrev k_law_pick_0 : FS := fSeq q_law_pick_0 k_law_pick_1
abbrev b_law_pick : FS := k_law_pick_0
def m_law_pick : Fn := fFn 4 b_law_pick
/-! _law_gap -/
abbrev b_law_gap : FS := (fRet (fOp2 opMulA (fC (.str " ")) (fOp2 opIx (fLst (fA1 (fC (.int 0)) (fA1 (fC (.int 0)) (fA1 (fC (.int 1)) (fA1 (fC (.int 3)) fA0))))) (fCall [true, false] [] m_law_pick (fA1 (fVar 0) (fA1 (fC (.int 4)) fA0))))))
def m_law_gap : Fn := fFn 1 b_law_gap
/-! _law_terms -/
def b_law_terms_0 : FS := (fSeq (fSet 5 (fC (.int 1)))
  (fSeq (fIfS (fOr (fB (fOp2 opGt (fVar 4) (fC (.int 0)))) (fB (fOp2 opEq (fCall [true, false] [] m_law_pick (fA1 (fVar 0) (fA1 (fC (.int 3)) fA0))) (fC (.int 1)))))
  (fSeq (fSet 5 (fIf (fB (fOp2 opGt (fVar 4) (fC (.int 0)))) (fOp2 opIx (fLst (fA1 (fC (.int 1)) (fA1 (fOp1 opNeg (fC (.int 1))) fA0))) (fCall [true, false] [] m_law_pick (fA1 (fVar 0) (fA1 (fC (.int 2)) fA0)))) (fOp1 opNeg (fC (.int 1)))))
  (fDrop (fApp 1 (fIf (fB (fOp2 opEq (fVar 5) (fC (.int 1)))) (fC (.str "+")) (fC (.str "-")))))) fNext)
  (fSeq (fSet 6 (fCall [true, false] [] m_law_pick (fA1 (fVar 0) (fA1 (fOp2 opIx (fLst (fA1 (fC (.int 10)) (fA1 (fC (.int 10)) (fA1 (fC (.int 2000)) fA0)))) (fCall [true, false] [] m_law_pick (fA1 (fVar 0) (fA1 (fC (.int 3)) fA0)))) fA0))))
  (fSeq (fSet 7 (fCall [true, false] [] m_law_pick (fA1 (fVar 0) (fA1 (fC (.int 5)) fA0))))
  (fIfS (fB (fOp2 opLt (fVar 7) (fC (.int 2))))
  (fSeq (fSet 1 (fOp2 opAdd (fVar 1) (fLst (fA1 (fCB opStrI (fA1 (fVar 6) fA0)) (fA1 (fC (.str "*")) (fA1 (fOp2 opIx (fC (.str "NW")) (fVar 7)) fA0))))))
  (fSetIx 2 (fVar 7) (fOp2 opAdd (fOp2 opIx (fVar 2) (fVar 7)) (fOp2 opMul (fVar 5) (fVar 6))))) (fIfS (fB (fOp2 opLt (fVar 7) (fC (.int 4))))
  (fSeq (fDrop (fApp 1 (fOp2 opIx (fC (.str "NW")) (fOp2 opSub (fVar 7) (fC (.int 2))))))
  (fSetIx 2 (fOp2 opSub (fVar 7) (fC (.int 2))) (fOp2 opAdd (fOp2 opIx (fVar 2) (fOp2 opSub (fVar 7) (fC (.int 2)))) (fVar 5)))) (fSeq (fDrop (fApp 1 (fCB opStrI (fA1 (fVar 6) fA0))))
  (fSetIx 2 (fC (.int 2)) (fOp2 opAdd (fOp2 opIx (fVar 2) (fC (.int 2))) (fOp2 opMul (fVar 5) (fVar 6)))))))))))
abbrev q_law_terms_0 : FS := (fSet 1 (fLst fA0))
abbrev q_law_terms_1 : FS := (fSet 2 (fLst (fA1 (fC (.int 0)) (fA1 (fC (.int 0)) (fA1 (fC (.int 0)) fA0)))))
abbrev q_law_terms_2 : FS := (fSet 3 (fOp2 opAdd (fC (.int 1)) (fCall [true, false] [] m_law_pick (fA1 (fVar 0) (fA1 (fC (.int 5)) fA0)))))
abbrev q_law_terms_3 : FS := (fFor (fiR1 (fA1 (fVar 3) fA0)) (fgName 4) b_law_terms_0)
abbrev q_law_terms_4 : FS := (fRet (fLst (fA1 (fVar 1) (fA1 (fVar 2) fA0))))
abbrev k_law_terms_4 : FS := q_law_terms_4
abbrev k_law_terms_3 : FS := fSeq q_law_terms_3 k_law_terms_4
abbrev k_law_terms_2 : FS := fSeq q_law_terms_2 k_law_terms_3
abbrev k_law_terms_1 : FS := fSeq q_law_terms_1 k_law_terms_2
abbrev k_law_terms_0 : FS := fSeq q_law_terms_0 k_law_terms_1
abbrev b_law_terms : FS := k_law_terms_0
def m_law_terms : Fn := fFn 8 b_law_terms
/-! _law_spoilt -/
def c_law_spoilt_0 : FE := (fVar 6)
def t_law_spoilt_1 : FT := (fB (fOp2 opInA (fSl (fOp2 opIx (fVar 0) (fVar 6)) fNoP (fPo (fC (.int 1)))) (fC (.str "0123456789"))))
abbrev q_law_spoilt_0 : FS := (fSet 3 (fOp2 opMod (fCB opInt (fA1 (fVar 2) fA0)) (fCB opLen (fA1 (fVar 0) fA0))))
abbrev q_law_spoilt_1 : FS := (fIfS (fB (fOp2 opEq (fVar 1) (fC (.int 0))))
  (fRet (fOp2 opAdd (fOp2 opAdd (fSl (fVar 0) fNoP (fPo (fVar 3))) (fLst (fA1 (fC (.str "+")) (fA1 (fC (.str "*")) fA0)))) (fSl (fVar 0) (fPo (fVar 3)) fNoP))) fNext)
abbrev q_law_spoilt_2 : FS := (fIfS (fB (fOp2 opEq (fVar 1) (fC (.int 1))))
  (fSeq (fSet 4 (fLc (fiR1 (fA1 (fCB opLen (fA1 (fVar 0) fA0)) fA0)) (fgName 6) t_law_spoilt_1 c_law_spoilt_0 [6]))
  (fSeq (fSet 5 (fOp2 opIx (fLst (fA1 (fC (.str "01")) (fA1 (fC (.str "00")) (fA1 (fC (.str "12345")) (fA1 (fC (.str "x")) (fA1 (fC (.str "w")) (fA1 (fC (.str "1.0")) (fA1 (fC (.str "_1")) fA0)))))))) (fOp2 opMod (fCB opInt (fA1 (fOp2 opDiv (fVar 2) (fC (.int 60))) fA0)) (fC (.int 7)))))
  (fSeq (fSet 3 (fIf (fB (fOp2 opNe (fVar 4) (fLst fA0))) (fOp2 opIx (fVar 4) (fOp2 opMod (fCB opInt (fA1 (fVar 2) fA0)) (fCB opLen (fA1 (fVar 4) fA0)))) (fCB opLen (fA1 (fVar 0) fA0))))
  (fRet (fOp2 opAdd (fOp2 opAdd (fSl (fVar 0) fNoP (fPo (fVar 3))) (fLst (fA1 (fVar 5) fA0))) (fSl (fVar 0) (fPo (fOp2 opAdd (fVar 3) (fC (.int 1)))) fNoP)))))) fNext)
abbrev q_law_spoilt_3 : FS := (fIfS (fB (fOp2 opEq (fVar 1) (fC (.int 2))))
  (fRet (fOp2 opIx (fLst (fA1 (fOp2 opAdd (fLst (fA1 (fC (.str ")")) fA0)) (fVar 0)) (fA1 (fOp2 opAdd (fLst (fA1 (fC (.str "(")) fA0)) (fVar 0)) (fA1 (fOp2 opAdd (fVar 0) (fLst (fA1 (fC (.str ")")) fA0))) (fA1 (fOp2 opAdd (fVar 0) (fLst (fA1 (fC (.str "(")) fA0))) fA0))))) (fOp2 opMod (fCB opInt (fA1 (fVar 2) fA0)) (fC (.int 4))))) fNext)
abbrev q_law_spoilt_4 : FS := (fIfS (fB (fOp2 opEq (fVar 1) (fC (.int 3))))
  (fRet (fOp2 opAdd (fVar 0) (fLst (fA1 (fC (.str "W")) fA0)))) fNext)
abbrev q_law_spoilt_5 : FS := (fIfS (fB (fOp2 opEq (fVar 1) (fC (.int 4))))
  (fRet (fOp2 opAdd (fVar 0) (fLst (fA1 (fOp2 opIx (fLst (fA1 (fC (.str "+")) (fA1 (fC (.str "-")) (fA1 (fC (.str "*")) fA0)))) (fOp2 opMod (fCB opInt (fA1 (fVar 2) fA0)) (fC (.int 3)))) fA0)))) fNext)
abbrev q_law_spoilt_6 : FS := (fIfS (fB (fOp2 opEq (fVar 1) (fC (.int 5))))
  (fRet (fOp2 opAdd (fVar 0) (fLst (fA1 (fC (.str "+")) (fA1 (fC (.str "W")) (fA1 (fC (.str "*")) (fA1 (fC (.str "2")) fA0))))))) fNext)
abbrev q_law_spoilt_7 : FS := (fIfS (fB (fOp2 opEq (fVar 1) (fC (.int 6))))
  (fRet (fLst fA0)) fNext)
abbrev q_law_spoilt_8 : FS := (fRet (fOp2 opAdd (fVar 0) (fLst (fA1 (fC (.str "+")) (fA1 (fOp2 opIx (fLst (fA1 (fC (.str ";")) (fA1 (fC (.str "n")) (fA1 (fC (.str "W W")) (fA1 (fC (.str "2 3")) (fA1 (fC (.str "- 1")) (fA1 (fC (.str "+")) fA0))))))) (fOp2 opMod (fCB opInt (fA1 (fVar 2) fA0)) (fC (.int 6)))) fA0)))))
abbrev k_law_spoilt_8 : FS := q_law_spoilt_8
abbrev k_law_spoilt_7 : FS := fSeq q_law_spoilt_7 k_law_spoilt_8
abbrev k_law_spoilt_6 : FS := fSeq q_law_spoilt_6 k_law_spoilt_7
abbrev k_law_spoilt_5 : FS := fSeq q_law_spoilt_5 k_law_spoilt_6
abbrev k_law_spoilt_4 : FS := fSeq q_law_spoilt_4 k_law_spoilt_5
abbrev k_law_spoilt_3 : FS := fSeq q_law_spoilt_3 k_law_spoilt_4
abbrev k_law_spoilt_2 : FS := fSeq q_law_spoilt_2 k_law_spoilt_3
abbrev k_law_spoilt_1 : FS := fSeq q_law_spoilt_1 k_law_spoilt_2
abbrev k_law_spoilt_0 : FS := fSeq q_law_spoilt_0 k_law_spoilt_1
abbrev b_law_spoilt : FS := k_law_spoilt_0
def m_law_spoilt : Fn := fFn 7 b_law_spoilt
/-! _law_wrong -/
abbrev q_law_wrong_0 : FS := (fSet 1 (fLst (fA1 (fC (.str "W\n")) (fA1 (fC (.str "\nW")) (fA1 (fC (.str "W +\n1")) (fA1 (fC (.str "+W")) (fA1 (fC (.str "+ 3")) (fA1 (fC (.str "(W) + 1")) (fA1 (fC (.str "1 + (W)")) (fA1 (fC (.str "-(W)")) (fA1 (fC (.str "2 * 3")) (fA1 (fC (.str "N * W")) (fA1 (fC (.str "W * N")) fA0)))))))))))))
abbrev q_law_wrong_1 : FS := (fSet 1 (fOp2 opAdd (fVar 1) (fLst (fA1 (fC (.str "1_0")) (fA1 (fC (.str "--W")) (fA1 (fC (.str "W + + 1")) (fA1 (fC (.str "W - - 1")) (fA1 (fC (.str "()")) (fA1 (fC (.str "(")) (fA1 (fC (.str "W)")) (fA1 (fC (.str "2W")) (fA1 (fC (.str "2 W")) (fA1 (fC (.str "W2")) (fA1 (fC (.str "w")) (fA1 (fC (.str "n")) (fA1 (fC (.str "0x1")) fA0))))))))))))))))
abbrev q_law_wrong_2 : FS := (fSet 1 (fOp2 opAdd (fVar 1) (fLst (fA1 (fC (.str "1 * 1")) (fA1 (fC (.str "(W))")) (fA1 (fC (.str "((W)")) (fA1 (fC (.str "W * 1")) (fA1 (fC (.str "1e3")) (fA1 (fC (.str "2 * (W)")) (fA1 (fC (.str "(2) * W")) (fA1 (fC (.str "W/2")) (fA1 (fC (.str "W // 2")) (fA1 (fC (.str "-")) (fA1 (fC (.str "*")) fA0))))))))))))))
abbrev q_law_wrong_3 : FS := (fSet 1 (fOp2 opAdd (fVar 1) (fLst (fA1 (fC (.str "W;")) (fA1 (fC (.str "W,")) (fA1 (fC (.str "3.")) (fA1 (fC (.str "W + -1")) (fA1 (fC (.str "WW")) (fA1 (fC (.str "N N")) (fA1 (fOp2 opMulA (fC (.str "9")) (fC (.int 5000))) (fA1 (fOp2 opAdd (fOp2 opMulA (fC (.str "1")) (fC (.int 4400))) (fC (.str " * W"))) fA0)))))))))))
abbrev q_law_wrong_4 : FS := (fRet (fOp2 opIx (fVar 1) (fOp2 opMod (fCB opInt (fA1 (fVar 0) fA0)) (fCB opLen (fA1 (fVar 1) fA0)))))
abbrev k_law_wrong_4 : FS := q_law_wrong_4
abbrev k_law_wrong_3 : FS := fSeq q_law_wrong_3 k_law_wrong_4
abbrev k_law_wrong_2 : FS := fSeq q_law_wrong_2 k_law_wrong_3
abbrev k_law_wrong_1 : FS := fSeq q_law_wrong_1 k_law_wrong_2
abbrev k_law_wrong_0 : FS := fSeq q_law_wrong_0 k_law_wrong_1
abbrev b_law_wrong : FS := k_law_wrong_0
def m_law_wrong : Fn := fFn 2 b_law_wrong
/-! _law_text -/
def b_law_text_0 : FS := (fSeq (fSet 3 (fCB opAbs (fA1 (fOp2 opIx (fVar 0) (fVar 2)) fA0)))
  (fIfS (fB (fOp2 opGt (fVar 3) (fC (.int 0))))
  (fSeq (fSet 4 (fIf (fB (fOp2 opLt (fOp2 opIx (fVar 0) (fVar 2)) (fC (.int 0)))) (fC (.str " - ")) (fC (.str " + "))))
  (fSeq (fIfS (fB (fOp2 opEq (fVar 1) (fC (.str ""))))
  (fSet 4 (fIf (fB (fOp2 opLt (fOp2 opIx (fVar 0) (fVar 2)) (fC (.int 0)))) (fC (.str "-")) (fC (.str "")))) fNext)
  (fSeq (fSet 5 (fOp2 opIx (fLst (fA1 (fC (.str "N")) (fA1 (fC (.str "W")) (fA1 (fC (.str "")) fA0)))) (fVar 2)))
  (fSeq (fSet 6 (fIf (fB (fOp2 opEq (fVar 2) (fC (.int 2)))) (fCB opStrI (fA1 (fVar 3) fA0)) (fIf (fB (fOp2 opEq (fVar 3) (fC (.int 1)))) (fVar 5) (fOp2 opAdd (fOp2 opAdd (fCB opStrI (fA1 (fVar 3) fA0)) (fC (.str " * "))) (fVar 5)))))
  (fSet 1 (fOp2 opAdd (fOp2 opAdd (fVar 1) (fVar 4)) (fVar 6))))))) fNext))
abbrev b_law_text : FS := (fSeq (fSet 1 (fC (.str "")))
  (fSeq (fFor (fiR1 (fA1 (fC (.int 3)) fA0)) (fgName 2) b_law_text_0)
  (fRet (fIf (fB (fOp2 opEq (fVar 1) (fC (.str "")))) (fC (.str "0")) (fVar 1)))))
def m_law_text : Fn := fFn 7 b_law_text
/-! _law_told -/
abbrev b_law_told : FS := (fSeq (fTry (lkI [(0, false), (1, true)]) 2 (fSet 1 (fCall [false] [] m_lengths_read_length (fA1 (fVar 0) fA0))) (fRet (fIf (fB (fIsX (lkI [(1, true)]) 2)) (fLst fA0) (fLst (fA1 (fC (.int 0)) fA0)))))
  (fRet (fLst (fA1 (fProp 15 m_Length_whole (fVar 1)) (fA1 (fProp 15 m_Length_rows (fVar 1)) (fA1 (fProp 15 m_Length_columns (fVar 1)) fA0))))))
def m_law_told : Fn := fFn 3 b_law_told
/-! law -/
def c_law_law_0 : FE := (fOp2 opAdd (fVar 11) (fCall [true] [] m_law_gap (fA1 (fVar 1) fA0)))
def c_law_law_1 : FE := (fOp2 opSub (fOp2 opMul (fVar 10) (fOp2 opPow (fC (.int 10)) (fC (.int 7)))) (fC (.int 3)))
abbrev q_law_law_0 : FS := (fSet 1 (fCall [false, false] [] m_law_tape (fA1 (fVar 0) (fA1 (fC (.int 0)) fA0))))
abbrev q_law_law_1 : FS := (fSet 2 (fCall [true, false] [] m_law_pick (fA1 (fVar 1) (fA1 (fC (.int 16)) fA0))))
abbrev q_law_law_2 : FS := (fSet 3 (fCall [true, false] [] m_law_pick (fA1 (fVar 1) (fA1 (fC (.int 27720)) fA0))))
abbrev q_law_law_3 : FS := (fSet 4 (fOp2 opIx (fLst (fA1 (fC (.int 0)) (fA1 (fC (.int 1)) (fA1 (fC (.int 2)) (fA1 (fC (.int 3)) (fA1 (fC (.int 8)) fA0)))))) (fCall [true, false] [] m_law_pick (fA1 (fVar 1) (fA1 (fC (.int 5)) fA0)))))
abbrev q_law_law_4 : FS := (fAsg (fgLst 2 (fgCons (fgName 5) (fgCons (fgName 6) fgNil))) (fCallF [] [] m_law_terms (fCall [false, false] [] m_law_tape (fA1 (fVar 0) (fA1 (fC (.int 1)) fA0))) fA0))
abbrev q_law_law_5 : FS := (fIfS (fB (fOp2 opLt (fVar 2) (fC (.int 8))))
  (fSet 5 (fCall [false, false, false] [] m_law_spoilt (fA1 (fVar 5) (fA1 (fVar 2) (fA1 (fVar 3) fA0))))) fNext)
abbrev q_law_law_6 : FS := (fSet 4 (fIf (fB (fOp2 opEq (fVar 2) (fC (.int 2)))) (fCB opMin2 (fA1 (fVar 4) (fA1 (fC (.int 7)) fA0))) (fVar 4)))
abbrev q_law_law_7 : FS := (fSet 5 (fOp2 opAdd (fOp2 opAdd (fOp2 opMul (fLst (fA1 (fC (.str "(")) fA0)) (fVar 4)) (fVar 5)) (fOp2 opMul (fLst (fA1 (fC (.str ")")) fA0)) (fVar 4))))
abbrev q_law_law_8 : FS := (fSet 1 (fCall [false, false] [] m_law_tape (fA1 (fVar 0) (fA1 (fC (.int 2)) fA0))))
abbrev q_law_law_9 : FS := (fSet 7 (fOp2 opAdd (fCall [true] [] m_law_gap (fA1 (fVar 1) fA0)) (fM1 opJoin (fC (.str "")) (fLc (fiL (fVar 5)) (fgName 11) fYes c_law_law_0 [11]))))
abbrev q_law_law_10 : FS := (fIfS (fB (fOp2 opNe (fCall [false] [] m_law_told (fA1 (fCall [false] [] m_law_wrong (fA1 (fVar 3) fA0)) fA0)) (fLst fA0)))
  (fRet (fC (.bl false))) fNext)
abbrev q_law_law_11 : FS := (fIfS (fAnd (fB (fOp2 opLt (fVar 2) (fC (.int 8)))) (fB (fOp2 opNiA (fVar 2) (fLst (fA1 (fC (.int 1)) (fA1 (fC (.int 3)) (fA1 (fC (.int 7)) fA0)))))))
  (fRet (fOp2 opEq (fCall [false] [] m_law_told (fA1 (fVar 7) fA0)) (fLst fA0))) fNext)
abbrev q_law_law_12 : FS := (fIfS (fB (fOp2 opLt (fVar 2) (fC (.int 8))))
  (fRet (fOp2 opEq (fCall [false] [] m_law_told (fA1 (fM1 opJoin (fC (.str " ")) (fVar 5)) fA0)) (fLst fA0))) fNext)
abbrev q_law_law_13 : FS := (fIfS (fB (fOp2 opNe (fCall [false] [] m_law_told (fA1 (fVar 7) fA0)) (fVar 6)))
  (fRet (fC (.bl false))) fNext)
abbrev q_law_law_14 : FS := (fSet 8 (fLc (fiL (fVar 6)) (fgName 10) fYes c_law_law_1 [10]))
abbrev q_law_law_15 : FS := (fIfS (fB (fOp2 opNe (fMeth 15 [false] [] m_Length_text (fMake 15 [false, false, false] [] m_Length___init__ (fA1 (fOp2 opIx (fVar 8) (fC (.int 0))) (fA1 (fOp2 opIx (fVar 8) (fC (.int 1))) (fA1 (fOp2 opIx (fVar 8) (fC (.int 2))) fA0)))) fA0) (fCall [false] [] m_law_text (fA1 (fVar 8) fA0))))
  (fRet (fC (.bl false))) fNext)
abbrev q_law_law_16 : FS := (fSet 9 (fMake 15 [false, false, false] [] m_Length___init__ (fA1 (fOp2 opIx (fVar 6) (fC (.int 0))) (fA1 (fOp2 opIx (fVar 6) (fC (.int 1))) (fA1 (fOp2 opIx (fVar 6) (fC (.int 2))) fA0)))))
abbrev q_law_law_17 : FS := (fRet (fAndV (fOp2 opEq (fMeth 15 [false] [] m_Length_text (fVar 9) fA0) (fCall [false] [] m_law_text (fA1 (fVar 6) fA0))) (fOp2 opEq (fCall [false] [] m_law_told (fA1 (fMeth 15 [false] [] m_Length_text (fVar 9) fA0) fA0)) (fVar 6))))
abbrev k_law_law_17 : FS := q_law_law_17
abbrev k_law_law_16 : FS := fSeq q_law_law_16 k_law_law_17
abbrev k_law_law_15 : FS := fSeq q_law_law_15 k_law_law_16
abbrev k_law_law_14 : FS := fSeq q_law_law_14 k_law_law_15
abbrev k_law_law_13 : FS := fSeq q_law_law_13 k_law_law_14
abbrev k_law_law_12 : FS := fSeq q_law_law_12 k_law_law_13
abbrev k_law_law_11 : FS := fSeq q_law_law_11 k_law_law_12
abbrev k_law_law_10 : FS := fSeq q_law_law_10 k_law_law_11
abbrev k_law_law_9 : FS := fSeq q_law_law_9 k_law_law_10
abbrev k_law_law_8 : FS := fSeq q_law_law_8 k_law_law_9
abbrev k_law_law_7 : FS := fSeq q_law_law_7 k_law_law_8
abbrev k_law_law_6 : FS := fSeq q_law_law_6 k_law_law_7
abbrev k_law_law_5 : FS := fSeq q_law_law_5 k_law_law_6
abbrev k_law_law_4 : FS := fSeq q_law_law_4 k_law_law_5
abbrev k_law_law_3 : FS := fSeq q_law_law_3 k_law_law_4
abbrev k_law_law_2 : FS := fSeq q_law_law_2 k_law_law_3
abbrev k_law_law_1 : FS := fSeq q_law_law_1 k_law_law_2
abbrev k_law_law_0 : FS := fSeq q_law_law_0 k_law_law_1
abbrev b_law_law : FS := k_law_law_0
def m_law_law : Fn := fFn 12 b_law_law
end K12

/-! The facts, the defs by their promises. Printed by emit.py. -/
namespace K12
open PySem L2 Evl DL
theorem sc0 : FnScope N0 ["self", "whole", "rows", "columns"] (defScope s0) := ⟨rfl, rfl, rfl, by decide +kernel, rfl, by decide +kernel, by decide +kernel⟩
theorem sc1 : FnScope N1 ["self"] (defScope s1) := ⟨rfl, rfl, rfl, by decide +kernel, rfl, by decide +kernel, by decide +kernel⟩
theorem sc2 : FnScope N2 ["self"] (defScope s2) := ⟨rfl, rfl, rfl, by decide +kernel, rfl, by decide +kernel, by decide +kernel⟩
theorem sc3 : FnScope N3 ["self"] (defScope s3) := ⟨rfl, rfl, rfl, by decide +kernel, rfl, by decide +kernel, by decide +kernel⟩
theorem sc11 : FnScope N11 ["self", "factor"] (defScope s11) := ⟨rfl, rfl, rfl, by decide +kernel, rfl, by decide +kernel, by decide +kernel⟩
theorem sc14 : FnScope N14 ["amount", "letter"] (defScope s14) := ⟨rfl, rfl, rfl, by decide +kernel, rfl, by decide +kernel, by decide +kernel⟩
theorem sc13 : FnScope N13 ["self"] (defScope s13) := ⟨rfl, rfl, rfl, by decide +kernel, rfl, by decide +kernel, by decide +kernel⟩
theorem sc15 : FnScope N15 ["first", "second", "sign"] (defScope s15) := ⟨rfl, rfl, rfl, by decide +kernel, rfl, by decide +kernel, by decide +kernel⟩
theorem sc17 : FnScope N17 [] (defScope s17) := ⟨rfl, rfl, rfl, by decide +kernel, rfl, by decide +kernel, by decide +kernel⟩
theorem sc18 : FnScope N18 [] (defScope s18) := ⟨rfl, rfl, rfl, by decide +kernel, rfl, by decide +kernel, by decide +kernel⟩
theorem sc19 : FnScope N19 ["text", "start"] (defScope s19) := ⟨rfl, rfl, rfl, by decide +kernel, rfl, by decide +kernel, by decide +kernel⟩
theorem sc20 : FnScope N20 ["text"] (defScope s20) := ⟨rfl, rfl, rfl, by decide +kernel, rfl, by decide +kernel, by decide +kernel⟩
theorem sc21 : FnScope N21 ["part"] (defScope s21) := ⟨rfl, rfl, rfl, by decide +kernel, rfl, by decide +kernel, by decide +kernel⟩
theorem sc22 : FnScope N22 ["parts", "at"] (defScope s22) := ⟨rfl, rfl, rfl, by decide +kernel, rfl, by decide +kernel, by decide +kernel⟩
theorem sc23 : FnScope N23 ["parts", "at"] (defScope s23) := ⟨rfl, rfl, rfl, by decide +kernel, rfl, by decide +kernel, by decide +kernel⟩
theorem sc24 : FnScope N24 ["parts", "at"] (defScope s24) := ⟨rfl, rfl, rfl, by decide +kernel, rfl, by decide +kernel, by decide +kernel⟩
theorem sc25 : FnScope N25 ["text"] (defScope s25) := ⟨rfl, rfl, rfl, by decide +kernel, rfl, by decide +kernel, by decide +kernel⟩
theorem sc26 : FnScope N26 ["_law_script", "_law_k"] (defScope s26) := ⟨rfl, rfl, rfl, by decide +kernel, rfl, by decide +kernel, by decide +kernel⟩
theorem sc27 : FnScope N27 ["_law_tape_here", "_law_many"] (defScope s27) := ⟨rfl, rfl, rfl, by decide +kernel, rfl, by decide +kernel, by decide +kernel⟩
theorem sc28 : FnScope N28 ["_law_tape_here"] (defScope s28) := ⟨rfl, rfl, rfl, by decide +kernel, rfl, by decide +kernel, by decide +kernel⟩
theorem sc29 : FnScope N29 ["_law_tape_here"] (defScope s29) := ⟨rfl, rfl, rfl, by decide +kernel, rfl, by decide +kernel, by decide +kernel⟩
theorem sc30 : FnScope N30 ["_law_parts", "_law_choice", "_law_spot"] (defScope s30) := ⟨rfl, rfl, rfl, by decide +kernel, rfl, by decide +kernel, by decide +kernel⟩
theorem sc31 : FnScope N31 ["_law_kind"] (defScope s31) := ⟨rfl, rfl, rfl, by decide +kernel, rfl, by decide +kernel, by decide +kernel⟩
theorem sc32 : FnScope N32 ["_law_members"] (defScope s32) := ⟨rfl, rfl, rfl, by decide +kernel, rfl, by decide +kernel, by decide +kernel⟩
theorem sc33 : FnScope N33 ["_law_text_here"] (defScope s33) := ⟨rfl, rfl, rfl, by decide +kernel, rfl, by decide +kernel, by decide +kernel⟩
theorem sc34 : FnScope N34 ["_law_script"] (defScope s34) := ⟨rfl, rfl, rfl, by decide +kernel, rfl, by decide +kernel, by decide +kernel⟩
structure Tx (w : World) (K : PySem.W.Frag) (mg : Str → Option Value) (cl f pp : Nat → Addr) (fd : Nat → FuncData) : Prop where
  F0 : Fun K "__init__" "Length.__init__" s0 (f 0) (fd 0)
  B0 : Binds K (fd 0) ["self", "whole", "rows", "columns"] []
  C15 : Cls K (cl 15)
  na15_members : NoAttr K (cl 15) "members"
  F1 : Fun K "whole" "Length.whole" s1 (f 1) (fd 1)
  B1 : Binds K (fd 1) ["self"] []
  F2 : Fun K "rows" "Length.rows" s2 (f 2) (fd 2)
  B2 : Binds K (fd 2) ["self"] []
  F3 : Fun K "columns" "Length.columns" s3 (f 3) (fd 3)
  B3 : Binds K (fd 3) ["self"] []
  F11 : Fun K "__rmul__" "Length.__rmul__" s11 (f 11) (fd 11)
  B11 : Binds K (fd 11) ["self", "factor"] []
  gC15 : mg "Length" = some (.ref (cl 15))
  M15 : Mk K (cl 15) (f 0)
  F13 : Fun K "text" "Length.text" s13 (f 13) (fd 13)
  B13 : Binds K (fd 13) ["self"] []
  z_zip : mg "zip" = none
  F14 : Fun K "term_text" "term_text" s14 (f 14) (fd 14)
  B14 : Binds K (fd 14) ["amount", "letter"] []
  g14 : mg "term_text" = some (.ref (f 14))
  z_abs : mg "abs" = none
  z_str : mg "str" = none
  F15 : Fun K "joined" "joined" s15 (f 15) (fd 15)
  B15 : Binds K (fd 15) ["first", "second", "sign"] []
  F17 : Fun K "width" "width" s17 (f 17) (fd 17)
  B17 : Binds K (fd 17) [] []
  F18 : Fun K "squares" "squares" s18 (f 18) (fd 18)
  B18 : Binds K (fd 18) [] []
  F19 : Fun K "word_end" "word_end" s19 (f 19) (fd 19)
  B19 : Binds K (fd 19) ["text", "start"] []
  z_len : mg "len" = none
  K_SMALL : GD (ct w K cl) mg "SMALL" (.str "abcdefghijklmnopqrstuvwxyz")
  K_FIGURES : GD (ct w K cl) mg "FIGURES" (.str "0123456789")
  F20 : Fun K "parts_of" "parts_of" s20 (f 20) (fd 20)
  B20 : Binds K (fd 20) ["text"] []
  g19 : mg "word_end" = some (.ref (f 19))
  K_SIGNS : GD (ct w K cl) mg "SIGNS" (.tup [.str "<<", .str ">>", .str "&", .str "|", .str "^", .str "~", .str "(", .str ")", .str "=", .str "+", .str "-", .str "*", .str ","])
  F21 : Fun K "number_of" "number_of" s21 (f 21) (fd 21)
  B21 : Binds K (fd 21) ["part"] []
  K_LONGEST_NUMBER : GD (ct w K cl) mg "LONGEST_NUMBER" (.int 4)
  z_int : mg "int" = none
  F22 : Fun K "term_at" "term_at" s22 (f 22) (fd 22)
  B22 : Binds K (fd 22) ["parts", "at"] []
  g18 : mg "squares" = some (.ref (f 18))
  g17 : mg "width" = some (.ref (f 17))
  g21 : mg "number_of" = some (.ref (f 21))
  OR15_Mult : Own2R K (cl 15) (f 11) .Mult
  F23 : Fun K "sum_at" "sum_at" s23 (f 23) (fd 23)
  B23 : Binds K (fd 23) ["parts", "at"] []
  g22 : mg "term_at" = some (.ref (f 22))
  g15 : mg "joined" = some (.ref (f 15))
  F24 : Fun K "length_at" "length_at" s24 (f 24) (fd 24)
  B24 : Binds K (fd 24) ["parts", "at"] []
  g23 : mg "sum_at" = some (.ref (f 23))
  F25 : Fun K "read_length" "read_length" s25 (f 25) (fd 25)
  B25 : Binds K (fd 25) ["text"] []
  g20 : mg "parts_of" = some (.ref (f 20))
  g24 : mg "length_at" = some (.ref (f 24))
  gC1 : mg "BadText" = some (.ref (cl 1))
  X1 : XcC K (cl 1)
  F26 : Fun K "_law_tape" "_law_tape" s26 (f 26) (fd 26)
  B26 : Binds K (fd 26) ["_law_script", "_law_k"] []
  F27 : Fun K "_law_pick" "_law_pick" s27 (f 27) (fd 27)
  B27 : Binds K (fd 27) ["_law_tape_here", "_law_many"] []
  F28 : Fun K "_law_gap" "_law_gap" s28 (f 28) (fd 28)
  B28 : Binds K (fd 28) ["_law_tape_here"] []
  g27 : mg "_law_pick" = some (.ref (f 27))
  F29 : Fun K "_law_terms" "_law_terms" s29 (f 29) (fd 29)
  B29 : Binds K (fd 29) ["_law_tape_here"] []
  z_range : mg "range" = none
  F30 : Fun K "_law_spoilt" "_law_spoilt" s30 (f 30) (fd 30)
  B30 : Binds K (fd 30) ["_law_parts", "_law_choice", "_law_spot"] []
  F31 : Fun K "_law_wrong" "_law_wrong" s31 (f 31) (fd 31)
  B31 : Binds K (fd 31) ["_law_kind"] []
  F32 : Fun K "_law_text" "_law_text" s32 (f 32) (fd 32)
  B32 : Binds K (fd 32) ["_law_members"] []
  F33 : Fun K "_law_told" "_law_told" s33 (f 33) (fd 33)
  B33 : Binds K (fd 33) ["_law_text_here"] []
  g25 : mg "read_length" = some (.ref (f 25))
  TR_BadText : TryOk (ct w K cl) (.ref (cl 1)) (lkI [(0, false), (1, true)])
  gC0 : mg "BoardError" = some (.ref (cl 0))
  IX0 : IsXOk (ct w K cl) (.ref (cl 0)) (lkI [(1, true)])
  z_isinstance : mg "isinstance" = none
  P1 : PropOf K (cl 15) "whole" (pp 1) (f 1)
  P2 : PropOf K (cl 15) "rows" (pp 2) (f 2)
  P3 : PropOf K (cl 15) "columns" (pp 3) (f 3)
  F34 : Fun K "law" "law" s34 (f 34) (fd 34)
  B34 : Binds K (fd 34) ["_law_script"] []
  g26 : mg "_law_tape" = some (.ref (f 26))
  g29 : mg "_law_terms" = some (.ref (f 29))
  g30 : mg "_law_spoilt" = some (.ref (f 30))
  z_min : mg "min" = none
  g28 : mg "_law_gap" = some (.ref (f 28))
  g33 : mg "_law_told" = some (.ref (f 33))
  g31 : mg "_law_wrong" = some (.ref (f 31))
  Me15_13 : Meth K (cl 15) "text" (f 13)
  g32 : mg "_law_text" = some (.ref (f 32))
section
variable {P : Program} {w : World} {K : PySem.W.Frag} {mg : Str → Option Value} {base : Heap} {cl f pp : Nat → Addr} {fd : Nat → FuncData}
theorem ok0 (T : Tx w K mg cl f pp fd) : FnOk P w K mg base (CX P w) 1 (f 0) (fd 0) ["self", "whole", "rows", "columns"] (spD (ct w K cl) 4 m_Length___init__) := by
  refine fn_ok (body := b_Length___init__) T.F0 sc0 (fun bs _ => rfl) (fun cdv A outer s H E hr => ?_)
  have nd := sc0.nd
  have tk : Takes (cxOf (CX P w) P w K mg base N0 "Length.__init__" (defScope s0) (f 0) cdv A outer s H E) (fun cls d _ H => E cls d H) := takes_of rfl rfl rfl rfl
  have pa : PassesOwn (model P w) (cxOf (CX P w) P w K mg base N0 "Length.__init__" (defScope s0) (f 0) cdv A outer s H E).A (cxOf (CX P w) P w K mg base N0 "Length.__init__" (defScope s0) (f 0) cdv A outer s H E).env (cxOf (CX P w) P w K mg base N0 "Length.__init__" (defScope s0) (f 0) cdv A outer s H E).xe := passes_of rfl
  exact ⟨_, (dss_one (ds_putF (i := 15) (j := 0) rfl T.C15 T.na15_members (pv 0) (de_tup (da_cons (de_v 1) (da_cons (de_v 2) (da_cons (de_v 3) da_nil))))))⟩
theorem ok1 (T : Tx w K mg cl f pp fd) : FnOk P w K mg base (CX P w) 1 (f 1) (fd 1) ["self"] (spD (ct w K cl) 1 m_Length_whole) := by
  refine fn_ok (body := b_Length_whole) T.F1 sc1 (fun bs _ => rfl) (fun cdv A outer s H E hr => ?_)
  have nd := sc1.nd
  have tk : Takes (cxOf (CX P w) P w K mg base N1 "Length.whole" (defScope s1) (f 1) cdv A outer s H E) (fun cls d _ H => E cls d H) := takes_of rfl rfl rfl rfl
  have pa : PassesOwn (model P w) (cxOf (CX P w) P w K mg base N1 "Length.whole" (defScope s1) (f 1) cdv A outer s H E).A (cxOf (CX P w) P w K mg base N1 "Length.whole" (defScope s1) (f 1) cdv A outer s H E).env (cxOf (CX P w) P w K mg base N1 "Length.whole" (defScope s1) (f 1) cdv A outer s H E).xe := passes_of rfl
  exact ⟨_, (dss_one (ds_ret (de_ix ix_seq (ok_ix (c := ct w K cl)) (de_fld (i := 15) rfl T.C15 T.na15_members (de_v 0)) de_int (fun _ _ => rfl))))⟩
theorem ok2 (T : Tx w K mg cl f pp fd) : FnOk P w K mg base (CX P w) 1 (f 2) (fd 2) ["self"] (spD (ct w K cl) 1 m_Length_rows) := by
  refine fn_ok (body := b_Length_rows) T.F2 sc2 (fun bs _ => rfl) (fun cdv A outer s H E hr => ?_)
  have nd := sc2.nd
  have tk : Takes (cxOf (CX P w) P w K mg base N2 "Length.rows" (defScope s2) (f 2) cdv A outer s H E) (fun cls d _ H => E cls d H) := takes_of rfl rfl rfl rfl
  have pa : PassesOwn (model P w) (cxOf (CX P w) P w K mg base N2 "Length.rows" (defScope s2) (f 2) cdv A outer s H E).A (cxOf (CX P w) P w K mg base N2 "Length.rows" (defScope s2) (f 2) cdv A outer s H E).env (cxOf (CX P w) P w K mg base N2 "Length.rows" (defScope s2) (f 2) cdv A outer s H E).xe := passes_of rfl
  exact ⟨_, (dss_one (ds_ret (de_ix ix_seq (ok_ix (c := ct w K cl)) (de_fld (i := 15) rfl T.C15 T.na15_members (de_v 0)) de_int (fun _ _ => rfl))))⟩
theorem ok3 (T : Tx w K mg cl f pp fd) : FnOk P w K mg base (CX P w) 1 (f 3) (fd 3) ["self"] (spD (ct w K cl) 1 m_Length_columns) := by
  refine fn_ok (body := b_Length_columns) T.F3 sc3 (fun bs _ => rfl) (fun cdv A outer s H E hr => ?_)
  have nd := sc3.nd
  have tk : Takes (cxOf (CX P w) P w K mg base N3 "Length.columns" (defScope s3) (f 3) cdv A outer s H E) (fun cls d _ H => E cls d H) := takes_of rfl rfl rfl rfl
  have pa : PassesOwn (model P w) (cxOf (CX P w) P w K mg base N3 "Length.columns" (defScope s3) (f 3) cdv A outer s H E).A (cxOf (CX P w) P w K mg base N3 "Length.columns" (defScope s3) (f 3) cdv A outer s H E).env (cxOf (CX P w) P w K mg base N3 "Length.columns" (defScope s3) (f 3) cdv A outer s H E).xe := passes_of rfl
  exact ⟨_, (dss_one (ds_ret (de_ix ix_seq (ok_ix (c := ct w K cl)) (de_fld (i := 15) rfl T.C15 T.na15_members (de_v 0)) de_int (fun _ _ => rfl))))⟩
theorem ok11 (T : Tx w K mg cl f pp fd) : FnOk P w K mg base (CX P w) 3 (f 11) (fd 11) ["self", "factor"] (spD (ct w K cl) 2 m_Length___rmul__) := by
  have G0 := ok0 (P := P) (w := w) (base := base) T
  refine fn_ok (body := b_Length___rmul__) T.F11 sc11 (fun bs _ => rfl) (fun cdv A outer s H E hr => ?_)
  have nd := sc11.nd
  have tk : Takes (cxOf (CX P w) P w K mg base N11 "Length.__rmul__" (defScope s11) (f 11) cdv A outer s H E) (fun cls d _ H => E cls d H) := takes_of rfl rfl rfl rfl
  have pa : PassesOwn (model P w) (cxOf (CX P w) P w K mg base N11 "Length.__rmul__" (defScope s11) (f 11) cdv A outer s H E).A (cxOf (CX P w) P w K mg base N11 "Length.__rmul__" (defScope s11) (f 11) cdv A outer s H E).env (cxOf (CX P w) P w K mg base N11 "Length.__rmul__" (defScope s11) (f 11) cdv A outer s H E).xe := passes_of rfl
  exact ⟨_, (dss_one (ds_ret (de_make (i := 15) (ms := [false, false, false]) tk rfl T.M15 G0 (hr.mono (by decide)) rfl T.gC15 T.B0 .nil (fun _ => rfl) (lenA1 (lenA1 (lenA1 lenA0))) rfl (da_cons (de_op op_mulA ok_mul (de_ix ix_seq (ok_ix (c := ct w K cl)) (de_fld (i := 15) rfl T.C15 T.na15_members (de_v 0)) de_int (fun _ _ => rfl)) (de_v 1)) (da_cons (de_op op_mulA ok_mul (de_ix ix_seq (ok_ix (c := ct w K cl)) (de_fld (i := 15) rfl T.C15 T.na15_members (de_v 0)) de_int (fun _ _ => rfl)) (de_v 1)) (da_cons (de_op op_mulA ok_mul (de_ix ix_seq (ok_ix (c := ct w K cl)) (de_fld (i := 15) rfl T.C15 T.na15_members (de_v 0)) de_int (fun _ _ => rfl)) (de_v 1)) da_nil))))))⟩
theorem ok14 (T : Tx w K mg cl f pp fd) : FnOk P w K mg base (CX P w) 1 (f 14) (fd 14) ["amount", "letter"] (spD (ct w K cl) 2 m_lengths_term_text) := by
  refine fn_ok (body := b_lengths_term_text) T.F14 sc14 (fun bs _ => rfl) (fun cdv A outer s H E hr => ?_)
  have nd := sc14.nd
  have tk : Takes (cxOf (CX P w) P w K mg base N14 "term_text" (defScope s14) (f 14) cdv A outer s H E) (fun cls d _ H => E cls d H) := takes_of rfl rfl rfl rfl
  have pa : PassesOwn (model P w) (cxOf (CX P w) P w K mg base N14 "term_text" (defScope s14) (f 14) cdv A outer s H E).A (cxOf (CX P w) P w K mg base N14 "term_text" (defScope s14) (f 14) cdv A outer s H E).env (cxOf (CX P w) P w K mg base N14 "term_text" (defScope s14) (f 14) cdv A outer s H E).xe := passes_of rfl
  exact ⟨_, (dss_cons (ds_if (dt_cmp (op_eqD hr.units) (ok_eq (c := ct w K cl)) (de_v 1) de_str (nomark _))
  (dss_one (ds_ret (de_callTy call_str_int ok_strI rfl T.z_str (by decide +kernel) (da_cons (de_v 0) da_nil)))) dss_nil)
  (dss_one (ds_ret (de_if (dt_cmp (op_eqD hr.units) (ok_eq (c := ct w K cl)) (de_v 0) de_int (nomark _)) (de_v 1) (de_joined (dj_cons (de_fmt (de_v 0)) (dj_cons de_str (dj_cons (de_fmt (de_v 1)) dj_nil))))))))⟩
theorem ok13 (T : Tx w K mg cl f pp fd) : FnOk P w K mg base (CX P w) 2 (f 13) (fd 13) ["self"] (spD (ct w K cl) 1 m_Length_text) := by
  have G14 := ok14 (P := P) (w := w) (base := base) T
  refine fn_ok (body := b_Length_text) T.F13 sc13 (fun bs _ => rfl) (fun cdv A outer s H E hr => ?_)
  have nd := sc13.nd
  have tk : Takes (cxOf (CX P w) P w K mg base N13 "Length.text" (defScope s13) (f 13) cdv A outer s H E) (fun cls d _ H => E cls d H) := takes_of rfl rfl rfl rfl
  have pa : PassesOwn (model P w) (cxOf (CX P w) P w K mg base N13 "Length.text" (defScope s13) (f 13) cdv A outer s H E).A (cxOf (CX P w) P w K mg base N13 "Length.text" (defScope s13) (f 13) cdv A outer s H E).env (cxOf (CX P w) P w K mg base N13 "Length.text" (defScope s13) (f 13) cdv A outer s H E).xe := passes_of rfl
  exact ⟨_, (dss_cons (ds_set (i := 1) nd rfl (Or.inl rfl) de_str)
  (dss_cons (ds_for pa rfl (di_zip rfl rfl T.z_zip (da_cons (de_fld (i := 15) rfl T.C15 T.na15_members (de_v 0)) (da_cons (de_tup (da_cons de_str (da_cons de_str (da_cons de_str da_nil)))) da_nil))) (dg_tup' rfl (dgs_cons (dg_name (i := 2) nd rfl (Or.inl rfl)) (dgs_cons (dg_name (i := 3) nd rfl (Or.inl rfl)) dgs_nil)))
  (dss_one (ds_if (dt_cmp (op_neD hr.units) (ok_ne (c := ct w K cl)) (de_v 2) de_int (nomark _))
  (dss_cons (ds_aug (i := 1) nd rfl (Or.inl rfl) (de_if (dt_cmp op_lt ok_lt (de_v 2) de_int (nomark _)) (de_if (dt_tru rfl (de_v 1)) de_str de_str) (de_if (dt_tru rfl (de_v 1)) de_str de_str)) ipd_add ok_addIS)
  (dss_one (ds_aug (i := 1) nd rfl (Or.inl rfl) (de_call (ms := [false, false]) tk G14 (hr.mono (by decide)) rfl T.g14 T.F14.kp T.B14 .nil (fun _ => rfl) (lenA1 (lenA1 lenA0)) rfl (da_cons (de_callB call_abs ok_abs rfl T.z_abs (by decide +kernel) (da_cons (de_v 2) da_nil)) (da_cons (de_v 3) da_nil))) ipd_add ok_addIS))) dss_nil)))
  (dss_one (ds_ret (de_if (dt_tru rfl (de_v 1)) (de_v 1) de_str)))))⟩
theorem ok15 (T : Tx w K mg cl f pp fd) : FnOk P w K mg base (CX P w) 3 (f 15) (fd 15) ["first", "second", "sign"] (spD (ct w K cl) 3 m_lengths_joined) := by
  have G0 := ok0 (P := P) (w := w) (base := base) T
  refine fn_ok (body := b_lengths_joined) T.F15 sc15 (fun bs _ => rfl) (fun cdv A outer s H E hr => ?_)
  have nd := sc15.nd
  have tk : Takes (cxOf (CX P w) P w K mg base N15 "joined" (defScope s15) (f 15) cdv A outer s H E) (fun cls d _ H => E cls d H) := takes_of rfl rfl rfl rfl
  have pa : PassesOwn (model P w) (cxOf (CX P w) P w K mg base N15 "joined" (defScope s15) (f 15) cdv A outer s H E).A (cxOf (CX P w) P w K mg base N15 "joined" (defScope s15) (f 15) cdv A outer s H E).env (cxOf (CX P w) P w K mg base N15 "joined" (defScope s15) (f 15) cdv A outer s H E).xe := passes_of rfl
  exact ⟨_, (dss_cons (ds_setLc (i := 3) (own := [("one", 4), ("other", 5)]) rfl nd rfl rfl rfl (di_zip rfl rfl T.z_zip (da_cons (de_fld (i := 15) rfl T.C15 T.na15_members (de_v 0)) (da_cons (de_fld (i := 15) rfl T.C15 T.na15_members (de_v 1)) da_nil))) (blkOk_by (own := [("one", 4), ("other", 5)]) (N := N15) (sc := defScope s15) (by decide +kernel)) (fun _ _ _ _ _ => (dgc_tup rfl (dgcs_cons (dgc_name (i := 4) nd rfl (by first | exact Or.inl rfl | exact Or.inr rfl) (by decide)) (dgcs_cons (dgc_name (i := 5) nd rfl (by first | exact Or.inl rfl | exact Or.inr rfl) (by decide)) dgcs_nil)))) (fun _ _ _ _ _ => by exact dts_nil) (fun _ _ _ _ _ => by exact (de_op op_addA ok_add (de_v 4) (de_op op_mulA ok_mul (de_v 2) (de_v 5)))))
  (dss_one (ds_ret (de_make (i := 15) (ms := [false, false, false]) tk rfl T.M15 G0 (hr.mono (by decide)) rfl T.gC15 T.B0 .nil (fun _ => rfl) (lenA1 (lenA1 (lenA1 lenA0))) rfl (da_cons (de_ix ix_seq (ok_ix (c := ct w K cl)) (de_v 3) de_int (fun _ _ => rfl)) (da_cons (de_ix ix_seq (ok_ix (c := ct w K cl)) (de_v 3) de_int (fun _ _ => rfl)) (da_cons (de_ix ix_seq (ok_ix (c := ct w K cl)) (de_v 3) de_int (fun _ _ => rfl)) da_nil)))))))⟩
theorem ok17 (T : Tx w K mg cl f pp fd) : FnOk P w K mg base (CX P w) 3 (f 17) (fd 17) [] (spD (ct w K cl) 0 m_lengths_width) := by
  have G0 := ok0 (P := P) (w := w) (base := base) T
  refine fn_ok (body := b_lengths_width) T.F17 sc17 (fun bs _ => rfl) (fun cdv A outer s H E hr => ?_)
  have nd := sc17.nd
  have tk : Takes (cxOf (CX P w) P w K mg base N17 "width" (defScope s17) (f 17) cdv A outer s H E) (fun cls d _ H => E cls d H) := takes_of rfl rfl rfl rfl
  have pa : PassesOwn (model P w) (cxOf (CX P w) P w K mg base N17 "width" (defScope s17) (f 17) cdv A outer s H E).A (cxOf (CX P w) P w K mg base N17 "width" (defScope s17) (f 17) cdv A outer s H E).env (cxOf (CX P w) P w K mg base N17 "width" (defScope s17) (f 17) cdv A outer s H E).xe := passes_of rfl
  exact ⟨_, (dss_one (ds_ret (de_make (i := 15) (ms := [false, false, false]) tk rfl T.M15 G0 (hr.mono (by decide)) rfl T.gC15 T.B0 .nil (fun _ => rfl) (lenA1 (lenA1 (lenA1 lenA0))) rfl (da_cons de_int (da_cons de_int (da_cons de_int da_nil))))))⟩
theorem ok18 (T : Tx w K mg cl f pp fd) : FnOk P w K mg base (CX P w) 3 (f 18) (fd 18) [] (spD (ct w K cl) 0 m_lengths_squares) := by
  have G0 := ok0 (P := P) (w := w) (base := base) T
  refine fn_ok (body := b_lengths_squares) T.F18 sc18 (fun bs _ => rfl) (fun cdv A outer s H E hr => ?_)
  have nd := sc18.nd
  have tk : Takes (cxOf (CX P w) P w K mg base N18 "squares" (defScope s18) (f 18) cdv A outer s H E) (fun cls d _ H => E cls d H) := takes_of rfl rfl rfl rfl
  have pa : PassesOwn (model P w) (cxOf (CX P w) P w K mg base N18 "squares" (defScope s18) (f 18) cdv A outer s H E).A (cxOf (CX P w) P w K mg base N18 "squares" (defScope s18) (f 18) cdv A outer s H E).env (cxOf (CX P w) P w K mg base N18 "squares" (defScope s18) (f 18) cdv A outer s H E).xe := passes_of rfl
  exact ⟨_, (dss_one (ds_ret (de_make (i := 15) (ms := [false, false, false]) tk rfl T.M15 G0 (hr.mono (by decide)) rfl T.gC15 T.B0 .nil (fun _ => rfl) (lenA1 (lenA1 (lenA1 lenA0))) rfl (da_cons de_int (da_cons de_int (da_cons de_int da_nil))))))⟩
theorem ok19 (T : Tx w K mg cl f pp fd) : FnOk P w K mg base (CX P w) 1 (f 19) (fd 19) ["text", "start"] (spD (ct w K cl) 2 m_lengths_word_end) := by
  refine fn_ok (body := b_lengths_word_end) T.F19 sc19 (fun bs _ => rfl) (fun cdv A outer s H E hr => ?_)
  have nd := sc19.nd
  have tk : Takes (cxOf (CX P w) P w K mg base N19 "word_end" (defScope s19) (f 19) cdv A outer s H E) (fun cls d _ H => E cls d H) := takes_of rfl rfl rfl rfl
  have pa : PassesOwn (model P w) (cxOf (CX P w) P w K mg base N19 "word_end" (defScope s19) (f 19) cdv A outer s H E).A (cxOf (CX P w) P w K mg base N19 "word_end" (defScope s19) (f 19) cdv A outer s H E).env (cxOf (CX P w) P w K mg base N19 "word_end" (defScope s19) (f 19) cdv A outer s H E).xe := passes_of rfl
  exact ⟨_, (dss_cons (ds_set (i := 2) nd rfl (Or.inl rfl) (de_v 1))
  (dss_cons (ds_while 100000 pa (DW.dt (dw_and (dt_cmp op_lt ok_lt (de_v 2) (de_callB call_lenA (ok_len (c := ct w K cl)) rfl T.z_len (by decide +kernel) (da_cons (de_v 0) da_nil)) (nomark _)) (dw_and1 (dt_cmp (op_inA (u65 hr)) (ok_inA (c := ct w K cl)) (de_ix ix_seq (ok_ix (c := ct w K cl)) (de_v 0) (de_v 2) (fun _ _ => rfl)) (de_op op_addA ok_add (de_glob T.K_SMALL) (de_glob T.K_FIGURES)) rfl))))
  (dss_one (ds_aug (i := 2) nd rfl (Or.inl rfl) de_int ipd_add ok_addIS)))
  (dss_one (ds_ret (de_v 2)))))⟩
theorem ok20 (T : Tx w K mg cl f pp fd) : FnOk P w K mg base (CX P w) 2 (f 20) (fd 20) ["text"] (spD (ct w K cl) 1 m_lengths_parts_of) := by
  have G19 := ok19 (P := P) (w := w) (base := base) T
  refine fn_ok (body := b_lengths_parts_of) T.F20 sc20 (fun bs _ => rfl) (fun cdv A outer s H E hr => ?_)
  have nd := sc20.nd
  have tk : Takes (cxOf (CX P w) P w K mg base N20 "parts_of" (defScope s20) (f 20) cdv A outer s H E) (fun cls d _ H => E cls d H) := takes_of rfl rfl rfl rfl
  have pa : PassesOwn (model P w) (cxOf (CX P w) P w K mg base N20 "parts_of" (defScope s20) (f 20) cdv A outer s H E).A (cxOf (CX P w) P w K mg base N20 "parts_of" (defScope s20) (f 20) cdv A outer s H E).env (cxOf (CX P w) P w K mg base N20 "parts_of" (defScope s20) (f 20) cdv A outer s H E).xe := passes_of rfl
  exact ⟨_, (dss_cons (ds_set (i := 1) nd rfl (Or.inl rfl) (de_lst da_nil))
  (dss_cons (ds_set (i := 2) nd rfl (Or.inl rfl) de_int)
  (dss_cons (ds_while 100000 pa (dt_cmp op_lt ok_lt (de_v 2) (de_callB call_lenA (ok_len (c := ct w K cl)) rfl T.z_len (by decide +kernel) (da_cons (de_v 0) da_nil)) (nomark _))
  (dss_cons (ds_set (i := 3) nd rfl (Or.inl rfl) (de_call (ms := [false, false]) tk G19 (hr.mono (by decide)) rfl T.g19 T.F19.kp T.B19 .nil (fun _ => rfl) (lenA1 (lenA1 lenA0)) rfl (da_cons (de_v 0) (da_cons (de_v 2) da_nil))))
  (dss_one (ds_if (dt_cmp op_gt ok_gt (de_v 3) (de_v 2) (nomark _))
  (dss_cons (ds_expr (de_app (j := 1) (pv 1) rfl (de_sl rfl (de_v 0) (do_some (de_v 2)) (do_some (de_v 3)))))
  (dss_one (ds_set (i := 2) nd rfl (Or.inl rfl) (de_v 3)))) (dss_one (ds_if (dt_cmp (op_eqD hr.units) (ok_eq (c := ct w K cl)) (de_ix ix_seq (ok_ix (c := ct w K cl)) (de_v 0) (de_v 2) (fun _ _ => rfl)) de_str (nomark _))
  (dss_one (ds_aug (i := 2) nd rfl (Or.inl rfl) de_int ipd_add ok_addIS)) (dss_one (ds_if (dt_cmp (op_inA (u65 hr)) (ok_inA (c := ct w K cl)) (de_ix ix_seq (ok_ix (c := ct w K cl)) (de_v 0) (de_v 2) (fun _ _ => rfl)) de_str rfl)
  (dss_cons (ds_expr (de_app (j := 1) (pv 1) rfl (de_ix ix_seq (ok_ix (c := ct w K cl)) (de_v 0) (de_v 2) (fun _ _ => rfl))))
  (dss_one (ds_aug (i := 2) nd rfl (Or.inl rfl) de_int ipd_add ok_addIS))) (dss_cons (ds_set (i := 4) nd rfl (Or.inl rfl) (de_if (dt_cmp (op_inA (u65 hr)) (ok_inA (c := ct w K cl)) (de_sl rfl (de_v 0) (do_some (de_v 2)) (do_some (de_op op_addA ok_add (de_v 2) de_int))) (de_glob T.K_SIGNS) rfl) (de_sl rfl (de_v 0) (do_some (de_v 2)) (do_some (de_op op_addA ok_add (de_v 2) de_int))) (de_ix ix_seq (ok_ix (c := ct w K cl)) (de_v 0) (de_v 2) (fun _ _ => rfl))))
  (dss_cons (ds_if (dt_cmp (op_niA (u65 hr)) (ok_niA (c := ct w K cl)) (de_v 4) (de_glob T.K_SIGNS) rfl)
  (dss_one (ds_ret de_non)) dss_nil)
  (dss_cons (ds_expr (de_app (j := 1) (pv 1) rfl (de_v 4)))
  (dss_one (ds_aug (i := 2) nd rfl (Or.inl rfl) (de_callB call_lenA (ok_len (c := ct w K cl)) rfl T.z_len (by decide +kernel) (da_cons (de_v 4) da_nil)) ipd_add ok_addIS)))))))))))))
  (dss_one (ds_ret (de_v 1))))))⟩
theorem ok21 (T : Tx w K mg cl f pp fd) : FnOk P w K mg base (CX P w) 1 (f 21) (fd 21) ["part"] (spD (ct w K cl) 1 m_lengths_number_of) := by
  refine fn_ok (body := b_lengths_number_of) T.F21 sc21 (fun bs _ => rfl) (fun cdv A outer s H E hr => ?_)
  have nd := sc21.nd
  have tk : Takes (cxOf (CX P w) P w K mg base N21 "number_of" (defScope s21) (f 21) cdv A outer s H E) (fun cls d _ H => E cls d H) := takes_of rfl rfl rfl rfl
  have pa : PassesOwn (model P w) (cxOf (CX P w) P w K mg base N21 "number_of" (defScope s21) (f 21) cdv A outer s H E).A (cxOf (CX P w) P w K mg base N21 "number_of" (defScope s21) (f 21) cdv A outer s H E).env (cxOf (CX P w) P w K mg base N21 "number_of" (defScope s21) (f 21) cdv A outer s H E).xe := passes_of rfl
  exact ⟨_, (dss_cons (ds_if (DW.dt (dw_or (dt_not (dt_chain op_le ok_le op_le ok_le de_int (de_callB call_lenA (ok_len (c := ct w K cl)) rfl T.z_len (by decide +kernel) (da_cons (de_v 0) da_nil)) (de_glob T.K_LONGEST_NUMBER))) (dw_or1 (dt_tru rfl (de_lc (own := [("sign", 1)]) rfl nd (di_all rfl (de_v 0)) (blkOk_by (own := [("sign", 1)]) (N := N21) (sc := defScope s21) (by decide +kernel)) (fun _ _ _ _ _ => (dgc_name (i := 1) nd rfl (Or.inl rfl) (by decide))) (fun _ _ _ _ _ => by exact (dts_one (dt_cmp (op_niA (u65 hr)) (ok_niA (c := ct w K cl)) (de_v 1) (de_glob T.K_FIGURES) rfl))) (fun _ _ _ _ _ => by exact (de_v 1)))))))
  (dss_one (ds_ret de_non)) dss_nil)
  (dss_one (ds_ret (de_if (DW.dt (dw_and (dt_cmp (op_eqD hr.units) (ok_eq (c := ct w K cl)) (de_ix ix_seq (ok_ix (c := ct w K cl)) (de_v 0) de_int (fun _ _ => rfl)) de_str (nomark _)) (dw_and1 (dt_cmp op_gt ok_gt (de_callB call_lenA (ok_len (c := ct w K cl)) rfl T.z_len (by decide +kernel) (da_cons (de_v 0) da_nil)) de_int (nomark _))))) de_non (de_callTy call_intA ok_intA rfl T.z_int (by decide +kernel) (da_cons (de_v 0) da_nil))))))⟩
theorem ok22 (T : Tx w K mg cl f pp fd) : FnOk P w K mg base (CX P w) 4 (f 22) (fd 22) ["parts", "at"] (spD (ct w K cl) 2 m_lengths_term_at) := by
  have G18 := ok18 (P := P) (w := w) (base := base) T
  have G17 := ok17 (P := P) (w := w) (base := base) T
  have G21 := ok21 (P := P) (w := w) (base := base) T
  have G11 := ok11 (P := P) (w := w) (base := base) T
  have G0 := ok0 (P := P) (w := w) (base := base) T
  refine fn_ok (body := b_lengths_term_at) T.F22 sc22 (fun bs _ => rfl) (fun cdv A outer s H E hr => ?_)
  have nd := sc22.nd
  have tk : Takes (cxOf (CX P w) P w K mg base N22 "term_at" (defScope s22) (f 22) cdv A outer s H E) (fun cls d _ H => E cls d H) := takes_of rfl rfl rfl rfl
  have pa : PassesOwn (model P w) (cxOf (CX P w) P w K mg base N22 "term_at" (defScope s22) (f 22) cdv A outer s H E).A (cxOf (CX P w) P w K mg base N22 "term_at" (defScope s22) (f 22) cdv A outer s H E).env (cxOf (CX P w) P w K mg base N22 "term_at" (defScope s22) (f 22) cdv A outer s H E).xe := passes_of rfl
  exact ⟨_, (dss_cons (ds_set (i := 2) nd rfl (Or.inl rfl) (de_disp (dps_cons de_str (de_call0 (ms := []) tk G17 (hr.mono (by decide)) rfl T.g17 T.F17.kp T.B17 .nil (fun _ => rfl) rfl) (dps_cons de_str (de_call0 (ms := []) tk G18 (hr.mono (by decide)) rfl T.g18 T.F18.kp T.B18 .nil (fun _ => rfl) rfl) dps_nil))))
  (dss_cons (ds_if (DW.dt (dw_and (dt_cmp op_lt ok_lt (de_v 1) (de_callB call_lenA (ok_len (c := ct w K cl)) rfl T.z_len (by decide +kernel) (da_cons (de_v 0) da_nil)) (nomark _)) (dw_and1 (dt_cmp (op_inD (u65 hr) rfl rfl) ok_inD (de_ix ix_seq (ok_ix (c := ct w K cl)) (de_v 0) (de_v 1) (fun _ _ => rfl)) (de_v 2) rfl))))
  (dss_one (ds_ret (de_tup (da_cons (de_dget (u65 hr) rfl rfl (de_v 2) (de_ix ix_seq (ok_ix (c := ct w K cl)) (de_v 0) (de_v 1) (fun _ _ => rfl)) (fun _ _ => rfl)) (da_cons (de_op op_addA ok_add (de_v 1) de_int) da_nil))))) dss_nil)
  (dss_cons (ds_set (i := 3) nd rfl (Or.inl rfl) (de_if (dt_cmp op_lt ok_lt (de_v 1) (de_callB call_lenA (ok_len (c := ct w K cl)) rfl T.z_len (by decide +kernel) (da_cons (de_v 0) da_nil)) (nomark _)) (de_call (ms := [false]) tk G21 (hr.mono (by decide)) rfl T.g21 T.F21.kp T.B21 .nil (fun _ => rfl) (lenA1 lenA0) rfl (da_cons (de_ix ix_seq (ok_ix (c := ct w K cl)) (de_v 0) (de_v 1) (fun _ _ => rfl)) da_nil)) de_non))
  (dss_cons (ds_if (dt_cmp op_isN ok_isN (de_v 3) de_non (nomark _))
  (dss_one (ds_ret de_non)) dss_nil)
  (dss_cons (ds_if (DW.dt (dw_and (dt_cmp op_lt ok_lt (de_op op_addA ok_add (de_v 1) de_int) (de_callB call_lenA (ok_len (c := ct w K cl)) rfl T.z_len (by decide +kernel) (da_cons (de_v 0) da_nil)) (nomark _)) (dw_and1 (dt_cmp (op_eqD hr.units) (ok_eq (c := ct w K cl)) (de_ix ix_seq (ok_ix (c := ct w K cl)) (de_v 0) (de_op op_addA ok_add (de_v 1) de_int) (fun _ _ => rfl)) de_str (nomark _)))))
  (dss_cons (ds_if (DW.dt (dw_and (dt_cmp op_lt ok_lt (de_op op_addA ok_add (de_v 1) de_int) (de_callB call_lenA (ok_len (c := ct w K cl)) rfl T.z_len (by decide +kernel) (da_cons (de_v 0) da_nil)) (nomark _)) (dw_and1 (dt_cmp (op_inD (u65 hr) rfl rfl) ok_inD (de_ix ix_seq (ok_ix (c := ct w K cl)) (de_v 0) (de_op op_addA ok_add (de_v 1) de_int) (fun _ _ => rfl)) (de_v 2) rfl))))
  (dss_one (ds_ret (de_tup (da_cons (de_ownIL (i := 15) tk rfl decl_mul T.OR15_Mult G11 (hr.mono (by decide)) T.B11 (de_v 3) (de_dget (u65 hr) rfl rfl (de_v 2) (de_ix ix_seq (ok_ix (c := ct w K cl)) (de_v 0) (de_op op_addA ok_add (de_v 1) de_int) (fun _ _ => rfl)) (fun _ _ => rfl))) (da_cons (de_op op_addA ok_add (de_v 1) de_int) da_nil))))) dss_nil)
  (dss_one (ds_ret de_non))) dss_nil)
  (dss_one (ds_ret (de_tup (da_cons (de_make (i := 15) (ms := [false, false, false]) tk rfl T.M15 G0 (hr.mono (by decide)) rfl T.gC15 T.B0 .nil (fun _ => rfl) (lenA1 (lenA1 (lenA1 lenA0))) rfl (da_cons de_int (da_cons de_int (da_cons (de_v 3) da_nil)))) (da_cons (de_op op_addA ok_add (de_v 1) de_int) da_nil))))))))))⟩
theorem ok23 (T : Tx w K mg cl f pp fd) : FnOk P w K mg base (CX P w) 5 (f 23) (fd 23) ["parts", "at"] (spD (ct w K cl) 2 m_lengths_sum_at) := by
  have G0 := ok0 (P := P) (w := w) (base := base) T
  have G22 := ok22 (P := P) (w := w) (base := base) T
  have G15 := ok15 (P := P) (w := w) (base := base) T
  refine fn_ok (body := b_lengths_sum_at) T.F23 sc23 (fun bs _ => rfl) (fun cdv A outer s H E hr => ?_)
  have nd := sc23.nd
  have tk : Takes (cxOf (CX P w) P w K mg base N23 "sum_at" (defScope s23) (f 23) cdv A outer s H E) (fun cls d _ H => E cls d H) := takes_of rfl rfl rfl rfl
  have pa : PassesOwn (model P w) (cxOf (CX P w) P w K mg base N23 "sum_at" (defScope s23) (f 23) cdv A outer s H E).A (cxOf (CX P w) P w K mg base N23 "sum_at" (defScope s23) (f 23) cdv A outer s H E).env (cxOf (CX P w) P w K mg base N23 "sum_at" (defScope s23) (f 23) cdv A outer s H E).xe := passes_of rfl
  exact ⟨_, (dss_cons (ds_set (i := 2) nd rfl (Or.inl rfl) de_int)
  (dss_cons (ds_if (DW.dt (dw_and (dt_cmp op_lt ok_lt (de_v 1) (de_callB call_lenA (ok_len (c := ct w K cl)) rfl T.z_len (by decide +kernel) (da_cons (de_v 0) da_nil)) (nomark _)) (dw_and1 (dt_cmp (op_eqD hr.units) (ok_eq (c := ct w K cl)) (de_ix ix_seq (ok_ix (c := ct w K cl)) (de_v 0) (de_v 1) (fun _ _ => rfl)) de_str (nomark _)))))
  (dss_cons (ds_set (i := 2) nd rfl (Or.inl rfl) (de_un un_neg ok_neg de_int))
  (dss_one (ds_aug (i := 1) nd rfl (Or.inl rfl) de_int ipd_add ok_addIS))) dss_nil)
  (dss_cons (ds_set (i := 3) nd rfl (Or.inl rfl) (de_make (i := 15) (ms := [false, false, false]) tk rfl T.M15 G0 (hr.mono (by decide)) rfl T.gC15 T.B0 .nil (fun _ => rfl) (lenA1 (lenA1 (lenA1 lenA0))) rfl (da_cons de_int (da_cons de_int (da_cons de_int da_nil)))))
  (dss_one (ds_while 100000 pa (dt_val de_bl)
  (dss_cons (ds_set (i := 4) nd rfl (Or.inl rfl) (de_call (ms := [false, false]) tk G22 (hr.mono (by decide)) rfl T.g22 T.F22.kp T.B22 .nil (fun _ => rfl) (lenA1 (lenA1 lenA0)) rfl (da_cons (de_v 0) (da_cons (de_v 1) da_nil))))
  (dss_cons (ds_if (dt_cmp op_isN ok_isN (de_v 4) de_non (nomark _))
  (dss_one (ds_ret de_non)) dss_nil)
  (dss_cons (ds_set (i := 3) nd rfl (Or.inl rfl) (de_call (ms := [false, false, false]) tk G15 (hr.mono (by decide)) rfl T.g15 T.F15.kp T.B15 .nil (fun _ => rfl) (lenA1 (lenA1 (lenA1 lenA0))) rfl (da_cons (de_v 3) (da_cons (de_ix ix_seq (ok_ix (c := ct w K cl)) (de_v 4) de_int (fun _ _ => rfl)) (da_cons (de_v 2) da_nil)))))
  (dss_cons (ds_set (i := 1) nd rfl (Or.inl rfl) (de_ix ix_seq (ok_ix (c := ct w K cl)) (de_v 4) de_int (fun _ _ => rfl)))
  (dss_cons (ds_if (DW.dt (dw_or (dt_cmp op_ge ok_ge (de_v 1) (de_callB call_lenA (ok_len (c := ct w K cl)) rfl T.z_len (by decide +kernel) (da_cons (de_v 0) da_nil)) (nomark _)) (dw_or1 (dt_cmp (op_niA (u65 hr)) (ok_niA (c := ct w K cl)) (de_ix ix_seq (ok_ix (c := ct w K cl)) (de_v 0) (de_v 1) (fun _ _ => rfl)) (de_tup (da_cons de_str (da_cons de_str da_nil))) rfl))))
  (dss_one (ds_ret (de_tup (da_cons (de_v 3) (da_cons (de_v 1) da_nil))))) dss_nil)
  (dss_cons (ds_set (i := 2) nd rfl (Or.inl rfl) (de_if (dt_cmp (op_eqD hr.units) (ok_eq (c := ct w K cl)) (de_ix ix_seq (ok_ix (c := ct w K cl)) (de_v 0) (de_v 1) (fun _ _ => rfl)) de_str (nomark _)) de_int (de_un un_neg ok_neg de_int)))
  (dss_one (ds_aug (i := 1) nd rfl (Or.inl rfl) de_int ipd_add ok_addIS)))))))))))))⟩
theorem ok24 (T : Tx w K mg cl f pp fd) : FnOk P w K mg base (CX P w) 6 (f 24) (fd 24) ["parts", "at"] (spD (ct w K cl) 2 m_lengths_length_at) := by
  have G23 := ok23 (P := P) (w := w) (base := base) T
  refine fn_ok (body := b_lengths_length_at) T.F24 sc24 (fun bs _ => rfl) (fun cdv A outer s H E hr => ?_)
  have nd := sc24.nd
  have tk : Takes (cxOf (CX P w) P w K mg base N24 "length_at" (defScope s24) (f 24) cdv A outer s H E) (fun cls d _ H => E cls d H) := takes_of rfl rfl rfl rfl
  have pa : PassesOwn (model P w) (cxOf (CX P w) P w K mg base N24 "length_at" (defScope s24) (f 24) cdv A outer s H E).A (cxOf (CX P w) P w K mg base N24 "length_at" (defScope s24) (f 24) cdv A outer s H E).env (cxOf (CX P w) P w K mg base N24 "length_at" (defScope s24) (f 24) cdv A outer s H E).xe := passes_of rfl
  exact ⟨_, (dss_cons (ds_set (i := 2) nd rfl (Or.inl rfl) (de_v 1))
  (dss_cons (ds_while 100000 pa (DW.dt (dw_and (dt_cmp op_lt ok_lt (de_v 2) (de_callB call_lenA (ok_len (c := ct w K cl)) rfl T.z_len (by decide +kernel) (da_cons (de_v 0) da_nil)) (nomark _)) (dw_and1 (dt_cmp (op_eqD hr.units) (ok_eq (c := ct w K cl)) (de_ix ix_seq (ok_ix (c := ct w K cl)) (de_v 0) (de_v 2) (fun _ _ => rfl)) de_str (nomark _)))))
  (dss_one (ds_aug (i := 2) nd rfl (Or.inl rfl) de_int ipd_add ok_addIS)))
  (dss_cons (ds_set (i := 3) nd rfl (Or.inl rfl) (de_call (ms := [false, false]) tk G23 (hr.mono (by decide)) rfl T.g23 T.F23.kp T.B23 .nil (fun _ => rfl) (lenA1 (lenA1 lenA0)) rfl (da_cons (de_v 0) (da_cons (de_v 2) da_nil))))
  (dss_cons (ds_if (dt_cmp op_isN ok_isN (de_v 3) de_non (nomark _))
  (dss_one (ds_ret de_non)) dss_nil)
  (dss_cons (ds_set (i := 4) nd rfl (Or.inl rfl) (de_op op_sub ok_sub (de_op op_addA ok_add (de_ix ix_seq (ok_ix (c := ct w K cl)) (de_v 3) de_int (fun _ _ => rfl)) (de_v 2)) (de_v 1)))
  (dss_cons (ds_if (dt_cmp (op_neD hr.units) (ok_ne (c := ct w K cl)) (de_sl rfl (de_v 0) (do_some (de_ix ix_seq (ok_ix (c := ct w K cl)) (de_v 3) de_int (fun _ _ => rfl))) (do_some (de_v 4))) (de_op op_mulA ok_mul (de_lst (da_cons de_str da_nil)) (de_op op_sub ok_sub (de_v 2) (de_v 1))) (nomark _))
  (dss_one (ds_ret de_non)) dss_nil)
  (dss_one (ds_ret (de_tup (da_cons (de_ix ix_seq (ok_ix (c := ct w K cl)) (de_v 3) de_int (fun _ _ => rfl)) (da_cons (de_v 4) da_nil)))))))))))⟩
theorem ok25 (T : Tx w K mg cl f pp fd) : FnOk P w K mg base (CX P w) 7 (f 25) (fd 25) ["text"] (spD (ct w K cl) 1 m_lengths_read_length) := by
  have G20 := ok20 (P := P) (w := w) (base := base) T
  have G24 := ok24 (P := P) (w := w) (base := base) T
  refine fn_ok (body := b_lengths_read_length) T.F25 sc25 (fun bs _ => rfl) (fun cdv A outer s H E hr => ?_)
  have nd := sc25.nd
  have tk : Takes (cxOf (CX P w) P w K mg base N25 "read_length" (defScope s25) (f 25) cdv A outer s H E) (fun cls d _ H => E cls d H) := takes_of rfl rfl rfl rfl
  have pa : PassesOwn (model P w) (cxOf (CX P w) P w K mg base N25 "read_length" (defScope s25) (f 25) cdv A outer s H E).A (cxOf (CX P w) P w K mg base N25 "read_length" (defScope s25) (f 25) cdv A outer s H E).env (cxOf (CX P w) P w K mg base N25 "read_length" (defScope s25) (f 25) cdv A outer s H E).xe := passes_of rfl
  exact ⟨_, (dss_cons (ds_set (i := 1) nd rfl (Or.inl rfl) (de_call (ms := [false]) tk G20 (hr.mono (by decide)) rfl T.g20 T.F20.kp T.B20 .nil (fun _ => rfl) (lenA1 lenA0) rfl (da_cons (de_v 0) da_nil)))
  (dss_cons (ds_set (i := 2) nd rfl (Or.inl rfl) (de_if (dt_cmp op_isN ok_isN (de_v 1) de_non (nomark _)) de_non (de_call (ms := [false, false]) tk G24 (hr.mono (by decide)) rfl T.g24 T.F24.kp T.B24 .nil (fun _ => rfl) (lenA1 (lenA1 lenA0)) rfl (da_cons (de_v 1) (da_cons de_int da_nil)))))
  (dss_cons (ds_if (DW.dt (dw_or (dt_cmp op_isN ok_isN (de_v 1) de_non (nomark _)) (dw_or (dt_cmp op_isN ok_isN (de_v 2) de_non (nomark _)) (dw_or1 (dt_cmp (op_neD hr.units) (ok_ne (c := ct w K cl)) (de_ix ix_seq (ok_ix (c := ct w K cl)) (de_v 2) de_int (fun _ _ => rfl)) (de_callB call_lenA (ok_len (c := ct w K cl)) rfl T.z_len (by decide +kernel) (da_cons (de_v 1) da_nil)) (nomark _))))))
  (dss_one (ds_raise0 (k := 1) rfl tk rfl PySem.F.excBase_ValueError T.X1.q T.gC1 T.X1.kC T.X1.r1 T.X1.r2 rfl)) dss_nil)
  (dss_one (ds_ret (de_ix ix_seq (ok_ix (c := ct w K cl)) (de_v 2) de_int (fun _ _ => rfl)))))))⟩
theorem ok26 (T : Tx w K mg cl f pp fd) : FnOk P w K mg base (CX P w) 1 (f 26) (fd 26) ["_law_script", "_law_k"] (spD (ct w K cl) 2 m_law_tape) := by
  refine fn_ok (body := b_law_tape) T.F26 sc26 (fun bs _ => rfl) (fun cdv A outer s H E hr => ?_)
  have nd := sc26.nd
  have tk : Takes (cxOf (CX P w) P w K mg base N26 "_law_tape" (defScope s26) (f 26) cdv A outer s H E) (fun cls d _ H => E cls d H) := takes_of rfl rfl rfl rfl
  have pa : PassesOwn (model P w) (cxOf (CX P w) P w K mg base N26 "_law_tape" (defScope s26) (f 26) cdv A outer s H E).A (cxOf (CX P w) P w K mg base N26 "_law_tape" (defScope s26) (f 26) cdv A outer s H E).env (cxOf (CX P w) P w K mg base N26 "_law_tape" (defScope s26) (f 26) cdv A outer s H E).xe := passes_of rfl
  exact ⟨_, (dss_cons (ds_set (i := 2) nd rfl (Or.inl rfl) (de_if (dt_cmp op_lt ok_lt (de_v 1) (de_callB call_lenA (ok_len (c := ct w K cl)) rfl T.z_len (by decide +kernel) (da_cons (de_v 0) da_nil)) (nomark _)) (de_ix ix_seq (ok_ix (c := ct w K cl)) (de_v 0) (de_v 1) (fun _ _ => rfl)) de_int))
  (dss_one (ds_ret (de_lst (da_cons (de_callB call_abs ok_abs rfl T.z_abs (by decide +kernel) (da_cons (de_v 2) da_nil)) (da_cons (de_op op_addA ok_add (de_op op_mulA ok_mul de_int (de_v 1)) de_int) da_nil))))))⟩
theorem ok27 (T : Tx w K mg cl f pp fd) : FnOk P w K mg base (CX P w) 1 (f 27) (fd 27) ["_law_tape_here", "_law_many"] (spD (ct w K cl) 2 m_law_pick) := by
  refine fn_ok (body := b_law_pick) T.F27 sc27 (fun bs _ => rfl) (fun cdv A outer s H E hr => ?_)
  have nd := sc27.nd
  have tk : Takes (cxOf (CX P w) P w K mg base N27 "_law_pick" (defScope s27) (f 27) cdv A outer s H E) (fun cls d _ H => E cls d H) := takes_of rfl rfl rfl rfl
  have pa : PassesOwn (model P w) (cxOf (CX P w) P w K mg base N27 "_law_pick" (defScope s27) (f 27) cdv A outer s H E).A (cxOf (CX P w) P w K mg base N27 "_law_pick" (defScope s27) (f 27) cdv A outer s H E).env (cxOf (CX P w) P w K mg base N27 "_law_pick" (defScope s27) (f 27) cdv A outer s H E).xe := passes_of rfl
  exact ⟨_, (dss_cons (ds_if (dt_cmp op_ge ok_ge (de_ix ix_seq (ok_ix (c := ct w K cl)) (de_v 0) de_int (fun _ _ => rfl)) (de_op op_pow ok_pow de_int de_int) (nomark _))
  (dss_cons (ds_set (i := 3) nd rfl (Or.inl rfl) (de_op op_modN ok_mod (de_callTy call_int1 ok_int rfl T.z_int (by decide +kernel) (da_cons (de_ix ix_seq (ok_ix (c := ct w K cl)) (de_v 0) de_int (fun _ _ => rfl)) da_nil)) (de_v 1)))
  (dss_cons (ds_setL (j := 0) (pv 0) de_int (de_op op_fdivD ok_div (de_ix ix_seq (ok_ix (c := ct w K cl)) (de_v 0) de_int (fun _ _ => rfl)) (de_v 1)))
  (dss_one (ds_ret (de_v 3))))) dss_nil)
  (dss_cons (ds_setL (j := 0) (pv 0) de_int (de_op op_modN ok_mod (de_callTy call_int1 ok_int rfl T.z_int (by decide +kernel) (da_cons (de_op op_addA ok_add (de_op op_addA ok_add (de_op op_mulA ok_mul (de_ix ix_seq (ok_ix (c := ct w K cl)) (de_v 0) de_int (fun _ _ => rfl)) de_int) (de_op op_mulA ok_mul (de_ix ix_seq (ok_ix (c := ct w K cl)) (de_v 0) de_int (fun _ _ => rfl)) de_int)) de_int) da_nil)) de_int))
  (dss_cons (ds_set (i := 2) nd rfl (Or.inl rfl) (de_op op_modN ok_mod (de_callTy call_int1 ok_int rfl T.z_int (by decide +kernel) (da_cons (de_op op_addA ok_add (de_op op_addA ok_add (de_op op_mulA ok_mul (de_ix ix_seq (ok_ix (c := ct w K cl)) (de_v 0) de_int (fun _ _ => rfl)) (de_ix ix_seq (ok_ix (c := ct w K cl)) (de_v 0) de_int (fun _ _ => rfl))) (de_op op_mulA ok_mul (de_ix ix_seq (ok_ix (c := ct w K cl)) (de_v 0) de_int (fun _ _ => rfl)) de_int)) de_int) da_nil)) de_int))
  (dss_one (ds_ret (de_op op_modN ok_mod (de_callTy call_int1 ok_int rfl T.z_int (by decide +kernel) (da_cons (de_op op_fdivD ok_div (de_v 2) de_int) da_nil)) (de_v 1)))))))⟩
theorem ok28 (T : Tx w K mg cl f pp fd) : FnOk P w K mg base (CX P w) 2 (f 28) (fd 28) ["_law_tape_here"] (spD (ct w K cl) 1 m_law_gap) := by
  have G27 := ok27 (P := P) (w := w) (base := base) T
  refine fn_ok (body := b_law_gap) T.F28 sc28 (fun bs _ => rfl) (fun cdv A outer s H E hr => ?_)
  have nd := sc28.nd
  have tk : Takes (cxOf (CX P w) P w K mg base N28 "_law_gap" (defScope s28) (f 28) cdv A outer s H E) (fun cls d _ H => E cls d H) := takes_of rfl rfl rfl rfl
  have pa : PassesOwn (model P w) (cxOf (CX P w) P w K mg base N28 "_law_gap" (defScope s28) (f 28) cdv A outer s H E).A (cxOf (CX P w) P w K mg base N28 "_law_gap" (defScope s28) (f 28) cdv A outer s H E).env (cxOf (CX P w) P w K mg base N28 "_law_gap" (defScope s28) (f 28) cdv A outer s H E).xe := passes_of rfl
  exact ⟨_, (dss_one (ds_ret (de_op op_mulAS ok_mulA de_str (de_ix ix_seq (ok_ix (c := ct w K cl)) (de_lst (da_cons de_int (da_cons de_int (da_cons de_int (da_cons de_int da_nil))))) (de_call (ms := [true, false]) tk G27 (hr.mono (by decide)) rfl T.g27 T.F27.kp T.B27 .nil (fun _ => rfl) (lenA1 (lenA1 lenA0)) rfl (da_cons (de_v 0) (da_cons de_int da_nil))) (fun _ _ => rfl)))))⟩
theorem ok29 (T : Tx w K mg cl f pp fd) : FnOk P w K mg base (CX P w) 2 (f 29) (fd 29) ["_law_tape_here"] (spD (ct w K cl) 1 m_law_terms) := by
  have G27 := ok27 (P := P) (w := w) (base := base) T
  refine fn_ok (body := b_law_terms) T.F29 sc29 (fun bs _ => rfl) (fun cdv A outer s H E hr => ?_)
  have nd := sc29.nd
  have tk : Takes (cxOf (CX P w) P w K mg base N29 "_law_terms" (defScope s29) (f 29) cdv A outer s H E) (fun cls d _ H => E cls d H) := takes_of rfl rfl rfl rfl
  have pa : PassesOwn (model P w) (cxOf (CX P w) P w K mg base N29 "_law_terms" (defScope s29) (f 29) cdv A outer s H E).A (cxOf (CX P w) P w K mg base N29 "_law_terms" (defScope s29) (f 29) cdv A outer s H E).env (cxOf (CX P w) P w K mg base N29 "_law_terms" (defScope s29) (f 29) cdv A outer s H E).xe := passes_of rfl
  exact ⟨_, (dss_cons (ds_set (i := 1) nd rfl (Or.inl rfl) (de_lst da_nil))
  (dss_cons (ds_set (i := 2) nd rfl (Or.inl rfl) (de_lst (da_cons de_int (da_cons de_int (da_cons de_int da_nil)))))
  (dss_cons (ds_set (i := 3) nd rfl (Or.inl rfl) (de_op op_addA ok_add de_int (de_call (ms := [true, false]) tk G27 (hr.mono (by decide)) rfl T.g27 T.F27.kp T.B27 .nil (fun _ => rfl) (lenA1 (lenA1 lenA0)) rfl (da_cons (de_v 0) (da_cons de_int da_nil)))))
  (dss_cons (ds_for pa rfl (di_range1 rfl T.z_range (da_cons (de_v 3) da_nil)) (dg_name (i := 4) nd rfl (Or.inl rfl))
  (dss_cons (ds_set (i := 5) nd rfl (Or.inl rfl) de_int)
  (dss_cons (ds_if (DW.dt (dw_or (dt_cmp op_gt ok_gt (de_v 4) de_int (nomark _)) (dw_or1 (dt_cmp (op_eqD hr.units) (ok_eq (c := ct w K cl)) (de_call (ms := [true, false]) tk G27 (hr.mono (by decide)) rfl T.g27 T.F27.kp T.B27 .nil (fun _ => rfl) (lenA1 (lenA1 lenA0)) rfl (da_cons (de_v 0) (da_cons de_int da_nil))) de_int (nomark _)))))
  (dss_cons (ds_set (i := 5) nd rfl (Or.inl rfl) (de_if (dt_cmp op_gt ok_gt (de_v 4) de_int (nomark _)) (de_ix ix_seq (ok_ix (c := ct w K cl)) (de_lst (da_cons de_int (da_cons (de_un un_neg ok_neg de_int) da_nil))) (de_call (ms := [true, false]) tk G27 (hr.mono (by decide)) rfl T.g27 T.F27.kp T.B27 .nil (fun _ => rfl) (lenA1 (lenA1 lenA0)) rfl (da_cons (de_v 0) (da_cons de_int da_nil))) (fun _ _ => rfl)) (de_un un_neg ok_neg de_int)))
  (dss_one (ds_expr (de_app (j := 1) (pv 1) rfl (de_if (dt_cmp (op_eqD hr.units) (ok_eq (c := ct w K cl)) (de_v 5) de_int (nomark _)) de_str de_str))))) dss_nil)
  (dss_cons (ds_set (i := 6) nd rfl (Or.inl rfl) (de_call (ms := [true, false]) tk G27 (hr.mono (by decide)) rfl T.g27 T.F27.kp T.B27 .nil (fun _ => rfl) (lenA1 (lenA1 lenA0)) rfl (da_cons (de_v 0) (da_cons (de_ix ix_seq (ok_ix (c := ct w K cl)) (de_lst (da_cons de_int (da_cons de_int (da_cons de_int da_nil)))) (de_call (ms := [true, false]) tk G27 (hr.mono (by decide)) rfl T.g27 T.F27.kp T.B27 .nil (fun _ => rfl) (lenA1 (lenA1 lenA0)) rfl (da_cons (de_v 0) (da_cons de_int da_nil))) (fun _ _ => rfl)) da_nil))))
  (dss_cons (ds_set (i := 7) nd rfl (Or.inl rfl) (de_call (ms := [true, false]) tk G27 (hr.mono (by decide)) rfl T.g27 T.F27.kp T.B27 .nil (fun _ => rfl) (lenA1 (lenA1 lenA0)) rfl (da_cons (de_v 0) (da_cons de_int da_nil))))
  (dss_one (ds_if (dt_cmp op_lt ok_lt (de_v 7) de_int (nomark _))
  (dss_cons (ds_set (i := 1) nd rfl (Or.inl rfl) (de_op op_addA ok_add (de_v 1) (de_lst (da_cons (de_callTy call_str_int ok_strI rfl T.z_str (by decide +kernel) (da_cons (de_v 6) da_nil)) (da_cons de_str (da_cons (de_ix ix_seq (ok_ix (c := ct w K cl)) de_str (de_v 7) (fun _ _ => rfl)) da_nil))))))
  (dss_one (ds_setL (j := 2) (pv 2) (de_v 7) (de_op op_addA ok_add (de_ix ix_seq (ok_ix (c := ct w K cl)) (de_v 2) (de_v 7) (fun _ _ => rfl)) (de_op op_mulA ok_mul (de_v 5) (de_v 6)))))) (dss_one (ds_if (dt_cmp op_lt ok_lt (de_v 7) de_int (nomark _))
  (dss_cons (ds_expr (de_app (j := 1) (pv 1) rfl (de_ix ix_seq (ok_ix (c := ct w K cl)) de_str (de_op op_sub ok_sub (de_v 7) de_int) (fun _ _ => rfl))))
  (dss_one (ds_setL (j := 2) (pv 2) (de_op op_sub ok_sub (de_v 7) de_int) (de_op op_addA ok_add (de_ix ix_seq (ok_ix (c := ct w K cl)) (de_v 2) (de_op op_sub ok_sub (de_v 7) de_int) (fun _ _ => rfl)) (de_v 5))))) (dss_cons (ds_expr (de_app (j := 1) (pv 1) rfl (de_callTy call_str_int ok_strI rfl T.z_str (by decide +kernel) (da_cons (de_v 6) da_nil))))
  (dss_one (ds_setL (j := 2) (pv 2) de_int (de_op op_addA ok_add (de_ix ix_seq (ok_ix (c := ct w K cl)) (de_v 2) de_int (fun _ _ => rfl)) (de_op op_mulA ok_mul (de_v 5) (de_v 6)))))))))))))))
  (dss_one (ds_ret (de_lst (da_cons (de_v 1) (da_cons (de_v 2) da_nil)))))))))⟩
theorem ok30 (T : Tx w K mg cl f pp fd) : FnOk P w K mg base (CX P w) 1 (f 30) (fd 30) ["_law_parts", "_law_choice", "_law_spot"] (spD (ct w K cl) 3 m_law_spoilt) := by
  refine fn_ok (body := b_law_spoilt) T.F30 sc30 (fun bs _ => rfl) (fun cdv A outer s H E hr => ?_)
  have nd := sc30.nd
  have tk : Takes (cxOf (CX P w) P w K mg base N30 "_law_spoilt" (defScope s30) (f 30) cdv A outer s H E) (fun cls d _ H => E cls d H) := takes_of rfl rfl rfl rfl
  have pa : PassesOwn (model P w) (cxOf (CX P w) P w K mg base N30 "_law_spoilt" (defScope s30) (f 30) cdv A outer s H E).A (cxOf (CX P w) P w K mg base N30 "_law_spoilt" (defScope s30) (f 30) cdv A outer s H E).env (cxOf (CX P w) P w K mg base N30 "_law_spoilt" (defScope s30) (f 30) cdv A outer s H E).xe := passes_of rfl
  exact ⟨_, (dss_cons (ds_set (i := 3) nd rfl (by first | exact Or.inl rfl | exact Or.inr rfl) (de_op op_modN ok_mod (de_callTy call_int1 ok_int rfl T.z_int (by decide +kernel) (da_cons (de_v 2) da_nil)) (de_callB call_lenA (ok_len (c := ct w K cl)) rfl T.z_len (by decide +kernel) (da_cons (de_v 0) da_nil))))
  (dss_cons (ds_if (dt_cmp (op_eqD hr.units) (ok_eq (c := ct w K cl)) (de_v 1) de_int (nomark _))
  (dss_one (ds_ret (de_op op_addA ok_add (de_op op_addA ok_add (de_sl rfl (de_v 0) do_none (do_some (de_v 3))) (de_lst (da_cons de_str (da_cons de_str da_nil)))) (de_sl rfl (de_v 0) (do_some (de_v 3)) do_none)))) dss_nil)
  (dss_cons (ds_if (dt_cmp (op_eqD hr.units) (ok_eq (c := ct w K cl)) (de_v 1) de_int (nomark _))
  (dss_cons (ds_setLc (i := 4) (own := [("_law_k", 6)]) rfl nd rfl rfl rfl (di_range1 rfl T.z_range (da_cons (de_callB call_lenA (ok_len (c := ct w K cl)) rfl T.z_len (by decide +kernel) (da_cons (de_v 0) da_nil)) da_nil)) (blkOk_by (own := [("_law_k", 6)]) (N := N30) (sc := defScope s30) (by decide +kernel)) (fun _ _ _ _ _ => (dgc_name (i := 6) nd rfl (by first | exact Or.inl rfl | exact Or.inr rfl) (by decide))) (fun _ _ _ _ _ => by exact (dts_one (dt_cmp (op_inA (u65 hr)) (ok_inA (c := ct w K cl)) (de_sl rfl (de_ix ix_seq (ok_ix (c := ct w K cl)) (de_v 0) (de_v 6) (fun _ _ => rfl)) do_none (do_some de_int)) de_str rfl))) (fun _ _ _ _ _ => by exact (de_v 6)))
  (dss_cons (ds_set (i := 5) nd rfl (by first | exact Or.inl rfl | exact Or.inr rfl) (de_ix ix_seq (ok_ix (c := ct w K cl)) (de_lst (da_cons de_str (da_cons de_str (da_cons de_str (da_cons de_str (da_cons de_str (da_cons de_str (da_cons de_str da_nil)))))))) (de_op op_modN ok_mod (de_callTy call_int1 ok_int rfl T.z_int (by decide +kernel) (da_cons (de_op op_fdivD ok_div (de_v 2) de_int) da_nil)) de_int) (fun _ _ => rfl)))
  (dss_cons (ds_set (i := 3) nd rfl (by first | exact Or.inl rfl | exact Or.inr rfl) (de_if (dt_cmp (op_neD hr.units) (ok_ne (c := ct w K cl)) (de_v 4) (de_lst da_nil) (nomark _)) (de_ix ix_seq (ok_ix (c := ct w K cl)) (de_v 4) (de_op op_modN ok_mod (de_callTy call_int1 ok_int rfl T.z_int (by decide +kernel) (da_cons (de_v 2) da_nil)) (de_callB call_lenA (ok_len (c := ct w K cl)) rfl T.z_len (by decide +kernel) (da_cons (de_v 4) da_nil))) (fun _ _ => rfl)) (de_callB call_lenA (ok_len (c := ct w K cl)) rfl T.z_len (by decide +kernel) (da_cons (de_v 0) da_nil))))
  (dss_one (ds_ret (de_op op_addA ok_add (de_op op_addA ok_add (de_sl rfl (de_v 0) do_none (do_some (de_v 3))) (de_lst (da_cons (de_v 5) da_nil))) (de_sl rfl (de_v 0) (do_some (de_op op_addA ok_add (de_v 3) de_int)) do_none))))))) dss_nil)
  (dss_cons (ds_if (dt_cmp (op_eqD hr.units) (ok_eq (c := ct w K cl)) (de_v 1) de_int (nomark _))
  (dss_one (ds_ret (de_ix ix_seq (ok_ix (c := ct w K cl)) (de_lst (da_cons (de_op op_addA ok_add (de_lst (da_cons de_str da_nil)) (de_v 0)) (da_cons (de_op op_addA ok_add (de_lst (da_cons de_str da_nil)) (de_v 0)) (da_cons (de_op op_addA ok_add (de_v 0) (de_lst (da_cons de_str da_nil))) (da_cons (de_op op_addA ok_add (de_v 0) (de_lst (da_cons de_str da_nil))) da_nil))))) (de_op op_modN ok_mod (de_callTy call_int1 ok_int rfl T.z_int (by decide +kernel) (da_cons (de_v 2) da_nil)) de_int) (fun _ _ => rfl)))) dss_nil)
  (dss_cons (ds_if (dt_cmp (op_eqD hr.units) (ok_eq (c := ct w K cl)) (de_v 1) de_int (nomark _))
  (dss_one (ds_ret (de_op op_addA ok_add (de_v 0) (de_lst (da_cons de_str da_nil))))) dss_nil)
  (dss_cons (ds_if (dt_cmp (op_eqD hr.units) (ok_eq (c := ct w K cl)) (de_v 1) de_int (nomark _))
  (dss_one (ds_ret (de_op op_addA ok_add (de_v 0) (de_lst (da_cons (de_ix ix_seq (ok_ix (c := ct w K cl)) (de_lst (da_cons de_str (da_cons de_str (da_cons de_str da_nil)))) (de_op op_modN ok_mod (de_callTy call_int1 ok_int rfl T.z_int (by decide +kernel) (da_cons (de_v 2) da_nil)) de_int) (fun _ _ => rfl)) da_nil))))) dss_nil)
  (dss_cons (ds_if (dt_cmp (op_eqD hr.units) (ok_eq (c := ct w K cl)) (de_v 1) de_int (nomark _))
  (dss_one (ds_ret (de_op op_addA ok_add (de_v 0) (de_lst (da_cons de_str (da_cons de_str (da_cons de_str (da_cons de_str da_nil)))))))) dss_nil)
  (dss_cons (ds_if (dt_cmp (op_eqD hr.units) (ok_eq (c := ct w K cl)) (de_v 1) de_int (nomark _))
  (dss_one (ds_ret (de_lst da_nil))) dss_nil)
  (dss_one (ds_ret (de_op op_addA ok_add (de_v 0) (de_lst (da_cons de_str (da_cons (de_ix ix_seq (ok_ix (c := ct w K cl)) (de_lst (da_cons de_str (da_cons de_str (da_cons de_str (da_cons de_str (da_cons de_str (da_cons de_str da_nil))))))) (de_op op_modN ok_mod (de_callTy call_int1 ok_int rfl T.z_int (by decide +kernel) (da_cons (de_v 2) da_nil)) de_int) (fun _ _ => rfl)) da_nil))))))))))))))⟩
theorem ok31 (T : Tx w K mg cl f pp fd) : FnOk P w K mg base (CX P w) 1 (f 31) (fd 31) ["_law_kind"] (spD (ct w K cl) 1 m_law_wrong) := by
  refine fn_ok (body := b_law_wrong) T.F31 sc31 (fun bs _ => rfl) (fun cdv A outer s H E hr => ?_)
  have nd := sc31.nd
  have tk : Takes (cxOf (CX P w) P w K mg base N31 "_law_wrong" (defScope s31) (f 31) cdv A outer s H E) (fun cls d _ H => E cls d H) := takes_of rfl rfl rfl rfl
  have pa : PassesOwn (model P w) (cxOf (CX P w) P w K mg base N31 "_law_wrong" (defScope s31) (f 31) cdv A outer s H E).A (cxOf (CX P w) P w K mg base N31 "_law_wrong" (defScope s31) (f 31) cdv A outer s H E).env (cxOf (CX P w) P w K mg base N31 "_law_wrong" (defScope s31) (f 31) cdv A outer s H E).xe := passes_of rfl
  exact ⟨_, (dss_cons (ds_set (i := 1) nd rfl (Or.inl rfl) (de_lst (da_cons de_str (da_cons de_str (da_cons de_str (da_cons de_str (da_cons de_str (da_cons de_str (da_cons de_str (da_cons de_str (da_cons de_str (da_cons de_str (da_cons de_str da_nil)))))))))))))
  (dss_cons (ds_set (i := 1) nd rfl (Or.inl rfl) (de_op op_addA ok_add (de_v 1) (de_lst (da_cons de_str (da_cons de_str (da_cons de_str (da_cons de_str (da_cons de_str (da_cons de_str (da_cons de_str (da_cons de_str (da_cons de_str (da_cons de_str (da_cons de_str (da_cons de_str (da_cons de_str da_nil))))))))))))))))
  (dss_cons (ds_set (i := 1) nd rfl (Or.inl rfl) (de_op op_addA ok_add (de_v 1) (de_lst (da_cons de_str (da_cons de_str (da_cons de_str (da_cons de_str (da_cons de_str (da_cons de_str (da_cons de_str (da_cons de_str (da_cons de_str (da_cons de_str (da_cons de_str da_nil))))))))))))))
  (dss_cons (ds_set (i := 1) nd rfl (Or.inl rfl) (de_op op_addA ok_add (de_v 1) (de_lst (da_cons de_str (da_cons de_str (da_cons de_str (da_cons de_str (da_cons de_str (da_cons de_str (da_cons (de_op op_mulAS ok_mulA de_str de_int) (da_cons (de_op op_addA ok_add (de_op op_mulAS ok_mulA de_str de_int) de_str) da_nil)))))))))))
  (dss_one (ds_ret (de_ix ix_seq (ok_ix (c := ct w K cl)) (de_v 1) (de_op op_modN ok_mod (de_callTy call_int1 ok_int rfl T.z_int (by decide +kernel) (da_cons (de_v 0) da_nil)) (de_callB call_lenA (ok_len (c := ct w K cl)) rfl T.z_len (by decide +kernel) (da_cons (de_v 1) da_nil))) (fun _ _ => rfl))))))))⟩
theorem ok32 (T : Tx w K mg cl f pp fd) : FnOk P w K mg base (CX P w) 1 (f 32) (fd 32) ["_law_members"] (spD (ct w K cl) 1 m_law_text) := by
  refine fn_ok (body := b_law_text) T.F32 sc32 (fun bs _ => rfl) (fun cdv A outer s H E hr => ?_)
  have nd := sc32.nd
  have tk : Takes (cxOf (CX P w) P w K mg base N32 "_law_text" (defScope s32) (f 32) cdv A outer s H E) (fun cls d _ H => E cls d H) := takes_of rfl rfl rfl rfl
  have pa : PassesOwn (model P w) (cxOf (CX P w) P w K mg base N32 "_law_text" (defScope s32) (f 32) cdv A outer s H E).A (cxOf (CX P w) P w K mg base N32 "_law_text" (defScope s32) (f 32) cdv A outer s H E).env (cxOf (CX P w) P w K mg base N32 "_law_text" (defScope s32) (f 32) cdv A outer s H E).xe := passes_of rfl
  exact ⟨_, (dss_cons (ds_set (i := 1) nd rfl (Or.inl rfl) de_str)
  (dss_cons (ds_for pa rfl (di_range1 rfl T.z_range (da_cons de_int da_nil)) (dg_name (i := 2) nd rfl (Or.inl rfl))
  (dss_cons (ds_set (i := 3) nd rfl (Or.inl rfl) (de_callB call_abs ok_abs rfl T.z_abs (by decide +kernel) (da_cons (de_ix ix_seq (ok_ix (c := ct w K cl)) (de_v 0) (de_v 2) (fun _ _ => rfl)) da_nil)))
  (dss_one (ds_if (dt_cmp op_gt ok_gt (de_v 3) de_int (nomark _))
  (dss_cons (ds_set (i := 4) nd rfl (Or.inl rfl) (de_if (dt_cmp op_lt ok_lt (de_ix ix_seq (ok_ix (c := ct w K cl)) (de_v 0) (de_v 2) (fun _ _ => rfl)) de_int (nomark _)) de_str de_str))
  (dss_cons (ds_if (dt_cmp (op_eqD hr.units) (ok_eq (c := ct w K cl)) (de_v 1) de_str (nomark _))
  (dss_one (ds_set (i := 4) nd rfl (Or.inl rfl) (de_if (dt_cmp op_lt ok_lt (de_ix ix_seq (ok_ix (c := ct w K cl)) (de_v 0) (de_v 2) (fun _ _ => rfl)) de_int (nomark _)) de_str de_str))) dss_nil)
  (dss_cons (ds_set (i := 5) nd rfl (Or.inl rfl) (de_ix ix_seq (ok_ix (c := ct w K cl)) (de_lst (da_cons de_str (da_cons de_str (da_cons de_str da_nil)))) (de_v 2) (fun _ _ => rfl)))
  (dss_cons (ds_set (i := 6) nd rfl (Or.inl rfl) (de_if (dt_cmp (op_eqD hr.units) (ok_eq (c := ct w K cl)) (de_v 2) de_int (nomark _)) (de_callTy call_str_int ok_strI rfl T.z_str (by decide +kernel) (da_cons (de_v 3) da_nil)) (de_if (dt_cmp (op_eqD hr.units) (ok_eq (c := ct w K cl)) (de_v 3) de_int (nomark _)) (de_v 5) (de_op op_addA ok_add (de_op op_addA ok_add (de_callTy call_str_int ok_strI rfl T.z_str (by decide +kernel) (da_cons (de_v 3) da_nil)) de_str) (de_v 5)))))
  (dss_one (ds_set (i := 1) nd rfl (Or.inl rfl) (de_op op_addA ok_add (de_op op_addA ok_add (de_v 1) (de_v 4)) (de_v 6)))))))) dss_nil))))
  (dss_one (ds_ret (de_if (dt_cmp (op_eqD hr.units) (ok_eq (c := ct w K cl)) (de_v 1) de_str (nomark _)) de_str (de_v 1))))))⟩
theorem ok33 (T : Tx w K mg cl f pp fd) : FnOk P w K mg base (CX P w) 8 (f 33) (fd 33) ["_law_text_here"] (spD (ct w K cl) 1 m_law_told) := by
  have G25 := ok25 (P := P) (w := w) (base := base) T
  have G1 := ok1 (P := P) (w := w) (base := base) T
  have G2 := ok2 (P := P) (w := w) (base := base) T
  have G3 := ok3 (P := P) (w := w) (base := base) T
  refine fn_ok (body := b_law_told) T.F33 sc33 (fun bs _ => rfl) (fun cdv A outer s H E hr => ?_)
  have nd := sc33.nd
  have tk : Takes (cxOf (CX P w) P w K mg base N33 "_law_told" (defScope s33) (f 33) cdv A outer s H E) (fun cls d _ H => E cls d H) := takes_of rfl rfl rfl rfl
  have pa : PassesOwn (model P w) (cxOf (CX P w) P w K mg base N33 "_law_told" (defScope s33) (f 33) cdv A outer s H E).A (cxOf (CX P w) P w K mg base N33 "_law_told" (defScope s33) (f 33) cdv A outer s H E).env (cxOf (CX P w) P w K mg base N33 "_law_told" (defScope s33) (f 33) cdv A outer s H E).xe := passes_of rfl
  exact ⟨_, (dss_cons (ds_try_as (i := 2) rfl rfl nd rfl rfl ⟨rfl, by decide, .inl T.gC1⟩ tk rfl T.TR_BadText (fun W' pn xe tk pa => (dss_one (ds_set (i := 1) nd rfl (Or.inl rfl) (de_call (ms := [false]) tk G25 (hr.mono (by decide)) rfl T.g25 T.F25.kp T.B25 .nil (fun _ => rfl) (lenA1 lenA0) rfl (da_cons (de_v 0) da_nil))))) (fun a oe cls d pn hz hf => (dss_one (ds_ret (de_if (dt_val (de_isX (i := 2) rfl hz hf (.own _) T.IX0 rfl T.z_isinstance (pv 2) (pe_glob rfl T.gC0 rfl))) (de_lst da_nil) (de_lst (da_cons de_int da_nil)))))))
  (dss_one (ds_ret (de_lst (da_cons (de_prop (i := 15) rfl T.C15 T.P1 G1 (hr.mono (by decide)) T.B1 (de_v 1)) (da_cons (de_prop (i := 15) rfl T.C15 T.P2 G2 (hr.mono (by decide)) T.B2 (de_v 1)) (da_cons (de_prop (i := 15) rfl T.C15 T.P3 G3 (hr.mono (by decide)) T.B3 (de_v 1)) da_nil)))))))⟩
theorem ok34 (T : Tx w K mg cl f pp fd) : FnOk P w K mg base (CX P w) 9 (f 34) (fd 34) ["_law_script"] (spD (ct w K cl) 1 m_law_law) := by
  have G26 := ok26 (P := P) (w := w) (base := base) T
  have G27 := ok27 (P := P) (w := w) (base := base) T
  have G29 := ok29 (P := P) (w := w) (base := base) T
  have G30 := ok30 (P := P) (w := w) (base := base) T
  have G28 := ok28 (P := P) (w := w) (base := base) T
  have G33 := ok33 (P := P) (w := w) (base := base) T
  have G31 := ok31 (P := P) (w := w) (base := base) T
  have G13 := ok13 (P := P) (w := w) (base := base) T
  have G0 := ok0 (P := P) (w := w) (base := base) T
  have G32 := ok32 (P := P) (w := w) (base := base) T
  refine fn_ok (body := b_law_law) T.F34 sc34 (fun bs _ => rfl) (fun cdv A outer s H E hr => ?_)
  have nd := sc34.nd
  have tk : Takes (cxOf (CX P w) P w K mg base N34 "law" (defScope s34) (f 34) cdv A outer s H E) (fun cls d _ H => E cls d H) := takes_of rfl rfl rfl rfl
  have pa : PassesOwn (model P w) (cxOf (CX P w) P w K mg base N34 "law" (defScope s34) (f 34) cdv A outer s H E).A (cxOf (CX P w) P w K mg base N34 "law" (defScope s34) (f 34) cdv A outer s H E).env (cxOf (CX P w) P w K mg base N34 "law" (defScope s34) (f 34) cdv A outer s H E).xe := passes_of rfl
  exact ⟨_, (dss_cons (ds_set (i := 1) nd rfl (by first | exact Or.inl rfl | exact Or.inr rfl) (de_call (ms := [false, false]) tk G26 (hr.mono (by decide)) rfl T.g26 T.F26.kp T.B26 .nil (fun _ => rfl) (lenA1 (lenA1 lenA0)) rfl (da_cons (de_v 0) (da_cons de_int da_nil))))
  (dss_cons (ds_set (i := 2) nd rfl (by first | exact Or.inl rfl | exact Or.inr rfl) (de_call (ms := [true, false]) tk G27 (hr.mono (by decide)) rfl T.g27 T.F27.kp T.B27 .nil (fun _ => rfl) (lenA1 (lenA1 lenA0)) rfl (da_cons (de_v 1) (da_cons de_int da_nil))))
  (dss_cons (ds_set (i := 3) nd rfl (by first | exact Or.inl rfl | exact Or.inr rfl) (de_call (ms := [true, false]) tk G27 (hr.mono (by decide)) rfl T.g27 T.F27.kp T.B27 .nil (fun _ => rfl) (lenA1 (lenA1 lenA0)) rfl (da_cons (de_v 1) (da_cons de_int da_nil))))
  (dss_cons (ds_set (i := 4) nd rfl (by first | exact Or.inl rfl | exact Or.inr rfl) (de_ix ix_seq (ok_ix (c := ct w K cl)) (de_lst (da_cons de_int (da_cons de_int (da_cons de_int (da_cons de_int (da_cons de_int da_nil)))))) (de_call (ms := [true, false]) tk G27 (hr.mono (by decide)) rfl T.g27 T.F27.kp T.B27 .nil (fun _ => rfl) (lenA1 (lenA1 lenA0)) rfl (da_cons (de_v 1) (da_cons de_int da_nil))) (fun _ _ => rfl)))
  (dss_cons (ds_asg (de_callF (ms := []) tk G29 (hr.mono (by decide)) rfl T.g29 T.F29.kp T.B29 .nil (fun _ => rfl) lenA0 rfl (de_call (ms := [false, false]) tk G26 (hr.mono (by decide)) rfl T.g26 T.F26.kp T.B26 .nil (fun _ => rfl) (lenA1 (lenA1 lenA0)) rfl (da_cons (de_v 0) (da_cons de_int da_nil))) da_nil) (dg_lst' rfl (dgs_cons (dg_name (i := 5) nd rfl (by first | exact Or.inl rfl | exact Or.inr rfl)) (dgs_cons (dg_name (i := 6) nd rfl (by first | exact Or.inl rfl | exact Or.inr rfl)) dgs_nil))))
  (dss_cons (ds_if (dt_cmp op_lt ok_lt (de_v 2) de_int (nomark _))
  (dss_one (ds_set (i := 5) nd rfl (by first | exact Or.inl rfl | exact Or.inr rfl) (de_call (ms := [false, false, false]) tk G30 (hr.mono (by decide)) rfl T.g30 T.F30.kp T.B30 .nil (fun _ => rfl) (lenA1 (lenA1 (lenA1 lenA0))) rfl (da_cons (de_v 5) (da_cons (de_v 2) (da_cons (de_v 3) da_nil)))))) dss_nil)
  (dss_cons (ds_set (i := 4) nd rfl (by first | exact Or.inl rfl | exact Or.inr rfl) (de_if (dt_cmp (op_eqD hr.units) (ok_eq (c := ct w K cl)) (de_v 2) de_int (nomark _)) (de_callB (call_min2 rfl) ok_min2 rfl T.z_min (by decide +kernel) (da_cons (de_v 4) (da_cons de_int da_nil))) (de_v 4)))
  (dss_cons (ds_set (i := 5) nd rfl (by first | exact Or.inl rfl | exact Or.inr rfl) (de_op op_addA ok_add (de_op op_addA ok_add (de_op op_mulA ok_mul (de_lst (da_cons de_str da_nil)) (de_v 4)) (de_v 5)) (de_op op_mulA ok_mul (de_lst (da_cons de_str da_nil)) (de_v 4))))
  (dss_cons (ds_set (i := 1) nd rfl (by first | exact Or.inl rfl | exact Or.inr rfl) (de_call (ms := [false, false]) tk G26 (hr.mono (by decide)) rfl T.g26 T.F26.kp T.B26 .nil (fun _ => rfl) (lenA1 (lenA1 lenA0)) rfl (da_cons (de_v 0) (da_cons de_int da_nil))))
  (dss_cons (ds_set (i := 7) nd rfl (by first | exact Or.inl rfl | exact Or.inr rfl) (de_op op_addA ok_add (de_call (ms := [true]) tk G28 (hr.mono (by decide)) rfl T.g28 T.F28.kp T.B28 .nil (fun _ => rfl) (lenA1 lenA0) rfl (da_cons (de_v 1) da_nil)) (de_m1 PySem.F.slot_str_join PySem.F.type_str_join mt_join (ok_join (c := ct w K cl)) de_str (de_lc (own := [("_law_part", 11)]) rfl nd (di_list rfl (de_v 5)) (blkOk_by (own := [("_law_part", 11)]) (N := N34) (sc := defScope s34) (by decide +kernel)) (fun _ _ _ _ _ => (dgc_name (i := 11) nd rfl (by first | exact Or.inl rfl | exact Or.inr rfl) (by decide))) (fun _ _ _ _ _ => by exact dts_nil) (fun _ _ _ _ _ => by exact (de_op op_addA ok_add (de_v 11) (de_call (ms := [true]) DL.takes0 G28 (hr.mono (by decide)) rfl T.g28 T.F28.kp T.B28 .nil (fun _ => rfl) (lenA1 lenA0) rfl (da_cons (de_v 1) da_nil))))))))
  (dss_cons (ds_if (dt_cmp (op_neD hr.units) (ok_ne (c := ct w K cl)) (de_call (ms := [false]) tk G33 (hr.mono (by decide)) rfl T.g33 T.F33.kp T.B33 .nil (fun _ => rfl) (lenA1 lenA0) rfl (da_cons (de_call (ms := [false]) tk G31 (hr.mono (by decide)) rfl T.g31 T.F31.kp T.B31 .nil (fun _ => rfl) (lenA1 lenA0) rfl (da_cons (de_v 3) da_nil)) da_nil)) (de_lst da_nil) (nomark _))
  (dss_one (ds_ret de_bl)) dss_nil)
  (dss_cons (ds_if (DW.dt (dw_and (dt_cmp op_lt ok_lt (de_v 2) de_int (nomark _)) (dw_and1 (dt_cmp (op_niA (u65 hr)) (ok_niA (c := ct w K cl)) (de_v 2) (de_lst (da_cons de_int (da_cons de_int (da_cons de_int da_nil)))) rfl))))
  (dss_one (ds_ret (de_cmp (op_eqD hr.units) (ok_eq (c := ct w K cl)) (de_call (ms := [false]) tk G33 (hr.mono (by decide)) rfl T.g33 T.F33.kp T.B33 .nil (fun _ => rfl) (lenA1 lenA0) rfl (da_cons (de_v 7) da_nil)) (de_lst da_nil) (nomark _)))) dss_nil)
  (dss_cons (ds_if (dt_cmp op_lt ok_lt (de_v 2) de_int (nomark _))
  (dss_one (ds_ret (de_cmp (op_eqD hr.units) (ok_eq (c := ct w K cl)) (de_call (ms := [false]) tk G33 (hr.mono (by decide)) rfl T.g33 T.F33.kp T.B33 .nil (fun _ => rfl) (lenA1 lenA0) rfl (da_cons (de_m1 PySem.F.slot_str_join PySem.F.type_str_join mt_join (ok_join (c := ct w K cl)) de_str (de_v 5)) da_nil)) (de_lst da_nil) (nomark _)))) dss_nil)
  (dss_cons (ds_if (dt_cmp (op_neD hr.units) (ok_ne (c := ct w K cl)) (de_call (ms := [false]) tk G33 (hr.mono (by decide)) rfl T.g33 T.F33.kp T.B33 .nil (fun _ => rfl) (lenA1 lenA0) rfl (da_cons (de_v 7) da_nil)) (de_v 6) (nomark _))
  (dss_one (ds_ret de_bl)) dss_nil)
  (dss_cons (ds_setLc (i := 8) (own := [("_law_member", 10)]) rfl nd rfl rfl rfl (di_list rfl (de_v 6)) (blkOk_by (own := [("_law_member", 10)]) (N := N34) (sc := defScope s34) (by decide +kernel)) (fun _ _ _ _ _ => (dgc_name (i := 10) nd rfl (by first | exact Or.inl rfl | exact Or.inr rfl) (by decide))) (fun _ _ _ _ _ => by exact dts_nil) (fun _ _ _ _ _ => by exact (de_op op_sub ok_sub (de_op op_mulA ok_mul (de_v 10) (de_op op_pow ok_pow de_int de_int)) de_int)))
  (dss_cons (ds_if (dt_cmp (op_neD hr.units) (ok_ne (c := ct w K cl)) (de_meth0 (i := 15) (ms := [false]) tk rfl (by show _ ∉ fnT 15; decide +kernel) T.C15 T.Me15_13 G13 (hr.mono (by decide)) T.B13 .nil (fun _ => rfl) rfl (de_make (i := 15) (ms := [false, false, false]) tk rfl T.M15 G0 (hr.mono (by decide)) rfl T.gC15 T.B0 .nil (fun _ => rfl) (lenA1 (lenA1 (lenA1 lenA0))) rfl (da_cons (de_ix ix_seq (ok_ix (c := ct w K cl)) (de_v 8) de_int (fun _ _ => rfl)) (da_cons (de_ix ix_seq (ok_ix (c := ct w K cl)) (de_v 8) de_int (fun _ _ => rfl)) (da_cons (de_ix ix_seq (ok_ix (c := ct w K cl)) (de_v 8) de_int (fun _ _ => rfl)) da_nil))))) (de_call (ms := [false]) tk G32 (hr.mono (by decide)) rfl T.g32 T.F32.kp T.B32 .nil (fun _ => rfl) (lenA1 lenA0) rfl (da_cons (de_v 8) da_nil)) (nomark _))
  (dss_one (ds_ret de_bl)) dss_nil)
  (dss_cons (ds_set (i := 9) nd rfl (by first | exact Or.inl rfl | exact Or.inr rfl) (de_make (i := 15) (ms := [false, false, false]) tk rfl T.M15 G0 (hr.mono (by decide)) rfl T.gC15 T.B0 .nil (fun _ => rfl) (lenA1 (lenA1 (lenA1 lenA0))) rfl (da_cons (de_ix ix_seq (ok_ix (c := ct w K cl)) (de_v 6) de_int (fun _ _ => rfl)) (da_cons (de_ix ix_seq (ok_ix (c := ct w K cl)) (de_v 6) de_int (fun _ _ => rfl)) (da_cons (de_ix ix_seq (ok_ix (c := ct w K cl)) (de_v 6) de_int (fun _ _ => rfl)) da_nil)))))
  (dss_one (ds_ret (de_and (de_cmp (op_eqD hr.units) (ok_eq (c := ct w K cl)) (de_meth0 (i := 15) (ms := [false]) tk rfl (by show _ ∉ fnT 15; decide +kernel) T.C15 T.Me15_13 G13 (hr.mono (by decide)) T.B13 .nil (fun _ => rfl) rfl (de_v 9)) (de_call (ms := [false]) tk G32 (hr.mono (by decide)) rfl T.g32 T.F32.kp T.B32 .nil (fun _ => rfl) (lenA1 lenA0) rfl (da_cons (de_v 6) da_nil)) (nomark _)) (de_and1 (de_cmp (op_eqD hr.units) (ok_eq (c := ct w K cl)) (de_call (ms := [false]) tk G33 (hr.mono (by decide)) rfl T.g33 T.F33.kp T.B33 .nil (fun _ => rfl) (lenA1 lenA0) rfl (da_cons (de_meth0 (i := 15) (ms := [false]) tk rfl (by show _ ∉ fnT 15; decide +kernel) T.C15 T.Me15_13 G13 (hr.mono (by decide)) T.B13 .nil (fun _ => rfl) rfl (de_v 9)) da_nil)) (de_v 6) (nomark _)))))))))))))))))))))))⟩
end
end K12

/-! DL, part s: how functions on data are run by simp. Its first rows are printed by evs.py. -/
namespace DL
open PySem L2 Evl
@[simp ↓] theorem ev_bind {α β : Type} (r : Res α) (f : α → Res β) : r.bind f = (match r with | .stuck => .stuck | .ok a => f a | .exc x e => .exc x e) := rfl
@[simp ↓] theorem ev_obind {α β : Type} (r : Option α) (f : α → Option β) : r.bind f = (match r with | none => none | some a => f a) := by cases r <;> rfl
@[simp ↓] theorem ev_omap {α β : Type} (r : Option α) (f : α → β) : r.map f = (match r with | none => none | some a => some (f a)) := by cases r <;> rfl
@[simp] theorem Res.of_some {α : Type} {a : α} : Res.of (some a) = .ok a := rfl
@[simp] theorem Res.of_none {α : Type} : Res.of (none : Option α) = .stuck := rfl
@[simp ↓] theorem ev_fVar (i : Nat) (e : DEnv) : fVar i e = (match e[i]? with
  | some (some _) => .ok (.sl i, e)
  | _ => .stuck) := rfl
@[simp ↓] theorem ev_fC (d : D) (e : DEnv) : fC d e = (.ok (.vl d, e)) := rfl
@[simp ↓] theorem ev_fA0 (e : DEnv) : fA0 e = (.ok ([], e)) := rfl
@[simp ↓] theorem ev_fA1 (fa : FE) (fr : FA) (e : DEnv) : fA1 fa fr e = ((fa e).bind fun r => (fr r.2).bind fun q => .ok (r.1.seal :: q.1, q.2)) := rfl
@[simp ↓] theorem ev_fOp2 (op : D → D → Option RV) (fa fb : FE) (e : DEnv) : fOp2 op fa fb e = ((fa e).bind fun r => (fb r.2).bind fun q => Res.of ((lookT r.1.seal q.2).bind fun d1 => (lookT q.1 q.2).bind fun d2 => (op d1 d2).bind fun rv => some (rv.tok, q.2))) := rfl
@[simp ↓] theorem ev_fOp1 (op : D → Option RV) (fa : FE) (e : DEnv) : fOp1 op fa e = ((fa e).bind fun r => Res.of ((lookT r.1 r.2).bind fun d1 => (op d1).bind fun rv => some (rv.tok, r.2))) := rfl
@[simp ↓] theorem ev_fCB (op : List D → Option RV) (fr : FA) (e : DEnv) : fCB op fr e = ((fr e).bind fun r => Res.of ((lookTs r.1 r.2).bind fun ds => (op ds).bind fun rv => some (rv.tok, r.2))) := rfl
@[simp ↓] theorem ev_fB (f : FE) (e : DEnv) : fB f e = ((f e).bind fun r => match lookT r.1 r.2 with
  | some (.bl b) => .ok (b, r.2)
  | _ => .stuck) := rfl
@[simp ↓] theorem ev_fNot (f : FT) (e : DEnv) : fNot f e = ((f e).bind fun r => .ok (!r.1, r.2)) := rfl
@[simp ↓] theorem ev_fAnd (f g : FT) (e : DEnv) : fAnd f g e = ((f e).bind fun r => if r.1 = true then g r.2 else .ok (false, r.2)) := rfl
@[simp ↓] theorem ev_fOr (f g : FT) (e : DEnv) : fOr f g e = ((f e).bind fun r => if r.1 = true then .ok (true, r.2) else g r.2) := rfl
@[simp ↓] theorem ev_fNotV (f : FE) (e : DEnv) : fNotV f e = ((fB f e).bind fun r => .ok (.vl (.bl (!r.1)), r.2)) := rfl
@[simp ↓] theorem ev_fAndV (f g : FE) (e : DEnv) : fAndV f g e = ((fB f e).bind fun r => if r.1 = true then g r.2 else .ok (.vl (.bl false), r.2)) := rfl
@[simp ↓] theorem ev_fOrV (f g : FE) (e : DEnv) : fOrV f g e = ((fB f e).bind fun r => if r.1 = true then .ok (.vl (.bl true), r.2) else g r.2) := rfl
@[simp ↓] theorem ev_fIf (t : FT) (f g : FE) (e : DEnv) : fIf t f g e = ((t e).bind fun r => if r.1 = true then f r.2 else g r.2) := rfl
@[simp ↓] theorem ev_fLst (fa : FA) (e : DEnv) : fLst fa e = ((fa e).bind fun r => Res.of ((escs r.1 r.2).bind fun q => if q.1.length ≤ lim then some (.nw (.lst q.1), q.2) else none)) := rfl
@[simp ↓] theorem ev_fTup (fa : FA) (e : DEnv) : fTup fa e = ((fa e).bind fun r => Res.of ((escs r.1 r.2).bind fun q => if q.1.length ≤ lim then some (.vl (.tup q.1), q.2) else none)) := rfl
@[simp ↓] theorem ev_fSet (i : Nat) (f : FE) (e : DEnv) : fSet i f e = ((f e).bind fun r => Res.of ((storeT i r.1 r.2).map .nx)) := rfl
@[simp ↓] theorem ev_fNext (e : DEnv) : fNext e = (.ok (.nx e)) := rfl
@[simp ↓] theorem ev_fSeq (f g : FS) (e : DEnv) : fSeq f g e = ((f e).bind fun o => match o with
  | .nx e1 => g e1
  | .rt t e1 => .ok (.rt t e1)
  | .bk e1 => .ok (.bk e1)
  | .ct e1 => .ok (.ct e1)) := rfl
@[simp ↓] theorem ev_fBreak (e : DEnv) : fBreak e = (.ok (.bk e)) := rfl
@[simp ↓] theorem ev_fCont (e : DEnv) : fCont e = (.ok (.ct e)) := rfl
@[simp ↓] theorem ev_fDrop (f : FE) (e : DEnv) : fDrop f e = ((f e).bind fun r => .ok (.nx r.2)) := rfl
@[simp ↓] theorem ev_fRet (f : FE) (e : DEnv) : fRet f e = ((f e).bind fun r => .ok (.rt r.1 r.2)) := rfl
@[simp ↓] theorem ev_fRetN (e : DEnv) : fRetN e = (.ok (.rt (.vl .non) e)) := rfl
@[simp ↓] theorem ev_fIfS (t : FT) (f g : FS) (e : DEnv) : fIfS t f g e = ((t e).bind fun r => if r.1 = true then f r.2 else g r.2) := rfl
@[simp ↓] theorem ev_fAsg (fg : D → DEnv → Option DEnv) (f : FE) (e : DEnv) : fAsg fg f e = ((f e).bind fun r => Res.of ((escape r.1 r.2).bind fun q => (fg q.1 q.2).map .nx)) := rfl
@[simp ↓] theorem ev_fPar (i j : Nat) (fr : FA) (e : DEnv) : fPar i j fr e = ((fr e).bind fun r => Res.of (match r.1 with
  | [t, u] => (escape t r.2).bind fun q => (escape u q.2).bind fun q2 => if i < q2.2.length ∧ j < q2.2.length then some (.nx ((q2.2.set i (some (.sh q.1))).set j (some (.sh q2.1)))) else none
  | _ => none)) := rfl
@[simp ↓] theorem ev_fAug (i : Nat) (op : D → D → Option RV) (f : FE) (e : DEnv) : fAug i op f e = (match e[i]? with
  | some (some (.sh d1)) => (f e).bind fun r => Res.of ((lookT r.1 r.2).bind fun d2 => (op d1 d2).bind fun rv => (storeT i rv.tok r.2).map .nx)
  | _ => .stuck) := rfl
@[simp ↓] theorem ev_fApp (j : Nat) (f : FE) (e : DEnv) : fApp j f e = ((Res.of (rootLst e j)).bind fun _ => (f e).bind fun r => Res.of ((escape r.1 r.2).bind fun q => (rootLst q.2 j).bind fun ds => if ds.length < lim then some (.vl .non, putLst q.2 j (ds ++ [q.1])) else none)) := rfl
@[simp ↓] theorem ev_fPop (j : Nat) (e : DEnv) : fPop j e = (Res.of ((rootLst e j).bind fun ds => (ds[ds.length - 1]?).bind fun d => some (.vl d, putLst e j ds.dropLast))) := rfl
@[simp ↓] theorem ev_fExt (j : Nat) (f : FE) (e : DEnv) : fExt j f e = ((Res.of (rootLst e j)).bind fun _ => (f e).bind fun r => Res.of ((escape r.1 r.2).bind fun q => match q.1 with
  | .lst es => (rootLst q.2 j).bind fun ds => if ds.length + es.length ≤ lim then some (.vl .non, putLst q.2 j (ds ++ es)) else none
  | _ => none)) := rfl
@[simp ↓] theorem ev_fSetIx (j : Nat) (fi fv : FE) (e : DEnv) : fSetIx j fi fv e = ((fv e).bind fun r => (Res.of ((escape r.1 r.2).bind fun q => (rootLst q.2 j).map fun _ => q)).bind fun q => (fi q.2).bind fun s => Res.of ((lookT s.1 s.2).bind fun k => match k with
  | .int k => (rootLst s.2 j).bind fun ds => (ixN ds.length k).map fun n => .nx (putLst s.2 j (ds.set n q.1))
  | _ => none)) := rfl
@[simp ↓] theorem ev_fiL (f : FE) (e : DEnv) : fiL f e = ((f e).bind fun r => Res.of ((escape r.1 r.2).bind fun q => match q.1 with
  | .lst ds => some (ds, q.2)
  | .rol ds => some (ds, q.2)
  | _ => none)) := rfl
@[simp ↓] theorem ev_fiT (f : FE) (e : DEnv) : fiT f e = ((f e).bind fun r => Res.of ((escape r.1 r.2).bind fun q => match q.1 with
  | .tup ds => some (ds, q.2)
  | _ => none)) := rfl
@[simp ↓] theorem ev_fiR1 (fr : FA) (e : DEnv) : fiR1 fr e = ((fr e).bind fun r => Res.of ((lookTs r.1 r.2).bind fun ds => match ds with
  | [.int n] => if ok62 n then some (irange 0 n.toNat, r.2) else none
  | _ => none)) := rfl
@[simp ↓] theorem ev_fiR2 (fr : FA) (e : DEnv) : fiR2 fr e = ((fr e).bind fun r => Res.of ((lookTs r.1 r.2).bind fun ds => match ds with
  | [.int i, .int j] => if ok62 i && ok62 j then some (irange i (j - i).toNat, r.2) else none
  | _ => none)) := rfl
@[simp ↓] theorem ev_fFor (fi : FI) (fg : D → DEnv → Option DEnv) (fb : FS) (e : DEnv) : fFor fi fg fb e = ((fi e).bind fun r => loopF fg fb r.1 r.2) := rfl
@[simp ↓] theorem ev_fLc (fi : FI) (fg : D → DEnv → Option DEnv) (ft : FT) (fe : FE) (vs : List Nat) (e : DEnv) : fLc fi fg ft fe vs e = ((fi e).bind fun r => Res.of (if clearAt r.2 vs then (loopC fg ft fe vs r.1 [] (wipeE (lendE r.2) vs)).map fun q => (.nw (.lst q.1), backE r.2 q.2) else none)) := rfl
@[simp ↓] theorem ev_fYes (e : DEnv) : fYes e = (.ok (true, e)) := rfl
@[simp ↓] theorem ev_fFn (N : Nat) (body : FS) (bs : List B) : fFn N body bs = ((body (env0 N bs)).bind fun o => Res.of (match o with
  | .nx e => fnRet bs (.vl .non) e
  | .rt t e => fnRet bs t e
  | _ => none)) := rfl
@[simp ↓] theorem ev_fCall (ms : List Bool) (dds : List D) (m : Fn) (fa : FA) (e : DEnv) : fCall ms dds m fa e = ((fa e).bind fun r => (Res.of (escN ms r.1 r.2)).bind fun q => callM dds m q.1 q.2) := rfl
@[simp ↓] theorem ev_fFld (ns : List Str) (k : Nat) (f : Str) (fo : FE) (e : DEnv) : fFld ns k f fo e = ((fo e).bind fun r => Res.of ((lookT r.1 r.2).bind fun d => match d with
  | .ins k' ds => if k' = k then (fldOf ns f ds).map fun d => (.vl d, r.2) else none
  | _ => none)) := rfl
@[simp ↓] theorem ev_fPutF (ns : List Str) (k j : Nat) (f : Str) (fv : FE) (e : DEnv) : fPutF ns k j f fv e = ((fv e).bind fun r => Res.of ((escape r.1 r.2).bind fun q => (rootIns k q.2 j).bind fun ds => (putD ns f q.1 ds).bind fun ds' => if ds.length < 900 then some (.nx (putIns k q.2 j ds')) else none)) := rfl
@[simp ↓] theorem ev_fMeth (k : Nat) (ms : List Bool) (dds : List D) (m : Fn) (fo : FE) (fa : FA) (e : DEnv) : fMeth k ms dds m fo fa e = ((fo e).bind fun r0 => match lookT r0.1.seal r0.2 with
  | some (.ins k' _) => if k' = k then (fa r0.2).bind fun r => (Res.of (escN ms (r0.1.seal :: r.1) r.2)).bind fun q => callM dds m q.1 q.2 else .stuck
  | _ => .stuck) := rfl
@[simp ↓] theorem ev_fProp (k : Nat) (m : Fn) (fo : FE) (e : DEnv) : fProp k m fo e = ((fo e).bind fun r0 => match lookT r0.1.seal r0.2 with
  | some (.ins k' _) => if k' = k then (Res.of (escN [false] [r0.1.seal] r0.2)).bind fun q => noExc (callM [] m q.1 q.2) else .stuck
  | _ => .stuck) := rfl
@[simp ↓] theorem ev_fMake (k : Nat) (ms : List Bool) (dds : List D) (m : Fn) (fa : FA) (e : DEnv) : fMake k ms dds m fa e = ((fa e).bind fun r => (Res.of (escN ms r.1 r.2)).bind fun q => match callM dds m (.sl q.2.length :: q.1) (q.2 ++ [some (.ow (.ins k []))]) with
  | .stuck => .stuck
  | .exc x e' => .exc x e'.dropLast
  | .ok (.vl .non, e') => match e'.getLast? with
    | some (some (.ow (.ins k' ds))) => .ok (.nw (.ins k' ds), e'.dropLast)
    | _ => .stuck
  | .ok _ => .stuck) := rfl
@[simp ↓] theorem ev_fIsi (P : D → Option Bool) (fa : FE) (e : DEnv) : fIsi P fa e = ((fa e).bind fun r => Res.of ((lookT r.1 r.2).bind fun d => (P d).map fun b => (.vl (.bl b), r.2))) := rfl
@[simp ↓] theorem ev_fiZip (fr : FA) (e : DEnv) : fiZip fr e = ((fr e).bind fun r => Res.of ((escs r.1 r.2).bind fun q => match q.1 with
  | [.lst xs, .lst ys] => some (izip xs ys, q.2)
  | [.tup xs, .tup ys] => some (izip xs ys, q.2)
  | _ => none)) := rfl
@[simp ↓] theorem ev_fOwn2 (p1 p2 : D → Bool) (sw : Bool) (m : Fn) (fa fb : FE) (e : DEnv) : fOwn2 p1 p2 sw m fa fb e = ((fa e).bind fun r => (fb r.2).bind fun q => match lookT r.1.seal q.2, lookT q.1.seal q.2 with
  | some d1, some d2 => if p1 d1 && p2 d2 then (Res.of (escN [] (if sw then [q.1.seal, r.1.seal] else [r.1.seal, q.1.seal]) q.2)).bind fun q => callM [] m q.1 q.2 else .stuck
  | _, _ => .stuck) := rfl
@[simp ↓] theorem ev_fOwn1 (i : Nat) (m : Fn) (fa : FE) (e : DEnv) : fOwn1 i m fa e = ((fa e).bind fun r => match lookT r.1.seal r.2 with
  | some d => if isIns i d then (Res.of (escN [] [r.1.seal] r.2)).bind fun q => callM [] m q.1 q.2 else .stuck
  | _ => .stuck) := rfl
@[simp ↓] theorem ev_fOwnN (i : Nat) (P : D → Bool) (m : Fn) (fa fb : FE) (e : DEnv) : fOwnN i P m fa fb e = ((fOwn2 (isIns i) P false m fa fb e).bind fun r => match r.1 with
  | .vl (.bl b) => .ok (.vl (.bl (!b)), r.2)
  | _ => .stuck) := rfl
@[simp ↓] theorem ev_fCallF (ms : List Bool) (dds : List D) (m : Fn) (f1 : FE) (fr : FA) (e : DEnv) : fCallF ms dds m f1 fr e = ((f1 e).bind fun r1 => match r1.1 with
  | .nw d => (fr r1.2).bind fun r => (Res.of (escN ms r.1 r.2)).bind fun q => dropG (callM dds m (.sl q.2.length :: q.1) (q.2 ++ [some (.ow d)]))
  | _ => .stuck) := rfl
@[simp ↓] theorem ev_fNoP (e : DEnv) : fNoP e = (.ok (none, e)) := rfl
@[simp ↓] theorem ev_fPo (f : FE) (e : DEnv) : fPo f e = ((f e).bind fun r => match lookT r.1 r.2 with
  | some (.int i) => .ok (some i, r.2)
  | _ => .stuck) := rfl
@[simp ↓] theorem ev_fSl (fa : FE) (fl fh : FO) (e : DEnv) : fSl fa fl fh e = ((fa e).bind fun r => (fl r.2).bind fun l => (fh l.2).bind fun h => Res.of ((lookT r.1.seal h.2).bind fun d => (opSl d l.1 h.1).map fun rv => (rv.tok, h.2))) := rfl
@[simp ↓] theorem ev_fTry (tbl : Nat → Option Bool) (i : Nat) (f : FS) (g : FS) (e : DEnv) : fTry tbl i f g e = (match f e with
  | .exc x e' => (match tbl x.k with
    | some true => if noX e' && decide (i < e'.length) then (match g (e'.set i (some (.ex x))) with
        | .ok out => goneO i out
        | _ => .stuck) else .stuck
    | some false => .exc x e'
    | none => .stuck)
  | r => r) := rfl
@[simp ↓] theorem ev_fTryO (tbl : Nat → Option Bool) (f : FS) (g : FS) (e : DEnv) : fTryO tbl f g e = (match f e with
  | .exc x e' => (match tbl x.k with
    | some true => (match g e' with
        | .ok out => .ok out
        | _ => .stuck)
    | some false => .exc x e'
    | none => .stuck)
  | r => r) := rfl
@[simp ↓] theorem ev_fXf (ns : List Str) (k i : Nat) (f : Str) (e : DEnv) : fXf ns k i f e = (match e[i]? with
  | some (some (.ex x)) => if x.k = k then (match (ns.zip x.ds).lookup f with
    | some d => .ok (.vl d, e)
    | none => .stuck) else .stuck
  | _ => .stuck) := rfl
@[simp ↓] theorem ev_fRaise (k n : Nat) (fa : FA) (e : DEnv) : fRaise k n fa e = ((fa e).bind fun r => (Res.of (escs r.1 r.2)).bind fun q => if q.1.length = n then .exc ⟨k, q.1⟩ q.2 else .stuck) := rfl
@[simp ↓] theorem ev_fRaise0 (k : Nat) (e : DEnv) : fRaise0 k e = (.exc ⟨k, []⟩ e) := rfl
@[simp ↓] theorem ev_fiR3 (fr : FA) (e : DEnv) : fiR3 fr e = ((fr e).bind fun r => Res.of ((lookTs r.1 r.2).bind fun ds => match ds with
  | [.int i, .int j, .int st] => if rg3ok i j st then some (irange3 i st (rg3n i j st), r.2) else none
  | _ => none)) := rfl
@[simp ↓] theorem ev_fLR1 (fa : FE) (e : DEnv) : fLR1 fa e = ((fa e).bind fun r => Res.of ((lookT r.1 r.2).bind fun d => match d with
  | .int n => if ok24 0 n then some (.nw (.lst (irange 0 (n - 0).toNat)), r.2) else none
  | _ => none)) := rfl
@[simp ↓] theorem ev_fLR2 (fa fb : FE) (e : DEnv) : fLR2 fa fb e = ((fa e).bind fun r => (fb r.2).bind fun q => Res.of ((lookT r.1.seal q.2).bind fun d1 => (lookT q.1 q.2).bind fun d2 => match d1, d2 with
  | .int i, .int j => if ok24 i j then some (.nw (.lst (irange i (j - i).toNat)), q.2) else none
  | _, _ => none)) := rfl
@[simp ↓] theorem ev_fLR3 (fr : FA) (e : DEnv) : fLR3 fr e = ((fr e).bind fun r => Res.of ((lookTs r.1 r.2).bind fun ds => match ds with
  | [.int i, .int j, .int st] => if rg3ok i j st && decide (rg3n i j st ≤ 1000000) then some (.nw (.lst (irange3 i st (rg3n i j st))), r.2) else none
  | _ => none)) := rfl
@[simp ↓] theorem ev_fStar (n i : Nat) (fs : List D → DEnv → Option DEnv) (f : FE) (e : DEnv) : fStar n i fs f e = ((f e).bind fun r => Res.of ((escape r.1 r.2).bind fun q => match q.1 with
  | .tup ds => if decide (n ≤ ds.length + 1) && decide (ds.length ≤ 16384) then (fs (ds.take i ++ [.lst ((ds.drop i).take (ds.length + 1 - n))] ++ (ds.drop i).drop (ds.length + 1 - n)) q.2).map .nx else none
  | _ => none)) := rfl
@[simp] theorem ev_lookup {α β : Type} [BEq α] (a k : α) (b : β) (es : List (α × β)) : List.lookup a ((k, b) :: es) = (match a == k with | true => some b | false => List.lookup a es) := rfl
@[simp] theorem ev_lim : lim = 1000000 := rfl
@[simp] theorem ev_absI (i : Int) : opAbs [.int i] = some (.fl (.int (if i < 0 then -i else i))) := rfl
@[simp] theorem ev_intI (i : Int) : opInt [.int i] = some (.fl (.int i)) := rfl
@[simp] theorem ev_addI (i j : Int) : opAdd (.int i) (.int j) = some (.fl (.int (i + j))) := rfl
@[simp] theorem ev_addS (i j : Str) : opAdd (.str i) (.str j) = if i.length + j.length ≤ lim then some (.fl (.str (i ++ j))) else none := rfl
@[simp] theorem ev_addL (i j : List D) : opAdd (.lst i) (.lst j) = if i.length + j.length ≤ lim then some (.nl (i ++ j)) else none := rfl
@[simp] theorem ev_subI (i j : Int) : opSub (.int i) (.int j) = some (.fl (.int (i - j))) := rfl
@[simp] theorem ev_mulI (i j : Int) : opMul (.int i) (.int j) = if mulOk i j then some (.fl (.int (i * j))) else none := rfl
@[simp] theorem ev_divI (i j : Int) : opDiv (.int i) (.int j) = if divOk i j then some (.fl (.int (i.fdiv j))) else none := rfl
@[simp] theorem ev_modI (i j : Int) : opMod (.int i) (.int j) = if modOk i j then some (.fl (.int (i.fmod j))) else none := rfl
@[simp] theorem ev_powI (i j : Int) : opPow (.int i) (.int j) = if powOk i j then some (.fl (.int (i ^ j.toNat))) else none := rfl
@[simp] theorem ev_shlI (i j : Int) : opShl (.int i) (.int j) = if shlOk i j then some (.fl (.int (i * 2 ^ j.toNat))) else none := rfl
@[simp] theorem ev_shrI (i j : Int) : opShr (.int i) (.int j) = if shrOk i j then some (.fl (.int (i / 2 ^ j.toNat))) else none := rfl
@[simp] theorem ev_andI (i j : Int) : opAnd (.int i) (.int j) = some (.fl (.int (Builtin.bitAnd i j))) := rfl
@[simp] theorem ev_orI (i j : Int) : opOr (.int i) (.int j) = some (.fl (.int (Builtin.bitOr i j))) := rfl
@[simp] theorem ev_xorI (i j : Int) : opXor (.int i) (.int j) = some (.fl (.int (Builtin.bitXor i j))) := rfl
@[simp] theorem ev_ltI (i j : Int) : opLt (.int i) (.int j) = some (.fl (.bl (decide (i < j)))) := rfl
@[simp] theorem ev_leI (i j : Int) : opLe (.int i) (.int j) = some (.fl (.bl (decide (i ≤ j)))) := rfl
@[simp] theorem ev_gtI (i j : Int) : opGt (.int i) (.int j) = some (.fl (.bl (decide (j < i)))) := rfl
@[simp] theorem ev_geI (i j : Int) : opGe (.int i) (.int j) = some (.fl (.bl (decide (j ≤ i)))) := rfl
@[simp] theorem ev_negI (i : Int) : opNeg (.int i) = some (.fl (.int (-i))) := rfl
@[simp] theorem ev_invI (i : Int) : opInv (.int i) = some (.fl (.int (Builtin.bitNot i))) := rfl
@[simp] theorem ev_ixL (ds : List D) (i : Int) : opIx (.lst ds) (.int i) = (atI ds i).map .fl := rfl
@[simp] theorem ev_ixR (ds : List D) (i : Int) : opIx (.rol ds) (.int i) = (atI ds i).map .fl := rfl
@[simp] theorem ev_ixT (ds : List D) (i : Int) : opIx (.tup ds) (.int i) = (atI ds i).map .fl := rfl
@[simp] theorem ev_atI {α : Type} (xs : List α) (i : Int) : atI xs i = (ixN xs.length i).bind fun j => xs[j]? := rfl
@[simp] theorem ev_ixN (n : Nat) (i : Int) : ixN n i = if 0 ≤ i then (if i < n then some i.toNat else none) else if -(n : Int) ≤ i then some (i + n).toNat else none := rfl
@[simp] theorem ev_lenL (xs : List D) : opLen [.lst xs] = some (.fl (.int xs.length)) := rfl
@[simp] theorem ev_lenR (xs : List D) : opLen [.rol xs] = some (.fl (.int xs.length)) := rfl
@[simp] theorem ev_lenT (xs : List D) : opLen [.tup xs] = some (.fl (.int xs.length)) := rfl
@[simp] theorem ev_powOk (i j : Int) : powOk i j = (decide (0 ≤ j) && decide (j ≤ 1000000) && decide (i.natAbs < 2 ^ 64)) := rfl
@[simp] theorem ev_rootL1 (e : DEnv) (j : Nat) : rootLst e j = (match e[j]? with
  | some (some (.ow (.lst ds))) => some ds
  | some (some (.br (.lst ds))) => some ds
  | _ => none) := rfl
@[simp] theorem ev_putL (e : DEnv) (j : Nat) (ds : List D) : putLst e j ds = (match e[j]? with
  | some (some b) => e.set j (some (b.re (.lst ds)))
  | _ => e) := rfl
@[simp] theorem ev_rootI (k : Nat) (e : DEnv) (j : Nat) : rootIns k e j = (match e[j]? with
  | some (some (.ow (.ins k' ds))) => if k' = k then some ds else none
  | some (some (.br (.ins k' ds))) => if k' = k then some ds else none
  | _ => none) := rfl
@[simp] theorem ev_putI (k : Nat) (e : DEnv) (j : Nat) (ds : List D) : putIns k e j ds = (match e[j]? with
  | some (some b) => e.set j (some (b.re (.ins k ds)))
  | _ => e) := rfl
@[simp] theorem ev_fOwnE (i : Nat) (P : D → Bool) (m : Fn) (fa fb : FE) (e : DEnv) : fOwnE i P m fa fb e = fOwn2 (isIns i) P false m fa fb e := rfl
@[simp] theorem ev_seal1 (i : Nat) : T.seal (.sl i) = .sl i := rfl
@[simp] theorem ev_seal2 (d : D) : T.seal (.vl d) = .vl d := rfl
@[simp] theorem ev_seal3 (d : D) : T.seal (.nw d) = .vl d := rfl
@[simp] theorem ev_look1 (i : Nat) (e : DEnv) : lookT (.sl i) e = (match e[i]? with | some (some (.ex _)) => none | some (some b) => some b.d | _ => none) := rfl
@[simp] theorem ev_look2 (d : D) (e : DEnv) : lookT (.vl d) e = some d := rfl
@[simp] theorem ev_look3 (d : D) (e : DEnv) : lookT (.nw d) e = some d := rfl
@[simp] theorem ev_bd1 (d : D) : B.d (.sh d) = d := rfl
@[simp] theorem ev_bd2 (d : D) : B.d (.ow d) = d := rfl
@[simp] theorem ev_bd3 (d : D) : B.d (.br d) = d := rfl
@[simp] theorem ev_re1 (d x : D) : B.re (.sh d) x = .sh x := rfl
@[simp] theorem ev_re2 (d x : D) : B.re (.ow d) x = .ow x := rfl
@[simp] theorem ev_re3 (d x : D) : B.re (.br d) x = .br x := rfl
@[simp] theorem ev_esc1 (i : Nat) (e : DEnv) : escape (.sl i) e = (match e[i]? with | some (some (.sh d)) => some (d, e) | some (some (.ow d)) => some (d, e.set i (some (.sh d))) | _ => none) := rfl
@[simp] theorem ev_esc2 (d : D) (e : DEnv) : escape (.vl d) e = some (d, e) := rfl
@[simp] theorem ev_esc3 (d : D) (e : DEnv) : escape (.nw d) e = some (d, e) := rfl
@[simp] theorem ev_escs0 (e : DEnv) : escs [] e = some ([], e) := rfl
@[simp] theorem ev_escs1 (t : T) (ts : List T) (e : DEnv) : escs (t :: ts) e = (escape t e).bind fun r => (escs ts r.2).bind fun q => some (r.1 :: q.1, q.2) := rfl
@[simp] theorem ev_lookTs0 (e : DEnv) : lookTs [] e = some [] := rfl
@[simp] theorem ev_lookTs1 (t : T) (ts : List T) (e : DEnv) : lookTs (t :: ts) e = (lookT t e).bind fun d => (lookTs ts e).bind fun ds => some (d :: ds) := rfl
@[simp] theorem ev_tok1 (d : D) : RV.tok (.fl d) = .vl d := rfl
@[simp] theorem ev_tok2 (d : List D) : RV.tok (.nl d) = .nw (.lst d) := rfl
@[simp] theorem ev_tok3 (d : List D) : RV.tok (.nt d) = .vl (.tup d) := rfl
@[simp] theorem ev_store (i : Nat) (t : T) (e : DEnv) : storeT i t e = (if i < e.length then (match t with
  | .vl d => some (e.set i (some (.sh d)))
  | .nw d => some (e.set i (some (.ow d)))
  | .sl j => match e[j]? with
    | some (some (.sh d)) => some (e.set i (some (.sh d)))
    | some (some (.ow d)) => some ((e.set j (some (.sh d))).set i (some (.sh d)))
    | _ => none) else none) := rfl
theorem ev_rangeN (n : Nat) : irange 0 n = (List.range n).map fun (i : Nat) => D.int (i : Int) := by unfold irange; simp
@[simp] theorem ev_loopF0 (fg : D → DEnv → Option DEnv) (fb : FS) (e : DEnv) : loopF fg fb [] e = .ok (.nx e) := rfl
theorem ev_loopF1 (fg : D → DEnv → Option DEnv) (fb : FS) (d : D) (ds : List D) (e : DEnv) : loopF fg fb (d :: ds) e = (Res.of (fg d e)).bind fun e1 => (fb e1).bind fun o => match o with
    | .nx e2 => loopF fg fb ds e2
    | .ct e2 => loopF fg fb ds e2
    | .bk e2 => .ok (.nx e2)
    | .rt t e2 => .ok (.rt t e2) := rfl
@[simp] theorem ev_fgName (i : Nat) (d : D) (e : DEnv) : fgName i d e = if i < e.length then some (e.set i (some (.sh d))) else none := rfl
@[simp] theorem ev_fgNil (e : DEnv) : fgNil [] e = some e := rfl
@[simp] theorem ev_fgTup (n : Nat) (fg : List D → DEnv → Option DEnv) (ds : List D) (e : DEnv) : fgTup n fg (.tup ds) e = if ds.length = n then fg ds e else none := rfl
@[simp] theorem ev_lend0 : lendE [] = [] := rfl
@[simp] theorem ev_lend1 (b : Option B) (e : DEnv) : lendE (b :: e) = lendB b :: lendE e := rfl
@[simp] theorem ev_lendB1 (d : D) : lendB (some (.ow d)) = some (.br d) := rfl
@[simp] theorem ev_lendB2 (d : D) : lendB (some (.sh d)) = some (.sh d) := rfl
@[simp] theorem ev_lendB3 (d : D) : lendB (some (.br d)) = some (.br d) := rfl
@[simp] theorem ev_lendB4 : lendB none = none := rfl
@[simp] theorem ev_back0 (e : DEnv) : backE [] e = [] := rfl
@[simp] theorem ev_back1 (b x : Option B) (e e2 : DEnv) : backE (b :: e) (x :: e2) = backB b x :: backE e e2 := rfl
@[simp] theorem ev_backB1 (d : D) (x : Option B) : backB (some (.sh d)) x = some (.sh d) := rfl
@[simp] theorem ev_backB2 (d d' : D) : backB (some (.ow d)) (some (.br d')) = some (.ow d') := rfl
@[simp] theorem ev_backB3 (d d' : D) : backB (some (.br d)) (some (.br d')) = some (.br d') := rfl
@[simp] theorem ev_backB4 (x : Option B) : backB none x = none := rfl
@[simp] theorem ev_wipe0 (e : DEnv) : wipeE e [] = e := rfl
@[simp] theorem ev_wipe1 (e : DEnv) (v : Nat) (vs : List Nat) : wipeE e (v :: vs) = (wipeE e vs).set v none := rfl
@[simp] theorem ev_loopC0 (fg : D → DEnv → Option DEnv) (ft : FT) (fe : FE) (vs : List Nat) (acc : List D) (e : DEnv) : loopC fg ft fe vs [] acc e = some (acc, e) := rfl
theorem ev_loopC1 (fg : D → DEnv → Option DEnv) (ft : FT) (fe : FE) (vs : List Nat) (d : D) (ds acc : List D) (e : DEnv) : loopC fg ft fe vs (d :: ds) acc e = (if noOw e then (fg d e).bind fun e1 => match ft e1 with
    | .ok (true, e2) => match fe e2 with
      | .ok (t, e3) => (escape t e3).bind fun q => if noOw q.2 && decide (acc.length < lim) then loopC fg ft fe vs ds (acc ++ [q.1]) (wipeE q.2 vs) else none
      | _ => none
    | .ok (false, e2) => if noOw e2 then loopC fg ft fe vs ds acc (wipeE e2 vs) else none
    | _ => none
    else none) := rfl
@[simp] theorem ev_env0 (N : Nat) (bs : List B) : env0 N bs = bs.map some ++ List.replicate (N - bs.length) none := rfl
@[simp] theorem ev_outB0 (e : DEnv) : outB [] e = some [] := rfl
@[simp] theorem ev_outB1 (d : D) (bs : List B) (x : Option B) (e : DEnv) : outB (.sh d :: bs) (x :: e) = (outB bs e).map fun q => .sh d :: q := rfl
@[simp] theorem ev_outB2 (d d' : D) (bs : List B) (e : DEnv) : outB (.br d :: bs) (some (.br d') :: e) = (outB bs e).map fun q => .br d' :: q := rfl
@[simp] theorem ev_fnRet1 (bs : List B) (d : D) (e : DEnv) : fnRet bs (.vl d) e = (outB bs e).bind fun q => some (d, false, q) := rfl
@[simp] theorem ev_fnRet2 (bs : List B) (d : D) (e : DEnv) : fnRet bs (.nw d) e = (outB bs e).bind fun q => some (d, true, q) := rfl
@[simp] theorem ev_fnRet3 (bs : List B) (i : Nat) (e : DEnv) : fnRet bs (.sl i) e = (outB bs e).bind fun q => match e[i]? with
    | some (some (.sh d)) => some (d, false, q)
    | some (some (.ow d)) => some (d, true, q)
    | _ => none := rfl
@[simp] theorem ev_escN0 (ms : List Bool) (e : DEnv) : escN ms [] e = some ([], e) := by cases ms <;> rfl
@[simp] theorem ev_escNf (ms : List Bool) (t : T) (ts : List T) (e : DEnv) : escN (false :: ms) (t :: ts) e = (escape t e).bind fun r => (escN ms ts r.2).map fun q => (.vl r.1 :: q.1, q.2) := rfl
@[simp] theorem ev_escNt (ms : List Bool) (t : T) (ts : List T) (e : DEnv) : escN (true :: ms) (t :: ts) e = (escN ms ts e).map fun q => (t :: q.1, q.2) := rfl
@[simp] theorem ev_escNn (t : T) (ts : List T) (e : DEnv) : escN [] (t :: ts) e = (escape t e).bind fun r => (escN [] ts r.2).map fun q => (.vl r.1 :: q.1, q.2) := rfl
@[simp] theorem ev_argBs0 (e : DEnv) : argBs [] e = some [] := rfl
@[simp] theorem ev_argBs1 (t : T) (ts : List T) (e : DEnv) : argBs (t :: ts) e = (argB t e).bind fun b => (argBs ts e).map fun bs => b :: bs := rfl
@[simp] theorem ev_argB1 (d : D) (e : DEnv) : argB (.vl d) e = some (.sh d) := rfl
@[simp] theorem ev_argB2 (i : Nat) (e : DEnv) : argB (.sl i) e = (match e[i]? with
    | some (some (.sh d)) => some (.sh d)
    | some (some (.ow d)) => some (.br d)
    | some (some (.br d)) => some (.br d)
    | _ => none) := rfl
@[simp] theorem ev_nodup0 : nodupT [] = true := rfl
@[simp] theorem ev_nodup1 (d : D) (ts : List T) : nodupT (.vl d :: ts) = nodupT ts := by show (true && nodupT ts) = nodupT ts; simp
@[simp] theorem ev_nodup2 (i : Nat) (ts : List T) : nodupT (.sl i :: ts) = (!ts.any (isSl i) && nodupT ts) := rfl
@[simp] theorem ev_isSl1 (i j : Nat) : isSl i (.sl j) = (i == j) := rfl
@[simp] theorem ev_isSl2 (i : Nat) (d : D) : isSl i (.vl d) = false := rfl
@[simp] theorem ev_upds0 (bs : List B) : upds [] bs = [] := by cases bs <;> rfl
@[simp] theorem ev_upds1 (j : Nat) (d : D) (ts : List T) (bs : List B) : upds (.sl j :: ts) (.br d :: bs) = (j, d) :: upds ts bs := rfl
@[simp] theorem ev_upds2 (d : D) (b : B) (ts : List T) (bs : List B) : upds (.vl d :: ts) (b :: bs) = upds ts bs := rfl
@[simp] theorem ev_upds3 (j : Nat) (d : D) (ts : List T) (bs : List B) : upds (.sl j :: ts) (.sh d :: bs) = upds ts bs := rfl
@[simp] theorem ev_isBr1 (d : D) : isBr (.br d) = true := rfl
@[simp] theorem ev_isBr2 (d : D) : isBr (.sh d) = false := rfl
@[simp] theorem ev_isBr3 (d : D) : isBr (.ow d) = false := rfl
@[simp] theorem ev_sameB (bs qs : List B) : sameB bs qs = (bs.map isBr == qs.map isBr) := rfl
@[simp] theorem ev_putAll0 (l : List (Nat × D)) (k : Nat) : putAll l k [] = [] := rfl
@[simp] theorem ev_putAll1 (l : List (Nat × D)) (k : Nat) (x : Option B) (r : DEnv) : putAll l k (x :: r) = (match l.lookup k with
    | some d => x.map fun b => b.re d
    | none => x) :: putAll l (k + 1) r := rfl
@[simp ↓] theorem ev_callM (dds : List D) (m : Fn) (ts : List T) (e : DEnv) : callM dds m ts e = ((Res.of (argBs ts e)).bind fun bs => if nodupT ts then (match m (bs ++ dds.map .sh) with
    | .stuck => .stuck
    | .ok r => if sameB (bs ++ dds.map .sh) r.2.2 then .ok (if r.2.1 then .nw r.1 else .vl r.1, putAll (upds ts r.2.2) 0 e) else .stuck
    | .exc x _ => .exc x (dropAll (upds ts bs) 0 e)) else .stuck) := by unfold callM; rfl
@[simp] theorem ev_dropG1 (d : D) (e : DEnv) : dropG (.ok (.vl d, e)) = .ok (.vl d, e.dropLast) := rfl
@[simp] theorem ev_dropG2 (d : D) (e : DEnv) : dropG (.ok (.nw d, e)) = .ok (.nw d, e.dropLast) := rfl
@[simp] theorem ev_noExc (r : T × DEnv) : noExc (.ok r) = .ok r := rfl
@[simp] theorem ev_isIns (k k' : Nat) (ds : List D) : isIns k (.ins k' ds) = (k' == k) := rfl
@[simp] theorem ev_isInt (i : Int) : isInt (.int i) = true := rfl

/-! equality of data -/
mutual
def dGo : Nat → D → Bool
  | _, .non => true
  | _, .bl _ => true
  | _, .int _ => true
  | _, .str s => (PyData.str s).canLay0
  | 0, _ => false
  | n + 1, .lst ds => dGoL n ds
  | n + 1, .rol ds => dGoL n ds
  | n + 1, .tup ds => dGoL n ds
  | _, .ins _ _ => false
  | _, .dct _ _ _ => false
def dGoL : Nat → List D → Bool
  | _, [] => true
  | n, d :: ds => dGo n d && dGoL n ds
end
mutual
theorem dGo_ok : ∀ (n : Nat) (d : D), dGo n d = true → (toPy d).canLay0 = true ∧ (toPy d).depth ≤ n
  | _, .non, _ => ⟨rfl, Nat.zero_le _⟩
  | _, .bl _, _ => ⟨rfl, Nat.zero_le _⟩
  | _, .int _, _ => ⟨rfl, Nat.zero_le _⟩
  | n, .str s, h => by cases n <;> exact ⟨h, Nat.zero_le _⟩
  | 0, .lst ds, h => by cases h
  | 0, .rol ds, h => by cases h
  | 0, .tup ds, h => by cases h
  | n + 1, .lst ds, h => by obtain ⟨a, b⟩ := dGoL_ok n ds h; exact ⟨a, Nat.succ_le_succ b⟩
  | n + 1, .rol ds, h => by obtain ⟨a, b⟩ := dGoL_ok n ds h; exact ⟨a, Nat.succ_le_succ b⟩
  | n + 1, .tup ds, h => by obtain ⟨a, b⟩ := dGoL_ok n ds h; exact ⟨a, Nat.succ_le_succ b⟩
  | 0, .ins _ _, h => by cases h
  | n + 1, .ins _ _, h => by cases h
  | 0, .dct _ _ _, h => by cases h
  | n + 1, .dct _ _ _, h => by cases h
theorem dGoL_ok : ∀ (n : Nat) (ds : List D), dGoL n ds = true → PyData.canLayAll0 (toPyL ds) = true ∧ PyData.depthAll (toPyL ds) ≤ n
  | _, [], _ => ⟨rfl, Nat.zero_le _⟩
  | n, d :: ds, h => by
    have h' : (dGo n d && dGoL n ds) = true := by cases n <;> exact h
    obtain ⟨h1, h2⟩ := Bool.and_eq_true_iff.mp h'
    obtain ⟨a, b⟩ := dGo_ok n d h1
    obtain ⟨a', b'⟩ := dGoL_ok n ds h2
    exact ⟨Bool.and_eq_true_iff.mpr ⟨a, a'⟩, Nat.max_le.mpr ⟨b, b'⟩⟩
end
theorem dOk_go {d : D} (h : dGo 64 d = true) : dOk d = true := by
  obtain ⟨a, b⟩ := dGo_ok 64 d h
  exact Bool.and_eq_true_iff.mpr ⟨a, decide_eq_true b⟩
@[simp] theorem ok_non : dOk .non = true := rfl
@[simp] theorem ok_bl (b : Bool) : dOk (.bl b) = true := rfl
@[simp] theorem ok_i (i : Int) : dOk (.int i) = true := rfl
theorem dGo_ints : ∀ (n : Nat) (ns : List Int), dGoL n (ns.map .int) = true
  | n, [] => by cases n <;> rfl
  | n, i :: ns => by
    show (dGo n (.int i) && dGoL n (ns.map .int)) = true
    rw [dGo_ints n ns]
    cases n <;> rfl
@[simp] theorem ok_ints (ns : List Int) : dOk (.lst (ns.map .int)) = true := dOk_go (dGo_ints 63 ns)
@[simp] theorem ok_intsR (ns : List Int) : dOk (.rol (ns.map .int)) = true := dOk_go (dGo_ints 63 ns)
@[simp] theorem ok_intsT (ns : List Int) : dOk (.tup (ns.map .int)) = true := dOk_go (dGo_ints 63 ns)
def deqL : List D → List D → Bool
  | [], [] => true
  | x :: xs, y :: ys => deq x y && deqL xs ys
  | _, _ => false
theorem deqL_eq : ∀ xs ys : List D, PyData.eqvAll (toPyL xs) (toPyL ys) = deqL xs ys
  | [], [] => by simp [toPyL, PyData.eqvAll, deqL]
  | [], _ :: _ => by simp [toPyL, PyData.eqvAll, deqL]
  | _ :: _, [] => by simp [toPyL, PyData.eqvAll, deqL]
  | x :: xs, y :: ys => by simp [toPyL, PyData.eqvAll, deqL, deqL_eq xs ys, deq]
@[simp] theorem deq_II (i j : Int) : deq (.int i) (.int j) = decide (i = j) := by simp [deq, toPy, PyData.eqv, BEq.beq]
@[simp] theorem deq_BB (i j : Bool) : deq (.bl i) (.bl j) = (i == j) := by simp [deq, toPy, PyData.eqv]
@[simp] theorem deq_SS (i j : Str) : deq (.str i) (.str j) = (i == j) := by simp [deq, toPy, PyData.eqv]
@[simp] theorem deq_NN : deq .non .non = true := by simp [deq, toPy, PyData.eqv]
@[simp] theorem deq_LL (i j : List D) : deq (.lst i) (.lst j) = deqL i j := by simp [deq, toPy, PyData.eqv, deqL_eq]
@[simp] theorem deq_LR (i j : List D) : deq (.lst i) (.rol j) = deqL i j := by simp [deq, toPy, PyData.eqv, deqL_eq]
@[simp] theorem deq_RL (i j : List D) : deq (.rol i) (.lst j) = deqL i j := by simp [deq, toPy, PyData.eqv, deqL_eq]
@[simp] theorem deq_TT (i j : List D) : deq (.tup i) (.tup j) = deqL i j := by simp [deq, toPy, PyData.eqv, deqL_eq]
@[simp] theorem deqL_nil : deqL [] [] = true := rfl
@[simp] theorem deqL_cons (x y : D) (xs ys : List D) : deqL (x :: xs) (y :: ys) = (deq x y && deqL xs ys) := rfl
@[simp] theorem deqL_nc (y : D) (ys : List D) : deqL [] (y :: ys) = false := rfl
@[simp] theorem deqL_cn (y : D) (ys : List D) : deqL (y :: ys) [] = false := rfl
@[simp] theorem ev_opEq (a b : D) : opEq a b = if dOk a && dOk b then some (.fl (.bl (deq a b))) else none := rfl
@[simp] theorem ev_opNe (a b : D) : opNe a b = if dOk a && dOk b then some (.fl (.bl (!deq a b))) else none := rfl
/-! kinds -/
@[simp] theorem ev_isi1 (tbl : Nat → Option Bool) (bt : String → Option Bool) (i : Int) : isiP tbl bt (.int i) = bt "int" := rfl
@[simp] theorem ev_isi2 (tbl : Nat → Option Bool) (bt : String → Option Bool) (i : Str) : isiP tbl bt (.str i) = bt "str" := rfl
@[simp] theorem ev_isi3 (tbl : Nat → Option Bool) (bt : String → Option Bool) (i : Bool) : isiP tbl bt (.bl i) = bt "bool" := rfl
@[simp] theorem ev_isi4 (tbl : Nat → Option Bool) (bt : String → Option Bool) : isiP tbl bt .non = bt "NoneType" := rfl
@[simp] theorem ev_isi5 (tbl : Nat → Option Bool) (bt : String → Option Bool) (i : List D) : isiP tbl bt (.lst i) = bt "list" := rfl
@[simp] theorem ev_isi6 (tbl : Nat → Option Bool) (bt : String → Option Bool) (i : List D) : isiP tbl bt (.tup i) = bt "tuple" := rfl
@[simp] theorem ev_isi7 (tbl : Nat → Option Bool) (bt : String → Option Bool) (k : Nat) (i : List D) : isiP tbl bt (.ins k i) = tbl k := rfl
@[simp] theorem ev_eqr1 (tbl : Nat → Bool) (bt : String → Bool) (i : Int) : eqR tbl bt (.int i) = bt "int" := rfl
@[simp] theorem ev_eqr2 (tbl : Nat → Bool) (bt : String → Bool) (i : Str) : eqR tbl bt (.str i) = bt "str" := rfl
@[simp] theorem ev_eqr4 (tbl : Nat → Bool) (bt : String → Bool) : eqR tbl bt .non = bt "NoneType" := rfl
@[simp] theorem ev_eqr5 (tbl : Nat → Bool) (bt : String → Bool) (i : List D) : eqR tbl bt (.lst i) = bt "list" := rfl
@[simp] theorem ev_eqr6 (tbl : Nat → Bool) (bt : String → Bool) (i : List D) : eqR tbl bt (.tup i) = bt "tuple" := rfl
@[simp] theorem ev_eqr7 (tbl : Nat → Bool) (bt : String → Bool) (k : Nat) (i : List D) : eqR tbl bt (.ins k i) = tbl k := rfl
@[simp] theorem ev_lkT (l : List (String × Bool)) (T : String) : lkT l T = l.lookup T := rfl
@[simp] theorem ev_lkI (l : List (Nat × Bool)) (k : Nat) : lkI l k = l.lookup k := rfl
@[simp] theorem ev_inT (l : List String) (T : String) : inT l T = l.contains T := rfl
@[simp] theorem ev_inI (l : List Nat) (k : Nat) : inI l k = l.contains k := rfl
@[simp] theorem ev_fldOf (ns : List Str) (f : Str) (ds : List D) : fldOf ns f ds = (ns.zip ds).lookup f := rfl
@[simp] theorem ev_izip (xs ys : List D) : izip xs ys = (xs.zip ys).map fun p => .tup [p.1, p.2] := rfl
@[simp] theorem ev_irange0 (lo : Int) : irange lo 0 = [] := rfl
@[simp] theorem ev_ok62 (i : Int) : ok62 i = (decide (-(2 ^ 62) ≤ i) && decide (i < 2 ^ 62)) := rfl
@[simp] theorem ev_noOw (e : DEnv) : noOw e = e.all fun b => match b with
  | some (.ow _) => false
  | _ => true := rfl
@[simp] theorem ev_clearAt (e : DEnv) (vs : List Nat) : clearAt e vs = vs.all fun i => match e[i]? with
  | some (some (.ow _)) => false
  | some (some (.br _)) => false
  | _ => true := rfl
@[simp] theorem ev_fgCons (f : D → DEnv → Option DEnv) (g : List D → DEnv → Option DEnv) (d : D) (ds : List D) (e : DEnv) : fgCons f g (d :: ds) e = (f d e).bind fun e1 => g ds e1 := rfl
@[simp] theorem ev_cutD (xs : List D) (lo hi : Option Int) : cutD xs lo hi = (xs.drop (HT.sIx xs.length 0 lo)).take (HT.sIx xs.length xs.length hi - HT.sIx xs.length 0 lo) := rfl
@[simp] theorem ev_opSlL (ds : List D) (lo hi : Option Int) : opSl (.lst ds) lo hi = some (.nl (cutD ds lo hi)) := rfl
@[simp] theorem ev_opSlR (ds : List D) (lo hi : Option Int) : opSl (.rol ds) lo hi = some (.nl (cutD ds lo hi)) := rfl
@[simp] theorem ev_opSlT (ds : List D) (lo hi : Option Int) : opSl (.tup ds) lo hi = if HT.sIx ds.length 0 lo = 0 ∧ HT.sIx ds.length ds.length hi = ds.length then some (.fl (.tup ds)) else some (.nt (cutD ds lo hi)) := rfl
@[simp] theorem ev_sIx0 (n d : Nat) : HT.sIx n d none = d := rfl
@[simp] theorem ev_sIx1 (n d : Nat) (v : Int) : HT.sIx n d (some v) = if v < 0 then (v + (n : Int)).toNat else min v.toNat n := rfl
end DL

/-! DL, part t: bounds of products; the tape that all laws draw from. -/
namespace DL
open PySem L2 Evl
theorem log2_of_lt {n k : Nat} (h : n < 2 ^ k) (hk : 0 < k) : n.log2 < k := by
  by_cases h0 : n = 0
  · subst h0; simpa using hk
  · exact (Nat.log2_lt h0).mpr h
theorem mulOk_of {i j : Int} (h1 : -(10 ^ 200) ≤ i ∧ i ≤ 10 ^ 200) (h2 : -(10 ^ 200) ≤ j ∧ j ≤ 10 ^ 200) : mulOk i j = true := by
  have a : i.natAbs < 2 ^ 665 := by
    have : (2 : Nat) ^ 665 > 10 ^ 200 := by decide +kernel
    omega
  have b : j.natAbs < 2 ^ 665 := by
    have : (2 : Nat) ^ 665 > 10 ^ 200 := by decide +kernel
    omega
  have a' := log2_of_lt a (by decide)
  have b' := log2_of_lt b (by decide)
  unfold mulOk
  exact decide_eq_true (by omega)
theorem divOk_of {i j : Int} (h : 0 < j) (h2 : j ≤ 10 ^ 200) : divOk i j = true := by
  have b : j.natAbs < 2 ^ 665 := by
    have : (2 : Nat) ^ 665 > 10 ^ 200 := by decide +kernel
    omega
  have b' := log2_of_lt b (by decide)
  unfold divOk
  rw [decide_eq_true (show j ≠ 0 by omega), decide_eq_true (show j.natAbs.log2 < 9000 by omega)]
  rfl
theorem modOk_of {i j : Int} (h : 0 < j) : modOk i j = true := decide_eq_true (show j ≠ 0 by omega)
theorem mul_bound {a b A B : Int} (h1 : -A ≤ a ∧ a ≤ A) (h2 : -B ≤ b ∧ b ≤ B) : -(A * B) ≤ a * b ∧ a * b ≤ A * B := by
  have hA : 0 ≤ A := by omega
  have hB : 0 ≤ B := by omega
  have k1 : (a * b).natAbs ≤ (A * B).natAbs := by
    rw [Int.natAbs_mul, Int.natAbs_mul]
    exact Nat.mul_le_mul (by omega) (by omega)
  have k2 : 0 ≤ A * B := Int.mul_nonneg hA hB
  omega
theorem fn_rt {N : Nat} {body : FS} {bs : List B} {t : T} {e : DEnv} {r : FnR} (h : body (env0 N bs) = .ok (.rt t e)) (k : fnRet bs t e = some r) : fFn N body bs = .ok r := by
  unfold fFn
  rw [h]
  exact congrArg Res.of k
theorem fn_nx {N : Nat} {body : FS} {bs : List B} {e : DEnv} {r : FnR} (h : body (env0 N bs) = .ok (.nx e)) (k : fnRet bs (.vl .non) e = some r) : fFn N body bs = .ok r := by
  unfold fFn
  rw [h]
  exact congrArg Res.of k
theorem seq_nx {f g : FS} {e e' : DEnv} {r : Res Out} (h : f e = .ok (.nx e')) (k : g e' = r) : fSeq f g e = r := by
  unfold fSeq
  rw [h]
  exact k
/-- a comprehension of one item each -/
theorem loopC_map {fg : D → DEnv → Option DEnv} {fe : FE} {vs : List Nat} {e : DEnv} (f : D → D) (no : noOw e = true) : ∀ (ds acc : List D),
    (∀ d ∈ ds, ∃ e1 t e3 e4, fg d e = some e1 ∧ fe e1 = .ok (t, e3) ∧ escape t e3 = some (f d, e4) ∧ noOw e4 = true ∧ wipeE e4 vs = e) → acc.length + ds.length ≤ lim → loopC fg fYes fe vs ds acc e = some (acc ++ ds.map f, e)
  | [], acc, _, _ => by simp
  | d :: ds, acc, h, hl => by
    obtain ⟨e1, t, e3, e4, h1, h2, h3, h4, h5⟩ := h d List.mem_cons_self
    have hl' : acc.length < lim := by simp at hl ⊢; omega
    have ih := loopC_map (fg := fg) (fe := fe) (vs := vs) f no ds (acc ++ [f d]) (fun d hd => h d (List.mem_cons_of_mem _ hd)) (by simp at hl ⊢; omega)
    rw [ev_loopC1, if_pos no, h1]
    show (match fYes e1 with
      | .ok (true, e2) => match fe e2 with
        | .ok (t, e3) => (escape t e3).bind fun q => if noOw q.2 && decide (acc.length < lim) then loopC fg fYes fe vs ds (acc ++ [q.1]) (wipeE q.2 vs) else none
        | _ => none
      | .ok (false, e2) => if noOw e2 then loopC fg fYes fe vs ds acc (wipeE e2 vs) else none
      | _ => none) = _
    unfold fYes
    dsimp only
    rw [h2]
    dsimp only
    rw [h3]
    show (if noOw e4 && decide (acc.length < lim) then loopC fg fYes fe vs ds (acc ++ [f d]) (wipeE e4 vs) else none) = _
    rw [h4, decide_eq_true hl', h5, Bool.and_self, if_pos rfl, ih, List.map_cons, List.append_assoc, List.singleton_append]
/-- a for loop by an invariant over its items -/
theorem loopF_inv {fg : D → DEnv → Option DEnv} {fb : FS} (P : Nat → DEnv → Prop) : ∀ (ds : List D) (k : Nat) (e : DEnv), P k e →
    (∀ (i : Nat) (d : D) (e : DEnv), ds[i]? = some d → P (k + i) e → ∃ e1 e2, fg d e = some e1 ∧ (fb e1 = .ok (.nx e2) ∨ fb e1 = .ok (.ct e2)) ∧ P (k + i + 1) e2) → ∃ e', loopF fg fb ds e = .ok (.nx e') ∧ P (k + ds.length) e'
  | [], k, e, h, _ => ⟨e, rfl, h⟩
  | d :: ds, k, e, h, st => by
    obtain ⟨e1, e2, h1, h2, h3⟩ := st 0 d e rfl h
    obtain ⟨e', h4, h5⟩ := loopF_inv P ds (k + 1) e2 h3 fun i d' e hd hp => by
      have := st (i + 1) d' e (by simpa using hd) (by rw [show k + (i + 1) = k + 1 + i by omega]; exact hp)
      rw [show k + (i + 1) + 1 = k + 1 + i + 1 by omega] at this
      exact this
    refine ⟨e', ?_, by rw [List.length_cons, show k + (ds.length + 1) = k + 1 + ds.length by omega]; exact h5⟩
    rw [ev_loopF1, h1]
    show ((fb e1).bind fun o => match o with
      | .nx e2 => loopF fg fb ds e2
      | .ct e2 => loopF fg fb ds e2
      | .bk e2 => .ok (.nx e2)
      | .rt t e2 => .ok (.rt t e2)) = _
    rcases h2 with h2 | h2 <;> (rw [h2]; exact h4)
/-! ### texts -/
theorem toNat_inj {a b : Char} (h : a.toNat = b.toNat) : a = b := by
  apply Char.ext
  exact UInt32.toNat_inj.mp h
theorem ofS_inj {a b : String} (h : Str.ofString a = Str.ofString b) : a = b := by
  rw [Str.ofString_eq_toList, Str.ofString_eq_toList] at h
  have h1 := congrArg Str.cps h
  have h2 : a.toList.map Char.toNat = b.toList.map Char.toNat := by simpa using h1
  have h3 : a.toList = b.toList := List.map_inj_right (fun x y e => toNat_inj e) |>.mp h2
  exact String.toList_inj.mp h3
@[simp] theorem str_beq (a b : String) : (Str.ofString a == Str.ofString b) = (a == b) := by
  by_cases h : a = b
  · subst h; simp
  · have : Str.ofString a ≠ Str.ofString b := fun z => h (ofS_inj z)
    rw [beq_eq_false_iff_ne.mpr h, beq_eq_false_iff_ne.mpr this]
@[simp] theorem ok_strL (a : String) : dOk (.str (Str.ofString a)) = true := by
  refine dOk_go ?_
  show (PyData.str (Str.ofString a)).canLay0 = true
  rw [Str.ofString_eq_toList]
  simp only [PyData.canLay0]
  unfold PyData.strOk
  simp
  intro c _
  have := c.valid
  unfold UInt32.isValidChar Nat.isValidChar at this
  show c.val.toNat < 1114112
  omega
/-! ### the tape -/
/-- a tape: the cell's rest, the seed -/
abbrev TP (c s : Int) : D := .lst [.int c, .int s]
structure TpOk (c s : Int) : Prop where
  c0 : 0 ≤ c
  s0 : 0 ≤ s
  s1 : s < 10 ^ 12
/-- what _law_pick hands back, and the tape behind it -/
structure PickR (n r c' s' : Int) : Prop where
  lo : 0 ≤ r
  hi : r < n
  tp : TpOk c' s'
/-- a def that picks from a tape -/
def Picks (m : Fn) : Prop := ∀ c s n : Int, TpOk c s → 0 < n → n ≤ 10 ^ 100 → ∃ r c' s', m [.br (TP c s), .sh (.int n)] = .ok (.int r, false, [.br (TP c' s'), .sh (.int n)]) ∧ PickR n r c' s'
end DL

/-! DL, part sb: further rows that run functions on data; printed by evs2.py. -/
namespace DL
open PySem L2 Evl
@[simp ↓] theorem ev_fChain (op op' : D → D → Option RV) (fa fb fc : FE) (e : DEnv) : fChain op op' fa fb fc e = ((fa e).bind fun r => (fb r.2).bind fun q => match (lookT r.1.seal q.2).bind fun d1 => (lookT q.1.seal q.2).bind fun d2 => op d1 d2 with
  | some (.fl (.bl true)) => (fc q.2).bind fun u => Res.of ((lookT q.1.seal u.2).bind fun d2 => (lookT u.1 u.2).bind fun d3 => (op' d2 d3).bind fun rv => some (rv.tok, u.2))
  | some (.fl (.bl false)) => .ok (.vl (.bl false), q.2)
  | _ => .stuck) := rfl
@[simp ↓] theorem ev_fTru (f : FE) (e : DEnv) : fTru f e = ((f e).bind fun r => match (lookT r.1 r.2).bind truD with
  | some b => .ok (b, r.2)
  | none => .stuck) := rfl
@[simp ↓] theorem ev_fM1 (op : Str → D → Option RV) (fo fe : FE) (e : DEnv) : fM1 op fo fe e = ((fo e).bind fun r => match lookT r.1.seal r.2 with
  | some (.str a) => (fe r.2).bind fun q => Res.of ((lookT q.1 q.2).bind fun d => (op a d).bind fun rv => some (rv.tok, q.2))
  | _ => .stuck) := rfl
@[simp ↓] theorem ev_fiS (f : FE) (e : DEnv) : fiS f e = ((f e).bind fun r => Res.of ((lookT r.1 r.2).bind fun d => match d with
  | .str s => some (signs s, r.2)
  | _ => none)) := rfl
@[simp ↓] theorem ev_fiE (fr : FA) (e : DEnv) : fiE fr e = ((fr e).bind fun r => Res.of ((escs r.1 r.2).bind fun q => match q.1 with
  | [.lst xs] => some (ienum xs, q.2)
  | [.rol xs] => some (ienum xs, q.2)
  | _ => none)) := rfl
@[simp ↓] theorem ev_fiV (fr : FA) (e : DEnv) : fiV fr e = ((fr e).bind fun r => Res.of ((escs r.1 r.2).bind fun q => match q.1 with
  | [.lst xs] => some (xs.reverse, q.2)
  | [.rol xs] => some (xs.reverse, q.2)
  | _ => none)) := rfl
@[simp ↓] theorem ev_fiA (f : FE) (e : DEnv) : fiA f e = ((f e).bind fun r => Res.of ((escape r.1 r.2).bind fun q => (itemsD q.1).map fun ds => (ds, q.2))) := rfl
@[simp ↓] theorem ev_fAS (fa : FE) (fr : FA) (e : DEnv) : fAS fa fr e = ((fa e).bind fun r => match lookT r.1 r.2 with
  | some (.lst ds) => (fr r.2).bind fun q => .ok (ds.map .vl ++ q.1, q.2)
  | some (.rol ds) => (fr r.2).bind fun q => .ok (ds.map .vl ++ q.1, q.2)
  | some (.tup ds) => (fr r.2).bind fun q => .ok (ds.map .vl ++ q.1, q.2)
  | _ => .stuck) := rfl
@[simp ↓] theorem ev_fFmt (f : FE) (e : DEnv) : fFmt f e = ((f e).bind fun r => Res.of ((lookT r.1 r.2).bind fun d => (fmtD d).map fun s => (.vl (.str s), r.2))) := rfl
@[simp ↓] theorem ev_fJoin (g : Str → DEnv → Res (Str × DEnv)) (e : DEnv) : fJoin g e = ((g Str.empty e).bind fun r => .ok (.vl (.str r.1), r.2)) := rfl
@[simp ↓] theorem ev_fNotT (f : FE) (e : DEnv) : fNotT f e = ((fTru f e).bind fun r => .ok (.vl (.bl (!r.1)), r.2)) := rfl
@[simp ↓] theorem ev_fAugF (ns : List Str) (k j : Nat) (f : Str) (op : D → D → Option RV) (fv : FE) (e : DEnv) : fAugF ns k j f op fv e = (match (rootIns k e j).bind (fldOf ns f) with
  | some d1 => (fv e).bind fun r => Res.of ((lookT r.1 r.2).bind fun d2 => (op d1 d2).bind fun rv => match rv with
    | .fl d => (rootIns k r.2 j).bind fun ds => (putD ns f d ds).bind fun ds' => if ds.length < 900 then some (.nx (putIns k r.2 j ds')) else none
    | _ => none)
  | none => .stuck) := rfl
@[simp ↓] theorem ev_fTryM (l : List Cf) (f : FS) (e : DEnv) : fTryM l f e = (match f e with
  | .exc x e' => fCls l x e'
  | r => r) := rfl
@[simp ↓] theorem ev_fEqI (q : D → D → Bool) (n : Nat) (neg : Bool) (fa fb : FE) (e : DEnv) : fEqI q n neg fa fb e = ((fa e).bind fun r => (fb r.2).bind fun s => Res.of ((lookT r.1.seal s.2).bind fun d1 => (lookT s.1 s.2).bind fun d2 => match d1, d2 with
  | .lst xs, .lst ys => if deqI q (n + 1) (.lst xs) (.lst ys) then some (T.vl (.bl (!neg)), s.2) else none
  | _, _ => none)) := rfl
@[simp ↓] theorem ev_fDisp (fr : FA) (e : DEnv) : fDisp fr e = ((fr e).bind fun r => Res.of ((escs r.1 r.2).bind fun q => (pairsA q.1).bind fun u => if decide u.1.Nodup && decide (u.1.length ≤ 15) then some (T.nw (.dct false (u.1.map keyD) u.2), q.2) else none)) := rfl
@[simp ↓] theorem ev_fD0 (t : Bool) (e : DEnv) : fD0 t e = (.ok (.nw (.dct t [] []), e)) := rfl
@[simp ↓] theorem ev_fSetD (j : Nat) (fi fv : FE) (e : DEnv) : fSetD j fi fv e = ((fv e).bind fun r => (Res.of ((escape r.1 r.2).bind fun q => (rootDct q.2 j).map fun _ => q)).bind fun q => (fi q.2).bind fun s => Res.of ((lookT s.1 s.2).bind fun k => (rootDct s.2 j).bind fun u => (dPut u.1 u.2.1 u.2.2 k q.1).map fun w => .nx (putDct s.2 j u.1 w.1 w.2))) := rfl
@[simp ↓] theorem ev_fCallK (n m' : Nat) (pm : List Nat) (dds : List D) (m : Fn) (fa fk : FA) (e : DEnv) : fCallK n m' pm dds m fa fk e = ((fa e).bind fun r => (fk r.2).bind fun q => if r.1.length = n ∧ q.1.length = m' then (Res.of (escN [] (selL pm (r.1 ++ q.1 ++ dds.map .vl)) q.2)).bind fun q => callM [] m q.1 q.2 else .stuck) := rfl
@[simp ↓] theorem ev_fOwnIn (i : Nat) (neg : Bool) (m : Fn) (fa fb : FE) (e : DEnv) : fOwnIn i neg m fa fb e = ((fOwn2 isAny (isIns i) true m fa fb e).bind fun r => match r.1 with
  | .vl (.bl b) => .ok (.vl (.bl (b != neg)), r.2)
  | _ => .stuck) := rfl
@[simp ↓] theorem ev_fOwnLen (i : Nat) (m : Fn) (fo : FE) (e : DEnv) : fOwnLen i m fo e = ((fo e).bind fun r0 => match lookT r0.1.seal r0.2 with
  | some (.ins k' _) => if k' = i then (Res.of (escN [false] [r0.1.seal] r0.2)).bind fun q => (noExc (callM [] m q.1 q.2)).bind fun r => match r.1 with
    | .vl (.int n) => if 0 ≤ n ∧ n < 2 ^ 63 then .ok (.vl (.int n), r.2) else .stuck
    | _ => .stuck
    else .stuck
  | _ => .stuck) := rfl
@[simp ↓] theorem ev_fForO (j : Nat) (wr : Nat → D → D) (fall : FS) (fg : D → DEnv → Option DEnv) (fb : FS) (e : DEnv) : fForO j wr fall fg fb e = (match e[j]? with
  | some (some (.ow (.lst ds))) => unbrO j (loopO j wr fg fb (ds.length + 1) 0 (e.set j (some (.br (.lst ds)))))
  | some (some (.br (.lst ds))) => loopO j wr fg fb (ds.length + 1) 0 e
  | _ => fall e) := rfl
@[simp ↓] theorem ev_fAppN (fo fa : FE) (e : DEnv) : fAppN fo fa e = ((fo e).bind fun q => match q.1 with
  | .nw (.lst ds) => if ds.length < lim then (fa q.2).bind fun r => (Res.of (escape r.1 r.2)).bind fun s => .ok (.vl .non, s.2) else .stuck
  | _ => .stuck) := rfl
@[simp ↓] theorem ev_fPar3 (i j l : Nat) (fr : FA) (e : DEnv) : fPar3 i j l fr e = ((fr e).bind fun r => Res.of ((escs r.1 r.2).bind fun q => match q.1 with
  | [d1, d2, d3] => if i < q.2.length ∧ j < q.2.length ∧ l < q.2.length then some (.nx (((q.2.set i (some (.sh d1))).set j (some (.sh d2))).set l (some (.sh d3)))) else none
  | _ => none)) := rfl
@[simp] theorem opInA_tup (a : D) (ds : List D) : opInA a (.tup ds) = if dOk a && dOk (.tup ds) then some (.fl (.bl (ds.any fun y => deq y a))) else none := by cases a <;> rfl
@[simp] theorem opInA_lst (a : D) (ds : List D) : opInA a (.lst ds) = if dOk a && dOk (.lst ds) then some (.fl (.bl (ds.any fun y => deq y a))) else none := by cases a <;> rfl
@[simp] theorem ev_inSS (a b : Str) : opInA (.str a) (.str b) = some (.fl (.bl (strIn a b))) := rfl
@[simp] theorem ev_niA (a b : D) : opNiA a b = (match opInA a b with
  | some (.fl (.bl k)) => some (.fl (.bl (!k)))
  | _ => none) := rfl
@[simp] theorem ev_putD1 (f : Str) (d : D) : putD [f] f d [] = some [d] := by simp [putD]
@[simp] theorem ev_tupL (xs : List D) : opTuple [.lst xs] = some (.nt xs) := rfl
@[simp] theorem ev_tupT (xs : List D) : opTuple [.tup xs] = some (.fl (.tup xs)) := rfl
@[simp] theorem ev_listL (xs : List D) : opList [.lst xs] = some (.nl xs) := rfl
@[simp] theorem ev_listT (xs : List D) : opList [.tup xs] = some (.nl xs) := rfl
@[simp] theorem ev_rootDct (e : DEnv) (j : Nat) : rootDct e j = (match e[j]? with
  | some (some (.ow (.dct t ks ds))) => some (t, ks, ds)
  | some (some (.br (.dct t ks ds))) => some (t, ks, ds)
  | _ => none) := rfl
@[simp] theorem ev_putDct (e : DEnv) (j : Nat) (t : Bool) (ks ds : List D) : putDct e j t ks ds = (match e[j]? with
  | some (some b) => e.set j (some (b.re (.dct t ks ds)))
  | _ => e) := rfl
@[simp] theorem ev_opDGet (t : Bool) (ks ds : List D) (b : D) : opDGet (.dct t ks ds) b = (dLook t ks ds b).bind fun r => r.map .fl := rfl
@[simp] theorem ev_opInD (t : Bool) (ks ds : List D) (a : D) : opInD a (.dct t ks ds) = (dLook t ks ds a).map fun r => .fl (.bl r.isSome) := rfl
@[simp] theorem ev_opNiD (t : Bool) (ks ds : List D) (a : D) : opNiD a (.dct t ks ds) = (dLook t ks ds a).map fun r => .fl (.bl (!r.isSome)) := rfl
@[simp] theorem ev_selL0 {α : Type} (l : List α) : selL [] l = [] := rfl
@[simp] theorem ev_selL1 {α : Type} (i : Nat) (pm : List Nat) (l : List α) : selL (i :: pm) l = (match l[i]? with | some x => x :: selL pm l | none => selL pm l) := selL_cons i pm l
@[simp] theorem ev_isR1 (j : Nat) (i : Int) : isR j (.int i) = true := rfl
@[simp] theorem ev_isR2 (j k : Nat) (ds : List D) : isR j (.ins k ds) = (k == j) := rfl
@[simp] theorem ev_isAny (d : D) : isAny d = true := rfl
@[simp] theorem ev_items1 (xs : List D) : itemsD (.lst xs) = some xs := rfl
@[simp] theorem ev_items2 (xs : List D) : itemsD (.tup xs) = some xs := rfl
@[simp] theorem ev_truL (xs : List D) : truD (.lst xs) = some (!xs.isEmpty) := rfl
@[simp] theorem ev_isN1 : opIsN .non .non = some (.fl (.bl true)) := rfl
end DL

/-! Texts of lengths, in plain terms: parts of a text; no program in sight. -/
namespace P12
abbrev Tk := List Nat
def isW (c : Nat) : Bool := (decide (97 ≤ c) && decide (c ≤ 122)) || (decide (48 ≤ c) && decide (c ≤ 57))
def sgs : List Tk := [[60,60],[62,62],[38],[124],[94],[126],[40],[41],[61],[43],[45],[42],[44]]
/-- one turn: what is found, and the rest -/
def stepT (c : Nat) (cs : Tk) : Option (List Tk × Tk) :=
  if isW c then some ([c :: cs.takeWhile isW], cs.dropWhile isW)
  else if c = 32 then some ([], cs)
  else if c = 87 ∨ c = 78 then some ([[c]], cs)
  else if (c :: cs.take 1) ∈ sgs then some ([c :: cs.take 1], cs.drop 1)
  else if [c] ∈ sgs then some ([[c]], cs) else none
def tk : Nat → Tk → Option (List Tk)
  | _, [] => some []
  | 0, _ :: _ => none
  | n + 1, c :: cs => (stepT c cs).bind fun q => (tk n q.2).map fun l => q.1 ++ l
theorem drop_le (p : Nat → Bool) : ∀ l : Tk, (l.dropWhile p).length ≤ l.length
  | [] => Nat.le_refl _
  | c :: l => by
    rw [List.dropWhile_cons]
    split
    · have := drop_le p l
      simp; omega
    · exact Nat.le_refl _
theorem stepT_le {c : Nat} {cs r : Tk} {em : List Tk} (h : stepT c cs = some (em, r)) : r.length ≤ cs.length := by
  unfold stepT at h
  repeat' split at h
  all_goals first | (cases h; done) | (cases h; first | exact drop_le _ _ | exact Nat.le_refl _ | (simp))
theorem tk_fuel : ∀ (n m : Nat) (s : Tk), s.length ≤ n → s.length ≤ m → tk n s = tk m s
  | n, m, [], _, _ => by cases n <;> cases m <;> rfl
  | 0, _, _ :: _, h, _ => by simp at h
  | _, 0, _ :: _, _, h => by simp at h
  | n + 1, m + 1, c :: cs, h1, h2 => by
    show (stepT c cs).bind _ = (stepT c cs).bind _
    cases hs : stepT c cs with
    | none => rfl
    | some q =>
      obtain ⟨em, r⟩ := q
      have := stepT_le hs
      simp at h1 h2
      show (tk n r).map _ = (tk m r).map _
      rw [tk_fuel n m r (by omega) (by omega)]
def toks (s : Tk) : Option (List Tk) := tk s.length s
theorem tk_toks {n : Nat} {s : Tk} (h : s.length ≤ n) : tk n s = toks s := tk_fuel _ _ _ h (Nat.le_refl _)
@[simp] theorem toks_nil : toks [] = some [] := rfl
theorem toks_cons (c : Nat) (cs : Tk) : toks (c :: cs) = (stepT c cs).bind fun q => (toks q.2).map fun l => q.1 ++ l := by
  show (stepT c cs).bind _ = _
  cases hs : stepT c cs with
  | none => rfl
  | some q =>
    obtain ⟨em, r⟩ := q
    show (tk _ r).map _ = (toks r).map _
    rw [tk_toks (stepT_le hs)]
theorem two_no {c : Nat} : ([c, 32] : Tk) ∉ sgs := by
  unfold sgs
  simp
theorem take_sp (b : Tk) : ∀ cs : Tk, (cs ++ 32 :: b).takeWhile isW = cs.takeWhile isW ∧ (cs ++ 32 :: b).dropWhile isW = cs.dropWhile isW ++ 32 :: b
  | [] => ⟨rfl, rfl⟩
  | c :: cs => by
    obtain ⟨h1, h2⟩ := take_sp b cs
    rw [List.cons_append, List.takeWhile_cons, List.takeWhile_cons, List.dropWhile_cons, List.dropWhile_cons, h1, h2]
    cases isW c <;> exact ⟨rfl, rfl⟩
theorem stepT_sp (c : Nat) (cs b : Tk) : stepT c (cs ++ 32 :: b) = (stepT c cs).map fun q => (q.1, q.2 ++ 32 :: b) := by
  unfold stepT
  by_cases h1 : isW c
  · rw [if_pos h1, if_pos h1, (take_sp b cs).1, (take_sp b cs).2]; rfl
  rw [if_neg h1, if_neg h1]
  by_cases h2 : c = 32
  · rw [if_pos h2, if_pos h2]; rfl
  rw [if_neg h2, if_neg h2]
  by_cases h3 : c = 87 ∨ c = 78
  · rw [if_pos h3, if_pos h3]; rfl
  rw [if_neg h3, if_neg h3]
  cases cs with
  | nil =>
    show (if ([c, 32] : Tk) ∈ sgs then _ else _) = _
    rw [if_neg two_no]
    show (if [c] ∈ sgs then _ else _) = Option.map _ (if [c] ∈ sgs then _ else _)
    by_cases h : [c] ∈ sgs
    · rw [if_pos h, if_pos h]; rfl
    · rw [if_neg h, if_neg h, if_neg h]; rfl
  | cons d cs =>
    show (if ([c, d] : Tk) ∈ sgs then _ else _) = Option.map _ (if ([c, d] : Tk) ∈ sgs then _ else _)
    by_cases h : ([c, d] : Tk) ∈ sgs
    · rw [if_pos h, if_pos h]; rfl
    · rw [if_neg h, if_neg h]
      by_cases h : [c] ∈ sgs
      · rw [if_pos h, if_pos h]; rfl
      · rw [if_neg h, if_neg h]; rfl
theorem toks_sp (b : Tk) : ∀ (n : Nat) (a : Tk), a.length ≤ n → toks (a ++ 32 :: b) = (toks a).bind fun x => (toks b).map fun y => x ++ y
  | _, [], _ => by
    show toks (32 :: b) = _
    rw [toks_cons]
    show (toks b).map (fun l => [] ++ l) = (toks b).map _
    rfl
  | 0, _ :: _, h => by simp at h
  | n + 1, c :: cs, h => by
    rw [List.cons_append, toks_cons, toks_cons, stepT_sp]
    cases hs : stepT c cs with
    | none => rfl
    | some q =>
      obtain ⟨em, r⟩ := q
      have hl := stepT_le hs
      simp at h
      show (toks (r ++ 32 :: b)).map _ = ((toks r).map _).bind _
      rw [toks_sp b n r (by omega)]
      cases toks r with
      | none => rfl
      | some x =>
        cases toks b with
        | none => rfl
        | some y =>
          show some (em ++ (x ++ y)) = some (em ++ x ++ y)
          rw [List.append_assoc]
theorem toks_space (a b : Tk) : toks (a ++ 32 :: b) = (toks a).bind fun x => (toks b).map fun y => x ++ y := toks_sp b _ a (Nat.le_refl _)
theorem toks_gap (b : Tk) : ∀ n : Nat, toks (List.replicate n 32 ++ b) = toks b
  | 0 => rfl
  | n + 1 => by
    rw [List.replicate_succ, List.cons_append]
    have := toks_space [] (List.replicate n 32 ++ b)
    rw [List.nil_append] at this
    rw [this, toks_gap b n]
    show (toks b).map (fun y => [] ++ y) = _
    cases toks b <;> rfl
/-! ### parts -/
def word (p : Tk) : Bool := !p.isEmpty && p.all isW
def sg1 : List Tk := [[87], [78], [42], [43], [45], [40], [41]]
def one (p : Tk) : Prop := word p = true ∨ p ∈ sg1
theorem take_all {r : Tk} (hr : ∀ c cs, r = c :: cs → isW c = false) : ∀ p : Tk, p.all isW = true → (p ++ r).takeWhile isW = p ∧ (p ++ r).dropWhile isW = r
  | [], _ => by
    cases r with
    | nil => exact ⟨rfl, rfl⟩
    | cons c cs =>
      have := hr c cs rfl
      rw [List.nil_append, List.takeWhile_cons, List.dropWhile_cons, this]
      exact ⟨rfl, rfl⟩
  | c :: p, h => by
    rw [List.all_cons, Bool.and_eq_true] at h
    obtain ⟨h1, h2⟩ := take_all hr p h.2
    rw [List.cons_append, List.takeWhile_cons, List.dropWhile_cons, h.1, h1, h2]
    exact ⟨rfl, rfl⟩
theorem toks_one {p r : Tk} (h : one p) (hr : word p = true → ∀ c cs, r = c :: cs → isW c = false) : toks (p ++ r) = (toks r).map fun l => p :: l := by
  rcases h with h | h
  · have hr2 := hr h
    unfold word at h
    cases p with
    | nil => cases h
    | cons c p =>
      have h : (c :: p).all isW = true := by simpa using h
      rw [List.all_cons, Bool.and_eq_true] at h
      rw [List.cons_append, toks_cons]
      have : stepT c (p ++ r) = some ([c :: p], r) := by
        unfold stepT
        rw [if_pos h.1, (take_all hr2 p h.2).1, (take_all hr2 p h.2).2]
      rw [this]
      rfl
  · have key : ∀ c : Nat, [c] ∈ sg1 → stepT c r = some ([[c]], r) := fun c hc => by
      unfold sg1 at hc
      simp at hc
      rcases hc with rfl | rfl | rfl | rfl | rfl | rfl | rfl
      · rfl
      · rfl
      all_goals
        unfold stepT
        rw [if_neg (by decide), if_neg (by decide), if_neg (by decide)]
        cases r with
        | nil => rfl
        | cons d r =>
          rw [if_neg (by unfold sgs; simp), if_pos (by decide)]
    have : ∃ c, p = [c] := by
      unfold sg1 at h
      simp at h
      rcases h with rfl | rfl | rfl | rfl | rfl | rfl | rfl <;> exact ⟨_, rfl⟩
    obtain ⟨c, rfl⟩ := this
    rw [show ([c] : Tk) ++ r = c :: r from rfl, toks_cons, key c h]
    rfl
/-- no two words beside one another -/
def sep : List Tk → Bool
  | p :: q :: r => !(word p && word q) && sep (q :: r)
  | _ => true
def gp : List Tk → List Nat → Tk
  | p :: ps, g :: gs => p ++ (List.replicate g 32 ++ gp ps gs)
  | _, _ => []
theorem one_head {q : Tk} (h : one q) (hw : word q = false) : ∃ c cs, q = c :: cs ∧ isW c = false := by
  rcases h with h | h
  · rw [h] at hw; cases hw
  · unfold sg1 at h
    simp at h
    rcases h with rfl | rfl | rfl | rfl | rfl | rfl | rfl <;> exact ⟨_, _, rfl, by decide⟩
theorem toks_gp : ∀ (ps : List Tk) (gs : List Nat), (∀ p ∈ ps, one p) → sep ps = true → ps.length ≤ gs.length → toks (gp ps gs) = some ps
  | [], _, _, _, _ => rfl
  | p :: ps, [], _, _, h => by simp at h
  | p :: ps, g :: gs, h1, h2, h3 => by
    have ih := toks_gp ps gs (fun q hq => h1 q (List.mem_cons_of_mem _ hq)) (by
      cases ps with
      | nil => rfl
      | cons q ps => exact (Bool.and_eq_true_iff.mp h2).2) (by simpa using h3)
    show toks (p ++ (List.replicate g 32 ++ gp ps gs)) = _
    rw [toks_one (h1 p List.mem_cons_self), toks_gap, ih]
    · rfl
    · intro hw c cs e
      cases g with
      | succ g =>
        rw [List.replicate_succ] at e
        cases e
        decide
      | zero =>
        cases ps with
        | nil => cases e
        | cons q ps =>
          have h4 := (Bool.and_eq_true_iff.mp h2).1
          rw [hw] at h4
          have hq : word q = false := by simpa using h4
          obtain ⟨c', cs', rfl, hc⟩ := one_head (h1 q (by simp)) hq
          cases gs with
          | nil => simp at h3
          | cons g' gs =>
            change (c' :: cs') ++ _ = _ at e
            cases e
            exact hc
def joinS : List Tk → Tk
  | [] => []
  | [p] => p
  | p :: q :: r => p ++ 32 :: joinS (q :: r)
def catM : List Tk → Option (List Tk)
  | [] => some []
  | p :: ps => (toks p).bind fun x => (catM ps).map fun y => x ++ y
theorem toks_join : ∀ ps : List Tk, toks (joinS ps) = catM ps
  | [] => rfl
  | [p] => by
    show toks p = (toks p).bind _
    cases toks p with
    | none => rfl
    | some x => show some x = some (x ++ []); rw [List.append_nil]
  | p :: q :: r => by
    show toks (p ++ 32 :: joinS (q :: r)) = (toks p).bind _
    rw [toks_space, toks_join (q :: r)]
theorem one_toks {p : Tk} (h : one p) : toks p = some [p] := by
  have := toks_one (r := []) h (fun _ c cs e => by cases e)
  rw [List.append_nil] at this
  rw [this]
  rfl
theorem catM_ones : ∀ {ps : List Tk}, (∀ p ∈ ps, one p) → catM ps = some ps
  | [], _ => rfl
  | p :: ps, h => by
    show (toks p).bind _ = _
    rw [one_toks (h p List.mem_cons_self), catM_ones fun q hq => h q (List.mem_cons_of_mem _ hq)]
    rfl
theorem catM_app : ∀ (ps qs : List Tk), catM (ps ++ qs) = (catM ps).bind fun x => (catM qs).map fun y => x ++ y
  | [], qs => by
    show catM qs = (catM qs).map fun y => [] ++ y
    cases catM qs <;> rfl
  | p :: ps, qs => by
    show ((toks p).bind fun x => (catM (ps ++ qs)).map fun y => x ++ y) = ((toks p).bind _).bind _
    rw [catM_app ps qs]
    cases toks p with
    | none => rfl
    | some x =>
      cases catM ps with
      | none => rfl
      | some y =>
        cases catM qs with
        | none => rfl
        | some z => show some (x ++ (y ++ z)) = some (x ++ y ++ z); rw [List.append_assoc]
end P12

/-! Texts of lengths, in plain terms: numbers, terms, sums, lengths. -/
namespace P12
open PySem L2
def dig (c : Nat) : Bool := decide (48 ≤ c) && decide (c ≤ 57)
def num (p : Tk) : Option Int := if (1 ≤ p.length ∧ p.length ≤ 4) ∧ p.all dig = true then (if p.head? = some 48 ∧ 1 < p.length then none else some ((NumText.digitsVal p : Nat) : Int)) else none
abbrev V3 := Int × Int × Int
def add3 (x : V3) (s : Int) (y : V3) : V3 := (x.1 + s * y.1, x.2.1 + s * y.2.1, x.2.2 + s * y.2.2)
def mul3 (x : V3) (a : Int) : V3 := (x.1 * a, x.2.1 * a, x.2.2 * a)
def letter (p : Tk) : Option V3 := if p = [87] then some (0, 1, 0) else if p = [78] then some (1, 0, 0) else none
def termP : List Tk → Option (V3 × List Tk)
  | [] => none
  | p :: r => match letter p with
    | some t => some (t, r)
    | none => match num p with
      | none => none
      | some a => match r with
        | [] => some ((0, 0, a), [])
        | q :: r2 => if q = [42] then (match r2 with
            | [] => none
            | l :: r3 => (letter l).map fun t => (mul3 t a, r3)) else some ((0, 0, a), q :: r2)
def sumL : Nat → V3 → Int → List Tk → Option (V3 × List Tk)
  | 0, _, _, _ => none
  | n + 1, acc, s, suf => match termP suf with
    | none => none
    | some (t, r) => match r with
      | [] => some (add3 acc s t, [])
      | q :: r2 => if q = [43] then sumL n (add3 acc s t) 1 r2 else if q = [45] then sumL n (add3 acc s t) (-1) r2 else some (add3 acc s t, q :: r2)
def sumP (n : Nat) : List Tk → Option (V3 × List Tk)
  | [] => sumL n (0, 0, 0) 1 []
  | p :: r => if p = [45] then sumL n (0, 0, 0) (-1) r else sumL n (0, 0, 0) 1 (p :: r)
def opn : List Tk → Nat
  | [] => 0
  | p :: r => if p = [40] then opn r + 1 else 0
def readT (ps : List Tk) : Option V3 := match sumP 100000 (ps.drop (opn ps)) with
  | none => none
  | some (v, r) => if r = List.replicate (opn ps) [41] then some v else none
def readX (s : Tk) : Option V3 := (toks s).bind readT
/-! ### decimals -/
abbrev dec (n : Nat) : Tk := TL.numL n
theorem dec_head : ∀ n : Nat, 0 < n → ∃ c cs, dec n = c :: cs ∧ c ≠ 48 := by
  intro n
  induction n using Nat.strongRecOn with
  | _ n ih =>
    intro h0
    by_cases h : n < 10
    · exact ⟨48 + n, [], TL.numL_lt h, by omega⟩
    · obtain ⟨c, cs, e, hc⟩ := ih (n / 10) (by omega) (by omega)
      refine ⟨c, cs ++ [48 + n % 10], ?_, hc⟩
      show TL.numL n = _
      rw [TL.numL_step (by omega)]
      change TL.numL (n / 10) = _ at e
      rw [e]
      rfl
theorem dec_dig (n : Nat) : (dec n).all dig = true := List.all_eq_true.mpr fun c hc => by
  have := TL.numL_digits n c hc
  unfold dig
  rw [decide_eq_true this.1, decide_eq_true this.2]
  rfl
theorem num_dec {n : Nat} (h : n < 10000) : num (dec n) = some (n : Int) := by
  have h1 : (dec n).length ≤ 4 := TL.numL_len (by decide) h
  have h2 : 1 ≤ (dec n).length := by
    have := TL.numL_ne n
    cases e : dec n with
    | nil => exact absurd e this
    | cons c cs => simp
  unfold num
  rw [if_pos ⟨⟨h2, h1⟩, dec_dig n⟩, if_neg, TL.numL_val]
  rintro ⟨h3, h4⟩
  by_cases h0 : 0 < n
  · obtain ⟨c, cs, e, hc⟩ := dec_head n h0
    rw [e] at h3
    exact hc (by simpa using h3)
  · have : n = 0 := by omega
    subst this
    change 1 < (TL.numL 0).length at h4
    rw [TL.numL_lt (by decide)] at h4
    simp at h4
theorem dig_w {c : Nat} (h : dig c = true) : isW c = true := by
  unfold dig at h
  unfold isW
  rw [h, Bool.or_true]
theorem dec_word (n : Nat) : word (dec n) = true := by
  unfold word
  have h2 : (dec n).all isW = true := List.all_eq_true.mpr fun c hc => dig_w (List.all_eq_true.mp (dec_dig n) c hc)
  rw [h2]
  cases e : dec n with
  | nil => exact absurd e (TL.numL_ne n)
  | cons c cs => rfl
theorem dec_one (n : Nat) : one (dec n) := .inl (dec_word n)
theorem word_letter {p : Tk} (h : word p = true) : letter p = none := by
  unfold letter
  rw [if_neg, if_neg]
  · rintro rfl; exact absurd h (by decide)
  · rintro rfl; exact absurd h (by decide)
/-! ### good sums -/
/-- a term: is it taken away, its form, its amount -/
structure Tm where
  neg : Bool
  kind : Nat
  amt : Nat
def body (t : Tm) : List Tk := if t.kind = 0 then [dec t.amt, [42], [78]] else if t.kind = 1 then [dec t.amt, [42], [87]] else if t.kind = 2 then [[78]] else if t.kind = 3 then [[87]] else [dec t.amt]
def worth (t : Tm) : V3 := if t.kind = 0 then (t.amt, 0, 0) else if t.kind = 1 then (0, t.amt, 0) else if t.kind = 2 then (1, 0, 0) else if t.kind = 3 then (0, 1, 0) else (0, 0, t.amt)
def sg (b : Bool) : Int := if b then -1 else 1
def tailT : List Tm → List Tk
  | [] => []
  | t :: ts => (if t.neg then [45] else [43]) :: (body t ++ tailT ts)
def headT : List Tm → List Tk
  | [] => []
  | t :: ts => (if t.neg then [[45]] else []) ++ (body t ++ tailT ts)
def total : V3 → List Tm → V3
  | acc, [] => acc
  | acc, t :: ts => total (add3 acc (sg t.neg) (worth t)) ts
def Ends (r : List Tk) : Prop := ∀ q r2, r = q :: r2 → q = [41]
def Stop (r : List Tk) : Prop := ∀ q r2, r = q :: r2 → q ≠ [42]
theorem termP_num {p : Tk} {a : Int} (h1 : letter p = none) (h2 : num p = some a) (r : List Tk) : termP (p :: r) = match r with
    | [] => some ((0, 0, a), [])
    | q :: r2 => if q = [42] then (match r2 with
            | [] => none
            | l :: r3 => (letter l).map fun t => (mul3 t a, r3)) else some ((0, 0, a), q :: r2) := by
  unfold termP
  dsimp only
  rw [h1]
  dsimp only
  rw [h2]
theorem sumL_end {n : Nat} {acc : V3} {s : Int} {suf : List Tk} {t : V3} (h : termP suf = some (t, [])) : sumL (n + 1) acc s suf = some (add3 acc s t, []) := by
  unfold sumL
  rw [h]
theorem sumL_on {n : Nat} {acc : V3} {s : Int} {suf : List Tk} {t : V3} {q : Tk} {r2 : List Tk} (h : termP suf = some (t, q :: r2)) : sumL (n + 1) acc s suf = if q = [43] then sumL n (add3 acc s t) 1 r2 else if q = [45] then sumL n (add3 acc s t) (-1) r2 else some (add3 acc s t, q :: r2) := by
  show (match termP suf with
    | none => none
    | some (t, r) => match r with
      | [] => some (add3 acc s t, [])
      | q :: r2 => if q = [43] then sumL n (add3 acc s t) 1 r2 else if q = [45] then sumL n (add3 acc s t) (-1) r2 else some (add3 acc s t, q :: r2)) = _
  rw [h]
theorem term_body {t : Tm} {r : List Tk} (ha : t.amt < 10000) (hr : Stop r) : termP (body t ++ r) = some (worth t, r) := by
  have hn := num_dec ha
  have hl := word_letter (dec_word t.amt)
  unfold body worth
  repeat' split
  · show termP (dec t.amt :: [42] :: [78] :: r) = _
    rw [termP_num hl hn]
    show some (mul3 (1, 0, 0) t.amt, r) = _
    simp [mul3]
  · show termP (dec t.amt :: [42] :: [87] :: r) = _
    rw [termP_num hl hn]
    show some (mul3 (0, 1, 0) t.amt, r) = _
    simp [mul3]
  · rfl
  · rfl
  · show termP (dec t.amt :: r) = _
    rw [termP_num hl hn]
    cases r with
    | nil => rfl
    | cons q r => exact if_neg (hr q r rfl)
theorem ends_stop {r : List Tk} (h : Ends r) : Stop r := fun q r2 e hq => by
  rw [h q r2 e] at hq
  cases hq
theorem sum_tail {r : List Tk} (hr : Ends r) : ∀ (ts : List Tm) (t : Tm) (n : Nat) (acc : V3) (s : Int), (∀ x ∈ t :: ts, x.amt < 10000) → ts.length < n → sumL n acc s (body t ++ (tailT ts ++ r)) = some (total (add3 acc s (worth t)) ts, r)
  | [], t, 0, _, _, _, h => by simp at h
  | [], t, n + 1, acc, s, ha, _ => by
    have h := term_body (ha t (by simp)) (ends_stop hr)
    show sumL (n + 1) acc s (body t ++ r) = some (add3 acc s (worth t), r)
    cases r with
    | nil => exact sumL_end h
    | cons q r =>
      have := hr q r rfl
      subst this
      rw [sumL_on h, if_neg (by decide), if_neg (by decide)]
  | u :: ts, t, 0, _, _, _, h => by simp at h
  | u :: ts, t, n + 1, acc, s, ha, h => by
    have ih := fun (sg' : Int) => sum_tail hr ts u n (add3 acc s (worth t)) sg' (fun x hx => ha x (List.mem_cons_of_mem _ hx)) (by simpa using h)
    have e : tailT (u :: ts) ++ r = (if u.neg then [45] else [43]) :: (body u ++ (tailT ts ++ r)) := by
      rw [← List.append_assoc]; rfl
    rw [e]
    show _ = some (total (add3 (add3 acc s (worth t)) (sg u.neg) (worth u)) ts, r)
    have h2 := term_body (r := (if u.neg then [45] else [43]) :: (body u ++ (tailT ts ++ r))) (ha t (by simp)) (by
      intro q r2 e hq
      subst hq
      cases hu : u.neg <;> rw [hu] at e <;> cases e)
    rw [sumL_on h2]
    cases hu : u.neg
    · exact (if_pos rfl).trans (ih 1)
    · exact (if_neg (by decide)).trans ((if_pos rfl).trans (ih (-1)))
theorem body_ne (t : Tm) : ∃ q r, body t = q :: r ∧ q ≠ [45] ∧ q ≠ [40] ∧ q ≠ [41] := by
  have h : ∀ x : Nat, word [x] = false → dec t.amt ≠ [x] := fun x hx e => by
    have := dec_word t.amt
    rw [e, hx] at this
    cases this
  unfold body
  repeat' split
  all_goals first | exact ⟨_, _, rfl, h 45 (by decide), h 40 (by decide), h 41 (by decide)⟩ | exact ⟨_, _, rfl, by decide, by decide, by decide⟩
theorem sum_head {r : List Tk} (hr : Ends r) (t : Tm) (ts : List Tm) (n : Nat) (ha : ∀ x ∈ t :: ts, x.amt < 10000) (hn : ts.length < n) : sumP n (headT (t :: ts) ++ r) = some (total (0, 0, 0) (t :: ts), r) := by
  have h := fun s => sum_tail hr ts t n (0, 0, 0) s ha hn
  show sumP n ((if t.neg then [[45]] else []) ++ (body t ++ tailT ts) ++ r) = _
  cases ht : t.neg
  · obtain ⟨q, r', e, hq, _⟩ := body_ne t
    show sumP n ((body t ++ tailT ts) ++ r) = some (total (add3 (0, 0, 0) (sg t.neg) (worth t)) ts, r)
    rw [List.append_assoc, ht]
    have h1 := h 1
    rw [e] at h1 ⊢
    exact (if_neg hq).trans h1
  · show sumP n ([45] :: ((body t ++ tailT ts) ++ r)) = some (total (add3 (0, 0, 0) (sg t.neg) (worth t)) ts, r)
    rw [List.append_assoc, ht]
    exact (show sumP n ([45] :: (body t ++ (tailT ts ++ r))) = sumL n (0, 0, 0) (-1) (body t ++ (tailT ts ++ r)) from by simp [sumP]).trans (h (-1))
theorem opn_rep {r : List Tk} (h : ∀ q r2, r = q :: r2 → q ≠ [40]) : ∀ d : Nat, opn (List.replicate d [40] ++ r) = d
  | 0 => by
    cases r with
    | nil => rfl
    | cons q r =>
      exact if_neg (h q r rfl)
  | d + 1 => by
    rw [List.replicate_succ, List.cons_append]
    refine (if_pos rfl).trans ?_
    rw [opn_rep h d]
theorem len_tail : ∀ ts : List Tm, ts.length ≤ (tailT ts).length
  | [] => Nat.le_refl _
  | t :: ts => by
    have := len_tail ts
    show ts.length + 1 ≤ (_ :: (body t ++ tailT ts)).length
    simp; omega
theorem head_first (t : Tm) (ts : List Tm) (r : List Tk) : ∀ q r2, headT (t :: ts) ++ r = q :: r2 → q ≠ [40] ∧ q ≠ [41] := by
  intro q r2 e
  change (if t.neg then [[45]] else []) ++ (body t ++ tailT ts) ++ r = _ at e
  cases ht : t.neg <;> rw [ht] at e
  · obtain ⟨q', r', e', _, hq, hq2⟩ := body_ne t
    rw [e'] at e
    cases e
    exact ⟨hq, hq2⟩
  · cases e
    exact ⟨by decide, by decide⟩
theorem read_good (d : Nat) (t : Tm) (ts : List Tm) (ha : ∀ x ∈ t :: ts, x.amt < 10000) (hn : ts.length < 100000) : readT (List.replicate d [40] ++ (headT (t :: ts) ++ List.replicate d [41])) = some (total (0, 0, 0) (t :: ts)) := by
  have e1 : opn (List.replicate d [40] ++ (headT (t :: ts) ++ List.replicate d [41])) = d := opn_rep (fun q r2 e => (head_first t ts _ q r2 e).1) d
  unfold readT
  rw [e1, List.drop_left' (by simp)]
  rw [sum_head (r := List.replicate d [41]) ?_ t ts _ ha ?_]
  · exact if_pos rfl
  · intro q r2 e
    cases d with
    | zero => cases e
    | succ d => rw [List.replicate_succ] at e; cases e; rfl
  · exact hn
end P12

/-! Texts of lengths, in plain terms: what a text that is read never holds. -/
namespace P12
open PySem L2
/-- 0: ( ; 1: ) ; 2: + ; 3: - ; 4: * ; 5: a letter ; 6: a number ; 7: other -/
def cls (p : Tk) : Nat := if p = [40] then 0 else if p = [41] then 1 else if p = [43] then 2 else if p = [45] then 3 else if p = [42] then 4 else if (letter p).isSome then 5 else if (num p).isSome then 6 else 7
def al (a b : Nat) : Bool := match a, b with
  | 0, 0 => true | 0, 3 => true | 0, 5 => true | 0, 6 => true
  | 2, 5 => true | 2, 6 => true | 3, 5 => true | 3, 6 => true
  | 6, 4 => true | 6, 2 => true | 6, 3 => true | 6, 1 => true
  | 4, 5 => true
  | 5, 2 => true | 5, 3 => true | 5, 1 => true
  | 1, 1 => true
  | _, _ => false
def prs : List Tk → Bool
  | a :: b :: r => al (cls a) (cls b) && prs (b :: r)
  | _ => true
theorem prs_app (z : Tk) (m : List Tk) : ∀ l : List Tk, prs (l ++ [z]) = true → prs (z :: m) = true → prs (l ++ z :: m) = true
  | [], _, h => h
  | [a], h1, h2 => by
    show (al (cls a) (cls z) && prs (z :: m)) = true
    have : (al (cls a) (cls z) && prs [z]) = true := h1
    rw [h2, Bool.and_true]
    exact (Bool.and_eq_true_iff.mp this).1
  | a :: b :: l, h1, h2 => by
    have : (al (cls a) (cls b) && prs (b :: l ++ [z])) = true := h1
    obtain ⟨h3, h4⟩ := Bool.and_eq_true_iff.mp this
    show (al (cls a) (cls b) && prs (b :: l ++ z :: m)) = true
    rw [h3, prs_app z m (b :: l) h4 h2]
    rfl
theorem prs_right : ∀ (l m : List Tk), prs (l ++ m) = true → prs m = true
  | [], _, h => h
  | [a], m, h => by
    cases m with
    | nil => rfl
    | cons b m => exact (Bool.and_eq_true_iff.mp h).2
  | a :: b :: l, m, h => prs_right (b :: l) m (Bool.and_eq_true_iff.mp h).2
/-- two that may not stand beside one another -/
theorem prs_bad {x y : Tk} (h : al (cls x) (cls y) = false) (l m : List Tk) : prs (l ++ x :: y :: m) = false := by
  cases hp : prs (l ++ x :: y :: m)
  · rfl
  · have := prs_right l _ hp
    have := (Bool.and_eq_true_iff.mp (show (al (cls x) (cls y) && prs (y :: m)) = true from this)).1
    rw [h] at this
    cases this
theorem cls_letter {p : Tk} {v : V3} (h : letter p = some v) : cls p = 5 := by
  unfold letter at h
  split at h
  · rename_i e; subst e; rfl
  · split at h
    · rename_i e; subst e; rfl
    · cases h
theorem num_word {p : Tk} {a : Int} (h : num p = some a) : word p = true := by
  unfold num at h
  split at h
  · rename_i h1
    obtain ⟨h1, h2⟩ := h1
    unfold word
    have h3 : p.all isW = true := List.all_eq_true.mpr fun c hc => dig_w (List.all_eq_true.mp h2 c hc)
    rw [h3]
    cases p with
    | nil => simp at h1
    | cons c p => rfl
  · cases h
theorem cls_num {p : Tk} {a : Int} (h : num p = some a) : cls p = 6 := by
  have hw := num_word h
  have hl := word_letter hw
  unfold cls
  rw [if_neg (by rintro rfl; exact absurd hw (by decide)), if_neg (by rintro rfl; exact absurd hw (by decide)), if_neg (by rintro rfl; exact absurd hw (by decide)), if_neg (by rintro rfl; exact absurd hw (by decide)), if_neg (by rintro rfl; exact absurd hw (by decide)), hl, h]
  rfl
def par (p : Tk) : Bool := p == [40] || p == [41]
def Opener (a : Tk) : Prop := cls a = 0 ∨ cls a = 2 ∨ cls a = 3
def Closer (z : Tk) : Prop := cls z = 1 ∨ cls z = 2 ∨ cls z = 3
theorem par_cls {p : Tk} (h : 1 < cls p) : par p = false := by
  unfold par
  rw [Bool.or_eq_false_iff]
  constructor
  · refine beq_eq_false_iff_ne.mpr ?_
    rintro rfl
    exact absurd h (by decide)
  · refine beq_eq_false_iff_ne.mpr ?_
    rintro rfl
    exact absurd h (by decide)
/-- what a term or a sum takes: c -/
structure Took (c : List Tk) (a z : Tk) : Prop where
  np : c.all (fun p => !par p) = true
  ok : prs (a :: (c ++ [z])) = true
theorem term_took {s r : List Tk} {t : V3} (h : termP s = some (t, r)) : ∃ c, s = c ++ r ∧ c ≠ [] ∧ ∀ a z, Opener a → Closer z → Took c a z := by
  cases s with
  | nil => cases h
  | cons p s =>
    unfold termP at h
    dsimp only at h
    cases hl : letter p with
    | some v =>
      rw [hl] at h
      cases h
      have h5 := cls_letter hl
      refine ⟨[p], rfl, by simp, fun a z ha hz => ⟨?_, ?_⟩⟩
      · simp [par_cls (p := p) (by omega)]
      · show (al (cls a) (cls p) && (al (cls p) (cls z) && true)) = true
        rw [h5]
        rcases ha with e | e | e <;> rcases hz with e2 | e2 | e2 <;> rw [e, e2] <;> rfl
    | none =>
      rw [hl] at h
      dsimp only at h
      cases hn : num p with
      | none => rw [hn] at h; cases h
      | some v =>
        have h6 := cls_num hn
        rw [hn] at h
        dsimp only at h
        have key : ∀ a z, Opener a → Closer z → Took [p] a z := fun a z ha hz => by
          refine ⟨by simp [par_cls (p := p) (by omega)], ?_⟩
          show (al (cls a) (cls p) && (al (cls p) (cls z) && true)) = true
          rw [h6]
          rcases ha with e | e | e <;> rcases hz with e2 | e2 | e2 <;> rw [e, e2] <;> rfl
        cases s with
        | nil => cases h; exact ⟨[p], rfl, by simp, key⟩
        | cons q s =>
          dsimp only at h
          split at h
          · rename_i hq
            cases s with
            | nil => cases h
            | cons l s =>
              dsimp only at h
              cases hl2 : letter l with
              | none => rw [hl2] at h; cases h
              | some v =>
                rw [hl2] at h
                cases h
                have h5 := cls_letter hl2
                subst hq
                refine ⟨[p, [42], l], rfl, by simp, fun a z ha hz => ⟨?_, ?_⟩⟩
                · simp [par_cls (p := p) (by omega), par_cls (p := l) (by omega)]; decide
                · show (al (cls a) (cls p) && (al (cls p) 4 && (al 4 (cls l) && (al (cls l) (cls z) && true)))) = true
                  rw [h6, h5]
                  rcases ha with e | e | e <;> rcases hz with e2 | e2 | e2 <;> rw [e, e2] <;> rfl
          · cases h
            exact ⟨[p], rfl, by simp, key⟩
theorem sum_took : ∀ (n : Nat) (acc : V3) (s : Int) (suf : List Tk) (v : V3) (r : List Tk), sumL n acc s suf = some (v, r) → ∃ c, suf = c ++ r ∧ c ≠ [] ∧ ∀ a z, Opener a → Closer z → Took c a z
  | 0, _, _, _, _, _, h => by cases h
  | n + 1, acc, s, suf, v, r, h => by
    unfold sumL at h
    cases ht : termP suf with
    | none => rw [ht] at h; cases h
    | some q =>
      obtain ⟨t, r1⟩ := q
      obtain ⟨c, rfl, hc, hk⟩ := term_took ht
      rw [ht] at h
      dsimp only at h
      have go : ∀ (q : Tk) (r2 : List Tk) (acc' : V3) (s' : Int), r1 = q :: r2 → cls q = 2 ∨ cls q = 3 → sumL n acc' s' r2 = some (v, r) → ∃ c', c ++ r1 = c' ++ r ∧ c' ≠ [] ∧ ∀ a z, Opener a → Closer z → Took c' a z := fun q r2 acc' s' e hq h' => by
        obtain ⟨c2, rfl, _, h2⟩ := sum_took n acc' s' r2 v r h'
        subst e
        refine ⟨c ++ q :: c2, by simp, by simp, fun a z ha hz => ⟨?_, ?_⟩⟩
        · have h3 := (hk a z ha hz).np
          have h4 := (h2 q z (.inr hq) hz).np
          rw [List.all_append, List.all_cons, h3, h4, par_cls (by omega)]
          rfl
        · have h3 := (hk a q ha (by rcases hq with e | e; exact .inr (.inl e); exact .inr (.inr e))).ok
          have h4 := (h2 q z (.inr hq) hz).ok
          have := prs_app q (c2 ++ [z]) (a :: c) h3 h4
          simpa using this
      cases r1 with
      | nil => cases h; exact ⟨c, rfl, hc, hk⟩
      | cons q r2 =>
        dsimp only at h
        split at h
        · rename_i hq
          exact go q r2 _ _ rfl (.inl (by rw [hq]; rfl)) h
        · split at h
          · rename_i hq
            exact go q r2 _ _ rfl (.inr (by rw [hq]; rfl)) h
          · cases h
            exact ⟨c, rfl, hc, hk⟩
theorem sumP_took {n : Nat} {s r : List Tk} {v : V3} (h : sumP n s = some (v, r)) : ∃ c, s = c ++ r ∧ Took c [40] [41] := by
  have c0 : Opener [40] := .inl rfl
  have c1 : Closer [41] := .inl rfl
  cases s with
  | nil =>
    obtain ⟨c, e, _, hk⟩ := sum_took _ _ _ _ _ _ h
    exact ⟨c, e, hk _ _ c0 c1⟩
  | cons p s =>
    change (if p = [45] then sumL n (0, 0, 0) (-1) s else sumL n (0, 0, 0) 1 (p :: s)) = _ at h
    split at h
    · rename_i hp
      subst hp
      obtain ⟨c, rfl, _, hk⟩ := sum_took _ _ _ _ _ _ h
      have h1 := hk [45] [41] (.inr (.inr rfl)) c1
      refine ⟨[45] :: c, rfl, ?_, ?_⟩
      · rw [List.all_cons, h1.np]; rfl
      · show (al 0 3 && prs ([45] :: (c ++ [[41]]))) = true
        rw [h1.ok]; rfl
    · obtain ⟨c, e, _, hk⟩ := sum_took _ _ _ _ _ _ h
      exact ⟨c, e, hk _ _ c0 c1⟩
def cnt (x : Tk) (l : List Tk) : Nat := l.countP (· == x)
theorem cnt_app (x : Tk) (l m : List Tk) : cnt x (l ++ m) = cnt x l + cnt x m := List.countP_append
theorem cnt_np {c : List Tk} (h : c.all (fun p => !par p) = true) : cnt [40] c = 0 ∧ cnt [41] c = 0 := by
  have h := List.all_eq_true.mp h
  refine ⟨List.countP_eq_zero.mpr fun p hp => ?_, List.countP_eq_zero.mpr fun p hp => ?_⟩
  all_goals
    have := h p hp
    unfold par at this
    simp at this
    simp [this]
theorem cnt_rep (d : Nat) : cnt [40] (List.replicate d [40]) = d ∧ cnt [41] (List.replicate d [40]) = 0 ∧ cnt [40] (List.replicate d [41]) = 0 ∧ cnt [41] (List.replicate d [41]) = d := by
  unfold cnt
  refine ⟨?_, ?_, ?_, ?_⟩ <;> rw [List.countP_replicate] <;> rfl
theorem opn_split : ∀ l : List Tk, l = List.replicate (opn l) [40] ++ l.drop (opn l)
  | [] => rfl
  | p :: r => by
    unfold opn
    split
    · rename_i h
      subst h
      rw [List.replicate_succ, List.cons_append, List.drop_succ_cons, ← opn_split r]
    · rfl
theorem prs_wrap {c : List Tk} (h : prs ([40] :: (c ++ [[41]])) = true) : ∀ d : Nat, prs ([40] :: ((List.replicate d [40] ++ (c ++ List.replicate d [41])) ++ [[41]])) = true
  | 0 => by simpa using h
  | d + 1 => by
    have ih := prs_wrap h d
    have h1 : prs ([40] :: [40] :: ((List.replicate d [40] ++ (c ++ List.replicate d [41])) ++ [[41]])) = true := by
      show (al 0 0 && prs ([40] :: ((List.replicate d [40] ++ (c ++ List.replicate d [41])) ++ [[41]]))) = true
      rw [ih]; rfl
    have h2 := prs_app [41] [[41]] ([40] :: [40] :: (List.replicate d [40] ++ (c ++ List.replicate d [41]))) (by simpa using h1) rfl
    have e : List.replicate (d + 1) ([41] : Tk) = List.replicate d [41] ++ [[41]] := List.replicate_succ'
    rw [e, List.replicate_succ]
    simpa using h2
/-- what is read has all its neighbours right, and as many ( as ) -/
theorem read_right {l : List Tk} {v : V3} (h : readT l = some v) : prs ([40] :: (l ++ [[41]])) = true ∧ cnt [40] l = cnt [41] l := by
  unfold readT at h
  have e := opn_split l
  generalize opn l = d at h e
  cases hs : sumP 100000 (l.drop d) with
  | none => rw [hs] at h; cases h
  | some q =>
    obtain ⟨v', r⟩ := q
    obtain ⟨c, e2, hk⟩ := sumP_took hs
    rw [hs] at h
    dsimp only at h
    split at h
    · rename_i hr
      subst hr
      rw [e2] at e
      rw [e]
      refine ⟨prs_wrap hk.ok d, ?_⟩
      obtain ⟨c1, c2⟩ := cnt_np hk.np
      obtain ⟨r1, r2, r3, r4⟩ := cnt_rep d
      rw [cnt_app, cnt_app, cnt_app, cnt_app, c1, c2, r1, r2, r3, r4]
      omega
    · cases h
theorem not_read_pair {x y : Tk} {l m : List Tk} (h : al (cls x) (cls y) = false) (k : List Tk) (e : [40] :: (k ++ [[41]]) = l ++ x :: y :: m) : readT k = none := by
  cases hr : readT k with
  | none => rfl
  | some v =>
    have := (read_right hr).1
    rw [e, prs_bad h] at this
    cases this
theorem not_read_cnt {k : List Tk} (h : cnt [40] k ≠ cnt [41] k) : readT k = none := by
  cases hr : readT k with
  | none => rfl
  | some v => exact absurd (read_right hr).2 h
end P12

/-! DL, part w: bits of natural numbers. -/
namespace DL
/-- a number by its bits, the lowest first -/
def bsum : List Bool → Nat
  | [] => 0
  | b :: l => 2 * bsum l + (if b then 1 else 0)
theorem bsum_bit : ∀ (l : List Bool) (i : Nat), (bsum l).testBit i = l.getD i false
  | [], i => by simp [bsum]
  | b :: l, 0 => by
    cases b <;> simp [bsum, Nat.testBit_zero] <;> omega
  | b :: l, i + 1 => by
    have e : bsum (b :: l) / 2 = bsum l := by
      show (2 * bsum l + (if b then 1 else 0)) / 2 = bsum l
      split <;> omega
    rw [Nat.testBit_succ, e, bsum_bit l i]
    simp
theorem bsum_lt : ∀ l : List Bool, bsum l < 2 ^ l.length
  | [] => by simp [bsum]
  | b :: l => by
    have := bsum_lt l
    rw [List.length_cons, Nat.pow_succ]
    show 2 * bsum l + (if b then 1 else 0) < _
    split <;> omega
/-- a pattern, many times -/
def rep (p w : Nat) : Nat → Nat
  | 0 => 0
  | m + 1 => 2 ^ (w * m) * p + rep p w m
theorem rep_lt {p w : Nat} (hp : p < 2 ^ w) : ∀ m, rep p w m < 2 ^ (w * m)
  | 0 => by simp [rep]
  | m + 1 => by
    have ih := rep_lt hp m
    unfold rep
    rw [Nat.mul_add, Nat.mul_one, Nat.pow_add]
    have h1 : 2 ^ (w * m) * (p + 1) ≤ 2 ^ (w * m) * 2 ^ w := Nat.mul_le_mul_left _ hp
    rw [Nat.mul_add, Nat.mul_one] at h1
    omega
theorem rep_bit {p w : Nat} (hw : 0 < w) (hp : p < 2 ^ w) : ∀ (m i : Nat), (rep p w m).testBit i = (decide (i < w * m) && p.testBit (i % w))
  | 0, i => by simp [rep]
  | m + 1, i => by
    unfold rep
    rw [Nat.testBit_two_pow_mul_add _ (rep_lt hp m)]
    have e : w * (m + 1) = w * m + w := by rw [Nat.mul_add, Nat.mul_one]
    by_cases h : i < w * m
    · rw [if_pos h, rep_bit hw hp m i]
      simp [h, e]
      intro _
      omega
    · rw [if_neg h]
      by_cases h2 : i < w * (m + 1)
      · have e2 : i % w = i - w * m := by
          have e3 : i = (i - w * m) + w * m := by omega
          rw [e3, Nat.add_mul_mod_self_left, Nat.mod_eq_of_lt (by omega)]
          omega
        simp [h2, e2]
      · simp only [h2, decide_false, Bool.false_and]
        exact Nat.testBit_lt_two_pow (Nat.lt_of_lt_of_le hp (Nat.pow_le_pow_right (by decide) (by omega)))
theorem rep_mul (p w : Nat) : ∀ m, rep p w m = p * rep 1 w m
  | 0 => by simp [rep]
  | m + 1 => by
    unfold rep
    rw [rep_mul p w m, Nat.mul_add, Nat.mul_one, Nat.mul_comm]
theorem rep_one {w : Nat} : ∀ m, rep 1 w m * (2 ^ w - 1) + 1 = 2 ^ (w * m)
  | 0 => by simp [rep]
  | m + 1 => by
    have ih := rep_one (w := w) m
    have hp : 1 ≤ 2 ^ w := Nat.one_le_two_pow
    unfold rep
    rw [Nat.mul_one, Nat.add_mul, Nat.mul_add w m 1, Nat.mul_one, Nat.pow_add, Nat.add_assoc, ih, Nat.mul_sub, Nat.mul_one]
    have : 2 ^ (w * m) * 1 ≤ 2 ^ (w * m) * 2 ^ w := Nat.mul_le_mul_left _ hp
    omega
/-- pattern * ((2^(w m) - 1) / (2^w - 1)) -/
theorem rep_div {w m : Nat} (hw : 0 < w) : (2 ^ (w * m) - 1) / (2 ^ w - 1) = rep 1 w m := by
  have h := rep_one (w := w) m
  have h2 : 2 ≤ 2 ^ w := by
    calc 2 = 2 ^ 1 := rfl
      _ ≤ 2 ^ w := Nat.pow_le_pow_right (by decide) hw
  rw [← h, Nat.add_sub_cancel]
  exact Nat.mul_div_cancel _ (by omega)
end DL

/-! DL, part x: rows with hypotheses (no `if` on a number that is not known: such a check would count in unary). -/
namespace DL
open PySem L2 Evl
theorem fiR1_ok {fr : FA} {e e' : DEnv} {ts : List T} {n : Int} (h : fr e = .ok (ts, e')) (l : lookTs ts e' = some [.int n]) (o : ok62 n = true) : fiR1 fr e = .ok (irange 0 n.toNat, e') := by
  unfold fiR1
  rw [h]
  show Res.of ((lookTs ts e').bind _) = _
  rw [l]
  show Res.of (if ok62 n = true then _ else _) = _
  rw [if_pos o]
  rfl
theorem fOp2_ok {op : D → D → Option RV} {fa fb : FE} {e e1 e2 : DEnv} {t u : T} {a b : D} {rv : RV} (h : fa e = .ok (t, e1)) (h2 : fb e1 = .ok (u, e2)) (l : lookT t.seal e2 = some a) (l2 : lookT u e2 = some b) (o : op a b = some rv) : fOp2 op fa fb e = .ok (rv.tok, e2) := by
  unfold fOp2
  rw [h]
  show ((fb e1).bind _) = _
  rw [h2]
  show Res.of ((lookT t.seal e2).bind _) = _
  rw [l]
  show Res.of ((lookT u e2).bind _) = _
  rw [l2]
  show Res.of ((op a b).bind _) = _
  rw [o]
  rfl
theorem fSet_ok {i : Nat} {f : FE} {e e1 e2 : DEnv} {t : T} (h : f e = .ok (t, e1)) (s : storeT i t e1 = some e2) : fSet i f e = .ok (.nx e2) := by
  unfold fSet
  rw [h]
  show Res.of ((storeT i t e1).map Out.nx) = _
  rw [s]
  rfl
theorem ok62_n {w : Nat} (h : w ≤ 1000000) : ok62 (w : Int) = true := by
  unfold ok62
  rw [decide_eq_true (by omega), decide_eq_true (by omega)]
  rfl
theorem fFor_ok {fi : FI} {fg : D → DEnv → Option DEnv} {fb : FS} {e e1 : DEnv} {ds : List D} {r : Res Out} (h : fi e = .ok (ds, e1)) (l : loopF fg fb ds e1 = r) : fFor fi fg fb e = r := by
  unfold fFor
  rw [h]
  exact l
end DL

/-! DL, part xa: comprehensions with a test, ifs, while loops, stores: rows for hand-written meanings. -/
namespace DL
open PySem L2 Evl
theorem loopC_flt {fg : D → DEnv → Option DEnv} {ft : FT} {fe : FE} {vs : List Nat} {e : DEnv} (p : D → Bool) (f : D → D) (no : noOw e = true) : ∀ (ds acc : List D),
    (∀ d ∈ ds, ∃ e1, fg d e = some e1 ∧ (p d = true → ∃ e2 t e3 e4, ft e1 = .ok (true, e2) ∧ fe e2 = .ok (t, e3) ∧ escape t e3 = some (f d, e4) ∧ noOw e4 = true ∧ wipeE e4 vs = e) ∧ (p d = false → ∃ e2, ft e1 = .ok (false, e2) ∧ noOw e2 = true ∧ wipeE e2 vs = e)) →
    acc.length + ds.length ≤ lim → loopC fg ft fe vs ds acc e = some (acc ++ (ds.filter p).map f, e)
  | [], acc, _, _ => by simp
  | d :: ds, acc, h, hl => by
    obtain ⟨e1, h1, ht, hf⟩ := h d List.mem_cons_self
    have hl' : acc.length < lim := by rw [List.length_cons] at hl; omega
    rw [ev_loopC1, if_pos no, h1]
    cases hp : p d with
    | true =>
      obtain ⟨e2, t, e3, e4, h2, h3, h4, h5, h6⟩ := ht hp
      have ih := loopC_flt (fg := fg) (ft := ft) (fe := fe) (vs := vs) p f no ds (acc ++ [f d]) (fun d hd => h d (List.mem_cons_of_mem _ hd)) (by rw [List.length_append, List.length_singleton]; rw [List.length_cons] at hl; omega)
      rw [Option.bind_some, h2]
      dsimp only
      rw [h3]
      dsimp only
      rw [h4, Option.bind_some]
      dsimp only
      rw [h5, decide_eq_true hl', h6, Bool.and_self, if_pos rfl, ih, List.filter_cons, hp]
      simp
    | false =>
      obtain ⟨e2, h2, h5, h6⟩ := hf hp
      have ih := loopC_flt (fg := fg) (ft := ft) (fe := fe) (vs := vs) p f no ds acc (fun d hd => h d (List.mem_cons_of_mem _ hd)) (by rw [List.length_cons] at hl; omega)
      rw [Option.bind_some, h2]
      dsimp only
      rw [h5, if_pos rfl, h6, ih, List.filter_cons, hp]
      simp
theorem back_lend : ∀ e : DEnv, backE e (lendE e) = e
  | [] => rfl
  | none :: e => by
    show backB none none :: backE e (lendE e) = _
    rw [back_lend e]; rfl
  | some b :: e => by cases b <;> exact congrArg (_ :: ·) (back_lend e)
theorem noOw_lend (e : DEnv) : noOw (lendE e) = true := by
  unfold noOw lendE
  rw [List.all_map, List.all_eq_true]
  intro x _
  cases x with
  | none => rfl
  | some b => cases b <;> rfl
theorem flc {fi : FI} {ft : FT} {fe : FE} {v : Nat} {e e' : DEnv} {items : List D} (p : D → Bool) (f : D → D) (hfi : fi e = .ok (items, e')) (hv : e'[v]? = some none)
    (h : ∀ d ∈ items, (p d = true → ∃ e2 t e3 e4, ft ((lendE e').set v (some (.sh d))) = .ok (true, e2) ∧ fe e2 = .ok (t, e3) ∧ escape t e3 = some (f d, e4) ∧ noOw e4 = true ∧ e4.set v none = lendE e') ∧
      (p d = false → ∃ e2, ft ((lendE e').set v (some (.sh d))) = .ok (false, e2) ∧ noOw e2 = true ∧ e2.set v none = lendE e'))
    (hl : items.length ≤ lim) : fLc fi (fgName v) ft fe [v] e = .ok (.nw (.lst ((items.filter p).map f)), e') := by
  have hlt : v < e'.length := (List.getElem?_eq_some_iff.mp hv).1
  have hlt2 : v < (lendE e').length := by unfold lendE; rw [List.length_map]; exact hlt
  have hn : (lendE e')[v]? = some none := by
    unfold lendE
    rw [List.getElem?_map, hv]; rfl
  have hw : wipeE (lendE e') [v] = lendE e' := by
    show (lendE e').set v none = lendE e'
    apply List.ext_getElem?
    intro i
    by_cases hi : v = i
    · subst hi; rw [List.getElem?_set_self hlt2, hn]
    · rw [List.getElem?_set_ne hi]
  have hc : clearAt e' [v] = true := by
    rw [ev_clearAt]
    simp [hv]
  have hloop := loopC_flt (fg := fgName v) (ft := ft) (fe := fe) (vs := [v]) (e := lendE e') p f (noOw_lend e') items [] (fun d hd => by
    obtain ⟨h1, h2⟩ := h d hd
    refine ⟨(lendE e').set v (some (.sh d)), ?_, h1, h2⟩
    unfold fgName
    rw [if_pos hlt2]) (by simpa using hl)
  rw [List.nil_append] at hloop
  unfold fLc
  rw [hfi]
  show Res.of (if clearAt e' [v] = true then (loopC _ ft fe [v] items [] (wipeE (lendE e') [v])).map _ else none) = _
  rw [if_pos hc, hw, hloop]
  show Res.of (some (T.nw _, backE e' (lendE e'))) = _
  rw [back_lend]
  rfl
theorem set_back {e : DEnv} {v : Nat} {x : Option B} (hv : e[v]? = some none) : ((lendE e).set v x).set v none = lendE e := by
  have hlt2 : v < (lendE e).length := by unfold lendE; rw [List.length_map]; exact (List.getElem?_eq_some_iff.mp hv).1
  have hn : (lendE e)[v]? = some none := by
    unfold lendE
    rw [List.getElem?_map, hv]; rfl
  rw [List.set_set]
  apply List.ext_getElem?
  intro i
  by_cases hi : v = i
  · subst hi; rw [List.getElem?_set_self hlt2, hn]
  · rw [List.getElem?_set_ne hi]
theorem noOw_set {e : DEnv} {v : Nat} {d : D} : noOw ((lendE e).set v (some (.sh d))) = true := by
  unfold noOw
  rw [List.all_eq_true]
  intro x hx
  rcases List.mem_or_eq_of_mem_set hx with hx | hx
  · have := noOw_lend e
    unfold noOw at this
    exact List.all_eq_true.mp this x hx
  · subst hx; rfl
/-- a comprehension of one name whose test and item change nothing -/
theorem flc2 {fi : FI} {ft : FT} {fe : FE} {v : Nat} {e e' : DEnv} {items : List D} (p : D → Bool) (f : D → D) (hfi : fi e = .ok (items, e')) (hv : e'[v]? = some none)
    (h : ∀ d ∈ items, ft ((lendE e').set v (some (.sh d))) = .ok (p d, (lendE e').set v (some (.sh d))) ∧ (p d = true → ∃ t, fe ((lendE e').set v (some (.sh d))) = .ok (t, (lendE e').set v (some (.sh d))) ∧ escape t ((lendE e').set v (some (.sh d))) = some (f d, (lendE e').set v (some (.sh d)))))
    (hl : items.length ≤ lim) : fLc fi (fgName v) ft fe [v] e = .ok (.nw (.lst ((items.filter p).map f)), e') :=
  flc p f hfi hv (fun d hd => by
    obtain ⟨h1, h2⟩ := h d hd
    refine ⟨fun hp => ?_, fun hp => ⟨_, by rw [h1, hp], noOw_set, set_back hv⟩⟩
    obtain ⟨t, h3, h4⟩ := h2 hp
    exact ⟨_, t, _, _, by rw [h1, hp], h3, h4, noOw_set, set_back hv⟩) hl
theorem ifS_t {f : FT} {a b : FS} {e e1 : DEnv} (h : f e = .ok (true, e1)) : fIfS f a b e = a e1 := by unfold fIfS; rw [h]; rfl
theorem ifS_f {f : FT} {a b : FS} {e e1 : DEnv} (h : f e = .ok (false, e1)) : fIfS f a b e = b e1 := by unfold fIfS; rw [h]; rfl
theorem fOr_f {f g : FT} {e e1 : DEnv} {r : Res (Bool × DEnv)} (h : f e = .ok (false, e1)) (k : g e1 = r) : fOr f g e = r := by
  unfold fOr
  rw [h]
  exact k
theorem fB_ok {f : FE} {e e1 : DEnv} {t : T} {b : Bool} (h : f e = .ok (t, e1)) (l : lookT t e1 = some (.bl b)) : fB f e = .ok (b, e1) := by
  unfold fB
  rw [h]
  show (match lookT t e1 with | some (.bl b) => _ | _ => _) = _
  rw [l]
theorem ixN_nat {n k : Nat} (h : k < n) : L2.ixN n (k : Int) = some k := by
  rw [ev_ixN, if_pos (by omega), if_pos (by omega), Int.toNat_natCast]
theorem fSetIx_ok {j : Nat} {fi fv : FE} {e e1 e2 e3 : DEnv} {t u : T} {d : D} {ds0 ds : List D} {k : Int} {n : Nat} (hv : fv e = .ok (t, e1)) (he : escape t e1 = some (d, e2)) (hr : rootLst e2 j = some ds0) (hi : fi e2 = .ok (u, e3)) (hk : lookT u e3 = some (.int k)) (hr3 : rootLst e3 j = some ds) (hn : L2.ixN ds.length k = some n) :
    fSetIx j fi fv e = .ok (.nx (putLst e3 j (ds.set n d))) := by
  unfold fSetIx
  rw [hv]
  show ((Res.of ((escape t e1).bind fun q => (rootLst q.2 j).map fun _ => q)).bind _) = _
  rw [he]
  show ((Res.of ((rootLst e2 j).map fun _ => (d, e2))).bind _) = _
  rw [hr]
  show ((fi e2).bind _) = _
  rw [hi]
  show Res.of ((lookT u e3).bind _) = _
  rw [hk]
  show Res.of ((rootLst e3 j).bind _) = _
  rw [hr3]
  show Res.of ((L2.ixN ds.length k).map _) = _
  rw [hn]
  rfl
theorem loopW_stop {fc : FT} {fb : FS} {n : Nat} {e e1 : DEnv} (h : fc e = .ok (false, e1)) : loopW fc fb (n + 1) e = .ok (.nx e1) := by
  unfold loopW
  rw [h]
  rfl
theorem loopW_nx {fc : FT} {fb : FS} {n : Nat} {e e1 e2 : DEnv} {r : Res Out} (h : fc e = .ok (true, e1)) (h2 : fb e1 = .ok (.nx e2)) (h3 : loopW fc fb n e2 = r) : loopW fc fb (n + 1) e = r := by
  unfold loopW
  rw [h]
  show (fb e1).bind _ = r
  rw [h2]
  exact h3
theorem loopW_rt {fc : FT} {fb : FS} {n : Nat} {e e1 e2 : DEnv} {t : T} (h : fc e = .ok (true, e1)) (h2 : fb e1 = .ok (.rt t e2)) : loopW fc fb (n + 1) e = .ok (.rt t e2) := by
  unfold loopW
  rw [h]
  show (fb e1).bind _ = _
  rw [h2]
  rfl
@[simp] theorem ev_fgLst (n : Nat) (fg : List D → DEnv → Option DEnv) (ds : List D) (e : DEnv) : fgLst n fg (.lst ds) e = if ds.length = n then fg ds e else none := rfl
@[simp ↓] theorem ev_fIsX (tbl : Nat → Option Bool) (i : Nat) (e : DEnv) : fIsX tbl i e = (match e[i]? with
  | some (some (.ex x)) => if x.ds.isEmpty then (match tbl x.k with
    | some b => .ok (.vl (.bl b), e)
    | none => .stuck) else .stuck
  | _ => .stuck) := rfl
end DL

/-! Texts as lists of code points; word_end. -/
namespace K12
open PySem DL SX
open P12
abbrev tS (p : Tk) : D := .str (S p)
theorem w_W : (Str.ofString "W") = S [87] := by decide +kernel
theorem w_N : (Str.ofString "N") = S [78] := by decide +kernel
theorem w_sp : (Str.ofString " ") = S [32] := by decide +kernel
theorem w_WN : (Str.ofString "WN") = S [87, 78] := by decide +kernel
theorem w_st : (Str.ofString "*") = S [42] := by decide +kernel
theorem w_pl : (Str.ofString "+") = S [43] := by decide +kernel
theorem w_mi : (Str.ofString "-") = S [45] := by decide +kernel
theorem w_op : (Str.ofString "(") = S [40] := by decide +kernel
theorem w_cl : (Str.ofString ")") = S [41] := by decide +kernel
theorem w_0 : (Str.ofString "0") = S [48] := by decide +kernel
theorem w_e : (Str.ofString "") = S [] := by decide +kernel
def Asc (p : Tk) : Prop := ∀ c ∈ p, c < 128
theorem dok {p : Tk} (h : Asc p) : dOk (tS p) = true := by
  refine dOk_go ?_
  show PyData.strOk (S p) = true
  unfold PyData.strOk
  simp
  intro c hc
  have := h c hc
  omega
theorem deqS (p q : Tk) : deq (tS p) (tS q) = decide (p = q) := by rw [deq_SS]; exact S_beq_eq
theorem eqS {p q : Tk} (h : Asc p) (h2 : Asc q) : opEq (tS p) (tS q) = some (.fl (.bl (decide (p = q)))) := by
  rw [ev_opEq, dok h, dok h2, deqS]; rfl
theorem neS {p q : Tk} (h : Asc p) (h2 : Asc q) : opNe (tS p) (tS q) = some (.fl (.bl (!decide (p = q)))) := by
  rw [ev_opNe, dok h, dok h2, deqS]; rfl
theorem lenS {p : Tk} (h : p.length ≤ 900000) : opLen [tS p] = some (.fl (.int p.length)) := by
  show (if (S p).length ≤ lim then _ else none) = _
  rw [S_len, if_pos (by show p.length ≤ 1000000; omega)]
theorem atS {p : Tk} {k : Nat} {c : Nat} (h : p.length ≤ 900000) (hk : p[k]? = some c) : opIx (tS p) (.int k) = some (.fl (tS [c])) := by
  show (if (S p).length ≤ lim then _ else none) = _
  have hl := (List.getElem?_eq_some_iff.mp hk).1
  rw [S_len, if_pos (by show p.length ≤ 1000000; omega)]
  show (L2.atI p (k : Int)).map _ = _
  rw [ev_atI, ev_ixN, if_pos (by omega), if_pos (by omega)]
  show (p[(k : Int).toNat]?).map _ = _
  rw [Int.toNat_natCast, hk]
  rfl
theorem slS {p : Tk} {j k : Nat} (h : p.length ≤ 900000) : opSl (tS p) (some (j : Int)) (some (k : Int)) = some (.fl (tS ((p.drop j).take (k - j)))) := by
  show (if (S p).length ≤ lim then _ else none) = _
  rw [S_len, if_pos (by show p.length ≤ 1000000; omega)]
  unfold L2.cutS
  rw [S_len, ev_sIx1, ev_sIx1, if_neg (by omega), if_neg (by omega), Int.toNat_natCast, Int.toNat_natCast]
  show some (RV.fl (tS _)) = _
  congr 3
  show (p.drop (min j p.length)).take (min k p.length - min j p.length) = _
  by_cases hj : j ≤ p.length
  · rw [Nat.min_eq_left hj]
    by_cases hk : k ≤ p.length
    · rw [Nat.min_eq_left hk]
    · rw [Nat.min_eq_right (by omega), List.take_of_length_le (by simp), List.take_of_length_le (by simp; omega)]
  · rw [Nat.min_eq_right (a := j) (by omega), List.drop_eq_nil_of_le (Nat.le_refl _), List.drop_eq_nil_of_le (as := p) (by omega)]
    simp
theorem inOne (c : Nat) (a : Tk) : opInA (tS [c]) (tS a) = some (.fl (.bl (decide (c ∈ a)))) := by
  rw [ev_inSS]
  congr 3
  exact in_one a c
def alnum : Tk := [97,98,99,100,101,102,103,104,105,106,107,108,109,110,111,112,113,114,115,116,117,118,119,120,121,122,48,49,50,51,52,53,54,55,56,57]
theorem mem_alnum (c : Nat) : decide (c ∈ alnum) = isW c := by
  unfold isW
  rw [Bool.eq_iff_iff, decide_eq_true_iff]
  simp only [alnum, List.mem_cons, List.not_mem_nil, or_false, Bool.or_eq_true, Bool.and_eq_true, decide_eq_true_eq]
  omega
def digs : Tk := [48,49,50,51,52,53,54,55,56,57]
theorem mem_digs (c : Nat) : decide (c ∈ digs) = dig c := by
  unfold dig
  rw [Bool.eq_iff_iff, decide_eq_true_iff]
  simp only [digs, List.mem_cons, List.not_mem_nil, or_false, Bool.and_eq_true, decide_eq_true_eq]
  omega
theorem w_al : opAdd (.str "abcdefghijklmnopqrstuvwxyz") (.str "0123456789") = some (.fl (tS alnum)) := by kernel_rfl
theorem w_dg : (Str.ofString "0123456789") = S digs := by decide +kernel
/-! ### word_end -/
section
variable {s : Tk} (hs : s.length ≤ 900000)
abbrev we (T : D) (a k : Nat) : DEnv := [some (.sh T), some (.sh (.int a)), some (.sh (.int k))]
include hs
theorem we_test {a k c : Nat} (hc : s[k]? = some c) : t_lengths_word_end_1 (we (tS s) a k) = .ok (isW c, we (tS s) a k) := by
  have hl := (List.getElem?_eq_some_iff.mp hc).1
  have h1 := lenS hs
  have h2 := atS hs hc
  have h3 : ((k : Int) < (s.length : Int)) := by omega
  have h4 := inOne c alnum
  rw [mem_alnum] at h4
  generalize tS s = T at *
  simp [t_lengths_word_end_1, we, h1, h2, h3, h4, w_al, -ev_addS, -ev_inSS]
theorem we_end {a k : Nat} (hk : s.length ≤ k) : t_lengths_word_end_1 (we (tS s) a k) = .ok (false, we (tS s) a k) := by
  have h1 := lenS hs
  have h3 : ¬ ((k : Int) < (s.length : Int)) := by omega
  generalize tS s = T at *
  simp [t_lengths_word_end_1, we, h1, h3]
theorem we_step {a k : Nat} : b_lengths_word_end_0 (we (tS s) a k) = .ok (.nx (we (tS s) a (k + 1))) := by
  simp [b_lengths_word_end_0, we, opAddIS]
theorem we_loop {a : Nat} : ∀ (n k : Nat), s.length - k < n → loopW t_lengths_word_end_1 b_lengths_word_end_0 n (we (tS s) a k) = .ok (.nx (we (tS s) a (k + ((s.drop k).takeWhile isW).length)))
  | 0, _, h => by omega
  | n + 1, k, h => by
    by_cases hk : k < s.length
    · have hc : s[k]? = some s[k] := List.getElem?_eq_getElem hk
      have ht := we_test hs (a := a) hc
      rw [List.drop_eq_getElem_cons hk, List.takeWhile_cons]
      cases hw : isW s[k]
      · rw [hw] at ht
        exact loopW_stop ht
      · rw [hw] at ht
        refine loopW_nx ht (we_step hs) ?_
        rw [we_loop n (k + 1) (by omega), if_pos rfl, List.length_cons]
        rw [show k + 1 + ((s.drop (k + 1)).takeWhile isW).length = k + (((s.drop (k + 1)).takeWhile isW).length + 1) by omega]
    · rw [List.drop_eq_nil_of_le (by omega)]
      exact loopW_stop (we_end hs (by omega))
theorem word_end_ok (a : Nat) (hl : s.length ≤ 90000) : m_lengths_word_end [.sh (tS s), .sh (.int a)] = .ok (.int ((a + ((s.drop a).takeWhile isW).length : Nat) : Int), false, [.sh (tS s), .sh (.int a)]) := by
  have h := we_loop hs (a := a) 100000 a (by omega)
  have h0 : (fSet 2 (fVar 1)) (env0 3 [.sh (tS s), .sh (.int a)]) = .ok (.nx (we (tS s) a a)) := by simp [we]
  exact fn_rt (seq_nx h0 (seq_nx h rfl)) rfl
end
end K12

/-! parts_of. -/
namespace K12
open PySem DL SX
open P12
abbrev po (T : D) (fs : List D) (k : Nat) (x y : Option B) : DEnv := [some (.sh T), some (.ow (.lst fs)), some (.sh (.int k)), x, y]
theorem asc1 {c : Nat} (h : c < 128) : Asc [c] := fun d hd => by rw [List.mem_singleton.mp hd]; exact h
theorem sgs_ok : dOk (.tup [.str "<<", .str ">>", .str "&", .str "|", .str "^", .str "~", .str "(", .str ")", .str "=", .str "+", .str "-", .str "*", .str ","]) = true := by kernel_rfl
theorem sgs_eq : ([.str "<<", .str ">>", .str "&", .str "|", .str "^", .str "~", .str "(", .str ")", .str "=", .str "+", .str "-", .str "*", .str ","] : List D) = sgs.map tS := by
  kernel_rfl
theorem inSgs {p : Tk} (h : Asc p) : opInA (tS p) (.tup [.str "<<", .str ">>", .str "&", .str "|", .str "^", .str "~", .str "(", .str ")", .str "=", .str "+", .str "-", .str "*", .str ","]) = some (.fl (.bl (decide (p ∈ sgs)))) := by
  rw [opInA_tup, dok h, sgs_ok, sgs_eq]
  show some (RV.fl (D.bl ((sgs.map tS).any fun y => deq y (tS p)))) = _
  congr 3
  rw [List.any_map]
  have : ∀ l : List Tk, (l.any ((fun y => deq y (tS p)) ∘ tS)) = decide (p ∈ l) := fun l => by
    induction l with
    | nil => rfl
    | cons q l ih =>
      rw [List.any_cons, ih]
      show (deq (tS q) (tS p) || _) = _
      rw [deqS, Bool.eq_iff_iff]
      simp only [Bool.or_eq_true, decide_eq_true_eq, List.mem_cons]
      exact or_congr_left eq_comm
  exact this sgs
section
variable {T C P : D} {fs : List D} {k E : Nat} {x y : Option B}
theorem po_word (he : m_lengths_word_end [.sh T, .sh (.int k)] = .ok (.int (E : Nat), false, [.sh T, .sh (.int k)])) (hlt : (k : Int) < (E : Int)) (hs : opSl T (some (k : Int)) (some (E : Int)) = some (.fl P)) (hf : fs.length < 1000000) :
    b_lengths_parts_of_0 (po T fs k x y) = .ok (.nx (po T (fs ++ [P]) E (some (.sh (.int E))) y)) := by
  simp [b_lengths_parts_of_0, po, he, hlt, hs, hf]
theorem po_sp (he : m_lengths_word_end [.sh T, .sh (.int k)] = .ok (.int (k : Nat), false, [.sh T, .sh (.int k)])) (hc : opIx T (.int k) = some (.fl C)) (h1 : opEq C (.str " ") = some (.fl (.bl true))) :
    b_lengths_parts_of_0 (po T fs k x y) = .ok (.nx (po T fs (k + 1) (some (.sh (.int k))) y)) := by
  simp [b_lengths_parts_of_0, po, he, hc, h1, opAddIS, -ev_opEq]
theorem po_wn (he : m_lengths_word_end [.sh T, .sh (.int k)] = .ok (.int (k : Nat), false, [.sh T, .sh (.int k)])) (hc : opIx T (.int k) = some (.fl C)) (h1 : opEq C (.str " ") = some (.fl (.bl false))) (h2 : opInA C (.str "WN") = some (.fl (.bl true))) (hf : fs.length < 1000000) :
    b_lengths_parts_of_0 (po T fs k x y) = .ok (.nx (po T (fs ++ [C]) (k + 1) (some (.sh (.int k))) y)) := by
  simp [b_lengths_parts_of_0, po, he, hc, h1, h2, hf, opAddIS, -ev_opEq]
theorem po_two {b2 : Bool} (he : m_lengths_word_end [.sh T, .sh (.int k)] = .ok (.int (k : Nat), false, [.sh T, .sh (.int k)])) (hc : opIx T (.int k) = some (.fl C)) (h1 : opEq C (.str " ") = some (.fl (.bl false))) (h2 : opInA C (.str "WN") = some (.fl (.bl false)))
    (hs : opSl T (some (k : Int)) (some ((k : Int) + 2)) = some (.fl P)) (h3 : opInA P (.tup [.str "<<", .str ">>", .str "&", .str "|", .str "^", .str "~", .str "(", .str ")", .str "=", .str "+", .str "-", .str "*", .str ","]) = some (.fl (.bl true))) (hl : opLen [P] = some (.fl (.int E))) (hf : fs.length < 1000000) :
    b_lengths_parts_of_0 (po T fs k x y) = .ok (.nx (po T (fs ++ [P]) (k + E) (some (.sh (.int k))) (some (.sh P)))) := by
  simp [b_lengths_parts_of_0, po, he, hc, h1, h2, hs, h3, hl, hf, opAddIS, -ev_opEq, -opInA_tup]
theorem po_one (he : m_lengths_word_end [.sh T, .sh (.int k)] = .ok (.int (k : Nat), false, [.sh T, .sh (.int k)])) (hc : opIx T (.int k) = some (.fl C)) (h1 : opEq C (.str " ") = some (.fl (.bl false))) (h2 : opInA C (.str "WN") = some (.fl (.bl false)))
    (hs : opSl T (some (k : Int)) (some ((k : Int) + 2)) = some (.fl P)) (h3 : opInA P (.tup [.str "<<", .str ">>", .str "&", .str "|", .str "^", .str "~", .str "(", .str ")", .str "=", .str "+", .str "-", .str "*", .str ","]) = some (.fl (.bl false)))
    (h4 : opInA C (.tup [.str "<<", .str ">>", .str "&", .str "|", .str "^", .str "~", .str "(", .str ")", .str "=", .str "+", .str "-", .str "*", .str ","]) = some (.fl (.bl true))) (hl : opLen [C] = some (.fl (.int E))) (hf : fs.length < 1000000) :
    b_lengths_parts_of_0 (po T fs k x y) = .ok (.nx (po T (fs ++ [C]) (k + E) (some (.sh (.int k))) (some (.sh C)))) := by
  simp [b_lengths_parts_of_0, po, he, hc, h1, h2, hs, h3, h4, hl, hf, opAddIS, -ev_opEq, -opInA_tup]
theorem po_bad (he : m_lengths_word_end [.sh T, .sh (.int k)] = .ok (.int (k : Nat), false, [.sh T, .sh (.int k)])) (hc : opIx T (.int k) = some (.fl C)) (h1 : opEq C (.str " ") = some (.fl (.bl false))) (h2 : opInA C (.str "WN") = some (.fl (.bl false)))
    (hs : opSl T (some (k : Int)) (some ((k : Int) + 2)) = some (.fl P)) (h3 : opInA P (.tup [.str "<<", .str ">>", .str "&", .str "|", .str "^", .str "~", .str "(", .str ")", .str "=", .str "+", .str "-", .str "*", .str ","]) = some (.fl (.bl false)))
    (h4 : opInA C (.tup [.str "<<", .str ">>", .str "&", .str "|", .str "^", .str "~", .str "(", .str ")", .str "=", .str "+", .str "-", .str "*", .str ","]) = some (.fl (.bl false))) :
    b_lengths_parts_of_0 (po T fs k x y) = .ok (.rt (.vl .non) (po T fs k (some (.sh (.int k))) (some (.sh C)))) := by
  simp [b_lengths_parts_of_0, po, he, hc, h1, h2, hs, h3, h4, opAddIS, -ev_opEq, -opInA_tup]
end
section
variable {s : Tk} (hs : s.length ≤ 90000) (ha : Asc s)
include hs ha
theorem po_turn {fs : List D} {k c : Nat} {cs : Tk} {x y : Option B} (hd : s.drop k = c :: cs) (hf : fs.length < 1000000) :
    match stepT c cs with
    | none => ∃ e, b_lengths_parts_of_0 (po (tS s) fs k x y) = .ok (.rt (.vl .non) (some (.sh (tS s)) :: e))
    | some (em, r) => ∃ k' x' y', b_lengths_parts_of_0 (po (tS s) fs k x y) = .ok (.nx (po (tS s) (fs ++ em.map tS) k' x' y')) ∧ s.drop k' = r := by
  have hk : k < s.length := by
    rcases Nat.lt_or_ge k s.length with h | h
    · exact h
    · rw [List.drop_eq_nil_of_le h] at hd; cases hd
  have hd2 := List.drop_eq_getElem_cons hk
  rw [hd] at hd2
  have hc : s[k]? = some c := by rw [List.getElem?_eq_getElem hk]; exact congrArg some (List.cons.inj hd2).1.symm
  have hcs : cs = s.drop (k + 1) := (List.cons.inj hd2).2
  have hcm : c ∈ s := List.mem_of_getElem? hc
  have hc1 := ha c hcm
  have hs9 : s.length ≤ 900000 := by omega
  have he := word_end_ok hs9 k hs
  rw [hd, List.takeWhile_cons] at he
  have hix := atS hs9 hc
  have drop_add : ∀ j, s.drop (k + 1 + j) = cs.drop j := fun j => by rw [hcs, List.drop_drop]
  unfold stepT
  by_cases hw : isW c
  · rw [if_pos hw] at he ⊢
    rw [List.length_cons] at he
    have hsl := slS (p := s) (j := k) (k := k + ((cs.takeWhile isW).length + 1)) hs9
    rw [hd, Nat.add_sub_cancel_left, List.take_succ_cons] at hsl
    have et : cs.take (cs.takeWhile isW).length = cs.takeWhile isW := by
      have := List.takeWhile_append_dropWhile (p := isW) (l := cs)
      conv => lhs; arg 2; rw [← this]
      rw [List.take_left']
      rfl
    have ed : cs.drop (cs.takeWhile isW).length = cs.dropWhile isW := by
      have := List.takeWhile_append_dropWhile (p := isW) (l := cs)
      conv => lhs; arg 2; rw [← this]
      rw [List.drop_left']
      rfl
    rw [et] at hsl
    refine ⟨_, _, _, po_word he (by omega) hsl hf, ?_⟩
    rw [show k + ((cs.takeWhile isW).length + 1) = k + 1 + (cs.takeWhile isW).length by omega, drop_add, ed]
  rw [if_neg hw] at he ⊢
  have he : m_lengths_word_end [.sh (tS s), .sh (.int k)] = .ok (.int (k : Nat), false, [.sh (tS s), .sh (.int k)]) := he
  have h1 : opEq (tS [c]) (.str " ") = some (.fl (.bl (decide ([c] = ([32] : Tk))))) := by
    rw [w_sp]; exact eqS (asc1 hc1) (asc1 (by decide))
  by_cases h32 : c = 32
  · rw [if_pos h32]
    rw [decide_eq_true (by rw [h32])] at h1
    exact ⟨_, _, _, (po_sp (fs := fs) (x := x) (y := y) he hix h1).trans (by rw [List.map_nil, List.append_nil]), hcs.symm⟩
  rw [if_neg h32]
  rw [decide_eq_false (by simpa using h32)] at h1
  have h2 : opInA (tS [c]) (.str "WN") = some (.fl (.bl (decide (c ∈ ([87, 78] : Tk))))) := by
    rw [w_WN]; exact inOne c _
  by_cases hWN : c = 87 ∨ c = 78
  · rw [if_pos hWN]
    rw [decide_eq_true (by simpa using hWN)] at h2
    exact ⟨_, _, _, po_wn he hix h1 h2 hf, hcs.symm⟩
  rw [if_neg hWN]
  rw [decide_eq_false (by simpa using hWN)] at h2
  have hsl := slS (p := s) (j := k) (k := k + 2) hs9
  rw [hd, Nat.add_sub_cancel_left, show 2 = 1 + 1 from rfl, List.take_succ_cons] at hsl
  have hsl : opSl (tS s) (some (k : Int)) (some ((k : Int) + 2)) = some (.fl (tS (c :: cs.take 1))) := hsl
  have ha2 : Asc (c :: cs.take 1) := fun d hd => by
    rcases List.mem_cons.mp hd with rfl | hd
    · exact hc1
    · refine ha d ?_
      rw [hcs] at hd
      exact List.mem_of_mem_drop (List.mem_of_mem_take hd)
  have h3 := inSgs ha2
  by_cases hT : (c :: cs.take 1) ∈ sgs
  · rw [if_pos hT]
    rw [decide_eq_true hT] at h3
    have hl := lenS (p := c :: cs.take 1) (by simp; omega)
    refine ⟨_, _, _, po_two (b2 := true) he hix h1 h2 hsl h3 hl hf, ?_⟩
    rw [List.length_cons, show k + ((cs.take 1).length + 1) = k + 1 + (cs.take 1).length by omega, drop_add]
    cases cs with
    | nil => rfl
    | cons d cs => rfl
  rw [if_neg hT]
  rw [decide_eq_false hT] at h3
  have h4 := inSgs (asc1 hc1)
  by_cases hO : [c] ∈ sgs
  · rw [if_pos hO]
    rw [decide_eq_true hO] at h4
    have hl := lenS (p := [c]) (by simp)
    exact ⟨_, _, _, po_one he hix h1 h2 hsl h3 h4 hl hf, hcs.symm⟩
  rw [if_neg hO]
  rw [decide_eq_false hO] at h4
  exact ⟨_, po_bad he hix h1 h2 hsl h3 h4⟩
theorem po_test {fs : List D} {k : Nat} {x y : Option B} : t_lengths_parts_of_1 (po (tS s) fs k x y) = .ok (decide (k < s.length), po (tS s) fs k x y) := by
  have h1 := lenS (p := s) (by omega)
  generalize tS s = T at *
  have h2 : decide ((k : Int) < (s.length : Int)) = decide (k < s.length) := decide_eq_decide.mpr (by omega)
  simp [t_lengths_parts_of_1, po, h1]
theorem po_loop : ∀ (n : Nat) (fs : List D) (k : Nat) (x y : Option B), (s.drop k).length < n → fs.length + (s.drop k).length < 900000 →
    match toks (s.drop k) with
    | none => ∃ e, loopW t_lengths_parts_of_1 b_lengths_parts_of_0 n (po (tS s) fs k x y) = .ok (.rt (.vl .non) (some (.sh (tS s)) :: e))
    | some l => ∃ k' x' y', loopW t_lengths_parts_of_1 b_lengths_parts_of_0 n (po (tS s) fs k x y) = .ok (.nx (po (tS s) (fs ++ l.map tS) k' x' y'))
  | 0, _, _, _, _, h, _ => by omega
  | n + 1, fs, k, x, y, h, hf => by
    have ht := po_test hs ha (fs := fs) (k := k) (x := x) (y := y)
    cases hd : s.drop k with
    | nil =>
      have : ¬ (k < s.length) := fun z => by
        have := List.drop_eq_getElem_cons z
        rw [hd] at this; cases this
      rw [decide_eq_false this] at ht
      exact ⟨_, _, _, (loopW_stop ht).trans (by rw [List.map_nil, List.append_nil])⟩
    | cons c cs =>
      have hk : k < s.length := by
        rcases Nat.lt_or_ge k s.length with z | z
        · exact z
        · rw [List.drop_eq_nil_of_le z] at hd; cases hd
      rw [decide_eq_true hk] at ht
      rw [hd] at h hf
      simp only [List.length_cons] at h hf
      have tu := po_turn hs ha (fs := fs) (x := x) (y := y) hd (by omega)
      rw [toks_cons]
      cases hst : stepT c cs with
      | none =>
        rw [hst] at tu
        obtain ⟨e, he⟩ := tu
        exact ⟨e, loopW_rt ht he⟩
      | some q =>
        obtain ⟨em, r⟩ := q
        rw [hst] at tu
        obtain ⟨k', x', y', he, hr⟩ := tu
        have hle := stepT_le hst
        have hem : em.length ≤ 1 := by
          unfold stepT at hst
          repeat' split at hst
          all_goals first | (cases hst; done) | (cases hst; simp)
        have ih := po_loop n (fs ++ em.map tS) k' x' y' (by rw [hr]; omega) (by rw [hr]; simp; omega)
        rw [hr] at ih
        show match (toks r).map (fun l => em ++ l) with
          | none => _
          | some l => _
        cases htr : toks r with
        | none =>
          rw [htr] at ih
          obtain ⟨e, h2⟩ := ih
          exact ⟨e, loopW_nx ht he h2⟩
        | some l =>
          rw [htr] at ih
          obtain ⟨k2, x2, y2, h2⟩ := ih
          refine ⟨k2, x2, y2, loopW_nx ht he (h2.trans ?_)⟩
          rw [List.map_append, List.append_assoc]
theorem parts_of_ok : ∃ b, m_lengths_parts_of [.sh (tS s)] = .ok (match toks s with | none => .non | some l => .lst (l.map tS), b, [.sh (tS s)]) ∧ b = (toks s).isSome := by
  have h := po_loop hs ha 100000 [] 0 none none (by rw [List.drop_zero]; omega) (by rw [List.drop_zero, List.length_nil]; omega)
  rw [List.drop_zero] at h
  have h0 : q_lengths_parts_of_0 (env0 5 [.sh (tS s)]) = .ok (.nx [some (.sh (tS s)), some (.ow (.lst [])), none, none, none]) := by
    generalize tS s = T
    simp
  have h1 : q_lengths_parts_of_1 [some (.sh (tS s)), some (.ow (.lst [])), none, none, none] = .ok (.nx (po (tS s) [] 0 none none)) := by
    generalize tS s = T
    simp [po]
  cases ht : toks s with
  | none =>
    rw [ht] at h
    obtain ⟨e, h2⟩ := h
    refine ⟨false, fn_rt (seq_nx h0 (seq_nx h1 (r := .ok (.rt (.vl .non) (some (.sh (tS s)) :: e))) ?_)) (by generalize tS s = T; simp), rfl⟩
    show fSeq (loopW t_lengths_parts_of_1 b_lengths_parts_of_0 100000) _ _ = _
    unfold fSeq
    rw [h2]
    rfl
  | some l =>
    rw [ht] at h
    obtain ⟨k', x', y', h2⟩ := h
    exact ⟨true, fn_rt (seq_nx h0 (seq_nx h1 (seq_nx h2 (show fRet (fVar 1) _ = .ok (.rt (.sl 1) (po (tS s) ([] ++ l.map tS) k' x' y')) from rfl)))) rfl, rfl⟩
end
end K12

/-! number_of, term_at. -/
namespace K12
open PySem DL SX
open P12
abbrev n0 : FS := fIfS (fOr (fNot (fB (fChain opLe opLe (fC (.int 1)) (fCB opLen (fA1 (fVar 0) fA0)) (fC (.int 4))))) (fTru (fLc (fiA (fVar 0)) (fgName 1) t_lengths_number_of_1 c_lengths_number_of_0 [1]))) (fRet (fC .non)) fNext
abbrev n1 : FS := fRet (fIf (fAnd (fB (fOp2 opEq (fOp2 opIx (fVar 0) (fC (.int 0))) (fC (.str "0")))) (fB (fOp2 opGt (fCB opLen (fA1 (fVar 0) fA0)) (fC (.int 1))))) (fC .non) (fCB opIntA (fA1 (fVar 0) fA0)))
theorem n_cut : b_lengths_number_of = fSeq n0 n1 := rfl
def ndD : D → Bool
  | .str z => !strIn z (S digs)
  | _ => false
theorem ndD_S (c : Nat) : ndD (tS [c]) = !dig c := by
  show (!strIn (S [c]) (S digs)) = _
  rw [show strIn (S [c]) (S digs) = decide (c ∈ digs) from in_one digs c, mem_digs]
theorem signs_S (p : Tk) : signs (S p) = p.map fun c => tS [c] := rfl
theorem flt_nd : ∀ p : Tk, ((p.map fun c => tS [c]).filter ndD).isEmpty = p.all dig
  | [] => rfl
  | c :: p => by
    rw [List.map_cons, List.filter_cons, ndD_S, List.all_cons]
    cases h : dig c
    · rfl
    · simp only [Bool.not_true, Bool.false_eq_true, if_false, Bool.true_and]
      exact flt_nd p
section
variable {p : Tk} (ha : Asc p) (hl : p.length ≤ 90000)
include ha hl
theorem n_lc (h4 : p.length ≤ 4) : fTru (fLc (fiA (fVar 0)) (fgName 1) t_lengths_number_of_1 c_lengths_number_of_0 [1]) [some (.sh (tS p)), none] = .ok (!p.all dig, [some (.sh (tS p)), none]) := by
  have h := flc2 (fi := fiA (fVar 0)) (ft := t_lengths_number_of_1) (fe := c_lengths_number_of_0) (v := 1) (e := [some (.sh (tS p)), none]) (e' := [some (.sh (tS p)), none]) (items := signs (S p)) ndD id rfl rfl (by
    intro d hd
    rw [signs_S] at hd
    obtain ⟨c, hc, rfl⟩ := List.mem_map.mp hd
    have h1 := inOne c digs
    have h2 : strIn (S [c]) (S digs) = decide (c ∈ digs) := in_one digs c
    rw [show ndD (tS [c]) = !decide (c ∈ digs) from by rw [ndD_S, mem_digs]]
    refine ⟨?_, fun _ => ⟨.sl 1, rfl, rfl⟩⟩
    have h3 : opNiA (tS [c]) (.str "0123456789") = some (.fl (.bl (!decide (c ∈ digs)))) := by rw [w_dg, ev_niA, h1]
    generalize tS [c] = C at *
    generalize tS p = T at *
    simp [t_lengths_number_of_1, h3, lendE, lendB, -ev_niA]) (by rw [signs_S, List.length_map]; show p.length ≤ 1000000; omega)
  rw [List.map_id, signs_S] at h
  unfold fTru
  rw [h]
  refine Eq.trans (b := Res.ok (!((p.map fun c => tS [c]).filter ndD).isEmpty, [some (.sh (tS p)), none])) rfl ?_
  rw [flt_nd]
theorem n_first : n0 (env0 2 [.sh (tS p)]) = if (1 ≤ p.length ∧ p.length ≤ 4) ∧ p.all dig = true then .ok (.nx [some (.sh (tS p)), none]) else .ok (.rt (.vl .non) [some (.sh (tS p)), none]) := by
  have h1 := lenS (p := p) (by omega)
  have hch : ∀ b, decide (1 ≤ p.length ∧ p.length ≤ 4) = b → (fNot (fB (fChain opLe opLe (fC (.int 1)) (fCB opLen (fA1 (fVar 0) fA0)) (fC (.int 4))))) [some (.sh (tS p)), none] = .ok (!b, [some (.sh (tS p)), none]) := by
    intro b hb
    generalize tS p = T at *
    by_cases g1 : 1 ≤ p.length
    · have g1' : (1 : Int) ≤ (p.length : Int) := by omega
      have e2 : decide ((p.length : Int) ≤ 4) = b := by rw [← hb]; exact decide_eq_decide.mpr (by omega)
      simp [h1, g1', e2]
    · have g1' : ¬ (1 : Int) ≤ (p.length : Int) := by omega
      have : b = false := by rw [← hb]; exact decide_eq_false (by omega)
      subst this
      simp [h1, g1']
  show n0 [some (.sh (tS p)), none] = _
  by_cases hc : 1 ≤ p.length ∧ p.length ≤ 4
  · have k1 := hch true (decide_eq_true hc)
    have k2 := n_lc ha hl hc.2
    have k3 := fOr_f k1 k2
    cases hd : p.all dig
    · rw [hd] at k3
      rw [if_neg (by simp)]
      exact ifS_t k3
    · rw [hd] at k3
      rw [if_pos ⟨hc, rfl⟩]
      exact ifS_f k3
  · have k1 := hch false (decide_eq_false hc)
    rw [if_neg (fun z => hc z.1)]
    refine ifS_t (e1 := [some (.sh (tS p)), none]) ?_
    unfold fOr
    rw [k1]
    rfl
theorem n_snd (hc : 1 ≤ p.length ∧ p.length ≤ 4) (hd : p.all dig = true) : n1 [some (.sh (tS p)), none] = .ok (.rt (.vl (if p.head? = some 48 ∧ 1 < p.length then .non else .int ((NumText.digitsVal p : Nat) : Int))) [some (.sh (tS p)), none]) := by
  cases p with
  | nil => simp at hc
  | cons c q =>
    have h1 := lenS (p := c :: q) (by omega)
    have h2 : opIx (tS (c :: q)) (.int 0) = some (.fl (tS [c])) := atS (k := 0) (by omega) rfl
    have h3 : opEq (tS [c]) (.str "0") = some (.fl (.bl (decide (c = 48)))) := by
      rw [w_0, eqS (asc1 (ha c List.mem_cons_self)) (asc1 (by decide))]
      simp
    have h4 : opIntA [tS (c :: q)] = some (.fl (.int ((NumText.digitsVal (c :: q) : Nat) : Int))) := by
      show (if (S (c :: q)).length ≤ 640 then (intText? (S (c :: q))).map _ else none) = _
      rw [S_len, if_pos (by omega), int_S hd (by simp) (by omega)]
      rfl
    generalize hv : ((NumText.digitsVal (c :: q) : Nat) : Int) = v at *
    rw [List.head?_cons]
    generalize hL : (c :: q).length = L at *
    generalize tS (c :: q) = T at *
    generalize tS [c] = C at *
    clear hv
    by_cases g : c = 48
    · rw [decide_eq_true g] at h3
      by_cases g2 : 1 < L
      · have g2' : (1 : Int) < (L : Int) := by omega
        rw [if_pos ⟨by rw [g], g2⟩]
        simp [h1, h2, h3, g2', -ev_opEq]
      · have g2' : ¬ (1 : Int) < (L : Int) := by omega
        rw [if_neg (fun z => g2 z.2)]
        simp [h1, h2, h3, h4, g2', -ev_opEq]
    · rw [decide_eq_false g] at h3
      rw [if_neg (fun z => g (by simpa using z.1))]
      simp [h1, h2, h3, h4, -ev_opEq]
def numD (p : Tk) : D := match num p with | none => .non | some a => .int a
theorem number_ok : m_lengths_number_of [.sh (tS p)] = .ok (numD p, false, [.sh (tS p)]) := by
  have h := n_first ha hl
  unfold numD num
  by_cases hc : (1 ≤ p.length ∧ p.length ≤ 4) ∧ p.all dig = true
  · rw [if_pos hc] at h ⊢
    have h2 := n_snd ha hl hc.1 hc.2
    have h3 := fn_rt (N := 2) (bs := [.sh (tS p)]) (body := b_lengths_number_of) (seq_nx h h2) rfl
    refine h3.trans ?_
    split <;> rfl
  · rw [if_neg hc] at h ⊢
    refine fn_rt (t := .vl .non) (e := [some (.sh (tS p)), none]) ?_ rfl
    show fSeq n0 n1 _ = _
    unfold fSeq
    rw [h]
    rfl
end
end K12

/-! term_at. -/
namespace K12
open PySem DL SX
open P12
abbrev L3 (a b c : Int) : D := .ins 15 [.tup [.int a, .int b, .int c]]
abbrev v3 (v : V3) : D := L3 v.1 v.2.1 v.2.2
theorem make_ok (a b c : Int) : m_Length___init__ [.br (.ins 15 []), .sh (.int a), .sh (.int b), .sh (.int c)] = .ok (.non, false, [.br (L3 a b c), .sh (.int a), .sh (.int b), .sh (.int c)]) := rfl
theorem whole_ok (a b c : Int) : m_Length_whole [.sh (L3 a b c)] = .ok (.int a, false, [.sh (L3 a b c)]) := rfl
theorem rows_ok (a b c : Int) : m_Length_rows [.sh (L3 a b c)] = .ok (.int b, false, [.sh (L3 a b c)]) := rfl
theorem cols_ok (a b c : Int) : m_Length_columns [.sh (L3 a b c)] = .ok (.int c, false, [.sh (L3 a b c)]) := rfl
theorem width_ok : m_lengths_width [] = .ok (L3 0 1 0, true, []) := rfl
theorem squares_ok : m_lengths_squares [] = .ok (L3 1 0 0, true, []) := rfl
theorem rmul_ok {x y z a : Int} (h1 : mulOk x a = true) (h2 : mulOk y a = true) (h3 : mulOk z a = true) : m_Length___rmul__ [.sh (L3 x y z), .sh (.int a)] = .ok (L3 (x * a) (y * a) (z * a), true, [.sh (L3 x y z), .sh (.int a)]) := by
  simp [m_Length___rmul__, make_ok, h1, h2, h3]
theorem dv_lt : ∀ (l : Tk) (acc : Nat), l.all dig = true → l.foldl (fun acc c => acc * 10 + (c - 48)) acc < (acc + 1) * 10 ^ l.length
  | [], acc, _ => by simp
  | c :: l, acc, h => by
    rw [List.all_cons, Bool.and_eq_true] at h
    have hc : c ≤ 57 := by
      have := h.1
      unfold dig at this
      simp at this
      exact this.2
    have ih := dv_lt l (acc * 10 + (c - 48)) h.2
    rw [List.foldl_cons, List.length_cons]
    refine Nat.lt_of_lt_of_le ih ?_
    rw [Nat.pow_succ, Nat.mul_comm (10 ^ l.length) 10, ← Nat.mul_assoc]
    exact Nat.mul_le_mul_right _ (by omega)
theorem num_lt {p : Tk} {a : Int} (h : num p = some a) : 0 ≤ a ∧ a < 10000 := by
  unfold num at h
  split at h
  · rename_i h1
    split at h
    · cases h
    · cases h
      have h2 := dv_lt p 0 h1.2
      have h3 : (10 : Nat) ^ p.length ≤ 10 ^ 4 := Nat.pow_le_pow_right (by decide) h1.1.2
      have h4 : NumText.digitsVal p < (0 + 1) * 10 ^ p.length := h2
      have : (10 : Nat) ^ 4 = 10000 := by decide
      omega
  · cases h
/-- the letters -/
abbrev LT : D := .dct false [.str "W", .str "N"] [L3 0 1 0, L3 1 0 0]
theorem ks_eq : ([.str "W", .str "N"] : List D) = [tS [87], tS [78]] := by kernel_rfl
theorem look_lt (p : Tk) : dLook false [.str "W", .str "N"] [L3 0 1 0, L3 1 0 0] (tS p) = some ((letter p).map v3) := by
  rw [ks_eq]
  unfold dLook
  rw [if_neg (by decide)]
  show some ((List.find? (fun e => decide (atomK e.1 = some (.inr (S p)))) [(tS [87], L3 0 1 0), (tS [78], L3 1 0 0)]).map (·.2)) = _
  have key : ∀ q : Tk, decide (atomK (tS q) = some (.inr (S p))) = decide (p = q) := fun q => by
    refine decide_eq_decide.mpr ⟨fun h => ?_, fun h => by rw [h]; rfl⟩
    have h : some (Sum.inr (α := Int) (S q)) = some (Sum.inr (S p)) := h
    exact (S_inj (Sum.inr.inj (Option.some.inj h))).symm
  rw [List.find?_cons, key, List.find?_cons, key, List.find?_nil]
  unfold letter
  by_cases h1 : p = [87]
  · rw [if_pos h1, decide_eq_true h1]; rfl
  · rw [if_neg h1, decide_eq_false h1]
    by_cases h2 : p = [78]
    · rw [if_pos h2, decide_eq_true h2]; rfl
    · rw [if_neg h2, decide_eq_false h2]; rfl
theorem in_lt (p : Tk) : opInD (tS p) LT = some (.fl (.bl (letter p).isSome)) := by
  rw [ev_opInD, look_lt]
  cases letter p <;> rfl
theorem get_lt {p : Tk} {v : V3} (h : letter p = some v) : opDGet LT (tS p) = some (.fl (v3 v)) := by
  rw [ev_opDGet, look_lt, h]; rfl
abbrev te (P : List D) (k : Nat) (G : D) (x : Option B) : DEnv := [some (.sh (.lst P)), some (.sh (.int k)), some (.ow G), x]
section
variable {P : List D} {k n : Nat} {G C Q R : D} {x : Option B}
theorem te0 {T : D} : q_lengths_term_at_0 [some (.sh T), some (.sh (.int k)), none, none] = .ok (.nx [some (.sh T), some (.sh (.int k)), some (.ow LT), none]) := by
  have hp : pairsA [D.str (Str.ofString "W"), L3 0 1 0, D.str (Str.ofString "N"), L3 1 0 0] = some ([.inr (Str.ofString "W"), .inr (Str.ofString "N")], [L3 0 1 0, L3 1 0 0]) := rfl
  have hne : Str.ofString "W" ≠ Str.ofString "N" := by decide +kernel
  simp [width_ok, squares_ok, LT, hp, hne]
  exact ⟨rfl, rfl⟩
theorem te1_t {v : D} (hk : (k : Int) < (P.length : Int)) (ha : L2.atI P (k : Int) = some C) (hi : opInD C G = some (.fl (.bl true))) (hg : opDGet G C = some (.fl v)) :
    q_lengths_term_at_1 (te P k G x) = .ok (.rt (.vl (.tup [v, .int ((k : Int) + 1)])) (te P k G x)) := by
  simp [te, hk, ha, hi, hg, -ev_atI]
theorem te1_f (hk : (k : Int) < (P.length : Int)) (ha : L2.atI P (k : Int) = some C) (hi : opInD C G = some (.fl (.bl false))) :
    q_lengths_term_at_1 (te P k G x) = .ok (.nx (te P k G x)) := by
  simp [te, hk, ha, hi, -ev_atI]
theorem te1_e (hk : ¬ (k : Int) < (P.length : Int)) : q_lengths_term_at_1 (te P k G x) = .ok (.nx (te P k G x)) := by
  simp [te, hk, -ev_atI]
theorem te2_t {v : D} (hk : (k : Int) < (P.length : Int)) (ha : L2.atI P (k : Int) = some C) (hn : m_lengths_number_of [.sh C] = .ok (v, false, [.sh C])) :
    q_lengths_term_at_2 (te P k G none) = .ok (.nx (te P k G (some (.sh v)))) := by
  simp [te, hk, ha, hn, -ev_atI]
theorem te2_e (hk : ¬ (k : Int) < (P.length : Int)) : q_lengths_term_at_2 (te P k G none) = .ok (.nx (te P k G (some (.sh .non)))) := by
  simp [te, hk, -ev_atI]
theorem te3_n : q_lengths_term_at_3 (te P k G (some (.sh .non))) = .ok (.rt (.vl .non) (te P k G (some (.sh .non)))) := by
  simp [te]
theorem te3_i {a : Int} : q_lengths_term_at_3 (te P k G (some (.sh (.int a)))) = .ok (.nx (te P k G (some (.sh (.int a))))) := by
  simp [te, opIsN]
  rfl
theorem te4_e {a : Int} (hk : ¬ (k : Int) + 1 < (P.length : Int)) : q_lengths_term_at_4 (te P k G (some (.sh (.int a)))) = .ok (.nx (te P k G (some (.sh (.int a))))) := by
  simp [te, hk, -ev_atI]
theorem te4_f {a : Int} (hk : (k : Int) + 1 < (P.length : Int)) (ha : L2.atI P ((k : Int) + 1) = some Q) (he : opEq Q (.str "*") = some (.fl (.bl false))) : q_lengths_term_at_4 (te P k G (some (.sh (.int a)))) = .ok (.nx (te P k G (some (.sh (.int a))))) := by
  simp [te, hk, ha, he, -ev_atI, -ev_opEq]
theorem te4_n1 {a : Int} (hk : (k : Int) + 1 < (P.length : Int)) (ha : L2.atI P ((k : Int) + 1) = some Q) (he : opEq Q (.str "*") = some (.fl (.bl true))) (hk2 : ¬ (k : Int) + 2 < (P.length : Int)) : q_lengths_term_at_4 (te P k G (some (.sh (.int a)))) = .ok (.rt (.vl .non) (te P k G (some (.sh (.int a))))) := by
  simp [te, hk, ha, he, hk2, -ev_atI, -ev_opEq]
theorem te4_n2 {a : Int} (hk : (k : Int) + 1 < (P.length : Int)) (ha : L2.atI P ((k : Int) + 1) = some Q) (he : opEq Q (.str "*") = some (.fl (.bl true))) (hk2 : (k : Int) + 2 < (P.length : Int)) (ha2 : L2.atI P ((k : Int) + 2) = some R) (hi : opInD R G = some (.fl (.bl false))) : q_lengths_term_at_4 (te P k G (some (.sh (.int a)))) = .ok (.rt (.vl .non) (te P k G (some (.sh (.int a))))) := by
  simp [te, hk, ha, he, hk2, ha2, hi, -ev_atI, -ev_opEq]
theorem te4_t {a x y z : Int} (h1 : mulOk x a = true) (h2 : mulOk y a = true) (h3 : mulOk z a = true) (hk : (k : Int) + 1 < (P.length : Int)) (ha : L2.atI P ((k : Int) + 1) = some Q) (he : opEq Q (.str "*") = some (.fl (.bl true))) (hk2 : (k : Int) + 2 < (P.length : Int)) (ha2 : L2.atI P ((k : Int) + 2) = some R) (hi : opInD R G = some (.fl (.bl true))) (hg : opDGet G R = some (.fl (L3 x y z))) :
    q_lengths_term_at_4 (te P k G (some (.sh (.int a)))) = .ok (.rt (.vl (.tup [L3 (x * a) (y * a) (z * a), .int ((k : Int) + 3)])) (te P k G (some (.sh (.int a))))) := by
  have h4 := rmul_ok h1 h2 h3
  simp [te, hk, ha, he, hk2, ha2, hi, hg, h4, -ev_atI, -ev_opEq]
theorem te5 {a : Int} : q_lengths_term_at_5 (te P k G (some (.sh (.int a)))) = .ok (.rt (.vl (.tup [L3 0 0 a, .int ((k : Int) + 1)])) (te P k G (some (.sh (.int a))))) := by
  simp [te, make_ok]
end
theorem seq_rt {f g : FS} {e e' : DEnv} {t : DL.T} (h : f e = .ok (.rt t e')) : fSeq f g e = .ok (.rt t e') := by
  unfold fSeq
  rw [h]
  rfl
theorem atI_of {α : Type} {P : List α} {k : Nat} {x : α} (h : P[k]? = some x) : L2.atI P (k : Int) = some x := by
  have hl := (List.getElem?_eq_some_iff.mp h).1
  rw [ev_atI, ev_ixN, if_pos (by omega), if_pos (by omega), Int.toNat_natCast]
  exact h
end K12

/-! term_at as it is in plain terms. -/
namespace K12
open PySem DL SX
open P12
/-- parts that the program may handle -/
def Fine (l : List Tk) : Prop := (∀ p ∈ l, Asc p ∧ p.length ≤ 90000) ∧ l.length ≤ 90000
def termD (n : Nat) : Option (V3 × List Tk) → D
  | none => .non
  | some (v, r) => .tup [v3 v, .int ((n - r.length : Nat) : Int)]
abbrev lT (l : List Tk) : D := .lst (l.map tS)
theorem letter_01 {p : Tk} {v : V3} (h : letter p = some v) : (v = (0, 1, 0)) ∨ v = (1, 0, 0) := by
  unfold letter at h
  split at h
  · cases h; exact .inl rfl
  · split at h
    · cases h; exact .inr rfl
    · cases h
theorem drop_info {α : Type} {l : List α} {k : Nat} {p : α} {r : List α} (h : l.drop k = p :: r) : k < l.length ∧ l[k]? = some p ∧ l.drop (k + 1) = r := by
  have hk : k < l.length := by
    rcases Nat.lt_or_ge k l.length with z | z
    · exact z
    · rw [List.drop_eq_nil_of_le z] at h; cases h
  have h2 := List.drop_eq_getElem_cons hk
  rw [h] at h2
  exact ⟨hk, by rw [List.getElem?_eq_getElem hk]; exact congrArg some (List.cons.inj h2).1.symm, (List.cons.inj h2).2.symm⟩
section
variable {p : Tk} {a : Int} (h1 : letter p = none) (h2 : num p = some a)
include h1 h2
theorem termP_one : termP [p] = some ((0, 0, a), []) := termP_num h1 h2 []
theorem termP_st0 : termP [p, [42]] = none := (termP_num h1 h2 [[42]]).trans rfl
theorem termP_st (w : Tk) (r3 : List Tk) : termP (p :: [42] :: w :: r3) = (letter w).map fun t => (mul3 t a, r3) := (termP_num h1 h2 _).trans rfl
theorem termP_pl {q : Tk} (hq : q ≠ [42]) (r2 : List Tk) : termP (p :: q :: r2) = some ((0, 0, a), q :: r2) := (termP_num h1 h2 _).trans (if_neg hq)
end
section
variable {l : List Tk} (hl : Fine l)
include hl
theorem term_ok (k : Nat) : m_lengths_term_at [.sh (lT l), .sh (.int k)] = .ok (termD l.length (termP (l.drop k)), false, [.sh (lT l), .sh (.int k)]) := by
  have hP : (l.map tS).length = l.length := List.length_map _
  have e0 : q_lengths_term_at_0 (env0 4 [.sh (lT l), .sh (.int k)]) = .ok (.nx (te (l.map tS) k LT none)) := te0
  have at_ : ∀ {j : Nat} {p : Tk}, l[j]? = some p → L2.atI (l.map tS) (j : Int) = some (tS p) := fun h => atI_of (by rw [List.getElem?_map, h]; rfl)
  have lenr : ∀ {j : Nat} {r : List Tk}, l.drop j = r → j ≤ l.length → l.length - r.length = j := fun h hj => by rw [← h, List.length_drop]; omega
  have fin : ∀ {d : D} {x : Option B}, (b_lengths_term_at (env0 4 [.sh (lT l), .sh (.int k)]) = .ok (.rt (.vl d) (te (l.map tS) k LT x))) → m_lengths_term_at [.sh (lT l), .sh (.int k)] = .ok (d, false, [.sh (lT l), .sh (.int k)]) := fun h => fn_rt h rfl
  cases hd : l.drop k with
  | nil =>
    have hk : ¬ ((k : Int) < ((l.map tS).length : Int)) := fun z => by
      have := List.drop_eq_getElem_cons (l := l) (i := k) (by omega)
      rw [hd] at this; cases this
    exact fin (seq_nx e0 (seq_nx (te1_e hk) (seq_nx (te2_e hk) (seq_rt te3_n))))
  | cons p r =>
    obtain ⟨hk, hp, hr⟩ := drop_info hd
    have hkI : (k : Int) < ((l.map tS).length : Int) := by omega
    have hpm := hl.1 p (List.mem_of_getElem? hp)
    have hin := in_lt p
    cases hlp : letter p with
    | some v =>
      rw [hlp] at hin
      have := fin (seq_nx e0 (seq_rt (te1_t hkI (at_ hp) hin (get_lt hlp))))
      rw [this]
      unfold termP
      dsimp only
      rw [hlp]
      show _ = Res.ok (D.tup [v3 v, .int ((l.length - r.length : Nat) : Int)], false, _)
      rw [lenr hr (by omega)]
      rfl
    | none =>
      rw [hlp] at hin
      have hnum := number_ok hpm.1 hpm.2
      have e1 := te1_f (x := none) hkI (at_ hp) hin
      have e2 := te2_t (G := LT) hkI (at_ hp) hnum
      cases hn : num p with
      | none =>
        have : numD p = .non := by unfold numD; rw [hn]
        rw [this] at e2
        rw [fin (seq_nx e0 (seq_nx e1 (seq_nx e2 (seq_rt te3_n))))]
        unfold termP
        dsimp only
        rw [hlp]
        dsimp only
        rw [hn]
        rfl
      | some a =>
        have : numD p = .int a := by unfold numD; rw [hn]
        rw [this] at e2
        have e3 := te3_i (P := l.map tS) (k := k) (G := LT) (a := a)
        cases r with
        | nil =>
          have hk1 : ¬ ((k : Int) + 1 < ((l.map tS).length : Int)) := fun z => by
            have := List.drop_eq_getElem_cons (l := l) (i := k + 1) (by omega)
            rw [hr] at this; cases this
          rw [fin (seq_nx e0 (seq_nx e1 (seq_nx e2 (seq_nx e3 (seq_nx (te4_e hk1) te5))))), termP_one hlp hn]
          show _ = Res.ok (D.tup [v3 (0, 0, a), .int ((l.length - ([] : List Tk).length : Nat) : Int)], false, _)
          rw [lenr hr (by omega)]
          rfl
        | cons q r2 =>
          obtain ⟨hk1, hq, hr2⟩ := drop_info hr
          have hk1I : (k : Int) + 1 < ((l.map tS).length : Int) := by omega
          have hqm := hl.1 q (List.mem_of_getElem? hq)
          have hat1 : L2.atI (l.map tS) ((k : Int) + 1) = some (tS q) := at_ (j := k + 1) hq
          have heq : opEq (tS q) (.str "*") = some (.fl (.bl (decide (q = ([42] : Tk))))) := by rw [w_st]; exact eqS hqm.1 (asc1 (by decide))
          by_cases hs : q = [42]
          · rw [decide_eq_true hs] at heq
            cases r2 with
            | nil =>
              have hk2 : ¬ ((k : Int) + 2 < ((l.map tS).length : Int)) := fun z => by
                have := List.drop_eq_getElem_cons (l := l) (i := k + 1 + 1) (by omega)
                rw [hr2] at this; cases this
              rw [fin (seq_nx e0 (seq_nx e1 (seq_nx e2 (seq_nx e3 (seq_rt (te4_n1 hk1I hat1 heq hk2)))))), hs, termP_st0 hlp hn]
              rfl
            | cons w r3 =>
              obtain ⟨hk2, hw, hr3⟩ := drop_info hr2
              have hk2I : (k : Int) + 2 < ((l.map tS).length : Int) := by omega
              have hat2 : L2.atI (l.map tS) ((k : Int) + 2) = some (tS w) := at_ (j := k + 2) hw
              have hin2 := in_lt w
              cases hlw : letter w with
              | none =>
                rw [hlw] at hin2
                rw [fin (seq_nx e0 (seq_nx e1 (seq_nx e2 (seq_nx e3 (seq_rt (te4_n2 hk1I hat1 heq hk2I hat2 hin2)))))), hs, termP_st hlp hn, hlw]
                rfl
              | some v =>
                rw [hlw] at hin2
                have hb := num_lt hn
                have m : ∀ i : Int, i = 0 ∨ i = 1 → mulOk i a = true := fun i hi => mulOk_of (by omega) (by omega)
                have h01 := letter_01 hlw
                have e4 := te4_t (x := v.1) (y := v.2.1) (z := v.2.2) (a := a) (m _ (by rcases h01 with rfl | rfl <;> simp)) (m _ (by rcases h01 with rfl | rfl <;> simp)) (m _ (by rcases h01 with rfl | rfl <;> simp)) hk1I hat1 heq hk2I hat2 hin2 (get_lt hlw)
                rw [fin (seq_nx e0 (seq_nx e1 (seq_nx e2 (seq_nx e3 (seq_rt e4))))), hs, termP_st hlp hn, hlw]
                show _ = Res.ok (D.tup [v3 (mul3 v a), .int ((l.length - r3.length : Nat) : Int)], false, _)
                rw [lenr hr3 (by omega)]
                rfl
          · rw [decide_eq_false hs] at heq
            rw [fin (seq_nx e0 (seq_nx e1 (seq_nx e2 (seq_nx e3 (seq_nx (te4_f hk1I hat1 heq) te5))))), termP_pl hlp hn hs]
            show _ = Res.ok (D.tup [v3 (0, 0, a), .int ((l.length - (q :: r2).length : Nat) : Int)], false, _)
            rw [lenr hr (by omega)]
            rfl
end
end K12

/-! sum_at. -/
namespace K12
open PySem DL SX
open P12
theorem joined_ok {x y z a b c s : Int} (h1 : mulOk s a = true) (h2 : mulOk s b = true) (h3 : mulOk s c = true) : m_lengths_joined [.sh (L3 x y z), .sh (L3 a b c), .sh (.int s)] = .ok (L3 (x + s * a) (y + s * b) (z + s * c), true, [.sh (L3 x y z), .sh (L3 a b c), .sh (.int s)]) := by
  simp [m_lengths_joined, c_lengths_joined_0, make_ok, h1, h2, h3, ev_loopC1, izip, noOw, lendE, lendB, backE, backB]
def Sm (v : V3) : Prop := (-10000 ≤ v.1 ∧ v.1 ≤ 10000) ∧ (-10000 ≤ v.2.1 ∧ v.2.1 ≤ 10000) ∧ (-10000 ≤ v.2.2 ∧ v.2.2 ≤ 10000)
theorem term_sm {s r : List Tk} {t : V3} (h : termP s = some (t, r)) : Sm t := by
  have lt : ∀ {p : Tk} {v : V3}, letter p = some v → Sm v := fun h => by rcases letter_01 h with rfl | rfl <;> (unfold Sm; simp)
  have nm : ∀ {p : Tk} {a : Int}, num p = some a → Sm (0, 0, a) := fun h => by have := num_lt h; unfold Sm; simp; omega
  cases s with
  | nil => cases h
  | cons p s =>
    cases hl : letter p with
    | some v =>
      unfold termP at h
      dsimp only at h
      rw [hl] at h
      cases h
      exact lt hl
    | none =>
      cases hn : num p with
      | none =>
        unfold termP at h
        dsimp only at h
        rw [hl] at h
        dsimp only at h
        rw [hn] at h
        cases h
      | some a =>
        cases s with
        | nil => rw [termP_one hl hn] at h; cases h; exact nm hn
        | cons q s =>
          by_cases hq : q = [42]
          · subst hq
            cases s with
            | nil => rw [termP_st0 hl hn] at h; cases h
            | cons w s =>
              rw [termP_st hl hn] at h
              cases hw : letter w with
              | none => rw [hw] at h; cases h
              | some v =>
                rw [hw] at h
                cases h
                have hb := num_lt hn
                rcases letter_01 hw with rfl | rfl <;> (unfold Sm mul3; simp; omega)
          · rw [termP_pl hl hn hq] at h
            cases h
            exact nm hn
theorem term_drop {s r : List Tk} {t : V3} (h : termP s = some (t, r)) : ∃ j, r = s.drop j ∧ 0 < j ∧ j ≤ s.length := by
  obtain ⟨c, e, hc, _⟩ := term_took h
  refine ⟨c.length, by rw [e, List.drop_left], ?_, by rw [e, List.length_append]; omega⟩
  cases c with
  | nil => exact absurd rfl hc
  | cons _ _ => simp
theorem joined_v {x t : V3} {s : Int} (hs : s = 1 ∨ s = -1) (ht : Sm t) : m_lengths_joined [.sh (v3 x), .sh (v3 t), .sh (.int s)] = .ok (v3 (add3 x s t), true, [.sh (v3 x), .sh (v3 t), .sh (.int s)]) :=
  joined_ok (mulOk_of (by omega) (by have := ht.1; omega)) (mulOk_of (by omega) (by have := ht.2.1; omega)) (mulOk_of (by omega) (by have := ht.2.2; omega))
theorem at2_0 (u w : D) : L2.atI [u, w] 0 = some u := rfl
theorem at2_1 (u w : D) : L2.atI [u, w] 1 = some w := rfl
theorem at3_0 (u v w : D) : L2.atI [u, v, w] 0 = some u := rfl
theorem at3_1 (u v w : D) : L2.atI [u, v, w] 1 = some v := rfl
theorem at3_2 (u v w : D) : L2.atI [u, v, w] 2 = some w := rfl
abbrev se (P : List D) (k s : Int) (F : D) (x : Option B) : DEnv := [some (.sh (.lst P)), some (.sh (.int k)), some (.sh (.int s)), some (.ow F), x]
section
variable {P : List D} {k k1 s : Int} {a b c a1 b1 c1 a2 b2 c2 : Int} {Q : D} {x : Option B}
theorem su_n (h : m_lengths_term_at [.sh (.lst P), .sh (.int k)] = .ok (.non, false, [.sh (.lst P), .sh (.int k)])) : b_lengths_sum_at_0 (se P k s (L3 a b c) x) = .ok (.rt (.vl .non) (se P k s (L3 a b c) (some (.sh .non)))) := by
  simp [b_lengths_sum_at_0, h]
abbrev sf (P : List D) (k s : Int) (F G : D) : DEnv := [some (.sh (.lst P)), some (.sh (.int k)), some (.sh (.int s)), some (.sh F), some (.sh G)]
theorem su_end (h : m_lengths_term_at [.sh (.lst P), .sh (.int k)] = .ok (.tup [L3 a1 b1 c1, .int k1], false, [.sh (.lst P), .sh (.int k)])) (hj : m_lengths_joined [.sh (L3 a b c), .sh (L3 a1 b1 c1), .sh (.int s)] = .ok (L3 a2 b2 c2, true, [.sh (L3 a b c), .sh (L3 a1 b1 c1), .sh (.int s)]))
    (hk : (P.length : Int) ≤ k1) : b_lengths_sum_at_0 (se P k s (L3 a b c) x) = .ok (.rt (.vl (.tup [L3 a2 b2 c2, .int k1])) (sf P k1 s (L3 a2 b2 c2) (.tup [L3 a1 b1 c1, .int k1]))) := by
  simp [b_lengths_sum_at_0, h, hj, hk, opIsN, isNon]
theorem su_oth (h : m_lengths_term_at [.sh (.lst P), .sh (.int k)] = .ok (.tup [L3 a1 b1 c1, .int k1], false, [.sh (.lst P), .sh (.int k)])) (hj : m_lengths_joined [.sh (L3 a b c), .sh (L3 a1 b1 c1), .sh (.int s)] = .ok (L3 a2 b2 c2, true, [.sh (L3 a b c), .sh (L3 a1 b1 c1), .sh (.int s)]))
    (hk : ¬ (P.length : Int) ≤ k1) (ha : L2.atI P k1 = some Q) (hn : opInA Q (.tup [.str "+", .str "-"]) = some (.fl (.bl false))) : b_lengths_sum_at_0 (se P k s (L3 a b c) x) = .ok (.rt (.vl (.tup [L3 a2 b2 c2, .int k1])) (sf P k1 s (L3 a2 b2 c2) (.tup [L3 a1 b1 c1, .int k1]))) := by
  simp [b_lengths_sum_at_0, h, hj, hk, opIsN, isNon, at2_0, at2_1, ha, hn, -opInA_tup, -ev_atI]
theorem su_on {b' : Bool} (h : m_lengths_term_at [.sh (.lst P), .sh (.int k)] = .ok (.tup [L3 a1 b1 c1, .int k1], false, [.sh (.lst P), .sh (.int k)])) (hj : m_lengths_joined [.sh (L3 a b c), .sh (L3 a1 b1 c1), .sh (.int s)] = .ok (L3 a2 b2 c2, true, [.sh (L3 a b c), .sh (L3 a1 b1 c1), .sh (.int s)]))
    (hk : ¬ (P.length : Int) ≤ k1) (ha : L2.atI P k1 = some Q) (hn : opInA Q (.tup [.str "+", .str "-"]) = some (.fl (.bl true))) (he : opEq Q (.str "+") = some (.fl (.bl b'))) : b_lengths_sum_at_0 (se P k s (L3 a b c) x) = .ok (.nx (se P (k1 + 1) (if b' then 1 else -1) (L3 a2 b2 c2) (some (.sh (.tup [L3 a1 b1 c1, .int k1]))))) := by
  cases b' <;> simp [b_lengths_sum_at_0, h, hj, hk, opIsN, isNon, at2_0, at2_1, ha, hn, he, opAddIS, -opInA_tup, -ev_atI, -ev_opEq]
end
end K12

/-! sum_at as it is in plain terms. -/
namespace K12
open PySem DL SX
open P12
theorem pm_ok : dOk (.tup [.str "+", .str "-"]) = true := by kernel_rfl
theorem pm_eq : ([.str "+", .str "-"] : List D) = [tS [43], tS [45]] := by kernel_rfl
theorem inPm {p : Tk} (h : Asc p) : opInA (tS p) (.tup [.str "+", .str "-"]) = some (.fl (.bl (decide (p = [43] ∨ p = [45])))) := by
  rw [opInA_tup, dok h, pm_ok, pm_eq]
  show some (RV.fl (D.bl (deq (tS [43]) (tS p) || (deq (tS [45]) (tS p) || false)))) = _
  rw [deqS, deqS, Bool.or_false]
  congr 3
  rw [Bool.eq_iff_iff]
  simp only [Bool.or_eq_true, decide_eq_true_eq]
  exact or_congr eq_comm eq_comm
theorem su_t {e : DEnv} : t_lengths_sum_at_1 e = .ok (true, e) := by simp [t_lengths_sum_at_1]
section
variable {l : List Tk} (hl : Fine l)
include hl
theorem su_loop : ∀ (n : Nat) (k : Nat) (s : Int) (acc : V3) (x : Option B), s = 1 ∨ s = -1 → k ≤ l.length → (l.drop k).length < n →
    ∃ (k' : Int) (e : DEnv), loopW t_lengths_sum_at_1 b_lengths_sum_at_0 n (se (l.map tS) k s (v3 acc) x) = .ok (.rt (.vl (termD l.length (sumL n acc s (l.drop k)))) (some (.sh (lT l)) :: some (.sh (.int k')) :: e))
  | 0, _, _, _, _, _, _, h => by omega
  | n + 1, k, s, acc, x, hs, hk, h => by
    have ht := term_ok hl k
    have hP : (l.map tS).length = l.length := List.length_map _
    cases hr : termP (l.drop k) with
    | none =>
      rw [hr] at ht
      have := su_n (s := s) (a := acc.1) (b := acc.2.1) (c := acc.2.2) (x := x) ht
      have e : termD l.length (sumL (n + 1) acc s (l.drop k)) = .non := by
        unfold sumL
        rw [hr]
        rfl
      rw [e]
      exact ⟨_, _, loopW_rt su_t this⟩
    | some q =>
      obtain ⟨t, r⟩ := q
      rw [hr] at ht
      obtain ⟨j, hj, hj0, hjl⟩ := term_drop hr
      rw [List.length_drop] at hjl h
      rw [List.drop_drop] at hj
      have hk1 : l.length - r.length = k + j := by rw [hj, List.length_drop]; omega
      have hjn := joined_v (x := acc) hs (term_sm hr)
      change _ = Res.ok (D.tup [v3 t, .int ((l.length - r.length : Nat) : Int)], false, _) at ht
      rw [hk1] at ht
      cases r with
      | nil =>
        have : l.length ≤ k + j := by
          have := congrArg List.length hj
          rw [List.length_nil, List.length_drop] at this
          omega
        have hb := su_end (x := x) ht hjn (by rw [hP]; omega)
        rw [sumL_end hr]
        show ∃ (k' : Int) (e : DEnv), _ = Res.ok (Out.rt (T.vl (D.tup [v3 (add3 acc s t), .int ((l.length - ([] : List Tk).length : Nat) : Int)])) _)
        rw [hk1]
        exact ⟨_, _, loopW_rt su_t hb⟩
      | cons q r2 =>
        obtain ⟨hkl, hq, hr2⟩ := drop_info hj.symm
        have hqm := hl.1 q (List.mem_of_getElem? hq)
        have hat : L2.atI (l.map tS) ((k + j : Nat) : Int) = some (tS q) := atI_of (by rw [List.getElem?_map, hq]; rfl)
        have hin := inPm hqm.1
        have heq : opEq (tS q) (.str "+") = some (.fl (.bl (decide (q = ([43] : Tk))))) := by rw [w_pl]; exact eqS hqm.1 (asc1 (by decide))
        have hnk : ¬ (((l.map tS).length : Int) ≤ ((k + j : Nat) : Int)) := by rw [hP]; omega
        rw [sumL_on hr]
        by_cases hpm : q = [43] ∨ q = [45]
        · rw [decide_eq_true hpm] at hin
          have hb := su_on (x := x) ht hjn hnk hat hin heq
          have ih := su_loop n (k + j + 1) (if decide (q = [43]) = true then 1 else -1) (add3 acc s t) (some (.sh (.tup [v3 t, .int ((k + j : Nat) : Int)]))) (by split <;> simp) (by omega) (by rw [List.length_drop]; omega)
          rw [hr2] at ih
          have hval : (if q = [43] then sumL n (add3 acc s t) 1 r2 else if q = [45] then sumL n (add3 acc s t) (-1) r2 else some (add3 acc s t, q :: r2)) = sumL n (add3 acc s t) (if decide (q = [43]) = true then 1 else -1) r2 := by
            rcases hpm with rfl | rfl
            · rw [if_pos rfl, if_pos (by decide)]
            · rw [if_neg (by decide), if_pos rfl, if_neg (by decide)]
          rw [hval]
          obtain ⟨k', e, ih⟩ := ih
          exact ⟨k', e, loopW_nx su_t hb ih⟩
        · rw [decide_eq_false hpm] at hin
          have hb := su_oth (x := x) ht hjn hnk hat hin
          rw [if_neg (fun z => hpm (.inl z)), if_neg (fun z => hpm (.inr z))]
          show ∃ (k' : Int) (e : DEnv), _ = Res.ok (Out.rt (T.vl (D.tup [v3 (add3 acc s t), .int ((l.length - (q :: r2).length : Nat) : Int)])) _)
          rw [hk1]
          exact ⟨_, _, loopW_rt su_t hb⟩
theorem sum_ok {k : Nat} (hk : k ≤ l.length) : m_lengths_sum_at [.sh (lT l), .sh (.int k)] = .ok (termD l.length (sumP 100000 (l.drop k)), false, [.sh (lT l), .sh (.int k)]) := by
  have hP : (l.map tS).length = l.length := List.length_map _
  have s0 : q_lengths_sum_at_0 (env0 5 [.sh (lT l), .sh (.int k)]) = .ok (.nx [some (.sh (lT l)), some (.sh (.int k)), some (.sh (.int 1)), none, none]) := by
    generalize lT l = T
    simp
  have fin : ∀ {d : D} {a : Int} {e : DEnv}, b_lengths_sum_at (env0 5 [.sh (lT l), .sh (.int k)]) = .ok (.rt (.vl d) (some (.sh (lT l)) :: some (.sh (.int a)) :: e)) → m_lengths_sum_at [.sh (lT l), .sh (.int k)] = .ok (d, false, [.sh (lT l), .sh (.int k)]) := fun h => fn_rt h rfl
  have s2 : ∀ {k' s' : Int}, q_lengths_sum_at_2 [some (.sh (lT l)), some (.sh (.int k')), some (.sh (.int s')), none, none] = .ok (.nx (se (l.map tS) k' s' (v3 (0, 0, 0)) none)) := by
    intro k' s'
    show q_lengths_sum_at_2 [some (.sh (.lst (l.map tS))), _, _, _, _] = _
    generalize l.map tS = P
    simp [make_ok]
  have on : ∀ {k' : Nat} {s' : Int}, q_lengths_sum_at_1 [some (.sh (lT l)), some (.sh (.int k)), some (.sh (.int 1)), none, none] = .ok (.nx [some (.sh (lT l)), some (.sh (.int k')), some (.sh (.int s')), none, none]) → s' = 1 ∨ s' = -1 → k' ≤ l.length → m_lengths_sum_at [.sh (lT l), .sh (.int k)] = .ok (termD l.length (sumL 100000 (0, 0, 0) s' (l.drop k')), false, [.sh (lT l), .sh (.int k)]) := by
    intro k' s' h1 hs hk'
    obtain ⟨k2, e, h⟩ := su_loop hl 100000 k' s' (0, 0, 0) none hs hk' (by rw [List.length_drop]; have := hl.2; omega)
    exact fin (seq_nx s0 (seq_nx h1 (seq_nx s2 h)))
  cases hd : l.drop k with
  | nil =>
    have hk2 : ¬ ((k : Int) < ((l.map tS).length : Int)) := fun z => by
      have := List.drop_eq_getElem_cons (l := l) (i := k) (by omega)
      rw [hd] at this; cases this
    have h1 : q_lengths_sum_at_1 [some (.sh (lT l)), some (.sh (.int k)), some (.sh (.int 1)), none, none] = .ok (.nx [some (.sh (lT l)), some (.sh (.int k)), some (.sh (.int 1)), none, none]) := by
      show q_lengths_sum_at_1 [some (.sh (.lst (l.map tS))), _, _, _, _] = .ok (.nx [some (.sh (.lst (l.map tS))), _, _, _, _])
      generalize l.map tS = P at *
      simp [hk2]
    have := on h1 (.inl rfl) hk
    rw [hd] at this
    exact this
  | cons p r =>
    obtain ⟨hkl, hp, hr⟩ := drop_info hd
    have hpm := hl.1 p (List.mem_of_getElem? hp)
    have hat : L2.atI (l.map tS) (k : Int) = some (tS p) := atI_of (by rw [List.getElem?_map, hp]; rfl)
    have heq : opEq (tS p) (.str "-") = some (.fl (.bl (decide (p = ([45] : Tk))))) := by rw [w_mi]; exact eqS hpm.1 (asc1 (by decide))
    have hk2 : (k : Int) < ((l.map tS).length : Int) := by rw [hP]; omega
    show _ = Res.ok (termD l.length (if p = [45] then sumL 100000 (0, 0, 0) (-1) r else sumL 100000 (0, 0, 0) 1 (p :: r)), false, _)
    by_cases h : p = [45]
    · rw [decide_eq_true h] at heq
      have h1 : q_lengths_sum_at_1 [some (.sh (lT l)), some (.sh (.int k)), some (.sh (.int 1)), none, none] = .ok (.nx [some (.sh (lT l)), some (.sh (.int ((k + 1 : Nat) : Int))), some (.sh (.int (-1))), none, none]) := by
        show q_lengths_sum_at_1 [some (.sh (.lst (l.map tS))), _, _, _, _] = .ok (.nx [some (.sh (.lst (l.map tS))), _, _, _, _])
        generalize l.map tS = P at *
        generalize tS p = C at *
        simp [hk2, hat, heq, opAddIS, -ev_atI, -ev_opEq]
      have := on h1 (.inr rfl) (by omega)
      rw [hr] at this
      rw [if_pos h]
      exact this
    · rw [decide_eq_false h] at heq
      have h1 : q_lengths_sum_at_1 [some (.sh (lT l)), some (.sh (.int k)), some (.sh (.int 1)), none, none] = .ok (.nx [some (.sh (lT l)), some (.sh (.int k)), some (.sh (.int 1)), none, none]) := by
        show q_lengths_sum_at_1 [some (.sh (.lst (l.map tS))), _, _, _, _] = .ok (.nx [some (.sh (.lst (l.map tS))), _, _, _, _])
        generalize l.map tS = P at *
        generalize tS p = C at *
        simp [hk2, hat, heq, -ev_atI, -ev_opEq]
      have := on h1 (.inl rfl) hk
      rw [hd] at this
      rw [if_neg h]
      exact this
end
end K12

/-! length_at. -/
namespace K12
open PySem DL SX
open P12
theorem deqL_S : ∀ xs ys : List Tk, deqL (xs.map tS) (ys.map tS) = decide (xs = ys)
  | [], [] => rfl
  | [], _ :: _ => rfl
  | _ :: _, [] => rfl
  | x :: xs, y :: ys => by
    show (deq (tS x) (tS y) && deqL (xs.map tS) (ys.map tS)) = _
    rw [deqS, deqL_S xs ys, Bool.eq_iff_iff]
    simp
theorem dGoL_S {n : Nat} : ∀ xs : List Tk, (∀ p ∈ xs, Asc p) → dGoL n (xs.map tS) = true
  | [], _ => by cases n <;> rfl
  | x :: xs, h => by
    have h1 : dGo n (tS x) = true := by
      have : (PyData.str (S x)).canLay0 = true := by
        show PyData.strOk (S x) = true
        unfold PyData.strOk
        simp
        intro c hc
        have := h x List.mem_cons_self c hc
        omega
      cases n <;> exact this
    have h2 := dGoL_S (n := n) xs fun p hp => h p (List.mem_cons_of_mem _ hp)
    have : (dGo n (tS x) && dGoL n (xs.map tS)) = true := by rw [h1, h2]; rfl
    cases n <;> exact this
theorem dok_lS {xs : List Tk} (h : ∀ p ∈ xs, Asc p) : dOk (lT xs) = true := dOk_go (dGoL_S (n := 63) xs h)
theorem neL {xs ys : List Tk} (h : ∀ p ∈ xs, Asc p) (h2 : ∀ p ∈ ys, Asc p) : opNe (lT xs) (lT ys) = some (.fl (.bl (!decide (xs = ys)))) := by
  rw [ev_opNe, dok_lS h, dok_lS h2, deq_LL, deqL_S]; rfl
theorem eqL {xs ys : List Tk} (h : ∀ p ∈ xs, Asc p) (h2 : ∀ p ∈ ys, Asc p) : opEq (lT xs) (lT ys) = some (.fl (.bl (decide (xs = ys)))) := by
  rw [ev_opEq, dok_lS h, dok_lS h2, deq_LL, deqL_S]; rfl
theorem repS (p : Tk) {n : Nat} (hn : n ≤ 90000) : opMul (.lst [tS p]) (.int (n : Nat)) = some (.nl ((List.replicate n p).map tS)) := by
  show (if decide (0 ≤ (n : Int)) && decide ((n : Int) ≤ 1000000) && decide (1 * (n : Int).toNat ≤ lim) then some (RV.nl (List.replicate (n : Int).toNat [tS p]).flatten) else none) = _
  rw [Int.toNat_natCast, decide_eq_true (by omega), decide_eq_true (by omega), decide_eq_true (show 1 * n ≤ lim by rw [ev_lim]; omega), if_pos (by decide)]
  congr 2
  induction n with
  | zero => rfl
  | succ n ih =>
    rw [List.replicate_succ, List.flatten_cons, ih (by omega), List.replicate_succ]
    rfl
theorem cut_nat (P : List D) (i j : Nat) : cutD P (some (i : Int)) (some (j : Int)) = (P.drop i).take (j - i) := by
  rw [ev_cutD, ev_sIx1, ev_sIx1, if_neg (by omega), if_neg (by omega), Int.toNat_natCast, Int.toNat_natCast]
  by_cases hi : i ≤ P.length
  · rw [Nat.min_eq_left hi]
    by_cases hj : j ≤ P.length
    · rw [Nat.min_eq_left hj]
    · rw [Nat.min_eq_right (by omega), List.take_of_length_le (by simp), List.take_of_length_le (by simp; omega)]
  · rw [Nat.min_eq_right (a := i) (by omega), List.drop_eq_nil_of_le (Nat.le_refl _), List.drop_eq_nil_of_le (as := P) (by omega)]
    simp
abbrev la (P : List D) (k : Int) : DEnv := [some (.sh (.lst P)), some (.sh (.int 0)), some (.sh (.int k)), none, none]
abbrev lb (P : List D) (k : Int) (F : D) (x : Option B) : DEnv := [some (.sh (.lst P)), some (.sh (.int 0)), some (.sh (.int k)), some (.sh F), x]
section
variable {P Y Z : List D} {k j a b c : Int} {C : D}
theorem la_t {q : Bool} (hk : k < (P.length : Int)) (ha : L2.atI P k = some C) (he : opEq C (.str "(") = some (.fl (.bl q))) : t_lengths_length_at_1 (la P k) = .ok (q, la P k) := by
  simp [t_lengths_length_at_1, hk, ha, he, -ev_atI, -ev_opEq]
theorem la_e (hk : ¬ k < (P.length : Int)) : t_lengths_length_at_1 (la P k) = .ok (false, la P k) := by
  simp [t_lengths_length_at_1, hk]
theorem la_s : b_lengths_length_at_0 (la P k) = .ok (.nx (la P (k + 1))) := by
  simp [b_lengths_length_at_0, opAddIS]
theorem lq2 {F : D} (h : m_lengths_sum_at [.sh (.lst P), .sh (.int k)] = .ok (F, false, [.sh (.lst P), .sh (.int k)])) : q_lengths_length_at_2 (la P k) = .ok (.nx (lb P k F none)) := by
  simp [h]
theorem lq3n : q_lengths_length_at_3 (lb P k .non none) = .ok (.rt (.vl .non) (lb P k .non none)) := by simp
theorem lq3 : q_lengths_length_at_3 (lb P k (.tup [L3 a b c, .int j]) none) = .ok (.nx (lb P k (.tup [L3 a b c, .int j]) none)) := by simp [opIsN, isNon]
theorem lq4 : q_lengths_length_at_4 (lb P k (.tup [L3 a b c, .int j]) none) = .ok (.nx (lb P k (.tup [L3 a b c, .int j]) (some (.sh (.int (j + k)))))) := by simp [at2_1]
theorem lq5 {q : Bool} (hc : cutD P (some j) (some (j + k)) = Y) (hm : opMul (.lst [.str ")"]) (.int k) = some (.nl Z)) (hn : opNe (.lst Y) (.lst Z) = some (.fl (.bl q))) : q_lengths_length_at_5 (lb P k (.tup [L3 a b c, .int j]) (some (.sh (.int (j + k))))) = if q then .ok (.rt (.vl .non) (lb P k (.tup [L3 a b c, .int j]) (some (.sh (.int (j + k)))))) else .ok (.nx (lb P k (.tup [L3 a b c, .int j]) (some (.sh (.int (j + k)))))) := by
  cases q <;> simp [at2_1, hc, hm, hn, -ev_cutD, -ev_opNe]
theorem lq6 : q_lengths_length_at_6 (lb P k (.tup [L3 a b c, .int j]) (some (.sh (.int (j + k))))) = .ok (.rt (.vl (.tup [L3 a b c, .int (j + k)])) (lb P k (.tup [L3 a b c, .int j]) (some (.sh (.int (j + k)))))) := by simp [at2_0]
end
def lenD (l : List Tk) : D := match sumP 100000 (l.drop (opn l)) with
  | none => .non
  | some (v, r) => if r.take (opn l) = List.replicate (opn l) [41] then .tup [v3 v, .int (((l.length - r.length : Nat) : Int) + ((opn l : Nat) : Int))] else .non
theorem opn_le : ∀ l : List Tk, opn l ≤ l.length
  | [] => Nat.le_refl _
  | p :: l => by
    have := opn_le l
    unfold opn
    split
    · simp; omega
    · omega
section
variable {l : List Tk} (hl : Fine l)
include hl
theorem la_loop : ∀ (n k : Nat), (l.drop k).length < n → loopW t_lengths_length_at_1 b_lengths_length_at_0 n (la (l.map tS) (k : Nat)) = .ok (.nx (la (l.map tS) ((k + opn (l.drop k) : Nat) : Int)))
  | 0, _, h => by omega
  | n + 1, k, h => by
    have hP : (l.map tS).length = l.length := List.length_map _
    cases hd : l.drop k with
    | nil =>
      have hk2 : ¬ ((k : Int) < ((l.map tS).length : Int)) := fun z => by
        have := List.drop_eq_getElem_cons (l := l) (i := k) (by omega)
        rw [hd] at this; cases this
      exact loopW_stop (la_e hk2)
    | cons p r =>
      obtain ⟨hkl, hp, hr⟩ := drop_info hd
      have hpm := hl.1 p (List.mem_of_getElem? hp)
      have hat : L2.atI (l.map tS) (k : Int) = some (tS p) := atI_of (by rw [List.getElem?_map, hp]; rfl)
      have heq : opEq (tS p) (.str "(") = some (.fl (.bl (decide (p = ([40] : Tk))))) := by rw [w_op]; exact eqS hpm.1 (asc1 (by decide))
      have ht := la_t (k := k) (by rw [hP]; omega) hat heq
      show _ = Res.ok (Out.nx (la (l.map tS) ((k + (if p = [40] then opn r + 1 else 0) : Nat) : Int)))
      by_cases h4 : p = [40]
      · rw [decide_eq_true h4] at ht
        rw [if_pos h4]
        rw [List.length_drop] at h
        have ih := la_loop n (k + 1) (by rw [List.length_drop]; omega)
        rw [hr, show k + 1 + opn r = k + (opn r + 1) by omega] at ih
        exact loopW_nx ht la_s ih
      · rw [decide_eq_false h4] at ht
        rw [if_neg h4]
        exact loopW_stop ht
theorem length_at_ok : m_lengths_length_at [.sh (lT l), .sh (.int 0)] = .ok (lenD l, false, [.sh (lT l), .sh (.int 0)]) := by
  have hP : (l.map tS).length = l.length := List.length_map _
  have hle := opn_le l
  have h0 : q_lengths_length_at_0 (env0 5 [.sh (lT l), .sh (.int 0)]) = .ok (.nx (la (l.map tS) 0)) := by
    show q_lengths_length_at_0 (env0 5 [.sh (.lst (l.map tS)), .sh (.int 0)]) = _
    generalize l.map tS = P
    simp
  have h1 := la_loop hl 100000 0 (by rw [List.drop_zero]; have := hl.2; omega)
  rw [List.drop_zero, Nat.zero_add] at h1
  have h2 := lq2 (sum_ok hl hle)
  have fin : ∀ {d : D} {k : Int} {F : D} {x : Option B}, b_lengths_length_at (env0 5 [.sh (lT l), .sh (.int 0)]) = .ok (.rt (.vl d) (lb (l.map tS) k F x)) → m_lengths_length_at [.sh (lT l), .sh (.int 0)] = .ok (d, false, [.sh (lT l), .sh (.int 0)]) := fun h => fn_rt h rfl
  unfold lenD
  generalize hd : opn l = d at *
  cases hs : sumP 100000 (l.drop d) with
  | none =>
    rw [hs] at h2
    exact fin (seq_nx h0 (seq_nx h1 (seq_nx h2 (seq_rt lq3n))))
  | some q =>
    obtain ⟨v, r⟩ := q
    rw [hs] at h2
    obtain ⟨c, e, _⟩ := sumP_took hs
    have hrl : l.drop (l.length - r.length) = r := by
      have e2 : l = (l.take d ++ c) ++ r := by rw [List.append_assoc, ← e, List.take_append_drop]
      have e3 : l.length - r.length = (l.take d ++ c).length := by
        have := congrArg List.length e2
        rw [List.length_append] at this
        omega
      rw [e3]
      conv => lhs; arg 2; rw [e2]
      exact List.drop_left
    have hcut : cutD (l.map tS) (some ((l.length - r.length : Nat) : Int)) (some (((l.length - r.length : Nat) : Int) + ((d : Nat) : Int))) = (r.take d).map tS := by
      have := cut_nat (l.map tS) (l.length - r.length) (l.length - r.length + d)
      rw [Nat.add_sub_cancel_left, ← List.map_drop, hrl, ← List.map_take] at this
      exact this
    have hmul := repS [41] (n := d) (by have := hl.2; omega)
    have hmul : opMul (.lst [.str ")"]) (.int (d : Nat)) = some (.nl ((List.replicate d [41]).map tS)) := by rw [w_cl]; exact hmul
    have hrm : ∀ p ∈ r.take d, Asc p := fun p hp => (hl.1 p (by rw [← hrl] at hp; exact List.mem_of_mem_drop (List.mem_of_mem_take hp))).1
    have hne := neL (xs := r.take d) (ys := List.replicate d [41]) hrm (fun p hp => by rw [List.eq_of_mem_replicate hp]; exact asc1 (by decide))
    have h5 := lq5 (a := v.1) (b := v.2.1) (c := v.2.2) hcut hmul hne
    show _ = Res.ok ((if r.take d = List.replicate d [41] then _ else _), _, _)
    by_cases hb : r.take d = List.replicate d [41]
    · rw [decide_eq_true hb] at h5
      rw [if_pos hb]
      exact fin (seq_nx h0 (seq_nx h1 (seq_nx h2 (seq_nx lq3 (seq_nx lq4 (seq_nx h5 lq6))))))
    · rw [decide_eq_false hb] at h5
      rw [if_neg hb]
      exact fin (seq_nx h0 (seq_nx h1 (seq_nx h2 (seq_nx lq3 (seq_nx lq4 (seq_rt h5))))))
end
end K12

/-! read_length, _law_told. -/
namespace K12
open PySem DL SX
open P12
theorem toks_fine {s : Tk} (ha : Asc s) (hs : s.length ≤ 90000) {l : List Tk} (h : toks s = some l) : Fine l := by
  have key : ∀ (n : Nat) (s : Tk) (l : List Tk), s.length ≤ n → Asc s → toks s = some l → (∀ p ∈ l, Asc p ∧ p.length ≤ s.length) ∧ l.length ≤ s.length := by
    intro n
    induction n with
    | zero =>
      intro s l h _ ht
      cases s with
      | nil => cases ht; exact ⟨fun p hp => (by cases hp), Nat.le_refl _⟩
      | cons c cs => simp at h
    | succ n ih =>
      intro s l hn ha ht
      cases s with
      | nil => cases ht; exact ⟨fun p hp => (by cases hp), Nat.le_refl _⟩
      | cons c cs =>
        rw [toks_cons] at ht
        cases hst : stepT c cs with
        | none => rw [hst] at ht; cases ht
        | some q =>
          obtain ⟨em, r⟩ := q
          rw [hst] at ht
          have hle := stepT_le hst
          have hcs : ∀ d ∈ cs, d < 128 := fun d hd => ha d (List.mem_cons_of_mem _ hd)
          have hc := ha c List.mem_cons_self
          have hem : (∀ p ∈ em, Asc p ∧ p.length ≤ (c :: cs).length) ∧ em.length ≤ 1 ∧ (∀ d ∈ r, d ∈ cs) := by
            have sub1 : ∀ (p : Nat → Bool) (l : Tk), (∀ d ∈ l.takeWhile p, d ∈ l) ∧ (l.takeWhile p).length ≤ l.length ∧ ∀ d ∈ l.dropWhile p, d ∈ l := fun p l =>
              ⟨fun d hd => (List.takeWhile_sublist p).subset hd, (List.takeWhile_sublist p).length_le, fun d hd => (List.dropWhile_sublist p).subset hd⟩
            unfold stepT at hst
            repeat' split at hst
            · cases hst
              obtain ⟨s1, s2, s3⟩ := sub1 isW cs
              refine ⟨fun p hp => ?_, Nat.le_refl _, s3⟩
              rw [List.mem_singleton.mp hp]
              refine ⟨fun d hd => ?_, by simp; omega⟩
              rcases List.mem_cons.mp hd with rfl | hd
              · exact hc
              · exact hcs d (s1 d hd)
            · cases hst
              exact ⟨fun p hp => (by cases hp), by simp, fun d hd => hd⟩
            · cases hst
              refine ⟨fun p hp => ?_, Nat.le_refl _, fun d hd => hd⟩
              rw [List.mem_singleton.mp hp]
              exact ⟨asc1 hc, by simp⟩
            · cases hst
              refine ⟨fun p hp => ?_, Nat.le_refl _, fun d hd => List.mem_of_mem_drop hd⟩
              rw [List.mem_singleton.mp hp]
              refine ⟨fun d hd => ?_, by simp; omega⟩
              rcases List.mem_cons.mp hd with rfl | hd
              · exact hc
              · exact hcs d (List.mem_of_mem_take hd)
            · cases hst
              refine ⟨fun p hp => ?_, Nat.le_refl _, fun d hd => hd⟩
              rw [List.mem_singleton.mp hp]
              exact ⟨asc1 hc, by simp⟩
            · cases hst
          cases htr : toks r with
          | none =>
            change ((toks r).map fun l => em ++ l) = _ at ht
            rw [htr] at ht; cases ht
          | some l' =>
            change ((toks r).map fun l => em ++ l) = _ at ht
            rw [htr] at ht
            cases ht
            simp at hn
            obtain ⟨h1, h2⟩ := ih r l' (by omega) (fun d hd => hcs d (hem.2.2 d hd)) htr
            refine ⟨fun p hp => ?_, by simp; omega⟩
            rcases List.mem_append.mp hp with hp | hp
            · exact hem.1 p hp
            · have := h1 p hp
              exact ⟨this.1, by simp; omega⟩
  obtain ⟨h1, h2⟩ := key _ s l (Nat.le_refl _) ha h
  exact ⟨fun p hp => ⟨(h1 p hp).1, by have := (h1 p hp).2; omega⟩, by omega⟩
theorem lenD_read {l : List Tk} : (readT l = none ∧ (lenD l = .non ∨ ∃ v j, lenD l = .tup [v3 v, .int j] ∧ j ≠ (l.length : Int))) ∨ ∃ v, readT l = some v ∧ lenD l = .tup [v3 v, .int (l.length : Int)] := by
  unfold readT lenD
  have hle := opn_le l
  generalize hd : opn l = d at *
  cases hs : sumP 100000 (l.drop d) with
  | none => exact .inl ⟨rfl, .inl rfl⟩
  | some q =>
    obtain ⟨v, r⟩ := q
    have hrl : r.length + d ≤ l.length := by
      obtain ⟨c, e, _⟩ := sumP_took hs
      have := congrArg List.length e
      rw [List.length_append, List.length_drop] at this
      omega
    dsimp only
    by_cases h : r = List.replicate d [41]
    · refine .inr ⟨v, if_pos h, ?_⟩
      have h2 : r.length = d := by rw [h, List.length_replicate]
      rw [if_pos (by rw [List.take_of_length_le (by omega)]; exact h)]
      rw [h2, show ((l.length - d : Nat) : Int) + ((d : Nat) : Int) = (l.length : Int) by omega]
    · refine .inl ⟨if_neg h, ?_⟩
      by_cases h2 : r.take d = List.replicate d [41]
      · rw [if_pos h2]
        refine .inr ⟨v, _, rfl, fun z => h ?_⟩
        have : r.length = d := by omega
        rw [← h2, List.take_of_length_le (by omega)]
      · exact .inl (if_neg h2)
abbrev ra (T : D) (p f : Option B) : DEnv := [some (.sh T), p, f]
section
variable {T F : D} {P : List D} {a b c j : Int}
theorem r0l (h : m_lengths_parts_of [.sh T] = .ok (.lst P, true, [.sh T])) : q_lengths_read_length_0 (ra T none none) = .ok (.nx (ra T (some (.ow (.lst P))) none)) := by simp [h]
theorem r0n (h : m_lengths_parts_of [.sh T] = .ok (.non, false, [.sh T])) : q_lengths_read_length_0 (ra T none none) = .ok (.nx (ra T (some (.sh .non)) none)) := by simp [h]
theorem r1n : q_lengths_read_length_1 (ra T (some (.sh .non)) none) = .ok (.nx (ra T (some (.sh .non)) (some (.sh .non)))) := by simp
theorem r1l (h : m_lengths_length_at [.sh (.lst P), .sh (.int 0)] = .ok (F, false, [.sh (.lst P), .sh (.int 0)])) : q_lengths_read_length_1 (ra T (some (.ow (.lst P))) none) = .ok (.nx (ra T (some (.sh (.lst P))) (some (.sh F)))) := by simp [h, opIsN, isNon]
theorem r2n {f : Option B} : q_lengths_read_length_2 (ra T (some (.sh .non)) f) = .exc ⟨1, []⟩ (ra T (some (.sh .non)) f) := by simp
theorem r2f : q_lengths_read_length_2 (ra T (some (.sh (.lst P))) (some (.sh .non))) = .exc ⟨1, []⟩ (ra T (some (.sh (.lst P))) (some (.sh .non))) := by simp [opIsN, isNon]
theorem r2j {q : Bool} (h : opNe (.int j) (.int (P.length : Int)) = some (.fl (.bl q))) : q_lengths_read_length_2 (ra T (some (.sh (.lst P))) (some (.sh (.tup [L3 a b c, .int j])))) = if q then .exc ⟨1, []⟩ (ra T (some (.sh (.lst P))) (some (.sh (.tup [L3 a b c, .int j])))) else .ok (.nx (ra T (some (.sh (.lst P))) (some (.sh (.tup [L3 a b c, .int j]))))) := by
  cases q <;> simp [opIsN, isNon, at2_1, h, -ev_opNe]
theorem r3 {p : Option B} : q_lengths_read_length_3 (ra T p (some (.sh (.tup [L3 a b c, .int j])))) = .ok (.rt (.vl (L3 a b c)) (ra T p (some (.sh (.tup [L3 a b c, .int j]))))) := by simp [at2_0]
end
theorem seq_exc {f g : FS} {e e' : DEnv} {x : XV} (h : f e = .exc x e') : fSeq f g e = .exc x e' := by
  unfold fSeq
  rw [h]
  rfl
theorem fn_exc {N : Nat} {body : FS} {bs : List B} {x : XV} {e : DEnv} (h : body (env0 N bs) = .exc x e) : fFn N body bs = .exc x e := by
  unfold fFn
  rw [h]
  rfl
section
variable {s : Tk} (hs : s.length ≤ 90000) (ha : Asc s)
include hs ha
theorem read_ok : (readX s = none ∧ ∃ e, m_lengths_read_length [.sh (tS s)] = .exc ⟨1, []⟩ e) ∨ ∃ v, readX s = some v ∧ m_lengths_read_length [.sh (tS s)] = .ok (v3 v, false, [.sh (tS s)]) := by
  obtain ⟨b, hp, hb⟩ := parts_of_ok hs ha
  subst hb
  unfold readX
  cases ht : toks s with
  | none =>
    rw [ht] at hp
    exact .inl ⟨rfl, _, fn_exc (seq_nx (r0n hp) (seq_nx r1n (seq_exc r2n)))⟩
  | some l =>
    rw [ht] at hp
    have hf := toks_fine ha hs ht
    have hP : (l.map tS).length = l.length := List.length_map _
    have hla := length_at_ok hf
    have e0 := r0l hp
    rcases lenD_read (l := l) with ⟨h1, h2 | ⟨v, j, h2, h3⟩⟩ | ⟨v, h1, h2⟩
    · rw [h2] at hla
      exact .inl ⟨h1, _, fn_exc (seq_nx e0 (seq_nx (r1l hla) (seq_exc r2f)))⟩
    · rw [h2] at hla
      have h4 : opNe (.int j) (.int ((l.map tS).length : Int)) = some (.fl (.bl true)) := by rw [ev_opNe, deq_II, decide_eq_false (by rw [hP]; exact h3)]; rfl
      exact .inl ⟨h1, _, fn_exc (seq_nx e0 (seq_nx (r1l hla) (seq_exc (r2j h4))))⟩
    · rw [h2] at hla
      have h4 : opNe (.int (l.length : Int)) (.int ((l.map tS).length : Int)) = some (.fl (.bl false)) := by rw [ev_opNe, deq_II, decide_eq_true (by rw [hP])]; rfl
      exact .inr ⟨v, h1, fn_rt (seq_nx e0 (seq_nx (r1l hla) (seq_nx (r2j h4) r3))) rfl⟩
def toldD : Option V3 → D
  | none => .lst []
  | some v => .lst [.int v.1, .int v.2.1, .int v.2.2]
theorem told_ok : m_law_told [.sh (tS s)] = .ok (toldD (readX s), true, [.sh (tS s)]) := by
  rcases read_ok hs ha with ⟨h, e, hm⟩ | ⟨v, h, hm⟩
  · rw [h]
    generalize tS s = T at *
    simp [m_law_told, hm, toldD, dropAll, noX, goneO, lkI, offT]
  · rw [h]
    generalize tS s = T at *
    simp [m_law_told, hm, whole_ok, rows_ok, cols_ok, toldD]
end
end K12

/-! The picks; the terms that are drawn. -/
namespace K12
open PySem DL SX
open P12
theorem pick_hi {c s n : Int} (hn : 0 < n) (hn2 : n ≤ 10 ^ 100) (hc : 1000000000000000000 ≤ c) : m_law_pick [.br (TP c s), .sh (.int n)] = .ok (.int (c.fmod n), false, [.br (TP (c.fdiv n) s), .sh (.int n)]) := by
  have h1 := modOk_of (i := c) hn
  have h2 := divOk_of (i := c) hn (by omega)
  simp [m_law_pick, b_law_pick, k_law_pick_0, k_law_pick_1, k_law_pick_2, k_law_pick_3, q_law_pick_0, q_law_pick_1, q_law_pick_2, q_law_pick_3, opInt, h1, h2, hc]
theorem pick_lo {c s n : Int} (h : TpOk c s) (hn : 0 < n) (hc : c < 1000000000000000000) : ∃ r s' : Int, m_law_pick [.br (TP c s), .sh (.int n)] = .ok (.int (r.fmod n), false, [.br (TP c s'), .sh (.int n)]) ∧ 0 ≤ s' ∧ s' < 10 ^ 12 := by
  obtain ⟨c0, s0, s1⟩ := h
  have hc' : ¬ (1000000000000000000 ≤ c) := by omega
  have e1 := mulOk_of (i := s) (j := 48271) (by omega) (by omega)
  have e2 := mulOk_of (i := c) (j := 69621) (by omega) (by omega)
  have e3 := fun i => modOk_of (i := i) (j := 2147483647) (by omega)
  have e4 := fun i => modOk_of (i := i) (j := 2147483399) (by omega)
  have e5 := fun i => modOk_of (i := i) hn
  have e6 := fun i => divOk_of (i := i) (j := 64) (by omega) (by omega)
  have b0 : 0 ≤ (s * 48271 + c * 69621 + 11).fmod 2147483647 := Int.fmod_nonneg_of_pos _ (by omega)
  have b1 : (s * 48271 + c * 69621 + 11).fmod 2147483647 < 2147483647 := Int.fmod_lt_of_pos _ (by omega)
  generalize hx : (s * 48271 + c * 69621 + 11).fmod 2147483647 = x at b0 b1
  have e7 := mulOk_of (i := x) (j := x) (by omega) (by omega)
  have e8 := mulOk_of (i := x) (j := 40692) (by omega) (by omega)
  refine ⟨((x * x + x * 40692 + 7).fmod 2147483399).fdiv 64, x, ?_, b0, by omega⟩
  simp [m_law_pick, b_law_pick, k_law_pick_0, k_law_pick_1, k_law_pick_2, k_law_pick_3, q_law_pick_0, q_law_pick_1, q_law_pick_2, q_law_pick_3, opInt, hc', e1, e2, e3, e4, e5, e6, e7, e8, hx]
theorem picks : Picks m_law_pick := fun c s n h hn hn2 => by
  by_cases hc : 1000000000000000000 ≤ c
  · refine ⟨_, _, _, pick_hi hn hn2 hc, Int.fmod_nonneg_of_pos _ hn, Int.fmod_lt_of_pos _ hn, Int.fdiv_nonneg h.c0 (by omega), h.s0, h.s1⟩
  · obtain ⟨r, s', e, h1, h2⟩ := pick_lo h hn (by omega)
    exact ⟨_, _, _, e, Int.fmod_nonneg_of_pos _ hn, Int.fmod_lt_of_pos _ hn, h.c0, h1, h2⟩
/-- a cell's tape -/
theorem tape_ok (ns : List Int) (k : Int) (hk : 0 ≤ k) (hk2 : k ≤ 10 ^ 6) : ∃ c s, m_law_tape [.sh (.rol (ns.map .int)), .sh (.int k)] = .ok (TP c s, true, [.sh (.rol (ns.map .int)), .sh (.int k)]) ∧ TpOk c s := by
  have e1 := mulOk_of (i := 7919) (j := k) (by omega) (by omega)
  by_cases h : k < (ns.length : Int)
  · have hn : k.toNat < ns.length := by omega
    refine ⟨if ns[k.toNat] < 0 then -ns[k.toNat] else ns[k.toNat], 7919 * k + 104729, ?_, ?_, by omega, by omega⟩
    · simp [m_law_tape, b_law_tape, h, hk, e1, List.getElem?_eq_getElem hn]
    · split <;> omega
  · refine ⟨0, 7919 * k + 104729, ?_, by omega, by omega, by omega⟩
    simp [m_law_tape, b_law_tape, h, hk, e1]

theorem pickN {m : Fn} {c s n : Int} (P : Picks m) (tp : TpOk c s) (hn : 0 < n) (hn2 : n ≤ 10 ^ 100) : ∃ (r : Nat) (c' s' : Int), m [.br (TP c s), .sh (.int n)] = .ok (.int r, false, [.br (TP c' s'), .sh (.int n)]) ∧ (r : Int) < n ∧ TpOk c' s' := by
  obtain ⟨r, c', s', h1, h2⟩ := P c s n tp hn hn2
  obtain ⟨r, rfl⟩ := Int.eq_ofNat_of_zero_le h2.lo
  exact ⟨r, c', s', h1, h2.hi, h2.tp⟩

theorem nat_cases4 {r : Nat} (h : (r : Int) < 4) : r = 0 ∨ r = 1 ∨ r = 2 ∨ r = 3 := by omega
theorem g_0 : opMulA (.str " ") (.int 0) = some (.fl (tS (List.replicate 0 32))) := by kernel_rfl
theorem g_1 : opMulA (.str " ") (.int 1) = some (.fl (tS (List.replicate 1 32))) := by kernel_rfl
theorem g_3 : opMulA (.str " ") (.int 3) = some (.fl (tS (List.replicate 3 32))) := by kernel_rfl
theorem at4 (a b c d : D) : L2.atI [a, b, c, d] 0 = some a ∧ L2.atI [a, b, c, d] 1 = some b ∧ L2.atI [a, b, c, d] 2 = some c ∧ L2.atI [a, b, c, d] 3 = some d := ⟨rfl, rfl, rfl, rfl⟩
section
variable {c s : Int}
theorem gap_ok (tp : TpOk c s) : ∃ (g : Nat) (c' s' : Int), m_law_gap [.br (TP c s)] = .ok (tS (List.replicate g 32), false, [.br (TP c' s')]) ∧ g ≤ 3 ∧ TpOk c' s' := by
  obtain ⟨r, c1, s1, e1, l1, t1⟩ := pickN picks tp (n := 4) (by omega) (by omega)
  have g0 := g_0
  have g1 := g_1
  have g3 := g_3
  rcases nat_cases4 l1 with rfl | rfl | rfl | rfl
  · refine ⟨0, c1, s1, ?_, by omega, t1⟩
    generalize tS (List.replicate 0 32) = G at *
    simp [m_law_gap, e1, g0]
  · refine ⟨0, c1, s1, ?_, by omega, t1⟩
    generalize tS (List.replicate 0 32) = G at *
    simp [m_law_gap, e1, g0]
  · refine ⟨1, c1, s1, ?_, by omega, t1⟩
    generalize tS (List.replicate 1 32) = G at *
    simp [m_law_gap, e1, g1]
  · refine ⟨3, c1, s1, ?_, by omega, t1⟩
    generalize tS (List.replicate 3 32) = G at *
    simp [m_law_gap, e1, g3]
end
/-! ### one term -/
abbrev u0 : FS := fSet 5 (fC (.int 1))
abbrev u1 : FS := (fIfS (fOr (fB (fOp2 opGt (fVar 4) (fC (.int 0)))) (fB (fOp2 opEq (fCall [true, false] [] m_law_pick (fA1 (fVar 0) (fA1 (fC (.int 3)) fA0))) (fC (.int 1)))))
  (fSeq (fSet 5 (fIf (fB (fOp2 opGt (fVar 4) (fC (.int 0)))) (fOp2 opIx (fLst (fA1 (fC (.int 1)) (fA1 (fOp1 opNeg (fC (.int 1))) fA0))) (fCall [true, false] [] m_law_pick (fA1 (fVar 0) (fA1 (fC (.int 2)) fA0)))) (fOp1 opNeg (fC (.int 1)))))
  (fDrop (fApp 1 (fIf (fB (fOp2 opEq (fVar 5) (fC (.int 1)))) (fC (.str "+")) (fC (.str "-")))))) fNext)
abbrev u2 : FS := (fSet 6 (fCall [true, false] [] m_law_pick (fA1 (fVar 0) (fA1 (fOp2 opIx (fLst (fA1 (fC (.int 10)) (fA1 (fC (.int 10)) (fA1 (fC (.int 2000)) fA0)))) (fCall [true, false] [] m_law_pick (fA1 (fVar 0) (fA1 (fC (.int 3)) fA0)))) fA0))))
abbrev u3 : FS := (fSet 7 (fCall [true, false] [] m_law_pick (fA1 (fVar 0) (fA1 (fC (.int 5)) fA0))))
abbrev u4 : FS := (fIfS (fB (fOp2 opLt (fVar 7) (fC (.int 2))))
  (fSeq (fSet 1 (fOp2 opAdd (fVar 1) (fLst (fA1 (fCB opStrI (fA1 (fVar 6) fA0)) (fA1 (fC (.str "*")) (fA1 (fOp2 opIx (fC (.str "NW")) (fVar 7)) fA0))))))
  (fSetIx 2 (fVar 7) (fOp2 opAdd (fOp2 opIx (fVar 2) (fVar 7)) (fOp2 opMul (fVar 5) (fVar 6))))) (fIfS (fB (fOp2 opLt (fVar 7) (fC (.int 4))))
  (fSeq (fDrop (fApp 1 (fOp2 opIx (fC (.str "NW")) (fOp2 opSub (fVar 7) (fC (.int 2))))))
  (fSetIx 2 (fOp2 opSub (fVar 7) (fC (.int 2))) (fOp2 opAdd (fOp2 opIx (fVar 2) (fOp2 opSub (fVar 7) (fC (.int 2)))) (fVar 5)))) (fSeq (fDrop (fApp 1 (fCB opStrI (fA1 (fVar 6) fA0))))
  (fSetIx 2 (fC (.int 2)) (fOp2 opAdd (fOp2 opIx (fVar 2) (fC (.int 2))) (fOp2 opMul (fVar 5) (fVar 6)))))))
theorem t_cut : b_law_terms_0 = fSeq u0 (fSeq u1 (fSeq u2 (fSeq u3 u4))) := rfl
abbrev tn (C : D) (P : List D) (m : V3) (n k : Int) (x y z : Option B) : DEnv := [some (.br C), some (.ow (.lst P)), some (.ow (.lst [.int m.1, .int m.2.1, .int m.2.2])), some (.sh (.int n)), some (.sh (.int k)), x, y, z]
theorem strI_ok {a : Nat} (h : a < 10 ^ 100) : opStrI [.int (a : Int)] = some (.fl (tS (dec a))) := by
  show (if (a : Int).natAbs.log2 < 1920 then some (RV.fl (D.str (Str.ofString (toString (a : Int))))) else none) = _
  have hl : (a : Int).natAbs.log2 < 1920 := by
    have : (2 : Nat) ^ 665 > 10 ^ 100 := by decide +kernel
    have := log2_of_lt (n := a) (k := 665) (by omega) (by decide)
    rw [Int.natAbs_natCast]
    omega
  rw [if_pos hl, num_S]
theorem nw0 : opIx (.str "NW") (.int 0) = some (.fl (tS [78])) := by kernel_rfl
theorem nw1 : opIx (.str "NW") (.int 1) = some (.fl (tS [87])) := by kernel_rfl
section
variable {c s : Int} {P : List D} {m : V3} {n k : Int} {x y z : Option B}
theorem u2_ok (tp : TpOk c s) : ∃ (a : Nat) (c' s' : Int), u2 (tn (TP c s) P m n k x y z) = .ok (.nx (tn (TP c' s') P m n k x (some (.sh (.int a))) z)) ∧ a < 2000 ∧ TpOk c' s' := by
  obtain ⟨r, c1, s1, e1, l1, t1⟩ := pickN picks tp (n := 3) (by omega) (by omega)
  rcases (by omega : r = 0 ∨ r = 1 ∨ r = 2) with rfl | rfl | rfl
  · obtain ⟨a, c2, s2, e2, l2, t2⟩ := pickN picks t1 (n := 10) (by omega) (by omega)
    exact ⟨a, c2, s2, by simp [e1, e2], by omega, t2⟩
  · obtain ⟨a, c2, s2, e2, l2, t2⟩ := pickN picks t1 (n := 10) (by omega) (by omega)
    exact ⟨a, c2, s2, by simp [e1, e2], by omega, t2⟩
  · obtain ⟨a, c2, s2, e2, l2, t2⟩ := pickN picks t1 (n := 2000) (by omega) (by omega)
    exact ⟨a, c2, s2, by simp [e1, e2], by omega, t2⟩
theorem u3_ok (tp : TpOk c s) : ∃ (q : Nat) (c' s' : Int), u3 (tn (TP c s) P m n k x y z) = .ok (.nx (tn (TP c' s') P m n k x y (some (.sh (.int q))))) ∧ q < 5 ∧ TpOk c' s' := by
  obtain ⟨r, c1, s1, e1, l1, t1⟩ := pickN picks tp (n := 5) (by omega) (by omega)
  exact ⟨r, c1, s1, by simp [e1], by omega, t1⟩
theorem u4_ok {C : D} {b : Bool} {a q : Nat} (ha : a < 2000) (hq : q < 5) (hP : P.length < 900) :
    u4 (tn C P m n k (some (.sh (.int (sg b)))) (some (.sh (.int a))) (some (.sh (.int q)))) = .ok (.nx (tn C (P ++ (body ⟨b, q, a⟩).map tS) (add3 m (sg b) (worth ⟨b, q, a⟩)) n k (some (.sh (.int (sg b)))) (some (.sh (.int a))) (some (.sh (.int q))))) := by
  have hS := strI_ok (a := a) (by omega)
  have hm : mulOk (sg b) (a : Int) = true := mulOk_of (by cases b <;> simp [sg]) (by omega)
  have e42 : D.str (Str.ofString "*") = tS [42] := congrArg D.str w_st
  have n0 := nw0
  have n1 := nw1
  have hA : ∀ N, opAdd (.lst P) (.lst [tS (dec a), tS [42], N]) = some (.nl (P ++ [tS (dec a), tS [42], N])) := fun N => by
    rw [ev_addL, if_pos (by show P.length + 3 ≤ 1000000; omega)]
  have hP2 : P.length < 1000000 := by omega
  obtain ⟨m0, m1, m2⟩ := m
  generalize hsg : sg b = G at *
  have hb0 : (body ⟨b, 0, a⟩).map tS = [tS (dec a), tS [42], tS [78]] := rfl
  have hb1 : (body ⟨b, 1, a⟩).map tS = [tS (dec a), tS [42], tS [87]] := rfl
  have hb2 : (body ⟨b, 2, a⟩).map tS = [tS [78]] := rfl
  have hb3 : (body ⟨b, 3, a⟩).map tS = [tS [87]] := rfl
  have hb4 : (body ⟨b, 4, a⟩).map tS = [tS (dec a)] := rfl
  have hw0 : worth ⟨b, 0, a⟩ = ((a : Int), 0, 0) := rfl
  have hw1 : worth ⟨b, 1, a⟩ = (0, (a : Int), 0) := rfl
  have hw2 : worth ⟨b, 2, a⟩ = (1, 0, 0) := rfl
  have hw3 : worth ⟨b, 3, a⟩ = (0, 1, 0) := rfl
  have hw4 : worth ⟨b, 4, a⟩ = (0, 0, (a : Int)) := rfl
  rcases (by omega : q = 0 ∨ q = 1 ∨ q = 2 ∨ q = 3 ∨ q = 4) with rfl | rfl | rfl | rfl | rfl
  · rw [hb0, hw0]
    generalize tS (dec a) = A at *
    generalize tS [42] = ST at *
    generalize tS [78] = N at *
    simp [hS, hm, e42, n0, hA, hP2, add3, -ev_addL]
  · rw [hb1, hw1]
    generalize tS (dec a) = A at *
    generalize tS [42] = ST at *
    generalize tS [87] = N at *
    simp [hS, hm, e42, n1, hA, hP2, add3, -ev_addL]
  · rw [hb2, hw2]
    generalize tS [78] = N at *
    simp [n0, hP2, add3]
  · rw [hb3, hw3]
    generalize tS [87] = N at *
    simp [n1, hP2, add3]
  · rw [hb4, hw4]
    generalize tS (dec a) = A at *
    simp [hS, hm, hP2, add3]
theorem u1_first (tp : TpOk c s) (hP : P.length < 900) : ∃ (b : Bool) (c' s' : Int), u1 (tn (TP c s) P m n 0 (some (.sh (.int 1))) y z) = .ok (.nx (tn (TP c' s') (P ++ (if b then [tS [45]] else [])) m n 0 (some (.sh (.int (sg b)))) y z)) ∧ TpOk c' s' := by
  obtain ⟨r, c1, s1, e1, l1, t1⟩ := pickN picks tp (n := 3) (by omega) (by omega)
  have e45 : D.str (Str.ofString "-") = tS [45] := congrArg D.str w_mi
  have hP2 : P.length < 1000000 := by omega
  by_cases hr : r = 1
  · subst hr
    refine ⟨true, c1, s1, ?_, t1⟩
    rw [if_pos rfl]
    generalize tS [45] = M at *
    simp [e1, e45, hP2, sg]
  · have hr' : ¬ (r : Int) = 1 := by omega
    refine ⟨false, c1, s1, ?_, t1⟩
    rw [if_neg (by decide), List.append_nil]
    simp [e1, hr, hr', sg]
theorem u1_next (tp : TpOk c s) (hk : 0 < k) (hP : P.length < 900) : ∃ (b : Bool) (c' s' : Int), u1 (tn (TP c s) P m n k (some (.sh (.int 1))) y z) = .ok (.nx (tn (TP c' s') (P ++ [tS (if b then [45] else [43])]) m n k (some (.sh (.int (sg b)))) y z)) ∧ TpOk c' s' := by
  obtain ⟨r, c1, s1, e1, l1, t1⟩ := pickN picks tp (n := 2) (by omega) (by omega)
  have e45 : D.str (Str.ofString "-") = tS [45] := congrArg D.str w_mi
  have e43 : D.str (Str.ofString "+") = tS [43] := congrArg D.str w_pl
  have hP2 : P.length < 1000000 := by omega
  rcases (by omega : r = 0 ∨ r = 1) with rfl | rfl
  · refine ⟨false, c1, s1, ?_, t1⟩
    rw [if_neg (by decide)]
    generalize tS [43] = M at *
    simp [e1, e43, hP2, sg, hk]
  · refine ⟨true, c1, s1, ?_, t1⟩
    rw [if_pos rfl]
    generalize tS [45] = M at *
    simp [e1, e45, hP2, sg, hk]
end
end K12

/-! The terms that are drawn. -/
namespace K12
open PySem DL SX
open P12
theorem tailT_app : ∀ (ts : List Tm) (u : Tm), tailT (ts ++ [u]) = tailT ts ++ (if u.neg then [45] else [43]) :: body u
  | [], u => by show _ :: (body u ++ []) = _; rw [List.append_nil]; rfl
  | t :: ts, u => by
    show (if t.neg then [45] else [43]) :: (body t ++ tailT (ts ++ [u])) = (if t.neg then [45] else [43]) :: (body t ++ tailT ts) ++ _
    rw [tailT_app ts u, List.cons_append, List.append_assoc]
theorem headT_app (t : Tm) (ts : List Tm) (u : Tm) : headT (t :: (ts ++ [u])) = headT (t :: ts) ++ (if u.neg then [45] else [43]) :: body u := by
  show (if t.neg then [[45]] else []) ++ (body t ++ tailT (ts ++ [u])) = (if t.neg then [[45]] else []) ++ (body t ++ tailT ts) ++ _
  rw [tailT_app, List.append_assoc, List.append_assoc]
theorem total_app : ∀ (ts : List Tm) (acc : V3) (u : Tm), total acc (ts ++ [u]) = add3 (total acc ts) (sg u.neg) (worth u)
  | [], _, _ => rfl
  | _ :: ts, _, u => total_app ts _ u
theorem body_len (t : Tm) : (body t).length ≤ 3 := by unfold body; (repeat' split) <;> simp
theorem tail_len : ∀ ts : List Tm, (tailT ts).length ≤ 4 * ts.length
  | [] => Nat.le_refl _
  | t :: ts => by
    have := tail_len ts
    have := body_len t
    show (_ :: (body t ++ tailT ts)).length ≤ 4 * (ts.length + 1)
    rw [List.length_cons, List.length_append]; omega
theorem head_len (t : Tm) (ts : List Tm) : (headT (t :: ts)).length ≤ 4 * ts.length + 4 := by
  have := tail_len ts
  have := body_len t
  show ((if t.neg then [[45]] else []) ++ (body t ++ tailT ts)).length ≤ _
  rw [List.length_append, List.length_append]
  cases t.neg <;> simp <;> omega
abbrev tw (C : D) (P : List D) (m : V3) (n : Int) (w x y z : Option B) : DEnv := [some (.br C), some (.ow (.lst P)), some (.ow (.lst [.int m.1, .int m.2.1, .int m.2.2])), some (.sh (.int n)), w, x, y, z]
section
variable {c s : Int} {P : List D} {m : V3} {n k : Int} {x y z : Option B}
theorem u0_ok {C : D} : u0 (tn C P m n k x y z) = .ok (.nx (tn C P m n k (some (.sh (.int 1))) y z)) := by simp
theorem turn_first (tp : TpOk c s) : ∃ (t : Tm) (c' s' : Int) (x' y' z' : Option B), b_law_terms_0 (tn (TP c s) [] m n 0 x y z) = .ok (.nx (tn (TP c' s') ((headT [t]).map tS) (add3 m (sg t.neg) (worth t)) n 0 x' y' z')) ∧ t.amt < 2000 ∧ TpOk c' s' := by
  obtain ⟨b, c1, s1, h1, t1⟩ := u1_first (m := m) (n := n) (P := []) (y := y) (z := z) tp (by simp)
  obtain ⟨a, c2, s2, h2, l2, t2⟩ := u2_ok (P := [] ++ (if b then [tS [45]] else [])) (m := m) (n := n) (k := 0) (x := some (.sh (.int (sg b)))) (y := y) (z := z) t1
  obtain ⟨q, c3, s3, h3, l3, t3⟩ := u3_ok (P := [] ++ (if b then [tS [45]] else [])) (m := m) (n := n) (k := 0) (x := some (.sh (.int (sg b)))) (y := some (.sh (.int a))) (z := z) t2
  have h4 := u4_ok (C := TP c3 s3) (P := [] ++ (if b then [tS [45]] else [])) (m := m) (n := n) (k := 0) (b := b) l2 l3 (by cases b <;> simp)
  refine ⟨⟨b, q, a⟩, c3, s3, some (.sh (.int (sg b))), some (.sh (.int a)), some (.sh (.int q)), ?_, l2, t3⟩
  · rw [t_cut]
    refine (seq_nx u0_ok (seq_nx h1 (seq_nx h2 (seq_nx h3 h4)))).trans ?_
    have : (headT [⟨b, q, a⟩]).map tS = [] ++ (if b then [tS [45]] else []) ++ (body ⟨b, q, a⟩).map tS := by
      show ((if b then [[45]] else []) ++ (body ⟨b, q, a⟩ ++ [])).map tS = _
      rw [List.append_nil, List.map_append, List.nil_append]
      cases b <;> rfl
    rw [this]
theorem turn_next (tp : TpOk c s) (hk : 0 < k) (hP : P.length < 800) : ∃ (t : Tm) (c' s' : Int) (x' y' z' : Option B), b_law_terms_0 (tn (TP c s) P m n k x y z) = .ok (.nx (tn (TP c' s') (P ++ ((if t.neg then [45] else [43]) :: body t).map tS) (add3 m (sg t.neg) (worth t)) n k x' y' z')) ∧ t.amt < 2000 ∧ TpOk c' s' := by
  obtain ⟨b, c1, s1, h1, t1⟩ := u1_next (m := m) (n := n) (P := P) (y := y) (z := z) tp hk (by omega)
  obtain ⟨a, c2, s2, h2, l2, t2⟩ := u2_ok (P := P ++ [tS (if b then [45] else [43])]) (m := m) (n := n) (k := k) (x := some (.sh (.int (sg b)))) (y := y) (z := z) t1
  obtain ⟨q, c3, s3, h3, l3, t3⟩ := u3_ok (P := P ++ [tS (if b then [45] else [43])]) (m := m) (n := n) (k := k) (x := some (.sh (.int (sg b)))) (y := some (.sh (.int a))) (z := z) t2
  have h4 := u4_ok (C := TP c3 s3) (P := P ++ [tS (if b then [45] else [43])]) (m := m) (n := n) (k := k) (b := b) l2 l3 (by simp; omega)
  refine ⟨⟨b, q, a⟩, c3, s3, some (.sh (.int (sg b))), some (.sh (.int a)), some (.sh (.int q)), ?_, l2, t3⟩
  · rw [t_cut]
    refine (seq_nx u0_ok (seq_nx h1 (seq_nx h2 (seq_nx h3 h4)))).trans ?_
    rw [List.map_cons, List.append_assoc]
    rfl
end
theorem loopF_cons {fg : D → DEnv → Option DEnv} {fb : FS} {d : D} {ds : List D} {e e1 e2 : DEnv} {r : Res Out} (h : fg d e = some e1) (h2 : fb e1 = .ok (.nx e2)) (h3 : loopF fg fb ds e2 = r) : loopF fg fb (d :: ds) e = r := by
  rw [ev_loopF1, h]
  show ((fb e1).bind _) = r
  rw [h2]
  exact h3
theorem terms_loop : ∀ (js : List Nat), (∀ j ∈ js, 0 < j) → ∀ (c s : Int) (t : Tm) (ts : List Tm) (n : Int) (w x y z : Option B), TpOk c s → (∀ u ∈ t :: ts, u.amt < 2000) → ts.length + js.length ≤ 100 →
    ∃ (ts' : List Tm) (c' s' : Int) (w' x' y' z' : Option B), loopF (fgName 4) b_law_terms_0 (js.map fun (j : Nat) => D.int (j : Int)) (tw (TP c s) ((headT (t :: ts)).map tS) (total (0, 0, 0) (t :: ts)) n w x y z) = .ok (.nx (tw (TP c' s') ((headT (t :: ts')).map tS) (total (0, 0, 0) (t :: ts')) n w' x' y' z')) ∧ (∀ u ∈ t :: ts', u.amt < 2000) ∧ ts'.length = ts.length + js.length ∧ TpOk c' s'
  | [], _, c, s, t, ts, n, w, x, y, z, tp, ha, _ => ⟨ts, c, s, w, x, y, z, rfl, ha, rfl, tp⟩
  | j :: js, hj, c, s, t, ts, n, w, x, y, z, tp, ha, hl => by
    rw [List.length_cons] at hl
    have hlen := head_len t ts
    obtain ⟨u, c1, s1, x1, y1, z1, h1, l1, t1⟩ := turn_next (P := (headT (t :: ts)).map tS) (m := total (0, 0, 0) (t :: ts)) (n := n) (k := (j : Int)) (x := x) (y := y) (z := z) tp (by have := hj j List.mem_cons_self; omega) (by rw [List.length_map]; omega)
    obtain ⟨ts', c2, s2, w2, x2, y2, z2, h2, a2, l2, t2⟩ := terms_loop js (fun i hi => hj i (List.mem_cons_of_mem _ hi)) c1 s1 t (ts ++ [u]) n (some (.sh (.int (j : Int)))) x1 y1 z1 t1 (by
      intro v hv
      rcases List.mem_cons.mp hv with rfl | hv
      · exact ha v List.mem_cons_self
      · rcases List.mem_append.mp hv with hv | hv
        · exact ha v (List.mem_cons_of_mem _ hv)
        · rw [List.mem_singleton.mp hv]; exact l1) (by rw [List.length_append, List.length_singleton]; omega)
    refine ⟨ts', c2, s2, w2, x2, y2, z2, ?_, a2, by rw [l2, List.length_append, List.length_singleton, List.length_cons]; omega, t2⟩
    rw [headT_app, List.map_append, show total (0, 0, 0) (t :: (ts ++ [u])) = add3 (total (0, 0, 0) (t :: ts)) (sg u.neg) (worth u) from total_app (t :: ts) _ u] at h2
    rw [List.map_cons]
    exact loopF_cons (by rfl) h1 h2
theorem terms_ok {c s : Int} (tp : TpOk c s) : ∃ (t : Tm) (ts : List Tm) (c' s' : Int), m_law_terms [.br (TP c s)] = .ok (.lst [lT (headT (t :: ts)), .lst [.int (total (0, 0, 0) (t :: ts)).1, .int (total (0, 0, 0) (t :: ts)).2.1, .int (total (0, 0, 0) (t :: ts)).2.2]], true, [.br (TP c' s')]) ∧ (∀ u ∈ t :: ts, u.amt < 2000) ∧ ts.length ≤ 4 ∧ TpOk c' s' := by
  obtain ⟨r, c1, s1, e1, l1, t1⟩ := pickN picks tp (n := 5) (by omega) (by omega)
  obtain ⟨t, c2, s2, x2, y2, z2, h2, a2, t2⟩ := turn_first (m := (0, 0, 0)) (n := ((r + 1 : Nat) : Int)) (x := none) (y := none) (z := none) t1
  obtain ⟨ts, c3, s3, w3, x3, y3, z3, h3, a3, l3, t3⟩ := terms_loop ((List.range r).map (· + 1)) (by intro j hj; obtain ⟨i, _, rfl⟩ := List.mem_map.mp hj; omega) c2 s2 t [] ((r + 1 : Nat) : Int) (some (.sh (.int 0))) x2 y2 z2 t2 (by intro u hu; rw [List.mem_singleton.mp hu]; exact a2) (by simp; omega)
  have hlen : ts.length = r := by rw [l3]; simp
  refine ⟨t, ts, c3, s3, ?_, a3, by omega, t3⟩
  let Z : Option B := none
  have q0 : q_law_terms_0 (env0 8 [.br (TP c s)]) = .ok (.nx [some (.br (TP c s)), some (.ow (.lst [])), none, none, none, none, none, none]) := by simp
  have q1 : q_law_terms_1 [some (.br (TP c s)), some (.ow (.lst [])), none, none, none, none, none, none] = .ok (.nx [some (.br (TP c s)), some (.ow (.lst [])), some (.ow (.lst [.int 0, .int 0, .int 0])), none, none, none, none, none]) := by simp
  have q2 : q_law_terms_2 [some (.br (TP c s)), some (.ow (.lst [])), some (.ow (.lst [.int 0, .int 0, .int 0])), none, none, none, none, none] = .ok (.nx (tw (TP c1 s1) [] (0, 0, 0) ((r + 1 : Nat) : Int) none none none none)) := by
    have : (1 : Int) + (r : Int) = ((r + 1 : Nat) : Int) := by omega
    simp [e1, this]
  have q3 : q_law_terms_3 (tw (TP c1 s1) [] (0, 0, 0) ((r + 1 : Nat) : Int) none none none none) = .ok (.nx (tw (TP c3 s3) ((headT (t :: ts)).map tS) (total (0, 0, 0) (t :: ts)) ((r + 1 : Nat) : Int) w3 x3 y3 z3)) := by
    have hi := fiR1_ok (fr := fA1 (fVar 3) fA0) (e := tw (TP c1 s1) [] (0, 0, 0) ((r + 1 : Nat) : Int) none none none none) (e' := tw (TP c1 s1) [] (0, 0, 0) ((r + 1 : Nat) : Int) none none none none) (ts := [.sl 3]) (n := ((r + 1 : Nat) : Int)) rfl rfl (ok62_n (by omega))
    rw [Int.toNat_natCast, ev_rangeN, List.range_succ_eq_map, List.map_cons, List.map_map] at hi
    refine fFor_ok hi (loopF_cons (e1 := tn (TP c1 s1) [] (0, 0, 0) ((r + 1 : Nat) : Int) 0 none none none) rfl h2 ?_)
    rw [List.map_map] at h3
    exact h3
  have q4 : q_law_terms_4 (tw (TP c3 s3) ((headT (t :: ts)).map tS) (total (0, 0, 0) (t :: ts)) ((r + 1 : Nat) : Int) w3 x3 y3 z3) = .ok (.rt (.nw (.lst [lT (headT (t :: ts)), .lst [.int (total (0, 0, 0) (t :: ts)).1, .int (total (0, 0, 0) (t :: ts)).2.1, .int (total (0, 0, 0) (t :: ts)).2.2]])) [some (.br (TP c3 s3)), some (.sh (lT (headT (t :: ts)))), some (.sh (.lst [.int (total (0, 0, 0) (t :: ts)).1, .int (total (0, 0, 0) (t :: ts)).2.1, .int (total (0, 0, 0) (t :: ts)).2.2])), some (.sh (.int ((r + 1 : Nat) : Int))), w3, x3, y3, z3]) := by
    obtain ⟨P, hP⟩ : ∃ P, P = (headT (t :: ts)).map tS := ⟨_, rfl⟩
    rw [show lT (headT (t :: ts)) = D.lst P from by rw [hP], ← hP]
    generalize total (0, 0, 0) (t :: ts) = M at *
    simp
  exact fn_rt (seq_nx q0 (seq_nx q1 (seq_nx q2 (seq_nx q3 q4)))) rfl
end K12

/-! Length.text and _law_text. -/
namespace K12
open PySem DL SX
open P12
def sgnT (f : Tk) (b : Bool) : Tk := if f = [] then (if b then [45] else []) else (if b then [32, 45, 32] else [32, 43, 32])
def trmT (a : Nat) (l : Tk) : Tk := if l = [] then dec a else if a = 1 then l else dec a ++ ([32, 42, 32] ++ l)
def addT (f : Tk) (i : Int) (l : Tk) : Tk := if i = 0 then f else (f ++ sgnT f (decide (i < 0))) ++ trmT i.natAbs l
def txt3 (v : V3) : Tk := addT (addT (addT [] v.1 [78]) v.2.1 [87]) v.2.2 []
def txt (v : V3) : Tk := if txt3 v = [] then [48] else txt3 v
def Bd (i : Int) : Prop := -(10 ^ 30) < i ∧ i < 10 ^ 30
theorem dec_len {a : Nat} (h : a < 10 ^ 30) : (dec a).length ≤ 30 := TL.numL_len (by decide) h
theorem bd_abs {i : Int} (h : Bd i) : i.natAbs < 10 ^ 30 := by unfold Bd at h; omega
theorem trm_len {a : Nat} {l : Tk} (h : a < 10 ^ 30) (hl : l.length ≤ 1) : (trmT a l).length ≤ 40 := by
  have := dec_len h
  unfold trmT
  split
  · omega
  · split
    · omega
    · simp; omega
theorem sgn_len (f : Tk) (b : Bool) : (sgnT f b).length ≤ 3 := by unfold sgnT; split <;> cases b <;> simp
theorem add_len {f : Tk} {i : Int} {l : Tk} (h : Bd i) (hl : l.length ≤ 1) : (addT f i l).length ≤ f.length + 50 := by
  have := trm_len (bd_abs h) hl
  have := sgn_len f (decide (i < 0))
  unfold addT
  split
  · omega
  · rw [List.length_append, List.length_append]; omega
theorem addS {f g : Tk} (h : f.length + g.length ≤ 900000) : opAdd (tS f) (tS g) = some (.fl (tS (f ++ g))) := by
  show (if (S f).length + (S g).length ≤ lim then some (RV.fl (D.str (S f ++ S g))) else none) = _
  rw [S_len, S_len, if_pos (by rw [ev_lim]; omega), S_cat]
theorem addIS {f g : Tk} (h : f.length + g.length ≤ 900000) : opAddIS (tS f) (tS g) = some (.fl (tS (f ++ g))) := by
  show (if (S f).length + (S g).length ≤ lim then some (RV.fl (D.str (S f ++ S g))) else none) = _
  rw [S_len, S_len, if_pos (by rw [ev_lim]; omega), S_cat]
theorem truS {f : Tk} (h : f.length ≤ 900000) : truD (tS f) = some (!decide (f = [])) := by
  show (if (S f).length ≤ lim then some (((S f).length : Int) != 0) else none) = _
  rw [S_len, if_pos (by rw [ev_lim]; omega)]
  cases f <;> simp
  omega
theorem absN (i : Int) : opAbs [.int i] = some (.fl (.int ((i.natAbs : Nat) : Int))) := by
  rw [ev_absI]
  congr 3
  split <;> omega
theorem fmtI {a : Nat} (h : a < 10 ^ 100) : fmtD (.int (a : Int)) = some (S (dec a)) := by
  show (if (a : Int).natAbs.log2 < 1920 then some (Str.ofString (toString (a : Int))) else none) = _
  have hl : (a : Int).natAbs.log2 < 1920 := by
    have : (2 : Nat) ^ 665 > 10 ^ 100 := by decide +kernel
    have := log2_of_lt (n := a) (k := 665) (by omega) (by decide)
    rw [Int.natAbs_natCast]
    omega
  rw [if_pos hl, num_S]
theorem fmtS {f : Tk} (h : f.length ≤ 900000) : fmtD (tS f) = some (S f) := by
  show (if (S f).length ≤ lim then some (S f) else none) = _
  rw [S_len, if_pos (by rw [ev_lim]; omega)]
theorem w_mul : Str.ofString " * " = S [32, 42, 32] := by decide +kernel
theorem w_m3 : Str.ofString " - " = S [32, 45, 32] := by decide +kernel
theorem w_p3 : Str.ofString " + " = S [32, 43, 32] := by decide +kernel
theorem asc0 : Asc [] := fun c h => by cases h
section
variable {a : Nat} {l : Tk}
theorem term_text_ok (ha : a < 10 ^ 30) (hl : l.length ≤ 1) (hA : Asc l) : m_lengths_term_text [.sh (.int (a : Int)), .sh (tS l)] = .ok (tS (trmT a l), false, [.sh (.int (a : Int)), .sh (tS l)]) := by
  have h1 : opEq (tS l) (.str "") = some (.fl (.bl (decide (l = ([] : Tk))))) := by rw [w_e]; exact eqS hA asc0
  have h2 := strI_ok (a := a) (by omega)
  have h3 : opEq (.int (a : Int)) (.int 1) = some (.fl (.bl (decide (a = 1)))) := by
    rw [ev_opEq, deq_II]
    show some (RV.fl (D.bl (decide ((a : Int) = 1)))) = _
    rw [show decide ((a : Int) = 1) = decide (a = 1) from decide_eq_decide.mpr (by omega)]
  have h4 := fmtI (a := a) (by omega)
  have h5 := fmtS (f := l) (by omega)
  have h6 : fmtD (.str " * ") = some (S [32, 42, 32]) := by rw [w_mul]; exact fmtS (by decide)
  have hd := dec_len ha
  unfold trmT
  have hcat : Str.empty ++ S (dec a) ++ S [32, 42, 32] ++ S l = S (dec a ++ ([32, 42, 32] ++ l)) := by
    have h0 : Str.empty = S [] := rfl
    rw [h0, S_cat, S_cat, S_cat, List.nil_append, List.append_assoc]
  by_cases g : l = []
  · rw [decide_eq_true g] at h1
    rw [if_pos g]
    generalize tS l = L at *
    generalize tS (dec a) = A at *
    simp [m_lengths_term_text, h1, h2, -ev_opEq]
  · rw [decide_eq_false g] at h1
    rw [if_neg g]
    by_cases g2 : a = 1
    · rw [decide_eq_true g2] at h3
      rw [if_pos g2]
      generalize tS l = L at *
      simp [m_lengths_term_text, h1, h3, -ev_opEq]
    · rw [decide_eq_false g2] at h3
      rw [if_neg g2]
      have key : fJoin (fJ1 (fFmt (fVar 0)) (fJ1 (fC (.str " * ")) (fJ1 (fFmt (fVar 1)) fJ0))) [some (.sh (.int (a : Int))), some (.sh (tS l))] = .ok (.vl (tS (dec a ++ ([32, 42, 32] ++ l))), [some (.sh (.int (a : Int))), some (.sh (tS l))]) := by
        show _ = Res.ok (T.vl (D.str (S (dec a ++ ([32, 42, 32] ++ l)))), _)
        have hl1 : (Str.empty ++ S (dec a)).length ≤ 1000000 := by
          rw [show Str.empty = S [] from rfl, S_cat, S_len]; simp; omega
        have hl2 : (Str.empty ++ S (dec a) ++ S [32, 42, 32]).length ≤ 1000000 := by
          rw [show Str.empty = S [] from rfl, S_cat, S_cat, S_len]; simp; omega
        have hl3 : (Str.empty ++ S (dec a) ++ S [32, 42, 32] ++ S l).length ≤ 1000000 := by
          rw [show Str.empty = S [] from rfl, S_cat, S_cat, S_cat, S_len]; simp; omega
        rw [← hcat]
        have hU := w_mul
        generalize hL : tS l = L at *
        generalize S (dec a) = A at *
        generalize S l = Q at *
        generalize S [32, 42, 32] = U at *
        simp [h4, h5, hU, hl1, hl2, hl3, fJ1, fJ0]
      generalize tS l = L at *
      generalize tS (dec a ++ ([32, 42, 32] ++ l)) = R at *
      simp [m_lengths_term_text, h1, h3, key, -ev_opEq, -ev_fJoin]
end
end K12

/-! Length.text and _law_text, on. -/
namespace K12
open PySem DL SX
open P12
theorem dec_ne (a : Nat) : dec a ≠ [] := TL.numL_ne a
theorem trm_ne {a : Nat} {l : Tk} : trmT a l ≠ [] := by
  unfold trmT
  split
  · exact dec_ne a
  · split
    · assumption
    · intro h; exact dec_ne a (List.append_eq_nil_iff.mp h).1
section
variable {L : D} {f l : Tk} {i : Int} {x y : Option B}
abbrev lt (L F : D) (x y : Option B) : DEnv := [some (.sh L), some (.sh F), x, y]
theorem lt_turn (hf : f.length ≤ 1000) (hi : Bd i) (hl : l.length ≤ 1) (hA : Asc l) : b_Length_text_0 (lt L (tS f) (some (.sh (.int i))) (some (.sh (tS l)))) = .ok (.nx (lt L (tS (addT f i l)) (some (.sh (.int i))) (some (.sh (tS l))))) := by
  have hne : opNe (.int i) (.int 0) = some (.fl (.bl (!decide (i = 0)))) := by rw [ev_opNe, deq_II]; rfl
  unfold addT
  by_cases h0 : i = 0
  · rw [if_pos h0]
    rw [decide_eq_true h0] at hne
    generalize tS f = F at *
    generalize tS l = R at *
    simp [b_Length_text_0, hne, -ev_opNe]
  · rw [if_neg h0]
    rw [decide_eq_false h0] at hne
    have ht := term_text_ok (bd_abs hi) hl hA
    have ha := absN i
    have htr := truS (f := f) (by omega)
    have hs := sgn_len f (decide (i < 0))
    have hm := trm_len (bd_abs hi) hl
    have a2 := addIS (f := f ++ sgnT f (decide (i < 0))) (g := trmT i.natAbs l) (by rw [List.length_append]; omega)
    have a1 := addIS (f := f) (g := sgnT f (decide (i < 0))) (by omega)
    have e1 : D.str (Str.ofString " - ") = tS [32, 45, 32] := congrArg D.str w_m3
    have e2 : D.str (Str.ofString " + ") = tS [32, 43, 32] := congrArg D.str w_p3
    have e3 : D.str (Str.ofString "-") = tS [45] := congrArg D.str w_mi
    have e4 : D.str (Str.ofString "") = tS [] := congrArg D.str w_e
    generalize tS ((f ++ sgnT f (decide (i < 0))) ++ trmT i.natAbs l) = Z at *
    generalize tS (f ++ sgnT f (decide (i < 0))) = Y at *
    generalize tS (trmT i.natAbs l) = U at *
    generalize i.natAbs = n at *
    unfold sgnT at a1
    by_cases hn : i < 0
    · by_cases hfe : f = []
      · rw [decide_eq_true hfe] at htr
        rw [if_pos hfe, decide_eq_true hn, if_pos rfl] at a1
        generalize tS [45] = V at *
        generalize tS f = F at *
        generalize tS l = R at *
        simp [b_Length_text_0, hne, ht, ha, htr, hn, e3, a1, a2, -ev_opNe, -ev_absI]
      · rw [decide_eq_false hfe] at htr
        rw [if_neg hfe, decide_eq_true hn, if_pos rfl] at a1
        generalize tS [32, 45, 32] = V at *
        generalize tS f = F at *
        generalize tS l = R at *
        simp [b_Length_text_0, hne, ht, ha, htr, hn, e1, a1, a2, -ev_opNe, -ev_absI]
    · by_cases hfe : f = []
      · rw [decide_eq_true hfe] at htr
        rw [if_pos hfe, decide_eq_false hn, if_neg (by decide)] at a1
        generalize tS [] = V at *
        generalize tS f = F at *
        generalize tS l = R at *
        simp [b_Length_text_0, hne, ht, ha, htr, hn, e4, a1, a2, -ev_opNe, -ev_absI]
      · rw [decide_eq_false hfe] at htr
        rw [if_neg hfe, decide_eq_false hn, if_neg (by decide)] at a1
        generalize tS [32, 43, 32] = V at *
        generalize tS f = F at *
        generalize tS l = R at *
        simp [b_Length_text_0, hne, ht, ha, htr, hn, e2, a1, a2, -ev_opNe, -ev_absI]
end
theorem fg_pair {a b : D} {e : DEnv} (h : e.length = 4) : fgTup 2 (fgCons (fgName 2) (fgCons (fgName 3) fgNil)) (.tup [a, b]) e = some ((e.set 2 (some (.sh a))).set 3 (some (.sh b))) := by
  simp [fgCons, h]
theorem text_ok {v : V3} (h1 : Bd v.1) (h2 : Bd v.2.1) (h3 : Bd v.2.2) : m_Length_text [.sh (v3 v)] = .ok (tS (txt v), false, [.sh (v3 v)]) := by
  obtain ⟨a, b, c⟩ := v
  have l1 := add_len (f := []) (l := [78]) h1 (by simp)
  have l2 := add_len (f := addT [] a [78]) (l := [87]) h2 (by simp)
  have l3 := add_len (f := addT (addT [] a [78]) b [87]) (l := []) h3 (by simp)
  simp only [List.length_nil] at l1 l2 l3
  have k1 := lt_turn (L := L3 a b c) (f := []) (l := [78]) (by simp) h1 (by simp) (asc1 (by decide))
  have k2 := lt_turn (L := L3 a b c) (f := addT [] a [78]) (l := [87]) (by omega) h2 (by simp) (asc1 (by decide))
  have k3 := lt_turn (L := L3 a b c) (f := addT (addT [] a [78]) b [87]) (l := []) (by omega) h3 (by simp) asc0
  have htr := truS (f := txt3 (a, b, c)) (by unfold txt3; simp only []; omega)
  have hit : fiZip (fA1 (fFld ["members"] 15 "members" (fVar 0)) (fA1 (fTup (fA1 (fC (.str "N")) (fA1 (fC (.str "W")) (fA1 (fC (.str "")) fA0)))) fA0)) (lt (L3 a b c) (tS []) none none) = .ok ([.tup [.int a, tS [78]], .tup [.int b, tS [87]], .tup [.int c, tS []]], lt (L3 a b c) (tS []) none none) := by
    rw [show D.str (Str.ofString "N") = tS [78] from congrArg D.str w_N, show D.str (Str.ofString "W") = tS [87] from congrArg D.str w_W, show D.str (Str.ofString "") = tS [] from congrArg D.str w_e]
    unfold lt
    generalize tS [] = E
    generalize tS [78] = N
    generalize tS [87] = W
    simp [izip]
  have s0 : (fSet 1 (fC (.str ""))) (env0 4 [.sh (v3 (a, b, c))]) = .ok (.nx (lt (L3 a b c) (tS []) none none)) := by
    rw [show D.str (Str.ofString "") = tS [] from congrArg D.str w_e]
    unfold lt
    generalize tS [] = E
    simp
  have hfor := fFor_ok hit (loopF_cons (fg_pair rfl) k1 (loopF_cons (fg_pair rfl) k2 (loopF_cons (fg_pair rfl) k3 (ev_loopF0 _ _ _))))
  have s2 : (fRet (fIf (fTru (fVar 1)) (fVar 1) (fC (.str "0")))) (lt (L3 a b c) (tS (txt3 (a, b, c))) (some (.sh (.int c))) (some (.sh (tS [])))) = .ok (.rt (if txt3 (a, b, c) = [] then .vl (tS [48]) else .sl 1) (lt (L3 a b c) (tS (txt3 (a, b, c))) (some (.sh (.int c))) (some (.sh (tS []))))) := by
    rw [show D.str (Str.ofString "0") = tS [48] from congrArg D.str w_0]
    generalize tS [48] = Q at *
    generalize tS [] = E at *
    by_cases he : txt3 (a, b, c) = []
    · rw [decide_eq_true he] at htr
      rw [if_pos he]
      unfold lt
      generalize tS (txt3 (a, b, c)) = X at *
      simp [htr]
    · rw [decide_eq_false he] at htr
      rw [if_neg he]
      unfold lt
      generalize tS (txt3 (a, b, c)) = X at *
      simp [htr]
  refine fn_rt (seq_nx s0 (seq_nx hfor s2)) ?_
  unfold txt
  by_cases he : txt3 (a, b, c) = []
  · rw [if_pos he, if_pos he]
    rfl
  · rw [if_neg he, if_neg he]
    rfl
end K12

/-! _law_text. -/
namespace K12
open PySem DL SX
open P12
abbrev lx (M F : D) (k w x y z : Option B) : DEnv := [some (.sh M), some (.sh F), k, w, x, y, z]
/-- the letter of the place k -/
def ltr (k : Nat) : Tk := if k = 0 then [78] else if k = 1 then [87] else []
abbrev v0 : FS := fSet 3 (fCB opAbs (fA1 (fOp2 opIx (fVar 0) (fVar 2)) fA0))
abbrev v1 : FT := fB (fOp2 opGt (fVar 3) (fC (.int 0)))
abbrev v2 : FS := fSet 4 (fIf (fB (fOp2 opLt (fOp2 opIx (fVar 0) (fVar 2)) (fC (.int 0)))) (fC (.str " - ")) (fC (.str " + ")))
abbrev v3s : FS := fIfS (fB (fOp2 opEq (fVar 1) (fC (.str "")))) (fSet 4 (fIf (fB (fOp2 opLt (fOp2 opIx (fVar 0) (fVar 2)) (fC (.int 0)))) (fC (.str "-")) (fC (.str "")))) fNext
abbrev v4 : FS := fSet 5 (fOp2 opIx (fLst (fA1 (fC (.str "N")) (fA1 (fC (.str "W")) (fA1 (fC (.str "")) fA0)))) (fVar 2))
abbrev v5 : FS := fSet 6 (fIf (fB (fOp2 opEq (fVar 2) (fC (.int 2)))) (fCB opStrI (fA1 (fVar 3) fA0)) (fIf (fB (fOp2 opEq (fVar 3) (fC (.int 1)))) (fVar 5) (fOp2 opAdd (fOp2 opAdd (fCB opStrI (fA1 (fVar 3) fA0)) (fC (.str " * "))) (fVar 5))))
abbrev v6 : FS := fSet 1 (fOp2 opAdd (fOp2 opAdd (fVar 1) (fVar 4)) (fVar 6))
theorem v_cut : b_law_text_0 = fSeq v0 (fIfS v1 (fSeq v2 (fSeq v3s (fSeq v4 (fSeq v5 v6)))) fNext) := rfl
section
variable {Ms : List D} {f : Tk} {k n : Nat} {i : Int} {A U F G T : D} {w x y z : Option B}
theorem v0_ok (hM : L2.atI Ms (k : Int) = some (.int i)) : v0 (lx (.lst Ms) F (some (.sh (.int k))) w x y z) = .ok (.nx (lx (.lst Ms) F (some (.sh (.int k))) (some (.sh (.int (i.natAbs : Nat)))) x y z)) := by
  have ha := absN i
  simp [hM, ha, -ev_atI, -ev_absI]
theorem v1_ok {b : Bool} (h : decide ((0 : Int) < (n : Int)) = b) : v1 (lx (.lst Ms) F (some (.sh (.int k))) (some (.sh (.int (n : Nat)))) x y z) = .ok (b, lx (.lst Ms) F (some (.sh (.int k))) (some (.sh (.int (n : Nat)))) x y z) := by
  subst h
  simp
theorem v23_ok (hM : L2.atI Ms (k : Int) = some (.int i)) (hf : Asc f) : fSeq v2 (fSeq v3s (fSeq v4 (fSeq v5 v6))) (lx (.lst Ms) (tS f) (some (.sh (.int k))) w x y z) = fSeq v4 (fSeq v5 v6) (lx (.lst Ms) (tS f) (some (.sh (.int k))) w (some (.sh (tS (sgnT f (decide (i < 0)))))) y z) := by
  have e1 : D.str (Str.ofString " - ") = tS [32, 45, 32] := congrArg D.str w_m3
  have e2 : D.str (Str.ofString " + ") = tS [32, 43, 32] := congrArg D.str w_p3
  have e3 : D.str (Str.ofString "-") = tS [45] := congrArg D.str w_mi
  have e4 : D.str (Str.ofString "") = tS [] := congrArg D.str w_e
  have he : opEq (tS f) (.str "") = some (.fl (.bl (decide (f = ([] : Tk))))) := by rw [w_e]; exact eqS hf asc0
  have h2 : v2 (lx (.lst Ms) (tS f) (some (.sh (.int k))) w x y z) = .ok (.nx (lx (.lst Ms) (tS f) (some (.sh (.int k))) w (some (.sh (if i < 0 then tS [32, 45, 32] else tS [32, 43, 32]))) y z)) := by
    by_cases hn : i < 0
    · rw [if_pos hn]
      generalize tS f = F at *
      generalize tS [32, 45, 32] = V at *
      simp [hM, hn, e1, -ev_atI]
    · rw [if_neg hn]
      generalize tS f = F at *
      generalize tS [32, 43, 32] = V at *
      simp [hM, hn, e2, -ev_atI]
  refine seq_nx h2 (seq_nx (e' := lx (.lst Ms) (tS f) (some (.sh (.int k))) w (some (.sh (tS (sgnT f (decide (i < 0)))))) y z) ?_ rfl)
  unfold sgnT
  by_cases hfe : f = []
  · rw [decide_eq_true hfe] at he
    rw [if_pos hfe]
    by_cases hn : i < 0
    · rw [decide_eq_true hn, if_pos rfl]
      generalize tS [45] = V at *
      generalize tS f = F at *
      simp [hM, hn, e3, he, -ev_atI, -ev_opEq]
    · rw [decide_eq_false hn, if_neg Bool.false_ne_true, ← e4]
      generalize tS f = F at *
      simp [hM, hn, he, -ev_atI, -ev_opEq]
  · rw [decide_eq_false hfe] at he
    rw [if_neg hfe]
    by_cases hn : i < 0
    · rw [decide_eq_true hn, if_pos rfl, if_pos hn]
      generalize tS [32, 45, 32] = V at *
      generalize tS f = F at *
      simp [he, -ev_opEq]
    · rw [decide_eq_false hn, if_neg Bool.false_ne_true, if_neg hn]
      generalize tS [32, 43, 32] = V at *
      generalize tS f = F at *
      simp [he, -ev_opEq]
theorem v4_ok (hk : k < 3) : v4 (lx A F (some (.sh (.int k))) w x y z) = .ok (.nx (lx A F (some (.sh (.int k))) w x (some (.sh (tS (ltr k)))) z)) := by
  have e1 : D.str (Str.ofString "N") = tS [78] := congrArg D.str w_N
  have e2 : D.str (Str.ofString "W") = tS [87] := congrArg D.str w_W
  have e4 : D.str (Str.ofString "") = tS [] := congrArg D.str w_e
  have l0 : tS (ltr 0) = tS [78] := rfl
  have l1 : tS (ltr 1) = tS [87] := rfl
  have l2 : tS (ltr 2) = tS [] := rfl
  rcases (by omega : k = 0 ∨ k = 1 ∨ k = 2) with rfl | rfl | rfl
  · rw [l0]; generalize tS [78] = V at *; simp [e1]
  · rw [l1]; generalize tS [87] = V at *; simp [e2]
  · rw [l2]; generalize tS [] = V at *; simp [e4]
theorem v5_ok (hk : k < 3) (hn : n < 10 ^ 30) : v5 (lx A F (some (.sh (.int k))) (some (.sh (.int (n : Nat)))) x (some (.sh (tS (ltr k)))) z) = .ok (.nx (lx A F (some (.sh (.int k))) (some (.sh (.int (n : Nat)))) x (some (.sh (tS (ltr k)))) (some (.sh (tS (trmT n (ltr k))))))) := by
  have hS := strI_ok (a := n) (by omega)
  have hd := dec_len hn
  have e1 : D.str (Str.ofString " * ") = tS [32, 42, 32] := congrArg D.str w_mul
  have h3 : opEq (.int (n : Int)) (.int 1) = some (.fl (.bl (decide (n = 1)))) := by
    rw [ev_opEq, deq_II]
    show some (RV.fl (D.bl (decide ((n : Int) = 1)))) = _
    rw [show decide ((n : Int) = 1) = decide (n = 1) from decide_eq_decide.mpr (by omega)]
  by_cases h2 : k = 2
  · subst h2
    have : trmT n (ltr 2) = dec n := rfl
    rw [this]
    generalize tS (dec n) = V at *
    generalize tS (ltr 2) = W at *
    simp [hS]
  · have hk2 : opEq (.int (k : Int)) (.int 2) = some (.fl (.bl false)) := by
      rw [ev_opEq, deq_II, decide_eq_false (by omega)]; rfl
    have hne : ltr k ≠ [] := by
      unfold ltr
      rcases (by omega : k = 0 ∨ k = 1) with rfl | rfl <;> simp
    have hl1 : (ltr k).length ≤ 1 := by unfold ltr; split; simp; split <;> simp
    unfold trmT
    rw [if_neg hne]
    by_cases h1 : n = 1
    · rw [decide_eq_true h1] at h3
      rw [if_pos h1]
      generalize tS (ltr k) = W at *
      simp [hk2, h3, -ev_opEq]
    · rw [decide_eq_false h1] at h3
      rw [if_neg h1]
      have a1 := addS (f := dec n) (g := [32, 42, 32]) (by simp; omega)
      have a2 := addS (f := dec n ++ [32, 42, 32]) (g := ltr k) (by simp; omega)
      rw [List.append_assoc] at a2
      generalize tS (ltr k) = W at *
      generalize tS (dec n ++ ([32, 42, 32] ++ ltr k)) = Z at *
      generalize tS (dec n ++ [32, 42, 32]) = Y at *
      generalize tS (dec n) = V at *
      generalize tS [32, 42, 32] = X at *
      simp [hk2, h3, hS, e1, a1, a2, -ev_opEq]
theorem v6_ok (h1 : opAdd F G = some (.fl U)) (h2 : opAdd U T = some (.fl A)) {M : D} {k w y : Option B} : v6 (lx M F k w (some (.sh G)) y (some (.sh T))) = .ok (.nx (lx M A k w (some (.sh G)) y (some (.sh T)))) := by
  simp [h1, h2]
theorem vturn (hM : L2.atI Ms (k : Int) = some (.int i)) (hk : k < 3) (hi : Bd i) (hf : Asc f) (hl : f.length ≤ 1000) : ∃ w' x' y' z', b_law_text_0 (lx (.lst Ms) (tS f) (some (.sh (.int k))) w x y z) = .ok (.nx (lx (.lst Ms) (tS (addT f i (ltr k))) (some (.sh (.int k))) w' x' y' z')) := by
  rw [v_cut]
  have hab := bd_abs hi
  unfold addT
  by_cases h0 : i = 0
  · have hv := v1_ok (Ms := Ms) (F := tS f) (k := k) (n := i.natAbs) (x := x) (y := y) (z := z) (b := false) (decide_eq_false (by omega))
    rw [if_pos h0]
    exact ⟨_, _, _, _, seq_nx (v0_ok hM) ((ifS_f hv).trans rfl)⟩
  · have hv := v1_ok (Ms := Ms) (F := tS f) (k := k) (n := i.natAbs) (x := x) (y := y) (z := z) (b := true) (decide_eq_true (by omega))
    rw [if_neg h0]
    have hl1 : (ltr k).length ≤ 1 := by unfold ltr; split; simp; split <;> simp
    have hs := sgn_len f (decide (i < 0))
    have hm := trm_len (l := ltr k) hab hl1
    have a1 := addS (f := f) (g := sgnT f (decide (i < 0))) (by omega)
    have a2 := addS (f := f ++ sgnT f (decide (i < 0))) (g := trmT i.natAbs (ltr k)) (by rw [List.length_append]; omega)
    exact ⟨_, _, _, _, seq_nx (v0_ok hM) ((ifS_t hv).trans ((v23_ok hM hf).trans (seq_nx (v4_ok hk) (seq_nx (v5_ok hk hab) (v6_ok a1 a2)))))⟩
end
theorem asc_app {f g : Tk} (h : Asc f) (h2 : Asc g) : Asc (f ++ g) := fun c hc => (List.mem_append.mp hc).elim (h c) (h2 c)
theorem asc_dec (n : Nat) : Asc (dec n) := fun c hc => by have := TL.numL_digits n c hc; omega
theorem asc_add {f l : Tk} {i : Int} (h : Asc f) (hl : Asc l) : Asc (addT f i l) := by
  have hs : Asc (sgnT f (decide (i < 0))) := by
    unfold sgnT
    split <;> split <;> (intro c hc; first | (simp at hc; done) | (simp at hc; omega))
  have ht : Asc (trmT i.natAbs l) := by
    unfold trmT
    split
    · exact asc_dec _
    · split
      · exact hl
      · exact asc_app (asc_dec _) (asc_app (fun c hc => by simp at hc; omega) hl)
  unfold addT
  split
  · exact h
  · exact asc_app (asc_app h hs) ht
theorem law_text_ok {v : V3} (h1 : Bd v.1) (h2 : Bd v.2.1) (h3 : Bd v.2.2) : m_law_text [.sh (.lst [.int v.1, .int v.2.1, .int v.2.2])] = .ok (tS (txt v), false, [.sh (.lst [.int v.1, .int v.2.1, .int v.2.2])]) := by
  obtain ⟨a, b, c⟩ := v
  have l1 := add_len (f := []) (l := [78]) h1 (by simp)
  have l2 := add_len (f := addT [] a [78]) (l := [87]) h2 (by simp)
  have l3 := add_len (f := addT (addT [] a [78]) b [87]) (l := []) h3 (by simp)
  simp only [List.length_nil] at l1 l2 l3
  have c1 : Asc (addT [] a [78]) := asc_add asc0 (asc1 (by decide))
  have c2 : Asc (addT (addT [] a [78]) b [87]) := asc_add c1 (asc1 (by decide))
  have c3 : Asc (txt3 (a, b, c)) := asc_add c2 asc0
  obtain ⟨w1, x1, y1, z1, k1⟩ := vturn (Ms := [.int a, .int b, .int c]) (f := []) (k := 0) (i := a) (w := none) (x := none) (y := none) (z := none) rfl (by omega) h1 asc0 (by simp)
  obtain ⟨w2, x2, y2, z2, k2⟩ := vturn (Ms := [.int a, .int b, .int c]) (f := addT [] a [78]) (k := 1) (i := b) (w := w1) (x := x1) (y := y1) (z := z1) rfl (by omega) h2 c1 (by omega)
  obtain ⟨w3, x3, y3, z3, k3⟩ := vturn (Ms := [.int a, .int b, .int c]) (f := addT (addT [] a [78]) b [87]) (k := 2) (i := c) (w := w2) (x := x2) (y := y2) (z := z2) rfl (by omega) h3 c2 (by omega)
  rw [show ltr 0 = [78] from rfl] at k1
  rw [show ltr 1 = [87] from rfl] at k2
  rw [show ltr 2 = [] from rfl] at k3
  have s0 : (fSet 1 (fC (.str ""))) (env0 7 [.sh (.lst [.int a, .int b, .int c])]) = .ok (.nx (lx (.lst [.int a, .int b, .int c]) (tS []) none none none none none)) := by
    rw [show D.str (Str.ofString "") = tS [] from congrArg D.str w_e]
    unfold lx
    generalize tS [] = E
    simp
  have hit : fiR1 (fA1 (fC (.int 3)) fA0) (lx (.lst [.int a, .int b, .int c]) (tS []) none none none none none) = .ok ([.int 0, .int 1, .int 2], lx (.lst [.int a, .int b, .int c]) (tS []) none none none none none) := rfl
  have hfor := fFor_ok hit (loopF_cons (fg := fgName 2) (fb := b_law_text_0) rfl k1 (loopF_cons (fg := fgName 2) (fb := b_law_text_0) rfl k2 (loopF_cons (fg := fgName 2) (fb := b_law_text_0) rfl k3 (ev_loopF0 _ _ _))))
  have he : opEq (tS (txt3 (a, b, c))) (.str "") = some (.fl (.bl (decide (txt3 (a, b, c) = ([] : Tk))))) := by rw [w_e]; exact eqS c3 asc0
  have s2 : (fRet (fIf (fB (fOp2 opEq (fVar 1) (fC (.str "")))) (fC (.str "0")) (fVar 1))) (lx (.lst [.int a, .int b, .int c]) (tS (txt3 (a, b, c))) (some (.sh (.int (2 : Nat)))) w3 x3 y3 z3) = .ok (.rt (if txt3 (a, b, c) = [] then .vl (tS [48]) else .sl 1) (lx (.lst [.int a, .int b, .int c]) (tS (txt3 (a, b, c))) (some (.sh (.int (2 : Nat)))) w3 x3 y3 z3)) := by
    rw [show D.str (Str.ofString "0") = tS [48] from congrArg D.str w_0]
    generalize tS [48] = Q at *
    by_cases hx : txt3 (a, b, c) = []
    · rw [decide_eq_true hx] at he
      rw [if_pos hx]
      unfold lx
      generalize tS (txt3 (a, b, c)) = X at *
      simp [he, -ev_opEq]
    · rw [decide_eq_false hx] at he
      rw [if_neg hx]
      unfold lx
      generalize tS (txt3 (a, b, c)) = X at *
      simp [he, -ev_opEq]
  refine fn_rt (seq_nx s0 (seq_nx hfor s2)) ?_
  unfold txt
  by_cases hx : txt3 (a, b, c) = []
  · rw [if_pos hx, if_pos hx]
    rfl
  · rw [if_neg hx, if_neg hx]
    rfl
end K12

/-! The text of a length is read as the length. -/
namespace K12
open PySem DL SX
open P12
def tm1 (i : Int) (k0 k1 : Nat) : List Tm := if i = 0 then [] else [⟨decide (i < 0), if i.natAbs = 1 then k1 else k0, i.natAbs⟩]
theorem one1 {c : Nat} (h : [c] ∈ sg1) : one [c] := .inr h
theorem toks_trm0 {a : Nat} {b : Bool} : toks (trmT a [78]) = some (body ⟨b, if a = 1 then 2 else 0, a⟩) := by
  unfold trmT
  rw [if_neg (by simp)]
  by_cases h : a = 1
  · rw [if_pos h, if_pos h, one_toks (one1 (by decide))]; rfl
  · rw [if_neg h, if_neg h]
    show toks (dec a ++ 32 :: ([42] ++ 32 :: [78])) = _
    rw [toks_space, toks_space, one_toks (dec_one a), one_toks (one1 (by decide)), one_toks (one1 (by decide))]
    rfl
theorem toks_trm1 {a : Nat} {b : Bool} : toks (trmT a [87]) = some (body ⟨b, if a = 1 then 3 else 1, a⟩) := by
  unfold trmT
  rw [if_neg (by simp)]
  by_cases h : a = 1
  · rw [if_pos h, if_pos h, one_toks (one1 (by decide))]; rfl
  · rw [if_neg h, if_neg h]
    show toks (dec a ++ 32 :: ([42] ++ 32 :: [87])) = _
    rw [toks_space, toks_space, one_toks (dec_one a), one_toks (one1 (by decide)), one_toks (one1 (by decide))]
    rfl
theorem toks_trm4 {a : Nat} {b : Bool} : toks (trmT a []) = some (body ⟨b, if a = 1 then 4 else 4, a⟩) := by
  unfold trmT
  rw [if_pos rfl, one_toks (dec_one a)]
  split <;> rfl
theorem headT_snoc : ∀ (ts : List Tm) (u : Tm), ts ≠ [] → headT (ts ++ [u]) = headT ts ++ (if u.neg then [45] else [43]) :: body u
  | [], _, h => absurd rfl h
  | t :: ts, u, _ => headT_app t ts u
theorem add_toks {f l : Tk} {ts : List Tm} {i : Int} {k0 k1 : Nat} (hf : toks f = some (headT ts)) (he : f = [] ↔ ts = []) (hb : ∀ b, toks (trmT i.natAbs l) = some (body ⟨b, if i.natAbs = 1 then k1 else k0, i.natAbs⟩)) :
    toks (addT f i l) = some (headT (ts ++ tm1 i k0 k1)) ∧ (addT f i l = [] ↔ ts ++ tm1 i k0 k1 = []) := by
  unfold addT tm1
  by_cases h0 : i = 0
  · rw [if_pos h0, if_pos h0, List.append_nil]
    exact ⟨hf, he⟩
  · rw [if_neg h0, if_neg h0]
    refine ⟨?_, ⟨fun h => absurd (List.append_eq_nil_iff.mp h).2 trm_ne, fun h => by simp at h⟩⟩
    have hb := hb (decide (i < 0))
    generalize hu : (⟨decide (i < 0), if i.natAbs = 1 then k1 else k0, i.natAbs⟩ : Tm) = u at *
    have hun : u.neg = decide (i < 0) := by rw [← hu]
    generalize hd : decide (i < 0) = d at *
    generalize trmT i.natAbs l = r at *
    by_cases hfe : f = []
    · have hte := he.mp hfe
      subst hfe hte
      show toks (sgnT [] d ++ r) = some ((if u.neg then [[45]] else []) ++ (body u ++ []))
      rw [hun, List.append_nil]
      unfold sgnT
      rw [if_pos rfl]
      cases d
      · exact hb
      · show toks ([45] ++ r) = _
        rw [toks_one (one1 (by decide)) (fun hw => absurd hw (by decide)), hb]
        rfl
    · have hte : ts ≠ [] := fun z => hfe (he.mpr z)
      rw [headT_snoc ts u hte, hun]
      unfold sgnT
      rw [if_neg hfe]
      cases d
      · show toks ((f ++ 32 :: ([43] ++ [32])) ++ r) = _
        rw [show (f ++ 32 :: ([43] ++ [32])) ++ r = f ++ 32 :: ([43] ++ 32 :: r) by simp, toks_space, toks_space, hf, hb, one_toks (one1 (by decide))]
        rfl
      · show toks ((f ++ 32 :: ([45] ++ [32])) ++ r) = _
        rw [show (f ++ 32 :: ([45] ++ [32])) ++ r = f ++ 32 :: ([45] ++ 32 :: r) by simp, toks_space, toks_space, hf, hb, one_toks (one1 (by decide))]
        rfl
theorem total_tm1 : ∀ (l : List Tm) (acc : V3) (m : List Tm), total acc (l ++ m) = total (total acc l) m
  | [], _, _ => rfl
  | _ :: l, _, m => total_tm1 l _ m
theorem sg_abs {i : Int} : sg (decide (i < 0)) * (i.natAbs : Int) = i := by
  by_cases h : i < 0
  · rw [decide_eq_true h]; show -1 * (i.natAbs : Int) = i; omega
  · rw [decide_eq_false h]; show 1 * (i.natAbs : Int) = i; omega
theorem tot0 {acc : V3} {i : Int} : total acc (tm1 i 0 2) = (acc.1 + i, acc.2.1, acc.2.2) := by
  unfold tm1
  have hs := sg_abs (i := i)
  by_cases h : i = 0
  · rw [if_pos h, h]; simp [total]
  · rw [if_neg h]
    show add3 acc (sg (decide (i < 0))) (worth _) = _
    by_cases h1 : i.natAbs = 1
    · rw [if_pos h1]
      rw [h1] at hs
      show (acc.1 + sg (decide (i < 0)) * 1, acc.2.1 + sg (decide (i < 0)) * 0, acc.2.2 + sg (decide (i < 0)) * 0) = _
      rw [show sg (decide (i < 0)) * 1 = i from hs, Int.mul_zero, Int.add_zero, Int.add_zero]
    · rw [if_neg h1]
      show (acc.1 + sg (decide (i < 0)) * (i.natAbs : Int), acc.2.1 + sg (decide (i < 0)) * 0, acc.2.2 + sg (decide (i < 0)) * 0) = _
      rw [hs, Int.mul_zero, Int.add_zero, Int.add_zero]
theorem tot1 {acc : V3} {i : Int} : total acc (tm1 i 1 3) = (acc.1, acc.2.1 + i, acc.2.2) := by
  unfold tm1
  have hs := sg_abs (i := i)
  by_cases h : i = 0
  · rw [if_pos h, h]; simp [total]
  · rw [if_neg h]
    show add3 acc (sg (decide (i < 0))) (worth _) = _
    by_cases h1 : i.natAbs = 1
    · rw [if_pos h1]
      rw [h1] at hs
      show (acc.1 + sg (decide (i < 0)) * 0, acc.2.1 + sg (decide (i < 0)) * 1, acc.2.2 + sg (decide (i < 0)) * 0) = _
      rw [show sg (decide (i < 0)) * 1 = i from hs, Int.mul_zero, Int.add_zero, Int.add_zero]
    · rw [if_neg h1]
      show (acc.1 + sg (decide (i < 0)) * 0, acc.2.1 + sg (decide (i < 0)) * (i.natAbs : Int), acc.2.2 + sg (decide (i < 0)) * 0) = _
      rw [hs, Int.mul_zero, Int.add_zero, Int.add_zero]
theorem tot4 {acc : V3} {i : Int} : total acc (tm1 i 4 4) = (acc.1, acc.2.1, acc.2.2 + i) := by
  unfold tm1
  have hs := sg_abs (i := i)
  by_cases h : i = 0
  · rw [if_pos h, h]; simp [total]
  · rw [if_neg h]
    show add3 acc (sg (decide (i < 0))) (worth _) = _
    rw [show (if i.natAbs = 1 then 4 else 4) = 4 by split <;> rfl]
    show (acc.1 + sg (decide (i < 0)) * 0, acc.2.1 + sg (decide (i < 0)) * 0, acc.2.2 + sg (decide (i < 0)) * (i.natAbs : Int)) = _
    rw [hs, Int.mul_zero, Int.add_zero, Int.add_zero]
theorem tm1_amt {i : Int} {k0 k1 : Nat} (h : i.natAbs < 10000) : (∀ u ∈ tm1 i k0 k1, u.amt < 10000) ∧ (tm1 i k0 k1).length ≤ 1 := by
  unfold tm1
  split
  · exact ⟨fun u hu => (by cases hu), by simp⟩
  · exact ⟨fun u hu => by rw [List.mem_singleton.mp hu]; exact h, by simp⟩
theorem read_txt {v : V3} (h1 : v.1.natAbs < 10000) (h2 : v.2.1.natAbs < 10000) (h3 : v.2.2.natAbs < 10000) : readX (txt v) = some v := by
  obtain ⟨a, b, c⟩ := v
  obtain ⟨k1, e1⟩ := add_toks (f := []) (ts := []) (i := a) (l := [78]) (k0 := 0) (k1 := 2) rfl ⟨fun _ => rfl, fun _ => rfl⟩ (fun b => toks_trm0)
  obtain ⟨k2, e2⟩ := add_toks (i := b) (l := [87]) (k0 := 1) (k1 := 3) k1 e1 (fun b => toks_trm1)
  obtain ⟨k3, e3⟩ := add_toks (i := c) (l := []) (k0 := 4) (k1 := 4) k2 e2 (fun b => toks_trm4)
  obtain ⟨a1, n1⟩ := tm1_amt (k0 := 0) (k1 := 2) h1
  obtain ⟨a2, n2⟩ := tm1_amt (k0 := 1) (k1 := 3) h2
  obtain ⟨a3, n3⟩ := tm1_amt (k0 := 4) (k1 := 4) h3
  have ht : total (0, 0, 0) (((([] : List Tm) ++ tm1 a 0 2) ++ tm1 b 1 3) ++ tm1 c 4 4) = (a, b, c) := by
    rw [total_tm1, total_tm1, List.nil_append, tot0, tot1, tot4]
    simp
  have ha : ∀ u ∈ (((([] : List Tm) ++ tm1 a 0 2) ++ tm1 b 1 3) ++ tm1 c 4 4), u.amt < 10000 := by
    intro u hu
    rcases List.mem_append.mp hu with hu | hu
    · rcases List.mem_append.mp hu with hu | hu
      · exact a1 u hu
      · exact a2 u hu
    · exact a3 u hu
  have hn : (((([] : List Tm) ++ tm1 a 0 2) ++ tm1 b 1 3) ++ tm1 c 4 4).length ≤ 3 := by
    rw [List.length_append, List.length_append, List.nil_append]
    simp only [] at n1 n2 n3
    omega
  change toks (txt3 (a, b, c)) = _ at k3
  change txt3 (a, b, c) = [] ↔ _ at e3
  generalize (((([] : List Tm) ++ tm1 a 0 2) ++ tm1 b 1 3) ++ tm1 c 4 4) = L at *
  unfold txt
  cases L with
  | nil =>
    rw [if_pos (e3.mpr rfl), ← ht]
    decide +kernel
  | cons t ts =>
    rw [if_neg (fun z => by simpa using e3.mp z)]
    unfold readX
    rw [k3]
    show readT (headT (t :: ts)) = _
    have := read_good 0 t ts ha (by rw [List.length_cons] at hn; omega)
    rw [ht] at this
    simpa using this
end K12

/-! _law_wrong: texts of other forms. -/
namespace K12
open PySem DL SX
open P12
def wr0 : List Tk := [[87, 10], [10, 87], [87, 32, 43, 10, 49], [43, 87], [43, 32, 51], [40, 87, 41, 32, 43, 32, 49], [49, 32, 43, 32, 40, 87, 41], [45, 40, 87, 41], [50, 32, 42, 32, 51], [78, 32, 42, 32, 87], [87, 32, 42, 32, 78]]
def wr1 : List Tk := [[49, 95, 48], [45, 45, 87], [87, 32, 43, 32, 43, 32, 49], [87, 32, 45, 32, 45, 32, 49], [40, 41], [40], [87, 41], [50, 87], [50, 32, 87], [87, 50], [119], [110], [48, 120, 49]]
def wr2 : List Tk := [[49, 32, 42, 32, 49], [40, 87, 41, 41], [40, 40, 87, 41], [87, 32, 42, 32, 49], [49, 101, 51], [50, 32, 42, 32, 40, 87, 41], [40, 50, 41, 32, 42, 32, 87], [87, 47, 50], [87, 32, 47, 47, 32, 50], [45], [42]]
def wr3 : List Tk := [[87, 59], [87, 44], [51, 46], [87, 32, 43, 32, 45, 49], [87, 87], [78, 32, 78], List.replicate 5000 57, List.replicate 4400 49 ++ [32, 42, 32, 87]]
theorem wr0_eq : ([.str "W\n", .str "\nW", .str "W +\n1", .str "+W", .str "+ 3", .str "(W) + 1", .str "1 + (W)", .str "-(W)", .str "2 * 3", .str "N * W", .str "W * N"] : List D) = wr0.map tS := by kernel_rfl
theorem wr1_eq : ([.str "1_0", .str "--W", .str "W + + 1", .str "W - - 1", .str "()", .str "(", .str "W)", .str "2W", .str "2 W", .str "W2", .str "w", .str "n", .str "0x1"] : List D) = wr1.map tS := by kernel_rfl
theorem wr2_eq : ([.str "1 * 1", .str "(W))", .str "((W)", .str "W * 1", .str "1e3", .str "2 * (W)", .str "(2) * W", .str "W/2", .str "W // 2", .str "-", .str "*"] : List D) = wr2.map tS := by kernel_rfl
theorem wr3_eq : ([.str "W;", .str "W,", .str "3.", .str "W + -1", .str "WW", .str "N N"] : List D) = [tS [87, 59], tS [87, 44], tS [51, 46], tS [87, 32, 43, 32, 45, 49], tS [87, 87], tS [78, 32, 78]] := by kernel_rfl
theorem strRep_S (c n : Nat) : strRep (S [c]) (n : Int) = S (List.replicate n c) := by
  show (⟨(List.replicate (n : Int).toNat [c]).flatten.toArray⟩ : Str) = ⟨(List.replicate n c).toArray⟩
  rw [Int.toNat_natCast]
  congr 2
  induction n with
  | zero => rfl
  | succ n ih => rw [List.replicate_succ, List.flatten_cons, ih, List.replicate_succ]; rfl
theorem mulS (c n : Nat) (hn : n ≤ 900000) : opMulA (tS [c]) (.int (n : Nat)) = some (.fl (tS (List.replicate n c))) := by
  show (if decide (-1000000 ≤ (n : Int)) && decide ((n : Int) ≤ 1000000) && decide (1 * (n : Int).toNat ≤ lim) then some (RV.fl (D.str (strRep (S [c]) (n : Int)))) else none) = _
  rw [Int.toNat_natCast, decide_eq_true (by omega), decide_eq_true (by omega), decide_eq_true (show 1 * n ≤ lim by rw [ev_lim]; omega), if_pos (by decide), strRep_S]
theorem w_9 : Str.ofString "9" = S [57] := by decide +kernel
theorem w_1 : Str.ofString "1" = S [49] := by decide +kernel
theorem w_xW : Str.ofString " * W" = S [32, 42, 32, 87] := by decide +kernel
def wr : List Tk := wr0 ++ wr1 ++ wr2 ++ wr3
theorem wr_len : wr.length = 43 := by decide +kernel
abbrev wa (n : Int) (x : Option B) : DEnv := [some (.sh (.int n)), x]
theorem wq0 {n : Int} : q_law_wrong_0 (wa n none) = .ok (.nx (wa n (some (.ow (.lst (wr0.map tS)))))) := by
  rw [← wr0_eq]
  simp
theorem wq1 {n : Int} {P : List D} (hP : P.length ≤ 100) : q_law_wrong_1 (wa n (some (.ow (.lst P)))) = .ok (.nx (wa n (some (.ow (.lst (P ++ wr1.map tS)))))) := by
  rw [← wr1_eq]
  have hA : ∀ Q : List D, Q.length ≤ 100 → opAdd (.lst P) (.lst Q) = some (.nl (P ++ Q)) := fun Q hQ => by
    rw [ev_addL, if_pos (by rw [ev_lim]; omega)]
  have h := hA [.str "1_0", .str "--W", .str "W + + 1", .str "W - - 1", .str "()", .str "(", .str "W)", .str "2W", .str "2 W", .str "W2", .str "w", .str "n", .str "0x1"] (by decide)
  simp [h, -ev_addL]
theorem wq2 {n : Int} {P : List D} (hP : P.length ≤ 100) : q_law_wrong_2 (wa n (some (.ow (.lst P)))) = .ok (.nx (wa n (some (.ow (.lst (P ++ wr2.map tS)))))) := by
  rw [← wr2_eq]
  have hA : ∀ Q : List D, Q.length ≤ 100 → opAdd (.lst P) (.lst Q) = some (.nl (P ++ Q)) := fun Q hQ => by
    rw [ev_addL, if_pos (by rw [ev_lim]; omega)]
  have h := hA [.str "1 * 1", .str "(W))", .str "((W)", .str "W * 1", .str "1e3", .str "2 * (W)", .str "(2) * W", .str "W/2", .str "W // 2", .str "-", .str "*"] (by decide)
  simp [h, -ev_addL]
theorem wq3 {n : Int} {P : List D} (hP : P.length ≤ 100) : q_law_wrong_3 (wa n (some (.ow (.lst P)))) = .ok (.nx (wa n (some (.ow (.lst (P ++ wr3.map tS)))))) := by
  have h9 : opMulA (.str "9") (.int 5000) = some (.fl (tS (List.replicate 5000 57))) := by rw [w_9]; exact mulS 57 5000 (by omega)
  have h1 : opMulA (.str "1") (.int 4400) = some (.fl (tS (List.replicate 4400 49))) := by rw [w_1]; exact mulS 49 4400 (by omega)
  have hc : opAdd (tS (List.replicate 4400 49)) (.str " * W") = some (.fl (tS (List.replicate 4400 49 ++ [32, 42, 32, 87]))) := by
    rw [w_xW]; exact addS (by rw [List.length_replicate]; decide)
  have hw : wr3.map tS = [.str "W;", .str "W,", .str "3.", .str "W + -1", .str "WW", .str "N N"] ++ [tS (List.replicate 5000 57), tS (List.replicate 4400 49 ++ [32, 42, 32, 87])] := by rw [wr3_eq]; rfl
  rw [hw]
  generalize tS (List.replicate 5000 57) = X at *
  generalize tS (List.replicate 4400 49 ++ [32, 42, 32, 87]) = Y at *
  generalize tS (List.replicate 4400 49) = Z at *
  clear hw
  have hA : ∀ Q : List D, Q.length ≤ 100 → opAdd (.lst P) (.lst Q) = some (.nl (P ++ Q)) := fun Q hQ => by
    rw [ev_addL, if_pos (by rw [ev_lim]; omega)]
  have h := hA ([.str "W;", .str "W,", .str "3.", .str "W + -1", .str "WW", .str "N N"] ++ [X, Y]) (by simp)
  simp only [List.cons_append, List.nil_append] at h ⊢
  simp [h, h9, h1, hc, -ev_addL]
theorem wq4 {n : Int} {P : List D} {W : D} {j : Int} (hl : (P.length : Int) = 43) (hj : n.fmod 43 = j) (ha : L2.atI P j = some W) : q_law_wrong_4 (wa n (some (.ow (.lst P)))) = .ok (.rt (.vl W) (wa n (some (.ow (.lst P))))) := by
  have hm : opMod (.int n) (.int (P.length : Int)) = some (.fl (.int j)) := by
    rw [hl, ev_modI, if_pos (modOk_of (by omega)), hj]
  simp [hm, ha, opIntA, opInt, -ev_modI, -ev_atI]
/-- no wrong text is read -/
def wrB (w : Tk) : Bool := (readX w).isNone && (w.all fun c => decide (c < 128)) && decide (w.length ≤ 90000)
theorem wr_small : (wr0 ++ wr1 ++ wr2 ++ wr3.take 6).all wrB = true := by decide +kernel
theorem nd_word {n c : Nat} (hn : 4 < n) (hc : isW c = true) : readT [List.replicate n c] = none ∧ word (List.replicate n c) = true ∧ num (List.replicate n c) = none := by
  have hw : word (List.replicate n c) = true := by
    unfold word
    cases n with
    | zero => omega
    | succ n =>
      rw [List.replicate_succ]
      simp [hc]
  have hnum : num (List.replicate n c) = none := by
    unfold num
    rw [if_neg]
    rintro ⟨⟨_, h⟩, _⟩
    rw [List.length_replicate] at h
    omega
  have hcls : cls (List.replicate n c) = 7 := by
    unfold cls
    rw [if_neg, if_neg, if_neg, if_neg, if_neg, word_letter hw, hnum]
    · rfl
    all_goals
      intro z
      have := congrArg List.length z
      rw [List.length_replicate] at this
      simp at this
      omega
  exact ⟨not_read_pair (x := [40]) (y := List.replicate n c) (l := []) (m := [[41]]) (by rw [hcls]; rfl) _ rfl, hw, hnum⟩
theorem wr_9 : wrB (List.replicate 5000 57) = true := by
  obtain ⟨h, hw, _⟩ := nd_word (n := 5000) (c := 57) (by omega) (by decide)
  unfold wrB readX
  rw [one_toks (.inl hw)]
  show ((readT [List.replicate 5000 57]).isNone && _ && _) = true
  rw [h, List.length_replicate, List.all_replicate]
  decide
theorem wr_1 : wrB (List.replicate 4400 49 ++ [32, 42, 32, 87]) = true := by
  obtain ⟨_, hw, hn⟩ := nd_word (n := 4400) (c := 49) (by omega) (by decide)
  have ht : toks (List.replicate 4400 49 ++ [32, 42, 32, 87]) = some [List.replicate 4400 49, [42], [87]] := by
    show toks (List.replicate 4400 49 ++ 32 :: ([42] ++ 32 :: [87])) = _
    rw [toks_space, toks_space, one_toks (.inl hw), one_toks (one1 (by decide)), one_toks (one1 (by decide))]
    rfl
  have hcls : cls (List.replicate 4400 49) = 7 := by
    unfold cls
    rw [if_neg, if_neg, if_neg, if_neg, if_neg, word_letter hw, hn]
    · rfl
    all_goals
      intro z
      have := congrArg List.length z
      rw [List.length_replicate] at this
      simp at this
  unfold wrB readX
  rw [ht]
  show ((readT [List.replicate 4400 49, [42], [87]]).isNone && _ && _) = true
  rw [not_read_pair (x := [40]) (y := List.replicate 4400 49) (l := []) (m := [[42], [87], [41]]) (by rw [hcls]; rfl) _ rfl, List.length_append, List.length_replicate, List.all_append, List.all_replicate]
  decide
theorem wr_all {w : Tk} (h : w ∈ wr) : readX w = none ∧ Asc w ∧ w.length ≤ 90000 := by
  have key : wrB w = true := by
    have e : wr = (wr0 ++ wr1 ++ wr2 ++ wr3.take 6) ++ [List.replicate 5000 57, List.replicate 4400 49 ++ [32, 42, 32, 87]] := by
      unfold wr wr3
      simp only [List.take, List.append_assoc, List.cons_append, List.nil_append]
    rw [e] at h
    rcases List.mem_append.mp h with h | h
    · exact List.all_eq_true.mp wr_small w h
    · rcases List.mem_cons.mp h with rfl | h
      · exact wr_9
      · rw [List.mem_singleton.mp h]; exact wr_1
  unfold wrB at key
  obtain ⟨k1, k2⟩ := Bool.and_eq_true_iff.mp key
  obtain ⟨k1, k3⟩ := Bool.and_eq_true_iff.mp k1
  exact ⟨Option.isNone_iff_eq_none.mp k1, fun c hc => of_decide_eq_true (List.all_eq_true.mp k3 c hc), of_decide_eq_true k2⟩
theorem wrong_ok (n : Nat) : ∃ w, m_law_wrong [.sh (.int (n : Int))] = .ok (tS w, false, [.sh (.int (n : Int))]) ∧ readX w = none ∧ Asc w ∧ w.length ≤ 90000 := by
  have hlt : n % 43 < wr.length := by rw [wr_len]; omega
  have hj : (n : Int).fmod 43 = ((n % 43 : Nat) : Int) := by rw [Int.fmod_eq_emod_of_nonneg _ (by omega)]; rfl
  have e : (((wr0.map tS ++ wr1.map tS) ++ wr2.map tS) ++ wr3.map tS) = wr.map tS := by
    unfold wr
    rw [List.map_append, List.map_append, List.map_append]
  have ha : L2.atI (((wr0.map tS ++ wr1.map tS) ++ wr2.map tS) ++ wr3.map tS) ((n % 43 : Nat) : Int) = some (tS wr[n % 43]) := by
    rw [e]
    exact atI_of (by rw [List.getElem?_map, List.getElem?_eq_getElem hlt]; rfl)
  have hl : ((((wr0.map tS ++ wr1.map tS) ++ wr2.map tS) ++ wr3.map tS).length : Int) = 43 := by rw [e, List.length_map, wr_len]; rfl
  refine ⟨wr[n % 43], fn_rt (seq_nx (wq0 (n := (n : Int))) (seq_nx (wq1 (by rw [List.length_map]; decide)) (seq_nx (wq2 (by rw [List.length_append, List.length_map, List.length_map]; decide)) (seq_nx (wq3 (by rw [List.length_append, List.length_append, List.length_map, List.length_map, List.length_map]; decide)) (wq4 hl hj ha))))) rfl, wr_all (List.getElem_mem hlt)⟩
end K12

/-! _law_spoilt. -/
namespace K12
open PySem DL SX
open P12
def bads : List Tk := [[48, 49], [48, 48], [49, 50, 51, 52, 53], [120], [119], [49, 46, 48], [95, 49]]
theorem bads_eq : ([.str "01", .str "00", .str "12345", .str "x", .str "w", .str "1.0", .str "_1"] : List D) = bads.map tS := by kernel_rfl
theorem cut_to (P : List D) (i : Nat) : cutD P none (some (i : Int)) = P.take i := by
  rw [ev_cutD, ev_sIx0, ev_sIx1, if_neg (by omega), Int.toNat_natCast, List.drop_zero, Nat.sub_zero]
  by_cases h : i ≤ P.length
  · rw [Nat.min_eq_left h]
  · rw [Nat.min_eq_right (by omega), List.take_of_length_le (Nat.le_refl _), List.take_of_length_le (by omega)]
theorem cut_from (P : List D) (i : Nat) : cutD P (some (i : Int)) none = P.drop i := by
  rw [ev_cutD, ev_sIx0, ev_sIx1, if_neg (by omega), Int.toNat_natCast]
  by_cases h : i ≤ P.length
  · rw [Nat.min_eq_left h, List.take_of_length_le (by rw [List.length_drop]; omega)]
  · rw [Nat.min_eq_right (by omega), List.drop_eq_nil_of_le (Nat.le_refl _), List.drop_eq_nil_of_le (as := P) (by omega)]
    simp
theorem slS_to {p : Tk} (h : p.length ≤ 900000) : opSl (tS p) none (some 1) = some (.fl (tS (p.take 1))) := by
  show (if (S p).length ≤ lim then _ else none) = _
  rw [S_len, if_pos (by show p.length ≤ 1000000; omega)]
  unfold L2.cutS
  rw [S_len, ev_sIx0, ev_sIx1, if_neg (by omega), List.drop_zero, Nat.sub_zero]
  show some (RV.fl (tS _)) = _
  congr 3
  show p.take (min (Int.toNat 1) p.length) = _
  cases p with
  | nil => rfl
  | cons c p => simp
abbrev sp (P : List D) (ch s : Int) (x y z w : Option B) : DEnv := [some (.sh (.lst P)), some (.sh (.int ch)), some (.sh (.int s)), x, y, z, w]
section
variable {P Q R : List D} {ch s j : Int} {x y z w : Option B}
theorem sp0 (hm : opMod (.int s) (.int (P.length : Int)) = some (.fl (.int j))) : q_law_spoilt_0 (sp P ch s none none none none) = .ok (.nx (sp P ch s (some (.sh (.int j))) none none none)) := by
  simp [opIntA, opInt, hm, -ev_modI]
abbrev tst (i : Int) : FT := fB (fOp2 opEq (fVar 1) (fC (.int i)))
theorem tst_ok {i : Int} {b : Bool} (h : decide (ch = i) = b) : tst i (sp P ch s x y z w) = .ok (b, sp P ch s x y z w) := by
  subst h
  simp
theorem sp1 (hT : cutD P none (some j) = Q) (hD : cutD P (some j) none = R) (h1 : opAdd (.lst Q) (.lst [tS [43], tS [42]]) = some (.nl (Q ++ [tS [43], tS [42]]))) (h2 : opAdd (.lst (Q ++ [tS [43], tS [42]])) (.lst R) = some (.nl (Q ++ [tS [43], tS [42]] ++ R))) :
    q_law_spoilt_1 (sp P 0 s (some (.sh (.int j))) y z w) = .ok (.rt (.nw (.lst (Q ++ [tS [43], tS [42]] ++ R))) (sp P 0 s (some (.sh (.int j))) y z w)) := by
  have e1 : D.str (Str.ofString "+") = tS [43] := congrArg D.str w_pl
  have e2 : D.str (Str.ofString "*") = tS [42] := congrArg D.str w_st
  generalize tS [43] = A at *
  generalize tS [42] = C at *
  simp [e1, e2, hT, hD, h1, h2, -ev_cutD, -ev_addL]
theorem spK {a : Nat} (h : opAdd (.lst P) (.lst [tS [87]]) = some (.nl (P ++ [tS [87]]))) : q_law_spoilt_4 (sp P 3 s x y z w) = .ok (.rt (.nw (.lst (P ++ [tS [87]]))) (sp P 3 s x y z w)) := by
  have e1 : D.str (Str.ofString "W") = tS [87] := congrArg D.str w_W
  generalize tS [87] = A at *
  simp [e1, h, -ev_addL]
theorem sp5 {U : D} (hm : opMod (.int s) (.int 3) = some (.fl (.int j))) (hu : L2.atI [tS [43], tS [45], tS [42]] j = some U) (h : opAdd (.lst P) (.lst [U]) = some (.nl (P ++ [U]))) : q_law_spoilt_5 (sp P 4 s x y z w) = .ok (.rt (.nw (.lst (P ++ [U]))) (sp P 4 s x y z w)) := by
  have e1 : D.str (Str.ofString "+") = tS [43] := congrArg D.str w_pl
  have e2 : D.str (Str.ofString "*") = tS [42] := congrArg D.str w_st
  have e3 : D.str (Str.ofString "-") = tS [45] := congrArg D.str w_mi
  generalize tS [43] = A at *
  generalize tS [42] = C at *
  generalize tS [45] = E at *
  simp [e1, e2, e3, hm, hu, h, opIntA, opInt, -ev_addL, -ev_atI, -ev_modI]
theorem sp6 (h : opAdd (.lst P) (.lst [tS [43], tS [87], tS [42], tS [50]]) = some (.nl (P ++ [tS [43], tS [87], tS [42], tS [50]]))) : q_law_spoilt_6 (sp P 5 s x y z w) = .ok (.rt (.nw (.lst (P ++ [tS [43], tS [87], tS [42], tS [50]]))) (sp P 5 s x y z w)) := by
  have e1 : D.str (Str.ofString "+") = tS [43] := congrArg D.str w_pl
  have e2 : D.str (Str.ofString "*") = tS [42] := congrArg D.str w_st
  have e3 : D.str (Str.ofString "W") = tS [87] := congrArg D.str w_W
  have e4 : D.str (Str.ofString "2") = tS [50] := congrArg D.str (by decide +kernel : Str.ofString "2" = S [50])
  generalize tS [43] = A at *
  generalize tS [42] = C at *
  generalize tS [87] = E at *
  generalize tS [50] = F at *
  simp [e1, e2, e3, e4, h, -ev_addL]
theorem sp7 : q_law_spoilt_7 (sp P 6 s x y z w) = .ok (.rt (.nw (.lst [])) (sp P 6 s x y z w)) := by simp
def last7 : List Tk := [[59], [110], [87, 32, 87], [50, 32, 51], [45, 32, 49], [43]]
theorem last7_eq : ([.str ";", .str "n", .str "W W", .str "2 3", .str "- 1", .str "+"] : List D) = last7.map tS := by kernel_rfl
theorem sp8 {U : D} (hm : opMod (.int s) (.int 6) = some (.fl (.int j))) (hu : L2.atI [.str ";", .str "n", .str "W W", .str "2 3", .str "- 1", .str "+"] j = some U) (h : opAdd (.lst P) (.lst [tS [43], U]) = some (.nl (P ++ [tS [43], U]))) : q_law_spoilt_8 (sp P ch s x y z w) = .ok (.rt (.nw (.lst (P ++ [tS [43], U]))) (sp P ch s x y z w)) := by
  have e1 : D.str (Str.ofString "+") = tS [43] := congrArg D.str w_pl
  rw [← e1] at h ⊢
  simp [hm, hu, h, opIntA, opInt, -ev_addL, -ev_atI, -ev_modI]
theorem sp3 {V : List D} (hm : opMod (.int s) (.int 4) = some (.fl (.int j))) (h1 : opAdd (.lst [tS [41]]) (.lst P) = some (.nl ([tS [41]] ++ P))) (h2 : opAdd (.lst [tS [40]]) (.lst P) = some (.nl ([tS [40]] ++ P))) (h3 : opAdd (.lst P) (.lst [tS [41]]) = some (.nl (P ++ [tS [41]]))) (h4 : opAdd (.lst P) (.lst [tS [40]]) = some (.nl (P ++ [tS [40]])))
    (hu : L2.atI [D.lst ([tS [41]] ++ P), D.lst ([tS [40]] ++ P), D.lst (P ++ [tS [41]]), D.lst (P ++ [tS [40]])] j = some (.lst V)) : q_law_spoilt_3 (sp P 2 s x y z w) = .ok (.rt (.vl (.lst V)) (sp P 2 s x y z w)) := by
  have e1 : D.str (Str.ofString ")") = tS [41] := congrArg D.str w_cl
  have e2 : D.str (Str.ofString "(") = tS [40] := congrArg D.str w_op
  generalize tS [41] = A at *
  generalize tS [40] = C at *
  simp only [List.cons_append, List.nil_append] at h1 h2 hu
  simp [e1, e2, hm, h1, h2, h3, h4, hu, opIntA, opInt, -ev_addL, -ev_atI, -ev_modI]
end
end K12

/-! _law_spoilt, on: a number is changed. -/
namespace K12
open PySem DL SX
open P12
abbrev c0 : FS := (fSet 4 (fLc (fiR1 (fA1 (fCB opLen (fA1 (fVar 0) fA0)) fA0)) (fgName 6) t_law_spoilt_1 c_law_spoilt_0 [6]))
abbrev c1 : FS := (fSet 5 (fOp2 opIx (fLst (fA1 (fC (.str "01")) (fA1 (fC (.str "00")) (fA1 (fC (.str "12345")) (fA1 (fC (.str "x")) (fA1 (fC (.str "w")) (fA1 (fC (.str "1.0")) (fA1 (fC (.str "_1")) fA0)))))))) (fOp2 opMod (fCB opInt (fA1 (fOp2 opDiv (fVar 2) (fC (.int 60))) fA0)) (fC (.int 7)))))
abbrev c2 : FS := (fSet 3 (fIf (fB (fOp2 opNe (fVar 4) (fLst fA0))) (fOp2 opIx (fVar 4) (fOp2 opMod (fCB opInt (fA1 (fVar 2) fA0)) (fCB opLen (fA1 (fVar 4) fA0)))) (fCB opLen (fA1 (fVar 0) fA0))))
abbrev c3 : FS := (fRet (fOp2 opAdd (fOp2 opAdd (fSl (fVar 0) fNoP (fPo (fVar 3))) (fLst (fA1 (fVar 5) fA0))) (fSl (fVar 0) (fPo (fOp2 opAdd (fVar 3) (fC (.int 1)))) fNoP)))
theorem c_cut : q_law_spoilt_2 = fIfS (tst 1) (fSeq c0 (fSeq c1 (fSeq c2 c3))) fNext := rfl
def ndK (l : List Tk) : D → Bool
  | .int k => strIn (S ((l.getD k.toNat []).take 1)) (S digs)
  | _ => false
abbrev iN (ks : List Nat) : List D := ks.map fun (k : Nat) => D.int (k : Int)
theorem filter_iN (p : D → Bool) (ks : List Nat) : (iN ks).filter p = iN (ks.filter fun k => p (.int (k : Int))) := by
  show (ks.map fun (k : Nat) => D.int (k : Int)).filter p = _
  rw [List.filter_map]
  rfl
section
variable {l : List Tk} (hl : Fine l) (hn : l.length ≤ 1000) {s j : Int} {x y z : Option B}
include hl hn
theorem c0_ok : ∃ ks : List Nat, c0 (sp (l.map tS) 1 s x none none none) = .ok (.nx (sp (l.map tS) 1 s x (some (.ow (.lst (iN ks)))) none none)) ∧ ∀ k ∈ ks, k < l.length := by
  have hP : (l.map tS).length = l.length := List.length_map _
  have hfi : fiR1 (fA1 (fCB opLen (fA1 (fVar 0) fA0)) fA0) (sp (l.map tS) 1 s x none none none) = .ok (iN (List.range l.length), sp (l.map tS) 1 s x none none none) := by
    have h := fiR1_ok (fr := fA1 (fCB opLen (fA1 (fVar 0) fA0)) fA0) (e := sp (l.map tS) 1 s x none none none) (e' := sp (l.map tS) 1 s x none none none) (ts := [.vl (.int ((l.map tS).length : Int))]) (n := (((l.map tS).length : Nat) : Int)) (by generalize l.map tS = P; simp) rfl (ok62_n (by omega))
    rw [Int.toNat_natCast, ev_rangeN, hP] at h
    exact h
  have h := flc2 (fi := fiR1 (fA1 (fCB opLen (fA1 (fVar 0) fA0)) fA0)) (ft := t_law_spoilt_1) (fe := c_law_spoilt_0) (v := 6) (e := sp (l.map tS) 1 s x none none none) (e' := sp (l.map tS) 1 s x none none none) (items := iN (List.range l.length)) (ndK l) id hfi rfl (by
    intro d hd
    obtain ⟨k, hk, rfl⟩ := List.mem_map.mp hd
    have hk := List.mem_range.mp hk
    refine ⟨?_, fun _ => ⟨.sl 6, rfl, rfl⟩⟩
    have hg : l.getD k [] = l[k] := by rw [List.getD_eq_getElem?_getD, List.getElem?_eq_getElem hk]; rfl
    have hat : L2.atI (l.map tS) (k : Int) = some (tS l[k]) := atI_of (by rw [List.getElem?_map, List.getElem?_eq_getElem hk]; rfl)
    have hsl := slS_to (p := l[k]) (by have := (hl.1 l[k] (List.getElem_mem hk)).2; omega)
    have hin : opInA (tS (l[k].take 1)) (.str "0123456789") = some (.fl (.bl (ndK l (.int (k : Int))))) := by
      rw [w_dg, ev_inSS]
      show _ = some (RV.fl (D.bl (strIn (S ((l.getD (k : Int).toNat []).take 1)) (S digs))))
      rw [Int.toNat_natCast, hg]
    generalize ndK l (.int (k : Int)) = b at *
    generalize tS (l[k].take 1) = V at *
    generalize tS l[k] = U at *
    generalize l.map tS = P at *
    cases x with
    | none => simp [t_law_spoilt_1, hat, hsl, hin, lendE, lendB, -ev_atI, -ev_inSS]
    | some x => cases x <;> simp [t_law_spoilt_1, hat, hsl, hin, lendE, lendB, -ev_atI, -ev_inSS]) (by rw [List.length_map, List.length_range, ev_lim]; omega)
  rw [List.map_id, filter_iN] at h
  exact ⟨(List.range l.length).filter fun k => ndK l (.int (k : Int)), fSet_ok h rfl, fun k hk => List.mem_range.mp (List.mem_filter.mp hk).1⟩
end
section
variable {P K : List D} {s j r : Int} {x y z w : Option B} {U : D}
theorem c1_ok {ko : Option B} (hd : opDiv (.int s) (.int 60) = some (.fl (.int j))) (hm : opMod (.int j) (.int 7) = some (.fl (.int r))) (hu : L2.atI [.str "01", .str "00", .str "12345", .str "x", .str "w", .str "1.0", .str "_1"] r = some U) : c1 (sp P 1 s x ko none none) = .ok (.nx (sp P 1 s x ko (some (.sh U)) none)) := by
  simp [hd, hm, hu, opIntA, opInt, -ev_divI, -ev_modI, -ev_atI]
theorem c2_t {V : D} (hne : opNe (.lst K) (.lst []) = some (.fl (.bl true))) (hm : opMod (.int s) (.int (K.length : Int)) = some (.fl (.int j))) (hu : L2.atI K j = some (.int r)) : c2 (sp P 1 s x (some (.ow (.lst K))) y none) = .ok (.nx (sp P 1 s (some (.sh (.int r))) (some (.ow (.lst K))) y none)) := by
  simp [hne, hm, hu, opIntA, opInt, -ev_opNe, -ev_modI, -ev_atI]
theorem c2_f (hne : opNe (.lst K) (.lst []) = some (.fl (.bl false))) : c2 (sp P 1 s x (some (.ow (.lst K))) y none) = .ok (.nx (sp P 1 s (some (.sh (.int (P.length : Int)))) (some (.ow (.lst K))) y none)) := by
  simp [hne, -ev_opNe]
theorem c3_ok {Q R : List D} (hT : cutD P none (some r) = Q) (hD : cutD P (some (r + 1)) none = R) (h1 : opAdd (.lst Q) (.lst [U]) = some (.nl (Q ++ [U]))) (h2 : opAdd (.lst (Q ++ [U])) (.lst R) = some (.nl (Q ++ [U] ++ R))) :
    c3 (sp P 1 s (some (.sh (.int r))) x (some (.sh U)) none) = .ok (.rt (.nw (.lst (Q ++ [U] ++ R))) (sp P 1 s (some (.sh (.int r))) x (some (.sh U)) none)) := by
  simp [hT, hD, h1, h2, -ev_cutD, -ev_addL]
end
end K12

/-! _law_spoilt: what it may hand back. -/
namespace K12
open PySem DL SX
open P12
def SpR (l : List Tk) (ch : Nat) (m : List Tk) : Prop :=
  (ch = 0 ∧ ∃ i, m = l.take i ++ [[43], [42]] ++ l.drop i) ∨
  (ch = 1 ∧ ∃ i U, U ∈ bads ∧ m = l.take i ++ [U] ++ l.drop (i + 1)) ∨
  (ch = 2 ∧ (m = [[41]] ++ l ∨ m = [[40]] ++ l ∨ m = l ++ [[41]] ∨ m = l ++ [[40]])) ∨
  (ch = 3 ∧ m = l ++ [[87]]) ∨
  (ch = 4 ∧ ∃ U : Tk, (U = [43] ∨ U = [45] ∨ U = [42]) ∧ m = l ++ [U]) ∨
  (ch = 5 ∧ m = l ++ [[43], [87], [42], [50]]) ∨
  (ch = 6 ∧ m = []) ∨
  (ch = 7 ∧ ∃ U ∈ last7, m = l ++ [[43], U])
theorem modN (s n : Nat) (h : 0 < n) : opMod (.int (s : Int)) (.int (n : Int)) = some (.fl (.int ((s % n : Nat) : Int))) := by
  rw [ev_modI, if_pos (modOk_of (by omega)), Int.fmod_eq_emod_of_nonneg _ (by omega)]
  rfl
theorem divN (s n : Nat) (h : 0 < n) (h2 : n ≤ 100000) : opDiv (.int (s : Int)) (.int (n : Int)) = some (.fl (.int ((s / n : Nat) : Int))) := by
  rw [ev_divI, if_pos (divOk_of (by omega) (by omega)), Int.fdiv_eq_ediv_of_nonneg _ (by omega)]
  rfl
theorem addLL {P Q : List D} (h : P.length + Q.length ≤ 100000) : opAdd (.lst P) (.lst Q) = some (.nl (P ++ Q)) := by
  rw [ev_addL, if_pos (by rw [ev_lim]; omega)]
section
variable {l : List Tk} {ch : Nat} {s : Int} {x y z w : Option B} {P : List D}
theorem sk1 (h : ch ≠ 0) : q_law_spoilt_1 (sp P ch s x y z w) = .ok (.nx (sp P ch s x y z w)) := (ifS_f (tst_ok (i := 0) (decide_eq_false (by omega)))).trans rfl
theorem sk2 (h : ch ≠ 1) : q_law_spoilt_2 (sp P ch s x y z w) = .ok (.nx (sp P ch s x y z w)) := (ifS_f (tst_ok (i := 1) (decide_eq_false (by omega)))).trans rfl
theorem sk3 (h : ch ≠ 2) : q_law_spoilt_3 (sp P ch s x y z w) = .ok (.nx (sp P ch s x y z w)) := (ifS_f (tst_ok (i := 2) (decide_eq_false (by omega)))).trans rfl
theorem sk4 (h : ch ≠ 3) : q_law_spoilt_4 (sp P ch s x y z w) = .ok (.nx (sp P ch s x y z w)) := (ifS_f (tst_ok (i := 3) (decide_eq_false (by omega)))).trans rfl
theorem sk5 (h : ch ≠ 4) : q_law_spoilt_5 (sp P ch s x y z w) = .ok (.nx (sp P ch s x y z w)) := (ifS_f (tst_ok (i := 4) (decide_eq_false (by omega)))).trans rfl
theorem sk6 (h : ch ≠ 5) : q_law_spoilt_6 (sp P ch s x y z w) = .ok (.nx (sp P ch s x y z w)) := (ifS_f (tst_ok (i := 5) (decide_eq_false (by omega)))).trans rfl
theorem sk7 (h : ch ≠ 6) : q_law_spoilt_7 (sp P ch s x y z w) = .ok (.nx (sp P ch s x y z w)) := (ifS_f (tst_ok (i := 6) (decide_eq_false (by omega)))).trans rfl
end
theorem spoilt_ok {l : List Tk} {ch s : Nat} (hl : Fine l) (hn : l.length ≤ 1000) (h0 : 0 < l.length) (hch : ch < 8) : ∃ m b, m_law_spoilt [.sh (lT l), .sh (.int (ch : Int)), .sh (.int (s : Int))] = .ok (lT m, b, [.sh (lT l), .sh (.int (ch : Int)), .sh (.int (s : Int))]) ∧ SpR l ch m := by
  have hP : (l.map tS).length = l.length := List.length_map _
  have e0 : q_law_spoilt_0 (env0 7 [.sh (lT l), .sh (.int (ch : Int)), .sh (.int (s : Int))]) = .ok (.nx (sp (l.map tS) ch s (some (.sh (.int ((s % l.length : Nat) : Int)))) none none none)) := by
    refine sp0 ?_
    rw [hP]
    exact modN s l.length h0
  have fin : ∀ {m : List Tk} {x y z w : Option B}, b_law_spoilt (env0 7 [.sh (lT l), .sh (.int (ch : Int)), .sh (.int (s : Int))]) = .ok (.rt (.nw (lT m)) (sp (l.map tS) ch s x y z w)) → m_law_spoilt [.sh (lT l), .sh (.int (ch : Int)), .sh (.int (s : Int))] = .ok (lT m, true, [.sh (lT l), .sh (.int (ch : Int)), .sh (.int (s : Int))]) := fun h => fn_rt h rfl
  have finV : ∀ {m : List Tk} {x y z w : Option B}, b_law_spoilt (env0 7 [.sh (lT l), .sh (.int (ch : Int)), .sh (.int (s : Int))]) = .ok (.rt (.vl (lT m)) (sp (l.map tS) ch s x y z w)) → m_law_spoilt [.sh (lT l), .sh (.int (ch : Int)), .sh (.int (s : Int))] = .ok (lT m, false, [.sh (lT l), .sh (.int (ch : Int)), .sh (.int (s : Int))]) := fun h => fn_rt h rfl
  rcases (by omega : ch = 0 ∨ ch = 1 ∨ ch = 2 ∨ ch = 3 ∨ ch = 4 ∨ ch = 5 ∨ ch = 6 ∨ ch = 7) with rfl | rfl | rfl | rfl | rfl | rfl | rfl | rfl
  · have hlt : s % l.length < l.length := Nat.mod_lt _ h0
    have hm : (l.take (s % l.length) ++ [[43], [42]] ++ l.drop (s % l.length)).map tS = (l.map tS).take (s % l.length) ++ [tS [43], tS [42]] ++ (l.map tS).drop (s % l.length) := by
      rw [List.map_append, List.map_append, List.map_take, List.map_drop]; rfl
    have h1 := sp1 (s := s) (y := none) (z := none) (w := none) (cut_to (l.map tS) (s % l.length)) (cut_from (l.map tS) (s % l.length)) (addLL (by rw [List.length_take, hP]; simp; omega)) (addLL (by simp; omega))
    rw [← hm] at h1
    exact ⟨_, _, fin (seq_nx e0 (seq_rt h1)), .inl ⟨rfl, _, rfl⟩⟩
  · obtain ⟨ks, k0, hk⟩ := c0_ok hl hn (s := s) (x := some (.sh (.int ((s % l.length : Nat) : Int))))
    have hU : ∃ U, U ∈ bads ∧ L2.atI [.str "01", .str "00", .str "12345", .str "x", .str "w", .str "1.0", .str "_1"] ((s / 60 % 7 : Nat) : Int) = some (tS U) := by
      have hlt : s / 60 % 7 < bads.length := Nat.mod_lt _ (by decide)
      rw [bads_eq]
      exact ⟨bads[s / 60 % 7], List.getElem_mem hlt, atI_of (by rw [List.getElem?_map, List.getElem?_eq_getElem hlt]; rfl)⟩
    obtain ⟨U, hU, hat⟩ := hU
    have k1 := c1_ok (P := l.map tS) (s := s) (x := some (.sh (.int ((s % l.length : Nat) : Int)))) (ko := some (.ow (.lst (iN ks)))) (divN s 60 (by omega) (by omega)) (modN (s / 60) 7 (by omega)) hat
    have key : ∀ r : Nat, r ≤ l.length → c2 (sp (l.map tS) 1 s (some (.sh (.int ((s % l.length : Nat) : Int)))) (some (.ow (.lst (iN ks)))) (some (.sh (tS U))) none) = .ok (.nx (sp (l.map tS) 1 s (some (.sh (.int (r : Nat)))) (some (.ow (.lst (iN ks)))) (some (.sh (tS U))) none)) → ∃ m b, m_law_spoilt [.sh (lT l), .sh (.int ((1 : Nat) : Int)), .sh (.int (s : Int))] = .ok (lT m, b, [.sh (lT l), .sh (.int ((1 : Nat) : Int)), .sh (.int (s : Int))]) ∧ SpR l 1 m := by
      intro r hr k2
      have hm : (l.take r ++ [U] ++ l.drop (r + 1)).map tS = (l.map tS).take r ++ [tS U] ++ (l.map tS).drop (r + 1) := by
        rw [List.map_append, List.map_append, List.map_take, List.map_drop]; rfl
      have k3 := c3_ok (s := s) (x := some (.ow (.lst (iN ks)))) (U := tS U) (cut_to (l.map tS) r) (cut_from (l.map tS) (r + 1)) (addLL (by rw [List.length_take, hP]; simp; omega)) (addLL (by simp; omega))
      rw [← hm] at k3
      have k4 := (ifS_t (f := tst 1) (a := fSeq c0 (fSeq c1 (fSeq c2 c3))) (b := fNext) (tst_ok (P := l.map tS) (ch := 1) (s := s) (x := some (.sh (.int ((s % l.length : Nat) : Int)))) (y := none) (z := none) (w := none) (i := 1) (decide_eq_true rfl))).trans (seq_nx k0 (seq_nx k1 (seq_nx k2 k3)))
      exact ⟨_, _, fin (seq_nx e0 (seq_nx (sk1 (by omega)) (seq_rt k4))), .inr (.inl ⟨rfl, r, U, hU, rfl⟩)⟩
    have hne : ∀ b, decide (ks ≠ []) = b → opNe (.lst (iN ks)) (.lst []) = some (.fl (.bl b)) := by
      intro b hb
      have e : iN ks = (ks.map fun (k : Nat) => (k : Int)).map D.int := by rw [List.map_map]; rfl
      rw [ev_opNe, e, ok_ints, show dOk (.lst []) = true from ok_ints [], deq_LL]
      cases ks with
      | nil => subst hb; rfl
      | cons k ks => subst hb; rfl
    by_cases hks : ks = []
    · have := c2_f (P := l.map tS) (K := iN ks) (s := s) (x := some (.sh (.int ((s % l.length : Nat) : Int)))) (y := some (.sh (tS U))) (hne false (decide_eq_false (by simpa using hks)))
      rw [hP] at this
      exact key l.length (Nat.le_refl _) this
    · have hpos : 0 < ks.length := List.length_pos_iff.mpr hks
      have hlt : s % ks.length < ks.length := Nat.mod_lt _ hpos
      have hK : (iN ks).length = ks.length := List.length_map _
      have := c2_t (P := l.map tS) (K := iN ks) (s := s) (j := ((s % ks.length : Nat) : Int)) (r := (ks[s % ks.length] : Nat)) (x := some (.sh (.int ((s % l.length : Nat) : Int)))) (y := some (.sh (tS U))) (V := .non) (hne true (decide_eq_true hks)) (by rw [hK]; exact modN s ks.length hpos) (atI_of (by rw [List.getElem?_map, List.getElem?_eq_getElem hlt]; rfl))
      exact key _ (Nat.le_of_lt (hk _ (List.getElem_mem hlt))) this
  · have hx := modN s 4 (by omega)
    have a1 : opAdd (.lst [tS [41]]) (.lst (l.map tS)) = some (.nl ([tS [41]] ++ l.map tS)) := addLL (by simp; omega)
    have a2 : opAdd (.lst [tS [40]]) (.lst (l.map tS)) = some (.nl ([tS [40]] ++ l.map tS)) := addLL (by simp; omega)
    have a3 : opAdd (.lst (l.map tS)) (.lst [tS [41]]) = some (.nl (l.map tS ++ [tS [41]])) := addLL (by simp; omega)
    have a4 : opAdd (.lst (l.map tS)) (.lst [tS [40]]) = some (.nl (l.map tS ++ [tS [40]])) := addLL (by simp; omega)
    have go : ∀ m : List Tk, L2.atI [D.lst ([tS [41]] ++ l.map tS), D.lst ([tS [40]] ++ l.map tS), D.lst (l.map tS ++ [tS [41]]), D.lst (l.map tS ++ [tS [40]])] ((s % 4 : Nat) : Int) = some (lT m) → m_law_spoilt [.sh (lT l), .sh (.int ((2 : Nat) : Int)), .sh (.int (s : Int))] = .ok (lT m, false, [.sh (lT l), .sh (.int ((2 : Nat) : Int)), .sh (.int (s : Int))]) := fun m hu => by
      have h3 := sp3 (s := s) (x := some (.sh (.int ((s % l.length : Nat) : Int)))) (y := none) (z := none) (w := none) hx a1 a2 a3 a4 hu
      exact finV (seq_nx e0 (seq_nx (sk1 (by omega)) (seq_nx (sk2 (by omega)) (seq_rt h3))))
    have hlt : s % 4 < 4 := Nat.mod_lt _ (by omega)
    rcases (by omega : s % 4 = 0 ∨ s % 4 = 1 ∨ s % 4 = 2 ∨ s % 4 = 3) with h | h | h | h
    · exact ⟨_, _, go ([[41]] ++ l) (by rw [h]; rfl), .inr (.inr (.inl ⟨rfl, .inl rfl⟩))⟩
    · exact ⟨_, _, go ([[40]] ++ l) (by rw [h]; rfl), .inr (.inr (.inl ⟨rfl, .inr (.inl rfl)⟩))⟩
    · exact ⟨_, _, go (l ++ [[41]]) (by rw [h]; show some (D.lst (l.map tS ++ [tS [41]])) = _; rw [lT, List.map_append]; rfl), .inr (.inr (.inl ⟨rfl, .inr (.inr (.inl rfl))⟩))⟩
    · exact ⟨_, _, go (l ++ [[40]]) (by rw [h]; show some (D.lst (l.map tS ++ [tS [40]])) = _; rw [lT, List.map_append]; rfl), .inr (.inr (.inl ⟨rfl, .inr (.inr (.inr rfl))⟩))⟩
  · have h4 := spK (a := 0) (s := s) (x := some (.sh (.int ((s % l.length : Nat) : Int)))) (y := none) (z := none) (w := none) (P := l.map tS) (addLL (by simp; omega))
    rw [show l.map tS ++ [tS [87]] = (l ++ [[87]]).map tS by rw [List.map_append]; rfl] at h4
    exact ⟨_, _, fin (seq_nx e0 (seq_nx (sk1 (by omega)) (seq_nx (sk2 (by omega)) (seq_nx (sk3 (by omega)) (seq_rt h4))))), .inr (.inr (.inr (.inl ⟨rfl, rfl⟩)))⟩
  · have hlt : s % 3 < 3 := Nat.mod_lt _ (by omega)
    have hU : ∃ U : Tk, (U = [43] ∨ U = [45] ∨ U = [42]) ∧ L2.atI [tS [43], tS [45], tS [42]] ((s % 3 : Nat) : Int) = some (tS U) := by
      rcases (by omega : s % 3 = 0 ∨ s % 3 = 1 ∨ s % 3 = 2) with h | h | h <;> rw [h]
      · exact ⟨[43], .inl rfl, rfl⟩
      · exact ⟨[45], .inr (.inl rfl), rfl⟩
      · exact ⟨[42], .inr (.inr rfl), rfl⟩
    obtain ⟨U, hU, hat⟩ := hU
    have h5 := sp5 (s := s) (x := some (.sh (.int ((s % l.length : Nat) : Int)))) (y := none) (z := none) (w := none) (P := l.map tS) (modN s 3 (by omega)) hat (addLL (by simp; omega))
    rw [show l.map tS ++ [tS U] = (l ++ [U]).map tS by rw [List.map_append]; rfl] at h5
    exact ⟨_, _, fin (seq_nx e0 (seq_nx (sk1 (by omega)) (seq_nx (sk2 (by omega)) (seq_nx (sk3 (by omega)) (seq_nx (sk4 (by omega)) (seq_rt h5)))))), .inr (.inr (.inr (.inr (.inl ⟨rfl, U, hU, rfl⟩))))⟩
  · have h6 := sp6 (s := s) (x := some (.sh (.int ((s % l.length : Nat) : Int)))) (y := none) (z := none) (w := none) (P := l.map tS) (addLL (by simp; omega))
    rw [show l.map tS ++ [tS [43], tS [87], tS [42], tS [50]] = (l ++ [[43], [87], [42], [50]]).map tS by rw [List.map_append]; rfl] at h6
    exact ⟨_, _, fin (seq_nx e0 (seq_nx (sk1 (by omega)) (seq_nx (sk2 (by omega)) (seq_nx (sk3 (by omega)) (seq_nx (sk4 (by omega)) (seq_nx (sk5 (by omega)) (seq_rt h6))))))), .inr (.inr (.inr (.inr (.inr (.inl ⟨rfl, rfl⟩)))))⟩
  · have h7 := sp7 (s := s) (x := some (.sh (.int ((s % l.length : Nat) : Int)))) (y := none) (z := none) (w := none) (P := l.map tS)
    exact ⟨[], _, fin (m := []) (seq_nx e0 (seq_nx (sk1 (by omega)) (seq_nx (sk2 (by omega)) (seq_nx (sk3 (by omega)) (seq_nx (sk4 (by omega)) (seq_nx (sk5 (by omega)) (seq_nx (sk6 (by omega)) (seq_rt h7)))))))), .inr (.inr (.inr (.inr (.inr (.inr (.inl ⟨rfl, rfl⟩))))))⟩
  · have hlt : s % 6 < last7.length := Nat.mod_lt _ (by decide)
    have hat : L2.atI [.str ";", .str "n", .str "W W", .str "2 3", .str "- 1", .str "+"] ((s % 6 : Nat) : Int) = some (tS last7[s % 6]) := by
      rw [last7_eq]
      exact atI_of (by rw [List.getElem?_map, List.getElem?_eq_getElem hlt]; rfl)
    have h8 := sp8 (ch := 7) (s := s) (x := some (.sh (.int ((s % l.length : Nat) : Int)))) (y := none) (z := none) (w := none) (P := l.map tS) (modN s 6 (by omega)) hat (addLL (by simp; omega))
    rw [show l.map tS ++ [tS [43], tS last7[s % 6]] = (l ++ [[43], last7[s % 6]]).map tS by rw [List.map_append]; rfl] at h8
    exact ⟨_, _, fin (seq_nx e0 (seq_nx (sk1 (by omega)) (seq_nx (sk2 (by omega)) (seq_nx (sk3 (by omega)) (seq_nx (sk4 (by omega)) (seq_nx (sk5 (by omega)) (seq_nx (sk6 (by omega)) (seq_nx (sk7 (by omega)) h8)))))))), .inr (.inr (.inr (.inr (.inr (.inr (.inr ⟨rfl, _, List.getElem_mem hlt, rfl⟩))))))⟩
end K12

/-! What is told of the texts: the plain law. -/
namespace K12
open PySem DL SX
open P12
theorem word_cls {p : Tk} (h : word p = true) : cls p = 6 ∨ cls p = 7 := by
  unfold cls
  rw [if_neg (by rintro rfl; exact absurd h (by decide)), if_neg (by rintro rfl; exact absurd h (by decide)), if_neg (by rintro rfl; exact absurd h (by decide)), if_neg (by rintro rfl; exact absurd h (by decide)), if_neg (by rintro rfl; exact absurd h (by decide)), word_letter h]
  show (if (none : Option V3).isSome = true then 5 else _) = 6 ∨ _
  rw [if_neg (by simp)]
  cases (num p).isSome <;> simp
theorem prs_sep : ∀ l : List Tk, prs l = true → sep l = true
  | [], _ => rfl
  | [_], _ => rfl
  | p :: q :: r, h => by
    obtain ⟨h1, h2⟩ := Bool.and_eq_true_iff.mp (show (al (cls p) (cls q) && prs (q :: r)) = true from h)
    show (!(word p && word q) && sep (q :: r)) = true
    rw [prs_sep (q :: r) h2, Bool.and_true]
    cases hp : word p
    · rfl
    · cases hq : word q
      · rfl
      · rcases word_cls hp with e | e <;> rcases word_cls hq with e2 | e2 <;> (rw [e, e2] at h1; cases h1)
theorem sep_tail {p : Tk} {l : List Tk} (h : sep (p :: l) = true) : sep l = true := by
  cases l with
  | nil => rfl
  | cons q r => exact (Bool.and_eq_true_iff.mp h).2
theorem sep_left : ∀ (l m : List Tk), sep (l ++ m) = true → sep l = true
  | [], _, _ => rfl
  | [_], _, _ => rfl
  | p :: q :: r, m, h => by
    obtain ⟨h1, h2⟩ := Bool.and_eq_true_iff.mp (show (!(word p && word q) && sep (q :: r ++ m)) = true from h)
    show (!(word p && word q) && sep (q :: r)) = true
    rw [h1, sep_left (q :: r) m h2]; rfl
theorem sep_right : ∀ (l m : List Tk), sep (l ++ m) = true → sep m = true
  | [], _, h => h
  | p :: l, m, h => sep_right l m (sep_tail h)
theorem sep_nw {x : Tk} {m : List Tk} (hx : word x = false) (hm : sep m = true) : sep (x :: m) = true := by
  cases m with
  | nil => rfl
  | cons q r =>
    show (!(word x && word q) && sep (q :: r)) = true
    rw [hx, hm]; rfl
theorem sep_mid {x : Tk} {m : List Tk} (hx : word x = false) (hm : sep m = true) : ∀ l : List Tk, sep l = true → sep (l ++ x :: m) = true
  | [], _ => sep_nw hx hm
  | [p], _ => by
    show (!(word p && word x) && sep (x :: m)) = true
    rw [hx, sep_nw hx hm, Bool.and_false]; rfl
  | p :: q :: r, h => by
    obtain ⟨h1, h2⟩ := Bool.and_eq_true_iff.mp (show (!(word p && word q) && sep (q :: r)) = true from h)
    show (!(word p && word q) && sep (q :: r ++ x :: m)) = true
    rw [h1, sep_mid hx hm (q :: r) h2]; rfl
theorem sep_reps {x : Tk} (hx : word x = false) {m : List Tk} (hm : sep m = true) : ∀ d : Nat, sep (List.replicate d x ++ m) = true
  | 0 => hm
  | d + 1 => by
    rw [List.replicate_succ, List.cons_append]
    exact sep_nw hx (sep_reps hx hm d)
theorem sep_repe {x : Tk} (hx : word x = false) {m : List Tk} (hm : sep m = true) (d : Nat) : sep (m ++ List.replicate d x) = true := by
  cases d with
  | zero => rw [List.replicate_zero, List.append_nil]; exact hm
  | succ d =>
    rw [List.replicate_succ]
    refine sep_mid hx ?_ m hm
    have := sep_reps hx (m := []) rfl d
    rwa [List.append_nil] at this
/-- the parts in d parentheses -/
def inP (d : Nat) (m : List Tk) : List Tk := List.replicate d [40] ++ m ++ List.replicate d [41]
theorem sep_inP {d : Nat} {m : List Tk} (h : sep m = true) : sep (inP d m) = true := by
  unfold inP
  exact sep_repe (by decide) (sep_reps (by decide) h d) d
def Ones (l : List Tk) : Prop := ∀ p ∈ l, one p ∧ Asc p ∧ p.length ≤ 10
theorem ones_app {l m : List Tk} (h : Ones l) (h2 : Ones m) : Ones (l ++ m) := fun p hp => (List.mem_append.mp hp).elim (h p) (h2 p)
theorem ones1 {c : Nat} (h : [c] ∈ sg1) (hc : c < 128) : Ones [[c]] := fun p hp => by rw [List.mem_singleton.mp hp]; exact ⟨one1 h, asc1 hc, by simp⟩
theorem ones_rep {c : Nat} (h : [c] ∈ sg1) (hc : c < 128) (d : Nat) : Ones (List.replicate d [c]) := fun p hp => by rw [List.eq_of_mem_replicate hp]; exact ⟨one1 h, asc1 hc, by simp⟩
theorem ones_inP {d : Nat} {m : List Tk} (h : Ones m) : Ones (inP d m) := ones_app (ones_app (ones_rep (by decide) (by decide) d) h) (ones_rep (by decide) (by decide) d)
theorem ones_dec {n : Nat} (h : n < 10000) : Ones [dec n] := fun p hp => by
  rw [List.mem_singleton.mp hp]
  have : (dec n).length ≤ 4 := TL.numL_len (by decide) h
  exact ⟨dec_one n, asc_dec n, by omega⟩
theorem ones_body {t : Tm} (h : t.amt < 10000) : Ones (body t) := by
  unfold body
  have hd := ones_dec h
  have h42 := ones1 (c := 42) (by decide) (by decide)
  have h78 := ones1 (c := 78) (by decide) (by decide)
  have h87 := ones1 (c := 87) (by decide) (by decide)
  split
  · exact ones_app hd (ones_app h42 h78)
  · split
    · exact ones_app hd (ones_app h42 h87)
    · split
      · exact h78
      · split
        · exact h87
        · exact hd
theorem ones_tail : ∀ ts : List Tm, (∀ u ∈ ts, u.amt < 10000) → Ones (tailT ts)
  | [], _ => fun p hp => by cases hp
  | t :: ts, h => by
    have h1 := ones_body (h t List.mem_cons_self)
    have h2 := ones_tail ts fun u hu => h u (List.mem_cons_of_mem _ hu)
    show Ones ([if t.neg then [45] else [43]] ++ (body t ++ tailT ts))
    refine ones_app ?_ (ones_app h1 h2)
    cases t.neg
    · exact ones1 (by decide) (by decide)
    · exact ones1 (by decide) (by decide)
theorem ones_head (t : Tm) (ts : List Tm) (h : ∀ u ∈ t :: ts, u.amt < 10000) : Ones (headT (t :: ts)) := by
  have h1 := ones_body (h t List.mem_cons_self)
  have h2 := ones_tail ts fun u hu => h u (List.mem_cons_of_mem _ hu)
  show Ones ((if t.neg then [[45]] else []) ++ (body t ++ tailT ts))
  refine ones_app ?_ (ones_app h1 h2)
  cases t.neg
  · exact fun p hp => by cases hp
  · exact ones1 (by decide) (by decide)
theorem head_ne (t : Tm) (ts : List Tm) : headT (t :: ts) ≠ [] := by
  obtain ⟨q, r, e, _⟩ := body_ne t
  show (if t.neg then [[45]] else []) ++ (body t ++ tailT ts) ≠ []
  rw [e]
  cases t.neg <;> simp
/-- what is known of the drawn terms' parts -/
structure Good (l : List Tk) (v : V3) : Prop where
  rd : ∀ d : Nat, readT (inP d l) = some v
  on : Ones l
  ne : l ≠ []
theorem good_head (t : Tm) (ts : List Tm) (h : ∀ u ∈ t :: ts, u.amt < 2000) (hn : ts.length ≤ 4) : Good (headT (t :: ts)) (total (0, 0, 0) (t :: ts)) := by
  have h' : ∀ u ∈ t :: ts, u.amt < 10000 := fun u hu => by have := h u hu; omega
  refine ⟨fun d => ?_, ones_head t ts h', head_ne t ts⟩
  unfold inP
  rw [List.append_assoc]
  exact read_good d t ts h' (by omega)
section
variable {l : List Tk} {v : V3} (g : Good l v)
include g
theorem Good.prs : P12.prs ([40] :: (l ++ [[41]])) = true := by
  have := read_right (g.rd 0)
  unfold inP at this
  simp only [List.replicate_zero, List.append_nil, List.nil_append] at this
  exact this.1
theorem Good.cnt : P12.cnt [40] l = P12.cnt [41] l := by
  have := read_right (g.rd 0)
  unfold inP at this
  simp only [List.replicate_zero, List.append_nil, List.nil_append] at this
  exact this.2
theorem Good.sep : P12.sep l = true := sep_left l [[41]] (sep_tail (prs_sep _ g.prs))
/-- the last part -/
theorem Good.last : ∃ l' x, l = l' ++ [x] ∧ al (cls x) 1 = true := by
  have hp := g.prs
  have e := List.dropLast_concat_getLast g.ne
  refine ⟨l.dropLast, l.getLast g.ne, e.symm, ?_⟩
  rw [← e, List.append_assoc] at hp
  have := prs_right ([40] :: l.dropLast) _ hp
  exact (Bool.and_eq_true_iff.mp (show (al (cls (l.getLast g.ne)) (cls [41]) && _) = true from this)).1
end
theorem al_last {x : Tk} {k : Nat} (h : al (cls x) 1 = true) (hk : k = 5 ∨ k = 6 ∨ k = 7) : al (cls x) k = false := by
  generalize cls x = c at *
  unfold al at h
  split at h <;> first | (rcases hk with rfl | rfl | rfl <;> rfl) | (exfalso; omega) | cases h
/-! ### the text with gaps -/
def gz : List Tk → List Nat → List Tk
  | p :: ps, g :: gs => (p ++ List.replicate g 32) :: gz ps gs
  | _, _ => []
theorem gp_gz : ∀ (ps : List Tk) (gs : List Nat), gp ps gs = (gz ps gs).flatten
  | [], _ => rfl
  | _ :: _, [] => rfl
  | p :: ps, g :: gs => by
    show p ++ (List.replicate g 32 ++ gp ps gs) = (p ++ List.replicate g 32) ++ (gz ps gs).flatten
    rw [gp_gz ps gs, List.append_assoc]
theorem read_gaps {l : List Tk} {g0 : Nat} {gs : List Nat} (h : Ones l) (hs : sep l = true) (hg : gs.length = l.length) : readX (List.replicate g0 32 ++ gp l gs) = readT l := by
  unfold readX
  rw [toks_gap, toks_gp l gs (fun p hp => (h p hp).1) hs (by omega)]
  rfl
theorem gp_len : ∀ (l : List Tk) (gs : List Nat), Ones l → (∀ g ∈ gs, g ≤ 3) → (gp l gs).length ≤ 13 * l.length ∧ Asc (gp l gs)
  | [], _, _, _ => ⟨Nat.zero_le _, asc0⟩
  | _ :: _, [], _, _ => ⟨Nat.zero_le _, asc0⟩
  | p :: ps, g :: gs, h, h2 => by
    obtain ⟨h3, h4⟩ := gp_len ps gs (fun q hq => h q (List.mem_cons_of_mem _ hq)) (fun q hq => h2 q (List.mem_cons_of_mem _ hq))
    have h5 := h p List.mem_cons_self
    have h6 := h2 g List.mem_cons_self
    refine ⟨?_, asc_app h5.2.1 (asc_app (fun c hc => by rw [List.eq_of_mem_replicate hc]; decide) h4)⟩
    show (p ++ (List.replicate g 32 ++ gp ps gs)).length ≤ _
    rw [List.length_append, List.length_append, List.length_replicate, List.length_cons]
    have := h5.2.2
    omega
end K12

/-! Spoilt texts are not read. -/
namespace K12
open PySem DL SX
open P12
/-- a pair within the parentheses -/
theorem bad_in {x y : Tk} {A B : List Tk} (h : al (cls x) (cls y) = false) (d : Nat) : readT (inP d (A ++ x :: y :: B)) = none := by
  refine not_read_pair (x := x) (y := y) (l := [40] :: (List.replicate d [40] ++ A)) (m := B ++ (List.replicate d [41] ++ [[41]])) h _ ?_
  unfold inP
  simp
/-- a part that no neighbour may have -/
theorem bad_one {y : Tk} {A B : List Tk} (h : cls y = 7) (d : Nat) : readT (inP d (A ++ y :: B)) = none := by
  have h7 : ∀ x : Tk, al (cls x) (cls y) = false := fun x => by
    rw [h]
    generalize cls x = c
    unfold al
    split <;> first | rfl | (exfalso; omega)
  have e : ∃ L x, [40] :: (List.replicate d [40] ++ A) = L ++ [x] := ⟨([40] :: (List.replicate d [40] ++ A)).dropLast, _, (List.dropLast_concat_getLast (List.cons_ne_nil _ _)).symm⟩
  obtain ⟨L, x, e⟩ := e
  refine not_read_pair (x := x) (y := y) (l := L) (m := B ++ (List.replicate d [41] ++ [[41]])) (h7 x) _ ?_
  have : [40] :: (inP d (A ++ y :: B) ++ [[41]]) = ([40] :: (List.replicate d [40] ++ A)) ++ y :: (B ++ (List.replicate d [41] ++ [[41]])) := by
    unfold inP
    simp
  rw [this, e, List.append_assoc]
  rfl
/-- the last part before the parentheses -/
theorem bad_end {y : Tk} {A : List Tk} (h : al (cls y) 1 = false) (d : Nat) : readT (inP d (A ++ [y])) = none := by
  refine not_read_pair (x := y) (y := [41]) (l := [40] :: (List.replicate d [40] ++ A)) (m := List.replicate d [41]) h _ ?_
  unfold inP
  have : List.replicate d ([41] : Tk) ++ [[41]] = [41] :: List.replicate d [41] := by rw [← List.replicate_succ', List.replicate_succ]
  simp only [List.append_assoc, List.cons_append, List.nil_append]
  rw [this]
theorem cnt_inP (x : Tk) (d : Nat) (m : List Tk) : P12.cnt x (inP d m) = P12.cnt x (List.replicate d [40]) + P12.cnt x m + P12.cnt x (List.replicate d [41]) := by
  unfold inP
  rw [cnt_app, cnt_app]
theorem one_sg {p : Tk} (h : p ∈ sg1) : word p = false := by
  unfold sg1 at h
  simp at h
  rcases h with rfl | rfl | rfl | rfl | rfl | rfl | rfl <;> decide
section
variable {l m : List Tk} {v : V3} (g : Good l v) {ch d : Nat}
include g
theorem Good.snoc {y : Tk} (h : word y = false) : P12.sep (l ++ [y]) = true := sep_mid h rfl l g.sep
theorem spoil_gap (hs : SpR l ch m) (hc : ch ≠ 1 ∧ ch ≠ 3 ∧ ch ≠ 7) : Ones m ∧ P12.sep m = true ∧ readT (inP d m) = none := by
  have o43 := ones1 (c := 43) (by decide) (by decide)
  have o42 := ones1 (c := 42) (by decide) (by decide)
  have o45 := ones1 (c := 45) (by decide) (by decide)
  have o41 := ones1 (c := 41) (by decide) (by decide)
  have o40 := ones1 (c := 40) (by decide) (by decide)
  have o87 := ones1 (c := 87) (by decide) (by decide)
  rcases hs with ⟨rfl, i, rfl⟩ | ⟨rfl, _⟩ | ⟨rfl, h⟩ | ⟨rfl, _⟩ | ⟨rfl, U, hU, rfl⟩ | ⟨rfl, rfl⟩ | ⟨rfl, rfl⟩ | ⟨rfl, _⟩
  · have s1 : P12.sep (l.take i) = true := sep_left (l.take i) (l.drop i) (by rw [List.take_append_drop]; exact g.sep)
    have s2 : P12.sep (l.drop i) = true := sep_right (l.take i) (l.drop i) (by rw [List.take_append_drop]; exact g.sep)
    have t1 : Ones (l.take i) := fun p hp => g.on p (List.mem_of_mem_take hp)
    have t2 : Ones (l.drop i) := fun p hp => g.on p (List.mem_of_mem_drop hp)
    refine ⟨ones_app (ones_app t1 (ones_app o43 o42)) t2, ?_, ?_⟩
    · rw [List.append_assoc]
      exact sep_mid (by decide) (sep_nw (by decide) s2) _ s1
    · rw [List.append_assoc]
      exact bad_in (by decide +kernel) d
  · omega
  · have hcnt := g.cnt
    obtain ⟨r1, r2, r3, r4⟩ := cnt_rep d
    have hn : P12.cnt [40] m ≠ P12.cnt [41] m → readT (inP d m) = none := fun hne => not_read_cnt (by
      rw [cnt_inP, cnt_inP, r1, r2, r3, r4]
      omega)
    have c1 : P12.cnt [40] [[41]] = 0 ∧ P12.cnt [41] [[41]] = 1 ∧ P12.cnt [40] [[40]] = 1 ∧ P12.cnt [41] [[40]] = 0 := by decide
    rcases h with rfl | rfl | rfl | rfl
    · exact ⟨ones_app o41 g.on, sep_nw (by decide) g.sep, hn (by rw [cnt_app, cnt_app, c1.1, c1.2.1]; omega)⟩
    · exact ⟨ones_app o40 g.on, sep_nw (by decide) g.sep, hn (by rw [cnt_app, cnt_app, c1.2.2.1, c1.2.2.2]; omega)⟩
    · exact ⟨ones_app g.on o41, g.snoc (by decide), hn (by rw [cnt_app, cnt_app, c1.1, c1.2.1]; omega)⟩
    · exact ⟨ones_app g.on o40, g.snoc (by decide), hn (by rw [cnt_app, cnt_app, c1.2.2.1, c1.2.2.2]; omega)⟩
  · omega
  · rcases hU with rfl | rfl | rfl
    · exact ⟨ones_app g.on o43, g.snoc (by decide), bad_end (by decide +kernel) d⟩
    · exact ⟨ones_app g.on o45, g.snoc (by decide), bad_end (by decide +kernel) d⟩
    · exact ⟨ones_app g.on o42, g.snoc (by decide), bad_end (by decide +kernel) d⟩
  · have o50 : Ones [[50]] := fun p hp => by rw [List.mem_singleton.mp hp]; exact ⟨.inl (by decide), asc1 (by decide), by simp⟩
    refine ⟨ones_app g.on (ones_app o43 (ones_app o87 (ones_app o42 o50))), sep_mid (by decide) (by decide) l g.sep, ?_⟩
    have : l ++ [[43], [87], [42], [50]] = (l ++ [[43]]) ++ [87] :: [42] :: [[50]] := by simp
    rw [this]
    exact bad_in (by decide +kernel) d
  · refine ⟨fun p hp => (by cases hp), rfl, ?_⟩
    refine not_read_pair (x := [40]) (y := [41]) (l := List.replicate d [40]) (m := List.replicate d [41]) (by decide +kernel) _ ?_
    unfold inP
    have e1 : List.replicate d ([41] : Tk) ++ [[41]] = [41] :: List.replicate d [41] := by rw [← List.replicate_succ', List.replicate_succ]
    have e2 : [40] :: List.replicate d ([40] : Tk) = List.replicate d [40] ++ [[40]] := by rw [← List.replicate_succ', List.replicate_succ]
    rw [List.append_nil, List.append_assoc, e1, ← List.cons_append, e2, List.append_assoc]
    rfl
  · omega
end
theorem catM_inP {d : Nat} {m : List Tk} : catM (inP d m) = (catM m).map (inP d) := by
  unfold inP
  rw [catM_app, catM_app, catM_ones (fun p hp => (ones_rep (c := 40) (by decide) (by decide) d p hp).1), catM_ones (fun p hp => (ones_rep (c := 41) (by decide) (by decide) d p hp).1)]
  cases catM m <;> rfl
theorem catM_on {l : List Tk} (h : Ones l) : catM l = some l := catM_ones fun p hp => (h p hp).1
theorem catM_one1 (p : Tk) : catM [p] = toks p := by
  show (toks p).bind _ = _
  cases toks p with
  | none => rfl
  | some x => show some (x ++ []) = _; rw [List.append_nil]
section
variable {l m : List Tk} {v : V3} (g : Good l v) {ch d : Nat}
include g
theorem spoil_join (hs : SpR l ch m) (hc : ch = 1 ∨ ch = 3 ∨ ch = 7) : readX (joinS (inP d m)) = none ∧ ∀ p ∈ m, Asc p ∧ p.length ≤ 10 := by
  have key : readX (joinS (inP d m)) = ((catM m).map (inP d)).bind readT := by
    unfold readX
    rw [toks_join, catM_inP]
  rw [key]
  have ol : ∀ p ∈ l, Asc p ∧ p.length ≤ 10 := fun p hp => (g.on p hp).2
  have o43 : Ones [[43]] := ones1 (c := 43) (by decide) (by decide)
  rcases hs with ⟨rfl, _⟩ | ⟨rfl, i, U, hU, rfl⟩ | ⟨rfl, _⟩ | ⟨rfl, rfl⟩ | ⟨rfl, _⟩ | ⟨rfl, _⟩ | ⟨rfl, _⟩ | ⟨rfl, U, hU, rfl⟩
  · omega
  · have t1 : Ones (l.take i) := fun p hp => g.on p (List.mem_of_mem_take hp)
    have t2 : Ones (l.drop (i + 1)) := fun p hp => g.on p (List.mem_of_mem_drop hp)
    have hsm : Asc U ∧ U.length ≤ 10 := by
      unfold bads at hU
      simp at hU
      rcases hU with rfl | rfl | rfl | rfl | rfl | rfl | rfl <;> exact ⟨fun c hc => by simp at hc; omega, by decide⟩
    refine ⟨?_, fun p hp => ?_⟩
    · have hU2 : toks U = none ∨ (toks U = some [U] ∧ cls U = 7) := by
        unfold bads at hU
        simp at hU
        rcases hU with rfl | rfl | rfl | rfl | rfl | rfl | rfl
        · exact .inr (by decide +kernel)
        · exact .inr (by decide +kernel)
        · exact .inr (by decide +kernel)
        · exact .inr (by decide +kernel)
        · exact .inr (by decide +kernel)
        · exact .inl (by decide +kernel)
        · exact .inl (by decide +kernel)
      rw [catM_app, catM_app, catM_on t1, catM_on t2, catM_one1]
      rcases hU2 with h | ⟨h, h7⟩
      · rw [h]; rfl
      · rw [h]
        show readT (inP d (l.take i ++ [U] ++ l.drop (i + 1))) = none
        rw [List.append_assoc]
        exact bad_one h7 d
    · rcases List.mem_append.mp hp with hp | hp
      · rcases List.mem_append.mp hp with hp | hp
        · exact (t1 p hp).2
        · rw [List.mem_singleton.mp hp]; exact hsm
      · exact (t2 p hp).2
  · omega
  · have o87 : Ones [[87]] := ones1 (c := 87) (by decide) (by decide)
    have ho := ones_app g.on o87
    refine ⟨?_, fun p hp => (ho p hp).2⟩
    rw [catM_on ho]
    obtain ⟨l', x, e, hx⟩ := g.last
    show readT (inP d (l ++ [[87]])) = none
    rw [e, List.append_assoc]
    exact bad_in (al_last hx (.inl (by decide))) d
  · omega
  · omega
  · omega
  · have hsm : Asc U ∧ U.length ≤ 10 := by
      unfold last7 at hU
      simp at hU
      rcases hU with rfl | rfl | rfl | rfl | rfl | rfl <;> exact ⟨fun c hc => by simp at hc; omega, by decide⟩
    have hU2 : toks U = none ∨ ∃ y r, toks U = some (y :: r) ∧ (cls y = 7 ∨ cls y = 2 ∨ cls y = 3 ∨ ∃ z r', r = z :: r' ∧ al (cls y) (cls z) = false) := by
      unfold last7 at hU
      simp at hU
      rcases hU with rfl | rfl | rfl | rfl | rfl | rfl
      · exact .inl (by decide +kernel)
      · exact .inr ⟨[110], [], by decide +kernel, .inl (by decide +kernel)⟩
      · exact .inr ⟨[87], [[87]], by decide +kernel, .inr (.inr (.inr ⟨[87], [], rfl, by decide +kernel⟩))⟩
      · exact .inr ⟨[50], [[51]], by decide +kernel, .inr (.inr (.inr ⟨[51], [], rfl, by decide +kernel⟩))⟩
      · exact .inr ⟨[45], [[49]], by decide +kernel, .inr (.inr (.inl (by decide +kernel)))⟩
      · exact .inr ⟨[43], [], by decide +kernel, .inr (.inl (by decide +kernel))⟩
    refine ⟨?_, fun p hp => ?_⟩
    · have e : catM (l ++ [[43], U]) = (toks U).map fun y => l ++ ([43] :: y) := by
        rw [show l ++ [[43], U] = (l ++ [[43]]) ++ [U] by simp, catM_app, catM_on (ones_app g.on o43), catM_one1]
        show (toks U).map _ = _
        cases toks U with
        | none => rfl
        | some y => show some (l ++ [[43]] ++ y) = some (l ++ ([43] :: y)); rw [List.append_assoc]; rfl
      rw [e]
      rcases hU2 with h | ⟨y, r, h, h3⟩
      · rw [h]; rfl
      · rw [h]
        show readT (inP d (l ++ ([43] :: y :: r))) = none
        rcases h3 with h3 | h3 | h3 | ⟨z, r', rfl, h3⟩
        · exact bad_in (by rw [h3]; rfl) d
        · exact bad_in (by rw [h3]; rfl) d
        · exact bad_in (by rw [h3]; rfl) d
        · rw [show l ++ ([43] :: y :: z :: r') = (l ++ [[43]]) ++ y :: z :: r' by simp]
          exact bad_in h3 d
    · rcases List.mem_append.mp hp with hp | hp
      · exact ol p hp
      · rcases List.mem_cons.mp hp with rfl | hp
        · exact ⟨asc1 (by decide), by decide⟩
        · rw [List.mem_singleton.mp hp]; exact hsm
end
theorem join_len : ∀ l : List Tk, (∀ p ∈ l, Asc p ∧ p.length ≤ 10) → (joinS l).length ≤ 11 * l.length ∧ Asc (joinS l)
  | [], _ => ⟨Nat.zero_le _, asc0⟩
  | [p], h => by
    have := h p List.mem_cons_self
    exact ⟨by show p.length ≤ _; simp; omega, this.1⟩
  | p :: q :: r, h => by
    obtain ⟨h1, h2⟩ := join_len (q :: r) fun x hx => h x (List.mem_cons_of_mem _ hx)
    have := h p List.mem_cons_self
    refine ⟨?_, asc_app this.1 (fun c hc => ?_)⟩
    · show (p ++ 32 :: joinS (q :: r)).length ≤ _
      rw [List.length_append, List.length_cons]
      simp only [List.length_cons] at h1 ⊢
      omega
    · rcases List.mem_cons.mp hc with rfl | hc
      · decide
      · exact h2 c hc
end K12

/-! The text with gaps; joins. -/
namespace K12
open PySem DL SX
open P12
theorem loopC_step {fg : D → DEnv → Option DEnv} {ft : FT} {fe : FE} {vs : List Nat} {d d' : D} {ds acc : List D} {e e1 e2 e3 e4 e5 : DEnv} {t : DL.T} {r : Option (List D × DEnv)} (no : noOw e = true) (h1 : fg d e = some e1) (h2 : ft e1 = .ok (true, e2)) (h3 : fe e2 = .ok (t, e3)) (h4 : escape t e3 = some (d', e4)) (h5 : noOw e4 = true) (h6 : acc.length < lim) (h7 : wipeE e4 vs = e5) (h8 : loopC fg ft fe vs ds (acc ++ [d']) e5 = r) : loopC fg ft fe vs (d :: ds) acc e = r := by
  rw [ev_loopC1, if_pos no, h1]
  show (match ft e1 with
    | .ok (true, e2) => match fe e2 with
      | .ok (t, e3) => (escape t e3).bind fun q => if noOw q.2 && decide (acc.length < lim) then loopC fg ft fe vs ds (acc ++ [q.1]) (wipeE q.2 vs) else none
      | _ => none
    | .ok (false, e2) => if noOw e2 then loopC fg ft fe vs ds acc (wipeE e2 vs) else none
    | _ => none) = r
  rw [h2]
  dsimp only
  rw [h3]
  dsimp only
  rw [h4]
  show (if noOw e4 && decide (acc.length < lim) then loopC fg ft fe vs ds (acc ++ [d']) (wipeE e4 vs) else none) = r
  rw [h5, decide_eq_true h6, h7, Bool.and_self, if_pos rfl]
  exact h8
abbrev ge (S C : D) (a b d P M : D) (x : Option B) : DEnv := [some (.sh S), some (.br C), some (.sh a), some (.sh b), some (.sh d), some (.sh P), some (.sh M), none, none, none, none, x]
theorem gaps_loop {S0 a b d P M : D} : ∀ (ps : List Tk) (acc : List D) (c s : Int), TpOk c s → acc.length + ps.length ≤ 1000 → (∀ p ∈ ps, p.length ≤ 100) → ∃ (gs : List Nat) (c' s' : Int), gs.length = ps.length ∧ (∀ g ∈ gs, g ≤ 3) ∧ TpOk c' s' ∧
    loopC (fgName 11) fYes c_law_law_0 [11] (ps.map tS) acc (ge S0 (TP c s) a b d P M none) = some (acc ++ (gz ps gs).map tS, ge S0 (TP c' s') a b d P M none)
  | [], acc, c, s, tp, _, _ => ⟨[], c, s, rfl, fun g hg => (by cases hg), tp, by rw [List.map_nil, ev_loopC0]; show _ = some (acc ++ [], _); rw [List.append_nil]⟩
  | p :: ps, acc, c, s, tp, hl, hp => by
    obtain ⟨g, c1, s1, h1, l1, t1⟩ := gap_ok tp
    rw [List.length_cons] at hl
    obtain ⟨gs, c2, s2, h2, h3, t2, h4⟩ := gaps_loop (S0 := S0) (a := a) (b := b) (d := d) (P := P) (M := M) ps (acc ++ [tS (p ++ List.replicate g 32)]) c1 s1 t1 (by rw [List.length_append, List.length_singleton]; omega) (fun q hq => hp q (List.mem_cons_of_mem _ hq))
    refine ⟨g :: gs, c2, s2, by simp [h2], fun k hk => ?_, t2, ?_⟩
    · rcases List.mem_cons.mp hk with rfl | hk
      · exact l1
      · exact h3 k hk
    · have ha := addS (f := p) (g := List.replicate g 32) (by have := hp p List.mem_cons_self; rw [List.length_replicate]; omega)
      have he : c_law_law_0 (ge S0 (TP c s) a b d P M (some (.sh (tS p)))) = .ok (.vl (tS (p ++ List.replicate g 32)), ge S0 (TP c1 s1) a b d P M (some (.sh (tS p)))) := by
        generalize tS (p ++ List.replicate g 32) = Z at *
        generalize tS (List.replicate g 32) = G at *
        generalize tS p = Q at *
        simp [c_law_law_0, h1, ha]
      rw [List.map_cons]
      refine loopC_step (e1 := ge S0 (TP c s) a b d P M (some (.sh (tS p)))) (e5 := ge S0 (TP c1 s1) a b d P M none) rfl rfl rfl he rfl rfl (by rw [ev_lim]; omega) rfl ?_
      rw [h4, List.append_assoc]
      rfl
abbrev gw (S : D) (C : D) (a b d M : D) (p x : Option B) : DEnv := [some (.sh S), some (.ow C), some (.sh a), some (.sh b), some (.sh d), p, some (.sh M), x, none, none, none, none]
theorem gaps_lc {S0 a b d M : D} {ps : List Tk} {c s : Int} (tp : TpOk c s) (hl : ps.length ≤ 900) (hp : ∀ p ∈ ps, p.length ≤ 100) : ∃ (gs : List Nat) (c' s' : Int), gs.length = ps.length ∧ (∀ g ∈ gs, g ≤ 3) ∧ TpOk c' s' ∧
    fLc (fiL (fVar 5)) (fgName 11) fYes c_law_law_0 [11] (gw S0 (TP c s) a b d M (some (.ow (lT ps))) none) = .ok (.nw (.lst ((gz ps gs).map tS)), gw S0 (TP c' s') a b d M (some (.sh (lT ps))) none) := by
  obtain ⟨gs, c', s', h1, h2, h3, h4⟩ := gaps_loop (S0 := S0) (a := a) (b := b) (d := d) (P := lT ps) (M := M) ps [] c s tp (by simp; omega) hp
  refine ⟨gs, c', s', h1, h2, h3, ?_⟩
  rw [List.nil_append] at h4
  have hfi : fiL (fVar 5) (gw S0 (TP c s) a b d M (some (.ow (lT ps))) none) = .ok (ps.map tS, gw S0 (TP c s) a b d M (some (.sh (lT ps))) none) := rfl
  unfold fLc
  rw [hfi]
  show Res.of (if clearAt (gw S0 (TP c s) a b d M (some (.sh (lT ps))) none) [11] = true then (loopC (fgName 11) fYes c_law_law_0 [11] (ps.map tS) [] (ge S0 (TP c s) a b d (lT ps) M none)).map _ else none) = _
  have hc : clearAt (gw S0 (TP c s) a b d M (some (.sh (lT ps))) none) [11] = true := rfl
  rw [if_pos hc, h4]
  rfl
theorem strsOf_S : ∀ l : List Tk, strsOf (l.map tS) = some (l.map S)
  | [] => rfl
  | p :: l => by
    show (strsOf (l.map tS)).map (fun ys => S p :: ys) = _
    rw [strsOf_S l]
    rfl
theorem sum_len : ∀ l : List Tk, ((l.map S).map (·.length)).sum = l.flatten.length
  | [] => rfl
  | p :: l => by
    rw [List.map_cons, List.map_cons, List.sum_cons, sum_len l, List.flatten_cons, List.length_append, S_len]
theorem joinL_nil : ∀ l : List Tk, TL.joinL [] l = l.flatten
  | [] => rfl
  | [p] => by show p = p ++ []; rw [List.append_nil]
  | p :: q :: r => by
    show p ++ ([] ++ TL.joinL [] (q :: r)) = p ++ (q :: r).flatten
    rw [joinL_nil (q :: r), List.nil_append]
theorem joinL_sp : ∀ l : List Tk, TL.joinL [32] l = joinS l
  | [] => rfl
  | [p] => rfl
  | p :: q :: r => by
    show p ++ ([32] ++ TL.joinL [32] (q :: r)) = p ++ 32 :: joinS (q :: r)
    rw [joinL_sp (q :: r)]
    rfl
theorem join_e {l : List Tk} (h : l.flatten.length ≤ 900000) : opJoin (Str.ofString "") (lT l) = some (.fl (tS l.flatten)) := by
  show (strsOf (l.map tS)).bind _ = _
  rw [strsOf_S]
  show (if ((l.map S).map (·.length)).sum + (l.map S).length * (Str.ofString "").length ≤ lim then some (RV.fl (D.str (Txt.join (Str.ofString "") (l.map S)))) else none) = _
  rw [sum_len, w_e, S_len, if_pos (by rw [ev_lim, List.length_nil]; omega), join_S, joinL_nil]
theorem join_sp {l : List Tk} (h : l.flatten.length + l.length ≤ 900000) : opJoin (Str.ofString " ") (lT l) = some (.fl (tS (joinS l))) := by
  show (strsOf (l.map tS)).bind _ = _
  rw [strsOf_S]
  show (if ((l.map S).map (·.length)).sum + (l.map S).length * (Str.ofString " ").length ≤ lim then some (RV.fl (D.str (Txt.join (Str.ofString " ") (l.map S)))) else none) = _
  rw [sum_len, w_sp, S_len, List.length_map, if_pos (by rw [ev_lim, List.length_singleton]; omega), join_S, joinL_sp]
end K12

/-! The law's statements. -/
namespace K12
open PySem DL SX
open P12
abbrev lw (S : D) (t c s d p m x g n : Option B) : DEnv := [some (.sh S), t, c, s, d, p, m, x, g, n, none, none]
abbrev shI (i : Int) : Option B := some (.sh (.int i))
section
variable {S T T' A A' M : D} {ch sp dp r : Int} {t p m x g n : Option B}
theorem g0 (h : m_law_tape [.sh S, .sh (.int 0)] = .ok (T, true, [.sh S, .sh (.int 0)])) : q_law_law_0 (lw S none none none none none none none none none) = .ok (.nx (lw S (some (.ow T)) none none none none none none none none)) := by simp [h]
theorem g1 (h : m_law_pick [.br T, .sh (.int 16)] = .ok (.int ch, false, [.br T', .sh (.int 16)])) : q_law_law_1 (lw S (some (.ow T)) none none none none none none none none) = .ok (.nx (lw S (some (.ow T')) (shI ch) none none none none none none none)) := by simp [h]
theorem g2 (h : m_law_pick [.br T, .sh (.int 27720)] = .ok (.int sp, false, [.br T', .sh (.int 27720)])) : q_law_law_2 (lw S (some (.ow T)) (shI ch) none none none none none none none) = .ok (.nx (lw S (some (.ow T')) (shI ch) (shI sp) none none none none none none)) := by simp [h]
theorem g3 (h : m_law_pick [.br T, .sh (.int 5)] = .ok (.int r, false, [.br T', .sh (.int 5)])) (hr : L2.atI [D.int 0, D.int 1, D.int 2, D.int 3, D.int 8] r = some (.int dp)) : q_law_law_3 (lw S (some (.ow T)) (shI ch) (shI sp) none none none none none none) = .ok (.nx (lw S (some (.ow T')) (shI ch) (shI sp) (shI dp) none none none none none)) := by simp [h, hr, -ev_atI]
theorem g4 (h : m_law_tape [.sh S, .sh (.int 1)] = .ok (T, true, [.sh S, .sh (.int 1)])) (h2 : m_law_terms [.br T] = .ok (.lst [A, M], true, [.br T'])) : q_law_law_4 (lw S t (shI ch) (shI sp) (shI dp) none none none none none) = .ok (.nx (lw S t (shI ch) (shI sp) (shI dp) (some (.sh A)) (some (.sh M)) none none none)) := by simp [h, h2, fgCons]
theorem g5t (h : ch < 8) {b : Bool} (h2 : m_law_spoilt [.sh A, .sh (.int ch), .sh (.int sp)] = .ok (A', b, [.sh A, .sh (.int ch), .sh (.int sp)])) : q_law_law_5 (lw S t (shI ch) (shI sp) (shI dp) (some (.sh A)) m none none none) = .ok (.nx (lw S t (shI ch) (shI sp) (shI dp) (some (if b then .ow A' else .sh A')) m none none none)) := by
  cases b <;> simp [h, h2]
theorem g5f (h : ¬ ch < 8) : q_law_law_5 (lw S t (shI ch) (shI sp) (shI dp) p m none none none) = .ok (.nx (lw S t (shI ch) (shI sp) (shI dp) p m none none none)) := by simp [h]
theorem g6t : q_law_law_6 (lw S t (shI 2) (shI sp) (shI dp) p m none none none) = .ok (.nx (lw S t (shI 2) (shI sp) (shI (if (7 : Int) < dp then 7 else dp)) p m none none none)) := by simp [opMin2]
theorem g6f (h : ch ≠ 2) : q_law_law_6 (lw S t (shI ch) (shI sp) (shI dp) p m none none none) = .ok (.nx (lw S t (shI ch) (shI sp) (shI dp) p m none none none)) := by
  have he : opEq (.int ch) (.int 2) = some (.fl (.bl false)) := by rw [ev_opEq, deq_II, decide_eq_false h]; rfl
  simp [he, -ev_opEq]
theorem g7 {X P Y Z W : List D} {b : Bool} (h1 : opMul (.lst [.str "("]) (.int dp) = some (.nl X)) (h2 : opAdd (.lst X) (.lst P) = some (.nl Y)) (h3 : opMul (.lst [.str ")"]) (.int dp) = some (.nl Z)) (h4 : opAdd (.lst Y) (.lst Z) = some (.nl W)) :
    q_law_law_7 (lw S t (shI ch) (shI sp) (shI dp) (some (if b then .ow (.lst P) else .sh (.lst P))) m none none none) = .ok (.nx (lw S t (shI ch) (shI sp) (shI dp) (some (.ow (.lst W))) m none none none)) := by
  cases b <;> simp [h1, h2, h3, h4, -ev_addL]
theorem g8 (h : m_law_tape [.sh S, .sh (.int 2)] = .ok (T', true, [.sh S, .sh (.int 2)])) : q_law_law_8 (lw S (some (.ow T)) (shI ch) (shI sp) (shI dp) p m none none none) = .ok (.nx (lw S (some (.ow T')) (shI ch) (shI sp) (shI dp) p m none none none)) := by simp [h]
theorem g9 {T1 T2 G J X : D} {Z P : List D} (h1 : m_law_gap [.br T] = .ok (G, false, [.br T1])) (h2 : fLc (fiL (fVar 5)) (fgName 11) fYes c_law_law_0 [11] (lw S (some (.ow T1)) (shI ch) (shI sp) (shI dp) (some (.ow (.lst P))) m none none none) = .ok (.nw (.lst Z), lw S (some (.ow T2)) (shI ch) (shI sp) (shI dp) (some (.sh (.lst P))) m none none none))
    (h3 : opJoin (Str.ofString "") (.lst Z) = some (.fl J)) (h4 : opAdd G J = some (.fl X)) : q_law_law_9 (lw S (some (.ow T)) (shI ch) (shI sp) (shI dp) (some (.ow (.lst P))) m none none none) = .ok (.nx (lw S (some (.ow T2)) (shI ch) (shI sp) (shI dp) (some (.sh (.lst P))) m (some (.sh X)) none none)) := by
  simp [h1, h2, h3, h4, -ev_fLc]
theorem noE : opNe (.lst []) (.lst []) = some (.fl (.bl false)) := by rw [ev_opNe, show dOk (.lst []) = true from ok_ints []]; rfl
theorem eqE : opEq (.lst []) (.lst []) = some (.fl (.bl true)) := by rw [ev_opEq, show dOk (.lst []) = true from ok_ints []]; rfl
theorem g10 {w : D} (h1 : m_law_wrong [.sh (.int sp)] = .ok (w, false, [.sh (.int sp)])) (h2 : m_law_told [.sh w] = .ok (.lst [], true, [.sh w])) : q_law_law_10 (lw S t (shI ch) (shI sp) (shI dp) p m x none none) = .ok (.nx (lw S t (shI ch) (shI sp) (shI dp) p m x none none)) := by
  have h3 := noE
  simp [h1, h2, h3, -ev_opNe]
theorem ni137 : dOk (.lst [.int 1, .int 3, .int 7]) = true := ok_ints [1, 3, 7]
theorem niCh {b : Bool} (h : decide (ch = 1 ∨ ch = 3 ∨ ch = 7) = b) : opNiA (.int ch) (.lst [.int 1, .int 3, .int 7]) = some (.fl (.bl (!b))) := by
  rw [ev_niA, opInA_lst, ni137]
  show some (RV.fl (D.bl (!(deq (.int 1) (.int ch) || (deq (.int 3) (.int ch) || (deq (.int 7) (.int ch) || false)))))) = _
  rw [deq_II, deq_II, deq_II, ← h, Bool.or_false]
  congr 4
  rw [Bool.eq_iff_iff]
  simp only [Bool.or_eq_true, decide_eq_true_eq]
  omega
theorem g11t {X : D} (h : ch < 8) (h1 : ¬ (ch = 1 ∨ ch = 3 ∨ ch = 7)) (h2 : m_law_told [.sh X] = .ok (.lst [], true, [.sh X])) : q_law_law_11 (lw S t (shI ch) (shI sp) (shI dp) p m (some (.sh X)) none none) = .ok (.rt (.vl (.bl true)) (lw S t (shI ch) (shI sp) (shI dp) p m (some (.sh X)) none none)) := by
  have h3 := niCh (decide_eq_false h1)
  have h4 := eqE
  simp [h, h2, h3, h4, -ev_niA, -ev_opEq]
theorem g11f (h1 : ch = 1 ∨ ch = 3 ∨ ch = 7) : q_law_law_11 (lw S t (shI ch) (shI sp) (shI dp) p m x none none) = .ok (.nx (lw S t (shI ch) (shI sp) (shI dp) p m x none none)) := by
  have h3 := niCh (decide_eq_true h1)
  have h : ch < 8 := by omega
  simp [h, h3, -ev_niA]
theorem g11n (h : ¬ ch < 8) : q_law_law_11 (lw S t (shI ch) (shI sp) (shI dp) p m x none none) = .ok (.nx (lw S t (shI ch) (shI sp) (shI dp) p m x none none)) := by simp [h]
theorem g12t {J : D} {P : List D} (h : ch < 8) (h1 : opJoin (Str.ofString " ") (.lst P) = some (.fl J)) (h2 : m_law_told [.sh J] = .ok (.lst [], true, [.sh J])) : q_law_law_12 (lw S t (shI ch) (shI sp) (shI dp) (some (.sh (.lst P))) m x none none) = .ok (.rt (.vl (.bl true)) (lw S t (shI ch) (shI sp) (shI dp) (some (.sh (.lst P))) m x none none)) := by
  have h4 := eqE
  simp [h, h1, h2, h4, -ev_opEq]
theorem g12n (h : ¬ ch < 8) : q_law_law_12 (lw S t (shI ch) (shI sp) (shI dp) p m x none none) = .ok (.nx (lw S t (shI ch) (shI sp) (shI dp) p m x none none)) := by simp [h]
theorem ne3 (a b c : Int) : opNe (.lst [.int a, .int b, .int c]) (.lst [.int a, .int b, .int c]) = some (.fl (.bl false)) := by
  rw [ev_opNe, show dOk (.lst [.int a, .int b, .int c]) = true from ok_ints [a, b, c]]
  simp
theorem eq3 (a b c : Int) : opEq (.lst [.int a, .int b, .int c]) (.lst [.int a, .int b, .int c]) = some (.fl (.bl true)) := by
  rw [ev_opEq, show dOk (.lst [.int a, .int b, .int c]) = true from ok_ints [a, b, c]]
  simp
abbrev M3 (a b c : Int) : D := .lst [.int a, .int b, .int c]
variable {a b c : Int} {X : D}
theorem g13 (h : m_law_told [.sh X] = .ok (M3 a b c, true, [.sh X])) : q_law_law_13 (lw S t (shI ch) (shI sp) (shI dp) p (some (.sh (M3 a b c))) (some (.sh X)) none none) = .ok (.nx (lw S t (shI ch) (shI sp) (shI dp) p (some (.sh (M3 a b c))) (some (.sh X)) none none)) := by
  have h3 := ne3 a b c
  simp [h, h3, -ev_opNe]
theorem g14 (h1 : mulOk a 10000000 = true) (h2 : mulOk b 10000000 = true) (h3 : mulOk c 10000000 = true) {T P : D} : q_law_law_14 (lw S (some (.ow T)) (shI ch) (shI sp) (shI dp) (some (.sh P)) (some (.sh (M3 a b c))) (some (.sh X)) none none) = .ok (.nx (lw S (some (.ow T)) (shI ch) (shI sp) (shI dp) (some (.sh P)) (some (.sh (M3 a b c))) (some (.sh X)) (some (.ow (M3 (a * 10000000 - 3) (b * 10000000 - 3) (c * 10000000 - 3)))) none)) := by
  simp [c_law_law_1, h1, h2, h3, ev_loopC1, noOw, lendE, lendB, backE, backB]
theorem g15 {u v w : Int} {Y : D} (h1 : m_Length_text [.sh (L3 u v w)] = .ok (Y, false, [.sh (L3 u v w)])) (h2 : m_law_text [.sh (M3 u v w)] = .ok (Y, false, [.sh (M3 u v w)])) (h3 : opNe Y Y = some (.fl (.bl false))) : q_law_law_15 (lw S t (shI ch) (shI sp) (shI dp) p m x (some (.ow (M3 u v w))) none) = .ok (.nx (lw S t (shI ch) (shI sp) (shI dp) p m x (some (.sh (M3 u v w))) none)) := by
  simp [make_ok, h1, h2, h3, -ev_opNe]
theorem g16 : q_law_law_16 (lw S t (shI ch) (shI sp) (shI dp) p (some (.sh (M3 a b c))) x g none) = .ok (.nx (lw S t (shI ch) (shI sp) (shI dp) p (some (.sh (M3 a b c))) x g (some (.ow (L3 a b c))))) := by
  simp [make_ok]
theorem g17 {Y : D} (h1 : m_Length_text [.sh (L3 a b c)] = .ok (Y, false, [.sh (L3 a b c)])) (h2 : m_law_text [.sh (M3 a b c)] = .ok (Y, false, [.sh (M3 a b c)])) (h3 : opEq Y Y = some (.fl (.bl true))) (h4 : m_law_told [.sh Y] = .ok (M3 a b c, true, [.sh Y])) :
    ∃ e, q_law_law_17 (lw S t (shI ch) (shI sp) (shI dp) p (some (.sh (M3 a b c))) x g (some (.ow (L3 a b c)))) = .ok (.rt (.vl (.bl true)) (some (.sh S) :: e)) := by
  have h5 := eq3 a b c
  exact ⟨_, by simp [h1, h2, h3, h4, h5, -ev_opEq]; rfl⟩
end
end K12

/-! The law. -/
namespace K12
open PySem DL SX
open P12
def Sh (l : List Tk) : Prop := ∀ p ∈ l, Asc p ∧ p.length ≤ 10
theorem sh_of {l : List Tk} (h : Ones l) : Sh l := fun p hp => (h p hp).2
theorem sh_inP {d : Nat} {m : List Tk} (h : Sh m) : Sh (inP d m) := fun p hp => by
  unfold inP at hp
  rcases List.mem_append.mp hp with hp | hp
  · rcases List.mem_append.mp hp with hp | hp
    · rw [List.eq_of_mem_replicate hp]; exact ⟨asc1 (by decide), by simp⟩
    · exact h p hp
  · rw [List.eq_of_mem_replicate hp]; exact ⟨asc1 (by decide), by simp⟩
theorem len_inP (d : Nat) (m : List Tk) : (inP d m).length = m.length + 2 * d := by
  unfold inP
  rw [List.length_append, List.length_append, List.length_replicate, List.length_replicate]; omega
theorem gp_len2 : ∀ (l : List Tk) (gs : List Nat), Sh l → (∀ g ∈ gs, g ≤ 3) → (gp l gs).length ≤ 13 * l.length ∧ Asc (gp l gs)
  | [], _, _, _ => ⟨Nat.zero_le _, asc0⟩
  | _ :: _, [], _, _ => ⟨Nat.zero_le _, asc0⟩
  | p :: ps, g :: gs, h, h2 => by
    obtain ⟨h3, h4⟩ := gp_len2 ps gs (fun q hq => h q (List.mem_cons_of_mem _ hq)) (fun q hq => h2 q (List.mem_cons_of_mem _ hq))
    have h5 := h p List.mem_cons_self
    have h6 := h2 g List.mem_cons_self
    refine ⟨?_, asc_app h5.1 (asc_app (fun c hc => by rw [List.eq_of_mem_replicate hc]; decide) h4)⟩
    show (p ++ (List.replicate g 32 ++ gp ps gs)).length ≤ _
    rw [List.length_append, List.length_append, List.length_replicate, List.length_cons]
    have := h5.2
    omega
theorem flat_len : ∀ l : List Tk, Sh l → l.flatten.length ≤ 10 * l.length
  | [], _ => Nat.zero_le _
  | p :: l, h => by
    have := flat_len l fun q hq => h q (List.mem_cons_of_mem _ hq)
    have := (h p List.mem_cons_self).2
    rw [List.flatten_cons, List.length_append, List.length_cons]
    omega
theorem fine_of {l : List Tk} (h : Sh l) (hn : l.length ≤ 1000) : Fine l := ⟨fun p hp => ⟨(h p hp).1, by have := (h p hp).2; omega⟩, by omega⟩
theorem spR_len {l m : List Tk} {ch : Nat} (h : SpR l ch m) : m.length ≤ l.length + 4 := by
  rcases h with ⟨_, i, rfl⟩ | ⟨_, i, U, _, rfl⟩ | ⟨_, h⟩ | ⟨_, rfl⟩ | ⟨_, U, _, rfl⟩ | ⟨_, rfl⟩ | ⟨_, rfl⟩ | ⟨_, U, _, rfl⟩
  · simp; omega
  · simp; omega
  · rcases h with rfl | rfl | rfl | rfl <;> simp
  · simp
  · simp
  · simp
  · simp
  · simp
theorem worth_bd {t : Tm} (h : t.amt < 2000) : (0 ≤ (worth t).1 ∧ (worth t).1 < 2000) ∧ (0 ≤ (worth t).2.1 ∧ (worth t).2.1 < 2000) ∧ (0 ≤ (worth t).2.2 ∧ (worth t).2.2 < 2000) := by
  unfold worth
  (repeat' split) <;> (simp only []; omega)
def BdN (v : V3) (B : Int) : Prop := (-B ≤ v.1 ∧ v.1 ≤ B) ∧ (-B ≤ v.2.1 ∧ v.2.1 ≤ B) ∧ (-B ≤ v.2.2 ∧ v.2.2 ≤ B)
theorem total_bd : ∀ (ts : List Tm) (acc : V3) (B : Int), BdN acc B → (∀ u ∈ ts, u.amt < 2000) → BdN (total acc ts) (B + 1999 * ts.length)
  | [], acc, B, h, _ => by
    show BdN acc (B + 1999 * ((0 : Nat) : Int))
    rw [show B + 1999 * ((0 : Nat) : Int) = B by omega]; exact h
  | t :: ts, acc, B, h, ha => by
    have hw := worth_bd (ha t List.mem_cons_self)
    have h1 : BdN (add3 acc (sg t.neg) (worth t)) (B + 1999) := by
      unfold BdN add3 at *
      simp only []
      obtain ⟨⟨a1, a2⟩, ⟨a3, a4⟩, a5, a6⟩ := h
      obtain ⟨⟨w1, w2⟩, ⟨w3, w4⟩, w5, w6⟩ := hw
      cases t.neg
      · rw [show sg false = 1 from rfl, Int.one_mul, Int.one_mul, Int.one_mul]; omega
      · rw [show sg true = -1 from rfl, Int.neg_one_mul, Int.neg_one_mul, Int.neg_one_mul]; omega
    have h2 := total_bd ts _ _ h1 fun u hu => ha u (List.mem_cons_of_mem _ hu)
    show BdN (total (add3 acc (sg t.neg) (worth t)) ts) (B + 1999 * ((ts.length + 1 : Nat) : Int))
    rw [show B + 1999 * ((ts.length + 1 : Nat) : Int) = B + 1999 + 1999 * (ts.length : Int) by omega]
    exact h2
theorem asc_txt (v : V3) : Asc (txt v) := by
  unfold txt txt3
  split
  · exact asc1 (by decide)
  · exact asc_add (asc_add (asc_add asc0 (asc1 (by decide))) (asc1 (by decide))) asc0
theorem txt_len {v : V3} (h1 : Bd v.1) (h2 : Bd v.2.1) (h3 : Bd v.2.2) : (txt v).length ≤ 200 := by
  have l1 := add_len (f := []) (l := [78]) h1 (by simp)
  have l2 := add_len (f := addT [] v.1 [78]) (l := [87]) h2 (by simp)
  have l3 := add_len (f := addT (addT [] v.1 [78]) v.2.1 [87]) (l := []) h3 (by simp)
  simp only [List.length_nil] at l1 l2 l3
  unfold txt
  split
  · simp
  · unfold txt3; omega
theorem deep_at {r : Nat} (h : (r : Int) < 5) : ∃ d0 : Nat, d0 ≤ 8 ∧ L2.atI [D.int 0, D.int 1, D.int 2, D.int 3, D.int 8] (r : Int) = some (.int (d0 : Int)) := by
  rcases (by omega : r = 0 ∨ r = 1 ∨ r = 2 ∨ r = 3 ∨ r = 4) with rfl | rfl | rfl | rfl | rfl
  · exact ⟨0, by omega, rfl⟩
  · exact ⟨1, by omega, rfl⟩
  · exact ⟨2, by omega, rfl⟩
  · exact ⟨3, by omega, rfl⟩
  · exact ⟨8, by omega, rfl⟩
theorem told_of {s : Tk} {r : Option V3} (ha : Asc s) (hs : s.length ≤ 90000) (h : readX s = r) : m_law_told [.sh (tS s)] = .ok (toldD r, true, [.sh (tS s)]) := by
  rw [← h]; exact told_ok hs ha
/-- behind the parts: the rest of the law -/
theorem rest {S0 : D} {T : D} {c s : Int} {ch sp d : Nat} {l m : List Tk} {v : V3} (g : Good l v) (hv : BdN v 9995) (hll : l.length ≤ 24) (hd : d ≤ 8) (b : Bool)
    (hm : (ch < 8 ∧ SpR l ch m) ∨ (¬ ch < 8 ∧ m = l)) (tp2 : TpOk c s) (e2 : m_law_tape [.sh S0, .sh (.int 2)] = .ok (TP c s, true, [.sh S0, .sh (.int 2)])) :
    ∃ e, k_law_law_7 (lw S0 (some (.ow T)) (shI ch) (shI sp) (shI d) (some (if b then .ow (lT m) else .sh (lT m))) (some (.sh (M3 v.1 v.2.1 v.2.2))) none none none) = .ok (.rt (.vl (.bl true)) (some (.sh S0) :: e)) := by
  have hsm : Sh m := by
    rcases hm with ⟨h, hs⟩ | ⟨_, rfl⟩
    · by_cases hc : ch = 1 ∨ ch = 3 ∨ ch = 7
      · exact (spoil_join g (d := d) hs hc).2
      · exact sh_of (spoil_gap g (d := d) hs (by omega)).1
    · exact sh_of g.on
  have hml : m.length ≤ 28 := by
    rcases hm with ⟨h, hs⟩ | ⟨_, rfl⟩
    · have := spR_len hs; omega
    · omega
  have hsW := sh_inP (d := d) hsm
  have hlW := len_inP d m
  have hP : (m.map tS).length = m.length := List.length_map _
  -- the parts
  have r1 : opMul (.lst [.str "("]) (.int (d : Nat)) = some (.nl ((List.replicate d [40]).map tS)) := by rw [w_op]; exact repS [40] (by omega)
  have r2 : opMul (.lst [.str ")"]) (.int (d : Nat)) = some (.nl ((List.replicate d [41]).map tS)) := by rw [w_cl]; exact repS [41] (by omega)
  have a1 : opAdd (.lst ((List.replicate d [40]).map tS)) (.lst (m.map tS)) = some (.nl ((List.replicate d [40]).map tS ++ m.map tS)) := addLL (by simp; omega)
  have a2 : opAdd (.lst ((List.replicate d [40]).map tS ++ m.map tS)) (.lst ((List.replicate d [41]).map tS)) = some (.nl ((inP d m).map tS)) := by
    rw [addLL (by simp; omega)]
    unfold inP
    rw [List.map_append, List.map_append]
  have q7 := g7 (S := S0) (t := some (.ow T)) (ch := (ch : Int)) (sp := (sp : Int)) (m := some (.sh (M3 v.1 v.2.1 v.2.2))) (b := b) r1 a1 r2 a2
  have q8 := g8 (S := S0) (T := T) (ch := (ch : Int)) (sp := (sp : Int)) (dp := (d : Int)) (p := some (.ow (lT (inP d m)))) (m := some (.sh (M3 v.1 v.2.1 v.2.2))) e2
  obtain ⟨g0, c1, s1, hg0, lg0, t1⟩ := gap_ok tp2
  obtain ⟨gs, c2, s2, hgs, hg3, t2, hlc⟩ := gaps_lc (S0 := S0) (a := .int (ch : Int)) (b := .int (sp : Int)) (d := .int (d : Int)) (M := M3 v.1 v.2.1 v.2.2) (ps := inP d m) t1 (by omega) (fun p hp => by have := (hsW p hp).2; omega)
  have hgl := gp_len2 (inP d m) gs hsW hg3
  have hj := join_e (l := gz (inP d m) gs) (by rw [← gp_gz]; omega)
  rw [← gp_gz] at hj
  have ha := addS (f := List.replicate g0 32) (g := gp (inP d m) gs) (by rw [List.length_replicate]; omega)
  have q9 := g9 (S := S0) (ch := (ch : Int)) (sp := (sp : Int)) (dp := (d : Int)) (m := some (.sh (M3 v.1 v.2.1 v.2.2))) hg0 hlc hj ha
  obtain ⟨w, hw, hwr, hwa, hwl⟩ := wrong_ok sp
  have q10 := g10 (S := S0) (t := some (.ow (TP c2 s2))) (ch := (ch : Int)) (dp := (d : Int)) (p := some (.sh (lT (inP d m)))) (m := some (.sh (M3 v.1 v.2.1 v.2.2))) (x := some (.sh (tS (List.replicate g0 32 ++ gp (inP d m) gs)))) hw (told_of hwa hwl hwr)
  have tA : Asc (List.replicate g0 32 ++ gp (inP d m) gs) := asc_app (fun c hc => by rw [List.eq_of_mem_replicate hc]; decide) hgl.2
  have tL : (List.replicate g0 32 ++ gp (inP d m) gs).length ≤ 90000 := by rw [List.length_append, List.length_replicate]; omega
  rcases hm with ⟨h8, hs⟩ | ⟨h8, rfl⟩
  · by_cases hc : ch = 1 ∨ ch = 3 ∨ ch = 7
    · obtain ⟨hr, _⟩ := spoil_join g (d := d) hs hc
      obtain ⟨jl, ja⟩ := join_len (inP d m) hsW
      have hfl := flat_len (inP d m) hsW
      have q11 := g11f (S := S0) (t := some (.ow (TP c2 s2))) (ch := (ch : Int)) (sp := (sp : Int)) (dp := (d : Int)) (p := some (.sh (lT (inP d m)))) (m := some (.sh (M3 v.1 v.2.1 v.2.2))) (x := some (.sh (tS (List.replicate g0 32 ++ gp (inP d m) gs)))) (by omega)
      have q12 := g12t (S := S0) (t := some (.ow (TP c2 s2))) (ch := (ch : Int)) (sp := (sp : Int)) (dp := (d : Int)) (m := some (.sh (M3 v.1 v.2.1 v.2.2))) (x := some (.sh (tS (List.replicate g0 32 ++ gp (inP d m) gs)))) (by omega) (join_sp (l := inP d m) (by omega)) (told_of ja (by omega) hr)
      exact ⟨_, seq_nx q7 (seq_nx q8 (seq_nx q9 (seq_nx q10 (seq_nx q11 (seq_rt q12)))))⟩
    · obtain ⟨ho, hsep, hr⟩ := spoil_gap g (d := d) hs (by omega)
      have hrd := read_gaps (g0 := g0) (ones_inP (d := d) ho) (sep_inP hsep) hgs
      rw [hr] at hrd
      have q11 := g11t (S := S0) (t := some (.ow (TP c2 s2))) (ch := (ch : Int)) (sp := (sp : Int)) (dp := (d : Int)) (p := some (.sh (lT (inP d m)))) (m := some (.sh (M3 v.1 v.2.1 v.2.2))) (by omega) (by omega) (told_of tA tL hrd)
      exact ⟨_, seq_nx q7 (seq_nx q8 (seq_nx q9 (seq_nx q10 (seq_rt q11))))⟩
  · have hrd := read_gaps (g0 := g0) (ones_inP (d := d) g.on) (sep_inP g.sep) hgs
    rw [g.rd d] at hrd
    have q11 := g11n (S := S0) (t := some (.ow (TP c2 s2))) (ch := (ch : Int)) (sp := (sp : Int)) (dp := (d : Int)) (p := some (.sh (lT (inP d m)))) (m := some (.sh (M3 v.1 v.2.1 v.2.2))) (x := some (.sh (tS (List.replicate g0 32 ++ gp (inP d m) gs)))) (by omega)
    have q12 := g12n (S := S0) (t := some (.ow (TP c2 s2))) (ch := (ch : Int)) (sp := (sp : Int)) (dp := (d : Int)) (p := some (.sh (lT (inP d m)))) (m := some (.sh (M3 v.1 v.2.1 v.2.2))) (x := some (.sh (tS (List.replicate g0 32 ++ gp (inP d m) gs)))) (by omega)
    have q13 := g13 (S := S0) (t := some (.ow (TP c2 s2))) (ch := (ch : Int)) (sp := (sp : Int)) (dp := (d : Int)) (p := some (.sh (lT (inP d m)))) (told_of tA tL hrd)
    obtain ⟨⟨b1, b2⟩, ⟨b3, b4⟩, b5, b6⟩ := hv
    have q14 := g14 (S := S0) (T := TP c2 s2) (ch := (ch : Int)) (sp := (sp : Int)) (dp := (d : Int)) (P := lT (inP d m)) (a := v.1) (b := v.2.1) (c := v.2.2) (X := tS (List.replicate g0 32 ++ gp (inP d m) gs)) (mulOk_of (by omega) (by omega)) (mulOk_of (by omega) (by omega)) (mulOk_of (by omega) (by omega))
    have B1 : Bd (v.1 * 10000000 - 3) := by unfold Bd; omega
    have B2 : Bd (v.2.1 * 10000000 - 3) := by unfold Bd; omega
    have B3 : Bd (v.2.2 * 10000000 - 3) := by unfold Bd; omega
    have C1 : Bd v.1 := by unfold Bd; omega
    have C2 : Bd v.2.1 := by unfold Bd; omega
    have C3 : Bd v.2.2 := by unfold Bd; omega
    have t1 := text_ok (v := (v.1 * 10000000 - 3, v.2.1 * 10000000 - 3, v.2.2 * 10000000 - 3)) B1 B2 B3
    have t2 := law_text_ok (v := (v.1 * 10000000 - 3, v.2.1 * 10000000 - 3, v.2.2 * 10000000 - 3)) B1 B2 B3
    have u1 := text_ok (v := v) C1 C2 C3
    have u2 := law_text_ok (v := v) C1 C2 C3
    have n1 : ∀ x : V3, opNe (tS (txt x)) (tS (txt x)) = some (.fl (.bl false)) := fun x => by rw [neS (asc_txt x) (asc_txt x), decide_eq_true rfl]; rfl
    have n2 : ∀ x : V3, opEq (tS (txt x)) (tS (txt x)) = some (.fl (.bl true)) := fun x => by rw [eqS (asc_txt x) (asc_txt x), decide_eq_true rfl]
    have hrt := read_txt (v := v) (by omega) (by omega) (by omega)
    have u3 := told_of (asc_txt v) (by have := txt_len C1 C2 C3; omega) hrt
    have q15 := g15 (S := S0) (t := some (.ow (TP c2 s2))) (ch := (ch : Int)) (sp := (sp : Int)) (dp := (d : Int)) (p := some (.sh (lT (inP d m)))) (m := some (.sh (M3 v.1 v.2.1 v.2.2))) (x := some (.sh (tS (List.replicate g0 32 ++ gp (inP d m) gs)))) t1 t2 (n1 _)
    have q16 := g16 (S := S0) (t := some (.ow (TP c2 s2))) (ch := (ch : Int)) (sp := (sp : Int)) (dp := (d : Int)) (p := some (.sh (lT (inP d m)))) (a := v.1) (b := v.2.1) (c := v.2.2) (x := some (.sh (tS (List.replicate g0 32 ++ gp (inP d m) gs)))) (g := some (.sh (M3 (v.1 * 10000000 - 3) (v.2.1 * 10000000 - 3) (v.2.2 * 10000000 - 3))))
    obtain ⟨e, q17⟩ := g17 (S := S0) (t := some (.ow (TP c2 s2))) (ch := (ch : Int)) (sp := (sp : Int)) (dp := (d : Int)) (p := some (.sh (lT (inP d m)))) (a := v.1) (b := v.2.1) (c := v.2.2) (x := some (.sh (tS (List.replicate g0 32 ++ gp (inP d m) gs)))) (g := some (.sh (M3 (v.1 * 10000000 - 3) (v.2.1 * 10000000 - 3) (v.2.2 * 10000000 - 3)))) u1 u2 (n2 v) u3
    exact ⟨e, seq_nx q7 (seq_nx q8 (seq_nx q9 (seq_nx q10 (seq_nx q11 (seq_nx q12 (seq_nx q13 (seq_nx q14 (seq_nx q15 (seq_nx q16 q17)))))))))⟩
theorem law_sem (ns : List Int) (hn : ns.length ≤ 63) : ∃ q, m_law_law [.sh (.rol (ns.map .int))] = .ok (.bl true, false, q) := by
  obtain ⟨c0, s0, e0, t0⟩ := tape_ok ns 0 (by omega) (by omega)
  obtain ⟨c1, s1, e1, t1⟩ := tape_ok ns 1 (by omega) (by omega)
  obtain ⟨c2, s2, e2, t2⟩ := tape_ok ns 2 (by omega) (by omega)
  generalize (D.rol (ns.map .int)) = S0 at *
  obtain ⟨ch, c3, s3, e3, l3, t3⟩ := pickN picks t0 (n := 16) (by omega) (by omega)
  obtain ⟨sp, c4, s4, e4, l4, t4⟩ := pickN picks t3 (n := 27720) (by omega) (by omega)
  obtain ⟨r, c5, s5, e5, l5, t5⟩ := pickN picks t4 (n := 5) (by omega) (by omega)
  obtain ⟨d0, hd0, hdr⟩ := deep_at l5
  obtain ⟨t, ts, c6, s6, e6, ha, hts, t6⟩ := terms_ok t1
  have g := good_head t ts ha hts
  have hll := head_len t ts
  have hv : BdN (total (0, 0, 0) (t :: ts)) 9995 := by
    have := total_bd (t :: ts) (0, 0, 0) 0 (by unfold BdN; simp) ha
    unfold BdN at *
    rw [List.length_cons] at this
    omega
  generalize total (0, 0, 0) (t :: ts) = v at *
  generalize headT (t :: ts) = l at *
  have k0 := g0 (S := S0) e0
  have k1 := g1 (S := S0) e3
  have k2 := g2 (S := S0) (ch := (ch : Int)) e4
  have k3 := g3 (S := S0) (ch := (ch : Int)) (sp := (sp : Int)) e5 hdr
  have k4 := g4 (t := some (.ow (TP c5 s5))) (ch := (ch : Int)) (sp := (sp : Int)) (dp := (d0 : Int)) e1 e6
  have fin : ∀ {e : DEnv}, b_law_law (env0 12 [.sh S0]) = .ok (.rt (.vl (.bl true)) (some (.sh S0) :: e)) → ∃ q, m_law_law [.sh S0] = .ok (.bl true, false, q) := fun h => ⟨_, fn_rt h rfl⟩
  by_cases h8 : ch < 8
  · obtain ⟨m, b, hm, hsp⟩ := spoilt_ok (s := sp) (fine_of (sh_of g.on) (by omega)) (by omega) (List.length_pos_iff.mpr g.ne) h8
    have k5 := g5t (S := S0) (t := some (.ow (TP c5 s5))) (dp := (d0 : Int)) (m := some (.sh (M3 v.1 v.2.1 v.2.2))) (show (ch : Int) < 8 by omega) hm
    by_cases h2 : ch = 2
    · subst h2
      have k6 := g6t (S := S0) (t := some (.ow (TP c5 s5))) (sp := (sp : Int)) (dp := (d0 : Int)) (p := some (if b then .ow (lT m) else .sh (lT m))) (m := some (.sh (M3 v.1 v.2.1 v.2.2)))
      have hdd : (if (7 : Int) < (d0 : Int) then 7 else (d0 : Int)) = ((min d0 7 : Nat) : Int) := by split <;> omega
      rw [hdd] at k6
      obtain ⟨e, hr⟩ := rest (T := TP c5 s5) (sp := sp) (d := min d0 7) g hv (by omega) (by omega) b (.inl ⟨h8, hsp⟩) t2 e2
      exact fin (seq_nx k0 (seq_nx k1 (seq_nx k2 (seq_nx k3 (seq_nx k4 (seq_nx k5 (seq_nx k6 hr)))))))
    · have k6 := g6f (S := S0) (t := some (.ow (TP c5 s5))) (ch := (ch : Int)) (sp := (sp : Int)) (dp := (d0 : Int)) (p := some (if b then .ow (lT m) else .sh (lT m))) (m := some (.sh (M3 v.1 v.2.1 v.2.2))) (by omega)
      obtain ⟨e, hr⟩ := rest (T := TP c5 s5) (sp := sp) (d := d0) g hv (by omega) hd0 b (.inl ⟨h8, hsp⟩) t2 e2
      exact fin (seq_nx k0 (seq_nx k1 (seq_nx k2 (seq_nx k3 (seq_nx k4 (seq_nx k5 (seq_nx k6 hr)))))))
  · have k5 := g5f (S := S0) (t := some (.ow (TP c5 s5))) (ch := (ch : Int)) (sp := (sp : Int)) (dp := (d0 : Int)) (p := some (.sh (lT l))) (m := some (.sh (M3 v.1 v.2.1 v.2.2))) (by omega)
    have k6 := g6f (S := S0) (t := some (.ow (TP c5 s5))) (ch := (ch : Int)) (sp := (sp : Int)) (dp := (d0 : Int)) (p := some (.sh (lT l))) (m := some (.sh (M3 v.1 v.2.1 v.2.2))) (by omega)
    obtain ⟨e, hr⟩ := rest (T := TP c5 s5) (sp := sp) (d := d0) g hv (by omega) hd0 false (.inr ⟨h8, rfl⟩) t2 e2
    exact fin (seq_nx k0 (seq_nx k1 (seq_nx k2 (seq_nx k3 (seq_nx k4 (seq_nx k5 (seq_nx k6 hr)))))))
end K12

/-! What the top has written; the end. Printed by emit.py. -/
namespace K12
open PySem L2 Evl DL
theorem all_mk {l : PySem.W.OpenLaw} {w : World} {K : PySem.W.Frag} {h : Heap} {mg : Str → Option Value} {fa : Addr} (X : K.In h) (G : h.Ns mainGlobals mg) (hfa : mg "law" = some (.ref fa))
    {f0 f1 f2 f3 f11 f13 f14 f15 f17 f18 f19 f20 f21 f22 f23 f24 f25 f26 f27 f28 f29 f30 f31 f32 f33 f34 p1 p2 p3 C0 C1 C15 : Addr}
    {od0 an0 od1 an1 od2 an2 od3 an3 od11 an11 od13 an13 od14 an14 od15 an15 od17 an17 od18 an18 od19 an19 od20 an20 od21 an21 od22 an22 od23 an23 od24 an24 od25 an25 od26 an26 od27 an27 od28 an28 od29 an29 od30 an30 od31 an31 od32 an32 od33 an33 od34 an34 : Option Addr} {sl0 sl1 sl2 sl3 sl11 sl13 sl14 sl15 sl17 sl18 sl19 sl20 sl21 sl22 sl23 sl24 sl25 sl26 sl27 sl28 sl29 sl30 sl31 sl32 sl33 sl34 : Array (Option Value)} {oc0 kV0 dc0 pm0 cd0 ct0 oc1 kV1 dc1 pm1 cd1 ct1 oc2 kV2 dc2 pm2 cd2 ct2 oc3 kV3 dc3 pm3 cd3 ct3 oc11 kV11 dc11 pm11 cd11 ct11 oc13 kV13 dc13 pm13 cd13 ct13 oc14 kV14 dc14 pm14 cd14 ct14 oc15 kV15 dc15 pm15 cd15 ct15 oc17 kV17 dc17 pm17 cd17 ct17 oc18 kV18 dc18 pm18 cd18 ct18 oc19 kV19 dc19 pm19 cd19 ct19 oc20 kV20 dc20 pm20 cd20 ct20 oc21 kV21 dc21 pm21 cd21 ct21 oc22 kV22 dc22 pm22 cd22 ct22 oc23 kV23 dc23 pm23 cd23 ct23 oc24 kV24 dc24 pm24 cd24 ct24 oc25 kV25 dc25 pm25 cd25 ct25 oc26 kV26 dc26 pm26 cd26 ct26 oc27 kV27 dc27 pm27 cd27 ct27 oc28 kV28 dc28 pm28 cd28 ct28 oc29 kV29 dc29 pm29 cd29 ct29 oc30 kV30 dc30 pm30 cd30 ct30 oc31 kV31 dc31 pm31 cd31 ct31 oc32 kV32 dc32 pm32 cd32 ct32 oc33 kV33 dc33 pm33 cd33 ct33 oc34 kV34 dc34 pm34 cd34 ct34 : Value}
    {kt_SMALL : Tok}
    {kt_FIGURES : Tok}
    {kt_SIGNS_0 kt_SIGNS_1 kt_SIGNS_2 kt_SIGNS_3 kt_SIGNS_4 kt_SIGNS_5 kt_SIGNS_6 kt_SIGNS_7 kt_SIGNS_8 kt_SIGNS_9 kt_SIGNS_10 kt_SIGNS_11 kt_SIGNS_12 : Tok}
    {ka_SIGNS : Addr} {kd_SIGNS : Option Addr} {kn_SIGNS : Nat} {ks_SIGNS : Array (Option Value)}
    {kt_LONGEST_NUMBER : Tok}
    {pr_1 pr_2 pr_3 : List Value}
    {m15_mul_ : Addr}
    (aC0 : PySem.W.nsIn K mainGlobals "BoardError" = some (some (.ref C0)))
    (aC1 : PySem.W.nsIn K mainGlobals "BadText" = some (some (.ref C1)))
    (aC15 : PySem.W.nsIn K mainGlobals "Length" = some (some (.ref C15)))
    (a0 : PySem.W.findIn K (.ref C15) "__init__" = some (some (.ref f0)))
    (l0 : K.lookup f0 = some ⟨oc0, od0, .func (PySem.W.fnOf "__init__" "Length.__init__" (defArgs s0) (defBody s0) (defScope s0) .none kV0 dc0 pm0 an0 cd0 ct0), sl0⟩)
    (c0 : PySem.W.codeIn K cd0 "Length.__init__" = true)
    (k0 : PySem.W.keepIn K (.ref f0) = true)
    (a1 : PySem.W.findIn K (.ref C15) "whole" = some (some (.ref p1)))
    (pr1 : PySem.W.recIn K p1 "property" = some (.ref f1 :: pr_1))
    (pget1 : PySem.W.specialIn K (.ref p1) "__get__" = some (some (.builtin "property.__get__")))
    (ptak1 : PySem.W.takesIn K (.ref p1) = some true)
    (l1 : K.lookup f1 = some ⟨oc1, od1, .func (PySem.W.fnOf "whole" "Length.whole" (defArgs s1) (defBody s1) (defScope s1) .none kV1 dc1 pm1 an1 cd1 ct1), sl1⟩)
    (c1 : PySem.W.codeIn K cd1 "Length.whole" = true)
    (k1 : PySem.W.keepIn K (.ref f1) = true)
    (a2 : PySem.W.findIn K (.ref C15) "rows" = some (some (.ref p2)))
    (pr2 : PySem.W.recIn K p2 "property" = some (.ref f2 :: pr_2))
    (pget2 : PySem.W.specialIn K (.ref p2) "__get__" = some (some (.builtin "property.__get__")))
    (ptak2 : PySem.W.takesIn K (.ref p2) = some true)
    (l2 : K.lookup f2 = some ⟨oc2, od2, .func (PySem.W.fnOf "rows" "Length.rows" (defArgs s2) (defBody s2) (defScope s2) .none kV2 dc2 pm2 an2 cd2 ct2), sl2⟩)
    (c2 : PySem.W.codeIn K cd2 "Length.rows" = true)
    (k2 : PySem.W.keepIn K (.ref f2) = true)
    (a3 : PySem.W.findIn K (.ref C15) "columns" = some (some (.ref p3)))
    (pr3 : PySem.W.recIn K p3 "property" = some (.ref f3 :: pr_3))
    (pget3 : PySem.W.specialIn K (.ref p3) "__get__" = some (some (.builtin "property.__get__")))
    (ptak3 : PySem.W.takesIn K (.ref p3) = some true)
    (l3 : K.lookup f3 = some ⟨oc3, od3, .func (PySem.W.fnOf "columns" "Length.columns" (defArgs s3) (defBody s3) (defScope s3) .none kV3 dc3 pm3 an3 cd3 ct3), sl3⟩)
    (c3 : PySem.W.codeIn K cd3 "Length.columns" = true)
    (k3 : PySem.W.keepIn K (.ref f3) = true)
    (a11 : PySem.W.findIn K (.ref C15) "__rmul__" = some (some (.ref f11)))
    (l11 : K.lookup f11 = some ⟨oc11, od11, .func (PySem.W.fnOf "__rmul__" "Length.__rmul__" (defArgs s11) (defBody s11) (defScope s11) .none kV11 dc11 pm11 an11 cd11 ct11), sl11⟩)
    (c11 : PySem.W.codeIn K cd11 "Length.__rmul__" = true)
    (k11 : PySem.W.keepIn K (.ref f11) = true)
    (a13 : PySem.W.findIn K (.ref C15) "text" = some (some (.ref f13)))
    (l13 : K.lookup f13 = some ⟨oc13, od13, .func (PySem.W.fnOf "text" "Length.text" (defArgs s13) (defBody s13) (defScope s13) .none kV13 dc13 pm13 an13 cd13 ct13), sl13⟩)
    (c13 : PySem.W.codeIn K cd13 "Length.text" = true)
    (k13 : PySem.W.keepIn K (.ref f13) = true)
    (a14 : PySem.W.nsIn K mainGlobals "term_text" = some (some (.ref f14)))
    (l14 : K.lookup f14 = some ⟨oc14, od14, .func (PySem.W.fnOf "term_text" "term_text" (defArgs s14) (defBody s14) (defScope s14) .none kV14 dc14 pm14 an14 cd14 ct14), sl14⟩)
    (c14 : PySem.W.codeIn K cd14 "term_text" = true)
    (k14 : PySem.W.keepIn K (.ref f14) = true)
    (a15 : PySem.W.nsIn K mainGlobals "joined" = some (some (.ref f15)))
    (l15 : K.lookup f15 = some ⟨oc15, od15, .func (PySem.W.fnOf "joined" "joined" (defArgs s15) (defBody s15) (defScope s15) .none kV15 dc15 pm15 an15 cd15 ct15), sl15⟩)
    (c15 : PySem.W.codeIn K cd15 "joined" = true)
    (k15 : PySem.W.keepIn K (.ref f15) = true)
    (a17 : PySem.W.nsIn K mainGlobals "width" = some (some (.ref f17)))
    (l17 : K.lookup f17 = some ⟨oc17, od17, .func (PySem.W.fnOf "width" "width" (defArgs s17) (defBody s17) (defScope s17) .none kV17 dc17 pm17 an17 cd17 ct17), sl17⟩)
    (c17 : PySem.W.codeIn K cd17 "width" = true)
    (k17 : PySem.W.keepIn K (.ref f17) = true)
    (a18 : PySem.W.nsIn K mainGlobals "squares" = some (some (.ref f18)))
    (l18 : K.lookup f18 = some ⟨oc18, od18, .func (PySem.W.fnOf "squares" "squares" (defArgs s18) (defBody s18) (defScope s18) .none kV18 dc18 pm18 an18 cd18 ct18), sl18⟩)
    (c18 : PySem.W.codeIn K cd18 "squares" = true)
    (k18 : PySem.W.keepIn K (.ref f18) = true)
    (a19 : PySem.W.nsIn K mainGlobals "word_end" = some (some (.ref f19)))
    (l19 : K.lookup f19 = some ⟨oc19, od19, .func (PySem.W.fnOf "word_end" "word_end" (defArgs s19) (defBody s19) (defScope s19) .none kV19 dc19 pm19 an19 cd19 ct19), sl19⟩)
    (c19 : PySem.W.codeIn K cd19 "word_end" = true)
    (k19 : PySem.W.keepIn K (.ref f19) = true)
    (a20 : PySem.W.nsIn K mainGlobals "parts_of" = some (some (.ref f20)))
    (l20 : K.lookup f20 = some ⟨oc20, od20, .func (PySem.W.fnOf "parts_of" "parts_of" (defArgs s20) (defBody s20) (defScope s20) .none kV20 dc20 pm20 an20 cd20 ct20), sl20⟩)
    (c20 : PySem.W.codeIn K cd20 "parts_of" = true)
    (k20 : PySem.W.keepIn K (.ref f20) = true)
    (a21 : PySem.W.nsIn K mainGlobals "number_of" = some (some (.ref f21)))
    (l21 : K.lookup f21 = some ⟨oc21, od21, .func (PySem.W.fnOf "number_of" "number_of" (defArgs s21) (defBody s21) (defScope s21) .none kV21 dc21 pm21 an21 cd21 ct21), sl21⟩)
    (c21 : PySem.W.codeIn K cd21 "number_of" = true)
    (k21 : PySem.W.keepIn K (.ref f21) = true)
    (a22 : PySem.W.nsIn K mainGlobals "term_at" = some (some (.ref f22)))
    (l22 : K.lookup f22 = some ⟨oc22, od22, .func (PySem.W.fnOf "term_at" "term_at" (defArgs s22) (defBody s22) (defScope s22) .none kV22 dc22 pm22 an22 cd22 ct22), sl22⟩)
    (c22 : PySem.W.codeIn K cd22 "term_at" = true)
    (k22 : PySem.W.keepIn K (.ref f22) = true)
    (a23 : PySem.W.nsIn K mainGlobals "sum_at" = some (some (.ref f23)))
    (l23 : K.lookup f23 = some ⟨oc23, od23, .func (PySem.W.fnOf "sum_at" "sum_at" (defArgs s23) (defBody s23) (defScope s23) .none kV23 dc23 pm23 an23 cd23 ct23), sl23⟩)
    (c23 : PySem.W.codeIn K cd23 "sum_at" = true)
    (k23 : PySem.W.keepIn K (.ref f23) = true)
    (a24 : PySem.W.nsIn K mainGlobals "length_at" = some (some (.ref f24)))
    (l24 : K.lookup f24 = some ⟨oc24, od24, .func (PySem.W.fnOf "length_at" "length_at" (defArgs s24) (defBody s24) (defScope s24) .none kV24 dc24 pm24 an24 cd24 ct24), sl24⟩)
    (c24 : PySem.W.codeIn K cd24 "length_at" = true)
    (k24 : PySem.W.keepIn K (.ref f24) = true)
    (a25 : PySem.W.nsIn K mainGlobals "read_length" = some (some (.ref f25)))
    (l25 : K.lookup f25 = some ⟨oc25, od25, .func (PySem.W.fnOf "read_length" "read_length" (defArgs s25) (defBody s25) (defScope s25) .none kV25 dc25 pm25 an25 cd25 ct25), sl25⟩)
    (c25 : PySem.W.codeIn K cd25 "read_length" = true)
    (k25 : PySem.W.keepIn K (.ref f25) = true)
    (a26 : PySem.W.nsIn K mainGlobals "_law_tape" = some (some (.ref f26)))
    (l26 : K.lookup f26 = some ⟨oc26, od26, .func (PySem.W.fnOf "_law_tape" "_law_tape" (defArgs s26) (defBody s26) (defScope s26) .none kV26 dc26 pm26 an26 cd26 ct26), sl26⟩)
    (c26 : PySem.W.codeIn K cd26 "_law_tape" = true)
    (k26 : PySem.W.keepIn K (.ref f26) = true)
    (a27 : PySem.W.nsIn K mainGlobals "_law_pick" = some (some (.ref f27)))
    (l27 : K.lookup f27 = some ⟨oc27, od27, .func (PySem.W.fnOf "_law_pick" "_law_pick" (defArgs s27) (defBody s27) (defScope s27) .none kV27 dc27 pm27 an27 cd27 ct27), sl27⟩)
    (c27 : PySem.W.codeIn K cd27 "_law_pick" = true)
    (k27 : PySem.W.keepIn K (.ref f27) = true)
    (a28 : PySem.W.nsIn K mainGlobals "_law_gap" = some (some (.ref f28)))
    (l28 : K.lookup f28 = some ⟨oc28, od28, .func (PySem.W.fnOf "_law_gap" "_law_gap" (defArgs s28) (defBody s28) (defScope s28) .none kV28 dc28 pm28 an28 cd28 ct28), sl28⟩)
    (c28 : PySem.W.codeIn K cd28 "_law_gap" = true)
    (k28 : PySem.W.keepIn K (.ref f28) = true)
    (a29 : PySem.W.nsIn K mainGlobals "_law_terms" = some (some (.ref f29)))
    (l29 : K.lookup f29 = some ⟨oc29, od29, .func (PySem.W.fnOf "_law_terms" "_law_terms" (defArgs s29) (defBody s29) (defScope s29) .none kV29 dc29 pm29 an29 cd29 ct29), sl29⟩)
    (c29 : PySem.W.codeIn K cd29 "_law_terms" = true)
    (k29 : PySem.W.keepIn K (.ref f29) = true)
    (a30 : PySem.W.nsIn K mainGlobals "_law_spoilt" = some (some (.ref f30)))
    (l30 : K.lookup f30 = some ⟨oc30, od30, .func (PySem.W.fnOf "_law_spoilt" "_law_spoilt" (defArgs s30) (defBody s30) (defScope s30) .none kV30 dc30 pm30 an30 cd30 ct30), sl30⟩)
    (c30 : PySem.W.codeIn K cd30 "_law_spoilt" = true)
    (k30 : PySem.W.keepIn K (.ref f30) = true)
    (a31 : PySem.W.nsIn K mainGlobals "_law_wrong" = some (some (.ref f31)))
    (l31 : K.lookup f31 = some ⟨oc31, od31, .func (PySem.W.fnOf "_law_wrong" "_law_wrong" (defArgs s31) (defBody s31) (defScope s31) .none kV31 dc31 pm31 an31 cd31 ct31), sl31⟩)
    (c31 : PySem.W.codeIn K cd31 "_law_wrong" = true)
    (k31 : PySem.W.keepIn K (.ref f31) = true)
    (a32 : PySem.W.nsIn K mainGlobals "_law_text" = some (some (.ref f32)))
    (l32 : K.lookup f32 = some ⟨oc32, od32, .func (PySem.W.fnOf "_law_text" "_law_text" (defArgs s32) (defBody s32) (defScope s32) .none kV32 dc32 pm32 an32 cd32 ct32), sl32⟩)
    (c32 : PySem.W.codeIn K cd32 "_law_text" = true)
    (k32 : PySem.W.keepIn K (.ref f32) = true)
    (a33 : PySem.W.nsIn K mainGlobals "_law_told" = some (some (.ref f33)))
    (l33 : K.lookup f33 = some ⟨oc33, od33, .func (PySem.W.fnOf "_law_told" "_law_told" (defArgs s33) (defBody s33) (defScope s33) .none kV33 dc33 pm33 an33 cd33 ct33), sl33⟩)
    (c33 : PySem.W.codeIn K cd33 "_law_told" = true)
    (k33 : PySem.W.keepIn K (.ref f33) = true)
    (a34 : PySem.W.nsIn K mainGlobals "law" = some (some (.ref f34)))
    (l34 : K.lookup f34 = some ⟨oc34, od34, .func (PySem.W.fnOf "law" "law" (defArgs s34) (defBody s34) (defScope s34) .none kV34 dc34 pm34 an34 cd34 ct34), sl34⟩)
    (c34 : PySem.W.codeIn K cd34 "law" = true)
    (k34 : PySem.W.keepIn K (.ref f34) = true)
    (pg15 : PySem.W.plainGet K C15 Str.empty = true)
    (hd15 : PySem.W.hasDictIn K C15 = true)
    (po15 : PySem.W.plainOver K C15 = true)
    (sa15 : PySem.W.findIn K (.ref C15) "__setattr__" = some (some (.builtin "object.__setattr__")))
    (na15_members : PySem.W.findIn K (.ref C15) "members" = some none)
    (mk15 : PySem.W.makesIn K C15 = true)
    (i0 : PySem.W.isFn K (.ref f0) = true)
    (kc15 : PySem.W.keepIn K (.ref C15) = true)
    (z_zip : PySem.W.nsIn K mainGlobals "zip" = some none)
    (z_abs : PySem.W.nsIn K mainGlobals "abs" = some none)
    (z_str : PySem.W.nsIn K mainGlobals "str" = some none)
    (z_len : PySem.W.nsIn K mainGlobals "len" = some none)
    (kg_SMALL : PySem.W.nsIn K mainGlobals "SMALL" = some (some (.str "abcdefghijklmnopqrstuvwxyz" kt_SMALL)))
    (kg_FIGURES : PySem.W.nsIn K mainGlobals "FIGURES" = some (some (.str "0123456789" kt_FIGURES)))
    (kg_SIGNS : PySem.W.nsIn K mainGlobals "SIGNS" = some (some (.ref ka_SIGNS)))
    (kl_SIGNS : K.lookup ka_SIGNS = some ⟨.type "tuple", kd_SIGNS, .seq #[.str "<<" kt_SIGNS_0, .str ">>" kt_SIGNS_1, .str "&" kt_SIGNS_2, .str "|" kt_SIGNS_3, .str "^" kt_SIGNS_4, .str "~" kt_SIGNS_5, .str "(" kt_SIGNS_6, .str ")" kt_SIGNS_7, .str "=" kt_SIGNS_8, .str "+" kt_SIGNS_9, .str "-" kt_SIGNS_10, .str "*" kt_SIGNS_11, .str "," kt_SIGNS_12] kn_SIGNS, ks_SIGNS⟩)
    (kg_LONGEST_NUMBER : PySem.W.nsIn K mainGlobals "LONGEST_NUMBER" = some (some (.int 4 kt_LONGEST_NUMBER)))
    (z_int : PySem.W.nsIn K mainGlobals "int" = some none)
    (m15_mul : PySem.W.findIn K (.ref C15) "__mul__" = some (some (.ref m15_mul_)))
    (i11 : PySem.W.isFn K (.ref f11) = true)
    (sf15 : PySem.W.selfFirst K C15 = true)
    (sj15 : PySem.W.subIn K (.ref C15) (.type "int") = some false)
    (xq1 : PySem.W.excIn K C1 [.type "ValueError", .type "Exception", .type "BaseException", .type "object"] "ValueError.__new__" = true)
    (kc1 : PySem.W.keepIn K (.ref C1) = true)
    (xb1 : PySem.W.subIn K (.ref C1) (.type "BaseException") = some true)
    (xt1 : PySem.W.typeIn K (.ref C1) = some (.type "type"))
    (z_range : PySem.W.nsIn K mainGlobals "range" = some none)
    (ty_0_BadText : PySem.W.exmOne K (.ref C0) (.ref C1) = some false)
    (ty_1_BadText : PySem.W.exmOne K (.ref C1) (.ref C1) = some true)
    (xg1 : PySem.W.findIn K (.ref C1) "__getattribute__" = some (some (.builtin "BaseException.__getattribute__")))
    (xh1 : PySem.W.findIn K (.ref C1) "__getattr__" = some none)
    (hd1 : PySem.W.hasDictIn K C1 = true)
    (ia1 : PySem.W.findIn K (.ref C1) "__class__" = some (some (.builtin "object.__class__")))
    (ib_ : PySem.W.specialIn K (.builtin "object.__class__") "__get__" = some (some (.builtin "getset_descriptor.__get__")))
    (ic_ : PySem.W.takesIn K (.builtin "object.__class__") = some true)
    (id1 : PySem.W.mroIn K C1 (.type "object") = some true)
    (ki_1_C0 : PySem.W.kitOne K (.ref C1) (.ref C0) = some true)
    (z_isinstance : PySem.W.nsIn K mainGlobals "isinstance" = some none)
    (z_min : PySem.W.nsIn K mainGlobals "min" = some none)
    (i13 : PySem.W.isFn K (.ref f13) = true)
    : ∃ fd : FuncData, (∀ (s : Shared) (v : Value), BindsTo s fd ⟨[v], []⟩ [("_law_script", v)]) ∧ ∀ base : Heap, K.In base → base.Ns mainGlobals mg → FnOk l.prog w K mg base (CX l.prog w) 9 fa fd ["_law_script"] (spLawD K) := by
  have e := hfa.symm.trans (PySem.W.mg_of X G a34)
  cases e
  have T : Tx w K mg (nthA [C0, C1, 0, 0, 0, 0, 0, 0, 0, 0, 0, 0, 0, 0, 0, C15]) (nthA [f0, f1, f2, f3, 0, 0, 0, 0, 0, 0, 0, f11, 0, f13, f14, f15, 0, f17, f18, f19, f20, f21, f22, f23, f24, f25, f26, f27, f28, f29, f30, f31, f32, f33, fa]) (nthA [0, p1, p2, p3, 0, 0, 0, 0, 0, 0, 0, 0, 0, 0, 0, 0, 0, 0, 0, 0, 0, 0, 0, 0, 0, 0, 0, 0, 0, 0, 0, 0, 0, 0, 0]) (fun i => List.getD [(PySem.W.fnOf "__init__" "Length.__init__" (defArgs s0) (defBody s0) (defScope s0) .none kV0 dc0 pm0 an0 cd0 ct0), (PySem.W.fnOf "whole" "Length.whole" (defArgs s1) (defBody s1) (defScope s1) .none kV1 dc1 pm1 an1 cd1 ct1), (PySem.W.fnOf "rows" "Length.rows" (defArgs s2) (defBody s2) (defScope s2) .none kV2 dc2 pm2 an2 cd2 ct2), (PySem.W.fnOf "columns" "Length.columns" (defArgs s3) (defBody s3) (defScope s3) .none kV3 dc3 pm3 an3 cd3 ct3), (PySem.W.fnOf "law" "law" (defArgs s34) (defBody s34) (defScope s34) .none kV34 dc34 pm34 an34 cd34 ct34), (PySem.W.fnOf "law" "law" (defArgs s34) (defBody s34) (defScope s34) .none kV34 dc34 pm34 an34 cd34 ct34), (PySem.W.fnOf "law" "law" (defArgs s34) (defBody s34) (defScope s34) .none kV34 dc34 pm34 an34 cd34 ct34), (PySem.W.fnOf "law" "law" (defArgs s34) (defBody s34) (defScope s34) .none kV34 dc34 pm34 an34 cd34 ct34), (PySem.W.fnOf "law" "law" (defArgs s34) (defBody s34) (defScope s34) .none kV34 dc34 pm34 an34 cd34 ct34), (PySem.W.fnOf "law" "law" (defArgs s34) (defBody s34) (defScope s34) .none kV34 dc34 pm34 an34 cd34 ct34), (PySem.W.fnOf "law" "law" (defArgs s34) (defBody s34) (defScope s34) .none kV34 dc34 pm34 an34 cd34 ct34), (PySem.W.fnOf "__rmul__" "Length.__rmul__" (defArgs s11) (defBody s11) (defScope s11) .none kV11 dc11 pm11 an11 cd11 ct11), (PySem.W.fnOf "law" "law" (defArgs s34) (defBody s34) (defScope s34) .none kV34 dc34 pm34 an34 cd34 ct34), (PySem.W.fnOf "text" "Length.text" (defArgs s13) (defBody s13) (defScope s13) .none kV13 dc13 pm13 an13 cd13 ct13), (PySem.W.fnOf "term_text" "term_text" (defArgs s14) (defBody s14) (defScope s14) .none kV14 dc14 pm14 an14 cd14 ct14), (PySem.W.fnOf "joined" "joined" (defArgs s15) (defBody s15) (defScope s15) .none kV15 dc15 pm15 an15 cd15 ct15), (PySem.W.fnOf "law" "law" (defArgs s34) (defBody s34) (defScope s34) .none kV34 dc34 pm34 an34 cd34 ct34), (PySem.W.fnOf "width" "width" (defArgs s17) (defBody s17) (defScope s17) .none kV17 dc17 pm17 an17 cd17 ct17), (PySem.W.fnOf "squares" "squares" (defArgs s18) (defBody s18) (defScope s18) .none kV18 dc18 pm18 an18 cd18 ct18), (PySem.W.fnOf "word_end" "word_end" (defArgs s19) (defBody s19) (defScope s19) .none kV19 dc19 pm19 an19 cd19 ct19), (PySem.W.fnOf "parts_of" "parts_of" (defArgs s20) (defBody s20) (defScope s20) .none kV20 dc20 pm20 an20 cd20 ct20), (PySem.W.fnOf "number_of" "number_of" (defArgs s21) (defBody s21) (defScope s21) .none kV21 dc21 pm21 an21 cd21 ct21), (PySem.W.fnOf "term_at" "term_at" (defArgs s22) (defBody s22) (defScope s22) .none kV22 dc22 pm22 an22 cd22 ct22), (PySem.W.fnOf "sum_at" "sum_at" (defArgs s23) (defBody s23) (defScope s23) .none kV23 dc23 pm23 an23 cd23 ct23), (PySem.W.fnOf "length_at" "length_at" (defArgs s24) (defBody s24) (defScope s24) .none kV24 dc24 pm24 an24 cd24 ct24), (PySem.W.fnOf "read_length" "read_length" (defArgs s25) (defBody s25) (defScope s25) .none kV25 dc25 pm25 an25 cd25 ct25), (PySem.W.fnOf "_law_tape" "_law_tape" (defArgs s26) (defBody s26) (defScope s26) .none kV26 dc26 pm26 an26 cd26 ct26), (PySem.W.fnOf "_law_pick" "_law_pick" (defArgs s27) (defBody s27) (defScope s27) .none kV27 dc27 pm27 an27 cd27 ct27), (PySem.W.fnOf "_law_gap" "_law_gap" (defArgs s28) (defBody s28) (defScope s28) .none kV28 dc28 pm28 an28 cd28 ct28), (PySem.W.fnOf "_law_terms" "_law_terms" (defArgs s29) (defBody s29) (defScope s29) .none kV29 dc29 pm29 an29 cd29 ct29), (PySem.W.fnOf "_law_spoilt" "_law_spoilt" (defArgs s30) (defBody s30) (defScope s30) .none kV30 dc30 pm30 an30 cd30 ct30), (PySem.W.fnOf "_law_wrong" "_law_wrong" (defArgs s31) (defBody s31) (defScope s31) .none kV31 dc31 pm31 an31 cd31 ct31), (PySem.W.fnOf "_law_text" "_law_text" (defArgs s32) (defBody s32) (defScope s32) .none kV32 dc32 pm32 an32 cd32 ct32), (PySem.W.fnOf "_law_told" "_law_told" (defArgs s33) (defBody s33) (defScope s33) .none kV33 dc33 pm33 an33 cd33 ct33), (PySem.W.fnOf "law" "law" (defArgs s34) (defBody s34) (defScope s34) .none kV34 dc34 pm34 an34 cd34 ct34)] i (PySem.W.fnOf "law" "law" (defArgs s34) (defBody s34) (defScope s34) .none kV34 dc34 pm34 an34 cd34 ct34)) := {
    F0 := fun_mk (st := s0) l0 c0 k0
    B0 := (fun_mk (st := s0) l0 c0 k0).binds (ps := ["self", "whole", "rows", "columns"]) (fun _ _ _ _ _ _ us hl => match us, hl with | [_, _, _, _], _ => rfl)
    C15 := ⟨pg15, hd15, po15, sa15⟩
    na15_members := na15_members
    F1 := fun_mk (st := s1) l1 c1 k1
    B1 := (fun_mk (st := s1) l1 c1 k1).binds (ps := ["self"]) (fun _ _ _ _ _ _ us hl => match us, hl with | [_], _ => rfl)
    F2 := fun_mk (st := s2) l2 c2 k2
    B2 := (fun_mk (st := s2) l2 c2 k2).binds (ps := ["self"]) (fun _ _ _ _ _ _ us hl => match us, hl with | [_], _ => rfl)
    F3 := fun_mk (st := s3) l3 c3 k3
    B3 := (fun_mk (st := s3) l3 c3 k3).binds (ps := ["self"]) (fun _ _ _ _ _ _ us hl => match us, hl with | [_], _ => rfl)
    F11 := fun_mk (st := s11) l11 c11 k11
    B11 := (fun_mk (st := s11) l11 c11 k11).binds (ps := ["self", "factor"]) (fun _ _ _ _ _ _ us hl => match us, hl with | [_, _], _ => rfl)
    gC15 := PySem.W.mg_of X G aC15
    M15 := ⟨mk15, a0, i0, kc15⟩
    F13 := fun_mk (st := s13) l13 c13 k13
    B13 := (fun_mk (st := s13) l13 c13 k13).binds (ps := ["self"]) (fun _ _ _ _ _ _ us hl => match us, hl with | [_], _ => rfl)
    z_zip := PySem.W.mg_none_of X G z_zip
    F14 := fun_mk (st := s14) l14 c14 k14
    B14 := (fun_mk (st := s14) l14 c14 k14).binds (ps := ["amount", "letter"]) (fun _ _ _ _ _ _ us hl => match us, hl with | [_, _], _ => rfl)
    g14 := PySem.W.mg_of X G a14
    z_abs := PySem.W.mg_none_of X G z_abs
    z_str := PySem.W.mg_none_of X G z_str
    F15 := fun_mk (st := s15) l15 c15 k15
    B15 := (fun_mk (st := s15) l15 c15 k15).binds (ps := ["first", "second", "sign"]) (fun _ _ _ _ _ _ us hl => match us, hl with | [_, _, _], _ => rfl)
    F17 := fun_mk (st := s17) l17 c17 k17
    B17 := (fun_mk (st := s17) l17 c17 k17).binds (ps := []) (fun _ _ _ _ _ _ us hl => match us, hl with | [], _ => rfl)
    F18 := fun_mk (st := s18) l18 c18 k18
    B18 := (fun_mk (st := s18) l18 c18 k18).binds (ps := []) (fun _ _ _ _ _ _ us hl => match us, hl with | [], _ => rfl)
    F19 := fun_mk (st := s19) l19 c19 k19
    B19 := (fun_mk (st := s19) l19 c19 k19).binds (ps := ["text", "start"]) (fun _ _ _ _ _ _ us hl => match us, hl with | [_, _], _ => rfl)
    z_len := PySem.W.mg_none_of X G z_len
    K_SMALL := gd_str (PySem.W.mg_of X G kg_SMALL)
    K_FIGURES := gd_str (PySem.W.mg_of X G kg_FIGURES)
    F20 := fun_mk (st := s20) l20 c20 k20
    B20 := (fun_mk (st := s20) l20 c20 k20).binds (ps := ["text"]) (fun _ _ _ _ _ _ us hl => match us, hl with | [_], _ => rfl)
    g19 := PySem.W.mg_of X G a19
    K_SIGNS := gd_tup (us := [.str "<<" kt_SIGNS_0, .str ">>" kt_SIGNS_1, .str "&" kt_SIGNS_2, .str "|" kt_SIGNS_3, .str "^" kt_SIGNS_4, .str "~" kt_SIGNS_5, .str "(" kt_SIGNS_6, .str ")" kt_SIGNS_7, .str "=" kt_SIGNS_8, .str "+" kt_SIGNS_9, .str "-" kt_SIGNS_10, .str "*" kt_SIGNS_11, .str "," kt_SIGNS_12]) (PySem.W.mg_of X G kg_SIGNS) kl_SIGNS rfl rfl (Nat.le_of_ble_eq_true rfl) (.s (.s (.s (.s (.s (.s (.s (.s (.s (.s (.s (.s (.s .z)))))))))))))
    F21 := fun_mk (st := s21) l21 c21 k21
    B21 := (fun_mk (st := s21) l21 c21 k21).binds (ps := ["part"]) (fun _ _ _ _ _ _ us hl => match us, hl with | [_], _ => rfl)
    K_LONGEST_NUMBER := gd_int (PySem.W.mg_of X G kg_LONGEST_NUMBER)
    z_int := PySem.W.mg_none_of X G z_int
    F22 := fun_mk (st := s22) l22 c22 k22
    B22 := (fun_mk (st := s22) l22 c22 k22).binds (ps := ["parts", "at"]) (fun _ _ _ _ _ _ us hl => match us, hl with | [_, _], _ => rfl)
    g18 := PySem.W.mg_of X G a18
    g17 := PySem.W.mg_of X G a17
    g21 := PySem.W.mg_of X G a21
    OR15_Mult := ⟨⟨_, m15_mul⟩, a11, i11, sf15, sj15⟩
    F23 := fun_mk (st := s23) l23 c23 k23
    B23 := (fun_mk (st := s23) l23 c23 k23).binds (ps := ["parts", "at"]) (fun _ _ _ _ _ _ us hl => match us, hl with | [_, _], _ => rfl)
    g22 := PySem.W.mg_of X G a22
    g15 := PySem.W.mg_of X G a15
    F24 := fun_mk (st := s24) l24 c24 k24
    B24 := (fun_mk (st := s24) l24 c24 k24).binds (ps := ["parts", "at"]) (fun _ _ _ _ _ _ us hl => match us, hl with | [_, _], _ => rfl)
    g23 := PySem.W.mg_of X G a23
    F25 := fun_mk (st := s25) l25 c25 k25
    B25 := (fun_mk (st := s25) l25 c25 k25).binds (ps := ["text"]) (fun _ _ _ _ _ _ us hl => match us, hl with | [_], _ => rfl)
    g20 := PySem.W.mg_of X G a20
    g24 := PySem.W.mg_of X G a24
    gC1 := PySem.W.mg_of X G aC1
    X1 := ⟨xq1, kc1, xb1, xt1⟩
    F26 := fun_mk (st := s26) l26 c26 k26
    B26 := (fun_mk (st := s26) l26 c26 k26).binds (ps := ["_law_script", "_law_k"]) (fun _ _ _ _ _ _ us hl => match us, hl with | [_, _], _ => rfl)
    F27 := fun_mk (st := s27) l27 c27 k27
    B27 := (fun_mk (st := s27) l27 c27 k27).binds (ps := ["_law_tape_here", "_law_many"]) (fun _ _ _ _ _ _ us hl => match us, hl with | [_, _], _ => rfl)
    F28 := fun_mk (st := s28) l28 c28 k28
    B28 := (fun_mk (st := s28) l28 c28 k28).binds (ps := ["_law_tape_here"]) (fun _ _ _ _ _ _ us hl => match us, hl with | [_], _ => rfl)
    g27 := PySem.W.mg_of X G a27
    F29 := fun_mk (st := s29) l29 c29 k29
    B29 := (fun_mk (st := s29) l29 c29 k29).binds (ps := ["_law_tape_here"]) (fun _ _ _ _ _ _ us hl => match us, hl with | [_], _ => rfl)
    z_range := PySem.W.mg_none_of X G z_range
    F30 := fun_mk (st := s30) l30 c30 k30
    B30 := (fun_mk (st := s30) l30 c30 k30).binds (ps := ["_law_parts", "_law_choice", "_law_spot"]) (fun _ _ _ _ _ _ us hl => match us, hl with | [_, _, _], _ => rfl)
    F31 := fun_mk (st := s31) l31 c31 k31
    B31 := (fun_mk (st := s31) l31 c31 k31).binds (ps := ["_law_kind"]) (fun _ _ _ _ _ _ us hl => match us, hl with | [_], _ => rfl)
    F32 := fun_mk (st := s32) l32 c32 k32
    B32 := (fun_mk (st := s32) l32 c32 k32).binds (ps := ["_law_members"]) (fun _ _ _ _ _ _ us hl => match us, hl with | [_], _ => rfl)
    F33 := fun_mk (st := s33) l33 c33 k33
    B33 := (fun_mk (st := s33) l33 c33 k33).binds (ps := ["_law_text_here"]) (fun _ _ _ _ _ _ us hl => match us, hl with | [_], _ => rfl)
    g25 := PySem.W.mg_of X G a25
    TR_BadText := try_mk ⟨ty_0_BadText, ty_1_BadText, trivial⟩
    gC0 := PySem.W.mg_of X G aC0
    IX0 := isx_mk ⟨⟨⟨xg1, xh1, xb1, hd1, ia1, ib_, ic_, id1⟩, ki_1_C0⟩, trivial⟩
    z_isinstance := PySem.W.mg_none_of X G z_isinstance
    P1 := ⟨a1, pget1, ptak1, _, pr1⟩
    P2 := ⟨a2, pget2, ptak2, _, pr2⟩
    P3 := ⟨a3, pget3, ptak3, _, pr3⟩
    F34 := fun_mk (st := s34) l34 c34 k34
    B34 := (fun_mk (st := s34) l34 c34 k34).binds (ps := ["_law_script"]) (fun _ _ _ _ _ _ us hl => match us, hl with | [_], _ => rfl)
    g26 := PySem.W.mg_of X G a26
    g29 := PySem.W.mg_of X G a29
    g30 := PySem.W.mg_of X G a30
    z_min := PySem.W.mg_none_of X G z_min
    g28 := PySem.W.mg_of X G a28
    g33 := PySem.W.mg_of X G a33
    g31 := PySem.W.mg_of X G a31
    Me15_13 := ⟨a13, i13, k13⟩
    g32 := PySem.W.mg_of X G a32
  }
  exact ⟨_, fun s v => .of_eq rfl, fun base _ _ => law_fn rfl (ok34 T) law_sem⟩
theorem walk {l : PySem.W.OpenLaw} {q : Program} {loose : List Str} {XP : (Str → Option Value) → Heap → Prop} {YP : World → Heap → Prop} {d : DefRec} {K : Params → PySem.W.Frag} (hn : l.most = some 63) (hdf : d.params.defaults = [])
    (hY : ∀ (w : World) (h : Heap), YP w h → (K w.params).In h)
    (F : ∀ (w : World) (mg : Str → Option Value) (fa : Addr) (h : Heap), (K w.params).In h → h.Ns mainGlobals mg → mg d.name = some (.ref fa) →
      ∃ fd : FuncData, (∀ (s : Shared) (u : Value), BindsTo s fd ⟨[u], []⟩ [("_law_script", u)]) ∧ ∀ base : Heap, (K w.params).In base → base.Ns mainGlobals mg → FnOk l.prog w (K w.params) mg base (CX l.prog w) 9 fa fd ["_law_script"] (spLawD (K w.params))) :
    PySem.W.WalkO q loose XP YP l.row.toRowW d [] (fun f vs => PySem.call f vs) :=
  L2.walk_of (n := 63) (k := 9) (x := "_law_script") (CX := fun w => CX l.prog w) (sp := fun w => spLawD (K w.params)) hn (by decide) hdf ⟨rfl, by decide, by decide⟩ hY F (fun _ _ a ns hl _ hS => ⟨a, ns, rfl, hS, hl, fun _ => rfl⟩) fun _ _ _ _ _ z => by
    obtain ⟨_, _, _, _, _, _, _, _, _, _, _, _, z⟩ := z
    exact z
end K12
open PySem PySem.W PyProof.Rows
set_option maxRecDepth 100000 in
set_option maxHeartbeats 0 in
theorem PySem.Challenge.cw_boardbits_k12_texts_of_lengths_holds : PySem.Challenge.rw_boardbits_k12_texts_of_lengths.Holds := by
  w_on; o_law; k_head; (case hw => w_witness2)
  k_fill
  refine K12.walk (l := PySem.Challenge.rw_boardbits_k12_texts_of_lengths) rfl rfl (fun w h Y => PySem.W.kIn_of Y) ?F
  case F =>
    intro w mg fa h KX G hmg
    refine' K12.all_mk KX G hmg ?aC0 ?aC1 ?aC15 ?a0 ?l0 ?c0 ?k0 ?a1 ?pr1 ?pget1 ?ptak1 ?l1 ?c1 ?k1 ?a2 ?pr2 ?pget2 ?ptak2 ?l2 ?c2 ?k2 ?a3 ?pr3 ?pget3 ?ptak3 ?l3 ?c3 ?k3 ?a11 ?l11 ?c11 ?k11 ?a13 ?l13 ?c13 ?k13 ?a14 ?l14 ?c14 ?k14 ?a15 ?l15 ?c15 ?k15 ?a17 ?l17 ?c17 ?k17 ?a18 ?l18 ?c18 ?k18 ?a19 ?l19 ?c19 ?k19 ?a20 ?l20 ?c20 ?k20 ?a21 ?l21 ?c21 ?k21 ?a22 ?l22 ?c22 ?k22 ?a23 ?l23 ?c23 ?k23 ?a24 ?l24 ?c24 ?k24 ?a25 ?l25 ?c25 ?k25 ?a26 ?l26 ?c26 ?k26 ?a27 ?l27 ?c27 ?k27 ?a28 ?l28 ?c28 ?k28 ?a29 ?l29 ?c29 ?k29 ?a30 ?l30 ?c30 ?k30 ?a31 ?l31 ?c31 ?k31 ?a32 ?l32 ?c32 ?k32 ?a33 ?l33 ?c33 ?k33 ?a34 ?l34 ?c34 ?k34 ?pg15 ?hd15 ?po15 ?sa15 ?na15_members ?mk15 ?i0 ?kc15 ?z_zip ?z_abs ?z_str ?z_len ?kg_SMALL ?kg_FIGURES ?kg_SIGNS ?kl_SIGNS ?kg_LONGEST_NUMBER ?z_int ?m15_mul ?i11 ?sf15 ?sj15 ?xq1 ?kc1 ?xb1 ?xt1 ?z_range ?ty_0_BadText ?ty_1_BadText ?xg1 ?xh1 ?hd1 ?ia1 ?ib_ ?ic_ ?id1 ?ki_1_C0 ?z_isinstance ?z_min ?i13
    (case aC0 => k_is)
    (case aC1 => k_is)
    (case aC15 => k_is)
    (case a0 => k_is)
    (case l0 => k_is)
    (case c0 => k_is)
    (case k0 => k_is)
    (case a1 => k_is)
    (case pr1 => k_is)
    (case pget1 => k_is)
    (case ptak1 => k_is)
    (case l1 => k_is)
    (case c1 => k_is)
    (case k1 => k_is)
    (case a2 => k_is)
    (case pr2 => k_is)
    (case pget2 => k_is)
    (case ptak2 => k_is)
    (case l2 => k_is)
    (case c2 => k_is)
    (case k2 => k_is)
    (case a3 => k_is)
    (case pr3 => k_is)
    (case pget3 => k_is)
    (case ptak3 => k_is)
    (case l3 => k_is)
    (case c3 => k_is)
    (case k3 => k_is)
    (case a11 => k_is)
    (case l11 => k_is)
    (case c11 => k_is)
    (case k11 => k_is)
    (case a13 => k_is)
    (case l13 => k_is)
    (case c13 => k_is)
    (case k13 => k_is)
    (case a14 => k_is)
    (case l14 => k_is)
    (case c14 => k_is)
    (case k14 => k_is)
    (case a15 => k_is)
    (case l15 => k_is)
    (case c15 => k_is)
    (case k15 => k_is)
    (case a17 => k_is)
    (case l17 => k_is)
    (case c17 => k_is)
    (case k17 => k_is)
    (case a18 => k_is)
    (case l18 => k_is)
    (case c18 => k_is)
    (case k18 => k_is)
    (case a19 => k_is)
    (case l19 => k_is)
    (case c19 => k_is)
    (case k19 => k_is)
    (case a20 => k_is)
    (case l20 => k_is)
    (case c20 => k_is)
    (case k20 => k_is)
    (case a21 => k_is)
    (case l21 => k_is)
    (case c21 => k_is)
    (case k21 => k_is)
    (case a22 => k_is)
    (case l22 => k_is)
    (case c22 => k_is)
    (case k22 => k_is)
    (case a23 => k_is)
    (case l23 => k_is)
    (case c23 => k_is)
    (case k23 => k_is)
    (case a24 => k_is)
    (case l24 => k_is)
    (case c24 => k_is)
    (case k24 => k_is)
    (case a25 => k_is)
    (case l25 => k_is)
    (case c25 => k_is)
    (case k25 => k_is)
    (case a26 => k_is)
    (case l26 => k_is)
    (case c26 => k_is)
    (case k26 => k_is)
    (case a27 => k_is)
    (case l27 => k_is)
    (case c27 => k_is)
    (case k27 => k_is)
    (case a28 => k_is)
    (case l28 => k_is)
    (case c28 => k_is)
    (case k28 => k_is)
    (case a29 => k_is)
    (case l29 => k_is)
    (case c29 => k_is)
    (case k29 => k_is)
    (case a30 => k_is)
    (case l30 => k_is)
    (case c30 => k_is)
    (case k30 => k_is)
    (case a31 => k_is)
    (case l31 => k_is)
    (case c31 => k_is)
    (case k31 => k_is)
    (case a32 => k_is)
    (case l32 => k_is)
    (case c32 => k_is)
    (case k32 => k_is)
    (case a33 => k_is)
    (case l33 => k_is)
    (case c33 => k_is)
    (case k33 => k_is)
    (case a34 => k_is)
    (case l34 => k_is)
    (case c34 => k_is)
    (case k34 => k_is)
    (case pg15 => k_is)
    (case hd15 => k_is)
    (case po15 => k_is)
    (case sa15 => k_is)
    (case na15_members => k_is)
    (case mk15 => k_is)
    (case i0 => k_is)
    (case kc15 => k_is)
    (case z_zip => k_is)
    (case z_abs => k_is)
    (case z_str => k_is)
    (case z_len => k_is)
    (case kg_SMALL => k_is)
    (case kg_FIGURES => k_is)
    (case kg_SIGNS => k_is)
    (case kl_SIGNS => k_is)
    (case kg_LONGEST_NUMBER => k_is)
    (case z_int => k_is)
    (case m15_mul => k_is)
    (case i11 => k_is)
    (case sf15 => k_is)
    (case sj15 => k_is)
    (case xq1 => kernel_rfl)
    (case kc1 => k_is)
    (case xb1 => k_is)
    (case xt1 => k_is)
    (case z_range => k_is)
    (case ty_0_BadText => kernel_rfl)
    (case ty_1_BadText => kernel_rfl)
    (case xg1 => k_is)
    (case xh1 => k_is)
    (case hd1 => k_is)
    (case ia1 => k_is)
    (case ib_ => k_is)
    (case ic_ => k_is)
    (case id1 => k_is)
    (case ki_1_C0 => kernel_rfl)
    (case z_isinstance => k_is)
    (case z_min => k_is)
    (case i13 => k_is)
#print axioms PySem.Challenge.cw_boardbits_k12_texts_of_lengths_holds

